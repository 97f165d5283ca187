import PyProof.Rows.All
import Wide.All
import OpenK.AllK
import Wide.FinOn
import HandS.TupSets
import HandS.SortRule
import HandS.SortInts
import HandS.ForMost
import HandS.Wide
import HandS.IsInst
import HandS.TupLe
import HandS.ExcCtx
import HandS.ExcIs
import HandS.ExcOwn
import HandS.WordsExc
import HandS.HotCalls
import HandS.TryOnly
import HandS.Deep
import HandS.TupAny
import HandS.Style
import HandS.Small
import HandS.Conv
import HandS.More
import KE.KDictSum
import KE.SortData
import HandS.DictEq
import PyProof.DictFindH
import PyProof.DictRoadsH
import HandS.Zip
import KE.KDictZip
import PyProof.ListNew
import PyProof.CollectWalk
import PyProof.AttrMiss
import KE.DataMinMax
import HandS.EndBits
import KE.DatumIndex
import KE.GoesRaise
import PySem.Challenge.RW_mixedmeets_k75_no_sums_written
set_option Elab.async false
set_option linter.all false
set_option maxRecDepth 100000
set_option maxHeartbeats 4000000
namespace Big
open PySem PySem.Spec PyProof.Rows L2
def X5 : Nat → Nat
  | 0 => 0
  | n + 1 => 5 * X5 n + 1
theorem X5_add (a : Nat) : ∀ n, X5 (a + n) = 5 ^ n * X5 a + X5 n
  | 0 => by simp [X5]
  | n + 1 => by
    show 5 * X5 (a + n) + 1 = 5 ^ (n + 1) * X5 a + (5 * X5 n + 1)
    rw [X5_add a n, Nat.pow_succ, Nat.mul_add]
    have : 5 * (5 ^ n * X5 a) = 5 ^ n * 5 * X5 a := by rw [← Nat.mul_assoc, Nat.mul_comm 5]
    omega
theorem five4 : ∀ n, ∃ d, 5 ^ n = 4 * d + 1
  | 0 => ⟨0, rfl⟩
  | n + 1 => by
    obtain ⟨d, h⟩ := five4 n
    exact ⟨5 * d + 1, by rw [Nat.pow_succ, h]; omega⟩
theorem odd_mul (c d : Nat) : (2 * c + 1) * (2 * d + 1) = 2 * (2 * c * d + c + d) + 1 := by
  rw [Nat.mul_add, Nat.add_mul, Nat.mul_one]
  have : 2 * c * (2 * d) = 2 * (2 * c * d) := by rw [Nat.mul_left_comm]
  omega
theorem X5_two : ∀ k, ∃ c, X5 (2 ^ k) = 2 ^ k * (2 * c + 1)
  | 0 => ⟨0, rfl⟩
  | k + 1 => by
    obtain ⟨c, h⟩ := X5_two k
    obtain ⟨d, h5⟩ := five4 (2 ^ k)
    refine ⟨2 * c * d + c + d, ?_⟩
    rw [← odd_mul, Nat.pow_succ, Nat.mul_two, X5_add, h, h5]
    have e : (4 * d + 1) * (2 ^ k * (2 * c + 1)) + 2 ^ k * (2 * c + 1) = (2 ^ k * (2 * c + 1)) * (4 * d + 1 + 1) := by rw [Nat.mul_add (2 ^ k * (2 * c + 1)) (4 * d + 1) 1, Nat.mul_one, Nat.mul_comm (4 * d + 1)]
    rw [e, show 4 * d + 1 + 1 = 2 * (2 * d + 1) by omega, ← Nat.mul_two, Nat.mul_assoc, Nat.mul_assoc, Nat.mul_left_comm (2 * c + 1) 2]
theorem X5_onto : ∀ k j, j < 2 ^ k → ∃ n, n < 2 ^ k ∧ X5 n % 2 ^ k = j
  | 0, j, h => ⟨0, by decide, by simp at h; simp [h, X5]⟩
  | k + 1, j, h => by
    have hp : 0 < 2 ^ k := Nat.pow_pos (by decide)
    rw [Nat.pow_succ] at h ⊢
    obtain ⟨n, hn, e⟩ := X5_onto k (j % 2 ^ k) (Nat.mod_lt _ hp)
    obtain ⟨c, hc⟩ := X5_two k
    generalize hN : 2 ^ k = N at *
    have ex : ∀ y, y < N * 2 → y % N = j % N → y = j ∨ (y + N) % (N * 2) = j := fun y hy hm => by
      rcases Nat.lt_or_ge y N with y1 | y1 <;> rcases Nat.lt_or_ge j N with j1 | j1
      · rw [Nat.mod_eq_of_lt y1, Nat.mod_eq_of_lt j1] at hm
        exact .inl hm
      · rw [Nat.mod_eq_of_lt y1, Nat.mod_eq_sub_mod j1, Nat.mod_eq_of_lt (by omega)] at hm
        exact .inr (by rw [Nat.mod_eq_of_lt (by omega)]; omega)
      · rw [Nat.mod_eq_of_lt j1, Nat.mod_eq_sub_mod y1, Nat.mod_eq_of_lt (by omega)] at hm
        exact .inr (by rw [Nat.mod_eq_sub_mod (by omega), Nat.mod_eq_of_lt (by omega)]; omega)
      · rw [Nat.mod_eq_sub_mod y1, Nat.mod_eq_of_lt (by omega), Nat.mod_eq_sub_mod j1, Nat.mod_eq_of_lt (by omega)] at hm
        exact .inl (by omega)
    have hy : X5 n % (N * 2) < N * 2 := Nat.mod_lt _ (by omega)
    rcases ex (X5 n % (N * 2)) hy (by rw [Nat.mod_mul_right_mod]; exact e) with z | z
    · exact ⟨n, by omega, z⟩
    · refine ⟨N + n, by omega, ?_⟩
      obtain ⟨d, h5⟩ := five4 n
      have h5' : 5 ^ n = 2 * (2 * d) + 1 := by omega
      rw [X5_add, hc, h5', Nat.mul_left_comm, odd_mul, Nat.mul_add, Nat.mul_one]
      have e2 : N * (2 * (2 * (2 * d) * c + 2 * d + c)) + N + X5 n = (X5 n + N) + N * 2 * (2 * (2 * d) * c + 2 * d + c) := by
        rw [← Nat.mul_assoc N 2]
        omega
      rw [e2, Nat.add_mul_mod_self_left, ← z, Nat.mod_add_mod]
theorem lcg_X5 (m : Nat) : ∀ n, lcgN m n = X5 n % (m + 1)
  | 0 => rfl
  | n + 1 => by
    show (lcgN m n * 5 + 1) % (m + 1) = (5 * X5 n + 1) % (m + 1)
    rw [lcg_X5 m n, Nat.mul_comm 5, Nat.add_mod, Nat.mul_mod, Nat.mod_mod, ← Nat.mul_mod, ← Nat.add_mod]
/-- the masks that come -/
def MkOk (m : Nat) : Prop := ∃ k, m + 1 = 2 ^ k ∧ 3 ≤ k ∧ k ≤ 17
theorem MkOk.le {m : Nat} (h : MkOk m) : 7 ≤ m ∧ m ≤ 131071 := by
  obtain ⟨k, e, h1, h2⟩ := h
  have a := Nat.pow_le_pow_right (n := 2) (by decide) h1
  have b := Nat.pow_le_pow_right (n := 2) (by decide) h2
  omega
theorem MkOk.odd {m : Nat} (h : MkOk m) : m % 2 = 1 := by
  obtain ⟨k, e, h1, h2⟩ := h
  obtain ⟨j, rfl⟩ : ∃ j, k = j + 1 := ⟨k - 1, by omega⟩
  rw [Nat.pow_succ] at e
  omega
theorem mk_all {m : Nat} (hm : MkOk m) {j : Nat} (hj : j ≤ m) : ∃ b, b ≤ m ∧ lcgN m b = j := by
  obtain ⟨k, e, _, _⟩ := hm
  obtain ⟨n, hn, h⟩ := X5_onto k j (by omega)
  exact ⟨n, by omega, by rw [lcg_X5, e]; exact h⟩
theorem mk_round {m : Nat} (hm : MkOk m) (n : Nat) : lcgN m (m + 1 + n) = lcgN m n := by
  obtain ⟨k, e, _, _⟩ := hm
  obtain ⟨c, hc⟩ := X5_two k
  rw [lcg_X5, lcg_X5, e, X5_add, hc, Nat.mul_left_comm, Nat.add_comm, Nat.add_mul_mod_self_left]
theorem mk_any {m : Nat} (hm : MkOk m) {i j : Nat} (hi : i ≤ m) (hj : j ≤ m) : ∃ k, k ≤ m ∧ lcgI m i k = j := by
  obtain ⟨x, hx, rfl⟩ := mk_all hm hi
  obtain ⟨y, hy, rfl⟩ := mk_all hm hj
  rcases Nat.lt_or_ge y x with c | c
  · exact ⟨m + 1 + y - x, by omega, by rw [lcgN_add, show x + (m + 1 + y - x) = m + 1 + y by omega, mk_round hm]⟩
  · exact ⟨y - x, by omega, by rw [lcgN_add, show x + (y - x) = y by omega]⟩
theorem mk_run {m : Nat} (hm : MkOk m) (h : Int) {j : Nat} (hj : j ≤ m) : ∃ n, n ≤ m + 12 ∧ runI m (SetTable.bits h) n = j := by
  obtain ⟨k, hk, e⟩ := mk_any hm (runI_le m (SetTable.bits h) 12) hj
  exact ⟨12 + k, by omega, by rw [runI_tail (bits_lt h), e]⟩
theorem in_table {m : Nat} (h : Int) (k : Nat) : way m h k ≤ m := by
  have hi : SetTable.bits h % (m + 1) ≤ m := Nat.lt_succ_iff.mp (Nat.mod_lt _ (Nat.succ_pos m))
  have r := runEnd_bd hi
  have := nth_in (m := m) k (runAt m (SetTable.bits h % (m + 1)) (SetTable.bits h)) (by
    unfold runAt
    dsimp only
    omega)
  unfold way
  omega
theorem nat_sub : ∀ {l m : List Nat}, l.Nodup → (∀ x, x ∈ l → x ∈ m) → l.length ≤ m.length
  | [], m, _, _ => Nat.zero_le _
  | x :: l, m, h, hm => by
    obtain ⟨h1, h2⟩ := List.nodup_cons.mp h
    have := nat_sub (l := l) (m := m.erase x) h2 fun y hy => (List.mem_erase_of_ne (fun z : y = x => h1 (by rw [← z]; exact hy))).mpr (hm y (List.mem_cons_of_mem _ hy))
    rw [List.length_erase_of_mem (hm x List.mem_cons_self)] at this
    have := List.length_pos_of_mem (hm x List.mem_cons_self)
    simp only [List.length_cons]
    omega
theorem lcg_inj {m i a b : Nat} (hm : MkOk m) (hi : i ≤ m) (hab : a < b) (hb : b ≤ m) : lcgI m i a ≠ lcgI m i b := fun z => by
  have ln : (((List.range (m + 1)).filter fun x => x != b).map (lcgI m i)).length < m + 1 := by
    rw [List.length_map]
    have h1 : ((List.range (m + 1)).filter fun x => x != b).length < (List.range (m + 1)).length := by
      refine Nat.lt_of_le_of_ne (List.length_filter_le _ _) fun c => ?_
      have := (List.length_filter_eq_length_iff.mp c) b (List.mem_range.mpr (by omega))
      simp at this
    rw [List.length_range] at h1
    exact h1
  obtain ⟨j, j1, j2⟩ := st_missing _ _ ln
  obtain ⟨k, k1, k2⟩ := mk_any hm hi (Nat.lt_succ_iff.mp j1)
  refine j2 (List.mem_map.mpr ?_)
  by_cases c : k = b
  · exact ⟨a, List.mem_filter.mpr ⟨List.mem_range.mpr (by omega), by simp; omega⟩, by rw [z, ← c]; exact k2⟩
  · exact ⟨k, List.mem_filter.mpr ⟨List.mem_range.mpr (by omega), by simpa using c⟩, k2⟩
structure Tab (t : SetTable) (hs : List Int) : Prop where
  up : Ris t.place.toList
  nod : t.dummies = #[]
  len : t.place.toList.length = hs.length
  msk : MkOk t.mask
  low : ∀ x, x ∈ t.place.toList → x ≤ t.mask
  met : ∀ (i : Nat) (h : Int) (j : Nat), hs[i]? = some h → t.place.toList[i]? = some j → ∃ k, way t.mask h k = j ∧ ∀ q, q < k → way t.mask h q ∈ t.place.toList
section
variable {t : SetTable} {hs : List Int}
/-- the way meets an empty slot, soon -/
theorem Tab.hole (T : Tab t hs) (hl : hs.length ≤ t.mask) (h : Int) : ∃ K, K < 10 * SetTable.turns t.mask ∧ K < 10 * (hs.length + 13) ∧ way t.mask h K ∉ t.place.toList ∧ ∀ q, q < K → way t.mask h q ∈ t.place.toList := by
  have e0 : runI t.mask (SetTable.bits h) 12 ≤ t.mask := runI_le t.mask (SetTable.bits h) 12
  obtain ⟨k, k1, k2⟩ : ∃ k, k ≤ hs.length ∧ lcgI t.mask (runI t.mask (SetTable.bits h) 12) k ∉ t.place.toList := by
    refine Classical.byContradiction fun c => ?_
    have all : ∀ k, k ≤ hs.length → lcgI t.mask (runI t.mask (SetTable.bits h) 12) k ∈ t.place.toList := fun k hk => Classical.byContradiction fun z => c ⟨k, hk, z⟩
    have nd : ((List.range (hs.length + 1)).map (lcgI t.mask (runI t.mask (SetTable.bits h) 12))).Nodup := by
      refine List.pairwise_map.mpr (List.Pairwise.imp_of_mem (fun {x y} hx hy hxy => ?_) (List.pairwise_lt_range (n := hs.length + 1)))
      have := List.mem_range.mp hy
      exact lcg_inj T.msk e0 hxy (by omega)
    have := nat_sub nd (m := t.place.toList) fun x hx => by
      obtain ⟨k, hk, rfl⟩ := List.mem_map.mp hx
      exact all k (by have := List.mem_range.mp hk; omega)
    rw [List.length_map, List.length_range, T.len] at this
    omega
  obtain ⟨k', hk', e2⟩ := run_nth t.mask (SetTable.bits h) (12 + k)
  have at_k : way t.mask h k' ∉ t.place.toList := by
    unfold way
    rw [e2]
    show runI t.mask (SetTable.bits h) (12 + k) ∉ _
    rw [runI_tail (bits_lt h)]
    exact k2
  obtain ⟨K, h1, h2, h3⟩ := st_least (p := fun q => way t.mask h q ∉ t.place.toList) k' at_k
  exact ⟨K, by unfold SetTable.turns; omega, by omega, h2, fun q hq => Classical.byContradiction fun z => h3 q hq z⟩
/-- what has this hash stands ahead of that slot -/
theorem Tab.ahead (T : Tab t hs) {h : Int} {K i j : Nat} (hK : way t.mask h K ∉ t.place.toList) (hi : hs[i]? = some h) (hj : t.place.toList[i]? = some j) : ∃ k, k < K ∧ way t.mask h k = j := by
  obtain ⟨k, e, hb⟩ := T.met i h j hi hj
  refine ⟨k, Nat.lt_of_not_le fun c => ?_, e⟩
  rcases Nat.lt_or_eq_of_le c with c | c
  · exact hK (hb K c)
  · exact hK (by rw [c, e]; exact List.mem_of_getElem? hj)
/-- a slot more -/
theorem Tab.add (T : Tab t hs) {h : Int} {K p : Nat} (hK : way t.mask h K ∉ t.place.toList) (hb : ∀ q, q < K → way t.mask h q ∈ t.place.toList) (hp : SetTable.below t.place (way t.mask h K) = p) :
    p ≤ hs.length ∧ Tab (t.put (way t.mask h K)).1 (hs.take p ++ h :: hs.drop p) := by
  have cut := below_cut T.up (way t.mask h K)
  have pl : p ≤ t.place.toList.length := by rw [← hp, Array.length_toList]; exact cut.1
  have ph : p ≤ hs.length := by rw [← T.len]; exact pl
  have new : t.place[SetTable.below t.place (way t.mask h K)]? ≠ some (way t.mask h K) := fun e => hK (List.mem_of_getElem? (by rw [Array.getElem?_toList]; exact e))
  have e1 : (t.put (way t.mask h K)).1.place.toList = t.place.toList.take p ++ way t.mask h K :: t.place.toList.drop p := by rw [put_place, hp]
  have old : ∀ x, x ∈ t.place.toList → x ∈ (t.put (way t.mask h K)).1.place.toList := fun x hx => by
    rw [e1]
    exact mem_ins.mpr (.inr hx)
  refine ⟨ph, ris_insert T.up new, put_dm T.nod _, ?_, T.msk, fun x hx => ?_, fun i g j h1 h2 => ?_⟩
  · rw [e1, len_ins _ pl, len_ins _ ph, T.len]
  · rw [e1] at hx
    rcases mem_ins.mp hx with z | z
    · rw [z]
      exact in_table h K
    · exact T.low x z
  · rw [tins_get _ ph] at h1
    rw [e1, tins_get _ pl] at h2
    have go : ∀ i, hs[i]? = some g → t.place.toList[i]? = some j → ∃ k, way t.mask g k = j ∧ ∀ q, q < k → way t.mask g q ∈ (t.put (way t.mask h K)).1.place.toList := fun i a b => by
      obtain ⟨k, e, z⟩ := T.met i g j a b
      exact ⟨k, e, fun q hq => old _ (z q hq)⟩
    rcases Nat.lt_trichotomy i p with c | c | c
    · rw [if_pos c] at h1 h2
      exact go i h1 h2
    · rw [if_neg (by omega), if_pos c] at h1 h2
      cases h1
      cases h2
      exact ⟨K, rfl, fun q hq => old _ (hb q hq)⟩
    · rw [if_neg (by omega), if_neg (by omega)] at h1 h2
      exact go (i - 1) h1 h2
theorem put_fill (T : Tab t hs) {h : Int} {K : Nat} (hK : way t.mask h K ∉ t.place.toList) : (t.put (way t.mask h K)).1.fill = hs.length + 1 := by
  have pl : SetTable.below t.place (way t.mask h K) ≤ t.place.toList.length := by rw [Array.length_toList]; exact (below_cut T.up _).1
  have e := len_ins t.place.toList pl (way t.mask h K)
  rw [← put_place, T.len, Array.length_toList] at e
  unfold SetTable.fill
  rw [e, put_dm T.nod]
  rfl
end
theorem seat {m : Nat} (hm : MkOk m) (owner : Array (Option Nat)) (h : Int) {j : Nat} (hj : j ≤ m) (hf : oAt owner j = none) :
    ∃ K, SetTable.layClean.free m owner (SetTable.turns m) (SetTable.bits h % (m + 1)) (SetTable.bits h) = some (way m h K) ∧ oAt owner (way m h K) = none ∧ ∀ q, q < K → oAt owner (way m h q) ≠ none := by
  obtain ⟨n, n1, n2⟩ := mk_run hm h hj
  have at_j : way m h (off m (SetTable.bits h % (m + 1)) (SetTable.bits h) n) = j := by
    unfold way
    rw [nth_off, itL_run]
    exact n2
  obtain ⟨K, k1, k2, k3⟩ := st_least (p := fun q => oAt owner (way m h q) = none) _ (show oAt owner (way m h (off m (SetTable.bits h % (m + 1)) (SetTable.bits h) n)) = none by rw [at_j]; exact hf)
  refine ⟨K, free_spec m owner _ n _ _ K (by unfold SetTable.turns; omega) k1 (fun q hq => ?_) (Option.isNone_iff_eq_none.mpr k2), k2, k3⟩
  exact Bool.eq_false_iff.mpr fun z => k3 q hq (Option.isNone_iff_eq_none.mp z)
theorem seated {m : Nat} (hm : MkOk m) {done : List Int} {owner : Array (Option Nat)} (W : Own m done owner) (hl : done.length ≤ m) (h : Int) :
    ∃ j, SetTable.layClean.free m owner (SetTable.turns m) (SetTable.bits h % (m + 1)) (SetTable.bits h) = some j ∧ Own m (done ++ [h]) (owner.setIfInBounds j (some done.length)) := by
  obtain ⟨ps, l1, l2⟩ := W.ps
  obtain ⟨j0, a1, a2⟩ := st_missing ps (m + 1) (by omega)
  have free0 : oAt owner j0 = none := Classical.byContradiction fun z => a2 (l2 j0 (by omega) z)
  obtain ⟨K, e1, e2, e3⟩ := seat hm owner h (Nat.lt_succ_iff.mp a1) free0
  generalize hw : way m h K = j at e1 e2
  have jm : j ≤ m := hw ▸ in_table h K
  have here := oAt_set_self (some done.length) (show j < owner.size by rw [W.sz]; omega)
  have other : ∀ i, i ≠ j → oAt (owner.setIfInBounds j (some done.length)) i = oAt owner i := fun i hi => oAt_set_ne _ hi
  have still : ∀ i, oAt owner i ≠ none → oAt (owner.setIfInBounds j (some done.length)) i ≠ none := fun i hi => by
    by_cases c : i = j
    · rw [c, here]
      simp
    · rw [other i c]
      exact hi
  refine ⟨j, e1, by rw [Array.size_setIfInBounds, W.sz], fun i k hi e => ?_, fun k hk => ?_, ⟨j :: ps, by simp [l1], fun i hi e => ?_⟩⟩
  · by_cases c : i = j
    · rw [c, here] at e
      cases e
      exact ⟨h, K, by simp, by rw [hw, c], fun q hq => still _ (e3 q hq)⟩
    · rw [other i c] at e
      obtain ⟨g, G, b1, b2, b3⟩ := W.at_ i k hi e
      exact ⟨g, G, by rw [List.getElem?_append_left (List.getElem?_eq_some_iff.mp b1).1]; exact b1, b2, fun q hq => still _ (b3 q hq)⟩
  · by_cases c : k = done.length
    · exact ⟨j, jm, by rw [here, c]⟩
    · obtain ⟨i, b1, b2⟩ := W.all k (by simp at hk; omega)
      exact ⟨i, b1, by rw [other i (fun z => by rw [z, e2] at b2; cases b2)]; exact b2⟩
  · by_cases c : i = j
    · exact c ▸ List.mem_cons_self
    · rw [other i c] at e
      exact List.mem_cons_of_mem _ (l2 i hi e)
theorem seats {m : Nat} (hm : MkOk m) : ∀ (rest done : List Int) (owner : Array (Option Nat)), Own m done owner → done.length + rest.length ≤ m →
    ∃ o2, rest.foldl (stepF m) (some (owner, done.length)) = some (o2, done.length + rest.length) ∧ Own m (done ++ rest) o2
  | [], done, owner, W, _ => ⟨owner, rfl, by simpa using W⟩
  | h :: rest, done, owner, W, hl => by
    simp only [List.length_cons] at hl
    obtain ⟨j, e, W1⟩ := seated hm W (by omega) h
    obtain ⟨o2, f, W2⟩ := seats hm rest (done ++ [h]) _ W1 (by simp; omega)
    refine ⟨o2, ?_, by simpa using W2⟩
    rw [List.foldl_cons, stepF_some e]
    simp only [List.length_append, List.length_cons, List.length_nil] at f
    simp only [List.length_cons]
    rw [f]
    congr 2
    omega
theorem laid {m : Nat} (hm : MkOk m) {hs : Array Int} (hn : hs.size ≤ m) : ∃ owner, SetTable.layClean m hs = some owner ∧ Own m hs.toList owner := by
  obtain ⟨o, f, W⟩ := seats hm hs.toList [] _ (Own.init m) (by simpa using hn)
  exact ⟨o, by rw [layClean_eq]; simp only [List.length_nil] at f; rw [f]; rfl, W⟩
theorem relaid {t : SetTable} {hs : Array Int} {wanted M : Nat} (hw : SetTable.sizeAbove wanted - 1 = M) (hM : MkOk M) (hn : hs.size ≤ M) :
    ∃ t' order, t.relaid hs wanted = some (t', order) ∧ order.toList.Perm (List.range hs.size) ∧ Tab t' (order.toList.map fun i => hs.getD i 0) ∧ t'.mask = M ∧ t'.led = t.led ∧ t'.plain = t.plain := by
  obtain ⟨owner, e, W⟩ := laid hM hn
  subst hw
  have hr := relaid_eq t hs wanted
  rw [e] at hr
  generalize SetTable.sizeAbove wanted - 1 = M at *
  have ris := ris_live (fun j => owner.getD j none) (List.range (M + 1)) (by
    unfold Ris
    first | exact List.pairwise_lt_range | exact List.pairwise_lt_range _)
  have r1 : Ris ((liveOf M owner).map (·.1)) := ris.1
  have once : ((liveOf M owner).map (·.1)).Nodup := r1.imp fun h => Nat.ne_of_lt h
  have seatOf : ∀ k, k < hs.size → k ∈ (liveOf M owner).map (·.2) := fun k hk => by
    obtain ⟨j, b1, b2⟩ := W.all k (by simpa using hk)
    exact List.mem_map.mpr ⟨(j, k), (mem_live W.sz).mpr ⟨b1, b2⟩, rfl⟩
  have many : (liveOf M owner).length = hs.size := by
    obtain ⟨ps, l1, l2⟩ := W.ps
    have a := nat_nodup_len _ ps once fun x hx => by
      obtain ⟨⟨y, k⟩, hq, rfl⟩ := List.mem_map.mp hx
      have := (mem_live W.sz).mp hq
      exact l2 y this.1 (by rw [this.2]; simp)
    have b := nat_nodup_len (List.range hs.size) ((liveOf M owner).map (·.2)) List.nodup_range fun k hk => seatOf k (List.mem_range.mp hk)
    simp at a b l1
    omega
  refine ⟨_, _, hr, perm_range _ _ (by simpa using many) (fun k hk => by simpa using seatOf k hk), ⟨r1, rfl, by simp [tabOf], hM, fun x hx => ?_, fun i h j h1 h2 => ?_⟩, rfl, rfl, rfl⟩
  · have hx : x ∈ (liveOf M owner).map (·.1) := hx
    obtain ⟨⟨y, k⟩, hq, rfl⟩ := List.mem_map.mp hx
    exact ((mem_live W.sz).mp hq).1
  · have h1 : (((liveOf M owner).map (·.2)).map fun i => hs.getD i 0)[i]? = some h := h1
    have h2 : ((liveOf M owner).map (·.1))[i]? = some j := h2
    rw [List.map_map, List.getElem?_map] at h1
    rw [List.getElem?_map] at h2
    obtain ⟨⟨y, k⟩, hq, rfl⟩ := Option.map_eq_some_iff.mp h2
    rw [hq] at h1
    have h1 : hs.getD k 0 = h := Option.some.inj h1
    obtain ⟨b1, b2⟩ := (mem_live W.sz).mp (List.mem_of_getElem? hq)
    obtain ⟨g, K, c1, c2, c3⟩ := W.at_ y k b1 b2
    have eg : g = h := by
      rw [← h1, Array.getD_eq_getD_getElem?, ← Array.getElem?_toList, c1]
      rfl
    subst eg
    refine ⟨K, c2, fun q hq => ?_⟩
    show way M g q ∈ (liveOf M owner).map (·.1)
    cases z : oAt owner (way M g q) with
    | none => exact absurd z (c3 q hq)
    | some k2 => exact List.mem_map.mpr ⟨(way M g q, k2), (mem_live W.sz).mpr ⟨in_table g q, z⟩, rfl⟩
end Big
namespace Big
open PySem PySem.Spec PyProof.Rows L2
section
variable {P : Program} {w : World} {A : Around} {E : Value → Shared → Prop} {s : Shared} {a : Addr} {L : List (Addr × List Int)} {es : Array (Int × Value)} {ep : Nat} {t : SetTable}
abbrev hsh (P : Program) (w : World) (L : List (Addr × List Int)) : List Int := L.map fun p => thash P w p.2
/-- the set at a has the tuples L -/
structure SetB (P : Program) (w : World) (h : Heap) (a : Addr) (L : List (Addr × List Int)) (es : Array (Int × Value)) (ep : Nat) (t : SetTable) : Prop where
  stands : ∃ o, h.get? a = some o ∧ o.ExactSet ∧ o.data = .set es ep t
  ent : es.toList = rowsOf P w L
  tb : Tab t (hsh P w L)
  one : (L.map (·.2)).Nodup
  tp : ∀ p, p ∈ L → IsT P w h p.2 p.1
  pln : t.plain = true
  ld : w.params.followText "set-order" = true ∨ t.led = true
  rm : L.length * 5 < t.mask * 3
theorem ent_len (h : es.toList = rowsOf P w L) : es.size = L.length := by
  have := congrArg List.length h
  simpa [rowsOf] using this
theorem ent_at (h : es.toList = rowsOf P w L) {i : Nat} {p : Addr × List Int} (hp : L[i]? = some p) : es[i]? = some (thash P w p.2, Value.ref p.1) := by
  rw [← Array.getElem?_toList, h]
  simp [rowsOf, hp]
theorem fits_of (h1 : t.dummies = #[]) (h2 : t.place.toList.length = L.length) (h3 : es.size = L.length) (h4 : L.length ≤ t.mask) : t.fits es.size = true := by
  rw [Array.length_toList] at h2
  simp [SetTable.fits, SetTable.fill, h1, h2, h3, h4]
theorem SetB.fits (R : SetB P w s.heap a L es ep t) : t.fits es.size = true := by
  have h2 := R.tb.len
  rw [List.length_map] at h2
  exact fits_of R.tb.nod h2 (ent_len R.ent) (by have := R.rm; omega)
/-- the c-th step of the way of a hash -/
abbrev stp (t : SetTable) (g : Int) (c : Nat) : SetTable.Probe := nth t.mask (runAt t.mask (SetTable.bits g % (t.mask + 1)) (SetTable.bits g)) c
theorem stp_more (t : SetTable) (g : Int) (c q : Nat) : nth t.mask (stp t g c) q = stp t g (c + q) := (nth_add t.mask c _ q).symm
theorem stp_dummy (t : SetTable) (g : Int) (c : Nat) : (stp t g c).dummy = none := by
  unfold stp
  induction c with
  | zero => rfl
  | succ c ih =>
    rw [nth_succ]
    unfold adv
    split <;> exact ih
/-- the search, from the c-th step on -/
theorem look_from (R : SetB P w s.heap a L es ep t) {x : Addr} {k : List Int} {g : Int} (hg : g = thash P w k) (hx : IsT P w s.heap k x) (hu : A.units < cLine) {K : Nat} (hf : K < 10 * SetTable.turns t.mask)
    (hK : way t.mask g K ∉ t.place.toList) (hB : ∀ c, c < K → way t.mask g c ∈ t.place.toList) {Q : SetFound → Shared → Prop} (yes : k ∈ L.map (·.2) → Q (.there none) s) (no : k ∉ L.map (·.2) → Q (.free (way t.mask g K) false) s) :
    ∀ (f c : Nat) (st : Option SetTable.Probe), st.getD (t.probeStart g) = stp t g c → c ≤ K → K - c < f →
      (∀ (i : Nat) (p : Addr × List Int), L[i]? = some p → p.2 = k → ∃ c', c ≤ c' ∧ c' < K ∧ t.place.toList[i]? = some (way t.mask g c')) →
      wpAny (model P w) A (setSearchFrom a (.ref x) g true f st) Q E s := by
  obtain ⟨o, ho, _, hd⟩ := R.stands
  intro f
  induction f with
  | zero => intro c st _ _ h _; omega
  | succ f ih =>
    intro c st hst hc hfu left
    have hsh : ∀ (i : Nat) (p : Addr × List Int), L[i]? = some p → (es[i]?.map (·.1)).getD 0 = thash P w p.2 := fun i p hp => by
      rw [ent_at R.ent hp]
      rfl
    rw [setSearchFrom_succ]
    refine wpAny_bind (wpAny_setState_of ho hd R.fits ?_)
    dsimp only
    refine wp_if_neg (show ¬ t.gaveWay = true by unfold SetTable.gaveWay; rw [R.tb.msk.odd]; decide) ?_
    try refine wpAny_bind (wpAny_pure ?_)
    have met := go_spec t R.tb.up R.tb.nod (fun i => (es[i]?.map (·.1)).getD 0) g (10 * SetTable.turns t.mask) (K - c) (stp t g c) (stp_dummy t g c) (by omega) (fun q hq => by rw [stp_more]; exact hB (c + q) (by omega)) (by rw [stp_more, Nat.add_sub_cancel' hc]; exact hK)
    have pr : t.probe (fun i => (es[i]?.map (·.1)).getD 0) g (st.getD (t.probeStart g)) = SetTable.probe.go t (fun i => (es[i]?.map (·.1)).getD 0) g (10 * SetTable.turns t.mask) (stp t g c) := by rw [hst]; rfl
    simp only [stp_more] at met
    rcases met with ⟨q, i, hq, hi, hh, fresh, e⟩ | ⟨fresh, e⟩
    · rw [pr, e]
      dsimp only
      have il : i < L.length := by
        have := (List.getElem?_eq_some_iff.mp hi).1
        rw [R.tb.len, List.length_map] at this
        exact this
      obtain ⟨p, hp⟩ : ∃ p, L[i]? = some p := ⟨_, List.getElem?_eq_getElem il⟩
      have pm : p ∈ L := List.mem_of_getElem? hp
      have live : t.slot (way t.mask g (c + q)) = .live i := slot_live R.tb.up hi
      have go : wpAny (model P w) A (searchRest a (.ref x) g true f es t (stp t g (c + q)).j i (stp t g (c + (q + 1)))) Q E s := by
        unfold searchRest
        rw [ent_at R.ent hp]
        dsimp only
        refine wpAny_bind (wpAny_holding (wpAny_eqBool_tuple hu (R.tp p pm) hx (wpAny_bind (wpAny_setState_of ho hd R.fits ?_))))
        dsimp only
        by_cases ek : p.2 = k
        · exact wp_if_pos (by simp [ek]) (wpAny_pure (yes (List.mem_map.mpr ⟨p, pm, ek⟩)))
        · refine wp_if_neg (by simp [ek]) ?_
          try refine wpAny_bind (wpAny_pure ?_)
          rw [sameMem]
          dsimp only
          have live2 : t.slot (stp t g (c + q)).j = .live i := live
          simp only [if_true, live2, ent_at R.ent hp]
          refine wpAny_bind (wpAny_isSame_ref_self (wpAny_bind (wpAny_pure ?_)))
          simp only [if_true]
          refine wp_if_neg (by simp [ek]) (ih (c + (q + 1)) _ rfl (by omega) (by omega) fun i0 p0 h0 k0 => ?_)
          obtain ⟨c', l1, l2, l3⟩ := left i0 p0 h0 k0
          refine ⟨c', Nat.le_of_not_lt fun z => ?_, l2, l3⟩
          rcases Nat.lt_or_eq_of_le (show c' ≤ c + q by omega) with z | z
          · refine fresh (c' - c) i0 (by omega) (by rw [Nat.add_sub_cancel' l1]; exact l3) ?_
            rw [hsh i0 p0 h0, k0, hg]
          · rw [z] at l3
            have l4 := slot_live R.tb.up l3
            rw [live] at l4
            cases l4
            rw [hp] at h0
            cases h0
            exact ek k0
      by_cases led : t.led = true
      · refine wp_if_neg (by simp [led]) ?_
        try refine wpAny_bind (wpAny_pure ?_)
        exact go
      · refine wp_if_pos (by simp [led]) (wpAny_bind (seen_tup hx (fun y hy => ?_) ?_))
        · obtain ⟨e, he, rfl⟩ := List.mem_map.mp hy
          have he2 : e ∈ es.toList := by
            have : e ∈ es ∧ e.1 = g := by simpa using he
            simpa using this.1
          rw [R.ent] at he2
          obtain ⟨p2, hp2, rfl⟩ := List.mem_map.mp he2
          exact ⟨p2.2, p2.1, rfl, R.tp p2 hp2⟩
        · refine wp_if_neg (by decide) ?_
          try refine wpAny_bind (wpAny_pure ?_)
          exact go
    · rw [pr, e]
      dsimp only
      have eK : (stp t g (c + (K - c))).j = way t.mask g K := by rw [Nat.add_sub_cancel' hc]
      rw [eK]
      refine wpAny_pure (no fun hm => ?_)
      obtain ⟨p0, m0, k0⟩ := List.mem_map.mp hm
      obtain ⟨i0, l0, e0⟩ := List.getElem_of_mem m0
      have h0 : L[i0]? = some p0 := by rw [List.getElem?_eq_getElem l0, e0]
      obtain ⟨c', l1, l2, l3⟩ := left i0 p0 h0 k0
      refine fresh (c' - c) i0 (by omega) (by rw [Nat.add_sub_cancel' l1]; exact l3) ?_
      rw [hsh i0 p0 h0, k0, hg]
theorem look (R : SetB P w s.heap a L es ep t) (ml : L.length ≤ 9900) {x : Addr} {k : List Int} (hx : IsT P w s.heap k x) (hu : A.units < cLine) {Q : SetFound → Shared → Prop} (yes : k ∈ L.map (·.2) → Q (.there none) s)
    (no : ∀ K, k ∉ L.map (·.2) → way t.mask (thash P w k) K ∉ t.place.toList → (∀ c, c < K → way t.mask (thash P w k) c ∈ t.place.toList) → Q (.free (way t.mask (thash P w k) K) false) s) :
    wpAny (model P w) A (setSearch a (.ref x) (thash P w k) true) Q E s := by
  obtain ⟨K, b, b2, hK, hB⟩ := R.tb.hole (by have := R.rm; rw [List.length_map]; omega) (thash P w k)
  have big := R.tb.msk.le
  unfold setSearch
  refine look_from R rfl hx hu b hK hB yes (fun z => no K z hK hB) 100000 0 none rfl (Nat.zero_le _) (by rw [List.length_map] at b2; omega) fun i p hp hk => ?_
  have hi : (hsh P w L)[i]? = some (thash P w k) := by simp [hp, hk]
  have il : i < t.place.toList.length := by
    rw [R.tb.len, List.length_map]
    exact (List.getElem?_eq_some_iff.mp hp).1
  obtain ⟨c, c1, c2⟩ := R.tb.ahead hK hi (List.getElem?_eq_getElem il)
  exact ⟨c, Nat.zero_le _, c1, by rw [List.getElem?_eq_getElem il, c2]⟩
theorem size_go (n : Nat) : ∀ (f j : Nat), n < 2 ^ (j + f) → ∃ k, j ≤ k ∧ SetTable.sizeAbove.go n f (2 ^ j) = 2 ^ k ∧ n < 2 ^ k ∧ (k = j ∨ 2 ^ k ≤ 2 * n)
  | 0, j, h => ⟨j, Nat.le_refl _, rfl, h, .inl rfl⟩
  | f + 1, j, h => by
    unfold SetTable.sizeAbove.go
    by_cases c : 2 ^ j ≤ n
    · rw [if_pos c, ← Nat.pow_succ]
      obtain ⟨k, h1, h2, h3, h4⟩ := size_go n f (j + 1) (by rw [show j + 1 + f = j + (f + 1) by omega]; exact h)
      refine ⟨k, by omega, h2, h3, .inr ?_⟩
      rcases h4 with rfl | h4
      · rw [Nat.pow_succ]
        omega
      · exact h4
    · rw [if_neg c]
      exact ⟨j, Nat.le_refl _, rfl, by omega, .inl rfl⟩
theorem size_next {m n : Nat} (hm : MkOk m) (h1 : n * 5 < m * 3) (h2 : (n + 1) * 5 ≥ m * 3) (h3 : n + 1 ≤ 20000) : ∃ M, SetTable.sizeAbove (SetTable.grown (n + 1)) = M + 1 ∧ MkOk M ∧ (n + 1) * 5 < M * 3 := by
  obtain ⟨j, e, j1, j2⟩ := hm
  have hj : j ≤ 15 := by
    apply Classical.byContradiction
    intro c
    have := Nat.pow_le_pow_right (n := 2) (by decide) (show 16 ≤ j by omega)
    omega
  have big := Nat.pow_le_pow_right (n := 2) (by decide) j1
  have g : SetTable.grown (n + 1) = (n + 1) * 4 := by unfold SetTable.grown; rw [if_neg (by omega)]
  obtain ⟨k, k1, k2, k3, k4⟩ := size_go ((n + 1) * 4) 64 3 (Nat.lt_of_lt_of_le (show (n + 1) * 4 < 2 ^ 17 by omega) (Nat.pow_le_pow_right (by decide) (by decide)))
  have ek : k = j + 2 := by
    have a : 2 ^ (j + 2) = 2 ^ j * 4 := by rw [Nat.pow_add]
    have b : 2 ^ (j + 1) = 2 ^ j * 2 := by rw [Nat.pow_succ]
    rcases Nat.lt_trichotomy k (j + 2) with c | c | c
    · have := Nat.pow_le_pow_right (n := 2) (by decide) (show k ≤ j + 1 by omega)
      omega
    · exact c
    · have q := Nat.pow_le_pow_right (n := 2) (by decide) (show j + 3 ≤ k by omega)
      have b3 : 2 ^ (j + 3) = 2 ^ j * 8 := by rw [Nat.pow_add]
      rcases k4 with rfl | k4 <;> omega
  have a : 2 ^ (j + 2) = 2 ^ j * 4 := by rw [Nat.pow_add]
  refine ⟨2 ^ k - 1, ?_, ⟨k, by omega, by omega, by omega⟩, by rw [ek]; omega⟩
  rw [g]
  show SetTable.sizeAbove.go ((n + 1) * 4) 64 8 = _
  have : SetTable.sizeAbove.go ((n + 1) * 4) 64 (2 ^ 3) = 2 ^ k := k2
  rw [show (8 : Nat) = 2 ^ 3 from rfl, this]
  omega
end
end Big
namespace Big
open PySem PySem.Spec PyProof.Rows L2
/-- so many at most -/
abbrev mostB : Nat := 9900
section
variable {P : Program} {w : World} {A : Around} {E : Value → Shared → Prop} {s : Shared} {a : Addr} {L : List (Addr × List Int)} {es : Array (Int × Value)} {ep : Nat} {t : SetTable}
/-- a larger table -/
theorem larger {o : Obj} (g0 : s.heap.get? a = some o) (g1 : o.ExactSet) (g2 : o.data = .set es ep t) (g3 : es.toList = rowsOf P w L) (g4 : t.place.toList.length = L.length) (g5 : t.dummies = #[]) (g6 : L.length ≤ t.mask)
    (g7 : (L.map (·.2)).Nodup) (g8 : ∀ p, p ∈ L → IsT P w s.heap p.2 p.1) (g9 : t.plain = true) (g10 : w.params.followText "set-order" = true ∨ t.led = true) {wanted M : Nat}
    (m1 : SetTable.sizeAbove wanted = M + 1) (m2 : MkOk M) (m3 : L.length * 5 < M * 3) {Q : Unit → Shared → Prop}
    (out : ∀ h2 L2 es2 ep2 t2, Heap.SameBut a s.heap h2 → SetB P w h2 a L2 es2 ep2 t2 → L2.Perm L → Q () { s with heap := h2 }) : wpAny (model P w) A (setRelay a wanted) Q E s := by
  have n0 := ent_len g3
  have mb := m2.le
  obtain ⟨t2, order, e, hp, T, em, el, epl⟩ := relaid (t := t) (hs := es.map (·.1)) (wanted := wanted) (M := M) (by omega) m2 (by rw [Array.size_map, n0]; omega)
  rw [Array.size_map, n0] at hp
  obtain ⟨N, r1, r2, r3⟩ := order_rows L es order g3 hp
  rw [← r3] at T
  have n1 : (order.filterMap (es[·]?)).size = es.size := by
    have q := ent_len r1
    rw [q, r2.length_eq, n0]
  rw [setRelay_eq]
  refine wpAny_bind (wpAny_setState_of g0 g2 (fits_of g5 g4 n0 g6) ?_)
  dsimp only
  refine wp_if_neg (by rw [sizeLine_eq]; omega) ?_
  try refine wpAny_bind (wpAny_pure ?_)
  rw [e]
  dsimp only
  refine wpAny_bind ?_
  refine wp_if_neg (by rw [n1]; simp) ?_
  try refine wpAny_bind (wpAny_pure ?_)
  refine wpAny_pure ?_
  dsimp only
  refine wpAny_storeSet_of g0 g2 ?_ (by rw [n1, n0, sizeLine_eq]; omega)
  have sb : Heap.SameBut a s.heap (s.heap.update a (Obj.putSet (order.filterMap (es[·]?)) t2)) := Heap.SameBut.update ..
  refine out _ N (order.filterMap (es[·]?)) (ep + 1) t2 sb ⟨⟨_, store_at g0 g2, ⟨g1.1, g1.2.1, g1.2.2⟩, rfl⟩, r1, T, (r2.map (·.2)).nodup_iff.mpr g7, fun p hp => isT_same (g8 p (r2.mem_iff.mp hp)) g0 g2 sb, by rw [epl]; exact g9, by rw [el]; exact g10, by rw [r2.length_eq, em]; exact m3⟩ r2
/-- one more -/
theorem put_in (R : SetB P w s.heap a L es ep t) {x : Addr} {k : List Int} (hx : IsT P w s.heap k x) (hu : A.units < cLine) (most : L.length + 1 ≤ mostB) {Q : Bool → Shared → Prop}
    (out : ∀ b h2 L2 es2 ep2 t2, Heap.SameBut a s.heap h2 → SetB P w h2 a L2 es2 ep2 t2 → (k ∈ L.map (·.2) → L2 = L) → (k ∉ L.map (·.2) → L2.Perm ((x, k) :: L)) → Q b { s with heap := h2 }) :
    wpAny (model P w) A (setAddHashed a (.ref x) (thash P w k)) Q E s := by
  obtain ⟨o, g0, g1, g2⟩ := R.stands
  have n0 := ent_len R.ent
  have rm := R.rm
  unfold setAddHashed
  refine wpAny_holding ?_
  rw [show (100000 : Nat) = 99999 + 1 from rfl, setAddHashedIn_succ]
  refine wpAny_bind (wpAny_setState_of g0 g2 R.fits ?_)
  dsimp only
  refine wp_if_neg (by simp [byScan, Value.scannable]) ?_
  try refine wpAny_bind (wpAny_pure ?_)
  refine wpAny_bind (look R (by unfold mostB at most; omega) hx hu (fun hm => ?_) fun K hm hK hb => ?_)
  · dsimp only
    exact wpAny_pure (out false s.heap L es ep t (Heap.SameBut.refl a s.heap) R (fun _ => rfl) fun z => absurd hm z)
  · dsimp only
    refine wpAny_bind (wpAny_setState_of g0 g2 R.fits ?_)
    dsimp only
    have fl := put_fill R.tb hK
    have T := R.tb.add hK hb rfl
    rw [List.length_map] at fl
    have pl : (t.put (way t.mask (thash P w k) K)).1.plain = true := R.pln
    have ld : w.params.followText "set-order" = true ∨ (t.put (way t.mask (thash P w k) K)).1.led = true := R.ld
    have mk : (t.put (way t.mask (thash P w k) K)).1.mask = t.mask := rfl
    have pp : (t.put (way t.mask (thash P w k) K)).2 = SetTable.below t.place (way t.mask (thash P w k) K) := rfl
    obtain ⟨T1, T2⟩ := T
    generalize hpt : t.put (way t.mask (thash P w k) K) = pt at fl T2 pl ld mk pp ⊢
    obtain ⟨t1, p⟩ := pt
    dsimp only at fl T2 pl ld mk pp ⊢
    rw [← pp] at T2 T1
    first
      | (refine wpAny_bind ?_; refine wp_if_pos pl ?_; refine hashBy_tup hx ?_)
      | refine wp_if_pos pl (wpAny_bind (hashBy_tup hx ?_))
    simp only [if_true]
    have ent : (SetTable.insertAt es p (thash P w k, Value.ref x)).toList = rowsOf P w (L.take p ++ (x, k) :: L.drop p) := by rw [SetTable.toList_insertAt, rows_put, R.ent]
    have pm := put_perm L p (x, k)
    have ln : (L.take p ++ (x, k) :: L.drop p).length = L.length + 1 := pm.length_eq
    have hs2 : (hsh P w L).take p ++ thash P w k :: (hsh P w L).drop p = hsh P w (L.take p ++ (x, k) :: L.drop p) := by simp [hsh]
    rw [hs2] at T2
    have one : ((L.take p ++ (x, k) :: L.drop p).map (·.2)).Nodup := by
      refine (pm.map (·.2)).nodup_iff.mpr ?_
      rw [List.map_cons]
      exact List.nodup_cons.mpr ⟨hm, R.one⟩
    generalize SetTable.insertAt es p (thash P w k, Value.ref x) = es1 at ent ⊢
    generalize L.take p ++ (x, k) :: L.drop p = L1 at pm ln T2 one ent
    have n1 := ent_len ent
    have mb := R.tb.msk.le
    refine wpAny_bind (wpAny_storeSet_of g0 g2 ?_ (by rw [n1, ln, sizeLine_eq]; omega))
    have sb : Heap.SameBut a s.heap (s.heap.update a (Obj.putSet es1 t1)) := Heap.SameBut.update ..
    have at1 := store_at (es' := es1) (t' := t1) g0 g2
    generalize s.heap.update a (Obj.putSet es1 t1) = h1 at sb at1 ⊢
    have tp1 : ∀ p, p ∈ L1 → IsT P w h1 p.2 p.1 := fun p hp => by
      rcases List.mem_cons.mp (pm.mem_iff.mp hp) with e | hp
      · rw [e]
        exact isT_same hx g0 g2 sb
      · exact isT_same (R.tp p hp) g0 g2 sb
    have tl := T2.len
    rw [List.length_map] at tl
    by_cases hf : t1.tooFull = true
    · first
        | (refine wpAny_bind ?_; refine wp_if_pos (by simp [hf]) ?_)
        | (refine wp_if_pos (by simp [hf]) ?_; refine wpAny_bind ?_)
      have full : (L.length + 1) * 5 ≥ t.mask * 3 := by
        have q := hf
        unfold SetTable.tooFull at q
        rw [decide_eq_true_eq, fl, mk] at q
        exact q
      rw [n0]
      obtain ⟨M, m1, m2, m3⟩ := size_next R.tb.msk rm full (by unfold mostB at most; omega)
      refine larger (s := { s with heap := h1 }) (t := t1) at1 ⟨g1.1, g1.2.1, g1.2.2⟩ rfl ent tl T2.nod (by rw [ln, mk]; omega) one tp1 pl ld m1 m2 (by rw [ln]; exact m3) ?_
      intro h2 L2 es2 ep2 t2 sb2 R2 pm2
      exact wpAny_pure (out true h2 L2 es2 ep2 t2 (sb.trans sb2) R2 (fun z => absurd z hm) fun _ => pm2.trans pm)
    · first
        | refine wp_if_neg (by simp [hf]) ?_
        | (refine wpAny_bind ?_; refine wp_if_neg (by simp [hf]) ?_; refine wpAny_pure ?_)
      refine wpAny_pure (out true h1 L1 es1 (ep + 1) t1 sb ⟨⟨_, at1, ⟨g1.1, g1.2.1, g1.2.2⟩, rfl⟩, ent, T2, one, tp1, pl, ld, ?_⟩ (fun z => absurd z hm) fun _ => pm)
      have q := hf
      unfold SetTable.tooFull at q
      rw [decide_eq_true_eq, fl] at q
      rw [ln]
      omega
theorem SetB.stay {h h2 : Heap} (R : SetB P w h a L es ep t) (ha : ∀ o, h.get? a = some o → h2.get? a = some o) (ht : ∀ p, p ∈ L → IsT P w h2 p.2 p.1) : SetB P w h2 a L es ep t := by
  obtain ⟨o, ho, r⟩ := R.stands
  exact ⟨⟨o, ha o ho, r⟩, R.ent, R.tb, R.one, ht, R.pln, R.ld, R.rm⟩
theorem set_new {h : Heap} (ho : h.get? a = some { cls := .type "set", dict := none, data := .set #[] 0 (.fresh 0 0 (!w.params.followText "set-order")) }) : SetB P w h a [] #[] 0 (.fresh 0 0 (!w.params.followText "set-order")) := by
  refine ⟨⟨_, ho, ⟨rfl, rfl, rfl⟩, rfl⟩, rfl, ⟨List.Pairwise.nil, rfl, rfl, ⟨3, rfl, by decide, by decide⟩, fun x hx => (by cases hx), fun i h j hi => (by simp at hi)⟩, List.nodup_nil, fun p hp => (by cases hp), rfl, ?_, by show 0 * 5 < 7 * 3; decide⟩
  show _ ∨ (!w.params.followText "set-order") = true
  cases w.params.followText "set-order"
  · exact .inr rfl
  · exact .inl rfl
/-- the loop of set.update -/
theorem fill_up {I : Addr} {fp wr : List Addr} {G : Array GenState → Array GenState → Prop} {n : Nat} {Pv : Nat → Value → Prop} {St : Nat → Shared → Prop} {R : Result → Shared → Prop}
    (W : WalksS P w A.in1 I fp wr G n Pv St) (S : Addr) (hSf : S ∉ fp) (ks : List (Addr × List Int)) (hn : n = ks.length) (most : ks.length ≤ mostB) (hv : ∀ i v, Pv i v → ∃ p, ks[i]? = some p ∧ v = .ref p.1)
    (b0 : Heap) (hk : ∀ p, p ∈ ks → IsT P w b0 p.2 p.1) (hS0 : b0.get? S = none) (hw0 : ∀ b, b ∈ wr → b0.get? b = none) (hu : A.in1.units < cLine) :
    ∀ (j i : Nat) (s : Shared), n - i = j → i ≤ n → St i s → (∀ b o, b0.get? b = some o → s.heap.get? b = some o) → (∃ L es ep t, SetB P w s.heap S L es ep t ∧ Got ks i L) →
      (∀ s' L es ep t, Moved (S :: wr) G s s' → SetB P w s'.heap S L es ep t → Got ks n L → (∀ b o, b0.get? b = some o → s'.heap.get? b = some o) → R (.ok (.ret .none)) s') →
      codeAny (model P w) A (.builtin "set.update.loop" ⟨[.ref S, .ref I], []⟩) R s := by
  have hSw : S ∉ wr := fun z => hSf (W.sub _ z)
  have more : ∀ b, b ∈ wr → b ∈ S :: wr := fun b hb => List.mem_cons_of_mem _ hb
  have stays : ∀ {s s' : Shared}, Moved wr G s s' → (∀ b o, b0.get? b = some o → s.heap.get? b = some o) → ∀ b o, b0.get? b = some o → s'.heap.get? b = some o := fun hm q b o e =>
    hm.heap b o (fun hb => by rw [hw0 b hb] at e; cases e) (q b o e)
  intro j
  induction j with
  | zero =>
    intro i s hj hi hst q ⟨L, es, ep, t, hS, g⟩ hR
    obtain rfl : i = n := by omega
    refine codeAny_builtin F.entry_set_update_loop ?_
    rw [Around.under_plainId F.plain_set_update_loop _]
    show wpAny _ A.in1 (pyNext (.ref I) >>= _) _ _ s
    refine wpAny_bind (W.done s _ _ hst fun s' hm => ?_)
    show wpAny _ A.in1 (ret Value.none) _ _ s'
    have q2 := stays hm q
    exact wpAny_pure (hR s' L es ep t (hm.mono more) (hS.stay (fun o e => hm.heap S o hSw e) fun p hp => isT_keep (hk p (List.mem_of_mem_take (g.sub p hp))) q2) g q2)
  | succ j ih =>
    intro i s hj hi hst q ⟨L, es, ep, t, hS, g⟩ hR
    have lt : i < n := by omega
    refine codeAny_builtin F.entry_set_update_loop ?_
    rw [Around.under_plainId F.plain_set_update_loop _]
    show wpAny _ A.in1 (pyNext (.ref I) >>= _) _ _ s
    refine wpAny_bind (W.item i s _ _ lt hst fun v s' hP hst2 hm => ?_)
    obtain ⟨p, hp, rfl⟩ := hv i v hP
    have q2 := stays hm q
    have hS2 : SetB P w s'.heap S L es ep t := hS.stay (fun o e => hm.heap S o hSw e) fun r hr => isT_keep (hk r (List.mem_of_mem_take (g.sub r hr))) q2
    have hx : IsT P w s'.heap p.2 p.1 := isT_keep (hk p (List.mem_of_getElem? hp)) q2
    show wpAny _ A.in1 (holding [Value.ref p.1] (setAdd S (.ref p.1)) >>= _) _ _ s'
    refine wpAny_bind (wpAny_holding ?_)
    unfold setAdd
    refine wpAny_holding ?_
    refine wpAny_bind (wpAny_pyHash_tuple hu hx ?_)
    refine put_in (s := { s' with toks := s'.toks + (p.2.length + 1) }) hS2 hx hu (by have := g.len; unfold mostB at most ⊢; omega) fun b h3 L3 es3 ep3 t3 sb hS3 c1 c2 => ?_
    have g3 : Got ks (i + 1) L3 := by
      rcases Classical.em (p.2 ∈ L.map (·.2)) with c | c
      · rw [c1 c]
        exact g.same hp c
      · exact g.more hp (c2 c)
    have q3 : ∀ b o, b0.get? b = some o → h3.get? b = some o := fun b o e => (sb.2 b (fun z => by rw [z, hS0] at e; cases e)).trans (q2 b o e)
    refine wpAny_pure ⟨plainId_quiet F.plain_set_update_loop _, ih (i + 1) _ (by omega) lt (W.frame _ s' _ _ hst2 (Nat.le_add_right _ _) fun b hb o e => ?_) q3 ⟨L3, es3, ep3, t3, hS3, g3⟩ fun s4 L4 es4 ep4 t4 hm4 hS4 g4 q4 => ?_⟩
    · rw [sb.2 b (fun z : b = S => hSf (by rw [← z]; exact hb))]
      exact e
    · refine hR s4 L4 es4 ep4 t4 (Moved.trans W.gtrans ((hm.mono more).then_heap (Nat.le_add_right _ _) fun b o hb e => ?_) hm4) hS4 g4 q4
      rw [sb.2 b (fun z : b = S => hb (by rw [z]; exact List.mem_cons_self))]
      exact e
abbrev noneSet (w : World) : Obj := { cls := .type "set", dict := none, data := .set #[] 0 (.fresh 0 0 (!w.params.followText "set-order")) }
/-- set(xs) -/
theorem set_of {l : Addr} {items : Array Value} (ks : List (Addr × List Int)) {Q : Value → Shared → Prop} (hh : A.handled = none) (hl : s.heap.IsList l items) (hit : items.toList = ks.map fun p => Value.ref p.1)
    (hk : ∀ p, p ∈ ks → IsT P w s.heap p.2 p.1) (most : ks.length ≤ mostB) (hu : A.units + 3 < cLine)
    (out : ∀ (h2 : Heap) (tk : Nat) L es ep t, SetB P w h2 s.heap.objs.size L es ep t → Got ks ks.length L → (∀ b o, s.heap.get? b = some o → h2.get? b = some o) → Q (.ref s.heap.objs.size) { s with heap := h2, toks := tk }) :
    wpAny (model P w) A (call (.type "set") [.ref l]) Q E s := by
  have isz : items.size = ks.length := by
    have q := congrArg List.length hit
    rw [Array.length_toList, List.length_map] at q
    exact q
  obtain ⟨c, tl, hmro⟩ := F.called_set.mro
  have hmade := F.called_set.made
  have hsub := F.called_set.sub
  refine wpAny_call (codeAny_of_tree ?_)
  show wpAny _ _ (callAny (.type "set") _) _ _ _
  refine wpAny_pure ⟨Code.quiet_builtin _ (by decide +kernel), codeAny_builtin F.entry_type_call ?_⟩
  rw [Around.under_plain (weight_type_call_type "set" [.ref l] []) rfl]
  have z1 := F.called_set.notType
  have z2 := F.called_set.canCreate
  have z3 := F.typeCall_set_1 (.ref l)
  repeat (any_goals (first | assumption | wp_step))
  refine codeAny_mono (code_set_led1 (.ref l) (E := E) (Q₁ := fun obj s1 => obj = .ref s.heap.objs.size ∧ s1 = { s with heap := s.heap.push (noneSet w) }) ⟨rfl, rfl⟩) fun r s1 hr => ?_
  cases r with
  | error e => exact hr
  | ok fl =>
    cases fl with
    | ret obj =>
      obtain ⟨rfl, rfl⟩ := hr
      have hS : (s.heap.push (noneSet w)).get? s.heap.objs.size = some (noneSet w) := Heap.get?_push_size _ rfl
      have hT : Shared.TypeIs { s with heap := s.heap.push (noneSet w) } (.ref s.heap.objs.size) "set" := ⟨_, hS, rfl⟩
      have y1 := F.called_set.init.lookup
      have y2 := F.called_set.init.bind (.ref s.heap.objs.size)
      repeat (any_goals (first | assumption | wp_step))
      refine codeAny_mono (codeAny_call_builtin (R := wants (fun r s2 => r = .none ∧ ∃ h2 tk L es ep t, s2 = { s with heap := h2, toks := tk } ∧ SetB P w h2 s.heap.objs.size L es ep t ∧ Got ks ks.length L ∧
          (∀ b o, s.heap.get? b = some o → h2.get? b = some o)) E) F.called_set.init.plain F.entry_set_init (check_set_init_1 hT ?_)) fun r2 s2 hr2 => ?_
      · obtain ⟨ol, hol, hcl, nl, hdl⟩ := hl
        obtain ⟨ocls, odict, odata, oslots⟩ := ol
        simp only at hcl hdl
        subst hcl
        subst hdl
        have hol2 : (s.heap.push (noneSet w)).get? l = some { cls := .type "list", dict := odict, data := .seq items nl, slots := oslots } := Heap.get?_push_of_some _ hol
        have x1 := F.sub_list_set
        have x2 := F.sub_list_frozenset
        have x3 : (Value.type "list" == Value.type "dict") = false := by decide
        have hl1 : (s.heap.push (noneSet w)).IsList l items := ⟨_, hol2, rfl, nl, rfl⟩
        unfold Builtin.«set.__init__» noKeywords Builtin.Frozenset.updateFrom
        generalize hPI : pyIter = PI
        wp_walk
        subst hPI
        refine wpAny_pyIter_list hl1 ?_
        refine wpAny_bind (wpAny_runValue ?_)
        have lS : l < s.heap.objs.size := Heap.lt_size hol
        have h3 : A.in1.in1.in1.handled = none := by simp [hh]
        have nI : l ≠ (s.heap.push (noneSet w)).objs.size := by
          rw [Heap.size_push]
          exact Nat.ne_of_lt (Nat.lt_succ_of_lt lS)
        have hSf : s.heap.objs.size ∉ [(s.heap.push (noneSet w)).objs.size, l] := by
          rw [Heap.size_push]
          simp only [List.mem_cons, List.mem_singleton, List.not_mem_nil, or_false, not_or]
          exact ⟨Nat.ne_of_lt (Nat.lt_succ_self _), Nat.ne_of_gt lS⟩
        have hv : ∀ (i : Nat) (v : Value), items[i]? = some v → ∃ p, ks[i]? = some p ∧ v = .ref p.1 := fun i v hv => by
          have q : items.toList[i]? = some v := by rw [Array.getElem?_toList]; exact hv
          rw [hit, List.getElem?_map] at q
          obtain ⟨p, hp, e⟩ := Option.map_eq_some_iff.mp q
          exact ⟨p, hp, e.symm⟩
        have no : ∀ b, s.heap.objs.size ≤ b → s.heap.get? b = none := fun b hb => by
          cases q : s.heap.get? b with
          | none => rfl
          | some o => exact absurd (Nat.lt_of_lt_of_le (Heap.lt_size q) hb) (Nat.lt_irrefl _)
        have hget : ((s.heap.push (noneSet w)).push { cls := .type "list_iterator", data := .fields #[.ref l, .int 0 0] }).get? s.heap.objs.size = some (noneSet w) := Heap.get?_push_of_some _ hS
        refine fill_up ((Walks.list h3 _ l nI items).toS) s.heap.objs.size hSf ks isz most hv s.heap hk (no _ (Nat.le_refl _)) (fun b hb => no b (by
            rw [List.mem_singleton.mp hb, Heap.size_push]
            exact Nat.le_succ _)) hu (items.size - 0) 0 _ (by omega) (Nat.zero_le _)
          ⟨⟨_, Heap.get?_push_size _ rfl, rfl, rfl⟩, (hl1.push _)⟩ (fun b o e => Heap.get?_push_of_some _ (Heap.get?_push_of_some _ e)) ⟨[], #[], 0, _, set_new hget, Got.zero ks⟩ ?_
        intro s' L es ep t hm hS' g' q
        obtain ⟨h2, g2, d2, tk2, os2⟩ := s'
        have eg : g2 = s.gens := hm.gens
        have ed : d2 = s.drawn := hm.drawn
        have eo : os2 = s.os := hm.os
        subst eg
        subst ed
        subst eo
        show wpAny _ _ _ _ _ _
        refine wpAny_pure ?_
        show wpAny _ _ (ret Value.none) _ _ _
        rw [isz] at g'
        exact wpAny_pure ⟨rfl, h2, tk2, L, es, ep, t, rfl, hS', g', q⟩
      · cases r2 with
        | error e => exact hr2
        | ok fl2 =>
          cases fl2 with
          | ret r =>
            obtain ⟨rfl, h2, tk, L, es, ep, t, rfl, q1, q2, q3⟩ := hr2
            repeat (any_goals (first | assumption | wp_step))
            exact out _ _ _ _ _ _ q1 q2 q3
          | _ => exact hr2.elim
    | _ => exact hr.elim
end
end Big
namespace Dv
open PySem L2
inductive D where
  | non | bl (b : Bool) | int (i : Int) | str (x : Str) | lst (xs : List D) | tup (xs : List D) | scr (ns : List Int)
  /-- just this place: a refusal that is handled -/
  | adr (a : Addr)
  /-- a tuple that was made on the way: it can be a dict's key -/
  | nt (xs : List D)
  /-- a dict that stays: its keys (tuples of whole numbers), its things -/
  | dct (ks : List (List Int)) (xs : List D)
mutual
inductive Dq (K : PySem.W.Frag) (G : Hp) : V → D → Prop
  | non : Dq K G .non .non
  | bl (b : Bool) : Dq K G (.bl b) (.bl b)
  | int (i : Int) : Dq K G (.int i) (.int i)
  | str (x : Str) : Dq K G (.str x) (.str x)
  | lst {a : Addr} {xs : List V} {ds : List D} : G a = some (.lst xs) → DqA K G xs ds → Dq K G (.ref a) (.lst ds)
  | tup {a : Addr} {xs : List V} {ds : List D} : SqT K G a xs → DqA K G xs ds → Dq K G (.ref a) (.tup ds)
  | scr {a : Addr} {ns : List Int} : SqL K G a (ns.map V.int) → Dq K G (.ref a) (.scr ns)
  | adr (a : Addr) : Dq K G (.ref a) (.adr a)
  | nt {a : Addr} {xs : List V} {ds : List D} : G a = some (.tup xs) → DqA K G xs ds → Dq K G (.ref a) (.nt ds)
  | dct {a : Addr} {kl : List (List L2.Key × V)} {ks : List (List Int)} {ds : List D} : Rd G a (.dT kl) → kl.map (·.1) = ks.map (fun k => k.map Sum.inl) → DqA K G (kl.map (·.2)) ds → Dq K G (.ref a) (.dct ks ds)
inductive DqA (K : PySem.W.Frag) (G : Hp) : List V → List D → Prop
  | nil : DqA K G [] []
  | cons {v : V} {vs : List V} {d : D} {ds : List D} : Dq K G v d → DqA K G vs ds → DqA K G (v :: vs) (d :: ds)
end
section
variable {K : PySem.W.Frag} {G G' : Hp}
theorem rd_mono {a : Addr} {u : HO} (e : Same G G') (h : Rd G a u) : Rd G' a u := by
  rcases h with h | ⟨o, h⟩
  · exact .inl (e _ _ h)
  · exact .inr ⟨o, e _ _ h⟩
theorem sqT_mono {a : Addr} {xs : List V} (e : Same G G') (h : SqT K G a xs) : SqT K G' a xs := by
  rcases h with (h | ⟨o, h⟩) | h
  · exact .inl (.inl (e _ _ h))
  · exact .inl (.inr ⟨o, e _ _ h⟩)
  · exact .inr h
mutual
theorem Dq.mono (e : Same G G') : ∀ (d : D) (v : V), Dq K G v d → Dq K G' v d
  | .non, _, h => by cases h; exact .non
  | .bl b, _, h => by cases h; exact .bl b
  | .int i, _, h => by cases h; exact .int i
  | .str x, _, h => by cases h; exact .str x
  | .lst ds, _, h => by
    cases h with
    | lst h1 h2 => exact .lst (e _ _ h1) (DqA.mono e ds _ h2)
  | .tup ds, _, h => by
    cases h with
    | tup h1 h2 => exact .tup (sqT_mono e h1) (DqA.mono e ds _ h2)
  | .scr ns, _, h => by
    cases h with
    | scr h1 => exact .scr (e.seq h1)
  | .adr a, _, h => by cases h; exact .adr a
  | .nt ds, _, h => by
    cases h with
    | nt h1 h2 => exact .nt (e _ _ h1) (DqA.mono e ds _ h2)
  | .dct ks ds, _, h => by
    cases h with
    | dct h1 h2 h3 => exact .dct (rd_mono e h1) h2 (DqA.mono e ds _ h3)
theorem DqA.mono (e : Same G G') : ∀ (ds : List D) (vs : List V), DqA K G vs ds → DqA K G' vs ds
  | [], _, h => by cases h; exact .nil
  | d :: ds, _, h => by
    cases h with
    | cons h1 h2 => exact .cons (Dq.mono e d _ h1) (DqA.mono e ds _ h2)
end
theorem DqA.length : ∀ {vs : List V} {ds : List D}, DqA K G vs ds → vs.length = ds.length
  | [], _, h => by cases h; rfl
  | v :: vs, _, h => by
    cases h with
    | cons h1 h2 => simp [DqA.length h2]
theorem DqA.get : ∀ {vs : List V} {ds : List D} {i : Nat} {d : D}, DqA K G vs ds → ds[i]? = some d → ∃ v, vs[i]? = some v ∧ Dq K G v d
  | [], _, _, _, h, e => by cases h; simp at e
  | v :: vs, _, i, d, h, e => by
    cases h with
    | cons h1 h2 =>
      cases i with
      | zero => simp at e; subst e; exact ⟨v, rfl, h1⟩
      | succ i =>
        obtain ⟨w, a, b⟩ := DqA.get (i := i) (d := d) h2 (by simpa using e)
        exact ⟨w, by simpa using a, b⟩
theorem DqA.append : ∀ {vs ws : List V} {ds es : List D}, DqA K G vs ds → DqA K G ws es → DqA K G (vs ++ ws) (ds ++ es)
  | [], _, _, _, h, k => by cases h; exact k
  | v :: vs, _, _, _, h, k => by
    cases h with
    | cons h1 h2 => exact .cons h1 (DqA.append h2 k)
theorem DqA.take : ∀ (n : Nat) {vs : List V} {ds : List D}, DqA K G vs ds → DqA K G (vs.take n) (ds.take n)
  | 0, _, _, _ => by simp; exact .nil
  | n + 1, [], _, h => by cases h; exact .nil
  | n + 1, v :: vs, _, h => by
    cases h with
    | cons h1 h2 => exact .cons h1 (DqA.take n h2)
theorem DqA.drop : ∀ (n : Nat) {vs : List V} {ds : List D}, DqA K G vs ds → DqA K G (vs.drop n) (ds.drop n)
  | 0, _, _, h => by simpa using h
  | n + 1, [], _, h => by cases h; exact .nil
  | n + 1, v :: vs, _, h => by
    cases h with
    | cons h1 h2 => simpa using DqA.drop n h2
theorem DqA.set : ∀ (n : Nat) {vs : List V} {ds : List D} {v : V} {d : D}, DqA K G vs ds → Dq K G v d → DqA K G (vs.set n v) (ds.set n d)
  | _, [], _, _, _, h, _ => by cases h; exact .nil
  | 0, v :: vs, _, _, _, h, k => by
    cases h with
    | cons h1 h2 => exact .cons k h2
  | n + 1, v :: vs, _, _, _, h, k => by
    cases h with
    | cons h1 h2 => exact .cons h1 (DqA.set n h2 k)
theorem DqA.reverse : ∀ {vs : List V} {ds : List D}, DqA K G vs ds → DqA K G vs.reverse ds.reverse
  | [], _, h => by cases h; exact .nil
  | v :: vs, _, h => by
    cases h with
    | cons h1 h2 =>
      rw [List.reverse_cons, List.reverse_cons]
      exact DqA.append (DqA.reverse h2) (.cons h1 .nil)
theorem DqA.isInts : ∀ {vs : List V} {ns : List Int}, DqA K G vs (ns.map D.int) → vs = ns.map V.int
  | [], [], _ => rfl
  | [], n :: ns, h => by cases h
  | v :: vs, [], h => by cases h
  | v :: vs, n :: ns, h => by
    cases h with
    | cons h1 h2 =>
      cases h1
      rw [DqA.isInts h2]
      rfl
theorem DqA.isBls : ∀ {vs : List V} {ns : List Bool}, DqA K G vs (ns.map D.bl) → vs = ns.map V.bl
  | [], [], _ => rfl
  | [], n :: ns, h => by cases h
  | v :: vs, [], h => by cases h
  | v :: vs, n :: ns, h => by
    cases h with
    | cons h1 h2 =>
      cases h1
      rw [DqA.isBls h2]
      rfl
end
def mi (H : Hp) (O : List Addr) : Hp := fun a => if a ∈ O then none else H a
section
variable {H H' : Hp} {O O' : List Addr} {p : Addr} {o : HO}
theorem mi_in (h : p ∈ O) : mi H O p = none := if_pos h
theorem mi_out (h : p ∉ O) : mi H O p = H p := if_neg h
theorem mi_some {a : Addr} (h : mi H O a = some o) : a ∉ O ∧ H a = some o := by
  unfold mi at h
  split at h
  · cases h
  · exact ⟨by assumption, h⟩
theorem mi_of {a : Addr} (h : a ∉ O) (e : H a = some o) : mi H O a = some o := by rw [mi_out h]; exact e
theorem mi_same : Same (mi H O) H := fun a o h => (mi_some h).2
theorem mi_mono (e : Same H H') : Same (mi H O) (mi H' O) := fun a o h => by
  obtain ⟨h1, h2⟩ := mi_some h
  exact mi_of h1 (e _ _ h2)
theorem mi_sub (s : ∀ a, a ∈ O → a ∈ O') : Same (mi H O') (mi H O) := fun a o h => by
  obtain ⟨h1, h2⟩ := mi_some h
  exact mi_of (fun z => h1 (s a z)) h2
theorem mi_upd_in (h : p ∈ O) : mi (upd H p o) O = mi H O := by
  funext a
  unfold mi
  split
  · rfl
  · rw [upd_ne]
    intro e
    subst e
    contradiction
theorem same_new (h : H p = none) : Same H (upd H p o) := fun a u e => by
  rw [upd_ne (ne_of_none e h)]
  exact e
theorem mi_one_new (h : H p = none) : mi (upd H p o) [p] = H := by
  funext a
  unfold mi
  by_cases e : a = p
  · subst e
    rw [if_pos (List.mem_singleton.mpr rfl), h]
  · rw [if_neg (fun z => e (List.mem_singleton.mp z)), upd_ne e]
end
/-- own things: a dict whose keys are tuples of ints; a list of own lists -/
inductive OV where
  | dct (kvs : List (List Int × D)) | ls2 (dss : List (List D))
  /-- a dict whose keys are whole numbers -/
  | dcI (kvs : List (Int × D))
def DqK (K : PySem.W.Frag) (G : Hp) : List (List L2.Key × V) → List (List Int × D) → Prop
  | [], [] => True
  | p :: r, q :: s => p.1 = q.1.map Sum.inl ∧ Dq K G p.2 q.2 ∧ DqK K G r s
  | _, _ => False
def DqI (K : PySem.W.Frag) (G : Hp) : List (L2.Key × V) → List (Int × D) → Prop
  | [], [] => True
  | p :: r, q :: s => p.1 = Sum.inl q.1 ∧ Dq K G p.2 q.2 ∧ DqI K G r s
  | _, _ => False
def LsOk (K : PySem.W.Frag) (G H : Hp) : List Addr → List (List D) → Prop
  | [], [] => True
  | q :: qs, ds :: dss => (∃ xs, H q = some (.lst xs) ∧ DqA K G xs ds) ∧ LsOk K G H qs dss
  | _, _ => False
def refV : V → Option Addr
  | .ref a => some a
  | _ => none
/-- the places that an own thing is made of -/
def adsOf (H : Hp) (p : Addr) : OV → List Addr
  | .dct _ => [p]
  | .dcI _ => [p]
  | .ls2 _ => match H p with
    | some (.lst xs) => p :: xs.filterMap refV
    | _ => [p]
def Real (K : PySem.W.Frag) (G H : Hp) (p : Addr) : OV → Prop
  | .dct kvs => ∃ ks, H p = some (.dT ks) ∧ DqK K G ks kvs
  | .ls2 dss => ∃ qs, H p = some (.lst (qs.map V.ref)) ∧ LsOk K G H qs dss
  | .dcI kvs => ∃ ks, H p = some (.dK ks) ∧ DqI K G ks kvs
theorem DqK.mono {K : PySem.W.Frag} {G G' : Hp} (e : Same G G') : ∀ {ks : List (List L2.Key × V)} {kvs : List (List Int × D)}, DqK K G ks kvs → DqK K G' ks kvs
  | [], [], _ => trivial
  | [], _ :: _, h => h.elim
  | _ :: _, [], h => h.elim
  | _ :: _, _ :: _, h => ⟨h.1, Dq.mono e _ _ h.2.1, DqK.mono e h.2.2⟩
theorem DqI.mono {K : PySem.W.Frag} {G G' : Hp} (e : Same G G') : ∀ {ks : List (L2.Key × V)} {kvs : List (Int × D)}, DqI K G ks kvs → DqI K G' ks kvs
  | [], [], _ => trivial
  | [], _ :: _, h => h.elim
  | _ :: _, [], h => h.elim
  | _ :: _, _ :: _, h => ⟨h.1, Dq.mono e _ _ h.2.1, DqI.mono e h.2.2⟩
theorem LsOk.mono {K : PySem.W.Frag} {G G' H H' : Hp} (e : Same G G') : ∀ {qs : List Addr} {dss : List (List D)}, (∀ q, q ∈ qs → H' q = H q) → LsOk K G H qs dss → LsOk K G' H' qs dss
  | [], [], _, _ => trivial
  | [], _ :: _, _, h => h.elim
  | _ :: _, [], _, h => h.elim
  | q :: _, _ :: _, k, h => by
    obtain ⟨⟨xs, h1, h2⟩, h3⟩ := h
    exact ⟨⟨xs, by rw [k q List.mem_cons_self]; exact h1, DqA.mono e _ _ h2⟩, LsOk.mono e (fun q' hq => k q' (List.mem_cons_of_mem _ hq)) h3⟩
theorem refV_map : ∀ qs : List Addr, (qs.map V.ref).filterMap refV = qs
  | [] => rfl
  | q :: qs => by
    show q :: (qs.map V.ref).filterMap refV = _
    rw [refV_map qs]
theorem adsOf_self {H : Hp} {p : Addr} {w : OV} : p ∈ adsOf H p w := by
  cases w with
  | ls2 dss =>
    unfold adsOf
    split
    · exact List.mem_cons_self
    · rename_i h
      first | contradiction | exact List.mem_cons_self | (split <;> exact List.mem_cons_self)
    all_goals (split <;> exact List.mem_cons_self)
  | dct kvs => exact List.mem_cons_self
  | dcI kvs => exact List.mem_cons_self
theorem adsOf_eq {H H' : Hp} {p : Addr} {w : OV} (h : H' p = H p) : adsOf H' p w = adsOf H p w := by
  unfold adsOf
  rw [h]
theorem Real.mono {K : PySem.W.Frag} {G G' H H' : Hp} {p : Addr} {w : OV} (e : Same G G') (k : ∀ a, a ∈ adsOf H p w → H' a = H a) (h : Real K G H p w) : Real K G' H' p w := by
  have k0 := k p adsOf_self
  cases w with
  | dct kvs =>
    obtain ⟨ks, h1, h2⟩ := h
    exact ⟨ks, by rw [k0]; exact h1, h2.mono e⟩
  | dcI kvs =>
    obtain ⟨ks, h1, h2⟩ := h
    exact ⟨ks, by rw [k0]; exact h1, h2.mono e⟩
  | ls2 dss =>
    obtain ⟨qs, h1, h2⟩ := h
    refine ⟨qs, by rw [k0]; exact h1, h2.mono e fun q hq => k q ?_⟩
    unfold adsOf
    rw [h1]
    show q ∈ p :: (qs.map V.ref).filterMap refV
    rw [refV_map]
    exact List.mem_cons_of_mem _ hq
inductive SV where
  /-- nothing known | a thing that stays | an own list | an own list of the caller -/
  | no | fz (d : D) | o1 (ds : List D) | io (ds : List D)
  /-- an own thing of another make -/
  | nw (w : OV)
inductive RV where
  /-- a thing that stays | what the i-th name owns | a new list that nobody has yet -/
  | val (d : D) | slot (i : Nat) | new (ds : List D)
  /-- no thing: a refusal, by its number -/
  | ex (n : Nat)
  /-- a new tuple of new lists -/
  | tw (dss : List (List D))
abbrev Env := List SV
def OwnAt (env : Env) (i : Nat) (ds : List D) : Prop := env[i]? = some (.o1 ds) ∨ env[i]? = some (.io ds)
/-- the own things of other makes -/
def NwOk (K : PySem.W.Frag) (B : Hp) (O : List Addr) (σ : L2.St) (H : Hp) (env : Env) : Prop := ∀ (i : Nat) (w : OV), env[i]? = some (SV.nw w) → ∃ p, σ[i]? = some (some (.ref p)) ∧ Real K (mi H O) H p w ∧ (adsOf H p w).Nodup ∧
  (∀ a, a ∈ adsOf H p w → a ∈ O ∧ B a = none) ∧ (∀ (j : Nat) (ds : List D) (a : Addr), OwnAt env j ds → σ[j]? = some (some (.ref a)) → a ∉ adsOf H p w) ∧
  ∀ (j : Nat) (w' : OV) (q : Addr), j ≠ i → env[j]? = some (SV.nw w') → σ[j]? = some (some (.ref q)) → ∀ a, a ∈ adsOf H p w → a ∉ adsOf H q w'
theorem NwOk.go {K : PySem.W.Frag} {B B' : Hp} {O O' : List Addr} {σ σ' : L2.St} {H H' : Hp} {env env' : Env} (h : NwOk K B O σ H env)
    (sl : ∀ (i : Nat) (w : OV), env'[i]? = some (SV.nw w) → env[i]? = some (SV.nw w) ∧ σ'[i]? = σ[i]?)
    (ol : ∀ (j : Nat) (ds : List D) (a : Addr), OwnAt env' j ds → σ'[j]? = some (some (.ref a)) → (∃ ds', OwnAt env j ds' ∧ σ[j]? = some (some (.ref a))) ∨ a ∉ O)
    (hp : ∀ a, a ∈ O → B a = none → (∃ o, H a = some o) → (∀ (j : Nat) (ds : List D), OwnAt env j ds → σ[j]? ≠ some (some (.ref a))) → a ∈ O' ∧ B' a = none ∧ H' a = H a)
    (sm : Same (mi H O) (mi H' O')) (dom : ∀ a, a ∈ O → ∃ o, H a = some o) : NwOk K B' O' σ' H' env' := by
  intro i w hi
  obtain ⟨h1, h2⟩ := sl i w hi
  obtain ⟨p, a1, a2, a3, a4, a5, a6⟩ := h i w h1
  have on : ∀ a, a ∈ adsOf H p w → a ∈ O' ∧ B' a = none ∧ H' a = H a := fun a ha => hp a (a4 a ha).1 (a4 a ha).2 (dom a (a4 a ha).1) fun j ds hj e => a5 j ds a hj e ha
  have e0 : adsOf H' p w = adsOf H p w := adsOf_eq (on p adsOf_self).2.2
  refine ⟨p, by rw [h2]; exact a1, a2.mono sm fun a ha => (on a ha).2.2, by rw [e0]; exact a3, fun a ha => ?_, fun j ds a hj e => ?_, fun j w' q hj hw e a ha => ?_⟩
  · rw [e0] at ha
    exact ⟨(on a ha).1, (on a ha).2.1⟩
  · rw [e0]
    rcases ol j ds a hj e with ⟨ds', k1, k2⟩ | k
    · exact a5 j ds' a k1 k2
    · exact fun z => k (a4 a z).1
  · rw [e0] at ha
    obtain ⟨c1, c2⟩ := sl j w' hw
    rw [c2] at e
    obtain ⟨q', b1, _, _, b4, b5, _⟩ := h j w' c1
    rw [e] at b1
    cases b1
    have e1 : adsOf H' q w' = adsOf H q w' := adsOf_eq (hp q (b4 q adsOf_self).1 (b4 q adsOf_self).2 (dom q (b4 q adsOf_self).1) fun j ds hj e => b5 j ds q hj e adsOf_self).2.2
    rw [e1]
    exact a6 j w' q hj c1 e a ha
theorem NwOk.none {K : PySem.W.Frag} {B : Hp} {O : List Addr} {σ : L2.St} {H : Hp} {env : Env} (h : ∀ (i : Nat) (w : OV), env[i]? ≠ some (SV.nw w)) : NwOk K B O σ H env := fun i w hi => absurd hi (h i w)
structure Sta (K : PySem.W.Frag) (B : Hp) (O : List Addr) (I : List (Nat × Addr)) (σ : L2.St) (H : Hp) (env : Env) : Prop where
  len : σ.length = env.length
  fz : ∀ (i : Nat) (d : D), env[i]? = some (SV.fz d) → ∃ v, σ[i]? = some (some v) ∧ Dq K (mi H O) v d
  ow : ∀ (i : Nat) (ds : List D), OwnAt env i ds → ∃ p xs, σ[i]? = some (some (.ref p)) ∧ p ∈ O ∧ H p = some (.lst xs) ∧ DqA K (mi H O) xs ds ∧ B p = none
  sep : ∀ (i j : Nat) (ds es : List D) (p : Addr), OwnAt env i ds → OwnAt env j es → σ[i]? = some (some (.ref p)) → σ[j]? = some (some (.ref p)) → i = j
  base : Same B H
  dom : ∀ p, p ∈ O → ∃ o, H p = some o
  pin : ∀ (j : Nat) (p : Addr), (j, p) ∈ I → σ[j]? = some (some (.ref p)) ∧ ∃ ds, env[j]? = some (SV.io ds)
  nw : NwOk K B O σ H env
  /-- no tuple is owned -/
  nt : ∀ (p : Addr) (xs : List V), p ∈ O → H p ≠ some (.tup xs)
theorem Sta.ntS {K : PySem.W.Frag} {B : Hp} {O : List Addr} {I : List (Nat × Addr)} {σ : L2.St} {H H' : Hp} {env : Env} (S : Sta K B O I σ H env) {p : Addr} (hp : p ∈ O) (h : ∀ o, H p = some o → H' p = some o) (xs : List V) : H' p ≠ some (.tup xs) := fun z => by
  obtain ⟨o, e⟩ := S.dom p hp
  have := h o e
  rw [z] at this
  cases this
  exact S.nt p xs hp e
def Post (K : PySem.W.Frag) (B : Hp) (O : List Addr) (I : List (Nat × Addr)) (σ : L2.St) (H : Hp) (env : Env) (v : V) : RV → Prop
  | .val d => Sta K B O I σ H env ∧ Dq K (mi H O) v d
  | .slot i => Sta K B O I σ H env ∧ σ[i]? = some (some v)
  | .new ds => ∃ p xs, v = .ref p ∧ H p = some (.lst xs) ∧ B p = none ∧ p ∉ O ∧ Sta K B O I σ (mi H [p]) env ∧ DqA K (mi (mi H [p]) O) xs ds
  | .ex _ => False
  | .tw dss => ∃ p qs, v = .ref p ∧ H p = some (.tup (qs.map V.ref)) ∧ qs.Nodup ∧ (∀ q, q ∈ qs → B q = none ∧ q ∉ O) ∧ Sta K B O I σ (mi H qs) env ∧ LsOk K (mi H (qs ++ O)) H qs dss
def deref (env : Env) : RV → Option D
  | .val d => some d
  | .new ds => some (.lst ds)
  | .slot i => match env[i]? with
    | some (.o1 ds) => some (.lst ds)
    | some (.io ds) => some (.lst ds)
    | _ => none
  | .ex _ => none
  | .tw dss => some (.tup (dss.map D.lst))
def frz : RV → RV
  | .new ds => .val (.lst ds)
  | .tw dss => .val (.tup (dss.map D.lst))
  | .val d => .val d
  | .slot i => .slot i
  | .ex n => .ex n
theorem LsOk.domA {K : PySem.W.Frag} {G H : Hp} : ∀ {qs : List Addr} {dss : List (List D)}, LsOk K G H qs dss → ∀ q, q ∈ qs → ∃ xs, H q = some (.lst xs)
  | [], [], _, q, hq => by cases hq
  | [], _ :: _, h, _, _ => h.elim
  | _ :: _, [], h, _, _ => h.elim
  | a :: qs, ds :: dss, h, q, hq => by
    obtain ⟨⟨xs, h1, _⟩, h2⟩ := h
    rcases List.mem_cons.mp hq with z | z
    · rw [z]
      exact ⟨xs, h1⟩
    · exact LsOk.domA h2 q z
theorem LsOk.dqa2 {K : PySem.W.Frag} {H : Hp} {X O : List Addr} (hs : ∀ a, a ∈ O → a ∈ X) : ∀ {qs : List Addr} {dss : List (List D)}, (∀ q, q ∈ qs → q ∉ O) → LsOk K (mi H X) H qs dss → DqA K (mi H O) (qs.map V.ref) (dss.map D.lst)
  | [], [], _, _ => .nil
  | [], _ :: _, _, k => k.elim
  | _ :: _, [], _, k => k.elim
  | q :: qs, ds :: dss, hq, k => by
    obtain ⟨⟨xs, h1, h2⟩, h3⟩ := k
    exact .cons (.lst (mi_of (hq q List.mem_cons_self) h1) (DqA.mono (mi_sub hs) _ _ h2)) (LsOk.dqa2 hs (fun a ha => hq a (List.mem_cons_of_mem _ ha)) h3)
section
variable {K : PySem.W.Frag} {B B' : Hp} {O O' : List Addr} {I : List (Nat × Addr)} {σ : L2.St} {H H' : Hp} {env : Env} {v : V}
theorem Sta.weak (S : Sta K B' O I σ H env) (e : Same B B') : Sta K B O I σ H env :=
  ⟨S.len, S.fz, fun i ds h => by
    obtain ⟨p, xs, h1, h2, h3, h4, h5⟩ := S.ow i ds h
    exact ⟨p, xs, h1, h2, h3, h4, e.free h5⟩, S.sep, e.trans S.base, S.dom, S.pin, NwOk.go S.nw (fun _ _ h => ⟨h, rfl⟩) (fun j ds a h e => .inl ⟨ds, h, e⟩) (fun a h1 h2 _ _ => ⟨h1, e.free h2, rfl⟩) (Same.refl _) S.dom, S.nt⟩
/-- all that stood stands -/
theorem Sta.grow (S : Sta K B O I σ H env) (e : Same H H') : Sta K B O I σ H' env :=
  ⟨S.len, fun i d h => by
    obtain ⟨v, h1, h2⟩ := S.fz i d h
    exact ⟨v, h1, Dq.mono (mi_mono e) _ _ h2⟩, fun i ds h => by
    obtain ⟨p, xs, h1, h2, h3, h4, h5⟩ := S.ow i ds h
    exact ⟨p, xs, h1, h2, e _ _ h3, DqA.mono (mi_mono e) _ _ h4, h5⟩, S.sep, S.base.trans e, fun p hp => by
    obtain ⟨o, h⟩ := S.dom p hp
    exact ⟨o, e _ _ h⟩, S.pin, NwOk.go S.nw (fun _ _ h => ⟨h, rfl⟩) (fun j ds a h e => .inl ⟨ds, h, e⟩) (fun a h1 h2 ⟨o, h3⟩ _ => ⟨h1, h2, by rw [h3]; exact e _ _ h3⟩) (mi_mono e) S.dom, fun p xs hp => S.ntS hp (fun o => e _ _) xs⟩
/-- what is neither owned nor will change: H without what names own -/
def Owns (σ : L2.St) (env : Env) (H : Hp) (a : Addr) : Prop := (∃ i ds, OwnAt env i ds ∧ σ[i]? = some (some (.ref a))) ∨ ∃ (i : Nat) (w : OV) (p : Addr), env[i]? = some (SV.nw w) ∧ σ[i]? = some (some (.ref p)) ∧ a ∈ adsOf H p w
open Classical in
noncomputable def keepH (σ : L2.St) (env : Env) (H : Hp) : Hp := fun a => if Owns σ env H a then none else H a
theorem keepH_own {a : Addr} (h : Owns σ env H a) : keepH σ env H a = none := if_pos h
theorem keepH_not {a : Addr} (h : ¬ Owns σ env H a) : keepH σ env H a = H a := if_neg h
theorem keepH_same : Same (keepH σ env H) H := fun a o h => by
  unfold keepH at h
  split at h
  · cases h
  · exact h
theorem Sta.strong (S : Sta K B O I σ H env) : Sta K (keepH σ env H) O I σ H env :=
  ⟨S.len, S.fz, fun i ds h => by
    obtain ⟨p, xs, h1, h2, h3, h4, h5⟩ := S.ow i ds h
    exact ⟨p, xs, h1, h2, h3, h4, keepH_own (.inl ⟨i, ds, h, h1⟩)⟩, S.sep, keepH_same, S.dom, S.pin, fun i w hi => by
    obtain ⟨p, a1, a2, a3, a4, a5⟩ := S.nw i w hi
    exact ⟨p, a1, a2, a3, fun a ha => ⟨(a4 a ha).1, keepH_own (.inr ⟨i, w, p, hi, a1, ha⟩)⟩, a5⟩, S.nt⟩
theorem Sta.owns_free (S : Sta K B O I σ H env) {a : Addr} (h : Owns σ env H a) : a ∈ O ∧ B a = none := by
  rcases h with ⟨i, ds, h1, h2⟩ | ⟨i, w, q, h1, h2, h3⟩
  · obtain ⟨p, xs, k1, k2, k3, k4, k5⟩ := S.ow i ds h1
    rw [h2] at k1
    cases k1
    exact ⟨k2, k5⟩
  · obtain ⟨p, a1, _, _, a4, _⟩ := S.nw i w h1
    rw [h2] at a1
    cases a1
    exact a4 a h3
theorem Sta.base_keep (S : Sta K B O I σ H env) : Same B (keepH σ env H) := fun a o h => by
  rw [keepH_not]
  · exact S.base _ _ h
  · intro z
    have k5 := (S.owns_free z).2
    rw [h] at k5
    cases k5
theorem Sta.owns_in (S : Sta K B O I σ H env) {a : Addr} (h : Owns σ env H a) : a ∈ O := (S.owns_free h).1
/-- what stays, stays -/
theorem Sta.stay (S : Sta K B O I σ H env) {env' : Env} (S' : Sta K (keepH σ env H) O I σ H' env') : Same (mi H O) (mi H' O) := fun a o h => by
  obtain ⟨h1, h2⟩ := mi_some h
  refine mi_of h1 (S'.base a o ?_)
  rw [keepH_not (fun z => h1 (S.owns_in z))]
  exact h2
theorem Sta.full (S : Sta K B O I σ H env) {d : D} (h : Dq K (mi H O) v d) : Dq K H v d := Dq.mono mi_same _ _ h
/-- an own list, by its name -/
theorem Sta.own (S : Sta K B O I σ H env) {i : Nat} {ds : List D} (h : OwnAt env i ds) (hv : σ[i]? = some (some v)) :
    ∃ p xs, v = .ref p ∧ p ∈ O ∧ H p = some (.lst xs) ∧ DqA K (mi H O) xs ds ∧ B p = none := by
  obtain ⟨p, xs, h1, h2, h3, h4, h5⟩ := S.ow i ds h
  rw [hv] at h1
  cases h1
  exact ⟨p, xs, rfl, h2, h3, h4, h5⟩
theorem ownAt_of {i : Nat} {d : D} (h : deref env (.slot i) = some d) : ∃ ds, d = .lst ds ∧ OwnAt env i ds := by
  unfold deref at h
  dsimp only at h
  split at h
  · cases h; exact ⟨_, rfl, .inl (by assumption)⟩
  · cases h; exact ⟨_, rfl, .inr (by assumption)⟩
  · cases h
/-- a new list is let go: it stays from now on -/
theorem Post.frz {r : RV} (h : Post K B O I σ H env v r) : Post K B O I σ H env v (frz r) := by
  cases r with
  | ex n => exact False.elim h
  | val d => exact h
  | slot i => exact h
  | new ds =>
    obtain ⟨p, xs, rfl, h1, h2, h3, S, h4⟩ := h
    have e : Same (mi H [p]) H := mi_same
    refine ⟨S.grow e, .lst (mi_of h3 h1) (DqA.mono (mi_mono e) _ _ h4)⟩
  | tw dss =>
    obtain ⟨p, qs, rfl, h1, h2, h3, S, h4⟩ := h
    have pq : p ∉ qs := fun z => by
      obtain ⟨xs, e⟩ := LsOk.domA h4 p z
      rw [e] at h1
      cases h1
    have pO : p ∉ O := fun z => S.nt p _ z (mi_of pq h1)
    exact ⟨S.grow mi_same, .tup (.inl (.inl (mi_of pO h1))) (LsOk.dqa2 (fun a ha => List.mem_append_right _ ha) (fun q hq => (h3 q hq).2) h4)⟩
theorem Post.sta {r : RV} (h : Post K B O I σ H env v r) : Sta K B O I σ H env := by
  have := h.frz
  cases r with
  | ex n => exact False.elim h
  | val d => exact h.1
  | slot i => exact h.1
  | new ds => exact this.1
  | tw dss => exact this.1
/-- what is read of a value: the whole thing in the heap as it stands -/
theorem Post.read {r : RV} {d : D} (h : Post K B O I σ H env v r) (e : deref env r = some d) : Dq K H v d := by
  cases r with
  | ex n => exact False.elim h
  | val d' => cases e; exact h.1.full h.2
  | slot i =>
    obtain ⟨ds, rfl, ho⟩ := ownAt_of e
    obtain ⟨p, xs, rfl, _, h3, h4, _⟩ := h.1.own ho h.2
    exact .lst h3 (DqA.mono mi_same _ _ h4)
  | new ds =>
    cases e
    have := h.frz
    exact this.1.full this.2
  | tw dss =>
    cases e
    have := h.frz
    exact this.1.full this.2
/-- a list's items stay -/
theorem Post.items {r : RV} {ds : List D} (h : Post K B O I σ H env v r) (e : deref env r = some (.lst ds)) : ∃ p xs, v = .ref p ∧ H p = some (.lst xs) ∧ DqA K (mi H O) xs ds := by
  cases r with
  | ex n => exact False.elim h
  | val d' =>
    cases e
    obtain ⟨S, h⟩ := h
    cases h with
    | lst h1 h2 => exact ⟨_, _, rfl, (mi_some h1).2, h2⟩
  | slot i =>
    obtain ⟨es, e1, ho⟩ := ownAt_of e
    cases e1
    obtain ⟨p, xs, rfl, _, h3, h4, _⟩ := h.1.own ho h.2
    exact ⟨p, xs, rfl, h3, h4⟩
  | new es =>
    cases e
    obtain ⟨p, xs, rfl, h1, h2, h3, S, h4⟩ := h
    exact ⟨p, xs, rfl, h1, DqA.mono (mi_mono mi_same) _ _ h4⟩
  | tw dss => cases e
theorem Post.tuple {r : RV} {ds : List D} (h : Post K B O I σ H env v r) (e : deref env r = some (.tup ds)) : ∃ p xs, v = .ref p ∧ SqT K H p xs ∧ DqA K (mi H O) xs ds := by
  cases r with
  | ex n => exact False.elim h
  | val d' =>
    cases e
    obtain ⟨S, h⟩ := h
    cases h with
    | tup h1 h2 => exact ⟨_, _, rfl, sqT_mono mi_same h1, h2⟩
  | slot i =>
    obtain ⟨es, e1, ho⟩ := ownAt_of e
    cases e1
  | new es => cases e
  | tw dss =>
    cases e
    have h' : Post K B O I σ H env v (.val (.tup (dss.map D.lst))) := h.frz
    obtain ⟨S, h'⟩ := h'
    cases h' with
    | tup h1 h2 => exact ⟨_, _, rfl, sqT_mono mi_same h1, h2⟩
theorem Post.ntup {r : RV} {ds : List D} (h : Post K B O I σ H env v r) (e : deref env r = some (.nt ds)) : ∃ p xs, v = .ref p ∧ SqT K H p xs ∧ DqA K (mi H O) xs ds := by
  cases r with
  | ex n => exact False.elim h
  | val d' =>
    cases e
    obtain ⟨S, h⟩ := h
    cases h with
    | nt h1 h2 => exact ⟨_, _, rfl, .inl (.inl (mi_some h1).2), h2⟩
  | slot i =>
    obtain ⟨es, e1, ho⟩ := ownAt_of e
    cases e1
  | new es => cases e
  | tw dss => cases e
/-- a value that stays beside what comes later -/
theorem Post.later {r : RV} {env' : Env} (h : Post K B O I σ H env v (Dv.frz r)) (S' : Sta K (keepH σ env H) O I σ H' env') : Post K B O I σ H' env' v (Dv.frz r) := by
  have Sb : Sta K B O I σ H' env' := S'.weak h.sta.base_keep
  cases r with
  | ex n => exact False.elim h
  | val d => exact ⟨Sb, Dq.mono (h.1.stay S') _ _ h.2⟩
  | slot i => exact ⟨Sb, h.2⟩
  | new ds => exact ⟨Sb, Dq.mono (h.1.stay S') _ _ h.2⟩
  | tw dss => exact ⟨Sb, Dq.mono (h.1.stay S') _ _ h.2⟩
end
abbrev EF := Env → Option (RV × Env)
def Snd (K : PySem.W.Frag) (t : TE) (f : EF) : Prop := ∀ B O I σ H env rv env', Sta K B O I σ H env → f env = some (rv, env') →
  ∀ Q : VK, (∀ v H', Post K B O I σ H' env' v rv → Q v H') → t σ H Q
abbrev TF := Env → Option (Bool × Env)
def SndT (K : PySem.W.Frag) (t : TT) (f : TF) : Prop := ∀ B O I σ H env b env', Sta K B O I σ H env → f env = some (b, env') →
  ∀ Q : Bool → Hp → Prop, (∀ H', Sta K B O I σ H' env' → Q b H') → t σ H Q
abbrev AF := Env → Option (List RV × Env)
/-- arguments: each stays while the next is asked for -/
inductive PostA (K : PySem.W.Frag) (B : Hp) (O : List Addr) (I : List (Nat × Addr)) (σ : L2.St) (H : Hp) (env : Env) : List V → List RV → Prop
  | nil : PostA K B O I σ H env [] []
  | cons {v : V} {r : RV} {vs : List V} {rs : List RV} : Post K B O I σ H env v (frz r) → PostA K B O I σ H env vs rs → PostA K B O I σ H env (v :: vs) (frz r :: rs)
def SndA (K : PySem.W.Frag) (t : TA) (f : AF) : Prop := ∀ B O I σ H env rs env', Sta K B O I σ H env → f env = some (rs, env') →
  ∀ Q : List V → Hp → Prop, (∀ vs H', Sta K B O I σ H' env' → PostA K B O I σ H' env' vs rs → Q vs H') → t σ H Q
def fVar (i : Nat) : EF := fun env => match env[i]? with
  | some (.fz d) => some (.val d, env)
  | some (.o1 _) => some (.slot i, env)
  | some (.io _) => some (.slot i, env)
  | _ => none
def fC (d : D) : EF := fun env => some (.val d, env)
def fNil : AF := fun env => some ([], env)
def fCons (fa : EF) (fr : AF) : AF := fun env => do
  let (r, e1) ← fa env
  let (rs, e2) ← fr e1
  some (frz r :: rs, e2)
section
variable {K : PySem.W.Frag} {t ta tb : TE} {f fa fb : EF}
theorem snd_var (i : Nat) : Snd K (tVar i) (fVar i) := by
  intro B O I σ H env rv env' S e Q q
  unfold fVar at e
  split at e
  · cases e
    obtain ⟨v, h1, h2⟩ := S.fz i _ (by assumption)
    exact ⟨v, h1, q v H ⟨S, h2⟩⟩
  · cases e
    obtain ⟨p, xs, h1, _⟩ := S.ow i _ (.inl (by assumption))
    exact ⟨_, h1, q _ H ⟨S, h1⟩⟩
  · cases e
    obtain ⟨p, xs, h1, _⟩ := S.ow i _ (.inr (by assumption))
    exact ⟨_, h1, q _ H ⟨S, h1⟩⟩
  · cases e
/-- a written thing, a constant of the module -/
theorem snd_c {v : V} {d : D} (h : ∀ G, Dq K G v d) : Snd K (tC v) (fC d) := by
  intro B O I σ H env rv env' S e Q q
  cases e
  exact q v H ⟨S, h _⟩
theorem snd_int (i : Int) : Snd K (tC (.int i)) (fC (.int i)) := snd_c fun _ => .int i
theorem snd_bl (b : Bool) : Snd K (tC (.bl b)) (fC (.bl b)) := snd_c fun _ => .bl b
theorem snd_str (x : Str) : Snd K (tC (.str x)) (fC (.str x)) := snd_c fun _ => .str x
theorem snd_non : Snd K (tC .non) (fC .non) := snd_c fun _ => .non
theorem sa_nil : SndA K tNil fNil := by
  intro B O I σ H env rv env' S e Q q
  cases e
  exact q [] H S .nil
theorem PostA.later {B : Hp} {O : List Addr} {I : List (Nat × Addr)} {σ : L2.St} {H H' : Hp} {env env' : Env} (S : Sta K B O I σ H env) (S' : Sta K (keepH σ env H) O I σ H' env') :
    ∀ {vs : List V} {rs : List RV}, PostA K B O I σ H env vs rs → PostA K B O I σ H' env' vs rs
  | _, _, .nil => .nil
  | _, _, .cons h t => .cons (h.later S') (PostA.later S S' t)
theorem PostA.weak {B B' : Hp} {O : List Addr} {I : List (Nat × Addr)} {σ : L2.St} {H : Hp} {env : Env} (e : Same B B') :
    ∀ {vs : List V} {rs : List RV}, PostA K B' O I σ H env vs rs → PostA K B O I σ H env vs rs
  | _, _, .nil => .nil
  | _, _, @PostA.cons _ _ _ _ _ _ _ v r vs rs h t => .cons (by
      cases r with
      | ex n => exact False.elim h
      | val d => exact ⟨h.1.weak e, h.2⟩
      | slot i => exact ⟨h.1.weak e, h.2⟩
      | new ds => exact ⟨h.1.weak e, h.2⟩
      | tw dss => exact ⟨h.1.weak e, h.2⟩) (PostA.weak e t)
theorem sa_cons {te : TE} {t : TA} {fe : EF} {fr : AF} (h1 : Snd K te fe) (h2 : SndA K t fr) : SndA K (tCons te t) (fCons fe fr) := by
  intro B O I σ H env rv env' S e Q q
  unfold fCons at e
  cases e1 : fe env with
  | none => simp [e1] at e
  | some p1 =>
    obtain ⟨r1, env1⟩ := p1
    simp only [e1, Option.bind_eq_bind, Option.bind_some] at e
    cases e2 : fr env1 with
    | none => simp [e2] at e
    | some p2 =>
      obtain ⟨rs, env2⟩ := p2
      simp only [e2, Option.bind_some, Option.some.injEq, Prod.mk.injEq] at e
      obtain ⟨rfl, rfl⟩ := e
      refine h1 B O I σ H env r1 env1 S e1 _ fun v H1 P1 => ?_
      have P1' := P1.frz
      have S1 := P1'.sta
      refine h2 _ O I σ H1 env1 rs env2 S1.strong e2 _ fun vs H2 S2 P2 => ?_
      exact q (v :: vs) H2 (S2.weak S1.base_keep) (.cons (P1'.later S2) (PostA.weak S1.base_keep P2))
end
end Dv
namespace Dv
open PySem L2
theorem bnd {α β : Type} {o : Option α} {k : α → Option β} {z : β} (h : o.bind k = some z) : ∃ x, o = some x ∧ k x = some z := Option.bind_eq_some_iff.mp h
abbrev G2 := D → D → Option RV
def f2 (g : G2) (fa fb : EF) : EF := fun env => (fa env).bind fun a => (fb a.2).bind fun b => (deref b.2 (frz a.1)).bind fun x => (deref b.2 b.1).bind fun y => (g x y).bind fun z => some (z, b.2)
def Op2 (K : PySem.W.Frag) (r : R2) (g : G2) : Prop := ∀ B O I σ H env x y ra rb d e z, Post K B O I σ H env x ra → Post K B O I σ H env y rb → deref env ra = some d → deref env rb = some e → g d e = some z →
  ∀ Q : VK, (∀ v H', Post K B O I σ H' env v z → Q v H') → r x y H Q
section
variable {K : PySem.W.Frag} {B : Hp} {O : List Addr} {I : List (Nat × Addr)} {σ : L2.St} {H H' : Hp} {env env' : Env} {v : V} {t ta tb : TE} {f fa fb : EF}
theorem Post.weak {B' : Hp} {r : RV} (h : Post K B' O I σ H env v (Dv.frz r)) (e : Same B B') : Post K B O I σ H env v (Dv.frz r) := by
  cases r with
  | ex n => exact False.elim h
  | val d => exact ⟨h.1.weak e, h.2⟩
  | slot i => exact ⟨h.1.weak e, h.2⟩
  | new ds => exact ⟨h.1.weak e, h.2⟩
  | tw dss => exact ⟨h.1.weak e, h.2⟩
theorem Post.weakN {B' : Hp} {r : RV} (h : Post K B' O I σ H env v r) (e : Same B B') : Post K B O I σ H env v r := by
  cases r with
  | ex n => exact False.elim h
  | val d => exact ⟨h.1.weak e, h.2⟩
  | slot i => exact ⟨h.1.weak e, h.2⟩
  | new ds =>
    obtain ⟨p, xs, h0, h1, h2, h3, S, h4⟩ := h
    exact ⟨p, xs, h0, h1, e.free h2, h3, S.weak e, h4⟩
  | tw dss =>
    obtain ⟨p, qs, h0, h1, h2, h3, S, h4⟩ := h
    exact ⟨p, qs, h0, h1, h2, fun q hq => ⟨e.free (h3 q hq).1, (h3 q hq).2⟩, S.weak e, h4⟩
theorem snd_2 {r : R2} {g : G2} (h1 : Snd K ta fa) (h2 : Snd K tb fb) (ho : Op2 K r g) : Snd K (tOp r ta tb) (f2 g fa fb) := by
  intro B O I σ H env rv env' S e Q q
  obtain ⟨⟨r1, env1⟩, e1, e⟩ := bnd e
  obtain ⟨⟨r2, env2⟩, e2, e⟩ := bnd e
  obtain ⟨x, ex, e⟩ := bnd e
  obtain ⟨y, ey, e⟩ := bnd e
  obtain ⟨z, ez, e⟩ := bnd e
  cases e
  refine h1 B O I σ H env r1 env1 S e1 _ fun v H1 P1 => ?_
  have P1' := P1.frz
  have S1 := P1'.sta
  refine h2 _ O I σ H1 env1 r2 env2 S1.strong e2 _ fun w H2 P2 => ?_
  exact ho B O I σ H2 env2 v w _ r2 x y _ (P1'.later P2.sta) (P2.weakN S1.base_keep) ex ey ez Q q
theorem Op2.or {r s : R2} {g h : G2} (h1 : Op2 K r g) (h2 : Op2 K s h) : Op2 K (fun x y H Q => r x y H Q ∨ s x y H Q) (fun d e => (g d e).or (h d e)) := by
  intro B O I σ H env x y ra rb d e z P1 P2 e1 e2 ez Q q
  dsimp only at ez
  cases c : g d e with
  | some z' =>
    rw [c] at ez
    cases ez
    exact .inl (h1 B O I σ H env x y ra rb d e _ P1 P2 e1 e2 c Q q)
  | none =>
    rw [c] at ez
    exact .inr (h2 B O I σ H env x y ra rb d e z P1 P2 e1 e2 ez Q q)
theorem OpR.or {X : Cx} {f : Value → Value → Sem Value} {r s : R2} (h1 : OpR X f r) (h2 : OpR X f s) : OpR X f (fun x y H Q => r x y H Q ∨ s x y H Q) := by
  intro pins st σ H x y v u Q I rx ry h
  rcases h with h | h
  · exact h1 pins st σ H x y v u Q I rx ry h
  · exact h2 pins st σ H x y v u Q I rx ry h
/-- ints -/
def gI (C : Int → Int → Bool) (g : Int → Int → Int) : G2
  | .int i, .int j => if C i j then some (.val (.int (g i j))) else none
  | _, _ => none
def gI0 (g : Int → Int → Int) : G2
  | .int i, .int j => some (.val (.int (g i j)))
  | _, _ => none
def gIB (g : Int → Int → Bool) : G2
  | .int i, .int j => some (.val (.bl (g i j)))
  | _, _ => none
theorem op2_I {P : Int → Int → Prop} {C : Int → Int → Bool} {g : Int → Int → Int} (hc : ∀ i j, C i j = true → P i j) : Op2 K (rI P fun i j => .int (g i j)) (gI C g) := by
  intro B O I σ H env x y ra rb d e z P1 P2 e1 e2 ez Q q
  have d1 := P1.read e1
  have d2 := P2.read e2
  unfold gI at ez
  split at ez
  · cases d1
    cases d2
    split at ez
    · cases ez
      exact ⟨_, _, rfl, rfl, hc _ _ (by assumption), q _ H ⟨P1.sta, .int _⟩⟩
    · cases ez
  · cases ez
theorem op2_I0 {g : Int → Int → Int} : Op2 K (rI0 fun i j => .int (g i j)) (gI0 g) := by
  intro B O I σ H env x y ra rb d e z P1 P2 e1 e2 ez Q q
  have d1 := P1.read e1
  have d2 := P2.read e2
  unfold gI0 at ez
  split at ez
  · cases d1
    cases d2
    cases ez
    exact ⟨_, _, rfl, rfl, q _ H ⟨P1.sta, .int _⟩⟩
  · cases ez
theorem op2_IB {g : Int → Int → Bool} : Op2 K (rI0 fun i j => .bl (g i j)) (gIB g) := by
  intro B O I σ H env x y ra rb d e z P1 P2 e1 e2 ez Q q
  have d1 := P1.read e1
  have d2 := P2.read e2
  unfold gIB at ez
  split at ez
  · cases d1
    cases d2
    cases ez
    exact ⟨_, _, rfl, rfl, q _ H ⟨P1.sta, .bl _⟩⟩
  · cases ez
/-- a new list of things that stay -/
theorem post_new {p : Addr} {xs : List V} {ds : List D} (S : Sta K B O I σ H env) (hp : H p = none) (h : DqA K (mi H O) xs ds) : Post K B O I σ (upd H p (.lst xs)) env (.ref p) (.new ds) := by
  have hO : p ∉ O := fun z => by
    obtain ⟨o, e⟩ := S.dom p z
    rw [hp] at e
    cases e
  refine ⟨p, xs, rfl, upd_same, S.base.free hp, hO, ?_, ?_⟩
  · rw [mi_one_new hp]
    exact S
  · rw [mi_one_new hp]
    exact h
/-- a new tuple of things that stay -/
theorem post_tup {p : Addr} {xs : List V} {ds : List D} (S : Sta K B O I σ H env) (hp : H p = none) (h : DqA K (mi H O) xs ds) : Post K B O I σ (upd H p (.tup xs)) env (.ref p) (.val (.tup ds)) := by
  have hO : p ∉ O := fun z => by
    obtain ⟨o, e⟩ := S.dom p z
    rw [hp] at e
    cases e
  have e : Same H (upd H p (.tup xs)) := same_new hp
  exact ⟨S.grow e, .tup (.inl (.inl (mi_of hO upd_same))) (DqA.mono (mi_mono e) _ _ h)⟩
/-- + of lists -/
def gCat : G2
  | .lst a, .lst b => if a.length + b.length ≤ 10000000 then some (.new (a ++ b)) else none
  | _, _ => none
theorem line_of {n : Nat} (h : n ≤ 10000000) : n ≤ sizeLine := Nat.le_trans h (by decide)
theorem line_lt {n : Nat} (h : n ≤ 10000000) : n < sizeLine := Nat.lt_of_le_of_lt h (by decide)
theorem op2_cat : Op2 K rCat gCat := by
  intro B O I σ H env x y ra rb d e z P1 P2 e1 e2 ez Q q
  unfold gCat at ez
  split at ez
  · obtain ⟨p1, xs, rfl, h1, k1⟩ := P1.items e1
    obtain ⟨p2, ys, rfl, h2, k2⟩ := P2.items e2
    split at ez
    · cases ez
      rename_i hl
      refine ⟨p1, p2, xs, ys, rfl, rfl, h1, h2, ?_, fun p hp => q _ _ (post_new P1.sta hp (k1.append k2))⟩
      rw [k1.length, k2.length]
      exact line_of hl
    · cases ez
  · cases ez
/-- xs * k -/
def gRep : G2
  | .lst a, .int k => if a.length * k.toNat ≤ 10000000 ∧ -1000000000 ≤ k ∧ k ≤ 1000000000 then some (.new (List.replicate k.toNat a).flatten) else none
  | _, _ => none
theorem DqA.rep {G : Hp} {xs : List V} {ds : List D} (h : DqA K G xs ds) : ∀ n : Nat, DqA K G (List.replicate n xs).flatten (List.replicate n ds).flatten
  | 0 => .nil
  | n + 1 => by
    rw [List.replicate_succ, List.replicate_succ, List.flatten_cons, List.flatten_cons]
    exact h.append (DqA.rep h n)
theorem op2_rep : Op2 K rRep gRep := by
  intro B O I σ H env x y ra rb d e z P1 P2 e1 e2 ez Q q
  unfold gRep at ez
  split at ez
  · obtain ⟨p1, xs, rfl, h1, k1⟩ := P1.items e1
    have d2 := P2.read e2
    cases d2
    split at ez
    · cases ez
      rename_i hl
      refine ⟨p1, _, xs, rfl, rfl, h1, by omega, by omega, ?_, fun p hp => q _ _ (post_new P1.sta hp (k1.rep _))⟩
      rw [k1.length]
      exact line_of hl.1
    · cases ez
  · cases ez
mutual
def toPy : D → PyData
  | .non => .none
  | .bl b => .bool b
  | .int i => .int i
  | .str x => .str x
  | .lst xs => .list (toPys xs)
  | .tup xs => .tuple (toPys xs)
  | .scr _ => .dict []
  | .adr _ => .dict []
  | .nt xs => .tuple (toPys xs)
  | .dct _ _ => .dict []
def toPys : List D → List PyData
  | [] => []
  | d :: ds => toPy d :: toPys ds
end
mutual
theorem Dq.py {G : Hp} : ∀ (d : D) (v : V), Dq K G v d → PyData.canLay0 (toPy d) = true → Dp K G v (toPy d)
  | .non, _, h, _ => by cases h; simp only [toPy]; exact .non
  | .bl b, _, h, _ => by cases h; simp only [toPy]; exact .bl b
  | .int i, _, h, _ => by cases h; simp only [toPy]; exact .int i
  | .str x, _, h, _ => by cases h; simp only [toPy]; exact .str x
  | .lst ds, _, h, k => by
    cases h with
    | lst h1 h2 =>
      simp only [toPy] at k ⊢
      simp only [PyData.canLay0] at k
      exact .lst (.inl (.inl h1)) (DqA.py ds _ h2 k)
  | .tup ds, _, h, k => by
    cases h with
    | tup h1 h2 =>
      simp only [toPy] at k ⊢
      simp only [PyData.canLay0] at k
      exact .tup h1 (DqA.py ds _ h2 k)
  | .scr ns, _, h, k => by
    simp only [toPy, PyData.canLay0] at k
    cases k
  | .adr a, _, h, k => by
    simp only [toPy, PyData.canLay0] at k
    cases k
  | .nt ds, _, h, k => by
    cases h with
    | nt h1 h2 =>
      simp only [toPy] at k ⊢
      simp only [PyData.canLay0] at k
      exact .tup (.inl (.inl h1)) (DqA.py ds _ h2 k)
  | .dct _ _, _, h, k => by
    simp only [toPy, PyData.canLay0] at k
    cases k
theorem DqA.py {G : Hp} : ∀ (ds : List D) (vs : List V), DqA K G vs ds → PyData.canLayAll0 (toPys ds) = true → DpAll K G vs (toPys ds)
  | [], _, h, _ => by cases h; simp only [toPys]; exact .nil
  | d :: ds, _, h, k => by
    cases h with
    | cons h1 h2 =>
      simp only [toPys, PyData.canLayAll0, Bool.and_eq_true] at k ⊢
      exact .cons (Dq.py d _ h1 k.1) (DqA.py ds _ h2 k.2)
end
def shp (d : D) : Bool := SeqAt.shaped (toPy d)
def eqD (d e : D) : Bool := PyData.eqv (toPy d) (toPy e)
def gEq : G2 := fun d e => if shp d && shp e then some (.val (.bl (eqD d e))) else none
def gNe : G2 := fun d e => if shp d && shp e then some (.val (.bl (!eqD d e))) else none
theorem op2_eq : Op2 K (rEqD K) gEq := by
  intro B O I σ H env x y ra rb d e z P1 P2 e1 e2 ez Q q
  unfold gEq at ez
  split at ez
  · rename_i h
    cases ez
    rw [Bool.and_eq_true] at h
    have d1 := P1.read e1
    have d2 := P2.read e2
    exact ⟨_, _, Dq.py _ _ d1 (SeqAt.canLay_of_shaped h.1), Dq.py _ _ d2 (SeqAt.canLay_of_shaped h.2), h.1, h.2, q _ H ⟨P1.sta, .bl _⟩⟩
  · cases ez
theorem op2_ne : Op2 K (rNeD K) gNe := by
  intro B O I σ H env x y ra rb d e z P1 P2 e1 e2 ez Q q
  unfold gNe at ez
  split at ez
  · rename_i h
    cases ez
    rw [Bool.and_eq_true] at h
    have d1 := P1.read e1
    have d2 := P2.read e2
    exact ⟨_, _, Dq.py _ _ d1 (SeqAt.canLay_of_shaped h.1), Dq.py _ _ d2 (SeqAt.canLay_of_shaped h.2), h.1, h.2, q _ H ⟨P1.sta, .bl _⟩⟩
  · cases ez
theorem DqA.atI {G : Hp} {vs : List V} {ds : List D} {i : Int} {d : D} (h : DqA K G vs ds) (e : L2.atI ds i = some d) : ∃ v, L2.atI vs i = some v ∧ Dq K G v d := by
  unfold L2.atI at e ⊢
  obtain ⟨j, e1, e2⟩ := bnd e
  rw [h.length, e1]
  exact h.get e2
theorem atI_map {α β : Type} {f : α → β} {xs : List α} {i : Int} {d : α} (h : L2.atI xs i = some d) : L2.atI (xs.map f) i = some (f d) := by
  unfold L2.atI at h ⊢
  obtain ⟨j, j1, j2⟩ := bnd h
  rw [List.length_map, j1]
  show (List.map f xs)[j]? = _
  rw [List.getElem?_map, j2]
  rfl
def gIx : G2
  | .lst ds, .int i => (L2.atI ds i).bind fun d => some (.val d)
  | .tup ds, .int i => (L2.atI ds i).bind fun d => some (.val d)
  | .scr ns, .int i => (L2.atI ns i).bind fun n => some (.val (.int n))
  | .str z, .int i => if z.length ≤ 10000000 then (L2.atI z.cps.toList i).bind fun c => some (.val (.str ⟨#[c]⟩)) else none
  | .nt ds, .int i => (L2.atI ds i).bind fun d => some (.val d)
  | _, _ => none
theorem op2_ix : Op2 K (rIx K) gIx := by
  intro B O I σ H env x y ra rb d e z P1 P2 e1 e2 ez Q q
  unfold gIx at ez
  have d2 := P2.read e2
  split at ez
  · obtain ⟨p1, xs, rfl, h1, k1⟩ := P1.items e1
    cases d2
    obtain ⟨d, e3, e4⟩ := bnd ez
    cases e4
    obtain ⟨v, e5, k⟩ := k1.atI e3
    exact .inl ⟨p1, xs, _, v, rfl, rfl, .inl (.inl h1), e5, q v H ⟨P1.sta, k⟩⟩
  · obtain ⟨p1, xs, rfl, h1, k1⟩ := P1.tuple e1
    cases d2
    obtain ⟨d, e3, e4⟩ := bnd ez
    cases e4
    obtain ⟨v, e5, k⟩ := k1.atI e3
    exact .inr (.inl ⟨p1, xs, _, v, rfl, rfl, h1, e5, q v H ⟨P1.sta, k⟩⟩)
  · have d1 := P1.read e1
    cases d1 with
    | scr h =>
      cases d2
      obtain ⟨d, e3, e4⟩ := bnd ez
      cases e4
      exact .inl ⟨_, _, _, _, rfl, rfl, h, atI_map e3, q _ H ⟨P1.sta, .int _⟩⟩
  · have d1 := P1.read e1
    cases d1
    cases d2
    split at ez
    · obtain ⟨d, e3, e4⟩ := bnd ez
      cases e4
      exact .inr (.inr ⟨_, _, _, rfl, rfl, line_of (by assumption), e3, q _ H ⟨P1.sta, .str _⟩⟩)
    · cases ez
  · obtain ⟨p1, xs, rfl, h1, k1⟩ := P1.ntup e1
    cases d2
    obtain ⟨d, e3, e4⟩ := bnd ez
    cases e4
    obtain ⟨v, e5, k⟩ := k1.atI e3
    exact .inr (.inl ⟨p1, xs, _, v, rfl, rfl, h1, e5, q v H ⟨P1.sta, k⟩⟩)
  · cases ez
abbrev G1 := D → Option RV
def f1 (g : G1) (fa : EF) : EF := fun env => (fa env).bind fun a => (deref a.2 a.1).bind fun x => (g x).bind fun z => some (z, a.2)
def gNeg : G1
  | .int i => some (.val (.int (-i)))
  | _ => none
def derefs (env : Env) : List RV → Option (List D)
  | [] => some []
  | r :: rs => (deref env r).bind fun d => (derefs env rs).bind fun ds => some (d :: ds)
abbrev GB := List D → Option RV
def fB (g : GB) (fa : AF) : EF := fun env => (fa env).bind fun a => (derefs a.2 a.1).bind fun xs => (g xs).bind fun z => some (z, a.2)
def CallG (K : PySem.W.Frag) (r : List V → Hp → VK → Prop) (g : GB) : Prop := ∀ B O I σ H env vs rs ds z, Sta K B O I σ H env → PostA K B O I σ H env vs rs → derefs env rs = some ds → g ds = some z →
  ∀ Q : VK, (∀ v H', Post K B O I σ H' env v z → Q v H') → r vs H Q
theorem snd_b {r : List V → Hp → VK → Prop} {g : GB} {t : TA} {fa : AF} (h1 : SndA K t fa) (ho : CallG K r g) : Snd K (tCB r t) (fB g fa) := by
  intro B O I σ H env rv env' S e Q q
  obtain ⟨⟨r1, env1⟩, e1, e⟩ := bnd e
  obtain ⟨x, ex, e⟩ := bnd e
  obtain ⟨z, ez, e⟩ := bnd e
  cases e
  exact h1 B O I σ H env r1 env1 S e1 _ fun v H1 S1 P1 => ho B O I σ H1 env1 v r1 x _ S1 P1 ex ez Q q
theorem one_of {vs : List V} {rs : List RV} {d : D} (P : PostA K B O I σ H env vs rs) (e : derefs env rs = some [d]) : ∃ v r, vs = [v] ∧ Post K B O I σ H env v r ∧ deref env r = some d := by
  cases P with
  | nil => cases e
  | @cons v r vs rs h t =>
    obtain ⟨x, e1, e⟩ := bnd e
    obtain ⟨y, e2, e⟩ := bnd e
    cases e
    cases t with
    | nil => exact ⟨v, _, rfl, h, e1⟩
    | cons h t =>
      obtain ⟨x, e1, e⟩ := bnd e2
      obtain ⟨y, e2, e⟩ := bnd e
      cases e
theorem two_of {vs : List V} {rs : List RV} {d e : D} (P : PostA K B O I σ H env vs rs) (h : derefs env rs = some [d, e]) :
    ∃ v w r s, vs = [v, w] ∧ Post K B O I σ H env v r ∧ deref env r = some d ∧ Post K B O I σ H env w s ∧ deref env s = some e := by
  cases P with
  | nil => cases h
  | @cons v r vs rs h1 t =>
    obtain ⟨x, e1, h⟩ := bnd h
    obtain ⟨y, e2, h⟩ := bnd h
    cases h
    obtain ⟨w, s, rfl, k1, k2⟩ := one_of t e2
    exact ⟨v, w, _, s, rfl, h1, e1, k1, k2⟩
def gLen : GB
  | [.lst ds] => some (.val (.int ds.length))
  | [.tup ds] => some (.val (.int ds.length))
  | [.scr ns] => some (.val (.int ns.length))
  | [.nt ds] => some (.val (.int ds.length))
  | _ => none
theorem cg_len : CallG K (fun xs H Q => ∃ p ys, xs = [.ref p] ∧ (SqL K H p ys ∨ SqT K H p ys) ∧ Q (.int ys.length) H) gLen := by
  intro B O I σ H env vs rs ds z S P e ez Q q
  unfold gLen at ez
  split at ez
  · obtain ⟨v, r, rfl, P1, e1⟩ := one_of P e
    obtain ⟨p1, xs, rfl, h1, k1⟩ := P1.items e1
    cases ez
    exact ⟨p1, xs, rfl, .inl (.inl (.inl h1)), by rw [k1.length]; exact q _ H ⟨S, .int _⟩⟩
  · obtain ⟨v, r, rfl, P1, e1⟩ := one_of P e
    obtain ⟨p1, xs, rfl, h1, k1⟩ := P1.tuple e1
    cases ez
    exact ⟨p1, xs, rfl, .inr h1, by rw [k1.length]; exact q _ H ⟨S, .int _⟩⟩
  · obtain ⟨v, r, rfl, P1, e1⟩ := one_of P e
    have d1 := P1.read e1
    cases d1 with
    | scr h =>
      cases ez
      exact ⟨_, _, rfl, .inl h, by rw [List.length_map]; exact q _ H ⟨S, .int _⟩⟩
  · obtain ⟨v, r, rfl, P1, e1⟩ := one_of P e
    obtain ⟨p1, xs, rfl, h1, k1⟩ := P1.ntup e1
    cases ez
    exact ⟨p1, xs, rfl, .inr h1, by rw [k1.length]; exact q _ H ⟨S, .int _⟩⟩
  · cases ez
def gAbs : GB
  | [.int i] => some (.val (.int (if i < 0 then -i else i)))
  | _ => none
theorem cg_abs : CallG K (fun xs H Q => ∃ i, xs = [.int i] ∧ Q (.int (if i < 0 then -i else i)) H) gAbs := by
  intro B O I σ H env vs rs ds z S P e ez Q q
  unfold gAbs at ez
  split at ez
  · obtain ⟨v, r, rfl, P1, e1⟩ := one_of P e
    have d1 := P1.read e1
    cases d1
    cases ez
    exact ⟨_, rfl, q _ H ⟨S, .int _⟩⟩
  · cases ez
def gMax2 : GB
  | [.int i, .int j] => some (.val (.int (if j > i then j else i)))
  | _ => none
def gMin2 : GB
  | [.int i, .int j] => some (.val (.int (if j < i then j else i)))
  | _ => none
theorem cg_max2 : CallG K (fun xs H Q => ∃ i j, xs = [.int i, .int j] ∧ Q (.int (if j > i then j else i)) H) gMax2 := by
  intro B O I σ H env vs rs ds z S P e ez Q q
  unfold gMax2 at ez
  split at ez
  · obtain ⟨v, w, r, s, rfl, P1, e1, P2, e2⟩ := two_of P e
    have d1 := P1.read e1
    have d2 := P2.read e2
    cases d1
    cases d2
    cases ez
    exact ⟨_, _, rfl, q _ H ⟨S, .int _⟩⟩
  · cases ez
theorem cg_min2 : CallG K (fun xs H Q => ∃ i j, xs = [.int i, .int j] ∧ Q (.int (if j < i then j else i)) H) gMin2 := by
  intro B O I σ H env vs rs ds z S P e ez Q q
  unfold gMin2 at ez
  split at ez
  · obtain ⟨v, w, r, s, rfl, P1, e1, P2, e2⟩ := two_of P e
    have d1 := P1.read e1
    have d2 := P2.read e2
    cases d1
    cases d2
    cases ez
    exact ⟨_, _, rfl, q _ H ⟨S, .int _⟩⟩
  · cases ez
def gInt : GB
  | [.int i] => some (.val (.int i))
  | [.bl b] => some (.val (.int (if b then 1 else 0)))
  | _ => none
theorem cg_int : CallG K (fun xs H Q => (∃ i, xs = [.int i] ∧ Q (.int i) H) ∨ ∃ k, xs = [.bl k] ∧ Q (.int (if k then 1 else 0)) H) gInt := by
  intro B O I σ H env vs rs ds z S P e ez Q q
  unfold gInt at ez
  split at ez
  · obtain ⟨v, r, rfl, P1, e1⟩ := one_of P e
    have d1 := P1.read e1
    cases d1
    cases ez
    exact .inl ⟨_, rfl, q _ H ⟨S, .int _⟩⟩
  · obtain ⟨v, r, rfl, P1, e1⟩ := one_of P e
    have d1 := P1.read e1
    cases d1
    cases ez
    exact .inr ⟨_, rfl, q _ H ⟨S, .int _⟩⟩
  · cases ez
def gStr : GB
  | [.int i] => if i.natAbs.log2 < 1920 then some (.val (.str (toString i))) else none
  | _ => none
theorem cg_str : CallG K (fun xs H Q => ∃ i, xs = [.int i] ∧ i.natAbs.log2 < 1920 ∧ Q (.str (toString i)) H) gStr := by
  intro B O I σ H env vs rs ds z S P e ez Q q
  unfold gStr at ez
  split at ez
  · obtain ⟨v, r, rfl, P1, e1⟩ := one_of P e
    have d1 := P1.read e1
    cases d1
    split at ez
    · cases ez
      exact ⟨_, rfl, by assumption, q _ H ⟨S, .str _⟩⟩
    · cases ez
  · cases ez
/-- list(x) of a list, a tuple -/
def gList : GB
  | [.lst ds] => some (.new ds)
  | [.tup ds] => some (.new ds)
  | _ => none
/-- all, any, sum of a list -/
def allBls : List D → Option (List Bool)
  | [] => some []
  | .bl b :: r => (allBls r).bind fun bs => some (b :: bs)
  | _ => none
theorem allBls_eq : ∀ {ds : List D} {bs : List Bool}, allBls ds = some bs → ds = bs.map D.bl
  | [], _, h => by cases h; rfl
  | d :: ds, bs, h => by
    cases d with
    | bl b =>
      obtain ⟨x, e1, e2⟩ := bnd h
      cases e2
      rw [allBls_eq e1]
      rfl
    | _ => cases h
def allInts : List D → Option (List Int)
  | [] => some []
  | .int b :: r => (allInts r).bind fun bs => some (b :: bs)
  | _ => none
theorem allInts_eq : ∀ {ds : List D} {bs : List Int}, allInts ds = some bs → ds = bs.map D.int
  | [], _, h => by cases h; rfl
  | d :: ds, bs, h => by
    cases d with
    | int b =>
      obtain ⟨x, e1, e2⟩ := bnd h
      cases e2
      rw [allInts_eq e1]
      rfl
    | _ => cases h
theorem allInts_map : ∀ ns : List Int, allInts (ns.map D.int) = some ns
  | [] => rfl
  | n :: ns => by simp [allInts, allInts_map ns]
theorem allBls_map : ∀ ns : List Bool, allBls (ns.map D.bl) = some ns
  | [] => rfl
  | n :: ns => by simp [allBls, allBls_map ns]
def gAll : GB
  | [.lst ds] => (allBls ds).bind fun bs => some (.val (.bl (bs.all id)))
  | _ => none
theorem cg_all : CallG K (rAll K) gAll := by
  intro B O I σ H env vs rs ds z S P e ez Q q
  unfold gAll at ez
  split at ez
  · obtain ⟨v, r, rfl, P1, e1⟩ := one_of P e
    obtain ⟨p1, xs, rfl, h1, k1⟩ := P1.items e1
    obtain ⟨bs, e2, e3⟩ := bnd ez
    cases e3
    rw [allBls_eq e2] at k1
    rw [k1.isBls] at h1
    exact ⟨p1, bs, rfl, .inl (.inl h1), q _ H ⟨S, .bl _⟩⟩
  · cases ez
def allVal : List RV → Option (List D)
  | [] => some []
  | .val d :: r => (allVal r).bind fun ds => some (d :: ds)
  | _ => none
theorem post_vals : ∀ {vs : List V} {rs : List RV} {ds : List D}, PostA K B O I σ H env vs rs → allVal rs = some ds → DqA K (mi H O) vs ds
  | _, _, _, .nil, e => by cases e; exact .nil
  | _, _, _, @PostA.cons _ _ _ _ _ _ _ v r vs rs h t, e => by
    cases r with
    | ex n => exact False.elim h
    | val d =>
      obtain ⟨x, e1, e2⟩ := bnd e
      cases e2
      exact .cons h.2 (post_vals t e1)
    | slot i => cases e
    | new es =>
      obtain ⟨x, e1, e2⟩ := bnd e
      cases e2
      exact .cons h.2 (post_vals t e1)
    | tw dss =>
      obtain ⟨x, e1, e2⟩ := bnd e
      cases e2
      exact .cons h.2 (post_vals t e1)
def fTup (fa : AF) : EF := fun env => (fa env).bind fun a => (allVal a.1).bind fun ds => if ds.length ≤ 10000000 then some (.val (.tup ds), a.2) else none
def fLst (fa : AF) : EF := fun env => (fa env).bind fun a => (allVal a.1).bind fun ds => if ds.length ≤ 10000000 then some (.new ds, a.2) else none
theorem snd_tup {t : TA} {fa : AF} (h1 : SndA K t fa) : Snd K (tTup t) (fTup fa) := by
  intro B O I σ H env rv env' S e Q q
  obtain ⟨⟨r1, env1⟩, e1, e⟩ := bnd e
  obtain ⟨ds, e2, e⟩ := bnd e
  dsimp only at e2 e
  split at e
  · cases e
    refine h1 B O I σ H env r1 _ S e1 _ fun vs H1 S1 P1 => ?_
    have k := post_vals P1 e2
    refine ⟨by rw [k.length]; exact line_of (by assumption), fun p hp => q _ _ (post_tup S1 hp k)⟩
  · cases e
theorem snd_lst {t : TA} {fa : AF} (h1 : SndA K t fa) : Snd K (tLst t) (fLst fa) := by
  intro B O I σ H env rv env' S e Q q
  obtain ⟨⟨r1, env1⟩, e1, e⟩ := bnd e
  obtain ⟨ds, e2, e⟩ := bnd e
  dsimp only at e2 e
  split at e
  · cases e
    refine h1 B O I σ H env r1 _ S e1 _ fun vs H1 S1 P1 => ?_
    have k := post_vals P1 e2
    refine ⟨by rw [k.length]; exact line_of (by assumption), fun p hp => q _ _ (post_new S1 hp k)⟩
  · cases e
def fT (f : EF) : TF := fun env => (f env).bind fun a => match a.1 with
  | .val (.bl b) => some (b, a.2)
  | _ => none
theorem fT_of {f : EF} {env env' : Env} {b : Bool} (e : fT f env = some (b, env')) : f env = some (.val (.bl b), env') := by
  obtain ⟨⟨r1, env1⟩, e1, e⟩ := bnd e
  dsimp only at e
  split at e
  · cases e
    rw [e1]
  · cases e
theorem st_test (h : Snd K t f) : SndT K (tTest t) (fT f) := by
  intro B O I σ H env b env' S e Q q
  refine h B O I σ H env _ _ S (fT_of e) _ fun v H1 P1 => ?_
  obtain ⟨S1, d1⟩ := P1
  cases d1
  exact ⟨b, rfl, q _ S1⟩
theorem st_B (h : Snd K t f) : SndT K (tB t) (fT f) := by
  intro B O I σ H env b env' S e Q q
  refine h B O I σ H env _ _ S (fT_of e) _ fun v H1 P1 => ?_
  obtain ⟨S1, d1⟩ := P1
  cases d1
  exact ⟨b, rfl, q _ S1⟩
def fAnd (a b : TF) : TF := fun env => (a env).bind fun x => if x.1 then b x.2 else some (false, x.2)
def fOr (a b : TF) : TF := fun env => (a env).bind fun x => if x.1 then some (true, x.2) else b x.2
def fNot (a : TF) : TF := fun env => (a env).bind fun x => some (!x.1, x.2)
section
variable {t u : TT} {f g : TF}
theorem st_and (h1 : SndT K t f) (h2 : SndT K u g) : SndT K (tAnd t u) (fAnd f g) := by
  intro B O I σ H env b env' S e Q q
  obtain ⟨⟨b1, env1⟩, e1, e⟩ := bnd e
  refine h1 B O I σ H env b1 env1 S e1 _ fun H1 S1 => ?_
  cases b1 with
  | true =>
    rw [if_pos rfl]
    exact h2 B O I σ H1 env1 b env' S1 e Q q
  | false =>
    rw [if_neg Bool.false_ne_true]
    cases e
    exact q H1 S1
theorem st_or (h1 : SndT K t f) (h2 : SndT K u g) : SndT K (tOr t u) (fOr f g) := by
  intro B O I σ H env b env' S e Q q
  obtain ⟨⟨b1, env1⟩, e1, e⟩ := bnd e
  refine h1 B O I σ H env b1 env1 S e1 _ fun H1 S1 => ?_
  cases b1 with
  | true =>
    rw [if_pos rfl]
    cases e
    exact q H1 S1
  | false =>
    rw [if_neg Bool.false_ne_true]
    exact h2 B O I σ H1 env1 b env' S1 e Q q
theorem st_not (h1 : SndT K t f) : SndT K (tNot t) (fNot f) := by
  intro B O I σ H env b env' S e Q q
  obtain ⟨⟨b1, env1⟩, e1, e⟩ := bnd e
  cases e
  exact h1 B O I σ H env b1 _ S e1 _ fun H1 S1 => q H1 S1
end
def fAndV (a b : EF) : EF := fun env => (fT a env).bind fun x => if x.1 then b x.2 else some (.val (.bl false), x.2)
def fOrV (a b : EF) : EF := fun env => (fT a env).bind fun x => if x.1 then some (.val (.bl true), x.2) else b x.2
def fNotV (a : EF) : EF := fun env => (fT a env).bind fun x => some (.val (.bl (!x.1)), x.2)
def fIfE (c : TF) (a b : EF) : EF := fun env => (c env).bind fun x => if x.1 then a x.2 else b x.2
theorem snd_and (h1 : Snd K ta fa) (h2 : Snd K tb fb) : Snd K (tAndV ta tb) (fAndV fa fb) := by
  intro B O I σ H env rv env' S e Q q
  obtain ⟨⟨b1, env1⟩, e1, e⟩ := bnd e
  refine h1 B O I σ H env _ _ S (fT_of e1) _ fun v H1 P1 => ?_
  obtain ⟨S1, d1⟩ := P1
  cases d1
  refine ⟨b1, rfl, ?_⟩
  cases b1 with
  | true =>
    rw [if_pos rfl]
    exact h2 B O I σ H1 env1 rv env' S1 e Q q
  | false =>
    rw [if_neg Bool.false_ne_true]
    cases e
    exact q _ H1 ⟨S1, .bl _⟩
theorem snd_not (h1 : Snd K ta fa) : Snd K (tNotV ta) (fNotV fa) := by
  intro B O I σ H env rv env' S e Q q
  obtain ⟨⟨b1, env1⟩, e1, e⟩ := bnd e
  cases e
  refine h1 B O I σ H env _ _ S (fT_of e1) _ fun v H1 P1 => ?_
  obtain ⟨S1, d1⟩ := P1
  cases d1
  exact ⟨b1, rfl, q _ H1 ⟨S1, .bl _⟩⟩
end
end Dv
namespace Dv
open PySem L2
inductive Out where
  | nx (env : Env) | rt (r : RV) (env : Env) | bk (env : Env) | ct (env : Env)
abbrev SFn := Env → Option Out
def Sub (B : Hp) (I : List (Nat × Addr)) (O O' : List Addr) : Prop := (∀ a, a ∈ O → (B a ≠ none ∨ a ∈ I.map (·.2)) → a ∈ O') ∧ ∀ a, a ∈ O' → a ∈ O ∨ B a = none
theorem Sub.refl {B : Hp} {I : List (Nat × Addr)} {O : List Addr} : Sub B I O O := ⟨fun _ h _ => h, fun _ h => .inl h⟩
theorem Sub.trans {B : Hp} {I : List (Nat × Addr)} {O O1 O2 : List Addr} (h : Sub B I O O1) (k : Sub B I O1 O2) : Sub B I O O2 :=
  ⟨fun a z y => k.1 a (h.1 a z y) y, fun a z => (k.2 a z).elim (fun y => h.2 a y) .inr⟩
theorem Sub.weak {B B' : Hp} {I : List (Nat × Addr)} {O O' : List Addr} (h : Sub B' I O O') (e : Same B B') : Sub B I O O' := ⟨fun a z y => h.1 a z (y.imp (fun n q => n (e.free q)) id), fun a z => (h.2 a z).imp id e.free⟩
/-- what is wished of a refusal -/
abbrev WN := Nat → L2.St → Hp → Prop
def OutOk (K : PySem.W.Frag) (W : WN) (B : Hp) (O : List Addr) (I : List (Nat × Addr)) (D : Ends) : Out → Prop
  | .nx env => ∀ O' σ' H', Sub B I O O' → Sta K B O' I σ' H' env → D.nx σ' H'
  | .rt (.ex n) env => ∀ O' σ' H', Sub B I O O' → Sta K B O' I σ' H' env → W n σ' H'
  | .rt r env => ∀ O' σ' H' v, Sub B I O O' → Post K B O' I σ' H' env v r → D.rt v H'
  | .bk env => ∀ O' σ' H', Sub B I O O' → Sta K B O' I σ' H' env → D.bk σ' H'
  | .ct env => ∀ O' σ' H', Sub B I O O' → Sta K B O' I σ' H' env → D.ct σ' H'
def SndS (K : PySem.W.Frag) (W : WN) (t : TS) (g : SFn) : Prop := ∀ B O I σ H env o, Sta K B O I σ H env → g env = some o → ∀ D, OutOk K W B O I D o → t D σ H
section
variable {K : PySem.W.Frag} {B : Hp} {O : List Addr} {I : List (Nat × Addr)} {σ : L2.St} {H H' : Hp} {env env' : Env} {v : V} {t ta tb te : TE} {f fa fb fe : EF} {W : WN}
theorem OutOk.sub {O' : List Addr} {D : Ends} {o : Out} (s : Sub B I O O') (h : OutOk K W B O I D o) : OutOk K W B O' I D o := by
  cases o with
  | nx e => exact fun O2 σ2 H2 k S => h O2 σ2 H2 (s.trans k) S
  | rt r e =>
    cases r with
    | ex n => exact fun O2 σ2 H2 k S => h O2 σ2 H2 (s.trans k) S
    | val d => exact fun O2 σ2 H2 v k S => h O2 σ2 H2 v (s.trans k) S
    | slot i => exact fun O2 σ2 H2 v k S => h O2 σ2 H2 v (s.trans k) S
    | new ds => exact fun O2 σ2 H2 v k S => h O2 σ2 H2 v (s.trans k) S
    | tw ds => exact fun O2 σ2 H2 v k S => h O2 σ2 H2 v (s.trans k) S
  | bk e => exact fun O2 σ2 H2 k S => h O2 σ2 H2 (s.trans k) S
  | ct e => exact fun O2 σ2 H2 k S => h O2 σ2 H2 (s.trans k) S
theorem OutOk.strong {B' : Hp} {D : Ends} {o : Out} (e : Same B B') (h : OutOk K W B O I D o) : OutOk K W B' O I D o := by
  cases o with
  | nx _ => exact fun O2 σ2 H2 k S => h O2 σ2 H2 (k.weak e) (S.weak e)
  | rt r _ =>
    cases r with
    | ex n => exact fun O2 σ2 H2 k S => h O2 σ2 H2 (k.weak e) (S.weak e)
    | val d => exact fun O2 σ2 H2 v k S => h O2 σ2 H2 v (k.weak e) (Post.weakN (r := .val d) S e)
    | slot i => exact fun O2 σ2 H2 v k S => h O2 σ2 H2 v (k.weak e) (Post.weakN (r := .slot i) S e)
    | new ds => exact fun O2 σ2 H2 v k S => h O2 σ2 H2 v (k.weak e) (Post.weakN (r := .new ds) S e)
    | tw ds => exact fun O2 σ2 H2 v k S => h O2 σ2 H2 v (k.weak e) (Post.weakN (r := .tw ds) S e)
  | bk _ => exact fun O2 σ2 H2 k S => h O2 σ2 H2 (k.weak e) (S.weak e)
  | ct _ => exact fun O2 σ2 H2 k S => h O2 σ2 H2 (k.weak e) (S.weak e)
theorem OutOk.rt {D : Ends} {r : RV} {e : Env} (h : OutOk K W B O I D (.rt r e)) {O' : List Addr} {σ' : L2.St} {H' : Hp} {v : V} (s : Sub B I O O') (P : Post K B O' I σ' H' e v r) : D.rt v H' := by
  cases r with
  | ex n => exact False.elim P
  | val d => exact h O' σ' H' v s P
  | slot i => exact h O' σ' H' v s P
  | new ds => exact h O' σ' H' v s P
  | tw ds => exact h O' σ' H' v s P
theorem OutOk.ret {D D' : Ends} {r : RV} {e : Env} (h : OutOk K W B O I D (.rt r e)) (q : ∀ v H, D.rt v H → D'.rt v H) : OutOk K W B O I D' (.rt r e) := by
  cases r with
  | ex n => exact h
  | val d => exact fun O' σ' H' v s P => q _ _ (h O' σ' H' v s P)
  | slot i => exact fun O' σ' H' v s P => q _ _ (h O' σ' H' v s P)
  | new ds => exact fun O' σ' H' v s P => q _ _ (h O' σ' H' v s P)
  | tw ds => exact fun O' σ' H' v s P => q _ _ (h O' σ' H' v s P)
def isIo (env : Env) (i : Nat) : Bool := match env[i]? with
  | some (.io _) => true
  | _ => false
theorem isIo_of {i : Nat} {ds : List D} (h : env[i]? = some (.io ds)) : isIo env i = true := by
  unfold isIo
  rw [h]
def putS (i : Nat) (s : SV) (env : Env) : Option Env := if isIo env i = true ∨ env.length ≤ i then none else some (env.set i s)
theorem putS_of {i : Nat} {s : SV} (h : putS i s env = some env') : isIo env i = false ∧ i < env.length ∧ env' = env.set i s := by
  unfold putS at h
  split at h
  · cases h
  · rename_i n
    cases h
    refine ⟨?_, ?_, rfl⟩
    · cases c : isIo env i with
      | true => exact absurd (.inl c) n
      | false => rfl
    · exact Nat.lt_of_not_le fun z => n (.inr z)
theorem own_set {i j : Nat} {s : SV} {ds : List D} (hj : j ≠ i) : OwnAt (env.set i s) j ds ↔ OwnAt env j ds := by
  unfold OwnAt
  rw [List.getElem?_set_ne (Ne.symm hj)]
theorem nw_set {i j : Nat} {s : SV} {w : OV} (hl : i < env.length) (hs : ∀ w, s ≠ .nw w) (h : (env.set i s)[j]? = some (.nw w)) : j ≠ i ∧ env[j]? = some (.nw w) := by
  by_cases c : j = i
  · subst c
    rw [List.getElem?_set_self hl] at h
    cases h
    exact absurd rfl (hs w)
  · rw [List.getElem?_set_ne (Ne.symm c)] at h
    exact ⟨c, h⟩
theorem own_fz {i : Nat} {d : D} {ds : List D} (hi : i < env.length) : ¬ OwnAt (env.set i (.fz d)) i ds := by
  unfold OwnAt
  rw [List.getElem?_set_self hi]
  rintro (h | h) <;> cases h
theorem own_no {i : Nat} {ds : List D} (hi : i < env.length) : ¬ OwnAt (env.set i .no) i ds := by
  unfold OwnAt
  rw [List.getElem?_set_self hi]
  rintro (h | h) <;> cases h
/-- a name gets a thing that stays -/
theorem Sta.put {i : Nat} {d : D} (S : Sta K B O I σ H env) (h : Dq K (mi H O) v d) (e : putS i (.fz d) env = some env') : Sta K B O I (σ.set i (some v)) H env' := by
  obtain ⟨h1, h2, rfl⟩ := putS_of e
  have hs : i < σ.length := by rw [S.len]; exact h2
  have ne : ∀ j ds, OwnAt (env.set i (.fz d)) j ds → j ≠ i := fun j ds z y => by
    subst y
    exact own_fz h2 z
  refine ⟨by simp [S.len], fun j e hj => ?_, fun j ds hj => ?_, fun j k ds es p hj hk e1 e2 => ?_, S.base, S.dom, fun j p hj => ?_, ?_, S.nt⟩
  · by_cases c : j = i
    · subst c
      rw [List.getElem?_set_self h2] at hj
      cases hj
      exact ⟨v, List.getElem?_set_self hs, h⟩
    · rw [List.getElem?_set_ne (Ne.symm c)] at hj ⊢
      exact S.fz j e hj
  · have c := ne j ds hj
    obtain ⟨p, xs, k1, k2⟩ := S.ow j ds ((own_set c).mp hj)
    exact ⟨p, xs, by rw [List.getElem?_set_ne (Ne.symm c)]; exact k1, k2⟩
  · have c := ne j ds hj
    have c' := ne k es hk
    rw [List.getElem?_set_ne (Ne.symm c)] at e1
    rw [List.getElem?_set_ne (Ne.symm c')] at e2
    exact S.sep j k ds es p ((own_set c).mp hj) ((own_set c').mp hk) e1 e2
  · obtain ⟨k1, ds, k2⟩ := S.pin j p hj
    have c : j ≠ i := fun z => by
      subst z
      rw [isIo_of k2] at h1
      cases h1
    rw [List.getElem?_set_ne (Ne.symm c), List.getElem?_set_ne (Ne.symm c)]
    exact ⟨k1, ds, k2⟩
  · refine NwOk.go S.nw (fun j w hj => ?_) (fun j ds a hj e => ?_) (fun a h1 h2 _ _ => ⟨h1, h2, rfl⟩) (Same.refl _) S.dom
    · obtain ⟨c, k⟩ := nw_set h2 (by intro w z; cases z) hj
      exact ⟨k, List.getElem?_set_ne (Ne.symm c)⟩
    · have c := ne j ds hj
      rw [List.getElem?_set_ne (Ne.symm c)] at e
      exact .inl ⟨ds, (own_set c).mp hj, e⟩
/-- a name is forgotten (its value may be anything) -/
theorem Sta.drop {i : Nat} {w : Option V} (S : Sta K B O I σ H env) (e : putS i .no env = some env') : Sta K B O I (σ.set i w) H env' := by
  obtain ⟨h1, h2, rfl⟩ := putS_of e
  have ne : ∀ j ds, OwnAt (env.set i .no) j ds → j ≠ i := fun j ds z y => by
    subst y
    exact own_no h2 z
  refine ⟨by simp [S.len], fun j e hj => ?_, fun j ds hj => ?_, fun j k ds es p hj hk e1 e2 => ?_, S.base, S.dom, fun j p hj => ?_, ?_, S.nt⟩
  · by_cases c : j = i
    · subst c
      rw [List.getElem?_set_self h2] at hj
      cases hj
    · rw [List.getElem?_set_ne (Ne.symm c)] at hj ⊢
      exact S.fz j e hj
  · have c := ne j ds hj
    obtain ⟨p, xs, k1, k2⟩ := S.ow j ds ((own_set c).mp hj)
    exact ⟨p, xs, by rw [List.getElem?_set_ne (Ne.symm c)]; exact k1, k2⟩
  · have c := ne j ds hj
    have c' := ne k es hk
    rw [List.getElem?_set_ne (Ne.symm c)] at e1
    rw [List.getElem?_set_ne (Ne.symm c')] at e2
    exact S.sep j k ds es p ((own_set c).mp hj) ((own_set c').mp hk) e1 e2
  · obtain ⟨k1, ds, k2⟩ := S.pin j p hj
    have c : j ≠ i := fun z => by
      subst z
      rw [isIo_of k2] at h1
      cases h1
    rw [List.getElem?_set_ne (Ne.symm c), List.getElem?_set_ne (Ne.symm c)]
    exact ⟨k1, ds, k2⟩
  · refine NwOk.go S.nw (fun j w hj => ?_) (fun j ds a hj e => ?_) (fun a h1 h2 _ _ => ⟨h1, h2, rfl⟩) (Same.refl _) S.dom
    · obtain ⟨c, k⟩ := nw_set h2 (by intro w z; cases z) hj
      exact ⟨k, List.getElem?_set_ne (Ne.symm c)⟩
    · have c := ne j ds hj
      rw [List.getElem?_set_ne (Ne.symm c)] at e
      exact .inl ⟨ds, (own_set c).mp hj, e⟩
theorem mi_mi {p : Addr} : mi (mi H [p]) O = mi H (p :: O) := by
  funext a
  unfold mi
  by_cases h1 : a ∈ O
  · rw [if_pos h1, if_pos (List.mem_cons_of_mem _ h1)]
  · rw [if_neg h1]
    by_cases h2 : a = p
    · subst h2
      rw [if_pos (List.mem_singleton.mpr rfl), if_pos List.mem_cons_self]
    · rw [if_neg (fun z => h2 (List.mem_singleton.mp z)), if_neg (fun z => (List.mem_cons.mp z).elim h2 h1)]
/-- a name gets a new list as its own -/
theorem Sta.owned {i : Nat} {ds : List D} (P : Post K B O I σ H env v (.new ds)) (e : putS i (.o1 ds) env = some env') : ∃ O', Sub B I O O' ∧ Sta K B O' I (σ.set i (some v)) H env' := by
  obtain ⟨p, xs, rfl, hp, hB, hO, S, hx⟩ := P
  obtain ⟨h1, h2, rfl⟩ := putS_of e
  have hs : i < σ.length := by rw [S.len]; exact h2
  have low : ∀ q ys, mi H [p] q = some ys → q ≠ p ∧ H q = some ys := fun q ys z => by
    obtain ⟨z1, z2⟩ := mi_some z
    exact ⟨fun y => z1 (List.mem_singleton.mpr y), z2⟩
  refine ⟨p :: O, ⟨fun a h _ => List.mem_cons_of_mem _ h, fun a h => (List.mem_cons.mp h).elim (fun z => .inr (z ▸ hB)) .inl⟩, ?_⟩
  refine ⟨by simp [S.len], fun j e hj => ?_, fun j es hj => ?_, fun j k es gs q hj hk e1 e2 => ?_, S.base.trans mi_same, fun q hq => ?_, fun j q hj => ?_, ?_, fun q xs hq => ?_⟩
  · by_cases c : j = i
    · subst c
      rw [List.getElem?_set_self h2] at hj
      cases hj
    · rw [List.getElem?_set_ne (Ne.symm c)] at hj ⊢
      obtain ⟨w, k1, k2⟩ := S.fz j e hj
      rw [mi_mi] at k2
      exact ⟨w, k1, k2⟩
  · by_cases c : j = i
    · subst c
      have ee : es = ds := by
        unfold OwnAt at hj
        rw [List.getElem?_set_self h2] at hj
        rcases hj with h | h <;> cases h
        rfl
      subst ee
      rw [mi_mi] at hx
      exact ⟨p, xs, List.getElem?_set_self hs, List.mem_cons_self, hp, hx, hB⟩
    · obtain ⟨q, ys, k1, k2, k3, k4, k5⟩ := S.ow j es ((own_set c).mp hj)
      rw [mi_mi] at k4
      exact ⟨q, ys, by rw [List.getElem?_set_ne (Ne.symm c)]; exact k1, List.mem_cons_of_mem _ k2, (low _ _ k3).2, k4, k5⟩
  · have key : ∀ j es q, j ≠ i → OwnAt (env.set i (.o1 ds)) j es → (σ.set i (some (V.ref p)))[j]? = some (some (.ref q)) → q ≠ p := fun j es q c z y => by
      obtain ⟨q', ys, k1, k2, k3, k4, k5⟩ := S.ow j es ((own_set c).mp z)
      rw [List.getElem?_set_ne (Ne.symm c), k1] at y
      cases y
      exact (low _ _ k3).1
    by_cases c : j = i
    · by_cases c' : k = i
      · rw [c, c']
      · subst c
        rw [List.getElem?_set_self hs] at e1
        cases e1
        exact absurd rfl (key k gs _ c' hk e2)
    · by_cases c' : k = i
      · subst c'
        rw [List.getElem?_set_self hs] at e2
        cases e2
        exact absurd rfl (key j es _ c hj e1)
      · rw [List.getElem?_set_ne (Ne.symm c)] at e1
        rw [List.getElem?_set_ne (Ne.symm c')] at e2
        exact S.sep j k es gs q ((own_set c).mp hj) ((own_set c').mp hk) e1 e2
  · rcases List.mem_cons.mp hq with rfl | hq
    · exact ⟨_, hp⟩
    · obtain ⟨o, z⟩ := S.dom q hq
      exact ⟨o, (low _ _ z).2⟩
  · obtain ⟨k1, es, k2⟩ := S.pin j q hj
    have c : j ≠ i := fun z => by
      subst z
      rw [isIo_of k2] at h1
      cases h1
    rw [List.getElem?_set_ne (Ne.symm c), List.getElem?_set_ne (Ne.symm c)]
    exact ⟨k1, es, k2⟩
  · have e0 : Same (mi (mi H [p]) O) (mi H (p :: O)) := by
      rw [mi_mi]
      exact Same.refl _
    refine NwOk.go S.nw (fun j w hj => ?_) (fun j es a hj e => ?_) (fun a h1 h2 ⟨o, h3⟩ _ => ⟨List.mem_cons_of_mem _ h1, h2, by rw [h3]; exact (low _ _ h3).2⟩) e0 S.dom
    · obtain ⟨c, k⟩ := nw_set h2 (by intro w z; cases z) hj
      exact ⟨k, List.getElem?_set_ne (Ne.symm c)⟩
    · by_cases c : j = i
      · subst c
        rw [List.getElem?_set_self hs] at e
        cases e
        exact .inr hO
      · rw [List.getElem?_set_ne (Ne.symm c)] at e
        exact .inl ⟨es, (own_set c).mp hj, e⟩
  · rcases List.mem_cons.mp hq with rfl | hq
    · rw [hp]
      exact fun z => by cases z
    · exact S.ntS hq (fun o z => (low _ _ z).2) xs
/-- an own list is changed in its place -/
def upO (i : Nat) (h : List D → Option (List D)) (env : Env) : Option Env := match env[i]? with
  | some (.o1 ds) => (h ds).bind fun es => some (env.set i (.o1 es))
  | some (.io ds) => (h ds).bind fun es => some (env.set i (.io es))
  | _ => none
theorem upO_of {i : Nat} {h : List D → Option (List D)} (e : upO i h env = some env') : ∃ ds es k, OwnAt env i ds ∧ h ds = some es ∧ (k = SV.o1 ∨ k = SV.io) ∧ env[i]? = some (k ds) ∧ env' = env.set i (k es) := by
  unfold upO at e
  split at e
  · obtain ⟨es, e1, e2⟩ := bnd e
    cases e2
    exact ⟨_, es, .o1, .inl (by assumption), e1, .inl rfl, by assumption, rfl⟩
  · obtain ⟨es, e1, e2⟩ := bnd e
    cases e2
    exact ⟨_, es, .io, .inr (by assumption), e1, .inr rfl, by assumption, rfl⟩
  · cases e
theorem Sta.up {i : Nat} {h : List D → Option (List D)} (S : Sta K B O I σ H env) (e : upO i h env = some env') :
    ∃ p xs ds es, σ[i]? = some (some (.ref p)) ∧ H p = some (.lst xs) ∧ DqA K (mi H O) xs ds ∧ OwnAt env i ds ∧ h ds = some es ∧ ∀ ys, DqA K (mi H O) ys es → Sta K B O I σ (upd H p (.lst ys)) env' := by
  obtain ⟨ds, es, k, h1, h2, hk, h3, rfl⟩ := upO_of e
  obtain ⟨p, xs, s1, s2, s3, s4, s5⟩ := S.ow i ds h1
  have hi : i < env.length := (List.getElem?_eq_some_iff.mp h3).1
  refine ⟨p, xs, ds, es, s1, s3, s4, h1, h2, fun ys hy => ?_⟩
  have hm : mi (upd H p (.lst ys)) O = mi H O := mi_upd_in s2
  have own' : ∀ j gs, OwnAt (env.set i (k es)) j gs → ∃ gs', OwnAt env j gs' ∧ (j ≠ i → gs' = gs) ∧ (j = i → gs = es) := fun j gs z => by
    by_cases c : j = i
    · subst c
      refine ⟨ds, h1, fun z => absurd rfl z, fun _ => ?_⟩
      unfold OwnAt at z
      rw [List.getElem?_set_self hi] at z
      rcases hk with rfl | rfl <;> rcases z with z | z <;> cases z <;> rfl
    · exact ⟨gs, (own_set c).mp z, fun _ => rfl, fun z => absurd z c⟩
  refine ⟨by simp [S.len], fun j e hj => ?_, fun j gs hj => ?_, fun j l gs fs q hj hl e1 e2 => ?_, fun a o ha => ?_, fun q hq => ?_, fun j q hj => ?_, ?_, fun q xs hq => ?_⟩
  · rw [hm]
    by_cases c : j = i
    · subst c
      rw [List.getElem?_set_self hi] at hj
      rcases hk with rfl | rfl <;> cases hj
    · rw [List.getElem?_set_ne (Ne.symm c)] at hj
      exact S.fz j e hj
  · rw [hm]
    obtain ⟨gs', o1, o2, o3⟩ := own' j gs hj
    by_cases c : j = i
    · subst c
      rw [o3 rfl]
      exact ⟨p, ys, s1, s2, upd_same, hy, s5⟩
    · rw [← o2 c]
      obtain ⟨q, zs, k1, k2, k3, k4, k5⟩ := S.ow j gs' o1
      have nq : q ≠ p := fun z => by
        subst z
        exact c (S.sep j i gs' ds q o1 h1 k1 s1)
      exact ⟨q, zs, k1, k2, by rw [upd_ne nq]; exact k3, k4, k5⟩
  · obtain ⟨gs', o1, _⟩ := own' j gs hj
    obtain ⟨fs', o2, _⟩ := own' l fs hl
    exact S.sep j l gs' fs' q o1 o2 e1 e2
  · have na : a ≠ p := fun z => by
      subst z
      rw [ha] at s5
      cases s5
    rw [upd_ne na]
    exact S.base a o ha
  · by_cases c : q = p
    · subst c
      exact ⟨_, upd_same⟩
    · rw [upd_ne c]
      exact S.dom q hq
  · obtain ⟨k1, gs, k2⟩ := S.pin j q hj
    by_cases c : j = i
    · subst c
      rw [h3] at k2
      rcases hk with rfl | rfl
      · cases k2
      · exact ⟨k1, es, List.getElem?_set_self hi⟩
    · rw [List.getElem?_set_ne (Ne.symm c)]
      exact ⟨k1, gs, k2⟩
  · refine NwOk.go S.nw (fun j w hj => ?_) (fun j gs a hj e => ?_) (fun a g1 g2 _ g4 => ⟨g1, g2, ?_⟩) (by rw [hm]; exact Same.refl _) S.dom
    · exact ⟨(nw_set hi (fun w z => by rcases hk with rfl | rfl <;> cases z) hj).2, rfl⟩
    · obtain ⟨gs', o1, _⟩ := own' j gs hj
      exact .inl ⟨gs', o1, e⟩
    · rw [upd_ne]
      intro z
      subst z
      exact g4 i ds h1 s1
  · by_cases c : q = p
    · subst c
      rw [upd_same]
      exact fun z => by cases z
    · rw [upd_ne c]
      exact S.nt q xs hq
abbrev GF := D → Env → Option Env
def SndG (K : PySem.W.Frag) (g : TG) (h : GF) : Prop := ∀ B O I σ H env v d env', Sta K B O I σ H env → Dq K (mi H O) v d → h d env = some env' →
  ∀ Q : L2.St → Hp → Prop, (∀ σ', Sta K B O I σ' H env' → Q σ' H) → g v σ H Q
def SndGs (K : PySem.W.Frag) (g : TGs) (h : List D → Env → Option Env) : Prop := ∀ B O I σ H env vs ds env', Sta K B O I σ H env → DqA K (mi H O) vs ds → h ds env = some env' →
  ∀ Q : L2.St → Hp → Prop, (∀ σ', Sta K B O I σ' H env' → Q σ' H) → g vs σ H Q
def gfName (i : Nat) : GF := fun d env => putS i (.fz d) env
def gfTup (n : Nat) (h : List D → Env → Option Env) : GF := fun d env => match d with
  | .tup ds => if ds.length = n then h ds env else none
  | .nt ds => if ds.length = n then h ds env else none
  | _ => none
def gfNil : List D → Env → Option Env := fun ds env => match ds with
  | [] => some env
  | _ => none
def gfCons (g : GF) (h : List D → Env → Option Env) : List D → Env → Option Env := fun ds env => match ds with
  | d :: r => (g d env).bind fun e => h r e
  | _ => none
theorem sg_name (i : Nat) : SndG K (gName i) (gfName i) := by
  intro B O I σ H env v d env' S hd e Q q
  exact q _ (S.put hd e)
theorem sgs_nil : SndGs K gNil gfNil := by
  intro B O I σ H env v d env' S hd e Q q
  unfold gfNil at e
  split at e
  · cases e
    cases hd
    exact ⟨rfl, q _ S⟩
  · cases e
theorem sgs_cons {g : TG} {gs : TGs} {h : GF} {hs : List D → Env → Option Env} (h1 : SndG K g h) (h2 : SndGs K gs hs) : SndGs K (gCons g gs) (gfCons h hs) := by
  intro B O I σ H env v d env' S hd e Q q
  unfold gfCons at e
  split at e
  · cases hd with
    | cons d1 d2 =>
      obtain ⟨e1, e2, e3⟩ := bnd e
      exact ⟨_, _, rfl, h1 B O I σ H env _ _ e1 S d1 e2 _ fun σ1 S1 => h2 B O I σ1 H e1 _ _ env' S1 d2 e3 Q q⟩
  · cases e
theorem sg_tup {gs : TGs} {hs : List D → Env → Option Env} {n : Nat} (h2 : SndGs K gs hs) : SndG K (gTup K n gs) (gfTup n hs) := by
  intro B O I σ H env v d env' S hd e Q q
  unfold gfTup at e
  split at e
  · split at e
    · cases hd with
      | tup h1 h3 => exact ⟨_, _, rfl, sqT_mono mi_same h1, by rw [h3.length]; assumption, h2 B O I σ H env _ _ env' S h3 e Q q⟩
    · cases e
  · split at e
    · cases hd with
      | nt h1 h3 => exact ⟨_, _, rfl, .inl (.inl (mi_some h1).2), by rw [h3.length]; assumption, h2 B O I σ H env _ _ env' S h3 e Q q⟩
    · cases e
  · cases e
def fAsg (f : EF) (g : GF) : SFn := fun env => (f env).bind fun a => match frz a.1 with
  | .val d => (g d a.2).bind fun e => some (.nx e)
  | _ => none
theorem ss_asg {g : TG} {h : GF} (h1 : Snd K te fe) (h2 : SndG K g h) : SndS K W (tAsg te g) (fAsg fe h) := by
  intro B O I σ H env o S e D k
  obtain ⟨⟨r1, env1⟩, e1, e⟩ := bnd e
  dsimp only at e
  split at e
  · rename_i d hd
    obtain ⟨env2, e2, e⟩ := bnd e
    cases e
    refine h1 B O I σ H env r1 env1 S e1 _ fun v H1 P1 => ?_
    have P1' := P1.frz
    rw [hd] at P1'
    exact h2 B O I σ H1 env1 v d env2 P1'.1 P1'.2 e2 _ fun σ2 S2 => k O σ2 H1 .refl S2
  · cases e
def fOwn (i : Nat) (f : EF) : SFn := fun env => (f env).bind fun a => match a.1 with
  | .new ds => (putS i (.o1 ds) a.2).bind fun e => some (.nx e)
  | _ => none
theorem ss_own {i : Nat} (h1 : Snd K te fe) : SndS K W (tAsg te (gName i)) (fOwn i fe) := by
  intro B O I σ H env o S e D k
  obtain ⟨⟨r1, env1⟩, e1, e⟩ := bnd e
  dsimp only at e
  split at e
  · obtain ⟨env2, e2, e⟩ := bnd e
    cases e
    refine h1 B O I σ H env _ env1 S e1 _ fun v H1 P1 => ?_
    obtain ⟨O', s, S2⟩ := Sta.owned P1 e2
    exact k O' _ H1 s S2
  · cases e
def fPar (i j : Nat) (fa : AF) : SFn := fun env => (fa env).bind fun a => (allVal a.1).bind fun ds => match ds with
  | [d, e] => (putS i (.fz d) a.2).bind fun e1 => (putS j (.fz e) e1).bind fun e2 => some (.nx e2)
  | _ => none
theorem ss_par {i j : Nat} {t : TA} {fa : AF} (h1 : SndA K t fa) : SndS K W (tPar i j t) (fPar i j fa) := by
  intro B O I σ H env o S e D k
  obtain ⟨⟨r1, env1⟩, e1, e⟩ := bnd e
  obtain ⟨ds, e2, e⟩ := bnd e
  dsimp only at e2 e
  split at e
  · obtain ⟨env2, e3, e⟩ := bnd e
    obtain ⟨env3, e4, e⟩ := bnd e
    cases e
    refine h1 B O I σ H env r1 env1 S e1 _ fun vs H1 S1 P1 => ?_
    have q := post_vals P1 e2
    cases q with
    | cons q1 q2 =>
      cases q2 with
      | cons q2 q3 =>
        cases q3
        exact ⟨_, _, rfl, k O _ H1 .refl ((S1.put q1 e3).put q2 e4)⟩
  · cases e
def fDrop (f : EF) : SFn := fun env => (f env).bind fun a => some (.nx a.2)
theorem ss_drop (h1 : Snd K te fe) : SndS K W (tDrop te) (fDrop fe) := by
  intro B O I σ H env o S e D k
  obtain ⟨⟨r1, env1⟩, e1, e⟩ := bnd e
  cases e
  exact h1 B O I σ H env r1 env1 S e1 _ fun v H1 P1 => k O σ H1 .refl P1.sta
def fRet (f : EF) : SFn := fun env => (f env).bind fun a => some (.rt a.1 a.2)
theorem ss_ret (h1 : Snd K te fe) : SndS K W (tRet te) (fRet fe) := by
  intro B O I σ H env o S e D k
  obtain ⟨⟨r1, env1⟩, e1, e⟩ := bnd e
  cases e
  exact h1 B O I σ H env r1 env1 S e1 _ fun v H1 P1 => k.rt .refl P1
def fNext : SFn := fun env => some (.nx env)
theorem ss_next : SndS K W tNext fNext := by
  intro B O I σ H env o S e D k
  cases e
  exact k O σ H .refl S
def fSeq (g h : SFn) : SFn := fun env => (g env).bind fun o => match o with
  | .nx e => h e
  | o => some o
theorem ss_seq {t u : TS} {g h : SFn} (h1 : SndS K W t g) (h2 : SndS K W u h) : SndS K W (tSeq t u) (fSeq g h) := by
  intro B O I σ H env o S e D k
  obtain ⟨o1, e1, e⟩ := bnd e
  refine h1 B O I σ H env o1 S e1 _ ?_
  cases o1 with
  | nx e2 => exact fun O2 σ2 H2 s S2 => h2 B O2 I σ2 H2 e2 o S2 e D (k.sub s)
  | rt r e2 => cases e; exact k.ret fun _ _ z => z
  | bk e2 => cases e; exact k
  | ct e2 => cases e; exact k
def fIf (c : TF) (g h : SFn) : SFn := fun env => (c env).bind fun b => if b.1 then g b.2 else h b.2
theorem ss_if {c : TT} {fc : TF} {t u : TS} {g h : SFn} (hc : SndT K c fc) (h1 : SndS K W t g) (h2 : SndS K W u h) : SndS K W (tIfS c t u) (fIf fc g h) := by
  intro B O I σ H env o S e D k
  obtain ⟨⟨b, env1⟩, e1, e⟩ := bnd e
  refine hc B O I σ H env b env1 S e1 _ fun H1 S1 => ?_
  cases b with
  | true =>
    rw [if_pos rfl]
    exact h1 B O I σ H1 env1 o S1 e D k
  | false =>
    rw [if_neg Bool.false_ne_true]
    exact h2 B O I σ H1 env1 o S1 e D k
def whileN (c : TF) (b : SFn) : Nat → SFn
  | 0, _ => none
  | n + 1, env => (c env).bind fun p => if p.1 then (b p.2).bind fun o => match o with
      | .nx e => whileN c b n e
      | .ct e => whileN c b n e
      | .bk e => some (.nx e)
      | .rt r e => some (.rt r e)
    else some (.nx p.2)
def fWhile (fuel : Env → Nat) (c : TF) (b : SFn) : SFn := fun env => whileN c b (fuel env) env
theorem ss_while {c : TT} {fc : TF} {t : TS} {g : SFn} {fuel : Env → Nat} (hc : SndT K c fc) (h1 : SndS K W t g) : SndS K W (tWhile c t) (fWhile fuel fc g) := by
  intro B O I σ H env o S e D k
  refine ⟨fun m σ H => ∃ O' env, Sub B I O O' ∧ Sta K B O' I σ H env ∧ whileN fc g m env = some o, ⟨_, O, env, .refl, S, e⟩, fun m σ H ⟨O1, env1, s1, S1, e1⟩ => ?_⟩
  cases m with
  | zero => cases e1
  | succ n =>
    obtain ⟨⟨b, env2⟩, e2, e3⟩ := bnd e1
    refine hc B O1 I σ H env1 b env2 S1 e2 _ fun H2 S2 => ?_
    cases b with
    | false =>
      rw [if_neg Bool.false_ne_true]
      cases e3
      exact k O1 σ H2 s1 S2
    | true =>
      rw [if_pos rfl]
      obtain ⟨o2, e4, e5⟩ := bnd e3
      refine ⟨fun σ' H' => ∃ O' env, Sub B I O O' ∧ Sta K B O' I σ' H' env ∧ whileN fc g n env = some o, fun σ' H' z => ⟨n, Nat.lt_succ_self n, z⟩, ?_⟩
      refine h1 B O1 I σ H2 env2 o2 S2 e4 _ ?_
      cases o2 with
      | nx e6 => exact fun O3 σ3 H3 s3 S3 => ⟨O3, e6, s1.trans s3, S3, e5⟩
      | ct e6 => exact fun O3 σ3 H3 s3 S3 => ⟨O3, e6, s1.trans s3, S3, e5⟩
      | bk e6 => cases e5; exact k.sub s1
      | rt r e6 => cases e5; exact OutOk.ret (OutOk.sub s1 k) fun _ _ z => z
end
end Dv
namespace Dv
open PySem L2
def IterOk (K : PySem.W.Frag) (G0 : Hp) (J : It) (items : List D) : Prop := ∀ (H : Hp) (O : List Addr), Same G0 (mi H O) → (∀ p, p ∈ O → ∃ o, H p = some o) →
  (∀ i, i < items.length → J.go i H) ∧ J.stop items.length H ∧ ∀ i d x H', items[i]? = some d → J.yld i H x H' → Same H H' ∧ Dq K (mi H' O) x d
abbrev IF := Env → Option (List D × Env)
def SndI (K : PySem.W.Frag) (wi : TI) (f : IF) : Prop := ∀ B O I σ H env items env', Sta K B O I σ H env → f env = some (items, env') →
  ∀ R : It → Hp → Prop, (∀ J H', Sta K B O I σ H' env' → IterOk K (mi H' O) J items → R J H') → wi σ H R
section
variable {K : PySem.W.Frag} {B : Hp} {O : List Addr} {I : List (Nat × Addr)} {σ : L2.St} {H H' : Hp} {env env' : Env} {v : V} {t ta tb te : TE} {f fa fb fe : EF} {W : WN}
theorem not_dom {p : Addr} (hd : ∀ p, p ∈ O → ∃ o, H p = some o) (hp : H p = none) : p ∉ O := fun z => by
  obtain ⟨o, e⟩ := hd p z
  rw [hp] at e
  cases e
/-- range -/
def rangeD (lo : Int) (n : Nat) : List D := (List.range n).map fun k => D.int (lo + (k : Nat))
def rangeC (lo c : Int) (n : Nat) : List D := (List.range n).map fun k => D.int (lo + (k : Nat) * c)
theorem iter_range {lo : Int} {n : Nat} {G : Hp} : IterOk K G (Itr lo n) (rangeD lo n) := by
  intro H O _ _
  have hl : (rangeD lo n).length = n := by simp [rangeD]
  refine ⟨fun i h => by rw [hl] at h; exact h, by rw [hl]; exact Nat.le_refl n, fun i d x H' hi hy => ?_⟩
  obtain ⟨rfl, rfl⟩ := hy
  refine ⟨Same.refl _, ?_⟩
  unfold rangeD at hi
  rw [List.getElem?_map] at hi
  obtain ⟨k, h1, h2⟩ := Option.map_eq_some_iff.mp hi
  rw [List.getElem?_range] at h1
  · cases h1
    rw [← h2]
    exact .int _
  · apply Classical.byContradiction
    intro z
    rw [List.getElem?_eq_none (by simpa using z)] at h1
    cases h1
def fRange1 (fa : AF) : IF := fun env => (fa env).bind fun a => (allVal a.1).bind fun ds => match ds with
  | [.int j] => if -1000000000000 ≤ j ∧ j ≤ 1000000000000 then some (rangeD 0 j.toNat, a.2) else none
  | _ => none
def fRange2 (fa : AF) : IF := fun env => (fa env).bind fun a => (allVal a.1).bind fun ds => match ds with
  | [.int i, .int j] => if -1000000000000 ≤ i ∧ i ≤ 1000000000000 ∧ -1000000000000 ≤ j ∧ j ≤ 1000000000000 then some (rangeD i (j - i).toNat, a.2) else none
  | _ => none
def fRange3 (fa : AF) : IF := fun env => (fa env).bind fun a => (allVal a.1).bind fun ds => match ds with
  | [.int i, .int j, .int c] => if c ≠ 0 ∧ c.natAbs < 1073741824 ∧ Builtin.Range.small i j c = true ∧ 0 ≤ Builtin.Range.rangeSize i j c then some (rangeC i c (Builtin.Range.rangeSize i j c).toNat, a.2) else none
  | _ => none
theorem si_range1 {t : TA} {fa : AF} (h : SndA K t fa) : SndI K (iRng1 t) (fRange1 fa) := by
  intro B O I σ H env items env' S e R q
  obtain ⟨⟨r1, env1⟩, e1, e⟩ := bnd e
  obtain ⟨ds, e2, e⟩ := bnd e
  dsimp only at e2 e
  split at e
  · split at e
    · cases e
      refine h B O I σ H env r1 _ S e1 _ fun vs H1 S1 P1 => ?_
      have k := post_vals P1 e2
      cases k with
      | cons k1 k2 =>
        cases k1
        cases k2
        exact ⟨_, rfl, by omega, by omega, q _ H1 S1 iter_range⟩
    · cases e
  · cases e
def fIterL (f : EF) : IF := fun env => (f env).bind fun a => match frz a.1 with
  | .val (.lst ds) => some (ds, a.2)
  | _ => none
def fIterT (f : EF) : IF := fun env => (f env).bind fun a => match frz a.1 with
  | .val (.tup ds) => some (ds, a.2)
  | .val (.nt ds) => some (ds, a.2)
  | _ => none
theorem iter_list {G : Hp} {a : Addr} {xs : List V} {ds : List D} (h : G a = some (.lst xs)) (k : DqA K G xs ds) : IterOk K G (Itl K a) ds := by
  intro H O s hd
  have hs : SqL K H a xs := .inl (.inl (mi_same _ _ (s _ _ h)))
  refine ⟨fun i hi => ?_, ⟨xs, hs, by rw [k.length]; exact Nat.le_refl _⟩, fun i d x H' hi hy => ?_⟩
  · obtain ⟨v, h1, _⟩ := k.get (List.getElem?_eq_getElem hi)
    exact ⟨xs, v, hs, h1⟩
  · obtain ⟨rfl, hx⟩ := hy
    obtain ⟨v, h1, h2⟩ := k.get hi
    have := hx xs hs
    rw [h1] at this
    cases this
    exact ⟨Same.refl _, Dq.mono s _ _ h2⟩
theorem si_list (h : Snd K t f) : SndI K (iList K t) (fIterL f) := by
  intro B O I σ H env items env' S e R q
  obtain ⟨⟨r1, env1⟩, e1, e⟩ := bnd e
  dsimp only at e
  split at e
  · cases e
    rename_i hr
    refine h B O I σ H env r1 _ S e1 _ fun v H1 P1 => ?_
    have P := P1.frz
    rw [hr] at P
    obtain ⟨S1, d1⟩ := P
    cases d1 with
    | lst h1 h2 => exact ⟨_, rfl, ⟨_, .inl (.inl (mi_some h1).2)⟩, q _ H1 S1 (iter_list h1 h2)⟩
  · cases e
/-- enumerate, zip, reversed of lists that stay -/
def enumD : Nat → List D → List D
  | _, [] => []
  | k, d :: ds => .tup [.int (k : Nat), d] :: enumD (k + 1) ds
def zipD : List D → List D → List D
  | a :: as, b :: bs => .tup [a, b] :: zipD as bs
  | _, _ => []
def fEnum (fa : AF) : IF := fun env => (fa env).bind fun a => (allVal a.1).bind fun ds => match ds with
  | [.lst ds] => some (enumD 0 ds, a.2)
  | _ => none
def fZip (fa : AF) : IF := fun env => (fa env).bind fun a => (allVal a.1).bind fun ds => match ds with
  | [.lst ds, .lst es] => some (zipD ds es, a.2)
  | _ => none
def fRev (fa : AF) : IF := fun env => (fa env).bind fun a => (allVal a.1).bind fun ds => match ds with
  | [.lst ds] => some (ds.reverse, a.2)
  | _ => none
def loopN (g : GF) (b : SFn) : List D → SFn
  | [], env => some (.nx env)
  | d :: ds, env => (g d env).bind fun e => (b e).bind fun o => match o with
    | .nx e => loopN g b ds e
    | .ct e => loopN g b ds e
    | .bk e => some (.nx e)
    | .rt r e => some (.rt r e)
def fFor (fi : IF) (g : GF) (b : SFn) : SFn := fun env => (fi env).bind fun a => loopN g b a.1 a.2
/-- what stayed at the start stays behind what a turn does -/
theorem stays {O' : List Addr} {σ' : L2.St} {env2 : Env} (S : Sta K B O I σ H env) (s : Sub (keepH σ env H) I O O') (S' : Sta K (keepH σ env H) O' I σ' H' env2) : Same (mi H O) (mi H' O') := fun a o h => by
  obtain ⟨h1, h2⟩ := mi_some h
  have hb : keepH σ env H a = some o := by
    rw [keepH_not (fun z => h1 (S.owns_in z))]
    exact h2
  refine mi_of (fun z => ?_) (S'.base a o hb)
  rcases s.2 a z with y | y
  · exact h1 y
  · rw [hb] at y
    cases y
theorem ss_for {wi : TI} {fi : IF} {g : TG} {h : GF} {tb : TS} {b : SFn} (hi : SndI K wi fi) (hg : SndG K g h) (hb : SndS K W tb b) : SndS K W (tFor wi g tb) (fFor fi h b) := by
  intro B O I σ H env o S e D k
  obtain ⟨⟨items, env1⟩, e1, e⟩ := bnd e
  refine hi B O I σ H env items env1 S e1 _ fun J H1 S1 it => ?_
  have k2 : OutOk K W (keepH σ env1 H1) O I D o := k.strong S1.base_keep
  refine ⟨fun i m σ' H' => ∃ O' env', Sub (keepH σ env1 H1) I O O' ∧ Sta K (keepH σ env1 H1) O' I σ' H' env' ∧ i + m = items.length ∧ loopN h b (items.drop i) env' = some o,
    ⟨items.length, O, env1, .refl, S1.strong, by omega, by simpa using e⟩, fun i m σ' H' ⟨O', env2, s2, S2, em, e2⟩ => ?_⟩
  have fz := stays S1 s2 S2
  obtain ⟨i1, i2, i3⟩ := it H' O' fz S2.dom
  cases m with
  | zero =>
    have ei : i = items.length := by omega
    subst ei
    rw [List.drop_length] at e2
    cases e2
    exact .inl ⟨i2, k2 O' σ' H' s2 S2⟩
  | succ m =>
    have hi : i < items.length := by omega
    rw [List.drop_eq_getElem_cons hi] at e2
    obtain ⟨env3, e3, e4⟩ := bnd e2
    obtain ⟨o2, e5, e6⟩ := bnd e4
    refine .inr ⟨i1 i hi, fun σ3 H3 => ∃ O3 env3, Sub (keepH σ env1 H1) I O O3 ∧ Sta K (keepH σ env1 H1) O3 I σ3 H3 env3 ∧ loopN h b (items.drop (i + 1)) env3 = some o, fun σ3 H3 ⟨O3, env3, s3, S3, q3⟩ => ⟨m, by omega, O3, env3, s3, S3, by omega, q3⟩, fun x H3 hy => ?_⟩
    obtain ⟨sm, dx⟩ := i3 i _ x H3 (List.getElem?_eq_getElem hi) hy
    refine hg _ O' I σ' H3 env2 x _ env3 (S2.grow sm) dx e3 _ fun σ4 S4 => ?_
    refine hb _ O' I σ4 H3 env3 o2 S4 e5 _ ?_
    cases o2 with
    | nx e7 => exact fun O5 σ5 H5 s5 S5 => ⟨O5, e7, s2.trans s5, S5, e6⟩
    | ct e7 => exact fun O5 σ5 H5 s5 S5 => ⟨O5, e7, s2.trans s5, S5, e6⟩
    | bk e7 => cases e6; exact k2.sub s2
    | rt r e7 => cases e6; exact OutOk.ret (OutOk.sub s2 k2) fun _ _ z => z
end
end Dv
namespace Dv
open PySem L2
section
variable {K : PySem.W.Frag} {B : Hp} {O : List Addr} {I : List (Nat × Addr)} {σ : L2.St} {H H' : Hp} {env env' : Env} {v : V} {t ta tb te : TE} {f fa fb fe : EF} {W : WN}
theorem wipe_get {i : Nat} : ∀ {vs : List Nat}, i ∉ vs → (wipe σ vs)[i]? = σ[i]?
  | [], _ => rfl
  | v :: vs, h => by
    unfold wipe
    have h1 : v ≠ i := fun e => h (by rw [e]; exact List.mem_cons_self)
    rw [List.getElem?_set_ne h1]
    exact wipe_get fun z => h (List.mem_cons_of_mem _ z)
theorem wipe_in {i : Nat} : ∀ {vs : List Nat}, i ∈ vs → i < σ.length → (wipe σ vs)[i]? = some none
  | [], h, _ => by cases h
  | v :: vs, h, hl => by
    unfold wipe
    by_cases c : v = i
    · subst c
      rw [List.getElem?_set_self (by rw [wipe_length]; exact hl)]
    · rw [List.getElem?_set_ne c]
      exact wipe_in ((List.mem_cons.mp h).resolve_left (Ne.symm c)) hl
theorem wipe_ext {σ σ' : L2.St} {vs : List Nat} (hl : σ.length = σ'.length) (h : ∀ i, i ∉ vs → σ[i]? = σ'[i]?) : wipe σ vs = wipe σ' vs := by
  apply List.ext_getElem?
  intro i
  by_cases c : i ∈ vs
  · by_cases d : i < σ.length
    · rw [wipe_in c d, wipe_in c (hl ▸ d)]
    · rw [List.getElem?_eq_none (by rw [wipe_length]; omega), List.getElem?_eq_none (by rw [wipe_length]; omega)]
  · rw [wipe_get c, wipe_get c, h i c]
theorem wipe_idem {vs : List Nat} : wipe (wipe σ vs) vs = wipe σ vs := wipe_ext (wipe_length σ vs) fun i h => wipe_get h
theorem wipe_set {i : Nat} {x : Option V} {vs : List Nat} (h : i ∈ vs) : wipe (σ.set i x) vs = wipe σ vs :=
  wipe_ext (by simp) fun j hj => by
    rw [List.getElem?_set_ne]
    intro e
    subst e
    exact hj h
def wipeO : List Nat → Env → Option Env
  | [], env => some env
  | v :: vs, env => (wipeO vs env).bind fun e => putS v .no e
theorem Sta.wipe : ∀ {vs : List Nat} {env env' : Env}, Sta K B O I σ H env → wipeO vs env = some env' → Sta K B O I (L2.wipe σ vs) H env'
  | [], _, _, S, e => by cases e; exact S
  | v :: vs, env, env', S, e => by
    obtain ⟨e1, h1, h2⟩ := bnd e
    exact (Sta.wipe (vs := vs) S h1).drop h2
def keepFz : Option SV → SV
  | some (.fz d) => .fz d
  | _ => .no
def restE (e0 : Env) : List Nat → Env → Env
  | [], e => e
  | v :: vs, e => (restE e0 vs e).set v (keepFz e0[v]?)
theorem restE_len {e0 : Env} : ∀ {vs : List Nat} {e : Env}, (restE e0 vs e).length = e.length
  | [], _ => rfl
  | v :: vs, e => by unfold restE; rw [List.length_set, restE_len]
theorem restE_not {e0 e : Env} {i : Nat} : ∀ {vs : List Nat}, i ∉ vs → (restE e0 vs e)[i]? = e[i]?
  | [], _ => rfl
  | v :: vs, h => by
    unfold restE
    have h1 : v ≠ i := fun z => h (by rw [z]; exact List.mem_cons_self)
    rw [List.getElem?_set_ne h1]
    exact restE_not fun z => h (List.mem_cons_of_mem _ z)
theorem restE_in {e0 e : Env} {i : Nat} : ∀ {vs : List Nat}, i ∈ vs → i < e.length → (restE e0 vs e)[i]? = some (keepFz e0[i]?)
  | [], h, _ => by cases h
  | v :: vs, h, hl => by
    unfold restE
    by_cases c : v = i
    · subst c
      rw [List.getElem?_set_self (by rw [restE_len]; exact hl)]
    · rw [List.getElem?_set_ne c]
      exact restE_in ((List.mem_cons.mp h).resolve_left (Ne.symm c)) hl
theorem Sta.rest {vs : List Nat} {B' : Hp} {H1 : Hp} {e1 : Env} (S1 : Sta K B' O I σ H1 e1) (S : Sta K B O I (L2.wipe σ vs) H env) (fz : Same (mi H1 O) (mi H O)) : Sta K B O I σ H (restE e1 vs env) := by
  have own' : ∀ j ds, OwnAt (restE e1 vs env) j ds → j ∉ vs ∧ OwnAt env j ds := fun j ds z => by
    by_cases c : j ∈ vs
    · by_cases d : j < env.length
      · unfold OwnAt at z
        rw [restE_in c d] at z
        unfold keepFz at z
        rcases z with z | z <;> split at z <;> cases z
      · unfold OwnAt at z
        rw [List.getElem?_eq_none (by rw [restE_len]; omega)] at z
        rcases z with z | z <;> cases z
    · unfold OwnAt at z ⊢
      rw [restE_not c] at z
      exact ⟨c, z⟩
  refine ⟨by rw [restE_len, ← S.len, wipe_length], fun j d hj => ?_, fun j ds hj => ?_, fun j k ds es p hj hk a b => ?_, S.base, S.dom, fun j p hj => ?_, ?_, S.nt⟩
  · by_cases c : j ∈ vs
    · by_cases d : j < env.length
      · rw [restE_in c d] at hj
        unfold keepFz at hj
        split at hj
        · cases hj
          obtain ⟨v, h1, h2⟩ := S1.fz j _ (by assumption)
          exact ⟨v, h1, Dq.mono fz _ _ h2⟩
        · cases hj
      · rw [List.getElem?_eq_none (by rw [restE_len]; omega)] at hj
        cases hj
    · rw [restE_not c] at hj
      obtain ⟨v, h1, h2⟩ := S.fz j d hj
      rw [wipe_get c] at h1
      exact ⟨v, h1, h2⟩
  · obtain ⟨c, z⟩ := own' j ds hj
    obtain ⟨p, xs, h1, h2⟩ := S.ow j ds z
    rw [wipe_get c] at h1
    exact ⟨p, xs, h1, h2⟩
  · obtain ⟨c, z⟩ := own' j ds hj
    obtain ⟨c', z'⟩ := own' k es hk
    exact S.sep j k ds es p z z' (by rw [wipe_get c]; exact a) (by rw [wipe_get c']; exact b)
  · obtain ⟨h1, ds, h2⟩ := S.pin j p hj
    obtain ⟨h3, c⟩ := wipe_some h1
    exact ⟨h3, ds, by rw [restE_not c]; exact h2⟩
  · refine NwOk.go S.nw (fun j w hj => ?_) (fun j ds a hj e => ?_) (fun a h1 h2 _ _ => ⟨h1, h2, rfl⟩) (Same.refl _) S.dom
    · by_cases c : j ∈ vs
      · by_cases d : j < env.length
        · rw [restE_in c d] at hj
          unfold keepFz at hj
          split at hj <;> cases hj
        · rw [List.getElem?_eq_none (by rw [restE_len]; omega)] at hj
          cases hj
      · rw [restE_not c] at hj
        exact ⟨hj, (wipe_get c).symm⟩
    · obtain ⟨c, z⟩ := own' j ds hj
      exact .inl ⟨ds, z, by rw [wipe_get c]; exact e⟩
/-- targets that set only some places -/
def SndW (K : PySem.W.Frag) (vs : List Nat) (g : TG) (h : GF) : Prop := ∀ B O I σ H env v d env', Sta K B O I σ H env → Dq K (mi H O) v d → h d env = some env' →
  ∀ Q : L2.St → Hp → Prop, (∀ σ', L2.wipe σ' vs = L2.wipe σ vs → Sta K B O I σ' H env' → Q σ' H) → g v σ H Q
def SndWs (K : PySem.W.Frag) (vs : List Nat) (g : TGs) (h : List D → Env → Option Env) : Prop := ∀ B O I σ H env us ds env', Sta K B O I σ H env → DqA K (mi H O) us ds → h ds env = some env' →
  ∀ Q : L2.St → Hp → Prop, (∀ σ', L2.wipe σ' vs = L2.wipe σ vs → Sta K B O I σ' H env' → Q σ' H) → g us σ H Q
theorem sw_name {vs : List Nat} (i : Nat) (hi : i ∈ vs) : SndW K vs (gName i) (gfName i) := by
  intro B O I σ H env v d env' S hd e Q q
  exact q _ (wipe_set hi) (S.put hd e)
theorem sws_nil {vs : List Nat} : SndWs K vs gNil gfNil := by
  intro B O I σ H env v d env' S hd e Q q
  unfold gfNil at e
  split at e
  · cases e
    cases hd
    exact ⟨rfl, q _ rfl S⟩
  · cases e
theorem sws_cons {vs : List Nat} {g : TG} {gs : TGs} {h : GF} {hs : List D → Env → Option Env} (h1 : SndW K vs g h) (h2 : SndWs K vs gs hs) : SndWs K vs (gCons g gs) (gfCons h hs) := by
  intro B O I σ H env v d env' S hd e Q q
  unfold gfCons at e
  split at e
  · cases hd with
    | cons d1 d2 =>
      obtain ⟨e1, e2, e3⟩ := bnd e
      exact ⟨_, _, rfl, h1 B O I σ H env _ _ e1 S d1 e2 _ fun σ1 w1 S1 => h2 B O I σ1 H e1 _ _ env' S1 d2 e3 Q fun σ2 w2 S2 => q σ2 (w2.trans w1) S2⟩
  · cases e
theorem sw_tup {vs : List Nat} {gs : TGs} {hs : List D → Env → Option Env} {n : Nat} (h2 : SndWs K vs gs hs) : SndW K vs (gTup K n gs) (gfTup n hs) := by
  intro B O I σ H env v d env' S hd e Q q
  unfold gfTup at e
  split at e
  · split at e
    · cases hd with
      | tup h1 h3 => exact ⟨_, _, rfl, sqT_mono mi_same h1, by rw [h3.length]; assumption, h2 B O I σ H env _ _ env' S h3 e Q q⟩
    · cases e
  · split at e
    · cases hd with
      | nt h1 h3 => exact ⟨_, _, rfl, .inl (.inl (mi_some h1).2), by rw [h3.length]; assumption, h2 B O I σ H env _ _ env' S h3 e Q q⟩
    · cases e
  · cases e
def fYes : TF := fun env => some (true, env)
theorem st_yes : SndT K tYes fYes := by
  intro B O I σ H env b env' S e Q q
  cases e
  exact q H S
def lcN (g : GF) (tt : TF) (fe : EF) (vs : List Nat) : List D → Env → Option (List D × Env)
  | [], env => some ([], env)
  | d :: ds, env => (g d env).bind fun e1 => (tt e1).bind fun b => if b.1 then (fe b.2).bind fun a => match frz a.1 with
      | .val y => (wipeO vs a.2).bind fun w => (lcN g tt fe vs ds w).bind fun r => some (y :: r.1, r.2)
      | _ => none
    else (wipeO vs b.2).bind fun w => lcN g tt fe vs ds w
def fLc (fi : IF) (g : GF) (tt : TF) (fe : EF) (vs : List Nat) : EF := fun env => (fi env).bind fun a => (wipeO vs a.2).bind fun w => (lcN g tt fe vs a.1 w).bind fun r =>
  if r.1.length ≤ 10000000 then some (.new r.1, restE a.2 vs r.2) else none
/-- a list D that nobody names is hidden, and shown -/
theorem Sta.hide {D : Addr} {o : HO} (S : Sta K (upd B D o) (D :: O) I σ H env) (hD : D ∉ O) (hB : B D = none) : Sta K B O I σ (mi H [D]) env := by
  have nd : ∀ q, upd B D o q = none → q ≠ D ∧ B q = none := fun q z => by
    have c : q ≠ D := fun y => by
      subst y
      rw [upd_same] at z
      cases z
    rw [upd_ne c] at z
    exact ⟨c, z⟩
  have out : ∀ q u, q ≠ D → H q = some u → mi H [D] q = some u := fun q u c z => mi_of (fun y => c (List.mem_singleton.mp y)) z
  refine ⟨S.len, fun i d h => by rw [mi_mi]; exact S.fz i d h, fun i ds h => ?_, S.sep, fun a u h => ?_, fun p hp => ?_, S.pin, ?_, fun p xs hp z => S.nt p xs (List.mem_cons_of_mem _ hp) (mi_some z).2⟩
  · obtain ⟨p, xs, h1, h2, h3, h4, h5⟩ := S.ow i ds h
    obtain ⟨c, h6⟩ := nd p h5
    exact ⟨p, xs, h1, (List.mem_cons.mp h2).resolve_left c, out _ _ c h3, by rw [mi_mi]; exact h4, h6⟩
  · have c : a ≠ D := fun y => by
      subst y
      rw [hB] at h
      cases h
    exact out _ _ c (S.base a u (by rw [upd_ne c]; exact h))
  · have c : p ≠ D := fun y => hD (y ▸ hp)
    obtain ⟨u, z⟩ := S.dom p (List.mem_cons_of_mem _ hp)
    exact ⟨u, out _ _ c z⟩
  · refine NwOk.go S.nw (fun j w hj => ⟨hj, rfl⟩) (fun j ds a hj e => .inl ⟨ds, hj, e⟩) (fun a h1 h2 ⟨o, h3⟩ _ => ?_) (by rw [mi_mi]; exact Same.refl _) S.dom
    obtain ⟨c, h6⟩ := nd a h2
    exact ⟨(List.mem_cons.mp h1).resolve_left c, h6, by rw [h3]; exact out _ _ c h3⟩
theorem Sta.show {D : Addr} {o : HO} (S : Sta K B O I σ (mi H [D]) env) (hD : H D = some o) (ho : ∀ xs, o ≠ .tup xs := by intro xs z; cases z) : Sta K (upd B D o) (D :: O) I σ H env := by
  have low : ∀ q ys, mi H [D] q = some ys → q ≠ D ∧ H q = some ys := fun q ys z => by
    obtain ⟨z1, z2⟩ := mi_some z
    exact ⟨fun y => z1 (List.mem_singleton.mpr y), z2⟩
  refine ⟨S.len, fun i d h => by rw [← mi_mi]; exact S.fz i d h, fun i ds h => ?_, S.sep, fun a u h => ?_, fun p hp => ?_, S.pin, ?_, fun p xs hp => ?_⟩
  · obtain ⟨p, xs, h1, h2, h3, h4, h5⟩ := S.ow i ds h
    obtain ⟨c, h6⟩ := low _ _ h3
    exact ⟨p, xs, h1, List.mem_cons_of_mem _ h2, h6, by rw [← mi_mi]; exact h4, by rw [upd_ne c]; exact h5⟩
  · by_cases c : a = D
    · subst c
      rw [upd_same] at h
      cases h
      exact hD
    · rw [upd_ne c] at h
      exact (low _ _ (S.base a u h)).2
  · rcases List.mem_cons.mp hp with rfl | hp
    · exact ⟨_, hD⟩
    · obtain ⟨u, z⟩ := S.dom p hp
      exact ⟨u, (low _ _ z).2⟩
  · refine NwOk.go S.nw (fun j w hj => ⟨hj, rfl⟩) (fun j ds a hj e => .inl ⟨ds, hj, e⟩) (fun a h1 h2 ⟨o, h3⟩ _ => ?_) (by rw [mi_mi]; exact Same.refl _) S.dom
    obtain ⟨c, h6⟩ := low _ _ h3
    exact ⟨List.mem_cons_of_mem _ h1, by rw [upd_ne c]; exact h2, by rw [h3]; exact h6⟩
  · rcases List.mem_cons.mp hp with rfl | hp
    · rw [hD]
      exact fun z => ho xs (Option.some.inj z)
    · exact S.ntS hp (fun o z => (low _ _ z).2) xs
theorem Sta.not_own {D : Addr} {o : HO} (S : Sta K B O I σ H env) (h : B D = some o) : keepH σ env H D = some o := by
  rw [keepH_not]
  · exact S.base _ _ h
  · intro z
    have k5 := (S.owns_free z).2
    rw [h] at k5
    cases k5
theorem snd_lc {wi : TI} {fi : IF} {g : TG} {h : GF} {tt : TT} {ft : TF} {vs : List Nat} (hi : SndI K wi fi) (hg : SndW K vs g h) (ht : SndT K tt ft) (he : Snd K te fe) : Snd K (tLc wi g tt te vs) (fLc fi h ft fe vs) := by
  intro B O I σ H env rv env' S e Q q
  obtain ⟨⟨items, env1⟩, e1, e⟩ := bnd e
  obtain ⟨w0, ew, e⟩ := bnd e
  obtain ⟨⟨all, envE⟩, e2, e⟩ := bnd e
  dsimp only at ew e2 e
  split at e
  · rename_i hall
    cases e
    refine hi B O I σ H env items env1 S e1 _ fun J H1 S1 it => fun L hL => ?_
    have hLO : L ∉ O := not_dom S1.dom hL
    have hLB : keepH σ env1 H1 L = none := (keepH_same (σ := σ) (env := env1) (H := H1)).free hL
    have S0 : Sta K (keepH σ env1 H1) O I (L2.wipe σ vs) H1 w0 := S1.strong.wipe ew
    refine ⟨fun i m H => ∃ env acc done rest, Sta K (keepH σ env1 H1) O I (L2.wipe σ vs) (mi H [L]) env ∧ H L = some (.lst acc) ∧ DqA K (mi (mi H [L]) O) acc done ∧ i + m = items.length ∧ lcN h ft fe vs (items.drop i) env = some (rest, envE) ∧ done ++ rest = all,
      ⟨items.length, w0, [], [], all, by rw [mi_one_new hL]; exact S0, upd_same, .nil, by omega, by simpa using e2, rfl⟩, fun i m H ⟨env2, acc, done, rest, S2, hA, hD, em, e3, ed⟩ => ?_⟩
    have fz0 : Same (mi H1 O) (mi H (L :: O)) := fun a o z => by
      obtain ⟨z1, z2⟩ := mi_some z
      rw [← mi_mi]
      refine mi_of z1 (S2.base a o ?_)
      rw [keepH_not (fun y => z1 (S1.owns_in y))]
      exact z2
    have S3 := S2.show hA
    obtain ⟨i1, i2, i3⟩ := it H (L :: O) fz0 S3.dom
    cases m with
    | zero =>
      have ei : i = items.length := by omega
      subst ei
      rw [List.drop_length] at e3
      cases e3
      rw [List.append_nil] at ed
      subst ed
      refine .inl ⟨i2, q _ _ ⟨L, acc, rfl, hA, S1.base.free hL, hLO, ?_, hD⟩⟩
      exact (Sta.rest S1 S2 (by rw [mi_mi]; exact fz0)).weak S1.base_keep
    | succ m =>
      have hi : i < items.length := by omega
      rw [List.drop_eq_getElem_cons hi] at e3
      obtain ⟨env3, e4, e5⟩ := bnd e3
      obtain ⟨⟨b, env4⟩, e6, e7⟩ := bnd e5
      refine .inr ⟨i1 i hi, fun H' => ∃ env acc done rest, Sta K (keepH σ env1 H1) O I (L2.wipe σ vs) (mi H' [L]) env ∧ H' L = some (.lst acc) ∧ DqA K (mi (mi H' [L]) O) acc done ∧ lcN h ft fe vs (items.drop (i + 1)) env = some (rest, envE) ∧ done ++ rest = all,
        fun H' ⟨a1, a2, a3, a4, a5, a6, a7, a8, a9⟩ => ⟨m, by omega, a1, a2, a3, a4, a5, a6, a7, by omega, a8, a9⟩, fun x H3 hy => ?_⟩
      obtain ⟨sm, dx⟩ := i3 i _ x H3 (List.getElem?_eq_getElem hi) hy
      have S4 := S3.grow sm
      have hL3 : keepH (L2.wipe σ vs) env2 H3 L = some (.lst acc) := S4.not_own (o := .lst acc) upd_same
      have base3 : Same (upd (keepH σ env1 H1) L (.lst acc)) (keepH (L2.wipe σ vs) env2 H3) := S4.base_keep
      refine hg _ _ I _ H3 env2 x _ env3 S4.strong dx e4 _ fun σ4 w4 S5 => ⟨by rw [w4, wipe_idem], ?_⟩
      refine ht _ _ I σ4 H3 env3 b env4 S5 e6 _ fun H5 S6 => ?_
      -- what stays
      have st : ∀ {H6 : Hp} {σ6 : L2.St} {env6 : Env}, Sta K (keepH (L2.wipe σ vs) env2 H3) (L :: O) I σ6 H6 env6 → Same (mi H (L :: O)) (mi H6 (L :: O)) := fun {H6 σ6 env6} Z => by
        have z1 : Same (mi H3 (L :: O)) (mi H6 (L :: O)) := stays S4 .refl Z
        exact (mi_mono sm).trans z1
      cases b with
      | false =>
        rw [if_neg Bool.false_ne_true]
        obtain ⟨w5, e8, e9⟩ := bnd e7
        have S7 := ((S6.wipe e8).weak base3).hide hLO hLB
        rw [w4, wipe_idem] at S7
        refine ⟨w5, acc, done, rest, S7, S6.base _ _ hL3, ?_, e9, ed⟩
        rw [mi_mi] at hD ⊢
        exact DqA.mono (st S6) _ _ hD
      | true =>
        rw [if_pos rfl]
        obtain ⟨⟨r6, env6⟩, e8, e9⟩ := bnd e7
        dsimp only at e9
        split at e9
        · rename_i y hy6
          obtain ⟨w5, f1, f2⟩ := bnd e9
          obtain ⟨⟨rest', env7⟩, f3, f4⟩ := bnd f2
          cases f4
          refine he _ _ I σ4 H5 env4 r6 env6 S6 e8 _ fun vy H6 P6 => ?_
          have P6' := P6.frz
          rw [hy6] at P6'
          obtain ⟨S7, dy⟩ := P6'
          have hA6 := S7.base _ _ hL3
          have ll : acc.length < sizeLine := by
            rw [hD.length]
            refine line_lt ?_
            rw [← ed, List.length_append] at hall
            omega
          refine ⟨acc, hA6, ll, w5, acc ++ [vy], done ++ [y], rest', ?_, upd_same, ?_, f3, by rw [← ed]; simp⟩
          · have S8 := ((S7.wipe f1).weak base3).hide hLO hLB
            rw [w4, wipe_idem] at S8
            rw [mi_upd_in (List.mem_singleton.mpr rfl)]
            exact S8
          · rw [mi_upd_in (List.mem_singleton.mpr rfl)]
            rw [mi_mi] at hD ⊢
            exact (DqA.mono (st S7) _ _ hD).append (.cons dy .nil)
        · cases e9
  · cases e
end
end Dv
namespace Dv
open PySem L2
section
variable {K : PySem.W.Frag} {B : Hp} {O : List Addr} {I : List (Nat × Addr)} {σ : L2.St} {H H' : Hp} {env env' : Env} {v : V} {t ta tb te : TE} {f fa fb fe : EF} {W : WN}
def isOwn (env : Env) (i : Nat) : Bool := match env[i]? with
  | some (.o1 _) => true
  | some (.io _) => true
  | _ => false
theorem isOwn_of {i : Nat} (h : isOwn env i = true) : ∃ ds, OwnAt env i ds := by
  unfold isOwn at h
  split at h
  · exact ⟨_, .inl (by assumption)⟩
  · exact ⟨_, .inr (by assumption)⟩
  · cases h
/-- xs.m(e), xs a name: h from the list and the argument -/
def fOM (i : Nat) (h : D → List D → Option (List D)) (f : EF) : EF := fun env => if isOwn env i then (f env).bind fun a => match frz a.1 with
  | .val d => (upO i (h d) a.2).bind fun e => some (.val .non, e)
  | _ => none
  else none
def hApp : D → List D → Option (List D) := fun d ds => if ds.length ≤ 10000000 then some (ds ++ [d]) else none
theorem tyL {p : Addr} {xs : List V} (h : H p = some (.lst xs)) : tyV K "list" (.ref p) H := .inl ⟨rfl, _, .inl (.inl h)⟩
theorem snd_om {i : Nat} {r : V → List V → Hp → VK → Prop} {h : D → List D → Option (List D)} (he : Snd K te fe)
    (hr : ∀ (H : Hp) (O : List Addr) (p : Addr) (xs : List V) (ds es : List D) (x : V) (d : D), H p = some (.lst xs) → DqA K (mi H O) xs ds → Dq K (mi H O) x d → p ∈ O → h d ds = some es →
      ∀ Q : VK, (∀ ys, DqA K (mi H O) ys es → Q .non (upd H p (.lst ys))) → r (.ref p) [x] H Q) : Snd K (tBM K "list" r (tVar i) (tCons te tNil)) (fOM i h fe) := by
  intro B O I σ H env rv env' S e Q q
  unfold fOM at e
  split at e
  · rename_i ho
    obtain ⟨ds0, o0⟩ := isOwn_of ho
    obtain ⟨p0, xs0, s0, p0O, hp0, _, _⟩ := S.ow i ds0 o0
    obtain ⟨⟨r1, env1⟩, e1, e⟩ := bnd e
    dsimp only at e
    split at e
    · rename_i d hd
      obtain ⟨env2, e2, e⟩ := bnd e
      cases e
      refine ⟨_, s0, tyL hp0, ?_⟩
      refine he B O I σ H env r1 env1 S e1 _ fun x H1 P1 => ?_
      have P := P1.frz
      rw [hd] at P
      obtain ⟨S1, dx⟩ := P
      obtain ⟨p, xs, ds, es, s1, hp, hx, _, eh, up⟩ := S1.up e2
      rw [s0] at s1
      cases s1
      exact hr H1 O p0 xs ds es x d hp hx dx p0O eh _ fun ys hy => q _ _ ⟨up ys hy, .non⟩
    · cases e
  · cases e
theorem snd_append {i : Nat} (he : Snd K te fe) : Snd K (tBM K "list" rAppend (tVar i) (tCons te tNil)) (fOM i hApp fe) :=
  snd_om he fun H O p xs ds es x d hp hx dx _ eh Q q => by
    unfold hApp at eh
    split at eh
    · cases eh
      rename_i hl
      refine ⟨p, xs, x, rfl, rfl, hp, ?_, q _ (hx.append (.cons dx .nil))⟩
      rw [hx.length]
      exact line_lt hl
    · cases eh
def hExt : D → List D → Option (List D) := fun d ds => match d with
  | .lst es => if ds.length + es.length ≤ 10000000 then some (ds ++ es) else none
  | _ => none
/-- xs.m() -/
def fOM0 (i : Nat) (h : List D → Option (List D)) : EF := fun env => (upO i h env).bind fun e => some (.val .non, e)
theorem snd_om0 {i : Nat} {r : V → List V → Hp → VK → Prop} {h : List D → Option (List D)}
    (hr : ∀ (H : Hp) (O : List Addr) (p : Addr) (xs : List V) (ds es : List D), H p = some (.lst xs) → DqA K (mi H O) xs ds → h ds = some es →
      ∀ Q : VK, (∀ ys, DqA K (mi H O) ys es → Q .non (upd H p (.lst ys))) → r (.ref p) [] H Q) : Snd K (tBM0 K "list" r (tVar i)) (fOM0 i h) := by
  intro B O I σ H env rv env' S e Q q
  obtain ⟨env2, e2, e⟩ := bnd e
  cases e
  obtain ⟨p, xs, ds, es, s1, hp, hx, _, eh, up⟩ := S.up e2
  exact ⟨_, s1, tyL hp, hr H O p xs ds es hp hx eh _ fun ys hy => q _ _ ⟨up ys hy, .non⟩⟩
theorem snd_reverse {i : Nat} : Snd K (tBM0 K "list" rReverse (tVar i)) (fOM0 i fun ds => some ds.reverse) :=
  snd_om0 fun H O p xs ds es hp hx eh Q q => by
    cases eh
    exact ⟨p, xs, rfl, rfl, hp, q _ hx.reverse⟩
/-- xs.pop() -/
def fPop (i : Nat) : EF := fun env => match deref env (.slot i) with
  | some (.lst ds) => (ds[ds.length - 1]?).bind fun d => (upO i (fun ds => some ds.dropLast) env).bind fun e => some (.val d, e)
  | _ => none
/-- xs[k] = e -/
def fSetI (i : Nat) (fk fe : EF) : SFn := fun env => (fe env).bind fun a => if isOwn a.2 i then (fk a.2).bind fun b => match frz a.1, b.1 with
  | .val d, .val (.int k) => (upO i (fun ds => (ixN ds.length k).bind fun j => some (ds.set j d)) b.2).bind fun e => some (.nx e)
  | _, _ => none
  else none
theorem ss_setI {i : Nat} {tk : TE} {fk : EF} (he : Snd K te fe) (hk : Snd K tk fk) : SndS K W (tAsg te (gSub (tVar i) tk rSetL)) (fSetI i fk fe) := by
  intro B O I σ H env o S e D k
  obtain ⟨⟨r1, env1⟩, e1, e⟩ := bnd e
  dsimp only at e
  split at e
  · rename_i ho
    obtain ⟨⟨r2, env2⟩, e2, e⟩ := bnd e
    dsimp only at e
    split at e
    · rename_i d k' hd
      obtain ⟨env3, e3, e⟩ := bnd e
      cases e
      refine he B O I σ H env r1 env1 S e1 _ fun x H1 P1 => ?_
      have P1' := P1.frz
      have S1 := P1'.sta
      obtain ⟨ds0, o0⟩ := isOwn_of ho
      obtain ⟨p0, xs0, s0, p0O, hp0, _, _⟩ := S1.ow i ds0 o0
      refine ⟨_, s0, ?_⟩
      refine hk _ O I σ H1 env1 _ env2 S1.strong e2 _ fun y H2 P2 => ?_
      have P3 := P1'.later P2.1
      rw [hd] at P3
      obtain ⟨S3, dx⟩ := P3
      have dy := P2.2
      cases dy
      obtain ⟨p, xs, ds, es, s1, hp, hx, _, eh, up⟩ := S3.up e3
      rw [s0] at s1
      cases s1
      obtain ⟨j, ej, eh⟩ := bnd eh
      cases eh
      refine ⟨p0, xs, k', j, rfl, rfl, hp, by rw [hx.length]; exact ej, ?_⟩
      exact k O σ _ .refl (up _ (hx.set j dx))
    · cases e
  · cases e
abbrev OF := Env → Option (Option Int × Env)
def SndO (K : PySem.W.Frag) (t : TO) (f : OF) : Prop := ∀ B O I σ H env r env', Sta K B O I σ H env → f env = some (r, env') →
  ∀ Q : Option Int → Hp → Prop, (∀ H', Sta K B O I σ H' env' → Q r H') → t σ H Q
def fNoP : OF := fun env => some (none, env)
def fPt (f : EF) : OF := fun env => (f env).bind fun a => match a.1 with
  | .val (.int i) => some (some i, a.2)
  | _ => none
theorem so_none : SndO K tNoPart fNoP := by
  intro B O I σ H env r env' S e Q q
  cases e
  exact q H S
theorem so_some (h : Snd K t f) : SndO K (tPart t) (fPt f) := by
  intro B O I σ H env r env' S e Q q
  obtain ⟨⟨r1, env1⟩, e1, e⟩ := bnd e
  dsimp only at e
  split at e
  · cases e
    refine h B O I σ H env _ _ S e1 _ fun v H1 P1 => ?_
    obtain ⟨S1, d1⟩ := P1
    cases d1
    exact ⟨_, rfl, q _ S1⟩
  · cases e
def cutD {α : Type} (xs : List α) (lo hi : Option Int) : List α := (xs.drop (HT.sIx xs.length 0 lo)).take (HT.sIx xs.length xs.length hi - HT.sIx xs.length 0 lo)
theorem DqA.cut {G : Hp} {xs : List V} {ds : List D} {lo hi : Option Int} (h : DqA K G xs ds) : DqA K G (cutV xs lo hi) (cutD ds lo hi) := by
  unfold cutV cutD
  rw [h.length]
  exact (h.drop _).take _
abbrev GS := D → Option Int → Option Int → Option RV
def fSl (g : GS) (fe : EF) (fl fh : OF) : EF := fun env => (fe env).bind fun a => (fl a.2).bind fun b => (fh b.2).bind fun c => (deref c.2 (frz a.1)).bind fun x => (g x b.1 c.1).bind fun z => some (z, c.2)
def OpS (K : PySem.W.Frag) (r : V → Option Int → Option Int → Hp → VK → Prop) (g : GS) : Prop := ∀ B O I σ H env x ra d lo hi z, Post K B O I σ H env x ra → deref env ra = some d → g d lo hi = some z →
  ∀ Q : VK, (∀ v H', Post K B O I σ H' env v z → Q v H') → r x lo hi H Q
theorem snd_sl {r : V → Option Int → Option Int → Hp → VK → Prop} {g : GS} {tl th : TO} {fl fh : OF} (h : Snd K te fe) (hl : SndO K tl fl) (hh : SndO K th fh) (ho : OpS K r g) : Snd K (tSl r te tl th) (fSl g fe fl fh) := by
  intro B O I σ H env rv env' S e Q q
  obtain ⟨⟨r1, env1⟩, e1, e⟩ := bnd e
  obtain ⟨⟨b, env2⟩, e2, e⟩ := bnd e
  obtain ⟨⟨c, env3⟩, e3, e⟩ := bnd e
  obtain ⟨x, ex, e⟩ := bnd e
  obtain ⟨z, ez, e⟩ := bnd e
  cases e
  refine h B O I σ H env r1 env1 S e1 _ fun v H1 P1 => ?_
  have P1' := P1.frz
  have S1 := P1'.sta
  refine hl _ O I σ H1 env1 b env2 S1.strong e2 _ fun H2 S2 => ?_
  have P2 := P1'.later S2
  have S2' := P2.sta
  refine hh _ O I σ H2 env2 c env3 S2'.strong e3 _ fun H3 S3 => ?_
  have P3 := P2.later S3
  exact ho B O I σ H3 env3 v _ x b c _ P3 ex ez Q q
def gSlL : GS := fun d lo hi => match d with
  | .lst ds => some (.new (cutD ds lo hi))
  | _ => none
def tyD : D → String
  | .non => "NoneType"
  | .bl _ => "bool"
  | .int _ => "int"
  | .str _ => "str"
  | .lst _ => "list"
  | .scr _ => "list"
  | .tup _ => "tuple"
  | .adr _ => ""
  | .nt _ => "tuple"
  | .dct _ _ => "dict"
theorem tyX_of {d : D} (h : Dq K H v d) (hn : ∀ a, d ≠ .adr a) (hn2 : ∀ ks xs, d ≠ .dct ks xs) : TyX K H v (.type (tyD d)) := by
  cases h with
  | adr a => exact absurd rfl (hn a)
  | non => exact .base .non
  | bl b => exact .base (.bl b)
  | int i => exact .base (.int i)
  | str x => exact .base (.str x)
  | lst h1 h2 => exact .base (.lst h1)
  | tup h1 h2 =>
    rcases h1 with (h | ⟨o, h⟩) | ⟨o, its, n, h, c, _⟩
    · exact .base (.tup h)
    · exact .fTuple h
    · exact .kTuple h c
  | nt h1 h2 => exact .base (.tup h1)
  | dct h1 h2 h3 => exact absurd rfl (hn2 _ _)
  | scr h1 =>
    rcases h1 with (h | ⟨o, h⟩) | ⟨o, its, n, h, c, _⟩
    · exact .base (.lst h)
    · exact .base (.frz h)
    · exact .kList h c
def kitD (d : D) (T : String) : Option Bool := match d with
  | .adr _ => none
  | .dct _ _ => none
  | d => kitB (tyD d) T
theorem kitD_of {d : D} {T : String} {b : Bool} (h : kitD d T = some b) : (∀ a, d ≠ .adr a) ∧ (∀ ks xs, d ≠ .dct ks xs) ∧ kitB (tyD d) T = some b := by
  cases d with
  | adr a => cases h
  | dct ks xs => cases h
  | _ => exact ⟨(fun a z => nomatch z), (fun ks xs z => nomatch z), h⟩
def fIsi (T : String) (f : EF) : EF := fun env => (f env).bind fun a => (deref a.2 a.1).bind fun d => (kitD d T).bind fun b => some (.val (.bl b), a.2)
theorem snd_isi {T : String} (h : Snd K t f) : Snd K (tCB (rIsi K) (tCons t (tCons (tC (.ty T)) tNil))) (fIsi T f) := by
  intro B O I σ H env rv env' S e Q q
  obtain ⟨⟨r1, env1⟩, e1, e⟩ := bnd e
  obtain ⟨d, e2, e⟩ := bnd e
  obtain ⟨b, e3, e⟩ := bnd e
  cases e
  refine h B O I σ H env _ _ S e1 _ fun v H1 P1 => ?_
  exact ⟨v, .ty T, _, _, b, rfl, .ty T, tyX_of (P1.read e2) (kitD_of e3).1 (kitD_of e3).2.1, kit_ty (kitD_of e3).2.2, q _ H1 ⟨P1.sta, .bl b⟩⟩
end
end Dv
namespace Dv
open PySem L2
inductive ArgsOk (K : PySem.W.Frag) (O : List Addr) (H : Hp) : List Bool → List V → List D → Prop
  | nil : ArgsOk K O H [] [] []
  | val {v : V} {d : D} {bs : List Bool} {vs : List V} {ds : List D} : Dq K (mi H O) v d → ArgsOk K O H bs vs ds → ArgsOk K O H (false :: bs) (v :: vs) (d :: ds)
  | io {p : Addr} {xs : List V} {es : List D} {bs : List Bool} {vs : List V} {ds : List D} : p ∈ O → H p = some (.lst xs) → DqA K (mi H O) xs es → ArgsOk K O H bs vs ds → ArgsOk K O H (true :: bs) (.ref p :: vs) (.lst es :: ds)
def pinsOf : Nat → List Bool → List V → List (Nat × Addr)
  | k, true :: bs, .ref p :: vs => (k, p) :: pinsOf (k + 1) bs vs
  | k, _ :: bs, _ :: vs => pinsOf (k + 1) bs vs
  | _, _, _ => []
def ioA (bs : List Bool) (vs : List V) : List Addr := (pinsOf 0 bs vs).map (·.2)
def OutsOk (K : PySem.W.Frag) (O : List Addr) (H : Hp) : List Addr → List (List D) → Prop
  | [], [] => True
  | p :: ps, ds :: dss => (∃ xs, H p = some (.lst xs) ∧ DqA K (mi H O) xs ds) ∧ OutsOk K O H ps dss
  | _, _ => False
abbrev FF := List D → Option (D × Bool × List (List D))
def isTp : D → Bool
  | .tup _ => true
  | _ => false
structure ResOk (K : PySem.W.Frag) (O : List Addr) (H : Hp) (ps : List Addr) (v : V) (H' : Hp) (r : D) (fr : Bool) (outs : List (List D)) : Prop where
  frame : ∀ a o, H a = some o → a ∉ ps → H' a = some o
  old : fr = false → OutsOk K O H' ps outs ∧ Dq K (mi H' O) v r
  new : fr = true → isTp r = false → ∃ p xs rs, v = .ref p ∧ r = .lst rs ∧ H p = none ∧ H' p = some (.lst xs) ∧ DqA K (mi (mi H' [p]) O) xs rs ∧ OutsOk K O (mi H' [p]) ps outs
  tw : fr = true → isTp r = true → ∃ p qs dss, v = .ref p ∧ r = .tup (dss.map D.lst) ∧ H' p = some (.tup (qs.map V.ref)) ∧ qs.Nodup ∧ (∀ q, q ∈ qs → H q = none) ∧ LsOk K (mi H' (qs ++ O)) H' qs dss ∧ OutsOk K O (mi H' qs) ps outs
def spD (K : PySem.W.Frag) (io : List Bool) (g : FF) : Sp := fun vs H Q _ => ∃ O ds r fr outs, ArgsOk K O H io vs ds ∧ (ioA io vs).Nodup ∧ (∀ p, p ∈ O → ∃ o, H p = some o) ∧ (∀ p xs, p ∈ O → H p ≠ some (.tup xs)) ∧ g ds = some (r, fr, outs) ∧
  ∀ v H', ResOk K O H (ioA io vs) v H' r fr outs → Q v H'
def argS : List Bool → List D → Option Env
  | [], [] => some []
  | true :: bs, .lst ds :: r => (argS bs r).bind fun e => some (.io ds :: e)
  | false :: bs, d :: r => (argS bs r).bind fun e => some (.fz d :: e)
  | _, _ => none
def ioIx : Nat → List Bool → List Nat
  | _, [] => []
  | k, true :: bs => k :: ioIx (k + 1) bs
  | k, false :: bs => ioIx (k + 1) bs
def outE (env : Env) : List Nat → Option (List (List D))
  | [] => some []
  | j :: js => match env[j]? with
    | some (.io ds) => (outE env js).bind fun r => some (ds :: r)
    | _ => none
def fDef (m : Nat) (io : List Bool) (b : SFn) : FF := fun ds => (argS io ds).bind fun e => (b (e ++ List.replicate m .no)).bind fun o => match o with
  | .nx env => (outE env (ioIx 0 io)).bind fun outs => some (.non, false, outs)
  | .rt (.val d) env => (outE env (ioIx 0 io)).bind fun outs => some (d, false, outs)
  | .rt (.new es) env => (outE env (ioIx 0 io)).bind fun outs => some (.lst es, true, outs)
  | .rt (.tw dss) env => (outE env (ioIx 0 io)).bind fun outs => some (.tup (dss.map D.lst), true, outs)
  | .rt (.slot i) env => match env[i]? with
    | some (.o1 es) => (outE env (ioIx 0 io)).bind fun outs => some (.lst es, true, outs)
    | _ => none
  | _ => none
section
variable {K : PySem.W.Frag} {B : Hp} {O : List Addr} {I : List (Nat × Addr)} {σ : L2.St} {H H' : Hp} {env env' : Env} {v : V} {t ta tb te : TE} {f fa fb fe : EF} {W : WN}
theorem ArgsOk.len {bs : List Bool} {vs : List V} {ds : List D} (h : ArgsOk K O H bs vs ds) : vs.length = bs.length := by
  induction h with
  | nil => rfl
  | val _ _ ih => simp [ih]
  | io _ _ _ _ ih => simp [ih]
theorem ArgsOk.elen {bs : List Bool} {vs : List V} {ds : List D} (h : ArgsOk K O H bs vs ds) : ∀ {e : Env}, argS bs ds = some e → e.length = vs.length := by
  induction h with
  | nil => intro e he; cases he; rfl
  | val _ _ ih =>
    intro e he
    obtain ⟨e', h1, h2⟩ := bnd he
    cases h2
    simp [ih h1]
  | io _ _ _ _ ih =>
    intro e he
    obtain ⟨e', h1, h2⟩ := bnd he
    cases h2
    simp [ih h1]
theorem ArgsOk.fz {bs : List Bool} {vs : List V} {ds : List D} (h : ArgsOk K O H bs vs ds) : ∀ {e : Env} {i : Nat} {d : D}, argS bs ds = some e → e[i]? = some (.fz d) → ∃ v, vs[i]? = some v ∧ Dq K (mi H O) v d := by
  induction h with
  | nil => intro e i d he hi; cases he; simp at hi
  | val hd _ ih =>
    intro e i d he hi
    obtain ⟨e', h1, h2⟩ := bnd he
    cases h2
    cases i with
    | zero => simp at hi; subst hi; exact ⟨_, rfl, hd⟩
    | succ i =>
      obtain ⟨v, g1, g2⟩ := ih h1 (by simpa using hi)
      exact ⟨v, by simpa using g1, g2⟩
  | io _ _ _ _ ih =>
    intro e i d he hi
    obtain ⟨e', h1, h2⟩ := bnd he
    cases h2
    cases i with
    | zero => simp at hi
    | succ i =>
      obtain ⟨v, g1, g2⟩ := ih h1 (by simpa using hi)
      exact ⟨v, by simpa using g1, g2⟩
theorem ArgsOk.own {bs : List Bool} {vs : List V} {ds : List D} (h : ArgsOk K O H bs vs ds) : ∀ {e : Env} {i k : Nat} {es : List D}, argS bs ds = some e → OwnAt e i es → ∃ p xs, vs[i]? = some (.ref p) ∧ p ∈ O ∧ H p = some (.lst xs) ∧ DqA K (mi H O) xs es ∧ (k + i, p) ∈ pinsOf k bs vs := by
  induction h with
  | nil => intro e i k es he hi; cases he; rcases hi with hi | hi <;> simp at hi
  | val hd _ ih =>
    intro e i k es he hi
    obtain ⟨e', h1, h2⟩ := bnd he
    cases h2
    cases i with
    | zero => rcases hi with hi | hi <;> simp at hi
    | succ i =>
      obtain ⟨p, xs, g1, g2, g3, g4, g5⟩ := ih (i := i) (k := k + 1) h1 (by unfold OwnAt at hi ⊢; simpa using hi)
      refine ⟨p, xs, by simpa using g1, g2, g3, g4, ?_⟩
      have : k + (i + 1) = k + 1 + i := by omega
      rw [this]
      unfold pinsOf
      exact g5
  | @io q0 xs0 es0 bs0 vs0 ds0 hp hx hd _ ih =>
    intro e i k es he hi
    obtain ⟨e', h1, h2⟩ := bnd he
    cases h2
    cases i with
    | zero =>
      have : es = es0 := by
        rcases hi with hi | hi
        · simp at hi
        · simp at hi
          exact hi.symm
      subst this
      exact ⟨_, _, rfl, hp, hx, hd, List.mem_cons_self⟩
    | succ i =>
      obtain ⟨p, xs, g1, g2, g3, g4, g5⟩ := ih (i := i) (k := k + 1) h1 (by unfold OwnAt at hi ⊢; simpa using hi)
      refine ⟨p, xs, by simpa using g1, g2, g3, g4, ?_⟩
      have : k + (i + 1) = k + 1 + i := by omega
      rw [this]
      exact List.mem_cons_of_mem _ g5
theorem pins_ge : ∀ {bs : List Bool} {vs : List V} {k j : Nat} {p : Addr}, (j, p) ∈ pinsOf k bs vs → k ≤ j
  | [], _, _, _, _, h => by simp [pinsOf] at h
  | b :: bs, [], _, _, _, h => by cases b <;> simp [pinsOf] at h
  | b :: bs, v :: vs, k, j, p, h => by
    unfold pinsOf at h
    split at h
    · rename_i e1 e2
      cases e1
      cases e2
      rcases List.mem_cons.mp h with h | h
      · cases h; exact Nat.le_refl _
      · exact Nat.le_of_succ_le (pins_ge h)
    · rename_i e1 e2
      cases e1
      cases e2
      exact Nat.le_of_succ_le (pins_ge h)
    · cases h
theorem ArgsOk.pins {bs : List Bool} {vs : List V} {ds : List D} (h : ArgsOk K O H bs vs ds) : ∀ {e : Env} {k j : Nat} {p : Addr}, argS bs ds = some e → (j, p) ∈ pinsOf k bs vs → ∃ es, vs[j - k]? = some (.ref p) ∧ e[j - k]? = some (.io es) := by
  induction h with
  | nil => intro e k j p he hj; simp [pinsOf] at hj
  | @val v d bs vs ds hd _ ih =>
    intro e k j p he hj
    obtain ⟨e', h1, h2⟩ := bnd he
    cases h2
    have hj' : (j, p) ∈ pinsOf (k + 1) bs vs := by
      unfold pinsOf at hj
      exact hj
    have ge := pins_ge hj'
    obtain ⟨es, g1, g2⟩ := ih h1 hj'
    have ej : j - k = (j - (k + 1)) + 1 := by omega
    rw [ej]
    exact ⟨es, by simpa using g1, by simpa using g2⟩
  | @io q xs es bs vs ds hp hx hd _ ih =>
    intro e k j p he hj
    obtain ⟨e', h1, h2⟩ := bnd he
    cases h2
    rcases List.mem_cons.mp hj with hj | hj
    · cases hj
      exact ⟨_, by simp, by simp; rfl⟩
    · have ge := pins_ge hj
      obtain ⟨es, g1, g2⟩ := ih h1 hj
      have ej : j - k = (j - (k + 1)) + 1 := by omega
      rw [ej]
      exact ⟨es, by simpa using g1, by simpa using g2⟩
theorem nodup_key : ∀ {l : List (Nat × Addr)} {i j : Nat} {p : Addr}, (l.map (·.2)).Nodup → (i, p) ∈ l → (j, p) ∈ l → i = j
  | [], _, _, _, _, h, _ => by cases h
  | x :: l, i, j, p, hn, h1, h2 => by
    rw [List.map_cons, List.nodup_cons] at hn
    rcases List.mem_cons.mp h1 with e1 | e1 <;> rcases List.mem_cons.mp h2 with e2 | e2
    · rw [← e1] at e2
      cases e2
      rfl
    · exact absurd (List.mem_map.mpr ⟨(j, p), e2, by rw [← e1]⟩) hn.1
    · exact absurd (List.mem_map.mpr ⟨(i, p), e1, by rw [← e2]⟩) hn.1
    · exact nodup_key hn.2 e1 e2
theorem get_app {α : Type} {xs ys : List α} {i : Nat} {x : α} (h : (xs ++ ys)[i]? = some x) : xs[i]? = some x ∨ (xs.length ≤ i ∧ ys[i - xs.length]? = some x) := by
  by_cases c : i < xs.length
  · rw [List.getElem?_append_left c] at h
    exact .inl h
  · rw [List.getElem?_append_right (by omega)] at h
    exact .inr ⟨by omega, h⟩
theorem app_get {α : Type} {xs ys : List α} {i : Nat} {x : α} (h : xs[i]? = some x) : (xs ++ ys)[i]? = some x := by
  rw [List.getElem?_append_left (List.getElem?_eq_some_iff.mp h).1]
  exact h
theorem rep_no {m i : Nat} {s : SV} (h : (List.replicate m SV.no)[i]? = some s) : s = .no := by
  obtain ⟨h1, h2⟩ := List.getElem?_eq_some_iff.mp h
  rw [List.getElem_replicate] at h2
  exact h2.symm
/-- the def's state at its entry -/
theorem entry {N : List Str} {bs : List Bool} {vs : List V} {ds : List D} {e : Env} {m : Nat} (h : ArgsOk K O H bs vs ds) (hn : (ioA bs vs).Nodup) (hd : ∀ p, p ∈ O → ∃ o, H p = some o) (ht : ∀ p xs, p ∈ O → H p ≠ some (.tup xs)) (he : argS bs ds = some e) (hm : m = N.length - vs.length) :
    Sta K (mi H (ioA bs vs)) O (pinsOf 0 bs vs) (L2.start N vs) H (e ++ List.replicate m .no) := by
  have el := h.elen he
  have val : ∀ i v, vs[i]? = some v → (L2.start N vs)[i]? = some (some v) := fun i v z => by
    unfold L2.start
    refine app_get ?_
    rw [List.getElem?_map, z]
    rfl
  have own' : ∀ i es, OwnAt (e ++ List.replicate m .no) i es → OwnAt e i es := fun i es z => by
    rcases z with z | z
    · rcases get_app z with y | ⟨_, y⟩
      · exact .inl y
      · cases rep_no y
    · rcases get_app z with y | ⟨_, y⟩
      · exact .inr y
      · cases rep_no y
  have non : ∀ {bs : List Bool} {ds : List D} {e : Env} {i : Nat} {w : OV}, argS bs ds = some e → e[i]? ≠ some (SV.nw w) := by
    intro bs
    induction bs with
    | nil =>
      intro ds e i w h z
      cases ds with
      | nil => cases h; simp at z
      | cons d r => cases h
    | cons b bs ih =>
      intro ds e i w h z
      cases ds with
      | nil => cases b <;> cases h
      | cons d r =>
        cases b with
        | true =>
          cases d with
          | lst gs =>
            obtain ⟨e', g1, g2⟩ := bnd h
            cases g2
            cases i with
            | zero => simp at z
            | succ i => exact ih g1 (by simpa using z)
          | _ => cases h
        | false =>
          have h : (argS bs r).bind (fun e => some (SV.fz d :: e)) = some e := by
            cases d <;> exact h
          obtain ⟨e', g1, g2⟩ := bnd h
          cases g2
          cases i with
          | zero => simp at z
          | succ i => exact ih g1 (by simpa using z)
  refine ⟨?_, fun i d hi => ?_, fun i es hi => ?_, fun i j es gs p hi hj a b => ?_, mi_same, hd, fun j p hj => ?_, NwOk.none fun i w z => ?_, ht⟩
  · unfold L2.start
    rw [List.length_append, List.length_append, List.length_map, List.length_replicate, List.length_replicate, el, hm]
  · rcases get_app hi with y | ⟨_, y⟩
    · obtain ⟨v, g1, g2⟩ := h.fz he y
      exact ⟨v, val i v g1, g2⟩
    · cases rep_no y
  · obtain ⟨p, xs, g1, g2, g3, g4, g5⟩ := h.own (k := 0) he (own' i es hi)
    exact ⟨p, xs, val _ _ g1, g2, g3, g4, mi_in (List.mem_map.mpr ⟨_, g5, rfl⟩)⟩
  · obtain ⟨p1, xs1, g1, _, _, _, g5⟩ := h.own (k := 0) he (own' i es hi)
    obtain ⟨p2, xs2, k1, _, _, _, k5⟩ := h.own (k := 0) he (own' j gs hj)
    rw [val _ _ g1] at a
    rw [val _ _ k1] at b
    cases a
    cases b
    have := nodup_key hn g5 k5
    omega
  · obtain ⟨es, g1, g2⟩ := h.pins he hj
    exact ⟨val _ _ g1, es, app_get g2⟩
  · rcases get_app z with y | ⟨_, y⟩
    · exact non he y
    · cases rep_no y
theorem outs_of {O' : List Addr} {σ' : L2.St} (S : Sta K B O' I σ' H env) (so : ∀ a, a ∈ O → a ∈ O') : ∀ {l : List (Nat × Addr)} {outs : List (List D)}, (∀ x, x ∈ l → x ∈ I) → outE env (l.map (·.1)) = some outs → OutsOk K O H (l.map (·.2)) outs
  | [], outs, _, e => by cases e; trivial
  | (j, p) :: l, outs, hl, e => by
    obtain ⟨s1, ds, e1⟩ := S.pin j p (hl _ List.mem_cons_self)
    rw [List.map_cons] at e
    unfold outE at e
    dsimp only at e
    rw [e1] at e
    obtain ⟨r, e2, e3⟩ := bnd e
    cases e3
    obtain ⟨q, xs, k1, k2, k3, k4, k5⟩ := S.ow j ds (.inr e1)
    rw [s1] at k1
    cases k1
    exact ⟨⟨xs, k3, DqA.mono (mi_sub so) _ _ k4⟩, outs_of S so (fun x hx => hl x (List.mem_cons_of_mem _ hx)) e2⟩
theorem pins_ix : ∀ {bs : List Bool} {vs : List V} {ds : List D} {k : Nat}, ArgsOk K O H bs vs ds → (pinsOf k bs vs).map (·.1) = ioIx k bs
  | _, _, _, _, .nil => rfl
  | _, _, _, k, @ArgsOk.val _ _ _ v d bs vs ds h1 h2 => by
    have := pins_ix (k := k + 1) h2
    unfold ioIx
    rw [← this]
    cases v <;> rfl
  | _, _, _, k, @ArgsOk.io _ _ _ p xs es bs vs ds h1 h2 h3 h4 => by
    have := pins_ix (k := k + 1) h4
    unfold ioIx pinsOf
    rw [List.map_cons, this]
/-- a def keeps its promise, by its body -/
theorem body_ok {N : List Str} {bs : List Bool} {m : Nat} {b : SFn} {t : TS} {vs : List V} {Q : VK} {E : XK} (hb : SndS K W t b) (hm : m = N.length - bs.length) (h : spD K bs (fDef m bs b) vs H Q E) : t { nx := fun _ H' => Q .non H', rt := Q } (L2.start N vs) H := by
  obtain ⟨O, ds, r, fr, outs, ha, hn, hd, ht, eg, q⟩ := h
  obtain ⟨e, ee, eg⟩ := bnd eg
  obtain ⟨o, eo, eg⟩ := bnd eg
  have S := entry (N := N) (m := m) ha hn hd ht ee (by rw [ha.len]; exact hm)
  refine hb _ O _ _ H _ o S eo _ ?_
  have inc : ∀ {O' : List Addr}, Sub (mi H (ioA bs vs)) (pinsOf 0 bs vs) O O' → ∀ a, a ∈ O → a ∈ O' := fun s a z => s.1 a z (by
    by_cases c : a ∈ ioA bs vs
    · exact .inr c
    · obtain ⟨o, h⟩ := hd a z
      exact .inl fun q => by rw [mi_out c, h] at q; cases q)
  have fr1 : ∀ {O' : List Addr} {σ' : L2.St} {H' : Hp} {env' : Env}, Sta K (mi H (ioA bs vs)) O' (pinsOf 0 bs vs) σ' H' env' → ∀ a o, H a = some o → a ∉ ioA bs vs → H' a = some o := fun S' a o z y => S'.base a o (mi_of y z)
  have ix : (pinsOf 0 bs vs).map (·.1) = ioIx 0 bs := pins_ix ha
  have newp : ∀ {O' : List Addr} {σ' : L2.St} {H' : Hp} {env' : Env} {p : Addr}, Sta K (mi H (ioA bs vs)) O' (pinsOf 0 bs vs) σ' H' env' → mi H (ioA bs vs) p = none → H' p = none → H p = none := fun {O' σ' H' env' p} S' z y => by
    by_cases c : p ∈ ioA bs vs
    · obtain ⟨⟨j, p'⟩, c1, c2⟩ := List.mem_map.mp c
      cases c2
      obtain ⟨s1, gs, e1⟩ := S'.pin j _ c1
      obtain ⟨q, xs, k1, k2, k3, _⟩ := S'.ow j gs (.inr e1)
      rw [s1] at k1
      cases k1
      rw [y] at k3
      cases k3
    · rw [mi_out c] at z
      exact z
  cases o with
  | nx env1 =>
    obtain ⟨outs', e1, e2⟩ := bnd eg
    cases e2
    intro O' σ' H' s S'
    rw [← ix] at e1
    exact q _ _ ⟨fr1 S', fun _ => ⟨outs_of S' (inc s) (fun _ z => z) e1, .non⟩, (fun z => nomatch z), (fun z => nomatch z)⟩
  | bk env1 => cases eg
  | ct env1 => cases eg
  | rt rv env1 =>
    cases rv with
    | ex n => cases eg
    | val d =>
      obtain ⟨outs', e1, e2⟩ := bnd eg
      cases e2
      intro O' σ' H' v s ⟨S', dv⟩
      rw [← ix] at e1
      exact q _ _ ⟨fr1 S', fun _ => ⟨outs_of S' (inc s) (fun _ z => z) e1, Dq.mono (mi_sub (inc s)) _ _ dv⟩, (fun z => nomatch z), (fun z => nomatch z)⟩
    | tw dss =>
      obtain ⟨outs', e1, e2⟩ := bnd eg
      cases e2
      intro O' σ' H' v s ⟨p, qs, hv, hp, hnd, hfr, S', hl⟩
      rw [← ix] at e1
      refine q _ _ ⟨fun a o z y => mi_same _ _ (fr1 S' a o z y), (fun z => nomatch z), (fun _ z => nomatch z), fun _ _ => ⟨p, qs, dss, hv, rfl, hp, hnd, fun a ha => newp S' (hfr a ha).1 (mi_in ha), LsOk.mono (mi_sub fun a ha => ?_) (fun _ _ => rfl) hl, outs_of S' (inc s) (fun _ z => z) e1⟩⟩
      rcases List.mem_append.mp ha with z | z
      · exact List.mem_append_left _ z
      · exact List.mem_append_right _ (inc s a z)
    | new es =>
      obtain ⟨outs', e1, e2⟩ := bnd eg
      cases e2
      intro O' σ' H' v s ⟨p, xs, hv, hp, hB, hO, S', dx⟩
      rw [← ix] at e1
      have hpn : H p = none := newp S' hB (mi_in (List.mem_singleton.mpr rfl))
      refine q _ _ ⟨fun a o z y => mi_same _ _ (fr1 S' a o z y), (fun z => nomatch z), (fun _ _ => ⟨p, xs, es, hv, rfl, hpn, hp, DqA.mono (mi_sub (inc s)) _ _ dx, outs_of S' (inc s) (fun _ z => z) e1⟩), (fun _ z => nomatch z)⟩
    | slot i =>
      dsimp only at eg
      split at eg
      · rename_i gs hgs
        obtain ⟨outs', e1, e2⟩ := bnd eg
        cases e2
        intro O' σ' H' v s ⟨S', hv⟩
        rw [← ix] at e1
        obtain ⟨p, xs, rfl, k2, k3, k4, k5⟩ := S'.own (.inl hgs) hv
        have hpn : H p = none := by
          by_cases c : p ∈ ioA bs vs
          · obtain ⟨⟨j, p'⟩, c1, c2⟩ := List.mem_map.mp c
            cases c2
            obtain ⟨s1, hs, e1⟩ := S'.pin j _ c1
            have := S'.sep i j gs hs _ (.inl hgs) (.inr e1) hv s1
            subst this
            rw [hgs] at e1
            cases e1
          · rw [mi_out c] at k5
            exact k5
        have sm : Same (mi H' O') (mi (mi H' [p]) O) := fun a o z => by
          obtain ⟨z1, z2⟩ := mi_some z
          refine mi_of (fun y => z1 (inc s a y)) (mi_of (fun y => ?_) z2)
          rw [List.mem_singleton] at y
          subst y
          exact z1 k2
        have outs2 : OutsOk K O (mi H' [p]) (ioA bs vs) outs := by
          have key : ∀ {l : List (Nat × Addr)} {outs : List (List D)}, (∀ x, x ∈ l → x ∈ pinsOf 0 bs vs) → outE env1 (l.map (·.1)) = some outs → OutsOk K O (mi H' [p]) (l.map (·.2)) outs := by
            intro l
            induction l with
            | nil => intro outs _ e; cases e; trivial
            | cons x l ih =>
              intro outs hl e
              obtain ⟨j, p1⟩ := x
              obtain ⟨s1, hs, e1⟩ := S'.pin j p1 (hl _ List.mem_cons_self)
              rw [List.map_cons] at e
              unfold outE at e
              dsimp only at e
              rw [e1] at e
              obtain ⟨r, e2, e3⟩ := bnd e
              cases e3
              obtain ⟨q, ys, g1, g2, g3, g4, g5⟩ := S'.ow j hs (.inr e1)
              rw [s1] at g1
              cases g1
              have c : p1 ≠ p := fun y => by
                subst y
                have := S'.sep i j gs hs _ (.inl hgs) (.inr e1) hv s1
                subst this
                rw [hgs] at e1
                cases e1
              exact ⟨⟨ys, mi_of (fun y => c (List.mem_singleton.mp y)) g3, DqA.mono sm _ _ g4⟩, ih (fun x hx => hl x (List.mem_cons_of_mem _ hx)) e2⟩
          exact key (fun _ z => z) e1
        exact q _ _ ⟨fr1 S', (fun z => nomatch z), (fun _ _ => ⟨p, xs, gs, rfl, rfl, hpn, k3, DqA.mono sm _ _ k4, outs2⟩), (fun _ z => nomatch z)⟩
      · cases eg
end
end Dv
namespace Dv
open PySem L2
mutual
def noL : D → Bool
  | .lst _ => false
  | .scr _ => false
  | .tup ds => noLs ds
  | .non => true
  | .bl _ => true
  | .int _ => true
  | .str _ => true
  | .adr _ => true
  | .nt ds => noLs ds
  | .dct _ ds => noLs ds
def noLs : List D → Bool
  | [] => true
  | d :: ds => noL d && noLs ds
end
/-- the arguments' things, the own lists handed over, the own lists lent -/
def argD (env : Env) : List Bool → List RV → Option (List D × List Nat × List Nat)
  | [], [] => some ([], [], [])
  | true :: bs, .slot i :: rs => (deref env (.slot i)).bind fun d => (argD env bs rs).bind fun x => some (d :: x.1, i :: x.2.1, x.2.2)
  | false :: bs, .val d :: rs => (argD env bs rs).bind fun x => some (d :: x.1, x.2.1, x.2.2)
  | false :: bs, .slot i :: rs => (deref env (.slot i)).bind fun d => (argD env bs rs).bind fun x => some (d :: x.1, x.2.1, i :: x.2.2)
  | _, _ => none
def putOuts : List Nat → List (List D) → Env → Option Env
  | [], [], env => some env
  | i :: is, ds :: dss, env => (upO i (fun _ => some ds) env).bind fun e => putOuts is dss e
  | _, _, _ => none
def lsOf : List D → Option (List (List D))
  | [] => some []
  | .lst ds :: r => (lsOf r).bind fun x => some (ds :: x)
  | _ => none
theorem lsOf_map : ∀ dss : List (List D), lsOf (dss.map D.lst) = some dss
  | [] => rfl
  | ds :: r => by
    show (lsOf (r.map D.lst)).bind _ = _
    rw [lsOf_map r]
    rfl
def resR (r : D × Bool × List (List D)) : Option RV := match r.2.1, r.1 with
  | true, .lst ds => some (.new ds)
  | true, .tup ds => (lsOf ds).bind fun x => some (.tw x)
  | false, d => some (.val d)
  | _, _ => none
def lentOk (bor : List Nat) : RV → Bool
  | .val d => bor.isEmpty || noL d
  | .new ds => bor.isEmpty || noLs ds
  | .slot _ => false
  | .ex _ => false
  | .tw _ => bor.isEmpty
theorem resR_tw {dss : List (List D)} {outs : List (List D)} {rv : RV} (h : resR (.tup (dss.map D.lst), true, outs) = some rv) : rv = .tw dss := by
  have e : resR (.tup (dss.map D.lst), true, outs) = (lsOf (dss.map D.lst)).bind fun x => some (.tw x) := rfl
  rw [e, lsOf_map] at h
  cases h
  rfl
def fCall (io : List Bool) (g : FF) (fa : AF) : EF := fun env => (fa env).bind fun a => (argD a.2 io a.1).bind fun x => if decide x.2.1.Nodup && decide (∀ i, i ∈ x.2.1 → i ∉ x.2.2) then (g x.1).bind fun r => (putOuts x.2.1 r.2.2 a.2).bind fun e => (resR r).bind fun z => if lentOk x.2.2 z && r.2.2.all (fun ds => x.2.2.isEmpty || noLs ds) then some (z, e) else none else none
section
variable {K : PySem.W.Frag} {B : Hp} {O : List Addr} {I : List (Nat × Addr)} {σ : L2.St} {H H' : Hp} {env env' : Env} {v : V} {t ta tb te : TE} {f fa fb fe : EF} {W : WN}
mutual
/-- a thing without lists does not hang on any list -/
theorem Dq.less {O' : List Addr} (hl : ∀ a, a ∈ O' → a ∈ O ∨ ∃ xs, H a = some (.lst xs)) : ∀ (d : D) (v : V), noL d = true → Dq K (mi H O) v d → Dq K (mi H O') v d
  | .non, _, _, h => by cases h; exact .non
  | .bl b, _, _, h => by cases h; exact .bl b
  | .int i, _, _, h => by cases h; exact .int i
  | .str x, _, _, h => by cases h; exact .str x
  | .lst ds, _, n, h => by simp only [noL] at n; cases n
  | .scr ds, _, n, h => by simp only [noL] at n; cases n
  | .adr a, _, _, h => by cases h; exact .adr a
  | .nt ds, _, n, h => by
    simp only [noL] at n
    cases h with
    | nt h1 h2 =>
      obtain ⟨z1, z2⟩ := mi_some h1
      refine .nt (mi_of (fun y => ?_) z2) (DqA.less hl ds _ n h2)
      rcases hl _ y with y | ⟨xs, y⟩
      · exact z1 y
      · rw [z2] at y
        cases y
  | .dct _ ds, _, n, h => by
    simp only [noL] at n
    cases h with
    | dct h1 h3 h2 =>
      refine .dct ?_ h3 (DqA.less hl ds _ n h2)
      rcases h1 with h1 | ⟨od, h1⟩
      · obtain ⟨z1, z2⟩ := mi_some h1
        refine .inl (mi_of (fun y => ?_) z2)
        rcases hl _ y with y | ⟨xs, y⟩
        · exact z1 y
        · rw [z2] at y
          cases y
      · obtain ⟨z1, z2⟩ := mi_some h1
        refine .inr ⟨od, mi_of (fun y => ?_) z2⟩
        rcases hl _ y with y | ⟨xs, y⟩
        · exact z1 y
        · rw [z2] at y
          cases y
  | .tup ds, _, n, h => by
    simp only [noL] at n
    cases h with
    | tup h1 h2 =>
      refine .tup ?_ (DqA.less hl ds _ n h2)
      rcases h1 with (h | ⟨o, h⟩) | h
      · obtain ⟨z1, z2⟩ := mi_some h
        refine .inl (.inl (mi_of (fun y => ?_) z2))
        rcases hl _ y with y | ⟨xs, y⟩
        · exact z1 y
        · rw [z2] at y
          cases y
      · obtain ⟨z1, z2⟩ := mi_some h
        refine .inl (.inr ⟨o, mi_of (fun y => ?_) z2⟩)
        rcases hl _ y with y | ⟨xs, y⟩
        · exact z1 y
        · rw [z2] at y
          cases y
      · exact .inr h
theorem DqA.less {O' : List Addr} (hl : ∀ a, a ∈ O' → a ∈ O ∨ ∃ xs, H a = some (.lst xs)) : ∀ (ds : List D) (vs : List V), noLs ds = true → DqA K (mi H O) vs ds → DqA K (mi H O') vs ds
  | [], _, _, h => by cases h; exact .nil
  | d :: ds, _, n, h => by
    simp only [noLs, Bool.and_eq_true] at n
    cases h with
    | cons h1 h2 => exact .cons (Dq.less hl d _ n.1 h1) (DqA.less hl ds _ n.2 h2)
end
/-- the places of some names -/
def addrs (σ : L2.St) : List Nat → List Addr
  | [] => []
  | i :: is => match σ[i]? with
    | some (some (.ref p)) => p :: addrs σ is
    | _ => addrs σ is
theorem addrs_mem {p : Addr} : ∀ {l : List Nat}, p ∈ addrs σ l → ∃ i, i ∈ l ∧ σ[i]? = some (some (.ref p))
  | [], h => by cases h
  | i :: l, h => by
    unfold addrs at h
    split at h
    · rename_i q hq
      rcases List.mem_cons.mp h with rfl | h
      · exact ⟨i, List.mem_cons_self, hq⟩
      · obtain ⟨j, h1, h2⟩ := addrs_mem h
        exact ⟨j, List.mem_cons_of_mem _ h1, h2⟩
    · obtain ⟨j, h1, h2⟩ := addrs_mem h
      exact ⟨j, List.mem_cons_of_mem _ h1, h2⟩
theorem mem_addrs {p : Addr} {i : Nat} : ∀ {l : List Nat}, i ∈ l → σ[i]? = some (some (.ref p)) → p ∈ addrs σ l
  | [], h, _ => by cases h
  | j :: l, h, e => by
    unfold addrs
    rcases List.mem_cons.mp h with rfl | h
    · rw [e]
      exact List.mem_cons_self
    · split
      · exact List.mem_cons_of_mem _ (mem_addrs h e)
      · exact mem_addrs h e
theorem args_ok (S : Sta K B O I σ H env) {bor : List Nat} : ∀ {bs : List Bool} {vs : List V} {rs : List RV} {x : List D × List Nat × List Nat} {k : Nat}, PostA K B O I σ H env vs rs → argD env bs rs = some x → (∀ i, i ∈ x.2.2 → i ∈ bor) → (∀ i, i ∈ x.2.1 → i ∉ bor) →
    (∀ i, i ∈ bor → ∃ ds, OwnAt env i ds) →
    ArgsOk K (O.filter fun a => decide (a ∉ addrs σ bor)) H bs vs x.1 ∧ (pinsOf k bs vs).map (·.2) = addrs σ x.2.1 ∧ (∀ i, i ∈ x.2.1 → ∃ ds p, OwnAt env i ds ∧ σ[i]? = some (some (.ref p)))
  | bs, _, _, x, k, .nil, e, hb, hi, ho => by
    cases bs with
    | nil => cases e; exact ⟨.nil, rfl, fun _ z => nomatch z⟩
    | cons b bs => cases b <;> cases e
  | bs, _, _, x, k, @PostA.cons _ _ _ _ _ _ _ v r vs rs P t, e, hb, hi, ho => by
    have sub : ∀ a, a ∈ O.filter (fun a => decide (a ∉ addrs σ bor)) → a ∈ O := fun a z => (List.mem_filter.mp z).1
    cases bs with
    | nil => cases e
    | cons b bs =>
      cases b with
      | true =>
        cases r with
        | ex n => cases e
        | val d => cases e
        | new ds => cases e
        | tw ds => cases e
        | slot i =>
          obtain ⟨d, e1, e⟩ := bnd e
          obtain ⟨y, e2, e⟩ := bnd e
          cases e
          obtain ⟨ds, rfl, ow⟩ := ownAt_of e1
          obtain ⟨p, xs, rfl, k2, k3, k4, k5⟩ := S.own ow P.2
          obtain ⟨g1, g2, g3⟩ := args_ok S (k := k + 1) t e2 (fun j z => hb j z) (fun j z => hi j (List.mem_cons_of_mem _ z)) ho
          have hpf : p ∈ O.filter fun a => decide (a ∉ addrs σ bor) := by
            refine List.mem_filter.mpr ⟨k2, decide_eq_true fun z => ?_⟩
            obtain ⟨j, z1, z2⟩ := addrs_mem z
            obtain ⟨es, z3⟩ := ho j z1
            have := S.sep i j ds es p ow z3 P.2 z2
            subst this
            exact hi i List.mem_cons_self z1
          refine ⟨.io hpf k3 (DqA.mono (mi_sub sub) _ _ k4) g1, ?_, fun j z => ?_⟩
          · unfold pinsOf addrs
            rw [P.2, List.map_cons, g2]
          · rcases List.mem_cons.mp z with rfl | z
            · exact ⟨ds, p, ow, P.2⟩
            · exact g3 j z
      | false =>
        have pin : ∀ (v : V), (pinsOf k (false :: bs) (v :: vs)) = pinsOf (k + 1) bs vs := fun v => by cases v <;> rfl
        cases r with
        | ex n => cases e
        | val d =>
          obtain ⟨y, e2, e⟩ := bnd e
          cases e
          obtain ⟨g1, g2, g3⟩ := args_ok S (k := k + 1) t e2 (fun j z => hb j z) (fun j z => hi j z) ho
          exact ⟨.val (Dq.mono (mi_sub sub) _ _ P.2) g1, by rw [pin]; exact g2, g3⟩
        | new ds =>
          obtain ⟨y, e2, e⟩ := bnd e
          cases e
          obtain ⟨g1, g2, g3⟩ := args_ok S (k := k + 1) t e2 (fun j z => hb j z) (fun j z => hi j z) ho
          exact ⟨.val (Dq.mono (mi_sub sub) _ _ P.2) g1, by rw [pin]; exact g2, g3⟩
        | tw ds =>
          obtain ⟨y, e2, e⟩ := bnd e
          cases e
          obtain ⟨g1, g2, g3⟩ := args_ok S (k := k + 1) t e2 (fun j z => hb j z) (fun j z => hi j z) ho
          exact ⟨.val (Dq.mono (mi_sub sub) _ _ P.2) g1, by rw [pin]; exact g2, g3⟩
        | slot i =>
          obtain ⟨d, e1, e⟩ := bnd e
          obtain ⟨y, e2, e⟩ := bnd e
          cases e
          obtain ⟨ds, rfl, ow⟩ := ownAt_of e1
          obtain ⟨p, xs, rfl, k2, k3, k4, k5⟩ := S.own ow P.2
          obtain ⟨g1, g2, g3⟩ := args_ok S (k := k + 1) t e2 (fun j z => hb j (List.mem_cons_of_mem _ z)) (fun j z => hi j z) ho
          have hpf : p ∉ O.filter fun a => decide (a ∉ addrs σ bor) := fun z => of_decide_eq_true (List.mem_filter.mp z).2 (mem_addrs (hb i List.mem_cons_self) P.2)
          exact ⟨.val (.lst (mi_of hpf k3) (DqA.mono (mi_sub sub) _ _ k4)) g1, by rw [pin]; exact g2, g3⟩
theorem lent_own {bs : List Bool} : ∀ {rs : List RV} {bs : List Bool} {x : List D × List Nat × List Nat}, argD env bs rs = some x → ∀ i, i ∈ x.2.2 → ∃ ds, OwnAt env i ds
  | [], bs, x, e, i, h => by
    cases bs with
    | nil => cases e; cases h
    | cons b bs => cases b <;> cases e
  | r :: rs, bs, x, e, i, h => by
    cases bs with
    | nil => cases e
    | cons b bs =>
      cases b with
      | true =>
        cases r with
        | ex n => cases e
        | val d => cases e
        | new ds => cases e
        | tw ds => cases e
        | slot j =>
          obtain ⟨d, e1, e⟩ := bnd e
          obtain ⟨y, e2, e⟩ := bnd e
          cases e
          exact lent_own (bs := bs) e2 i h
      | false =>
        cases r with
        | ex n => cases e
        | val d =>
          obtain ⟨y, e2, e⟩ := bnd e
          cases e
          exact lent_own (bs := bs) e2 i h
        | new ds => cases e
        | tw ds => cases e
        | slot j =>
          obtain ⟨d, e1, e⟩ := bnd e
          obtain ⟨y, e2, e⟩ := bnd e
          cases e
          rcases List.mem_cons.mp h with rfl | h
          · obtain ⟨ds, _, ow⟩ := ownAt_of e1
            exact ⟨ds, ow⟩
          · exact lent_own (bs := bs) e2 i h
/-- a state but for what some names own -/
structure StaX (K : PySem.W.Frag) (B : Hp) (O : List Addr) (I : List (Nat × Addr)) (σ : L2.St) (H : Hp) (env : Env) (X : List Nat) : Prop where
  len : σ.length = env.length
  fz : ∀ (i : Nat) (d : D), env[i]? = some (SV.fz d) → ∃ v, σ[i]? = some (some v) ∧ Dq K (mi H O) v d
  ow : ∀ (i : Nat) (ds : List D), OwnAt env i ds → ∃ p, σ[i]? = some (some (.ref p)) ∧ p ∈ O ∧ B p = none ∧ (i ∉ X → ∃ xs, H p = some (.lst xs) ∧ DqA K (mi H O) xs ds)
  sep : ∀ (i j : Nat) (ds es : List D) (p : Addr), OwnAt env i ds → OwnAt env j es → σ[i]? = some (some (.ref p)) → σ[j]? = some (some (.ref p)) → i = j
  base : Same B H
  dom : ∀ p, p ∈ O → ∃ o, H p = some o
  pin : ∀ (j : Nat) (p : Addr), (j, p) ∈ I → σ[j]? = some (some (.ref p)) ∧ ∃ ds, env[j]? = some (SV.io ds)
  nw : NwOk K B O σ H env
  nt : ∀ (p : Addr) (xs : List V), p ∈ O → H p ≠ some (.tup xs)
theorem StaX.done (S : StaX K B O I σ H env []) : Sta K B O I σ H env :=
  ⟨S.len, S.fz, fun i ds h => by
    obtain ⟨p, h1, h2, h3, h4⟩ := S.ow i ds h
    obtain ⟨xs, h5, h6⟩ := h4 (by simp)
    exact ⟨p, xs, h1, h2, h5, h6, h3⟩, S.sep, S.base, S.dom, S.pin, S.nw, S.nt⟩
theorem StaX.step {i : Nat} {X : List Nat} {p : Addr} {xs : List V} {es : List D} (S : StaX K B O I σ H env (i :: X)) (hi : i ∉ X) (hs : σ[i]? = some (some (.ref p))) (hp : H p = some (.lst xs)) (hx : DqA K (mi H O) xs es)
    (e : upO i (fun _ => some es) env = some env') : StaX K B O I σ H env' X := by
  obtain ⟨ds, es', k, h1, h2, hk, h3, rfl⟩ := upO_of e
  cases h2
  have hl : i < env.length := (List.getElem?_eq_some_iff.mp h3).1
  have own' : ∀ j gs, OwnAt (env.set i (k es)) j gs → ∃ gs', OwnAt env j gs' ∧ (j ≠ i → gs' = gs) ∧ (j = i → gs = es) := fun j gs z => by
    by_cases c : j = i
    · subst c
      refine ⟨ds, h1, fun z => absurd rfl z, fun _ => ?_⟩
      unfold OwnAt at z
      rw [List.getElem?_set_self hl] at z
      rcases hk with rfl | rfl <;> rcases z with z | z <;> cases z <;> rfl
    · exact ⟨gs, (own_set c).mp z, fun _ => rfl, fun z => absurd z c⟩
  refine ⟨by simp [S.len], fun j d hj => ?_, fun j gs hj => ?_, fun j l gs fs q hj hl' e1 e2 => ?_, S.base, S.dom, fun j q hj => ?_, ?_, S.nt⟩
  · by_cases c : j = i
    · subst c
      rw [List.getElem?_set_self hl] at hj
      rcases hk with rfl | rfl <;> cases hj
    · rw [List.getElem?_set_ne (Ne.symm c)] at hj
      exact S.fz j d hj
  · obtain ⟨gs', o1, o2, o3⟩ := own' j gs hj
    obtain ⟨q, k1, k2, k3, k4⟩ := S.ow j gs' o1
    refine ⟨q, k1, k2, k3, fun hX => ?_⟩
    by_cases c : j = i
    · subst c
      rw [o3 rfl]
      rw [hs] at k1
      cases k1
      exact ⟨xs, hp, hx⟩
    · rw [← o2 c]
      exact k4 (fun z => (List.mem_cons.mp z).elim c hX)
  · obtain ⟨gs', o1, _⟩ := own' j gs hj
    obtain ⟨fs', o2, _⟩ := own' l fs hl'
    exact S.sep j l gs' fs' q o1 o2 e1 e2
  · obtain ⟨k1, gs, k2⟩ := S.pin j q hj
    by_cases c : j = i
    · subst c
      rw [h3] at k2
      rcases hk with rfl | rfl
      · cases k2
      · exact ⟨k1, es, List.getElem?_set_self hl⟩
    · rw [List.getElem?_set_ne (Ne.symm c)]
      exact ⟨k1, gs, k2⟩
  · refine NwOk.go S.nw (fun j w hj => ⟨(nw_set hl (fun w z => by rcases hk with rfl | rfl <;> cases z) hj).2, rfl⟩) (fun j gs a hj e => ?_) (fun a g1 g2 _ _ => ⟨g1, g2, rfl⟩) (Same.refl _) S.dom
    obtain ⟨gs', o1, _⟩ := own' j gs hj
    exact .inl ⟨gs', o1, e⟩
theorem StaX.all {Oc : List Addr} {ok : List D → Bool} (less : ∀ (ds : List D) (xs : List V), ok ds = true → DqA K (mi H Oc) xs ds → DqA K (mi H O) xs ds) : ∀ {X : List Nat} {env : Env} {outs : List (List D)}, StaX K B O I σ H env X → outs.all ok = true → X.Nodup → (∀ i, i ∈ X → ∃ p, σ[i]? = some (some (.ref p))) → OutsOk K Oc H (addrs σ X) outs → putOuts X outs env = some env' → Sta K B O I σ H env'
  | [], env, outs, S, _, _, _, ho, e => by
    cases outs with
    | nil => cases e; exact S.done
    | cons a b => cases e
  | i :: X, env, outs, S, ha, hn, hp, ho, e => by
    cases outs with
    | nil => cases e
    | cons ds dss =>
      obtain ⟨e1, h1, h2⟩ := bnd e
      obtain ⟨p, hs⟩ := hp i List.mem_cons_self
      unfold addrs at ho
      rw [hs] at ho
      obtain ⟨⟨xs, g1, g2⟩, g3⟩ := ho
      rw [List.nodup_cons] at hn
      rw [List.all_cons, Bool.and_eq_true] at ha
      exact StaX.all less (S.step hn.1 hs g1 (less _ _ ha.1 g2) h1) ha.2 hn.2 (fun j z => hp j (List.mem_cons_of_mem _ z)) g3 h2
theorem addrs_nodup (S : Sta K B O I σ H env) : ∀ {X : List Nat}, X.Nodup → (∀ i, i ∈ X → ∃ ds p, OwnAt env i ds ∧ σ[i]? = some (some (.ref p))) → (addrs σ X).Nodup
  | [], _, _ => List.nodup_nil
  | i :: X, hn, ho => by
    rw [List.nodup_cons] at hn
    obtain ⟨ds, p, h1, h2⟩ := ho i List.mem_cons_self
    unfold addrs
    rw [h2]
    refine List.nodup_cons.mpr ⟨fun z => ?_, addrs_nodup S hn.2 fun j z => ho j (List.mem_cons_of_mem _ z)⟩
    obtain ⟨j, z1, z2⟩ := addrs_mem z
    obtain ⟨es, q, k1, k2⟩ := ho j (List.mem_cons_of_mem _ z1)
    have := S.sep i j ds es p h1 k1 h2 z2
    subst this
    exact hn.1 z1
theorem outs_dom {Oc : List Addr} {p : Addr} : ∀ {ps : List Addr} {outs : List (List D)}, OutsOk K Oc H ps outs → p ∈ ps → ∃ xs, H p = some (.lst xs)
  | [], outs, _, h => by cases h
  | q :: ps, outs, ho, h => by
    cases outs with
    | nil => cases ho
    | cons ds dss =>
      obtain ⟨⟨xs, g1, g2⟩, g3⟩ := ho
      rcases List.mem_cons.mp h with rfl | h
      · exact ⟨xs, g1⟩
      · exact outs_dom g3 h
/-- the state behind a call -/
theorem called {ios bor : List Nat} {outs : List (List D)} (S : Sta K B O I σ H env) (hn : ios.Nodup) (hio : ∀ i, i ∈ ios → ∃ ds p, OwnAt env i ds ∧ σ[i]? = some (some (.ref p))) (hdis : ∀ i, i ∈ ios → i ∉ bor) (hbo : ∀ i, i ∈ bor → ∃ ds, OwnAt env i ds)
    (frame : ∀ a o, H a = some o → a ∉ addrs σ ios → H' a = some o) (ho : OutsOk K (O.filter fun a => decide (a ∉ addrs σ bor)) H' (addrs σ ios) outs) (hl : outs.all (fun ds => bor.isEmpty || noLs ds) = true) (e : putOuts ios outs env = some env') :
    Sta K B O I σ H' env' ∧ (∀ d v, (bor.isEmpty || noL d) = true → Dq K (mi H' (O.filter fun a => decide (a ∉ addrs σ bor))) v d → Dq K (mi H' O) v d) ∧
      (∀ ds vs, (bor.isEmpty || noLs ds) = true → DqA K (mi H' (O.filter fun a => decide (a ∉ addrs σ bor))) vs ds → DqA K (mi H' O) vs ds) := by
  have hps : ∀ a, a ∈ addrs σ ios → ∃ i ds, i ∈ ios ∧ OwnAt env i ds ∧ σ[i]? = some (some (.ref a)) := fun a z => by
    obtain ⟨i, z1, z2⟩ := addrs_mem z
    obtain ⟨ds, p, z3, z4⟩ := hio i z1
    exact ⟨i, ds, z1, z3, z2⟩
  have psO : ∀ a, a ∈ addrs σ ios → a ∈ O ∧ B a = none := fun a z => by
    obtain ⟨i, ds, z1, z2, z3⟩ := hps a z
    obtain ⟨p, xs, k1, k2, k3, k4, k5⟩ := S.ow i ds z2
    rw [z3] at k1
    cases k1
    exact ⟨k2, k5⟩
  have hl' : ∀ a, a ∈ O → a ∈ (O.filter fun a => decide (a ∉ addrs σ bor)) ∨ ∃ xs, H' a = some (.lst xs) := fun a z => by
    by_cases c : a ∈ addrs σ bor
    · obtain ⟨i, z1, z2⟩ := addrs_mem c
      obtain ⟨ds, z3⟩ := hbo i z1
      obtain ⟨p, xs, k1, k2, k3, k4, k5⟩ := S.ow i ds z3
      rw [z2] at k1
      cases k1
      refine .inr ⟨xs, frame _ _ k3 fun y => ?_⟩
      obtain ⟨j, es, y1, y2, y3⟩ := hps _ y
      have := S.sep i j ds es _ z3 y2 z2 y3
      subst this
      exact hdis i y1 z1
    · exact .inl (List.mem_filter.mpr ⟨z, decide_eq_true c⟩)
  have e0 : bor.isEmpty = true → (O.filter fun a => decide (a ∉ addrs σ bor)) = O := fun z => by
    have : bor = [] := List.isEmpty_iff.mp z
    subst this
    refine List.filter_eq_self.mpr fun a _ => decide_eq_true fun y => ?_
    cases y
  have less1 : ∀ d v, (bor.isEmpty || noL d) = true → Dq K (mi H' (O.filter fun a => decide (a ∉ addrs σ bor))) v d → Dq K (mi H' O) v d := fun d v z h => by
    rcases Bool.or_eq_true _ _ |>.mp z with z | z
    · rw [e0 z] at h
      exact h
    · exact Dq.less hl' d v z h
  have less2 : ∀ ds vs, (bor.isEmpty || noLs ds) = true → DqA K (mi H' (O.filter fun a => decide (a ∉ addrs σ bor))) vs ds → DqA K (mi H' O) vs ds := fun ds vs z h => by
    rcases Bool.or_eq_true _ _ |>.mp z with z | z
    · rw [e0 z] at h
      exact h
    · exact DqA.less hl' ds vs z h
  refine ⟨?_, less1, less2⟩
  have sm : Same (mi H O) (mi H' O) := fun a o z => by
    obtain ⟨z1, z2⟩ := mi_some z
    exact mi_of z1 (frame _ _ z2 fun y => z1 (psO a y).1)
  have X : StaX K B O I σ H' env ios := by
    refine ⟨S.len, fun i d h => ?_, fun i ds h => ?_, S.sep, fun a o h => ?_, fun p hp => ?_, S.pin, ?_, fun p xs hp => ?_⟩
    · obtain ⟨v, h1, h2⟩ := S.fz i d h
      exact ⟨v, h1, Dq.mono sm _ _ h2⟩
    · obtain ⟨p, xs, k1, k2, k3, k4, k5⟩ := S.ow i ds h
      refine ⟨p, k1, k2, k5, fun hX => ⟨xs, frame _ _ k3 fun y => ?_, DqA.mono sm _ _ k4⟩⟩
      obtain ⟨j, es, y1, y2, y3⟩ := hps _ y
      have := S.sep i j ds es _ h y2 k1 y3
      subst this
      exact hX y1
    · refine frame _ _ (S.base a o h) fun y => ?_
      rw [(psO a y).2] at h
      cases h
    · by_cases c : p ∈ addrs σ ios
      · obtain ⟨xs, z⟩ := outs_dom ho c
        exact ⟨_, z⟩
      · obtain ⟨o, z⟩ := S.dom p hp
        exact ⟨o, frame _ _ z c⟩
    · refine NwOk.go S.nw (fun j w hj => ⟨hj, rfl⟩) (fun j ds a hj e => .inl ⟨ds, hj, e⟩) (fun a g1 g2 ⟨o, g3⟩ g4 => ⟨g1, g2, ?_⟩) sm S.dom
      rw [g3]
      refine frame _ _ g3 fun y => ?_
      obtain ⟨j, es, y1, y2, y3⟩ := hps _ y
      exact g4 j es y2 y3
    · by_cases c : p ∈ addrs σ ios
      · obtain ⟨ys, z⟩ := outs_dom ho c
        rw [z]
        exact fun z => by cases z
      · exact S.ntS hp (fun o z => frame _ _ z c) xs
  exact StaX.all (ok := fun ds => bor.isEmpty || noLs ds) (fun ds xs z h => less2 ds xs z h) X hl hn (fun i z => by
    obtain ⟨ds, p, z1, z2⟩ := hio i z
    exact ⟨p, z2⟩) ho e
theorem snd_call {io : List Bool} {g : FF} {E : XK} {t : TA} {fa : AF} (h : SndA K t fa) : Snd K (tCall (spD K io g) [] E t) (fCall io g fa) := by
  intro B O I σ H env rv env' S e Q q
  obtain ⟨⟨rs, env1⟩, e1, e⟩ := bnd e
  obtain ⟨⟨ds, ios, bor⟩, e2, e⟩ := bnd e
  dsimp only at e2 e
  split at e
  · rename_i hc
    rw [Bool.and_eq_true] at hc
    have hn : ios.Nodup := of_decide_eq_true hc.1
    have hdis : ∀ i, i ∈ ios → i ∉ bor := of_decide_eq_true hc.2
    obtain ⟨⟨r, fr, outs⟩, e3, e⟩ := bnd e
    obtain ⟨env2, e4, e⟩ := bnd e
    obtain ⟨z, e5, e⟩ := bnd e
    dsimp only at e4 e
    split at e
    · rename_i hl
      cases e
      rw [Bool.and_eq_true] at hl
      refine h B O I σ H env rs env1 S e1 _ fun vs H1 S1 P1 => ?_
      have hbo := lent_own (bs := io) e2
      obtain ⟨g1, g2, g3⟩ := args_ok S1 (bor := bor) (k := 0) P1 e2 (fun _ y => y) hdis hbo
      have g2' : ioA io vs = addrs σ ios := g2
      rw [List.append_nil]
      refine ⟨_, ds, r, fr, outs, g1, by rw [g2']; exact addrs_nodup S1 hn g3, fun p hp => S1.dom p (List.mem_filter.mp hp).1, fun p xs hp => S1.nt p xs (List.mem_filter.mp hp).1, e3, fun v H' R => ?_⟩
      rw [g2'] at R
      cases fr with
      | false =>
        obtain ⟨o1, o2⟩ := R.old rfl
        obtain ⟨S2, l1, l2⟩ := called S1 hn g3 hdis hbo R.frame o1 hl.2 e4
        have ez : rv = RV.val r := by
          unfold resR at e5
          cases r <;> cases e5 <;> rfl
        subst ez
        exact q _ _ ⟨S2, l1 _ _ hl.1 o2⟩
      | true =>
        by_cases tp : isTp r = true
        · obtain ⟨p, qs, dss, rfl, rfl, hp', hnd, hfr, hls, o1⟩ := R.tw rfl tp
          have fr2 : ∀ a o, H1 a = some o → a ∉ addrs σ ios → mi H' qs a = some o := fun a o y1 y2 => mi_of (fun y => by
            rw [hfr a y] at y1
            cases y1) (R.frame a o y1 y2)
          obtain ⟨S2, l1, l2⟩ := called S1 hn g3 hdis hbo fr2 o1 hl.2 e4
          have ez := resR_tw e5
          subst ez
          have be : bor = [] := List.isEmpty_iff.mp hl.1
          subst be
          have eO : (O.filter fun a => decide (a ∉ addrs σ [])) = O := List.filter_eq_self.mpr fun a _ => decide_eq_true fun y => by cases y
          rw [eO] at hls
          exact q _ _ ⟨p, qs, rfl, hp', hnd, fun a ha => ⟨S1.base.free (hfr a ha), not_dom S1.dom (hfr a ha)⟩, S2, hls⟩
        obtain ⟨p, xs, rs', rfl, rfl, hp, hp', hx, o1⟩ := R.new rfl (Bool.eq_false_iff.mpr tp)
        have fr2 : ∀ a o, H1 a = some o → a ∉ addrs σ ios → mi H' [p] a = some o := fun a o y1 y2 => mi_of (fun y => by
          rw [List.mem_singleton] at y
          subst y
          rw [hp] at y1
          cases y1) (R.frame a o y1 y2)
        obtain ⟨S2, l1, l2⟩ := called S1 hn g3 hdis hbo fr2 o1 hl.2 e4
        cases e5
        exact q _ _ ⟨p, xs, rfl, hp', S1.base.free hp, not_dom S1.dom hp, S2, l2 _ _ hl.1 hx⟩
    · cases e
  · cases e
def dropAll : List Nat → Env → Option Env
  | [], env => some env
  | i :: is, env => (dropAll is env).bind fun e => putS i .no e
def fCallM (io : List Bool) (g : FF) (fa : AF) : EF := fun env => (fa env).bind fun a => (argD a.2 io a.1).bind fun x => if decide x.2.1.Nodup && decide (∀ i, i ∈ x.2.1 → i ∉ x.2.2) then (g x.1).bind fun r => (putOuts x.2.1 r.2.2 a.2).bind fun e => (resR r).bind fun z => if r.2.2.all (fun ds => x.2.2.isEmpty || noLs ds) then (dropAll x.2.2 e).bind fun e2 => some (z, e2) else none else none
/-- a name that is given away -/
def fMv (i : Nat) : EF := fun env => match env[i]? with
  | some (.o1 ds) => (dropAll [i] env).bind fun e => some (.val (.lst ds), e)
  | _ => none
end
end Dv
namespace Dv
open PySem L2 PyProof.Rows
def mulB (i j : Int) : Bool := decide (i.natAbs.log2 + j.natAbs.log2 ≤ 134000000)
def divB (_ j : Int) : Bool := decide (j ≠ 0) && decide (j.natAbs.log2 < 9000)
def modB (_ j : Int) : Bool := decide (j ≠ 0)
def powB (i j : Int) : Bool := decide (0 ≤ j) && decide (((i.natAbs.log2 + 1 : Nat) : Int) * j ≤ 134217728)
theorem bits_le (x : Int) : Builtin.Int.intBits x ≤ x.natAbs.log2 + 1 := by
  unfold Builtin.Int.intBits
  split <;> omega
theorem mulB_ok {i j : Int} (h : mulB i j = true) : IntMulOk i j := by
  have h1 := bits_le i
  have h2 := bits_le j
  have h3 : i.natAbs.log2 + j.natAbs.log2 ≤ 134000000 := of_decide_eq_true h
  have e : bitsLine = 134217728 := by decide
  unfold IntMulOk
  intro z
  rw [Bool.and_eq_true] at z
  have z2 := z.2
  unfold Builtin.Int.intTooBig at z2
  have z3 := of_decide_eq_true z2
  rw [e] at z3
  omega
theorem powB_ok {i j : Int} (h : powB i j = true) : 0 ≤ j ∧ (Builtin.Int.intBits i : Int) * j ≤ 2 ^ 27 := by
  unfold powB at h
  rw [Bool.and_eq_true] at h
  have h1 := of_decide_eq_true h.1
  have h2 := of_decide_eq_true h.2
  refine ⟨h1, Int.le_trans (Int.mul_le_mul_of_nonneg_right ?_ h1) h2⟩
  exact Int.ofNat_le.mpr (bits_le i)
section
variable {X : Cx} {K : PySem.W.Frag}
def rMulI : R2 := rI IntMulOk fun i j => .int (i * j)
theorem opMulI : OpR X (binaryOp .Mult) rMulI := opI fun _ _ _ _ _ _ _ hc q => mul_int q hc
def rMulX : R2 := fun x y H Q => rMulI x y H Q ∨ rRep x y H Q
theorem o_mul : OpR X (binaryOp .Mult) rMulX := OpR.or opMulI op_rep
def gMul : G2 := fun d e => (gI mulB (fun i j => i * j) d e).or (gRep d e)
theorem q_mul : Op2 K rMulX gMul := Op2.or (op2_I fun _ _ h => mulB_ok h) op2_rep
/-- + : ints, lists, texts -/
def rCatS : R2 := fun x y H Q => ∃ i j, x = .str i ∧ y = .str j ∧ i.length + j.length ≤ sizeLine ∧ Q (.str (i ++ j)) H
def gCatS : G2
  | .str x, .str y => if x.length + y.length ≤ 10000000 then some (.val (.str (x ++ y))) else none
  | _, _ => none
theorem op2_catS : Op2 K rCatS gCatS := by
  intro B O I σ H env x y ra rb d e z P1 P2 e1 e2 ez Q q
  have d1 := P1.read e1
  have d2 := P2.read e2
  unfold gCatS at ez
  split at ez
  · cases d1
    cases d2
    split at ez
    · cases ez
      exact ⟨_, _, rfl, rfl, line_of (by assumption), q _ H ⟨P1.sta, .str _⟩⟩
    · cases ez
  · cases ez
def rAddI : R2 := rI0 fun i j => .int (i + j)
def rPlus : R2 := fun x y H Q => rAddI x y H Q ∨ (rCat x y H Q ∨ rCatS x y H Q)
theorem o_add : OpR X (binaryOp .Add) rPlus := OpR.or op_add (OpR.or op_cat op_add_str)
def gAdd : G2 := fun d e => (gI0 (fun i j => i + j) d e).or ((gCat d e).or (gCatS d e))
theorem q_add : Op2 K rPlus gAdd := Op2.or op2_I0 (Op2.or op2_cat op2_catS)
def gSub : G2 := gI0 fun i j => i - j
theorem o_sub : OpR X (binaryOp .Sub) (rI0 fun i j => .int (i - j)) := op_sub
theorem q_sub : Op2 K (rI0 fun i j => .int (i - j)) gSub := op2_I0
def rDivX : R2 := rI (fun _ j => j ≠ 0 ∧ j.natAbs.log2 < 9000) fun i j => .int (i.fdiv j)
theorem o_div : OpR X (binaryOp .FloorDiv) rDivX := opI fun _ _ _ _ _ _ _ hc q => floordiv_int hc.1 q (.inl (PyProof.noPylong_of_log2 hc.2))
def gDiv : G2 := gI divB fun i j => i.fdiv j
theorem q_div : Op2 K rDivX gDiv := op2_I fun i j h => by
  unfold divB at h
  rw [Bool.and_eq_true] at h
  exact ⟨of_decide_eq_true h.1, of_decide_eq_true h.2⟩
def gMod : G2 := gI modB fun i j => i.fmod j
theorem o_mod : OpR X (binaryOp .Mod) (rI (fun _ j => j ≠ 0) fun i j => .int (i.fmod j)) := op_modN
theorem q_mod : Op2 K (rI (fun _ j => j ≠ 0) fun i j => .int (i.fmod j)) gMod := op2_I fun i j h => of_decide_eq_true h
def rPowX : R2 := rI (fun i j => 0 ≤ j ∧ (Builtin.Int.intBits i : Int) * j ≤ 2 ^ 27) fun i j => .int (i ^ j.toNat)
theorem o_pow : OpR X (binaryOp .Pow) rPowX := opI fun _ _ _ _ _ _ _ hc q => pow_int hc.1 hc.2 q
def gPow : G2 := gI powB fun i j => i ^ j.toNat
theorem q_pow : Op2 K rPowX gPow := op2_I fun i j h => powB_ok h
/-- comparisons -/
def gLt : G2 := gIB fun i j => decide (i < j)
def gLe : G2 := gIB fun i j => decide (i ≤ j)
def gGt : G2 := gIB fun i j => decide (j < i)
def gGe : G2 := gIB fun i j => decide (j ≤ i)
theorem q_lt : Op2 K (rI0 fun i j => .bl (decide (i < j))) gLt := op2_IB
theorem q_gt : Op2 K (rI0 fun i j => .bl (decide (j < i))) gGt := op2_IB
theorem q_ge : Op2 K (rI0 fun i j => .bl (decide (j ≤ i))) gGe := op2_IB
end
section
variable {X : Cx} {K : PySem.W.Frag}
def rIsBl : R2 := fun x y H Q => ∃ a b, x = .bl a ∧ y = .bl b ∧ Q (.bl (decide (a = b))) H
def rIsNo : R2 := fun x y H Q => y = .non ∧ Q (.bl (decide (x = .non))) H
def isNon : D → Bool
  | .non => true
  | _ => false
def gIsBl : G2
  | .bl a, .bl b => some (.val (.bl (decide (a = b))))
  | _, _ => none
def gIsNo : G2 := fun d e => match e with
  | .non => some (.val (.bl (isNon d)))
  | _ => none
def gNotBl : G2
  | .bl a, .bl b => some (.val (.bl (!decide (a = b))))
  | _, _ => none
def gNotNo : G2 := fun d e => match e with
  | .non => some (.val (.bl (!isNon d)))
  | _ => none
theorem isNon_v {H : Hp} {v : V} {d : D} (h : Dq K H v d) : decide (v = .non) = isNon d := by
  cases h <;> rfl
theorem q_isBl : Op2 K rIsBl gIsBl := by
  intro B O I σ H env x y ra rb d e z P1 P2 e1 e2 ez Q q
  have d1 := P1.read e1
  have d2 := P2.read e2
  unfold gIsBl at ez
  split at ez
  · cases d1
    cases d2
    cases ez
    exact ⟨_, _, rfl, rfl, q _ H ⟨P1.sta, .bl _⟩⟩
  · cases ez
theorem q_isNo : Op2 K rIsNo gIsNo := by
  intro B O I σ H env x y ra rb d e z P1 P2 e1 e2 ez Q q
  have d1 := P1.read e1
  have d2 := P2.read e2
  unfold gIsNo at ez
  split at ez
  · cases d2
    cases ez
    exact ⟨rfl, by rw [isNon_v d1]; exact q _ H ⟨P1.sta, .bl _⟩⟩
  · cases ez
def rIs : R2 := fun x y H Q => rIsBl x y H Q ∨ rIsNo x y H Q
theorem o_is : OpR X (compareOp .Is) rIs := OpR.or op_is_bl op_isN
def gIs : G2 := fun d e => (gIsBl d e).or (gIsNo d e)
def gIsnt : G2 := fun d e => (gNotBl d e).or (gNotNo d e)
theorem q_is : Op2 K rIs gIs := Op2.or q_isBl q_isNo
end
/-- turns enough for most loops -/
def sizeS : SV → Nat
  | .fz (.int i) => i.natAbs
  | .fz (.lst ds) => ds.length
  | .o1 ds => ds.length
  | .io ds => ds.length
  | _ => 0
def fuelE (env : Env) : Nat := (env.map sizeS).sum + 1
/-- a place where ways meet -/
def fCut (g : SFn) : SFn := g
theorem ss_cut {K : PySem.W.Frag} {W : WN} {t : TS} {g : SFn} (h : SndS K W t g) : SndS K W t (fCut g) := h
/-- what is never reached -/
def fNever : SFn := fun _ => none
theorem mi_nil {H : Hp} : mi H [] = H := by
  funext a
  exact mi_out (by simp)
/-- a law that gives True at every script keeps its promise -/
theorem law_sp {K : PySem.W.Frag} {g : FF} {H : Hp} {a : Addr} {ns : List Int} {E : XK} (hg : g [.scr ns] = some (.bl true, false, [])) (hS : SqL K H a (ns.map V.int)) : spD K [false] g [.ref a] H (fun v _ => v = .bl true) E := by
  refine ⟨[], [.scr ns], .bl true, false, [], .val (.scr (by rw [mi_nil]; exact hS)) .nil, List.nodup_nil, (fun p h => nomatch h), (fun p xs h => nomatch h), hg, fun v H' R => ?_⟩
  have d := (R.old rfl).2
  cases d
  rfl
/-- a written tuple of two ints -/
theorem dq_pair {K : PySem.W.Frag} {a : Addr} {od : Option Addr} {n : Nat} {sl : Array (Option Value)} {i j : Int} {t u : Tok} (h : K.lookup a = some ⟨.type "tuple", od, .seq #[.int i t, .int j u] n, sl⟩) (G : Hp) : Dq K G (.ref a) (.tup [.int i, .int j]) :=
  .tup (xs := [.int i, .int j]) (.inr ⟨_, _, _, h, rfl, rfl, by show 2 ≤ sizeLine; decide, .cons ⟨t, rfl⟩ (.cons ⟨u, rfl⟩ .nil)⟩) (.cons (.int i) (.cons (.int j) .nil))
/-- nothing is refused -/
def W0 : WN := fun _ _ _ => False
/-- a def of the text keeps its promise, by its body -/
theorem ok_def {P : Program} {w : World} {K : PySem.W.Frag} {mg : Str → Option Value} {base : Heap} {x qual : Str} {st : Stmt} {f : Addr} {fd : FuncData} {N ps : List Str} {k : Nat} {io : List Bool} {b : SFn} (F : Fun K x qual st f fd) (S : FnScope N ps (defScope st)) (hl : io.length = ps.length)
    (hb : ∀ (cdv : Value) (A : Around) (outer : List PySem.Env) (s : Shared) (H : Hp) (E : XK), Room k (A.deeper (envOfC qual (defScope st) s.heap.objs.size f cdv)) →
      ∃ t, PSs (cxOf CX0 P w K mg base N qual (defScope st) f cdv A outer s H E).nox (defBody st) t ∧ SndS K W0 t b) : FnOk P w K mg base CX0 (k + 1) f fd ps (spD K io (fDef (N.length - io.length) io b)) := by
  refine F.ok S (fun vs H Q E h => ?_) (fun cdv A outer s H vs Q E hr h => ?_)
  · obtain ⟨O, ds, r, fr, outs, ha, _⟩ := h
    rw [ha.len, hl]
  · obtain ⟨t, h1, h2⟩ := hb cdv A outer s H E hr
    exact ⟨t, h1, body_ok h2 rfl h⟩
end Dv
namespace Dv
open PySem L2 PyProof.Rows
abbrev FX := List D → Option (Except Nat (D × Bool × List (List D)))
def finF (io : List Bool) (o : Out) : Option (D × Bool × List (List D)) := match o with
  | .nx env => (outE env (ioIx 0 io)).bind fun outs => some (.non, false, outs)
  | .rt (.val d) env => (outE env (ioIx 0 io)).bind fun outs => some (d, false, outs)
  | .rt (.new es) env => (outE env (ioIx 0 io)).bind fun outs => some (.lst es, true, outs)
  | .rt (.tw dss) env => (outE env (ioIx 0 io)).bind fun outs => some (.tup (dss.map D.lst), true, outs)
  | .rt (.slot i) env => match env[i]? with
    | some (.o1 es) => (outE env (ioIx 0 io)).bind fun outs => some (.lst es, true, outs)
    | _ => none
  | _ => none
def finX (io : List Bool) (o : Out) : Option (Except Nat (D × Bool × List (List D))) := match o with
  | .rt (.ex n) _ => some (.error n)
  | o => (finF io o).bind fun r => some (.ok r)
def fDefX (m : Nat) (io : List Bool) (b : SFn) : FX := fun ds => (argS io ds).bind fun e => (b (e ++ List.replicate m .no)).bind fun o => finX io o
theorem fDef_fin {m : Nat} {io : List Bool} {b : SFn} {ds : List D} : fDef m io b ds = (argS io ds).bind fun e => (b (e ++ List.replicate m .no)).bind fun o => finF io o := by
  unfold fDef finF
  rfl
theorem fDef_of {m : Nat} {io : List Bool} {b : SFn} {ds : List D} {r : D × Bool × List (List D)} (h : fDefX m io b ds = some (.ok r)) : fDef m io b ds = some r := by
  rw [fDef_fin]
  obtain ⟨e, h1, h⟩ := bnd h
  obtain ⟨o, h2, h⟩ := bnd h
  rw [h1, Option.bind_some, h2, Option.bind_some]
  unfold finX at h
  split at h
  · cases h
  · obtain ⟨r', h3, h⟩ := bnd h
    cases h
    exact h3
theorem fDefX_ex {m : Nat} {io : List Bool} {b : SFn} {ds : List D} {n : Nat} (h : fDefX m io b ds = some (.error n)) : ∃ e env, argS io ds = some e ∧ b (e ++ List.replicate m .no) = some (.rt (.ex n) env) := by
  obtain ⟨e, h1, h⟩ := bnd h
  obtain ⟨o, h2, h⟩ := bnd h
  unfold finX at h
  split at h
  · cases h
    exact ⟨e, _, h1, h2⟩
  · obtain ⟨r', h3, h⟩ := bnd h
    cases h
abbrev noIo (io : List Bool) : Prop := io.all (fun b => !b) = true
theorem pins_no : ∀ {io : List Bool} {vs : List V} {k : Nat}, noIo io → pinsOf k io vs = []
  | [], vs, k, _ => by cases vs <;> rfl
  | true :: io, vs, k, h => by cases h
  | false :: io, [], k, h => rfl
  | false :: io, v :: vs, k, h => by
    have : pinsOf k (false :: io) (v :: vs) = pinsOf (k + 1) io vs := by cases v <;> rfl
    rw [this]
    exact pins_no (by simpa [noIo] using h)
theorem ioA_no {io : List Bool} {vs : List V} (h : noIo io) : ioA io vs = [] := by
  unfold ioA
  rw [pins_no h]
  rfl
abbrev cfx (cl : Nat → Addr) (E : XK) (n : Nat) (H : Hp) : Prop := E (.ref (cl n)) none H
def spX (K : PySem.W.Frag) (cl : Nat → Addr) (io : List Bool) (g : FX) : Sp := fun vs H Q E => ∃ O ds r, noIo io ∧ ArgsOk K O H io vs ds ∧ (∀ p, p ∈ O → ∃ o, H p = some o) ∧ (∀ p xs, p ∈ O → H p ≠ some (.tup xs)) ∧ g ds = some r ∧
  (∀ d fr outs, r = .ok (d, fr, outs) → ∀ v H', ResOk K O H [] v H' d fr outs → Q v H') ∧ ∀ n, r = .error n → ∀ H', (∀ a o, H a = some o → H' a = some o) → cfx cl E n H'
/-- the wish about refusals, by numbers -/
def wn (cl : Nat → Addr) (WX : L2.WX) : WN := fun n σ H => WX (.ref (cl n)) none σ H
section
variable {K : PySem.W.Frag} {B : Hp} {O : List Addr} {I : List (Nat × Addr)} {σ : L2.St} {H H' : Hp} {env env' : Env} {v : V} {t ta tb te : TE} {f fa fb fe : EF} {W : WN} {cl : Nat → Addr}
theorem body_okX {N : List Str} {bs : List Bool} {m : Nat} {b : SFn} {t : TS} {vs : List V} {Q : VK} {E : XK} (hb : SndS K (wn cl fun c d _ H => E c d H) t b) (hm : m = N.length - bs.length) (h : spX K cl bs (fDefX m bs b) vs H Q E) : t { nx := fun _ H' => Q .non H', rt := Q } (L2.start N vs) H := by
  obtain ⟨O, ds, r, hio, ha, hd, ht, eg, q1, q2⟩ := h
  have ei : ioA bs vs = [] := ioA_no hio
  cases r with
  | ok r =>
    obtain ⟨d, fr, outs⟩ := r
    refine body_ok (E := E) hb hm ⟨O, ds, d, fr, outs, ha, by rw [ei]; exact List.nodup_nil, hd, ht, fDef_of eg, fun v H' R => ?_⟩
    rw [ei] at R
    exact q1 d fr outs rfl v H' R
  | error n =>
    obtain ⟨e, env, e1, e2⟩ := fDefX_ex eg
    have S := entry (N := N) (m := m) ha (by rw [ei]; exact List.nodup_nil) hd ht e1 (by rw [ha.len]; exact hm)
    refine hb _ O _ _ H _ _ S e2 _ ?_
    intro O' σ' H' s S'
    refine q2 n rfl H' fun a o z => S'.base a o ?_
    rw [ei]
    exact mi_of (by simp) z
def SndX (K : PySem.W.Frag) (W : WN) (t : TE) (f : EF) : Prop := ∀ B O I σ H env rv env', Sta K B O I σ H env → f env = some (rv, env') →
  ∀ Q : VK, (∀ v H', Post K B O I σ H' env' v rv → Q v H') → (∀ n, rv = .ex n → ∀ H', Sta K B O I σ H' env' → W n σ H') → t σ H Q
def fCallX (io : List Bool) (g : FX) (fa : AF) : EF := fun env => (fa env).bind fun a => (argD a.2 io a.1).bind fun x => if x.2.1.isEmpty && io.all (fun b => !b) then (g x.1).bind fun r => match r with
  | .error n => some (.ex n, a.2)
  | .ok r => if r.2.2.isEmpty then (resR r).bind fun z => if lentOk x.2.2 z then some (z, a.2) else none else none
  else none
theorem sndX_call {io : List Bool} {g : FX} {WX : L2.WX} {t : TA} {fa : AF} (h : SndA K t fa) : SndX K (wn cl WX) (tCallS (spX K cl io g) (WE WX) t) (fCallX io g fa) := by
  intro B O I σ H env rv env' S e Q q qx
  obtain ⟨⟨rs, env1⟩, e1, e⟩ := bnd e
  obtain ⟨⟨ds, ios, bor⟩, e2, e⟩ := bnd e
  dsimp only at e2 e
  split at e
  · rename_i hc
    rw [Bool.and_eq_true] at hc
    have hios : ios = [] := List.isEmpty_iff.mp hc.1
    subst hios
    have hio : noIo io := hc.2
    obtain ⟨r, e3, e⟩ := bnd e
    refine h B O I σ H env rs env1 S e1 _ fun vs H1 S1 P1 => ?_
    have hbo := lent_own (bs := io) e2
    obtain ⟨g1, g2, g3⟩ := args_ok S1 (bor := bor) (k := 0) P1 e2 (fun _ y => y) (fun _ y => nomatch y) hbo
    refine ⟨_, ds, r, hio, g1, fun p hp => S1.dom p (List.mem_filter.mp hp).1, fun p xs hp => S1.nt p xs (List.mem_filter.mp hp).1, e3, fun d fr outs er v H' R => ?_, fun n er H' fr => ?_⟩
    · subst er
      dsimp only at e
      split at e
      · rename_i ho
        have ho : outs = [] := List.isEmpty_iff.mp ho
        subst ho
        obtain ⟨z, e5, e⟩ := bnd e
        split at e
        · rename_i hl
          cases e
          cases fr with
          | false =>
            obtain ⟨o1, o2⟩ := R.old rfl
            obtain ⟨S2, l1, l2⟩ := called (ios := []) (bor := bor) (outs := []) S1 List.nodup_nil (fun _ y => nomatch y) (fun _ y => nomatch y) hbo R.frame trivial rfl rfl
            have ez : rv = RV.val d := by
              unfold resR at e5
              cases d <;> cases e5 <;> rfl
            subst ez
            exact q _ _ ⟨S2, l1 _ _ hl o2⟩
          | true =>
            by_cases tp : isTp d = true
            · obtain ⟨p, qs, dss, rfl, rfl, hp', hnd, hfr, hls, o1⟩ := R.tw rfl tp
              have fr2 : ∀ a o, H1 a = some o → a ∉ addrs σ [] → mi H' qs a = some o := fun a o y1 y2 => mi_of (fun y => by
                rw [hfr a y] at y1
                cases y1) (R.frame a o y1 y2)
              obtain ⟨S2, l1, l2⟩ := called (ios := []) (bor := bor) (outs := []) S1 List.nodup_nil (fun _ y => nomatch y) (fun _ y => nomatch y) hbo fr2 trivial rfl rfl
              have ez := resR_tw e5
              subst ez
              have be : bor = [] := List.isEmpty_iff.mp hl
              subst be
              have eO : (O.filter fun a => decide (a ∉ addrs σ [])) = O := List.filter_eq_self.mpr fun a _ => decide_eq_true fun y => by cases y
              rw [eO] at hls
              exact q _ _ ⟨p, qs, rfl, hp', hnd, fun a ha => ⟨S1.base.free (hfr a ha), not_dom S1.dom (hfr a ha)⟩, S2, hls⟩
            obtain ⟨p, xs, rs', rfl, rfl, hp, hp', hx, o1⟩ := R.new rfl (Bool.eq_false_iff.mpr tp)
            have fr2 : ∀ a o, H1 a = some o → a ∉ addrs σ [] → mi H' [p] a = some o := fun a o y1 y2 => mi_of (fun y => by
              rw [List.mem_singleton] at y
              subst y
              rw [hp] at y1
              cases y1) (R.frame a o y1 y2)
            obtain ⟨S2, l1, l2⟩ := called (ios := []) (bor := bor) (outs := []) S1 List.nodup_nil (fun _ y => nomatch y) (fun _ y => nomatch y) hbo fr2 trivial rfl rfl
            cases e5
            exact q _ _ ⟨p, xs, rfl, hp', S1.base.free hp, not_dom S1.dom hp, S2, l2 _ _ hl hx⟩
        · cases e
      · cases e
    · subst er
      cases e
      exact qx n rfl H' (S1.grow fun a o z => fr a o z)
  · cases e
theorem SndX.of (h : Snd K t f) (hx : ∀ env n e, f env ≠ some (.ex n, e)) : SndX K W t f := fun B O I σ H env rv env' S e Q q _ => h B O I σ H env rv env' S e Q q
theorem ss_retX (h1 : SndX K W te fe) : SndS K W (tRet te) (fRet fe) := by
  intro B O I σ H env o S e D k
  obtain ⟨⟨r1, env1⟩, e1, e⟩ := bnd e
  cases e
  refine h1 B O I σ H env r1 env1 S e1 _ (fun v H1 P1 => k.rt .refl P1) fun n en H1 S1 => ?_
  subst en
  exact k O σ H1 .refl S1
def fDropX (f : EF) : SFn := fun env => (f env).bind fun a => match a.1 with
  | .ex n => some (.rt (.ex n) a.2)
  | _ => some (.nx a.2)
def fAsgX (f : EF) (g : GF) : SFn := fun env => (f env).bind fun a => match a.1 with
  | .ex n => some (.rt (.ex n) a.2)
  | .val d => (g d a.2).bind fun e => some (.nx e)
  | .new ds => (g (.lst ds) a.2).bind fun e => some (.nx e)
  | _ => none
theorem ss_asgX {g : TG} {h : GF} (h1 : SndX K W te fe) (h2 : SndG K g h) : SndS K W (tAsg te g) (fAsgX fe h) := by
  intro B O I σ H env o S e D k
  obtain ⟨⟨r1, env1⟩, e1, e⟩ := bnd e
  refine h1 B O I σ H env r1 env1 S e1 _ (fun v H1 P1 => ?_) fun n en H1 S1 => ?_
  · dsimp only at e
    split at e
    · exact False.elim P1
    · obtain ⟨env2, e2, e⟩ := bnd e
      cases e
      exact h2 B O I σ H1 env1 v _ env2 P1.1 P1.2 e2 _ fun σ2 S2 => k O σ2 H1 .refl S2
    · obtain ⟨env2, e2, e⟩ := bnd e
      cases e
      have P1' := P1.frz
      exact h2 B O I σ H1 env1 v _ env2 P1'.1 P1'.2 e2 _ fun σ2 S2 => k O σ2 H1 .refl S2
    · cases e
  · subst en
    cases e
    exact k O σ H1 .refl S1
def tRaise (C : Addr) (WX : L2.WX) : TS := fun _ σ H => WX (.ref C) none σ H
def fRaise (n : Nat) : SFn := fun env => some (.rt (.ex n) env)
theorem ss_raise {n : Nat} {WX : L2.WX} : SndS K (wn cl WX) (tRaise (cl n) WX) (fRaise n) := by
  intro B O I σ H env o S e D k
  cases e
  exact k O σ H .refl S
def SndAt (K : PySem.W.Frag) (σ : L2.St) (t : TE) (f : EF) : Prop := ∀ B O I H env rv env', Sta K B O I σ H env → f env = some (rv, env') →
  ∀ Q : VK, (∀ v H', Post K B O I σ H' env' v rv → Q v H') → t σ H Q
theorem Snd.at (h : Snd K t f) : SndAt K σ t f := fun B O I H env rv env' => h B O I σ H env rv env'
theorem sndAt_2 {r : R2} {g : G2} (h1 : SndAt K σ ta fa) (h2 : SndAt K σ tb fb) (ho : Op2 K r g) : SndAt K σ (tOp r ta tb) (f2 g fa fb) := by
  intro B O I H env rv env' S e Q q
  obtain ⟨⟨r1, env1⟩, e1, e⟩ := bnd e
  obtain ⟨⟨r2, env2⟩, e2, e⟩ := bnd e
  obtain ⟨x, ex, e⟩ := bnd e
  obtain ⟨y, ey, e⟩ := bnd e
  obtain ⟨z, ez, e⟩ := bnd e
  cases e
  refine h1 B O I H env r1 env1 S e1 _ fun v H1 P1 => ?_
  have P1' := P1.frz
  have S1 := P1'.sta
  refine h2 _ O I H1 env1 r2 env2 S1.strong e2 _ fun w H2 P2 => ?_
  exact ho B O I σ H2 env2 v w _ r2 x y _ (P1'.later P2.sta) (P2.weakN S1.base_keep) ex ey ez Q q
/-- the word of a refusal that the i-th name holds -/
def tKd (i : Nat) (a : Addr) (w : V) : TE := fun σ H Q => σ[i]? = some (some (.ref a)) ∧ ∀ H', Same H H' → Q w H'
theorem sndAt_kd {i : Nat} {a : Addr} {w : V} {d : D} (hd : ∀ G, Dq K G w d) (h : σ[i]? = some (some (.ref a))) : SndAt K σ (tKd i a w) (fC d) := by
  intro B O I H env rv env' S e Q q
  cases e
  exact ⟨h, fun H' s => q w H' ⟨S.grow s, hd _⟩⟩
def fTry (i : Nat) (ks : List Nat) (g : SFn) (h : Nat → EF) : SFn := fun env => (g env).bind fun o => match o with
  | .rt (.ex n) e => if n ∈ ks then (putS i .no e).bind fun e1 => (h n e1).bind fun a => match a.1 with
      | .ex _ => none
      | r => some (.rt r a.2)
    else none
  | o => some o
end
/-- the suite, by the classes that are known -/
def tsOf (cl : Nat → Addr) (ks : List Nat) (tx : Addr → Nat → TE) : Addr → Value → Option Addr → TS := fun a cls d D σ H => ∃ n, n ∈ ks ∧ cls = .ref (cl n) ∧ d = none ∧ tRet (tx a n) D σ H
theorem pss_tsOf {X : Cx} {st : List Stmt} {cl : Nat → Addr} {ks : List Nat} {tx : Addr → Nat → TE} {a : Addr} {cls : Value} {d : Option Addr} (h : ∀ n, n ∈ ks → cls = .ref (cl n) → d = none → PSs X st (tRet (tx a n))) : PSs X st (tsOf cl ks tx a cls d) :=
  ⟨fun pins s σ H D I z => by
    obtain ⟨n, z1, z2, z3, z4⟩ := z
    exact (h n z1 z2 z3).run pins s σ H D I z4⟩
/-- raise X('..') -/
theorem ps_raiseK {X : Cx} {C : Addr} {W : L2.WX} {x m : Str} {j : Nat} {p p2 pos pos' : Pos} (hc : X.calm = true) (tk : L2N.Takes X W) (q : PySem.W.excIn X.K C [.type "ValueError", .type "Exception", .type "BaseException", .type "object"] "ValueError.__new__" = true) (gC : X.mg x = some (.ref C)) (kC : PySem.W.keepIn X.K (.ref C) = true)
    (r1 : PySem.W.subIn X.K (.ref C) (.type "BaseException") = some true) (r2 : PySem.W.typeIn X.K (.ref C) = some (.type "type")) (hg : Gl X x) (hdb : (x == ("__debug__" : Str)) = false := by decide) :
    PS X (.Raise (some (.Call (.Name x p) [.Constant (.str m) j p2] [] pos)) none pos') (tRaise C W) := L2N.ps_raise hc tk (L2N.pmk_own PySem.F.excBase_ValueError q gC kC (raises_own r1 r2) hg hdb)
theorem ok_defX {P : Program} {w : World} {K : PySem.W.Frag} {mg : Str → Option Value} {base : Heap} {x qual : Str} {st : Stmt} {f : Addr} {fd : FuncData} {N ps : List Str} {k : Nat} {io : List Bool} {b : SFn} {cl : Nat → Addr} (F : Fun K x qual st f fd) (S : FnScope N ps (defScope st)) (hl : io.length = ps.length)
    (hb : ∀ (cdv : Value) (A : Around) (outer : List PySem.Env) (s : Shared) (H : Hp) (E : XK), Room k (A.deeper (envOfC qual (defScope st) s.heap.objs.size f cdv)) →
      L2N.Takes (cxOf (L2N.CX P w) P w K mg base N qual (defScope st) f cdv A outer s H E) (fun c d _ H => E c d H) →
      ∃ t, PSs (cxOf (L2N.CX P w) P w K mg base N qual (defScope st) f cdv A outer s H E) (defBody st) t ∧ SndS K (wn cl fun c d _ H => E c d H) t b) :
    FnOk P w K mg base (L2N.CX P w) (k + 1) f fd ps (spX K cl io (fDefX (N.length - io.length) io b)) := by
  obtain ⟨oc, od, kV, doc, pm, an, cdv, ct, osl, rfl, lk, hcd⟩ := F.ex
  refine fn_of lk hcd S (fun vs H Q E h => ?_) fun A outer s H vs Q E hr hsp => ?_
  · obtain ⟨O, ds, r, hio, ha, _⟩ := h
    rw [ha.len, hl]
  · obtain ⟨t, h1, h2⟩ := hb cdv A outer s H E hr (L2N.takes_of rfl rfl rfl rfl)
    exact ⟨t, h1, body_okX h2 rfl hsp⟩
end Dv
namespace Dv
open PySem PySem.Spec PyProof.Rows L2 L2H HotX
section
variable {P : Program} {w : World} {K : PySem.W.Frag} {mg : Str → Option Value} {base : Heap}
/-- a def's promise where p is the exception handled -/
def FnAt (P : Program) (w : World) (K : PySem.W.Frag) (mg : Str → Option Value) (base : Heap) (k : Nat) (f : Addr) (fd : FuncData) (ps : List Str) (p : Addr × Obj) (sp : Sp) : Prop :=
  (∀ vs H Q E, sp vs H Q E → vs.length = ps.length) ∧
  ∀ (A : Around) (outer : List PySem.Env) (s : Shared) (H : Hp) (args : Args) (us : List Value) (vs : List V) (Q : VK) (E : XK), RoomH k A → Hot1 A p → PinOk outer H s p → Env0 P w K mg base A outer s H → BindsTo s fd args (ps.zip us) → Vals vs us → sp vs H Q E →
    codeAny (model P w) A (.call (.ref f) args) (CR CX0 outer P w H s Q E) s
theorem fnAt_of {x qual : Str} {st : Stmt} {f : Addr} {fd : FuncData} {N ps : List Str} {k : Nat} {sp : Sp} {p : Addr × Obj} (F : Fun K x qual st f fd) (S : FnScope N ps (defScope st)) (len : ∀ vs H Q E, sp vs H Q E → vs.length = ps.length)
    (hbody : ∀ (cdv : Value) (A : Around) (outer : List PySem.Env) (s : Shared) (H : Hp) (vs : List V) (Q : VK) (E : XK), Hot1 A p → RoomH k (A.deeper (envOfC qual (defScope st) s.heap.objs.size f cdv)) → sp vs H Q E →
      ∃ t, PSs (cxH CX0 P w K mg base N qual (defScope st) f cdv A outer s H E p) (defBody st) t ∧ t { nx := fun _ H' => Q .non H', rt := Q } (L2.start N vs) H) : FnAt P w K mg base (k + 1) f fd ps p sp := by
  obtain ⟨oc, od, kV, doc, pm, an, cdv, ct, osl, rfl, lk, hcd⟩ := F.ex
  refine ⟨len, fun A outer s H args us vs Q E hr hot hpin e0 hb r hsp => ?_⟩
  have KX : K.In s.heap := e0.mod.kin.keeps fun b o e => (e0.bs b o e).1
  have lim : s.heap.NoLimit := e0.mod.nolimit.keeps fun b o e => (e0.bs b o e).1
  refine codeAny_call_function hr.depth (KX _ _ lk) rfl S.co S.gen rfl (PySem.W.codeRec_of KX hcd) (hb _ _ _ _ ?_)
  refine wpAny_newFunctionEnv_cells S.kind (fun ⟨n, v⟩ hy => ?_) fun env he s1 x => ?_
  · rcases S.par n (List.of_mem_zip hy).1 with q | q
    · exact .inl q
    · exact .inr ⟨q, PySem.W.cellsFrom_some _ _ _ (.inl q)⟩
  subst he
  refine ⟨lim.keeps x.toInCall.keep, codeAny_func ?_⟩
  obtain ⟨t, ht, hq⟩ := hbody cdv A outer s H vs Q E hot (hr.deeper _) hsp
  refine wpAny_mono (ht.run [] s1 (L2.start N vs) H _ (inv_startH S hpin e0 (len _ _ _ _ hsp) r x) hq) (fun fl s' hs => ?_) fun e s' hs => hs
  cases fl with
  | ret u =>
    obtain ⟨v, σ', H', J, rv, q⟩ := hs
    exact ⟨v, H', J.os, J.bare, J.base, J.hok, rv, q⟩
  | next =>
    obtain ⟨σ', H', J, q⟩ := hs
    exact ⟨V.non, H', J.os, J.bare, J.base, J.hok, rfl, q⟩
  | brk =>
    obtain ⟨_, _, _, q⟩ := hs
    exact False.elim q
  | cont =>
    obtain ⟨_, _, _, q⟩ := hs
    exact False.elim q
end
section
variable {X : Cx}
/-- .. called with the exception itself -/
theorem pe_callAt {k i : Nat} {f a : Addr} {fd : FuncData} {ps : List Str} {oe : Obj} {w : V} {x n : Str} {pn : List (Addr × Obj)} {q pos p2 : Pos} (F : FnAt X.prog X.w X.K X.mg X.base k f fd ps (a, oe) (fun vs H Q _ => vs = [.ref a] ∧ ∀ H', Same H H' → Q w H')) (hr : Room k X.A)
    (hz : ∃ vs : Array Value, oe.data = .fields vs ∧ vs[2]? = some .none) (hg : Gl X x) (hm : X.mg x = some (.ref f)) (hk : PySem.W.keepIn X.K (.ref f) = true) (hb : Binds X.K fd ps [])
    (hv : PE (X.suite a ((a, oe) :: pn)) (.Name n p2) (tVar i))
    (hdb : (x == ("__debug__" : Str)) = false := by decide) (he : starEach [.Name n p2] X.env = (false, eval (.Name n p2) X.env) :: starEach [] X.env := by rfl) (hpl : (backTo pos (starEach [] X.env)).any (·.1) = false := by rfl) :
    PE (X.suite a ((a, oe) :: pn)) (.Call (.Name x q) [.Name n p2] [] pos) (tKd i a w) := by
  refine ⟨fun pins s σ H Q I h => ?_⟩
  obtain ⟨h1, h2⟩ := h
  have ha : PA (X.suite a ((a, oe) :: pn)) [.Name n p2] (tCons (tVar i) tNil) := pa_cons hv pa_nil
  refine wpAny_Call_Name_kw (ld_glob I hg hm ?_ hdb)
  refine PySem.W.callWith_K (h₀ := X.base) I.ok.mod.kin hk (thn (ha.run pos pins s σ H (fun vs H1 => vs = [.ref a] ∧ H1 = H) I ⟨_, h1, rfl, rfl⟩) fun us s1 ⟨vs, H1, I1, r, e1, e2⟩ => ⟨I1.kIn, ?_⟩) he hpl
  subst e1
  subst e2
  have hot : Hot1 (X.suite a ((a, oe) :: pn)).A (a, oe) := ⟨rfl, hz⟩
  have P1 := I1.pin (a, oe) (List.mem_append_left _ List.mem_cons_self)
  have hpin : PinOk (X.suite a ((a, oe) :: pn)).stack H1 s1 (a, oe) := ⟨P1.1, P1.2.1, fun hm => (List.mem_cons.mp (I1.stkSub a hm)).elim P1.2.2.1 P1.2.2.2.1, P1.2.2.2.2⟩
  have hl : us.length = ps.length := by
    rw [← r.length]
    exact F.1 [.ref a] H1 Q E0 ⟨rfl, h2⟩
  have b := hb s1 us I1.kIn (by rw [List.append_nil]; exact hl)
  rw [List.append_nil] at b
  have hrH : RoomH k (X.suite a ((a, oe) :: pn)).A := ⟨hr.dp, hr.un⟩
  refine wpAny_call (codeAny_mono (F.2 (X.suite a ((a, oe) :: pn)).A (X.suite a ((a, oe) :: pn)).stack s1 H1 ⟨us, []⟩ us [.ref a] Q E0 hrH hot hpin I1.env0 b r ⟨rfl, h2⟩) fun r s' hq => ?_)
  cases r with
  | error e => exact False.elim hq
  | ok fl =>
    cases fl with
    | ret u => exact I1.after hq
    | next => exact False.elim hq
    | brk => exact False.elim hq
    | cont => exact False.elim hq
/-- isinstance of it -/
theorem call_isAt {a Dc : Addr} {oe : Obj} (C : ExcC X.K Dc) (hp : (a, oe) ∈ X.pn) (hz : Zc (.ref Dc) none oe) (hf : ∃ vs, oe.data = .fields vs) : CallR X (.builtin "isinstance") (rIsE X.K Dc a) := by
  intro pins s σ H xs us Q I r h
  obtain ⟨c, cv, b, rfl, hcv, e, q⟩ := h
  cases r with
  | cons rx rr =>
    cases rr with
    | cons rt rr =>
      cases rr
      cases rx
      have ec := hcv _ rt
      subst ec
      obtain ⟨hget, _⟩ := I.pin (a, oe) (List.mem_append_left _ hp)
      obtain ⟨vs, hv⟩ := hf
      have J : PySem.W.InstAt s.heap a oe Dc none := by
        obtain ⟨oc, od, oda, osl⟩ := oe
        obtain ⟨h1, h2⟩ := hz
        dsimp only at h1 h2 hv
        subst h1 h2 hv
        exact ⟨hget, rfl, rfl, trivial⟩
      exact PySem.W.kia_one (PySem.W.handS_kitx_exc C.hg C.hk C.hs C.hd C.ha C.hn C.ht C.hm) I.kIn J e (fun z => nomatch z) fun tk => ⟨.bl b, H, I.kept (t' := tk) fun _ _ z => z, rfl, q⟩
end
end Dv
namespace Dv
open PySem PySem.Spec PyProof.Rows L2
section
variable {K : PySem.W.Frag} {Dc a : Addr}
/-- it is of the classes as told -/
def KitAll (K : PySem.W.Frag) (Dc : Addr) : List Addr → List Bool → Prop
  | [], [] => True
  | c :: cs, b :: bs => PySem.W.kitOne K (.ref Dc) (.ref c) = some b ∧ KitAll K Dc cs bs
  | _, _ => False
theorem KitAll.len : ∀ {cs : List Addr} {bs : List Bool}, KitAll K Dc cs bs → cs.length = bs.length
  | [], [], _ => rfl
  | c :: cs, b :: bs, h => by simp [KitAll.len h.2]
  | [], _ :: _, h => h.elim
  | _ :: _, [], h => h.elim
end
section
variable {K : PySem.W.Frag} {C D0 : Addr}
theorem kit_self : PySem.W.kitOne K (.ref D0) (.ref D0) = some true := if_pos (beq_self_eq_true _)
theorem kit_no (h1 : PySem.W.subIn K (.ref D0) (.ref C) = some false) (h2 : PySem.W.subIn K (.ref D0) (.ref D0) = some true) (hd : PySem.W.hasDictIn K C = true) (ht : PySem.W.typeIn K (.ref C) = some (.type "type")) : PySem.W.kitOne K (.ref D0) (.ref C) = some false := by
  obtain ⟨cd, hc, _⟩ := PySem.W.any_some hd
  have e2 : ((PySem.W.clsIn K C).isSome && PySem.W.typeIn K (.ref C) == some (.type "type")) = true := by rw [hc, ht] <;> rfl
  have ne : ¬ ((Value.ref D0 == Value.ref C) = true) := fun z => by
    have e : Value.ref D0 = Value.ref C := beq_iff_eq.mp z
    rw [← e, h2] at h1
    cases h1
  show (if (Value.ref D0 == Value.ref C) = true then some true else (if ((PySem.W.clsIn K C).isSome && PySem.W.typeIn K (.ref C) == some (.type "type")) = true then PySem.W.subIn K (.ref D0) (.ref C) else none)) = some false
  rw [if_neg ne, if_pos e2]
  exact h1
theorem kit_ve (h : PySem.W.subIn K (.ref D0) (.type "ValueError") = some true) : PySem.W.kitOne K (.ref D0) (.type "ValueError") = some true := by
  have hm : PySem.W.kitMeta "ValueError" = true := by decide +kernel
  have ne : ¬ ((Value.ref D0 == Value.type "ValueError") = true) := fun z => by
    have e : Value.ref D0 = Value.type "ValueError" := beq_iff_eq.mp z
    cases e
  show (if (Value.ref D0 == Value.type "ValueError") = true then some true else (if PySem.W.kitMeta "ValueError" = true then PySem.W.subIn K (.ref D0) (.type "ValueError") else none)) = some true
  rw [if_neg ne, if_pos hm]
  exact h
end
end Dv
theorem L2.Room.u65 {k : Nat} {A : PySem.Around} (r : L2.Room k A) : A.units + 65 < PySem.cLine := by have := r.un; omega
theorem L2H.RoomH.units {k : Nat} {A : PySem.Around} (r : L2H.RoomH k A) : A.units + 64 < PySem.cLine := by have := r.un; omega
theorem L2H.RoomH.u65 {k : Nat} {A : PySem.Around} (r : L2H.RoomH k A) : A.units + 65 < PySem.cLine := by have := r.un; omega
namespace Dv
open PySem PySem.Spec PyProof.Rows L2
section
variable {K : PySem.W.Frag} {B : Hp} {O : List Addr} {I : List (Nat × Addr)} {σ : L2.St} {H H' : Hp} {env env' : Env} {v : V} {t ta tb te : TE} {f fa fb fe : EF} {W : WN}
/-- isinstance of the refusal itself -/
def fIsE (i : Nat) (a : Addr) (b : Bool) : EF := fun env => match env[i]? with
  | some (.fz (.adr x)) => if x = a then some (.val (.bl b), env) else none
  | _ => none
theorem snd_isE {i : Nat} {a Dc : Addr} {c : V} {cv : Value} {b : Bool} (hc : ∀ u, RelV c u → u = cv) (hk : PySem.W.kitOne K (.ref Dc) cv = some b) :
    Snd K (tCB (rIsE K Dc a) (tCons (tVar i) (tCons (tC c) tNil))) (fIsE i a b) := by
  intro B O I σ H env rv env' S e Q q
  unfold fIsE at e
  split at e
  · rename_i x hx
    split at e
    · rename_i hxa
      cases e
      subst hxa
      obtain ⟨v, h1, h2⟩ := S.fz i _ hx
      cases h2
      exact ⟨_, h1, c, cv, b, rfl, hc, hk, q _ H ⟨S, .bl b⟩⟩
    · cases e
  · cases e
theorem adr_start {N : List Str} {a : Addr} {n : Nat} (hn : N.length = n + 1) : Sta K H [] [] (L2.start N [.ref a]) H (.fz (.adr a) :: List.replicate n .no) := by
  have len : (L2.start N [V.ref a]).length = n + 1 := by
    unfold L2.start
    simp
    omega
  have h0 : (L2.start N [V.ref a])[0]? = some (some (.ref a)) := by
    unfold L2.start
    simp
  refine ⟨by rw [len]; simp, fun i d h => ?_, fun i ds h => ?_, fun i j ds es p h => ?_, fun a o h => h, (fun p h => nomatch h), (fun j p h => nomatch h), NwOk.none fun i w h => ?_, (fun p xs h => nomatch h)⟩
  rotate_right
  · cases i with
    | zero => cases h
    | succ i =>
      rw [List.getElem?_cons_succ, List.getElem?_replicate] at h
      split at h <;> cases h
  · cases i with
    | zero =>
      cases h
      exact ⟨_, h0, .adr a⟩
    | succ i =>
      rw [List.getElem?_cons_succ, List.getElem?_replicate] at h
      split at h <;> cases h
  all_goals
    rcases h with h | h
    all_goals
      cases i with
      | zero => cases h
      | succ i =>
        rw [List.getElem?_cons_succ, List.getElem?_replicate] at h
        split at h <;> cases h
/-- what a def that is told of a refusal gives -/
theorem adr_body {N : List Str} {a : Addr} {n : Nat} {b : SFn} {t : TS} {d : D} {w : V} {e : Env} {Q : VK} (hn : N.length = n + 1) (hb : SndS K (fun _ _ _ => False) t b) (he : b (.fz (.adr a) :: List.replicate n .no) = some (.rt (.val d) e))
    (hw : ∀ v G, Dq K G v d → v = w) (q : ∀ H', Same H H' → Q w H') : t { nx := fun _ H' => Q .non H', rt := Q } (L2.start N [.ref a]) H := by
  refine hb H [] [] _ H _ _ (adr_start hn) he _ fun O' σ' H' v s P => ?_
  rw [hw v _ P.2]
  exact q H' P.1.base
theorem kit_yes {D0 C : Addr} (h1 : PySem.W.subIn K (.ref D0) (.ref C) = some true) (hd : PySem.W.hasDictIn K C = true) (ht : PySem.W.typeIn K (.ref C) = some (.type "type")) : PySem.W.kitOne K (.ref D0) (.ref C) = some true := by
  obtain ⟨cd, hc, _⟩ := PySem.W.any_some hd
  have e2 : ((PySem.W.clsIn K C).isSome && PySem.W.typeIn K (.ref C) == some (.type "type")) = true := by rw [hc, ht] <;> rfl
  show (if (Value.ref D0 == Value.ref C) = true then some true else (if ((PySem.W.clsIn K C).isSome && PySem.W.typeIn K (.ref C) == some (.type "type")) = true then PySem.W.subIn K (.ref D0) (.ref C) else none)) = some true
  rw [if_pos e2, h1]
  split <;> rfl
theorem dq_bl {b : Bool} : ∀ v G, Dq K G v (.bl b) → v = .bl b := fun v G h => by cases h; rfl
theorem dp_lst {r : RV} {ds : List D} (P : Post K B O I σ H env v r) (e : deref env r = some (.lst ds)) (hs : shp (.lst ds) = true) : Dp K H v (.list (toPys ds)) := by
  have := Dq.py _ _ (P.read e) (SeqAt.canLay_of_shaped hs)
  simpa only [toPy] using this
theorem dp_any {r : RV} {d : D} (P : Post K B O I σ H env v r) (e : deref env r = some d) (hs : shp d = true) : Dp K H v (toPy d) := Dq.py _ _ (P.read e) (SeqAt.canLay_of_shaped hs)
def inD (x : D) (ds : List D) : Bool := ds.any fun z => eqD z x
theorem toPys_map : ∀ ds : List D, toPys ds = ds.map toPy
  | [] => rfl
  | d :: ds => by simp only [toPys, List.map_cons, toPys_map ds]
theorem inD_eq (x : D) (ds : List D) : ((toPys ds).any fun z => PyData.eqv z (toPy x)) = inD x ds := by
  rw [toPys_map, List.any_map]
  rfl
/-- x.m(y), x a list, both stay -/
def isLst : D → Bool
  | .lst _ => true
  | _ => false
def fM1 (g : G2) (i : Nat) (fa : EF) : EF := fun env => (fVar i env).bind fun a => (deref a.2 a.1).bind fun w => if isLst w then (fa a.2).bind fun b => (deref b.2 a.1).bind fun x => (deref b.2 b.1).bind fun y => (g x y).bind fun z => some (z, b.2) else none
theorem snd_m1 {i : Nat} {r : V → List V → Hp → VK → Prop} {r2 : R2} {g : G2} (ho : Op2 K r2 g) (hr : ∀ x y H Q, r2 x y H Q → r x [y] H Q) (he : Snd K te fe) : Snd K (tBM K "list" r (tVar i) (tCons te tNil)) (fM1 g i fe) := by
  intro B O I σ H env rv env' S e Q q
  obtain ⟨⟨r1, env1⟩, e1, e⟩ := bnd e
  obtain ⟨w, ew, e⟩ := bnd e
  split at e
  · rename_i hw
    obtain ⟨⟨r2', env2⟩, e2, e⟩ := bnd e
    obtain ⟨x, ex, e⟩ := bnd e
    obtain ⟨y, ey, e⟩ := bnd e
    obtain ⟨z, ez, e⟩ := bnd e
    cases e
    have hf : Dv.frz r1 = r1 := by
      unfold fVar at e1
      split at e1 <;> cases e1 <;> rfl
    refine snd_var i B O I σ H env r1 env1 S e1 _ fun v H1 P1 => ?_
    have P1' := P1.frz
    have S1 := P1'.sta
    refine ⟨?_, ?_⟩
    · cases w with
      | lst ds =>
        obtain ⟨p, xs, rfl, h1, _⟩ := P1.items ew
        exact .inl ⟨rfl, xs, .inl (.inl h1)⟩
      | _ => cases hw
    · refine he _ O I σ H1 env1 r2' env2 S1.strong e2 _ fun u H2 P2 => ?_
      have P3 := P1'.later P2.sta
      rw [hf] at P3
      exact hr _ _ _ _ (ho B O I σ H2 env2 v u r1 r2' x y _ P3 (P2.weakN S1.base_keep) ex ey ez Q q)
  · cases e
/-- how often -/
def cntD (x : D) (ds : List D) : Nat := ds.countP fun z => eqD z x
def gCount : G2
  | .lst ds, x => if shp x && shp (.lst ds) then some (.val (.int (cntD x ds : Nat))) else none
  | _, _ => none
def rCount (K : PySem.W.Frag) : R2 := fun x y H Q => ∃ (a : Addr) (d : PyData) (ds : List PyData), x = V.ref a ∧ Dp K H (V.ref a) (.list ds) ∧ Dp K H y d ∧ SeqAt.shaped (.list ds) = true ∧ SeqAt.shaped d = true ∧ Q (.int ((ds.countP fun z => PyData.eqv z d : Nat) : Int)) H
theorem op2_count : Op2 K (rCount K) gCount := by
  intro B O I σ H env x y ra rb d e z P1 P2 e1 e2 ez Q q
  cases d with
  | lst ds =>
    unfold gCount at ez
    dsimp only at ez
    split at ez
    · rename_i h
      rw [Bool.and_eq_true] at h
      cases ez
      obtain ⟨p, xs, rfl, _⟩ := P1.items e1
      refine ⟨p, toPy e, toPys ds, rfl, dp_lst P1 e1 h.2, dp_any P2 e2 h.1, ?_, h.1, ?_⟩
      · have := h.2
        unfold shp at this
        simpa only [toPy] using this
      · have e : (toPys ds).countP (fun z => PyData.eqv z (toPy e)) = cntD e ds := by
          rw [toPys_map, List.countP_map]
          rfl
        rw [e]
        exact q _ H ⟨P1.sta, .int _⟩
    · cases ez
  | _ => cases ez
end
section
variable {X : Cx}
theorem mt_countD (hu : X.A.units + 65 < cLine) : MtR X "list.count" (fun x xs H Q => ∃ y, xs = [y] ∧ rCount X.K x y H Q) := by
  intro pins s σ H x xs v us Q I rx rxs h
  obtain ⟨y, rfl, a, d, ds, rfl, hl, hy, sl, sd, q⟩ := h
  cases rx
  cases rxs with
  | cons ry rt =>
    rename_i uy ut
    cases rt
    obtain ⟨bs, r1⟩ := Dp.reads I d y uy hy ry
    cases hl with
    | lst hs ha =>
      obtain ⟨its, rv, ⟨⟨cls, dd, data, sls⟩, n, ho, hc, hdn, hdt⟩, hlen⟩ := I.list hs
      simp only at hc hdt
      subst hc hdt
      obtain ⟨as, h4⟩ := Dp.readsAll I ds _ its ha rv
      have hxs : PyData.canLayAll0 ds = true := SeqAt.canLay_of_shaped sl
      have hmap : its.map (SeqAt.readOf s.heap) = ds := SeqAt.readsAll_map ds its as hxs h4
      refine call_meets PySem.F.slot_list_count ⟨_, ho, rfl⟩ PySem.F.entry_list_count (PySem.F.args_list_count_2 _ _)
        (SeqAt.list_countAt a its.toArray n dd sls uy (fun u => PyData.eqv (SeqAt.readOf s.heap u) d)) ⟨ho, SeqAt.items_eqAt (vs := its.toArray) (show ReadsAll s.heap its.toArray.toList ds as from h4) r1 hxs (SeqAt.canLay_of_shaped sd) (room_in_shaped sd hu), ?_⟩
      have ec : its.toArray.toList.countP (fun u => PyData.eqv (SeqAt.readOf s.heap u) d) = ds.countP fun z => PyData.eqv z d := by
        rw [← hmap, List.countP_map]
        rfl
      rw [ec]
      exact ⟨.int _, H, I.tok _, ⟨s.toks, rfl⟩, q⟩
end
end Dv
namespace Big
open PySem PySem.Spec PyProof.Rows L2
abbrev kv (l : List Int) : Int × Int := (l.getD 0 0, l.getD 1 0)
section
variable {P : Program} {w : World} {A : Around} {E : Value → Shared → Prop} {s : Shared} {a : Addr} {L : List (Addr × List Int)} {es : Array (Int × Value)} {ep : Nat} {t : SetTable}
def rowAt (L : List (Addr × List Int)) : Value → Addr × List Int
  | .ref b => (L.find? fun p => p.1 == b).getD (b, [])
  | _ => (0, [])
theorem rowAt_of (one : ∀ q, q ∈ L → ∀ r, r ∈ L → q.1 = r.1 → q = r) {p : Addr × List Int} (hp : p ∈ L) : rowAt L (.ref p.1) = p := by
  unfold rowAt
  dsimp only
  cases h : L.find? (fun q => q.1 == p.1) with
  | none =>
    rw [List.find?_eq_none] at h
    exact absurd (h p hp) (by simp)
  | some q =>
    have h1 := List.find?_some h
    have h2 := List.mem_of_find?_eq_some h
    exact one q h2 p hp (by simpa using h1)
/-- iter(set) of a set that keeps its own order: no bound on its size -/
theorem iter_plain {Q : Value → Shared → Prop} (sa : SetAt s.heap a es ep t) (ft : t.fits es.size = true) (up : Ris t.place.toList) (pl : t.plain = true) (ld : w.params.followText "set-order" = true ∨ t.led = true)
    (go : ∀ s2 I, SetIt P w s a es s2 I → Q (.ref I) s2) : wpAny (model P w) A (pyIter (.ref a)) Q E s := by
  obtain ⟨ob, g0, g1, g2⟩ := id sa
  have ty : s.TypeIs (.ref a) "set" := ⟨ob, g0, g1⟩
  have ne : a ≠ s.heap.objs.size := Nat.ne_of_lt (Heap.lt_size g0)
  have two : ∀ b, b ∈ [s.heap.objs.size, a] → b = a ∨ s.heap.objs.size ≤ b := fun b hb => by
    rcases List.mem_cons.mp hb with z | z
    · exact Or.inr (by rw [z]; exact Nat.le_refl _)
    · exact Or.inl (List.mem_singleton.mp z)
  have nodraw : (!t.plain && decide (es.size > 1)) = false := by rw [pl]; rfl
  refine wpAny_pyIter_slot ty F.slot_set_iter (wpAny_call_entry F.slot_set_iter ty entry_s_iter ?_ (F.args_set_iter_1 _))
  unfold Builtin.«frozenset.__iter__»
  refine wpAny_bind (m := Builtin.Frozenset.slot0 "__iter__" _) (wpAny_of_eq (a := a) (by rfl) (wpAny_bind (m := Builtin.Frozenset.sizeOf a) ?_))
  unfold Builtin.Frozenset.sizeOf
  refine wpAny_bind (wpAny_setEntries_of g0 g2 ft (wpAny_pure ?_))
  first
    | refine wpAny_bind (setDrawn_at sa ft ?_)
    | refine wpAny_bind (wpAny_bind (setDrawn_at sa ft ?_))
  rw [nodraw, Bool.and_false]
  refine wp_if_neg (by simp) ?_
  first
    | refine wpAny_bind (wpAny_pure ?_)
    | refine wpAny_pure ?_
  refine wpAny_bind (wpAny_setEpoch_of g0 g2 ft (wpAny_bind (wpAny_newObj_type (wpAny_pure ⟨_, rfl, "set_iterator", _, ⟨_, Heap.get?_push_size _ rfl, rfl⟩, slot_si_next.lookup, ?_⟩))))
  cases tx : w.params.followText "set-order" with
  | true =>
    have pm := pick_perm (w.params.setOrder a ep) es
    refine go _ _ (SetIt.of (fun A1 h1 => walks_text (P := P) (ep := ep) h1 ne ft tx) (out := (pickOrder (w.params.setOrder a ep) es).toList.map (·.2)) (by rw [List.length_map, Array.length_toList]) (fun b o e => Heap.get?_push_of_some _ e) rfl rfl rfl (Nat.le_refl _) two (pm.map _) (fun j x q => by rw [List.getElem?_map, Array.getElem?_toList]; exact q)
      ⟨⟨_, Heap.get?_push_size _ rfl, rfl, rfl⟩, sa.at fun o e => Heap.get?_push_of_some _ e⟩)
  | false =>
    have led : t.led = true := ld.resolve_left (fun z => by rw [tx] at z; cases z)
    refine go _ _ (SetIt.of (fun A1 h1 => walks_led (P := P) (ep := ep) h1 ne ft up tx nodraw led) (out := es.toList.map (·.2)) (by rw [List.length_map, Array.length_toList]) (fun b o e => Heap.get?_push_of_some _ e) rfl rfl rfl (Nat.le_refl _) two (List.Perm.refl _) (fun j x q => by rw [List.getElem?_map, Array.getElem?_toList]; exact q)
      ⟨⟨_, Heap.get?_push_size _ rfl, rfl, rfl⟩, sa.at fun o e => Heap.get?_push_of_some _ e⟩)
abbrev noneList : Obj := { cls := .type "list", data := .seq ([] : List Value).toArray }
/-- its things as a list -/
theorem collect_plain {Q : List Value → Shared → Prop} (nh : A.handled = none) (sa : SetAt s.heap a es ep t) (ft : t.fits es.size = true) (most : es.size ≤ sizeLine) (up : Ris t.place.toList) (pl : t.plain = true) (ld : w.params.followText "set-order" = true ∨ t.led = true)
    (go : ∀ s2 out, (∀ b o, s.heap.get? b = some o → s2.heap.get? b = some o) → s.heap.objs.size ≤ s2.heap.objs.size → s2.gens = s.gens → s2.os = s.os → out.Perm (es.toList.map (·.2)) → Q out s2) : wpAny (model P w) A (collect (.ref a)) Q E s := by
  obtain ⟨ob, g0, g1, g2⟩ := id sa
  have nL : s.heap.objs.size ≠ a := Nat.ne_of_gt (Heap.lt_size g0)
  unfold collect
  refine wpAny_bind (wpAny_runValue (codeAny_builtin F.entry_proto_collect ?_))
  rw [Around.under_plainId F.plain_proto_collect _]
  show wpAny _ A.in1 (newList [] >>= _) _ _ s
  refine wpAny_bind (wpAny_newObj_type (wpAny_pure ⟨plainId_quiet F.plain_list_iadd _, codeAny_builtin F.entry_list_iadd ?_⟩))
  rw [Around.under_plainId F.plain_list_iadd _]
  have hL : (s.heap.push noneList).get? s.heap.objs.size = some noneList := Heap.get?_push_size _ rfl
  have sa1 : SetAt (s.heap.push noneList) a es ep t := sa.at fun o e => Heap.get?_push_of_some _ e
  have sz1 : (s.heap.push noneList).objs.size = s.heap.objs.size + 1 := size_push' _ _
  show wpAny _ A.in1 (Builtin.List.listExtendWith (.ref s.heap.objs.size) (.ref a) (.ref s.heap.objs.size)) _ _ { s with heap := s.heap.push noneList }
  unfold Builtin.List.listExtendWith
  refine wpAny_bind (wpAny_typeOf (T := "set") ⟨ob, Heap.get?_push_of_some _ g0, g1⟩ ?_)
  simp only [show Builtin.List.listSameRef (.ref s.heap.objs.size) (.ref a) = false by simp [Builtin.List.listSameRef, nL], show (Value.type "set" == Value.type "list") = false by decide, show (Value.type "set" == Value.type "tuple") = false by decide, Bool.or_false, Bool.false_eq_true, if_false]
  refine wpAny_bind (iter_plain (s := { s with heap := s.heap.push noneList }) sa1 ft up pl ld fun s2 I it => ?_)
  obtain ⟨fp, St, out, Pv, k2, q1, q2, q3, hI, hfp, pm, hW, hPv, st0⟩ := it
  have notf : s.heap.objs.size ∉ fp := fun m => by
    rcases hfp _ m with z | z
    · exact nL z
    · have z' : (s.heap.push noneList).objs.size ≤ s.heap.objs.size := z
      rw [sz1] at z'
      omega
  have ty2 : s2.TypeIs (.ref a) "set" := ⟨ob, k2 a ob (Heap.get?_push_of_some _ g0), g1⟩
  refine wpAny_bind (wpAny_holding ?_)
  unfold Builtin.List.listLengthHint
  refine wpAny_bind (wpAny_specialOf ty2 F.slot_set_len.lookup ?_)
  generalize hid : ("set.__len__" : String) = nm
  wp_delta
  rw [show splitId nm = some ("set", "__len__") from by subst hid; decide +kernel]
  subst hid
  refine wpAny_bind (wpAny_isInstance (b := true) ty2 sub_set_self ?_)
  show wpAny _ A.in1 (typeOf (.ref a) >>= _) _ _ s2
  refine wpAny_bind (wpAny_typeOf ty2 (wpAny_pure ?_))
  show wpAny _ A.in1 (rule "list.extend.makes-room" >>= _) _ _ s2
  refine wpAny_bind (wpAny_rule (wpAny_bind ?_))
  have hL2 := k2 _ _ hL
  show wpAny _ A.in1 (updateSeq s.heap.objs.size (·.push .none) >>= _) _ _ s2
  have hL3 := Heap.get?_update_self (Obj.mapSeq (·.push Value.none)) hL2 rfl
  have hL4 := Heap.get?_update_self (Obj.mapSeq (·.pop)) hL3 rfl
  refine wpAny_bind (wpAny_updateSeq hL2 rfl (wpAny_updateSeq hL3 rfl ?_))
  have rest : ∀ b o, b ≠ s.heap.objs.size → s2.heap.get? b = some o → ((s2.heap.update s.heap.objs.size (Obj.mapSeq (·.push Value.none))).update s.heap.objs.size (Obj.mapSeq (·.pop))).get? b = some o := fun b o nb e => by
    rw [Heap.get?_update_other _ _ (Ne.symm nb), Heap.get?_update_other _ _ (Ne.symm nb)]
    exact e
  have ln : out.length ≤ sizeLine := by rw [pm.length_eq, List.length_map, Array.length_toList]; exact most
  have Wk := hW A.in1 nh
  have st1 : St 0 ((s2.heap.update s.heap.objs.size (Obj.mapSeq (·.push Value.none))).update s.heap.objs.size (Obj.mapSeq (·.pop))) := Wk.frame 0 _ _ st0 fun b hb o e => rest b o (fun z => notf (z ▸ hb)) e
  refine wpAny_pure ⟨plainId_quiet F.plain_extend_loop _, codeAny_extend_loopS Wk.toS ln _ notf _ out.length 0 _ _ _ rfl (Nat.zero_le _) st1 hL4 (ItemsOf.nil Pv) fun s3 acc c mv hL5 hacc => ?_⟩
  show wpAny _ A (load s.heap.objs.size >>= _) _ _ s3
  refine wpAny_bind (wpAny_load hL5 ?_)
  have eo := items_out hacc hPv
  refine wpAny_pure (show Q acc.toList s3 from ?_)
  rw [eo]
  refine go s3 out (fun b o e => ?_) (Nat.le_of_lt (Heap.lt_size hL5)) (mv.gens.trans q1) (mv.os.trans q2) pm
  have lt : b < s.heap.objs.size := Heap.lt_size e
  have hI2 : s.heap.objs.size + 1 ≤ I := by rw [← sz1]; exact hI
  refine mv.heap b o (fun m => ?_) (rest b o (Nat.ne_of_lt lt) (k2 b o (Heap.get?_push_of_some _ e)))
  have m2 : b = s.heap.objs.size ∨ b = I := by
    rcases List.mem_cons.mp m with z | z
    · first
        | exact Or.inl z
        | exact Or.inr z
    · first
        | exact Or.inl (List.mem_singleton.mp z)
        | exact Or.inr (List.mem_singleton.mp z)
  have lt' : (b : Nat) < s.heap.objs.size := lt
  rcases m2 with z | z
  · rw [z] at lt'
    exact Nat.lt_irrefl _ lt'
  · rw [z] at lt'
    exact Nat.lt_irrefl _ (Nat.lt_of_lt_of_le lt' (Nat.le_of_succ_le hI2))
theorem sorted_set {Q : Value → Shared → Prop} (R : SetB P w s.heap a L es ep t) (most : L.length ≤ mostB) (hh : A.handled = none) (pr : ∀ p, p ∈ L → ∃ x y, p.2 = [x, y])
    (out : ∀ s' q (vs : List Value) (c : Nat) (N : List (Addr × List Int)), (∀ b o, s.heap.get? b = some o → s'.heap.get? b = some o) → s'.gens = s.gens → s'.os = s.os → s.heap.objs.size ≤ q →
      s'.heap.get? q = some (seqObj "list" vs.toArray c) → vs = N.map (fun r => Value.ref r.1) → N.Perm L → N.Pairwise (fun p r => SrtO.lexB (kv r.2) (kv p.2) = false) → Q (.ref q) s') :
    wpAny (model P w) A (call (.builtin "sorted") [.ref a]) Q E s := by
  obtain ⟨o, g0, g1, g2⟩ := R.stands
  have n0 := ent_len R.ent
  refine Calls.call_function_entry kind_sorted plain_sorted entry_sorted (args_sorted1 _) ?_
  unfold Builtin.«sorted»
  refine wpAny_bind (m := checkCount "sorted" 1 1 _) (wpAny_pure ?_)
  refine wpAny_bind (collect_plain (A := A.in1) hh ⟨o, g0, g1.1, g2⟩ R.fits (by rw [sizeLine_eq]; unfold mostB at most; omega) R.tb.up R.pln R.ld fun s1 vs k1 hz e1 e2 pm => ?_)
  have er : es.toList.map (·.2) = L.map fun q => Value.ref q.1 := by
    rw [R.ent]
    unfold rowsOf
    rw [List.map_map]
    rfl
  rw [er] at pm
  have one : ∀ q, q ∈ L → ∀ r, r ∈ L → q.1 = r.1 → q = r := fun q hq r hr e => by
    have a1 := R.tp q hq
    have a2 := R.tp r hr
    rw [e] at a1
    exact Prod.ext e (a1.inj a2)
  have lv : vs.length = L.length := by rw [pm.length_eq, List.length_map]
  have lz : vs.length ≤ sizeLine := by rw [sizeLine_eq]; unfold mostB at most; omega
  refine wpAny_bind (wpAny_newList ?_ lz)
  have hoL : (s1.heap.push (seqObj "list" vs.toArray 0)).get? s1.heap.objs.size = some (seqObj "list" vs.toArray 0) := Heap.get?_push_size _ rfl
  have pairs : ∀ v ∈ vs, Srt.IsPair (s1.heap.push (seqObj "list" vs.toArray 0)) v (kv (rowAt L v).2).1 (kv (rowAt L v).2).2 := fun v hv => by
    obtain ⟨q, hq, rfl⟩ := List.mem_map.mp (pm.mem_iff.mp hv)
    rw [rowAt_of one hq]
    obtain ⟨x, y, exy⟩ := pr q hq
    obtain ⟨u, items, n, b1, b2, b3, b4⟩ := R.tp q hq
    rw [exy] at b4 ⊢
    have b5 := Heap.get?_push_of_some (seqObj "list" vs.toArray 0) (k1 _ _ b1)
    have b6 := ints_of_items b4
    have : ∃ t1 t2, items = #[.int x t1, .int y t2] := by
      obtain ⟨l⟩ := items
      cases b6 with
      | cons i t1 b7 =>
        cases b7 with
        | cons j t2 b8 =>
          cases b8
          exact ⟨t1, t2, rfl⟩
    obtain ⟨t1, t2, rfl⟩ := this
    exact ⟨q.1, u, t1, t2, n, rfl, b5, b2, b3⟩
  refine wpAny_bind (wpAny_holding (wpAny_call_entry slot_list_sort ⟨_, hoL, rfl⟩ entry_list_sort (SrtO.list_sort_ord (s := { s1 with heap := s1.heap.push (seqObj "list" vs.toArray 0) }) (SrtO.swo_lex fun v => kv (rowAt L v).2) hoL lz (fun h2 => SrtO.pairs_sortableO (by omega) pairs fun o ho c => ?_) fun res r1 r2 => ⟨_, rfl, ?_⟩) (args_list_sort _)))
  · have e' : some o = some (seqObj "list" vs.toArray 0) := ho.symm.trans hoL
    cases e'
    exact absurd (Value.type.inj c) (by decide)
  · obtain ⟨c, hc⟩ := sortedHeap_at (vs := vs) (out := res.toArray) hoL
    have back : ∀ v ∈ res, Value.ref (rowAt L v).1 = v := fun v hv => by
      obtain ⟨q, hq, rfl⟩ := List.mem_map.mp (pm.mem_iff.mp (r2.perm.mem_iff.mp hv))
      rw [rowAt_of one hq]
    have e3 : res = (res.map (rowAt L)).map fun r => Value.ref r.1 := by
      rw [List.map_map]
      exact ((List.map_congr_left (g := id) back).trans (List.map_id res)).symm
    have e4 : (L.map fun q => Value.ref q.1).map (rowAt L) = L := by
      rw [List.map_map]
      exact (List.map_congr_left fun q hq => rowAt_of one hq).trans (List.map_id L)
    refine wpAny_pure ⟨_, rfl, out _ s1.heap.objs.size res c (res.map (rowAt L)) (fun b u e => ?_) e1 e2 hz hc e3 ?_ (List.pairwise_map.mpr r1)⟩
    · have q := k1 b u e
      have lt := Heap.lt_size q
      show (sortedHeap (s1.heap.push (seqObj "list" vs.toArray 0)) s1.heap.objs.size vs res.toArray).get? b = some u
      rw [sortedHeap_old (Nat.ne_of_lt lt) (by rw [size_push']; exact Nat.lt_succ_of_lt lt)]
      exact Heap.get?_push_of_some _ q
    · have := (r2.perm.trans pm).map (rowAt L)
      rw [e4] at this
      exact this
end
/-- the set at a, without what is in it -/
def SetB0 (P : Program) (w : World) (h : Heap) (a : Addr) (L : List (Addr × List Int)) : Prop := ∃ (es : Array (Int × Value)) (ep : Nat) (t : SetTable), (∃ o, h.get? a = some o ∧ o.ExactSet ∧ o.data = .set es ep t) ∧ es.toList = rowsOf P w L ∧ Tab t (hsh P w L) ∧ (L.map (·.2)).Nodup ∧ t.plain = true ∧
    (w.params.followText "set-order" = true ∨ t.led = true) ∧ L.length * 5 < t.mask * 3 ∧ L.length ≤ mostB
def SetBO (P : Program) (w : World) (a : Addr) (L : List (Addr × List Int)) : HO := .ext fun h => SetB0 P w h a L
theorem setBO_new {P : Program} {w : World} {H : Hp} {h : Heap} {a : Addr} {L : List (Addr × List Int)} (R : SetB0 P w h a L) : ObjOk P w H h a (SetBO P w a L) := by
  obtain ⟨es, ep, t, ⟨o, ho, r⟩, q⟩ := id R
  refine ⟨R, ⟨o, ho⟩, fun h1 h2 p k => ?_⟩
  obtain ⟨es', ep', t', ⟨o', ho', r'⟩, q'⟩ := (show SetB0 P w h1 a L from p)
  exact ⟨es', ep', t', ⟨o', k o' ho', r'⟩, q'⟩
section
variable {X : Cx}
def rSetB (K : PySem.W.Frag) (P : Program) (w : World) : List V → Hp → VK → Prop := fun xs H Q => ∃ (l : Addr) (ks : List (Addr × List Int)), xs = [V.ref l] ∧ SqL K H l (ks.map fun p => V.ref p.1) ∧ (∀ p, p ∈ ks → SqT K H p.1 (p.2.map V.int)) ∧ ks.length ≤ mostB ∧
  ∀ a L, H a = none → (∀ p, p ∈ L → p ∈ ks) → (∀ p, p ∈ ks → p.2 ∈ L.map (·.2)) → Q (.ref a) (upd H a (SetBO P w a L))
theorem cr_setB (hc : X.calm = true) (hu : X.A.units + 64 < cLine) : CallR X (.type "set") (rSetB X.K X.prog X.w) := by
  intro pins s σ H xs us Q I r h
  obtain ⟨l, ks, rfl, hl, hk, most, q⟩ := h
  rw [Vals.ref1 r]
  obtain ⟨its, rv, pl, hz⟩ := I.list hl
  have hn : H s.heap.objs.size = none := I.hok.fresh (Nat.le_refl _)
  refine set_of (P := X.prog) (w := X.w) ks (I.ok.hd hc) pl.isList (by simpa using refs_of_vals rv) (fun p hp => I.isT (hk p hp)) most (by omega) fun h2 tk L es ep t R g k => ?_
  refine ⟨.ref s.heap.objs.size, upd H s.heap.objs.size (SetBO X.prog X.w s.heap.objs.size L), I.laid (t' := tk) k (Nat.le_refl _) (setBO_new ⟨es, ep, t, R.stands, R.ent, R.tb, R.one, R.pln, R.ld, R.rm, Nat.le_trans g.len most⟩), rfl, q _ L hn (fun p hp => ?_) fun p hp => ?_⟩
  · exact List.mem_of_mem_take (g.sub p hp)
  · exact g.all p (by rw [List.take_length]; exact hp)
def rSortedB (K : PySem.W.Frag) (P : Program) (w : World) : List V → Hp → VK → Prop := fun vs H Q => ∃ (a : Addr) (L : List (Addr × List Int)), vs = [V.ref a] ∧ H a = some (SetBO P w a L) ∧ (∀ p, p ∈ L → SqT K H p.1 (p.2.map V.int)) ∧ (∀ p, p ∈ L → ∃ x y, p.2 = [x, y]) ∧
  ∀ (N : List (Addr × List Int)) (p : Addr), N.Perm L → (N.map (·.2)).Nodup → N.Pairwise (fun p r => SrtO.lexB (kv r.2) (kv p.2) = false) → H p = none → Q (.ref p) (upd H p (.lst (N.map fun q => V.ref q.1)))
theorem cr_sortedB (hc : X.calm = true) : CallR X (.builtin "sorted") (rSortedB X.K X.prog X.w) := by
  intro pins s σ H vs us Q I r h
  obtain ⟨a, L, rfl, ha, hk, pr, q⟩ := h
  obtain ⟨es, ep, t, y1, y2, y3, y4, y5, y6, y7, y8⟩ := (show SetB0 X.prog X.w s.heap a L from (I.hok a _ ha).1)
  have R : SetB X.prog X.w s.heap a L es ep t := ⟨y1, y2, y3, y4, fun p hp => I.isT (hk p hp), y5, y6, y7⟩
  rw [Vals.ref1 r]
  refine sorted_set R y8 (I.ok.hd hc) pr fun s' p vs c N k g o hp hg hout pm pw => ?_
  have hlen : (N.map fun q => V.ref q.1).length ≤ sizeLine := by
    rw [List.length_map, sizeLine_eq, pm.length_eq]
    unfold mostB at y8
    omega
  have hn : H p = none := I.hok.fresh hp
  have hv : Vals (N.map fun q => V.ref q.1) vs := by rw [hout]; exact vals_of_refs N
  have J : Inv X pins σ (upd H p (.lst (N.map fun q => V.ref q.1))) { s with heap := s'.heap, gens := s'.gens, drawn := s'.drawn, toks := s'.toks } :=
    I.call (ch := []) (Un.laid k hp hn) (I.hok.laid k hp ⟨hlen, vs, c, hv, hg⟩) (by rw [g]; exact I.bare) (fun _ z => nomatch z)
  have e : s' = { s with heap := s'.heap, gens := s'.gens, drawn := s'.drawn, toks := s'.toks } := by
    cases s'
    cases s
    cases o
    rfl
  rw [e]
  exact ⟨.ref p, _, J, rfl, q N p pm ((pm.map (·.2)).nodup_iff.mpr R.one) pw hn⟩
end
end Big
namespace Dv
open PySem L2
abbrev ltP2 (p q : Int × Int) : Prop := p.1 < q.1 ∨ (p.1 = q.1 ∧ p.2 < q.2)
instance (p q : Int × Int) : Decidable (ltP2 p q) := by unfold ltP2; infer_instance
def insP (p : Int × Int) : List (Int × Int) → List (Int × Int)
  | [] => [p]
  | q :: l => if p = q then q :: l else if ltP2 p q then p :: q :: l else q :: insP p l
def srtP (l : List (Int × Int)) : List (Int × Int) := l.foldr insP []
theorem mem_insP {p x : Int × Int} : ∀ {l : List (Int × Int)}, x ∈ insP p l ↔ x = p ∨ x ∈ l
  | [] => by simp [insP]
  | q :: l => by
    unfold insP
    split
    · rename_i h
      subst h
      simp
    · split
      · simp
      · rw [List.mem_cons, mem_insP, List.mem_cons]
        constructor
        · rintro (h | h | h)
          · exact .inr (.inl h)
          · exact .inl h
          · exact .inr (.inr h)
        · rintro (h | h | h)
          · exact .inr (.inl h)
          · exact .inl h
          · exact .inr (.inr h)
theorem mem_srtP {x : Int × Int} : ∀ {l : List (Int × Int)}, x ∈ srtP l ↔ x ∈ l
  | [] => by simp [srtP]
  | p :: l => by
    show x ∈ insP p (srtP l) ↔ _
    rw [mem_insP, mem_srtP, List.mem_cons]
theorem ltP2_tri {p q : Int × Int} (h1 : p ≠ q) (h2 : ¬ ltP2 p q) : ltP2 q p := by
  have : ¬ (p.1 = q.1 ∧ p.2 = q.2) := fun z => h1 (Prod.ext z.1 z.2)
  unfold ltP2 at *
  omega
theorem ltP2_trans {p q r : Int × Int} (h1 : ltP2 p q) (h2 : ltP2 q r) : ltP2 p r := by
  unfold ltP2 at *
  omega
theorem ltP2_irr {p : Int × Int} : ¬ ltP2 p p := by
  unfold ltP2
  omega
abbrev StrP (l : List (Int × Int)) : Prop := l.Pairwise ltP2
theorem str_insP {p : Int × Int} : ∀ {l : List (Int × Int)}, StrP l → StrP (insP p l)
  | [], _ => List.pairwise_singleton _ _
  | q :: l, h => by
    have h0 := List.pairwise_cons.mp h
    unfold insP
    split
    · exact h
    · rename_i h1
      split
      · rename_i h2
        refine List.pairwise_cons.mpr ⟨fun x hx => ?_, h⟩
        rcases List.mem_cons.mp hx with z | z
        · rw [z]
          exact h2
        · exact ltP2_trans h2 (h0.1 x z)
      · rename_i h2
        refine List.pairwise_cons.mpr ⟨fun x hx => ?_, str_insP h0.2⟩
        rcases mem_insP.mp hx with z | z
        · rw [z]
          exact ltP2_tri h1 h2
        · exact h0.1 x z
theorem str_srtP : ∀ (l : List (Int × Int)), StrP (srtP l)
  | [] => List.Pairwise.nil
  | p :: l => str_insP (str_srtP l)
/-- two such lists with the same things in them are one -/
theorem str_uniq : ∀ {l m : List (Int × Int)}, StrP l → StrP m → (∀ x, x ∈ l ↔ x ∈ m) → l = m
  | [], [], _, _, _ => rfl
  | [], q :: m, _, _, h => absurd ((h q).mpr List.mem_cons_self) (by simp)
  | p :: l, [], _, _, h => absurd ((h p).mp List.mem_cons_self) (by simp)
  | p :: l, q :: m, h1, h2, h => by
    have a1 := List.pairwise_cons.mp h1
    have a2 := List.pairwise_cons.mp h2
    have e : p = q := by
      rcases List.mem_cons.mp ((h p).mp List.mem_cons_self) with z | z
      · exact z
      · rcases List.mem_cons.mp ((h q).mpr List.mem_cons_self) with y | y
        · exact y.symm
        · exact absurd (ltP2_trans (a2.1 p z) (a1.1 q y)) ltP2_irr
    subst e
    rw [str_uniq a1.2 a2.2 fun x => ⟨fun hx => ?_, fun hx => ?_⟩]
    · rcases List.mem_cons.mp ((h x).mp (List.mem_cons_of_mem _ hx)) with z | z
      · exact absurd (z ▸ a1.1 x hx) ltP2_irr
      · exact z
    · rcases List.mem_cons.mp ((h x).mpr (List.mem_cons_of_mem _ hx)) with z | z
      · exact absurd (z ▸ a2.1 x hx) ltP2_irr
      · exact z
def pD (p : Int × Int) : D := .tup [.int p.1, .int p.2]
def pairsD : List D → Option (List (Int × Int))
  | [] => some []
  | .tup [.int x, .int y] :: r => (pairsD r).bind fun ps => some ((x, y) :: ps)
  | _ => none
theorem pairsD_map : ∀ ps : List (Int × Int), pairsD (ps.map pD) = some ps
  | [] => rfl
  | p :: ps => by
    show (pairsD (ps.map pD)).bind _ = _
    rw [pairsD_map ps]
    rfl
theorem pairsD_eq : ∀ {ds : List D} {ps : List (Int × Int)}, pairsD ds = some ps → ds = ps.map pD
  | [], _, h => by cases h; rfl
  | d :: ds, ps, h => by
    unfold pairsD at h
    split at h
    · cases h
      contradiction
    · rename_i r hr
      cases hr
      obtain ⟨qs, e1, e2⟩ := bnd h
      cases e2
      rw [pairsD_eq e1]
      rfl
    · cases h
def gSortSet : GB
  | [.lst ds] => (pairsD ds).bind fun ps => if ps.length ≤ 9900 then some (.new ((srtP ps).map pD)) else none
  | _ => none
section
variable {K : PySem.W.Frag} {B : Hp} {O : List Addr} {I : List (Nat × Addr)} {σ : L2.St} {H H' G : Hp} {env env' : Env} {v : V}
theorem rows_of : ∀ {ps : List (Int × Int)} {xs : List V}, DqA K G xs (ps.map pD) → ∃ ks : List (Addr × List Int), xs = ks.map (fun p => V.ref p.1) ∧ (∀ p, p ∈ ks → SqT K G p.1 (p.2.map V.int)) ∧ ks.map (·.2) = ps.map fun p => [p.1, p.2]
  | [], xs, h => by
    cases h
    exact ⟨[], rfl, (fun p hp => nomatch hp), rfl⟩
  | p :: ps, xs, h => by
    cases h with
    | cons h1 h2 =>
      obtain ⟨ks, e1, e2, e3⟩ := rows_of h2
      unfold pD at h1
      cases h1 with
      | @tup a us _ h3 h4 =>
        have h5 : us = [V.int p.1, V.int p.2] := DqA.isInts (ns := [p.1, p.2]) h4
        subst h5
        refine ⟨(a, [p.1, p.2]) :: ks, by rw [e1]; rfl, fun q hq => ?_, by rw [List.map_cons, e3]; rfl⟩
        rcases List.mem_cons.mp hq with z | z
        · rw [z]
          exact h3
        · exact e2 q z
theorem dqa_rows : ∀ {N : List (Addr × List Int)} {qs : List (Int × Int)}, (∀ p, p ∈ N → SqT K G p.1 (p.2.map V.int)) → N.map (·.2) = qs.map (fun p => [p.1, p.2]) → DqA K G (N.map fun p => V.ref p.1) (qs.map pD)
  | [], [], _, _ => .nil
  | [], q :: qs, _, h => by cases h
  | p :: N, [], _, h => by cases h
  | p :: N, q :: qs, h, e => by
    rw [List.map_cons, List.map_cons, List.cons.injEq] at e
    have h0 := h p List.mem_cons_self
    rw [e.1] at h0
    exact .cons (.tup h0 (.cons (.int _) (.cons (.int _) .nil))) (dqa_rows (fun r hr => h r (List.mem_cons_of_mem _ hr)) e.2)
theorem snd_sortSet {P : Program} {w : World} {t : TA} {fa : AF} (h1 : SndA K t fa) : Snd K (tCB (Big.rSortedB K P w) (tCons (tCB (Big.rSetB K P w) t) tNil)) (fB gSortSet fa) := by
  intro B O I σ H env rv env' S e Q q
  obtain ⟨⟨r1, env1⟩, e1, e⟩ := bnd e
  obtain ⟨x, ex, e⟩ := bnd e
  obtain ⟨z, ez, e⟩ := bnd e
  cases e
  refine h1 B O I σ H env r1 env1 S e1 _ fun vs H1 S1 P1 => ?_
  unfold gSortSet at ez
  split at ez
  · obtain ⟨v, r, rfl, P2, e2⟩ := one_of P1 ex
    obtain ⟨p1, xs, rfl, h3, k1⟩ := P2.items e2
    obtain ⟨ps, e3, e4⟩ := bnd ez
    split at e4
    · rename_i most
      cases e4
      rw [pairsD_eq e3] at k1
      obtain ⟨ks, f1, f2, f3⟩ := rows_of k1
      subst f1
      have lk : ks.length = ps.length := by
        have := congrArg List.length f3
        simpa using this
      have pr : ∀ p, p ∈ ks → ∃ x y, p.2 = [x, y] := fun p hp => by
        have m : p.2 ∈ ks.map (·.2) := List.mem_map.mpr ⟨p, hp, rfl⟩
        rw [f3] at m
        obtain ⟨r, _, e⟩ := List.mem_map.mp m
        exact ⟨_, _, e.symm⟩
      refine ⟨p1, ks, rfl, .inl (.inl h3), fun p hp => sqT_mono mi_same (f2 p hp), by rw [lk]; exact most, fun a L hn sub all => ?_⟩
      refine ⟨a, L, rfl, upd_same, fun p hp => sqT_mono (same_new hn) (sqT_mono mi_same (f2 p (sub p hp))), fun p hp => pr p (sub p hp), fun N b pm nd pw hb => ?_⟩
      have hb1 : H1 b = none := (same_new hn).free hb
      refine q _ _ ⟨b, _, rfl, upd_same, S1.base.free hb1, fun z => ?_, by rw [mi_one_new hb]; exact S1.grow (same_new hn), ?_⟩
      · obtain ⟨o, ho⟩ := S1.dom b z
        rw [hb1] at ho
        cases ho
      · rw [mi_one_new hb]
        refine dqa_rows (fun p hp => sqT_mono (mi_mono (same_new hn)) (f2 p (sub p (pm.mem_iff.mp hp)))) ?_
        have prN : ∀ p, p ∈ N → p.2 = [(Big.kv p.2).1, (Big.kv p.2).2] := fun p hp => by
          obtain ⟨x, y, e⟩ := pr p (sub p (pm.mem_iff.mp hp))
          rw [e]
          rfl
        have f4 : N.map (fun p => Big.kv p.2) = srtP ps := by
          refine str_uniq ?_ (str_srtP ps) fun x => ?_
          · refine List.pairwise_map.mpr ?_
            have nd2 : N.Pairwise fun p r => p.2 ≠ r.2 := List.pairwise_map.mp nd
            refine List.Pairwise.imp_of_mem (fun {p r} hp hr h => ?_) (nd2.and pw)
            have := SrtO.lexB_no.mp h.2
            have ne : Big.kv p.2 ≠ Big.kv r.2 := fun z => h.1 (by rw [prN p hp, prN r hr, z])
            refine Classical.byContradiction fun y => this ?_
            exact ltP2_tri ne y
          · rw [mem_srtP, List.mem_map]
            constructor
            · rintro ⟨p, hp, rfl⟩
              have m : p.2 ∈ ks.map (·.2) := List.mem_map.mpr ⟨p, sub p (pm.mem_iff.mp hp), rfl⟩
              rw [f3] at m
              obtain ⟨r, hr, e⟩ := List.mem_map.mp m
              rw [← e]
              exact hr
            · intro hx
              have m : [x.1, x.2] ∈ ks.map (·.2) := by
                rw [f3]
                exact List.mem_map.mpr ⟨x, hx, rfl⟩
              obtain ⟨p, hp, e⟩ := List.mem_map.mp m
              obtain ⟨r, hr, e5⟩ := List.mem_map.mp (all p hp)
              exact ⟨r, pm.mem_iff.mpr hr, by rw [e5, e]; rfl⟩
        rw [← f4, List.map_map]
        exact List.map_congr_left prN
    · cases e4
  · cases ez
end
theorem gSortSet_L (xs : List (Int × Int)) : gSortSet [.lst (xs.map fun p => D.tup [.int p.1, .int p.2])] = if xs.length ≤ 9900 then some (.new ((srtP xs).map fun p => D.tup [.int p.1, .int p.2])) else none := by
  show (pairsD (xs.map pD)).bind _ = _
  rw [pairsD_map]
  rfl
end Dv
namespace Dv
open PySem L2
theorem bits_of {z : Int} (h : Builtin.Int.intBits z ≤ 1048576) : z.natAbs.log2 ≤ 1048576 := by
  unfold Builtin.Int.intBits at h
  split at h
  · rename_i h0
    have : z = 0 := by simpa using h0
    subst this
    decide
  · omega
theorem mul_bit {z : Int} (h : z.natAbs.log2 ≤ 1048576) {j : Int} (h2 : j.natAbs.log2 ≤ 1000000) : mulB z j = true := decide_eq_true (by omega)
section
variable {K : PySem.W.Frag} {te ta : TE} {fe fa : EF}
def gSlT : GS := fun d lo hi => match d with
  | .tup ds => some (.val (.tup (cutD ds lo hi)))
  | _ => none
theorem os_tup : OpS K (rSlA K) gSlT := by
  intro B O I σ H env x ra d lo hi z P e ez Q q
  unfold gSlT at ez
  split at ez
  · cases ez
    obtain ⟨p, xs, rfl, h1, k1⟩ := P.tuple e
    refine ⟨p, xs, rfl, h1, fun hw => ?_, fun _ l hl => q _ _ (post_tup P.sta hl k1.cut)⟩
    rename_i ds
    have e2 : cutD ds lo hi = ds := by
      have := k1.length
      unfold cutD
      rw [← this, hw.1, hw.2, List.drop_zero, Nat.sub_zero, this, List.take_length]
    rw [e2] at q
    cases ra with
    | ex n => exact False.elim P
    | val d' =>
      cases e
      exact q _ _ P
    | slot i =>
      obtain ⟨es, e1, _⟩ := ownAt_of e
      cases e1
    | new es => cases e
    | tw dss =>
      cases e
      exact q _ _ P.frz
  · cases ez
def gRevL : G1
  | .lst ds => some (.new ds.reverse)
  | _ => none
def maxL : List Int → Option Int
  | [] => none
  | n :: r => some (r.foldl max n)
/-- f(new), f changes it -/
def fCallN (g : FF) (fe : EF) : EF := fun env => (fe env).bind fun a => match a.1 with
  | .new ds => (g [.lst ds]).bind fun r => (resR r).bind fun z => some (z, a.2)
  | _ => none
def fOwnV (i : Nat) (f : EF) : SFn := fun env => (f env).bind fun a => match a.1 with
  | .new ds => (putS i (.o1 ds) a.2).bind fun e => some (.nx e)
  | .val d => (gfName i d a.2).bind fun e => some (.nx e)
  | _ => none
def mergeS : SV → SV → SV
  | .o1 _, .o1 b => .o1 b
  | .io _, .io b => .io b
  | .nw _, .nw b => .nw b
  | .nw _, _ => .no
  | .o1 _, _ => .no
  | .io _, _ => .no
  | a, _ => a
def ownNoL : SV → Bool
  | .o1 ds => noLs ds
  | .io ds => noLs ds
  | .nw _ => false
  | _ => true
def noR : RV → Bool
  | .val d => noL d
  | .new ds => noLs ds
  | .tw dss => dss.all noLs
  | _ => false
theorem LsOk.less {K : PySem.W.Frag} {H : Hp} {X Y : List Addr} (h : ∀ b, b ∈ Y → b ∈ X ∨ ∃ xs, H b = some (.lst xs)) : ∀ {qs : List Addr} {dss : List (List D)}, dss.all noLs = true → LsOk K (mi H X) H qs dss → LsOk K (mi H Y) H qs dss
  | [], [], _, _ => trivial
  | [], _ :: _, _, k => k.elim
  | _ :: _, [], _, k => k.elim
  | q :: qs, ds :: dss, a, k => by
    obtain ⟨⟨xs, h1, h2⟩, h3⟩ := k
    rw [List.all_cons, Bool.and_eq_true] at a
    exact ⟨⟨xs, h1, DqA.less h _ _ a.1 h2⟩, LsOk.less h a.2 h3⟩
def fLend (i : Nat) (f : EF) : EF := fun env => match env[i]? with
  | some (.o1 ds) => (f (env.set i (.fz (.lst ds)))).bind fun a => if a.2.all ownNoL && noR a.1 then some (a.1, (List.zipWith mergeS env a.2).set i (.o1 ds)) else none
  | _ => none
theorem merge_own {a b : SV} {ds : List D} (h : mergeS a b = .o1 ds ∨ mergeS a b = .io ds) : (b = .o1 ds ∧ (∃ x, a = .o1 x) ∧ mergeS a b = .o1 ds) ∨ (b = .io ds ∧ (∃ x, a = .io x) ∧ mergeS a b = .io ds) := by
  cases a <;> cases b <;> rcases h with h | h <;> cases h
  · exact .inl ⟨rfl, ⟨_, rfl⟩, rfl⟩
  · exact .inr ⟨rfl, ⟨_, rfl⟩, rfl⟩
theorem merge_fz {a b : SV} {d : D} (h : mergeS a b = .fz d) : a = .fz d := by
  cases a <;> cases b <;> cases h <;> rfl
theorem snd_lend {i : Nat} {t : TE} {f : EF} (h : Snd K t f) : Snd K t (fLend i f) := by
  intro B O I σ H env rv env' S e Q q
  unfold fLend at e
  split at e
  · rename_i ds hi
    obtain ⟨⟨r, e1⟩, ef, e⟩ := bnd e
    dsimp only at e
    split at e
    · rename_i hc
      rw [Bool.and_eq_true] at hc
      cases e
      obtain ⟨p, xs, hp1, hp2, hp3, hp4, hp5⟩ := S.ow i ds (.inl hi)
      have li : i < env.length := (List.getElem?_eq_some_iff.mp hi).1
      have get1 : ∀ j, j ≠ i → (env.set i (.fz (.lst ds)))[j]? = env[j]? := fun j hj => List.getElem?_set_ne (fun z => hj z.symm)
      have geti : (env.set i (SV.fz (.lst ds)))[i]? = some (.fz (.lst ds)) := List.getElem?_set_self li
      have own1 : ∀ j es, OwnAt (env.set i (.fz (.lst ds))) j es → j ≠ i ∧ OwnAt env j es := fun j es ho => by
        by_cases c : j = i
        · subst c
          unfold OwnAt at ho
          rw [geti] at ho
          rcases ho with z | z <;> cases z
        · unfold OwnAt at ho ⊢
          rw [get1 j c] at ho
          exact ⟨c, ho⟩
      let O1 := O.filter fun a => a != p
      have inO1 : ∀ a, a ∈ O1 ↔ a ∈ O ∧ a ≠ p := fun a => by simp [O1]
      have up : Same (mi H O) (mi H O1) := mi_sub fun a ha => ((inO1 a).mp ha).1
      have S1 : Sta K B O1 I σ H (env.set i (.fz (.lst ds))) := by
        refine ⟨by rw [List.length_set]; exact S.len, fun j d hj => ?_, fun j es ho => ?_, fun j k es fs a ho1 ho2 => ?_, S.base, fun a ha => S.dom a ((inO1 a).mp ha).1, fun j a hj => ?_, ?_, fun a xs ha => S.nt a xs ((inO1 a).mp ha).1⟩
        · by_cases c : j = i
          · subst c
            rw [geti] at hj
            cases hj
            exact ⟨_, hp1, .lst (mi_of (fun z => ((inO1 p).mp z).2 rfl) hp3) (DqA.mono up _ _ hp4)⟩
          · rw [get1 j c] at hj
            obtain ⟨v, h1, h2⟩ := S.fz j d hj
            exact ⟨v, h1, Dq.mono up _ _ h2⟩
        · obtain ⟨c, ho⟩ := own1 j es ho
          obtain ⟨a, ys, k1, k2, k3, k4, k5⟩ := S.ow j es ho
          refine ⟨a, ys, k1, (inO1 a).mpr ⟨k2, fun z => ?_⟩, k3, DqA.mono up _ _ k4, k5⟩
          subst z
          exact c (S.sep j i es ds a ho (.inl hi) k1 hp1)
        · exact S.sep j k es fs a (own1 j es ho1).2 (own1 k fs ho2).2
        · obtain ⟨y1, es, y2⟩ := S.pin j a hj
          refine ⟨y1, es, ?_⟩
          rw [get1 j (fun z => ?_)]
          · exact y2
          · subst z
            rw [hi] at y2
            cases y2
        · refine NwOk.go S.nw (fun j w hj => ⟨(nw_set li (by intro w z; cases z) hj).2, rfl⟩) (fun j es a ho e => .inl ⟨es, (own1 j es ho).2, e⟩) (fun a g1 g2 _ g4 => ⟨(inO1 a).mpr ⟨g1, fun z => ?_⟩, g2, rfl⟩) up S.dom
          subst z
          exact g4 i ds (.inl hi) hp1
      -- what is neither owned nor changed
      have kp : keepH σ (env.set i (.fz (.lst ds))) H p = some (.lst xs) := by
        rw [keepH_not (fun z => ((inO1 p).mp (S1.owns_in z)).2 rfl)]
        exact hp3
      have back : ∀ H', Sta K (keepH σ (env.set i (.fz (.lst ds))) H) O1 I σ H' e1 → Sta K B O I σ H' ((List.zipWith mergeS env e1).set i (.o1 ds)) ∧ Same (mi H O) (mi H' O) ∧ H' p = some (.lst xs) := fun H' S2 => by
        have hp' : H' p = some (.lst xs) := S2.base _ _ kp
        have stay : Same (mi H O) (mi H' O) := fun a o ha => by
          obtain ⟨y1, y2⟩ := mi_some ha
          refine mi_of y1 (S2.base a o ?_)
          rw [keepH_not (fun z => y1 ((inO1 a).mp (S1.owns_in z)).1)]
          exact y2
        have l1 : e1.length = env.length := by rw [← S2.len, S.len]
        have lz : (List.zipWith mergeS env e1).length = env.length := by rw [List.length_zipWith, l1, Nat.min_self]
        have hget : ∀ j, j ≠ i → ∀ s, ((List.zipWith mergeS env e1).set i (.o1 ds))[j]? = some s → ∃ a b, env[j]? = some a ∧ e1[j]? = some b ∧ s = mergeS a b := fun j hj s hs => by
          rw [List.getElem?_set_ne (fun z => hj z.symm), List.getElem?_zipWith] at hs
          cases ha : env[j]? with
          | none => rw [ha] at hs; cases hs
          | some a =>
            cases hb : e1[j]? with
            | none => rw [ha, hb] at hs; cases hs
            | some b =>
              rw [ha, hb] at hs
              cases hs
              exact ⟨a, b, rfl, rfl, rfl⟩
        have hgi : ((List.zipWith mergeS env e1).set i (SV.o1 ds))[i]? = some (.o1 ds) := List.getElem?_set_self (by rw [lz]; exact li)
        have own2 : ∀ j es, OwnAt ((List.zipWith mergeS env e1).set i (.o1 ds)) j es → (j = i ∧ es = ds) ∨ (j ≠ i ∧ OwnAt e1 j es ∧ (∃ fs, OwnAt env j fs)) := fun j es ho => by
          by_cases c : j = i
          · subst c
            unfold OwnAt at ho
            rw [hgi] at ho
            rcases ho with z | z <;> cases z
            exact .inl ⟨rfl, rfl⟩
          · refine .inr ⟨c, ?_⟩
            rcases ho with z | z
            · obtain ⟨a, b, y1, y2, y3⟩ := hget j c _ z
              rcases merge_own (.inl y3.symm) with ⟨w1, ⟨x, w2⟩, _⟩ | ⟨w1, ⟨x, w2⟩, w3⟩
              · exact ⟨.inl (by rw [y2, w1]), x, .inl (by rw [y1, w2])⟩
              · rw [w3] at y3
                cases y3
            · obtain ⟨a, b, y1, y2, y3⟩ := hget j c _ z
              rcases merge_own (.inr y3.symm) with ⟨w1, ⟨x, w2⟩, w3⟩ | ⟨w1, ⟨x, w2⟩, w3⟩
              · rw [w3] at y3
                cases y3
              · exact ⟨.inr (by rw [y2, w1]), x, .inr (by rw [y1, w2])⟩
        refine ⟨⟨by rw [List.length_set, lz]; exact S.len, fun j d hj => ?_, fun j es ho => ?_, fun j k es fs a ho1 ho2 h1 h2 => ?_, fun a o ha => ?_, fun a ha => ?_, fun j a hj => ?_, NwOk.none fun j w z => ?_, fun a xs ha => ?_⟩, stay, hp'⟩
        · by_cases c : j = i
          · subst c
            rw [hgi] at hj
            cases hj
          · obtain ⟨a, b, y1, y2, y3⟩ := hget j c _ hj
            rw [merge_fz y3.symm] at y1
            obtain ⟨v, k1, k2⟩ := S.fz j d y1
            exact ⟨v, k1, Dq.mono stay _ _ k2⟩
        · rcases own2 j es ho with ⟨rfl, rfl⟩ | ⟨c, ho1, _⟩
          · exact ⟨p, xs, hp1, hp2, hp', DqA.mono stay _ _ hp4, hp5⟩
          · obtain ⟨a, ys, k1, k2, k3, k4, k5⟩ := S2.ow j es ho1
            have nl : noLs es = true := by
              have hall := List.all_eq_true.mp hc.1
              rcases ho1 with z | z
              · exact hall _ (List.mem_of_getElem? z)
              · exact hall _ (List.mem_of_getElem? z)
            refine ⟨a, ys, k1, ((inO1 a).mp k2).1, k3, DqA.less (O := O1) (fun b hb => ?_) _ _ nl k4, ?_⟩
            · by_cases w : b = p
              · rw [w]
                exact .inr ⟨_, hp'⟩
              · exact .inl ((inO1 b).mpr ⟨hb, w⟩)
            · cases hB : B a with
              | none => rfl
              | some o =>
                have : keepH σ (env.set i (.fz (.lst ds))) H a = some o := S1.base_keep _ _ hB
                rw [k5] at this
                cases this
        · rcases own2 j es ho1 with ⟨rfl, rfl⟩ | ⟨c1, _, f1, g1⟩
          · rcases own2 k fs ho2 with ⟨rfl, rfl⟩ | ⟨c2, _, f2, g2⟩
            · rfl
            · exact S.sep _ _ _ _ a (.inl hi) g2 h1 h2
          · rcases own2 k fs ho2 with ⟨rfl, rfl⟩ | ⟨c2, _, f2, g2⟩
            · exact S.sep _ _ _ _ a g1 (.inl hi) h1 h2
            · exact S.sep _ _ _ _ a g1 g2 h1 h2
        · exact S2.base _ _ (S1.base_keep _ _ ha)
        · by_cases w : a = p
          · rw [w]
            exact ⟨_, hp'⟩
          · exact S2.dom a ((inO1 a).mpr ⟨ha, w⟩)
        · obtain ⟨y1, es, y2⟩ := S.pin j a hj
          have c : j ≠ i := fun z => by
            subst z
            rw [hi] at y2
            cases y2
          obtain ⟨y3, fs, y4⟩ := S2.pin j a hj
          refine ⟨y1, fs, ?_⟩
          rw [List.getElem?_set_ne (fun z => c z.symm), List.getElem?_zipWith, y2, y4]
          rfl
        · by_cases c : j = i
          · subst c
            rw [hgi] at z
            cases z
          · obtain ⟨a, b, y1, y2, y3⟩ := hget j c _ z
            have hall := List.all_eq_true.mp hc.1 _ (List.mem_of_getElem? y2)
            cases a <;> cases b <;> cases y3 <;> cases hall
        · by_cases w : a = p
          · rw [w, hp']
            exact fun z => by cases z
          · exact S2.nt a xs ((inO1 a).mpr ⟨ha, w⟩)
      refine h _ O1 I σ H _ _ _ S1.strong ef _ fun v H' P => q v H' ?_
      cases rv with
      | ex n => exact False.elim P
      | slot k => cases hc.2
      | tw dss =>
        obtain ⟨a, qs, rfl, h1, hnd, hfr, S2, hls⟩ := P
        obtain ⟨S3, stay, hp'⟩ := back _ S2
        refine ⟨a, qs, rfl, h1, hnd, fun b hb => ?_, S3, LsOk.less (X := qs ++ O1) (fun b hb => ?_) hc.2 hls⟩
        · obtain ⟨y1, y2⟩ := hfr b hb
          have nap : b ≠ p := fun z => by
            rw [z, kp] at y1
            cases y1
          refine ⟨?_, fun z => y2 ((inO1 b).mpr ⟨z, nap⟩)⟩
          cases hB : B b with
          | none => rfl
          | some o =>
            have : keepH σ (env.set i (.fz (.lst ds))) H b = some o := S1.base_keep _ _ hB
            rw [y1] at this
            cases this
        · rcases List.mem_append.mp hb with w | w
          · exact .inl (List.mem_append_left _ w)
          · by_cases w2 : b = p
            · rw [w2]
              exact .inr ⟨_, (mi_some hp').2⟩
            · exact .inl (List.mem_append_right _ ((inO1 b).mpr ⟨w, w2⟩))
      | val d =>
        obtain ⟨S2, hd⟩ := P
        obtain ⟨S3, stay, hp'⟩ := back H' S2
        refine ⟨S3, Dq.less (O := O1) (fun b hb => ?_) _ _ hc.2 hd⟩
        by_cases w : b = p
        · rw [w]
          exact .inr ⟨_, hp'⟩
        · exact .inl ((inO1 b).mpr ⟨hb, w⟩)
      | new es =>
        obtain ⟨a, ys, rfl, h1, h2, h3, S2, h4⟩ := P
        obtain ⟨S3, stay, hp'⟩ := back _ S2
        have nap : a ≠ p := fun z => by
          rw [z, kp] at h2
          cases h2
        have hB : B a = none := by
          cases hB : B a with
          | none => rfl
          | some o =>
            have : keepH σ (env.set i (.fz (.lst ds))) H a = some o := S1.base_keep _ _ hB
            rw [h2] at this
            cases this
        refine ⟨a, ys, rfl, h1, hB, fun z => h3 ((inO1 a).mpr ⟨z, nap⟩), S3, DqA.less (O := O1) (fun b hb => ?_) _ _ hc.2 h4⟩
        by_cases w : b = p
        · rw [w]
          exact .inr ⟨_, hp'⟩
        · exact .inl ((inO1 b).mpr ⟨hb, w⟩)
    · cases e
  · cases e
end
end Dv
namespace Dv
open PySem L2
def kVal (kvs : List (List Int × D)) (k : List Int) : Option D := (kvs.find? fun kv => decide (kv.1 = k)).map (·.2)
def kPut (kvs : List (List Int × D)) (k : List Int) (d : D) : List (List Int × D) := if (kvs.any fun kv => decide (kv.1 = k)) = true then kvs.map (fun kv => if kv.1 = k then (kv.1, d) else kv) else kvs ++ [(k, d)]
abbrev keyI (k : List Int) : List L2.Key := k.map Sum.inl
theorem keyI_inj : ∀ {a b : List Int}, keyI a = keyI b → a = b
  | [], [], _ => rfl
  | [], _ :: _, h => by cases h
  | _ :: _, [], h => by cases h
  | x :: a, y :: b, h => by
    have h' : Sum.inl x :: keyI a = (Sum.inl y :: keyI b : List L2.Key) := h
    injection h' with h1 h2
    injection h1 with h1
    rw [h1, keyI_inj h2]
theorem keyI_kV : ∀ k : List Int, (keyI k).map kV = k.map V.int
  | [] => rfl
  | x :: k => by
    show kV (Sum.inl x) :: (keyI k).map kV = _
    rw [keyI_kV k]
    rfl
section
variable {K : PySem.W.Frag} {G : Hp}
theorem DqK.val : ∀ {ks : List (List L2.Key × V)} {kvs : List (List Int × D)} (k : List Int), DqK K G ks kvs → (valV ks (keyI k) = none ∧ kVal kvs k = none) ∨ ∃ v d, valV ks (keyI k) = some v ∧ kVal kvs k = some d ∧ Dq K G v d
  | [], [], k, _ => .inl ⟨rfl, rfl⟩
  | [], _ :: _, _, h => h.elim
  | _ :: _, [], _, h => h.elim
  | p :: ks, q :: kvs, k, h => by
    obtain ⟨h1, h2, h3⟩ := h
    by_cases c : q.1 = k
    · refine .inr ⟨p.2, q.2, ?_, ?_, h2⟩
      · exact valV_pos (by rw [h1, c])
      · unfold kVal
        rw [List.find?_cons_of_pos (by simpa using c)]
        rfl
    · have e1 : valV (p :: ks) (keyI k) = valV ks (keyI k) := valV_neg (fun z => c (keyI_inj (by rw [← z, h1])))
      have e2 : kVal (q :: kvs) k = kVal kvs k := by
        unfold kVal
        rw [List.find?_cons_of_neg (by simpa using c)]
      rw [e1, e2]
      exact DqK.val k h3
theorem DqK.any : ∀ {ks : List (List L2.Key × V)} {kvs : List (List Int × D)} (k : List Int), DqK K G ks kvs → (ks.any fun kv => decide (kv.1 = keyI k)) = kvs.any fun kv => decide (kv.1 = k)
  | [], [], k, _ => rfl
  | [], _ :: _, _, h => h.elim
  | _ :: _, [], _, h => h.elim
  | p :: ks, q :: kvs, k, h => by
    obtain ⟨h1, h2, h3⟩ := h
    rw [List.any_cons, List.any_cons, DqK.any k h3, h1]
    congr 1
    by_cases c : q.1 = k
    · rw [decide_eq_true c, decide_eq_true (by rw [c])]
    · rw [decide_eq_false c, decide_eq_false (fun z => c (keyI_inj z))]
theorem DqK.maps {v : V} {d : D} (hv : Dq K G v d) : ∀ {ks : List (List L2.Key × V)} {kvs : List (List Int × D)} (k : List Int), DqK K G ks kvs → DqK K G (ks.map fun kv => if kv.1 = keyI k then (kv.1, v) else kv) (kvs.map fun kv => if kv.1 = k then (kv.1, d) else kv)
  | [], [], k, _ => trivial
  | [], _ :: _, _, h => h.elim
  | _ :: _, [], _, h => h.elim
  | p :: ks, q :: kvs, k, h => by
    obtain ⟨h1, h2, h3⟩ := h
    rw [List.map_cons, List.map_cons]
    have t := DqK.maps hv k h3
    by_cases c : q.1 = k
    · rw [if_pos c, if_pos (by rw [h1, c])]
      exact ⟨h1, hv, t⟩
    · rw [if_neg c, if_neg (fun z => c (keyI_inj (by rw [← z, h1])))]
      exact ⟨h1, h2, t⟩
theorem DqK.snoc {v : V} {d : D} (hv : Dq K G v d) (k : List Int) : ∀ {ks : List (List L2.Key × V)} {kvs : List (List Int × D)}, DqK K G ks kvs → DqK K G (ks ++ [(keyI k, v)]) (kvs ++ [(k, d)])
  | [], [], _ => ⟨rfl, hv, trivial⟩
  | [], _ :: _, h => h.elim
  | _ :: _, [], h => h.elim
  | p :: ks, q :: kvs, h => ⟨h.1, h.2.1, DqK.snoc hv k h.2.2⟩
theorem DqK.put {v : V} {d : D} {ks : List (List L2.Key × V)} {kvs : List (List Int × D)} (k : List Int) (h : DqK K G ks kvs) (hv : Dq K G v d) : DqK K G (putK ks (keyI k) v) (kPut kvs k d) := by
  unfold putK kPut
  rw [h.any k]
  split
  · exact DqK.maps hv k h
  · exact DqK.snoc hv k h
theorem DqK.len : ∀ {ks : List (List L2.Key × V)} {kvs : List (List Int × D)}, DqK K G ks kvs → ks.length = kvs.length
  | [], [], _ => rfl
  | [], _ :: _, h => h.elim
  | _ :: _, [], h => h.elim
  | _ :: _, _ :: _, h => by
    rw [List.length_cons, List.length_cons, DqK.len h.2.2]
end
/-- what can be a key -/
def keyD : D → Option (List Int)
  | .nt ds => allInts ds
  | _ => none
theorem keyD_of {K : PySem.W.Frag} {G : Hp} {v : V} {d : D} {k : List Int} (h : Dq K G v d) (e : keyD d = some k) : ∃ b, v = .ref b ∧ G b = some (.tup ((keyI k).map kV)) := by
  cases d with
  | nt ds =>
    cases h with
    | nt h1 h2 =>
      have e1 := allInts_eq e
      subst e1
      rw [h2.isInts] at h1
      rw [keyI_kV]
      exact ⟨_, rfl, h1⟩
  | _ => cases e
section
variable {K : PySem.W.Frag} {B : Hp} {O : List Addr} {I : List (Nat × Addr)} {σ : L2.St} {H H' : Hp} {env env' : Env} {v : V} {t ta tb te tk tx : TE} {f fa fb fe fk fx : EF} {W : WN}
/-- a dict, by its name -/
theorem Sta.dct (S : Sta K B O I σ H env) {i : Nat} {kvs : List (List Int × D)} (h : env[i]? = some (.nw (.dct kvs))) : ∃ p ks, σ[i]? = some (some (.ref p)) ∧ p ∈ O ∧ B p = none ∧ H p = some (.dT ks) ∧ DqK K (mi H O) ks kvs := by
  obtain ⟨p, a1, ⟨ks, a2, a3⟩, _, a4, _⟩ := S.nw i _ h
  have := a4 p adsOf_self
  exact ⟨p, ks, a1, this.1, this.2, a2, a3⟩
/-- a dict is changed in its place -/
theorem Sta.upD (S : Sta K B O I σ H env) {i : Nat} {kvs kvs' : List (List Int × D)} {p : Addr} {ks ks' : List (List L2.Key × V)} (h : env[i]? = some (.nw (.dct kvs))) (hs : σ[i]? = some (some (.ref p))) (hp : H p = some (.dT ks)) (hk : DqK K (mi H O) ks' kvs') :
    Sta K B O I σ (upd H p (.dT ks')) (env.set i (.nw (.dct kvs'))) := by
  obtain ⟨p', a1, a2, a3, a4, a5, a6⟩ := S.nw i _ h
  rw [hs] at a1
  cases a1
  have pO := a4 p adsOf_self
  have hi : i < env.length := (List.getElem?_eq_some_iff.mp h).1
  have hm : mi (upd H p (.dT ks')) O = mi H O := mi_upd_in pO.1
  have get : ∀ j, j ≠ i → (env.set i (SV.nw (.dct kvs')))[j]? = env[j]? := fun j c => List.getElem?_set_ne (Ne.symm c)
  have ne : ∀ j ds, OwnAt (env.set i (SV.nw (.dct kvs'))) j ds → j ≠ i ∧ OwnAt env j ds := fun j ds z => by
    by_cases c : j = i
    · subst c
      unfold OwnAt at z
      rw [List.getElem?_set_self hi] at z
      rcases z with z | z <;> cases z
    · exact ⟨c, (own_set c).mp z⟩
  refine ⟨by simp [S.len], fun j d hj => ?_, fun j ds hj => ?_, fun j l ds es q hj hl e1 e2 => S.sep j l ds es q (ne j ds hj).2 (ne l es hl).2 e1 e2, fun a o ha => ?_, fun q hq => ?_, fun j q hj => ?_, fun j w hj => ?_, fun q xs hq => ?_⟩
  · rw [hm]
    by_cases c : j = i
    · subst c
      rw [List.getElem?_set_self hi] at hj
      cases hj
    · rw [get j c] at hj
      exact S.fz j d hj
  · rw [hm]
    obtain ⟨c, z⟩ := ne j ds hj
    obtain ⟨q, xs, k1, k2, k3, k4, k5⟩ := S.ow j ds z
    refine ⟨q, xs, k1, k2, ?_, k4, k5⟩
    rw [upd_ne (fun y => by rw [y, hp] at k3; cases k3)]
    exact k3
  · rw [upd_ne (fun y => by rw [y, pO.2] at ha; cases ha)]
    exact S.base a o ha
  · by_cases c : q = p
    · subst c
      exact ⟨_, upd_same⟩
    · rw [upd_ne c]
      exact S.dom q hq
  · obtain ⟨k1, ds, k2⟩ := S.pin j q hj
    have c : j ≠ i := fun z => by
      subst z
      rw [h] at k2
      cases k2
    exact ⟨k1, ds, by rw [get j c]; exact k2⟩
  · by_cases c : j = i
    · subst c
      rw [List.getElem?_set_self hi] at hj
      cases hj
      refine ⟨p, hs, ⟨ks', upd_same, by rw [hm]; exact hk⟩, by show [p].Nodup; simp, fun a ha => ?_, fun l ds a hl e => ?_, fun l w' q hl hw e a ha => ?_⟩
      · rw [show a = p from List.mem_singleton.mp ha]
        exact pO
      · exact a5 l ds a (ne l ds hl).2 e
      · rw [get l hl] at hw
        have e0 : a = p := List.mem_singleton.mp ha
        subst e0
        obtain ⟨q', b1, _, _, b4, b5, b6⟩ := S.nw l w' hw
        rw [e] at b1
        cases b1
        have nq : q ≠ a := fun z => by
          subst z
          exact a6 l w' q hl hw e q adsOf_self adsOf_self
        rw [adsOf_eq (upd_ne nq)]
        exact a6 l w' q hl hw e a adsOf_self
    · rw [get j c] at hj
      obtain ⟨q, b1, b2, b3, b4, b5, b6⟩ := S.nw j w hj
      have np : ∀ a, a ∈ adsOf H q w → a ≠ p := fun a ha z => by
        subst z
        exact b6 i _ a (Ne.symm c) h hs a ha adsOf_self
      have e0 : adsOf (upd H p (.dT ks')) q w = adsOf H q w := adsOf_eq (upd_ne (np q adsOf_self))
      refine ⟨q, b1, b2.mono (by rw [hm]; exact Same.refl _) fun a ha => upd_ne (np a ha), by rw [e0]; exact b3, by rw [e0]; exact b4, fun l ds a hl e => ?_, fun l w' r hl hw e a ha => ?_⟩
      · rw [e0]
        exact b5 l ds a (ne l ds hl).2 e
      · rw [e0] at ha
        by_cases c' : l = i
        · subst c'
          rw [List.getElem?_set_self hi] at hw
          cases hw
          rw [hs] at e
          cases e
          exact fun z => np a ha (List.mem_singleton.mp z)
        · rw [get l c'] at hw
          obtain ⟨r', d1, _, _, d4, d5, d6⟩ := S.nw l w' hw
          rw [e] at d1
          cases d1
          have nr : r ≠ p := fun z => by
            subst z
            exact d6 i _ r (Ne.symm c') h hs r adsOf_self adsOf_self
          rw [adsOf_eq (upd_ne nr)]
          exact b6 l w' r hl hw e a ha
  · by_cases c : q = p
    · subst c
      rw [upd_same]
      exact fun z => by cases z
    · rw [upd_ne c]
      exact S.nt q xs hq
/-- a name gets a new dict -/
theorem Sta.newD {i : Nat} {p : Addr} (S : Sta K B O I σ H env) (hp : H p = none) (e : putS i (.nw (.dct [])) env = some env') : Sta K B (p :: O) I (σ.set i (some (.ref p))) (upd H p (.dT [])) env' := by
  obtain ⟨h1, h2, rfl⟩ := putS_of e
  have hs : i < σ.length := by rw [S.len]; exact h2
  have hO : p ∉ O := not_dom S.dom hp
  have up : Same H (upd H p (.dT [])) := same_new hp
  have sm : Same (mi H O) (mi (upd H p (.dT [])) (p :: O)) := fun a o ha => by
    obtain ⟨z1, z2⟩ := mi_some ha
    exact mi_of (fun y => (List.mem_cons.mp y).elim (fun y => by rw [y, hp] at z2; cases z2) z1) (up _ _ z2)
  have get : ∀ j, j ≠ i → (env.set i (SV.nw (.dct [])))[j]? = env[j]? := fun j c => List.getElem?_set_ne (Ne.symm c)
  have gets : ∀ j, j ≠ i → (σ.set i (some (V.ref p)))[j]? = σ[j]? := fun j c => List.getElem?_set_ne (Ne.symm c)
  have ne : ∀ j ds, OwnAt (env.set i (SV.nw (.dct []))) j ds → j ≠ i ∧ OwnAt env j ds := fun j ds z => by
    by_cases c : j = i
    · subst c
      unfold OwnAt at z
      rw [List.getElem?_set_self h2] at z
      rcases z with z | z <;> cases z
    · exact ⟨c, (own_set c).mp z⟩
  refine ⟨by simp [S.len], fun j d hj => ?_, fun j ds hj => ?_, fun j l ds es q hj hl e1 e2 => ?_, S.base.trans up, fun q hq => ?_, fun j q hj => ?_, fun j w hj => ?_, fun q xs hq => ?_⟩
  · by_cases c : j = i
    · subst c
      rw [List.getElem?_set_self h2] at hj
      cases hj
    · rw [get j c] at hj
      rw [gets j c]
      obtain ⟨w, k1, k2⟩ := S.fz j d hj
      exact ⟨w, k1, Dq.mono sm _ _ k2⟩
  · obtain ⟨c, z⟩ := ne j ds hj
    rw [gets j c]
    obtain ⟨q, xs, k1, k2, k3, k4, k5⟩ := S.ow j ds z
    exact ⟨q, xs, k1, List.mem_cons_of_mem _ k2, up _ _ k3, DqA.mono sm _ _ k4, k5⟩
  · obtain ⟨c, z⟩ := ne j ds hj
    obtain ⟨c', z'⟩ := ne l es hl
    rw [gets j c] at e1
    rw [gets l c'] at e2
    exact S.sep j l ds es q z z' e1 e2
  · rcases List.mem_cons.mp hq with rfl | hq
    · exact ⟨_, upd_same⟩
    · obtain ⟨o, z⟩ := S.dom q hq
      exact ⟨o, up _ _ z⟩
  · obtain ⟨k1, ds, k2⟩ := S.pin j q hj
    have c : j ≠ i := fun z => by
      subst z
      rw [isIo_of k2] at h1
      cases h1
    rw [get j c, gets j c]
    exact ⟨k1, ds, k2⟩
  · have old : ∀ {l : Nat} {w : OV}, env[l]? = some (.nw w) → ∀ {q : Addr}, σ[l]? = some (some (.ref q)) → (∀ a, a ∈ adsOf H q w → a ∈ O) ∧ adsOf (upd H p (.dT [])) q w = adsOf H q w := fun {l w} hl {q} hq => by
      obtain ⟨q', b1, _, _, b4, _⟩ := S.nw l w hl
      rw [hq] at b1
      cases b1
      refine ⟨fun a ha => (b4 a ha).1, adsOf_eq (upd_ne fun z => ?_)⟩
      subst z
      exact hO (b4 q adsOf_self).1
    by_cases c : j = i
    · subst c
      rw [List.getElem?_set_self h2] at hj
      cases hj
      refine ⟨p, List.getElem?_set_self hs, ⟨[], upd_same, trivial⟩, by show [p].Nodup; simp, fun a ha => ?_, fun l ds a hl e z => ?_, fun l w' q hl hw e a ha z => ?_⟩
      · rw [show a = p from List.mem_singleton.mp ha]
        exact ⟨List.mem_cons_self, S.base.free hp⟩
      · obtain ⟨c, y⟩ := ne l ds hl
        rw [gets l c] at e
        obtain ⟨q, xs, k1, k2, _⟩ := S.ow l ds y
        rw [e] at k1
        cases k1
        rw [show a = p from List.mem_singleton.mp z] at k2
        exact hO k2
      · rw [get l hl] at hw
        rw [gets l hl] at e
        obtain ⟨y1, y2⟩ := old hw e
        rw [y2] at z
        rw [show a = p from List.mem_singleton.mp ha] at z
        exact hO (y1 p z)
    · rw [get j c] at hj
      rw [gets j c]
      obtain ⟨q, b1, b2, b3, b4, b5, b6⟩ := S.nw j w hj
      obtain ⟨y1, y2⟩ := old hj b1
      refine ⟨q, b1, b2.mono sm fun a ha => upd_ne fun z => hO (z ▸ y1 a ha), by rw [y2]; exact b3, fun a ha => ?_, fun l ds a hl e => ?_, fun l w' r hl hw e a ha => ?_⟩
      · rw [y2] at ha
        exact ⟨List.mem_cons_of_mem _ (b4 a ha).1, (b4 a ha).2⟩
      · obtain ⟨c', y⟩ := ne l ds hl
        rw [gets l c'] at e
        rw [y2]
        exact b5 l ds a y e
      · rw [y2] at ha
        by_cases c' : l = i
        · subst c'
          rw [List.getElem?_set_self h2] at hw
          cases hw
          rw [List.getElem?_set_self hs] at e
          cases e
          exact fun z => hO (by rw [← show a = p from List.mem_singleton.mp z]; exact y1 a ha)
        · rw [get l c'] at hw
          rw [gets l c'] at e
          rw [(old hw e).2]
          exact b6 l w' r hl hw e a ha
  · rcases List.mem_cons.mp hq with rfl | hq
    · rw [upd_same]
      exact fun z => by cases z
    · exact S.ntS hq (fun o z => up _ _ z) xs
def fDNew (i : Nat) : SFn := fun env => (putS i (.nw (.dct [])) env).bind fun e => some (.nx e)
theorem ss_dnew {i : Nat} : SndS K W (tAsg tDNewT (gName i)) (fDNew i) := by
  intro B O I σ H env o S e D k
  obtain ⟨env2, e2, e⟩ := bnd e
  cases e
  intro p hp
  exact k (p :: O) _ _ ⟨fun a h _ => List.mem_cons_of_mem _ h, fun a h => (List.mem_cons.mp h).elim (fun z => .inr (z ▸ S.base.free hp)) .inl⟩ (S.newD hp e2)
/-- a tuple that is made here, as a key -/
def fTupN (fa : AF) : EF := fun env => (fa env).bind fun a => (allVal a.1).bind fun ds => if ds.length ≤ 10000000 then some (.val (.nt ds), a.2) else none
theorem snd_tupN {t : TA} {fa : AF} (h1 : SndA K t fa) : Snd K (tTup t) (fTupN fa) := by
  intro B O I σ H env rv env' S e Q q
  obtain ⟨⟨r1, env1⟩, e1, e⟩ := bnd e
  obtain ⟨ds, e2, e⟩ := bnd e
  dsimp only at e2 e
  split at e
  · cases e
    refine h1 B O I σ H env r1 _ S e1 _ fun vs H1 S1 P1 => ?_
    have k := post_vals P1 e2
    refine ⟨by rw [k.length]; exact line_of (by assumption), fun p hp => q _ _ ?_⟩
    have hO : p ∉ O := not_dom S1.dom hp
    have e : Same H1 (upd H1 p (.tup vs)) := same_new hp
    exact ⟨S1.grow e, .nt (mi_of hO upd_same) (DqA.mono (mi_mono e) _ _ k)⟩
  · cases e
/-- a name that holds such a tuple, as any thing -/
def fVarN (i : Nat) : EF := fun env => match env[i]? with
  | some (.fz (.nt ds)) => some (.val (.tup ds), env)
  | _ => none
def dctAt (env : Env) (i : Nat) : Option (List (List Int × D)) := match env[i]? with
  | some (.nw (.dct kvs)) => some kvs
  | _ => none
theorem dctAt_of {i : Nat} {kvs : List (List Int × D)} (h : dctAt env i = some kvs) : env[i]? = some (.nw (.dct kvs)) := by
  unfold dctAt at h
  split at h
  · cases h
    assumption
  · cases h
theorem DGet.own {p b : Addr} {ks : List (List L2.Key × V)} {k : List Int} (hp : H p = some (.dT ks)) (hb : mi H O b = some (.tup ((keyI k).map kV))) : DGet H p (.ref b) (valV ks (keyI k)) := .t hp (mi_some hb).2
def fDIx (i : Nat) (fk : EF) : EF := fun env => (dctAt env i).bind fun _ => (fk env).bind fun a => match a.1 with
  | .val kd => (keyD kd).bind fun k => (dctAt a.2 i).bind fun kvs => (kVal kvs k).bind fun d => some (.val d, a.2)
  | _ => none
theorem snd_dix {i : Nat} (hk : Snd K tk fk) : Snd K (tDGet (tVar i) tk) (fDIx i fk) := by
  intro B O I σ H env rv env' S e Q q
  obtain ⟨kvs0, e0, e⟩ := bnd e
  obtain ⟨⟨r1, env1⟩, e1, e⟩ := bnd e
  dsimp only at e
  split at e
  · rename_i kd
    obtain ⟨k, e2, e⟩ := bnd e
    obtain ⟨kvs, e3, e⟩ := bnd e
    obtain ⟨d, e4, e⟩ := bnd e
    cases e
    obtain ⟨p, ks, s1, _⟩ := S.dct (dctAt_of e0)
    refine ⟨_, s1, ?_⟩
    refine hk B O I σ H env _ _ S e1 _ fun y H1 P1 => ?_
    obtain ⟨S1, dy⟩ := P1
    obtain ⟨p', ks', s1', pO, _, hp, hd⟩ := S1.dct (dctAt_of e3)
    rw [s1] at s1'
    cases s1'
    obtain ⟨b, rfl, hb⟩ := keyD_of dy e2
    rcases hd.val k with ⟨_, z⟩ | ⟨v, d', z1, z2, z3⟩
    · rw [z] at e4
      cases e4
    · rw [z2] at e4
      cases e4
      exact ⟨p, v, rfl, by rw [← z1]; exact DGet.own hp hb, q v H1 ⟨S1, z3⟩⟩
  · cases e
def fDGet2 (i : Nat) (fk fx : EF) : EF := fun env => (dctAt env i).bind fun _ => (fk env).bind fun a => match a.1 with
  | .val kd => (keyD kd).bind fun k => (fx a.2).bind fun b => match frz b.1 with
    | .val x => (dctAt b.2 i).bind fun kvs => some (.val ((kVal kvs k).getD x), b.2)
    | _ => none
  | _ => none
def fDIn (i : Nat) (neg : Bool) (fk : EF) : EF := fun env => (fk env).bind fun a => match a.1 with
  | .val kd => (keyD kd).bind fun k => (dctAt a.2 i).bind fun kvs => some (.val (.bl ((kVal kvs k).isSome != neg)), a.2)
  | _ => none
def fDPut (i : Nat) (fk fe : EF) : SFn := fun env => (fe env).bind fun a => (dctAt a.2 i).bind fun _ => (fk a.2).bind fun b => match frz a.1, b.1 with
  | .val d, .val kd => (keyD kd).bind fun k => (dctAt b.2 i).bind fun kvs => if kvs.length ≤ 1000000 then some (.nx (b.2.set i (.nw (.dct (kPut kvs k d))))) else none
  | _, _ => none
theorem ss_dput {i : Nat} (he : Snd K te fe) (hk : Snd K tk fk) : SndS K W (tAsg te (L2.gSub (tVar i) tk rSetD)) (fDPut i fk fe) := by
  intro B O I σ H env o S e D kk
  obtain ⟨⟨r1, env1⟩, e1, e⟩ := bnd e
  obtain ⟨kvs0, e0, e⟩ := bnd e
  obtain ⟨⟨r2, env2⟩, e2, e⟩ := bnd e
  dsimp only at e e0 e2
  split at e
  · rename_i d kd hd
    obtain ⟨k, e3, e⟩ := bnd e
    obtain ⟨kvs, e4, e⟩ := bnd e
    split at e
    · rename_i hl
      cases e
      refine he B O I σ H env r1 env1 S e1 _ fun x H1 P1 => ?_
      have P1' := P1.frz
      have S1 := P1'.sta
      obtain ⟨p, ks0, s1, _⟩ := S1.dct (dctAt_of e0)
      refine ⟨_, s1, ?_⟩
      refine hk _ O I σ H1 env1 _ env2 S1.strong e2 _ fun y H2 P2 => ?_
      have P3 := P1'.later P2.1
      rw [hd] at P3
      obtain ⟨S3, dx⟩ := P3
      obtain ⟨p', ks, s1', pO, _, hp, hk2⟩ := S3.dct (dctAt_of e4)
      rw [s1] at s1'
      cases s1'
      obtain ⟨b, rfl, hb⟩ := keyD_of P2.2 e3
      refine ⟨p, _, rfl, .t hp (mi_some hb).2 ?_, ?_⟩
      · rw [hk2.len]
        exact line_lt (by omega)
      · exact kk O σ _ .refl (S3.upD (dctAt_of e4) s1 hp (hk2.put k dx))
    · cases e
  · cases e
def fPar3 (i j l : Nat) (fa : AF) : SFn := fun env => (fa env).bind fun a => (allVal a.1).bind fun ds => match ds with
  | [d, e, g] => (putS i (.fz d) a.2).bind fun e1 => (putS j (.fz e) e1).bind fun e2 => (putS l (.fz g) e2).bind fun e3 => some (.nx e3)
  | _ => none
end
end Dv
namespace Big
open PySem PySem.Spec PyProof.Rows L2
abbrev keyP (p : Int × Int) : List L2.Key := [Sum.inl p.1, Sum.inl p.2]
section
variable {H : Hp}
theorem rows_paired : ∀ {kvs : List (List L2.Key × V)} {ks : List (List L2.Key × Addr × Value)} {ns : List (Int × Int)}, Paired (fun (p : List L2.Key × V) (q : List L2.Key × Addr × Value) => p.1 = q.1 ∧ H q.2.1 = some (.tup (p.1.map kV)) ∧ RelV p.2 q.2.2) kvs ks → kvs.map (·.1) = ns.map keyP →
    ∃ L : List (Addr × List Int), (ks.map fun x => Value.ref x.2.1) = L.map (fun q => Value.ref q.1) ∧ L.map (·.2) = ns.map (fun p => [p.1, p.2]) ∧ ∀ q, q ∈ L → H q.1 = some (.tup (q.2.map V.int))
  | _, _, ns, .nil, e => by
    cases ns with
    | nil => exact ⟨[], rfl, rfl, fun q hq => nomatch hq⟩
    | cons a b => cases e
  | _, _, ns, @Paired.cons _ _ _ p q ps qs h t, e => by
    cases ns with
    | nil => cases e
    | cons n ns =>
      rw [List.map_cons, List.map_cons, List.cons.injEq] at e
      obtain ⟨L, e1, e2, e3⟩ := rows_paired t e.2
      refine ⟨(q.2.1, [n.1, n.2]) :: L, by rw [List.map_cons, e1]; rfl, by rw [List.map_cons, e2]; rfl, fun r hr => ?_⟩
      rcases List.mem_cons.mp hr with z | z
      · rw [z]
        have h1 := h.2.1
        rw [e.1] at h1
        exact h1
      · exact e3 r z
end
theorem keys_paired {R : List L2.Key × V → List L2.Key × Addr × Value → Prop} (hR : ∀ p q, R p q → p.1 = q.1) : ∀ {kvs : List (List L2.Key × V)} {ks : List (List L2.Key × Addr × Value)}, Paired R kvs ks → kvs.map (·.1) = ks.map (·.1)
  | _, _, .nil => rfl
  | _, _, .cons h t => by rw [List.map_cons, List.map_cons, keys_paired hR t, hR _ _ h]
section
variable {X : Cx}
def rSortDT : List V → Hp → VK → Prop := fun xs H Q => ∃ (a : Addr) (kvs : List (List L2.Key × V)) (ns : List (Int × Int)), xs = [.ref a] ∧ Rd H a (.dT kvs) ∧ kvs.map (·.1) = ns.map keyP ∧ kvs.length ≤ 1000000 ∧
  ∀ (N : List (Addr × List Int)) (p : Addr), (N.map (·.2)).Perm (ns.map fun p => [p.1, p.2]) → (N.map (·.2)).Nodup → N.Pairwise (fun p r => SrtO.lexB (kv r.2) (kv p.2) = false) → (∀ q, q ∈ N → H q.1 = some (.tup (q.2.map V.int))) → H p = none → Q (.ref p) (upd H p (.lst (N.map fun q => V.ref q.1)))
theorem cr_sortedDT (hc : X.calm = true) : CallR X (.builtin "sorted") rSortDT := by
  intro pins s σ H xs us Q I r h
  obtain ⟨a, kvs, ns, rfl, ha, hks, most, q⟩ := h
  rw [Vals.ref1 r]
  obtain ⟨z, hs, ks, pr, o, es, ep, ho, hx, hdt, he, hn⟩ := (show ObjOk X.prog X.w H s.heap a (.dT kvs) from ha.ok I.hok)
  have l1 : es.size = ks.length := size_of_entries he
  have l2 : kvs.length = ks.length := Paired.length pr
  obtain ⟨L, f1, f2, f3⟩ := rows_paired pr hks
  have l3 : L.length = ks.length := by
    have := congrArg List.length f1
    simpa using this.symm
  refine Calls.call_function_entry kind_sorted plain_sorted entry_sorted (args_sorted1 _) ?_
  unfold Builtin.«sorted»
  refine wpAny_bind (m := checkCount "sorted" 1 1 _) (wpAny_pure ?_)
  refine wpAny_bind (PySem.W.kdu_collect (A := X.A.in1) (L2.kdl_raw hs hx hdt) (I.ok.hd hc) ho (by rw [sizeLine_eq]; omega) fun h' tk acc hk hacc => ?_)
  have al : acc.toList.length = ks.length := by rw [Array.length_toList, hacc.1, l1]
  have ea : acc.toList = L.map fun q => Value.ref q.1 := by
    rw [← f1]
    refine List.ext_getElem (by rw [al, List.length_map]) fun j h1 h2 => ?_
    obtain ⟨en, e1, e2⟩ := hacc.2 j acc.toList[j] (by rw [← Array.getElem?_toList]; exact List.getElem?_eq_getElem h1)
    have e3 := entry_at he j
    rw [e1] at e3
    have hj : j < ks.length := by rw [← al]; exact h1
    rw [List.getElem?_eq_getElem hj] at e3
    have e4 : en = entryOfKey (tupleKind (mixKind X.prog X.w)) ks[j] := Option.some.inj e3
    rw [e2, e4, List.getElem_map]
    rfl
  rw [ea]
  have I1 : Inv X pins σ H { s with heap := h', toks := tk } := I.kept hk
  have one : ∀ q, q ∈ L → ∀ r, r ∈ L → q.1 = r.1 → q = r := fun q hq r hr e => by
    have a1 := f3 q hq
    have a2 := f3 r hr
    rw [e, a2] at a1
    have a3 : r.2.map V.int = q.2.map V.int := by
      injection a1 with a1
      injection a1
    refine Prod.ext e ?_
    have inj : ∀ {x y : List Int}, x.map V.int = y.map V.int → x = y := by
      intro x
      induction x with
      | nil => intro y h; cases y with | nil => rfl | cons b c => cases h
      | cons b c ih =>
        intro y h
        cases y with
        | nil => cases h
        | cons b' c' =>
          rw [List.map_cons, List.map_cons, List.cons.injEq] at h
          injection h.1 with h1
          rw [h1, ih h.2]
    exact (inj a3).symm
  have prs : ∀ q, q ∈ L → ∃ x y, q.2 = [x, y] := fun q hq => by
    have m : q.2 ∈ L.map (·.2) := List.mem_map.mpr ⟨q, hq, rfl⟩
    rw [f2] at m
    obtain ⟨r, _, e⟩ := List.mem_map.mp m
    exact ⟨_, _, e.symm⟩
  generalize hvs : L.map (fun q => Value.ref q.1) = vs at ea
  have lv : vs.length = L.length := by rw [← hvs, List.length_map]
  have lz : vs.length ≤ sizeLine := by rw [sizeLine_eq]; omega
  refine wpAny_bind (wpAny_newList ?_ lz)
  have hoL : (h'.push (seqObj "list" vs.toArray 0)).get? h'.objs.size = some (seqObj "list" vs.toArray 0) := Heap.get?_push_size _ rfl
  have pairs : ∀ v ∈ vs, Srt.IsPair (h'.push (seqObj "list" vs.toArray 0)) v (kv (rowAt L v).2).1 (kv (rowAt L v).2).2 := fun v hv => by
    rw [← hvs] at hv
    obtain ⟨q, hq, rfl⟩ := List.mem_map.mp hv
    rw [rowAt_of one hq]
    obtain ⟨x, y, exy⟩ := prs q hq
    obtain ⟨_, its, rv, u, b1, b2, n, b3⟩ := (show ObjOk X.prog X.w H h' q.1 (.tup (q.2.map V.int)) from I1.hok _ _ (f3 q hq))
    rw [exy] at rv ⊢
    have : ∃ t1 t2, its = [.int x t1, .int y t2] := by
      cases rv with
      | cons c1 d1 =>
        cases d1 with
        | cons c2 d2 =>
          cases d2
          obtain ⟨t1, rfl⟩ := c1
          obtain ⟨t2, rfl⟩ := c2
          exact ⟨t1, t2, rfl⟩
    obtain ⟨t1, t2, rfl⟩ := this
    exact ⟨q.1, u, t1, t2, n, rfl, Heap.get?_push_of_some (seqObj "list" vs.toArray 0) b1, b2, b3⟩
  refine wpAny_bind (wpAny_holding (wpAny_call_entry slot_list_sort ⟨_, hoL, rfl⟩ entry_list_sort (SrtO.list_sort_ord (s := { s with heap := h'.push (seqObj "list" vs.toArray 0), toks := tk }) (SrtO.swo_lex fun v => kv (rowAt L v).2) hoL lz (fun h2 => SrtO.pairs_sortableO (by omega) pairs fun o ho c => ?_) fun res r1 r2 => ⟨_, rfl, ?_⟩) (args_list_sort _)))
  · have e' : some o = some (seqObj "list" vs.toArray 0) := ho.symm.trans hoL
    cases e'
    exact absurd (Value.type.inj c) (by decide)
  · obtain ⟨c, hcc⟩ := sortedHeap_at (vs := vs) (out := res.toArray) hoL
    have back : ∀ v ∈ res, Value.ref (rowAt L v).1 = v := fun v hv => by
      have m := r2.perm.mem_iff.mp hv
      rw [← hvs] at m
      obtain ⟨q, hq, rfl⟩ := List.mem_map.mp m
      rw [rowAt_of one hq]
    have e3 : res = (res.map (rowAt L)).map fun r => Value.ref r.1 := by
      rw [List.map_map]
      exact ((List.map_congr_left (g := id) back).trans (List.map_id res)).symm
    have e4 : vs.map (rowAt L) = L := by
      rw [← hvs, List.map_map]
      exact (List.map_congr_left fun q hq => rowAt_of one hq).trans (List.map_id L)
    have pm : (res.map (rowAt L)).Perm L := by
      have := r2.perm.map (rowAt L)
      rw [e4] at this
      exact this
    have hlen : ((res.map (rowAt L)).map fun q => V.ref q.1).length ≤ sizeLine := by
      rw [List.length_map, sizeLine_eq, pm.length_eq]
      omega
    have hv : Vals ((res.map (rowAt L)).map fun q => V.ref q.1) res := by
      conv => rhs; rw [e3]
      exact vals_of_refs _
    refine wpAny_pure ⟨_, rfl, .ref h'.objs.size, upd H h'.objs.size (.lst ((res.map (rowAt L)).map fun q => V.ref q.1)), I1.laid (t' := tk) (fun b u e => ?_) (Nat.le_refl _) (show ObjOk X.prog X.w _ _ _ (.lst _) from ⟨hlen, res, c, hv, hcc⟩), rfl, ?_⟩
    · have hb : b < h'.objs.size := Heap.lt_size e
      rw [sortedHeap_old (Nat.ne_of_lt hb) (by rw [size_push']; exact Nat.lt_succ_of_lt hb)]
      exact Heap.get?_push_of_some _ e
    · have nd : (L.map (·.2)).Nodup := by
        have n1 : (ns.map keyP).Nodup := by
          rw [← hks, keys_paired (fun p q h => h.1) pr]
          exact hn
        rw [f2]
        refine List.pairwise_map.mpr ((List.pairwise_map.mp n1).imp fun {x y} h z => h ?_)
        injection z with z1 z2
        injection z2 with z2
        unfold keyP
        rw [z1, z2]
      refine q _ _ ?_ ((pm.map (·.2)).nodup_iff.mpr nd) (List.pairwise_map.mpr r1) (fun r hr => f3 r (pm.mem_iff.mp hr)) (I1.hok.fresh (Nat.le_refl _))
      rw [← f2]
      exact pm.map _
end
end Big
namespace Dv
open PySem L2
/-- the keys, if they are pairs -/
def pairK : List (List Int × D) → Option (List (Int × Int))
  | [] => some []
  | ([x, y], _) :: r => (pairK r).bind fun ps => some ((x, y) :: ps)
  | _ => none
section
variable {K : PySem.W.Frag} {B : Hp} {O : List Addr} {I : List (Nat × Addr)} {σ : L2.St} {H H' G : Hp} {env env' : Env} {v : V} {W : WN}
theorem DqK.keys : ∀ {ks : List (List L2.Key × V)} {kvs : List (List Int × D)} {ns : List (Int × Int)}, DqK K G ks kvs → pairK kvs = some ns → ks.map (·.1) = ns.map Big.keyP ∧ kvs.map (·.1) = ns.map fun p => [p.1, p.2]
  | [], [], _, _, e => by cases e; exact ⟨rfl, rfl⟩
  | [], _ :: _, _, h, _ => h.elim
  | _ :: _, [], _, h, _ => h.elim
  | p :: ks, (k, d) :: kvs, ns, h, e => by
    obtain ⟨h1, h2, h3⟩ := h
    unfold pairK at e
    split at e
    · contradiction
    · rename_i x y d' r hr
      cases hr
      obtain ⟨ps, e1, e2⟩ := bnd e
      cases e2
      obtain ⟨g1, g2⟩ := DqK.keys h3 e1
      exact ⟨by rw [List.map_cons, List.map_cons, g1, h1]; rfl, by rw [List.map_cons, List.map_cons, g2]⟩
    · cases e
/-- sorted(d) -/
def fDSort (i : Nat) : EF := fun env => (dctAt env i).bind fun kvs => (pairK kvs).bind fun ps => if kvs.length ≤ 1000000 then some (.new ((srtP ps).map pD), env) else none
theorem snd_dsort {i : Nat} : Snd K (tCB Big.rSortDT (tCons (tVar i) tNil)) (fDSort i) := by
  intro B O I σ H env rv env' S e Q q
  obtain ⟨kvs, e0, e⟩ := bnd e
  obtain ⟨ps, e1, e⟩ := bnd e
  split at e
  · rename_i hl
    cases e
    obtain ⟨p, ks, s1, pO, pB, hp, hd⟩ := S.dct (dctAt_of e0)
    obtain ⟨g1, g2⟩ := hd.keys e1
    refine ⟨_, s1, p, ks, ps, rfl, .inl hp, g1, by rw [hd.len]; exact hl, fun N b pm nd pw tp hb => ?_⟩
    have hbO : b ∉ O := not_dom S.dom hb
    refine q _ _ (post_new S hb ?_)
    have prN : ∀ r, r ∈ N → r.2 = [(Big.kv r.2).1, (Big.kv r.2).2] := fun r hr => by
      have m : r.2 ∈ N.map (·.2) := List.mem_map.mpr ⟨r, hr, rfl⟩
      obtain ⟨x, _, ex⟩ := List.mem_map.mp (pm.mem_iff.mp m)
      rw [← ex]
      rfl
    refine dqa_rows (fun r hr => .inl (.inl (mi_of (fun z => S.nt _ _ z (tp r hr)) (tp r hr)))) ?_
    have f4 : N.map (fun p => Big.kv p.2) = srtP ps := by
      refine str_uniq ?_ (str_srtP ps) fun x => ?_
      · refine List.pairwise_map.mpr ?_
        have nd2 : N.Pairwise fun p r => p.2 ≠ r.2 := List.pairwise_map.mp nd
        refine List.Pairwise.imp_of_mem (fun {p r} hp hr h => ?_) (nd2.and pw)
        have := SrtO.lexB_no.mp h.2
        have ne : Big.kv p.2 ≠ Big.kv r.2 := fun z => h.1 (by rw [prN p hp, prN r hr, z])
        refine Classical.byContradiction fun y => this ?_
        exact ltP2_tri ne y
      · rw [mem_srtP, List.mem_map]
        constructor
        · rintro ⟨p, hp, rfl⟩
          have m : p.2 ∈ N.map (·.2) := List.mem_map.mpr ⟨p, hp, rfl⟩
          obtain ⟨r, hr, e⟩ := List.mem_map.mp (pm.mem_iff.mp m)
          rw [← e]
          exact hr
        · intro hx
          have m : [x.1, x.2] ∈ ps.map fun p => [p.1, p.2] := List.mem_map.mpr ⟨x, hx, rfl⟩
          obtain ⟨r, hr, e⟩ := List.mem_map.mp (pm.mem_iff.mpr m)
          exact ⟨r, hr, by rw [e]; rfl⟩
    rw [← f4, List.map_map]
    exact List.map_congr_left prN
  · cases e
end
abbrev NF := Env → Option (List (List D) × Env)
def fNilN : NF := fun env => some ([], env)
def fConsN (fa : EF) (fr : NF) : NF := fun env => (fa env).bind fun a => match a.1 with
  | .new ds => (fr a.2).bind fun r => some (ds :: r.1, r.2)
  | _ => none
section
variable {K : PySem.W.Frag} {B : Hp} {O : List Addr} {I : List (Nat × Addr)} {σ : L2.St} {H H' : Hp} {env env' : Env} {v : V} {t ta tb te : TE} {f fa fb fe : EF} {W : WN}
theorem LsOk.dom {G : Hp} : ∀ {qs : List Addr} {dss : List (List D)}, LsOk K G H qs dss → ∀ q, q ∈ qs → ∃ xs, H q = some (.lst xs)
  | [], [], _, q, hq => by cases hq
  | [], _ :: _, h, _, _ => h.elim
  | _ :: _, [], h, _, _ => h.elim
  | a :: qs, ds :: dss, h, q, hq => by
    obtain ⟨⟨xs, h1, _⟩, h2⟩ := h
    rcases List.mem_cons.mp hq with z | z
    · rw [z]
      exact ⟨xs, h1⟩
    · exact LsOk.dom h2 q z
theorem LsOk.get {G : Hp} : ∀ {qs : List Addr} {dss : List (List D)} {k : Nat} {ds : List D}, LsOk K G H qs dss → dss[k]? = some ds → ∃ q xs, qs[k]? = some q ∧ H q = some (.lst xs) ∧ DqA K G xs ds
  | [], [], _, _, _, e => by simp at e
  | [], _ :: _, _, _, h, _ => h.elim
  | _ :: _, [], _, _, h, _ => h.elim
  | a :: qs, d :: dss, k, ds, h, e => by
    obtain ⟨⟨xs, h1, h2⟩, h3⟩ := h
    cases k with
    | zero =>
      simp at e
      subst e
      exact ⟨a, xs, rfl, h1, h2⟩
    | succ k =>
      obtain ⟨q, ys, g1, g2, g3⟩ := LsOk.get h3 (k := k) (by simpa using e)
      exact ⟨q, ys, by simpa using g1, g2, g3⟩
theorem LsOk.set {G : Hp} {q : Addr} {ys : List V} {es : List D} (hy : DqA K G ys es) : ∀ {qs : List Addr} {dss : List (List D)} {k : Nat}, LsOk K G H qs dss → qs[k]? = some q → qs.Nodup → LsOk K G (upd H q (.lst ys)) qs (dss.set k es)
  | [], [], _, _, e, _ => by simp at e
  | [], _ :: _, _, h, _, _ => h.elim
  | _ :: _, [], _, h, _, _ => h.elim
  | a :: qs, d :: dss, k, h, e, nd => by
    obtain ⟨⟨xs, h1, h2⟩, h3⟩ := h
    obtain ⟨n1, n2⟩ := List.nodup_cons.mp nd
    cases k with
    | zero =>
      simp at e
      subst e
      exact ⟨⟨ys, upd_same, hy⟩, LsOk.mono (Same.refl _) (fun b hb => upd_ne (fun z => n1 (z ▸ hb))) h3⟩
    | succ k =>
      have e' : qs[k]? = some q := by simpa using e
      have ne : a ≠ q := fun z => n1 (z ▸ List.mem_of_getElem? e')
      exact ⟨⟨xs, by rw [upd_ne ne]; exact h1, h2⟩, LsOk.set hy h3 e' n2⟩
def fLs2 (i : Nat) (fn : NF) : SFn := fun env => (fn env).bind fun a => if a.1.length ≤ 1000 then (putS i (.nw (.ls2 a.1)) a.2).bind fun e => some (.nx e) else none
theorem LsOk.len {G : Hp} : ∀ {qs : List Addr} {dss : List (List D)}, LsOk K G H qs dss → qs.length = dss.length
  | [], [], _ => rfl
  | [], _ :: _, h => h.elim
  | _ :: _, [], h => h.elim
  | _ :: _, _ :: _, h => by rw [List.length_cons, List.length_cons, LsOk.len h.2]
def fO2M0 (i k : Nat) (h : List D → Option (List D)) : EF := fun env => match env[i]? with
  | some (.nw (.ls2 dss)) => (dss[k]?).bind fun ds => (h ds).bind fun es => some (.val .non, env.set i (.nw (.ls2 (dss.set k es))))
  | _ => none
theorem atI_n {α : Type} {xs : List α} {k : Nat} {x : α} (h : xs[k]? = some x) : L2.atI xs (k : Int) = some x := by
  have hk := (List.getElem?_eq_some_iff.mp h).1
  unfold L2.atI L2.ixN
  rw [if_pos (by omega), if_pos (by omega)]
  simpa using h
def notNw : SV → Bool
  | .nw _ => false
  | _ => true
def fLend2 (i : Nat) (f : EF) : EF := fun env => match env[i]? with
  | some (.nw (.ls2 dss)) => if (env.set i .no).all notNw then (f (env.set i (.fz (.lst (dss.map D.lst))))).bind fun a => if a.2.all ownNoL && noR a.1 then some (a.1, (List.zipWith mergeS env a.2).set i (.nw (.ls2 dss))) else none else none
  | _ => none
end
end Dv
namespace Dv
open PySem L2
def Ok {α : Type} (x : Option α) (P : α → Prop) : Prop := ∃ a, x = some a ∧ P a
section
variable {α β : Type} {x y : Option α} {P Q : α → Prop}
theorem ok_some {a : α} : Ok (some a) P ↔ P a := ⟨fun ⟨_, e, h⟩ => by cases e; exact h, fun h => ⟨a, rfl, h⟩⟩
theorem ok_none : Ok (none : Option α) P ↔ False := ⟨(fun ⟨_, e, _⟩ => nomatch e), False.elim⟩
theorem ok_bind {z : Option β} {k : β → Option α} : Ok (z.bind k) P ↔ Ok z (fun b => Ok (k b) P) := by
  constructor
  · rintro ⟨a, e, h⟩
    obtain ⟨b, e1, e2⟩ := bnd e
    exact ⟨b, e1, a, e2, h⟩
  · rintro ⟨b, e1, a, e2, h⟩
    exact ⟨a, by rw [e1]; exact e2, h⟩
theorem ok_guard {c : Prop} [Decidable c] : Ok (if c then x else none) P ↔ c ∧ Ok x P := by
  by_cases h : c
  · rw [if_pos h]
    exact ⟨fun z => ⟨h, z⟩, fun z => z.2⟩
  · rw [if_neg h]
    exact ⟨fun z => (ok_none.mp z).elim, fun z => absurd z.1 h⟩
theorem ok_ite {c : Prop} [Decidable c] : Ok (if c then x else y) P ↔ (c → Ok x P) ∧ (¬ c → Ok y P) := by
  by_cases h : c
  · rw [if_pos h]
    exact ⟨fun z => ⟨fun _ => z, fun n => absurd h n⟩, fun z => z.1 h⟩
  · rw [if_neg h]
    exact ⟨fun z => ⟨fun n => absurd n h, fun _ => z⟩, fun z => z.2 h⟩
theorem ok_bind_iff {z : Option β} {k : β → Option α} {K : β → Prop} (h : ∀ b, Ok (k b) P ↔ K b) : Ok (z.bind k) P ↔ Ok z K := by
  rw [ok_bind]
  exact ⟨fun ⟨b, e, p⟩ => ⟨b, e, (h b).mp p⟩, fun ⟨b, e, p⟩ => ⟨b, e, (h b).mpr p⟩⟩
theorem ok_mono (h : Ok x P) (k : ∀ a, P a → Q a) : Ok x Q := by
  obtain ⟨a, e, p⟩ := h
  exact ⟨a, e, k a p⟩
theorem ok_eq {a : α} (e : x = some a) (h : P a) : Ok x P := ⟨a, e, h⟩
end
def freeP : SV → Bool
  | .io _ => false
  | _ => true
theorem free_no : freeP .no = true := rfl
theorem free_fz {d : D} : freeP (.fz d) = true := rfl
theorem free_o1 {ds : List D} : freeP (.o1 ds) = true := rfl
theorem putS_0 {s : SV} {x : SV} {env : Env} : putS 0 s (x :: env) = if freeP x = true then some (s :: env) else none := by
  cases x <;> rfl
theorem putS_s {s : SV} {x : SV} {env : Env} {i : Nat} : putS (i + 1) s (x :: env) = (putS i s env).bind fun e => some (x :: e) := by
  have h1 : isIo (x :: env) (i + 1) = isIo env i := by
    unfold isIo
    rw [List.getElem?_cons_succ]
  unfold putS
  rw [h1, List.length_cons, List.set_cons_succ]
  by_cases h : isIo env i = true ∨ env.length ≤ i
  · rw [if_pos h, if_pos (h.imp id Nat.succ_le_succ)]
    rfl
  · rw [if_neg h, if_neg (fun z => h (z.imp id Nat.le_of_succ_le_succ))]
    rfl
theorem upO_0 {h : List D → Option (List D)} {x : SV} {env : Env} : upO 0 h (x :: env) = (match x with | .o1 ds => (h ds).bind fun es => some (.o1 es :: env) | .io ds => (h ds).bind fun es => some (.io es :: env) | _ => none) := by
  cases x <;> rfl
theorem upO_s {h : List D → Option (List D)} {x : SV} {env : Env} {i : Nat} : upO (i + 1) h (x :: env) = (upO i h env).bind fun e => some (x :: e) := by
  unfold upO
  rw [List.getElem?_cons_succ]
  cases e : env[i]? with
  | none => rfl
  | some s =>
    cases s with
    | o1 ds => cases e2 : h ds <;> simp [e2]
    | io ds => cases e2 : h ds <;> simp [e2]
    | fz d => rfl
    | nw w => rfl
    | no => rfl
theorem isOwn_0 {x : SV} {env : Env} : isOwn (x :: env) 0 = (match x with | .o1 _ => true | .io _ => true | _ => false) := by
  cases x <;> rfl
theorem isOwn_s {x : SV} {env : Env} {i : Nat} : isOwn (x :: env) (i + 1) = isOwn env i := by
  unfold isOwn
  rw [List.getElem?_cons_succ]
theorem atI_0 {α : Type} {x : α} {xs : List α} : L2.atI (x :: xs) 0 = some x := by
  unfold L2.atI L2.ixN
  simp
theorem atI_natC {α : Type} {xs : List α} {i : Nat} : L2.atI xs (i : Int) = xs[i]? := by
  unfold L2.atI L2.ixN
  by_cases h : i < xs.length
  · rw [if_pos (by omega), if_pos (by omega)]
    simp
  · rw [if_pos (by omega), if_neg (by omega), List.getElem?_eq_none (by omega)]
    rfl
section
variable {env e : Env} {P : RV × Env → Prop} {PT : Bool × Env → Prop} {PA : List RV × Env → Prop} {PO : Out → Prop} {PI : List D × Env → Prop} {PP : Option Int × Env → Prop} {f fa fb : EF} {g h : SFn} {ft gt : TF} {r : RV} {rs : List RV} {fr : AF}
theorem w_var {i : Nat} : Ok (fVar i env) P ↔ (match env[i]? with | some (.fz d) => P (.val d, env) | some (.o1 _) => P (.slot i, env) | some (.io _) => P (.slot i, env) | _ => False) := by
  unfold fVar
  split <;> simp_all [ok_some, ok_none]
theorem w_c {d : D} : Ok (fC d env) P ↔ P (.val d, env) := ok_some
/-- a result in a state -/
def KZ (e : Env) (P : RV × Env → Prop) : RV → Prop := fun z => P (z, e)
theorem k_z {z : RV} : KZ e P z ↔ P (z, e) := Iff.rfl
/-- two things at hand -/
def D2 (g : G2) (x y : Option D) (e : Env) (P : RV × Env → Prop) : Prop := match x, y with
  | some x, some y => Ok (g x y) (KZ e P)
  | _, _ => False
def K2b (g : G2) (r : RV) (P : RV × Env → Prop) : RV × Env → Prop := fun b => D2 g (deref b.2 (frz r)) (deref b.2 b.1) b.2 P
def K2 (g : G2) (fb : EF) (P : RV × Env → Prop) : RV × Env → Prop := fun a => Ok (fb a.2) (K2b g a.1 P)
theorem d_2 {g : G2} {x y : D} : D2 g (some x) (some y) e P ↔ Ok (g x y) (KZ e P) := Iff.rfl
theorem k_2b {g : G2} {r' : RV} : K2b g r P (r', e) ↔ D2 g (deref e (frz r)) (deref e r') e P := Iff.rfl
theorem k_2 {g : G2} : K2 g fb P (r, e) ↔ Ok (fb e) (K2b g r P) := Iff.rfl
theorem w_2 {g : G2} : Ok (f2 g fa fb env) P ↔ Ok (fa env) (K2 g fb P) := by
  unfold f2
  rw [ok_bind]
  constructor <;> intro z <;> refine ok_mono z fun a z => ?_
  · rw [ok_bind] at z
    refine ok_mono z fun b z => ?_
    obtain ⟨q, e, p⟩ := z
    obtain ⟨x, e1, e⟩ := bnd e
    obtain ⟨y, e2, e⟩ := bnd e
    obtain ⟨w, e3, e⟩ := bnd e
    cases e
    show D2 g _ _ _ P
    rw [e1, e2]
    exact ⟨w, e3, p⟩
  · rw [ok_bind]
    refine ok_mono z fun b z => ?_
    have z' : D2 g (deref b.2 (frz a.1)) (deref b.2 b.1) b.2 P := z
    unfold D2 at z'
    split at z'
    · rename_i x y h1 h2
      obtain ⟨w, e3, p⟩ := z'
      exact ⟨(w, b.2), by rw [h1, h2]; simp [e3], p⟩
    · exact z'.elim
def D1 (g : G1) (x : Option D) (e : Env) (P : RV × Env → Prop) : Prop := match x with
  | some x => Ok (g x) (KZ e P)
  | _ => False
def K1 (g : G1) (P : RV × Env → Prop) : RV × Env → Prop := fun a => D1 g (deref a.2 a.1) a.2 P
theorem d_1 {g : G1} {x : D} : D1 g (some x) e P ↔ Ok (g x) (KZ e P) := Iff.rfl
theorem k_1 {g : G1} : K1 g P (r, e) ↔ D1 g (deref e r) e P := Iff.rfl
theorem w_1 {g : G1} : Ok (f1 g fa env) P ↔ Ok (fa env) (K1 g P) := by
  unfold f1
  rw [ok_bind]
  constructor <;> intro z <;> refine ok_mono z fun a z => ?_
  · obtain ⟨q, e, p⟩ := z
    obtain ⟨x, e1, e⟩ := bnd e
    obtain ⟨w, e3, e⟩ := bnd e
    cases e
    show D1 g _ _ P
    rw [e1]
    exact ⟨w, e3, p⟩
  · have z' : D1 g (deref a.2 a.1) a.2 P := z
    unfold D1 at z'
    split at z'
    · rename_i x h1
      obtain ⟨w, e3, p⟩ := z'
      exact ⟨(w, a.2), by rw [h1]; simp [e3], p⟩
    · exact z'.elim
theorem w_nil : Ok (fNil env) PA ↔ PA ([], env) := ok_some
def KCb (r : RV) (PA : List RV × Env → Prop) : List RV × Env → Prop := fun b => PA (frz r :: b.1, b.2)
def KC (fr : AF) (PA : List RV × Env → Prop) : RV × Env → Prop := fun a => Ok (fr a.2) (KCb a.1 PA)
theorem k_cb : KCb r PA (rs, e) ↔ PA (frz r :: rs, e) := Iff.rfl
theorem k_c : KC fr PA (r, e) ↔ Ok (fr e) (KCb r PA) := Iff.rfl
theorem w_cons : Ok (fCons fa fr env) PA ↔ Ok (fa env) (KC fr PA) := by
  show Ok ((fa env).bind fun a => (fr a.2).bind fun b => some (frz a.1 :: b.1, b.2)) PA ↔ _
  simp only [ok_bind, ok_some]
  exact Iff.rfl
def DB (g : GB) (x : Option (List D)) (e : Env) (P : RV × Env → Prop) : Prop := match x with
  | some x => Ok (g x) (KZ e P)
  | _ => False
def KB (g : GB) (P : RV × Env → Prop) : List RV × Env → Prop := fun a => DB g (derefs a.2 a.1) a.2 P
theorem d_b {g : GB} {x : List D} : DB g (some x) e P ↔ Ok (g x) (KZ e P) := Iff.rfl
theorem k_b {g : GB} : KB g P (rs, e) ↔ DB g (derefs e rs) e P := Iff.rfl
theorem w_b {g : GB} : Ok (fB g fr env) P ↔ Ok (fr env) (KB g P) := by
  unfold fB
  rw [ok_bind]
  constructor <;> intro z <;> refine ok_mono z fun a z => ?_
  · obtain ⟨q, e, p⟩ := z
    obtain ⟨x, e1, e⟩ := bnd e
    obtain ⟨w, e3, e⟩ := bnd e
    cases e
    show DB g _ _ P
    rw [e1]
    exact ⟨w, e3, p⟩
  · have z' : DB g (derefs a.2 a.1) a.2 P := z
    unfold DB at z'
    split at z'
    · rename_i x h1
      obtain ⟨w, e3, p⟩ := z'
      exact ⟨(w, a.2), by rw [h1]; simp [e3], p⟩
    · exact z'.elim
def DV (x : Option (List D)) (Q : List D → Prop) : Prop := match x with
  | some x => Q x
  | _ => False
theorem d_v {x : List D} {Q : List D → Prop} : DV (some x) Q ↔ Q x := Iff.rfl
theorem dv_ok {x : Option (List D)} {Q : List D → Prop} : DV x Q ↔ Ok x Q := by
  cases x with
  | none => exact ok_none.symm
  | some y => exact (ok_some (P := Q)).symm
def QTup (e : Env) (P : RV × Env → Prop) : List D → Prop := fun ds => ds.length ≤ 10000000 ∧ P (.val (.tup ds), e)
def QLst (e : Env) (P : RV × Env → Prop) : List D → Prop := fun ds => ds.length ≤ 10000000 ∧ P (.new ds, e)
def KTup (P : RV × Env → Prop) : List RV × Env → Prop := fun a => DV (allVal a.1) (QTup a.2 P)
def KLst (P : RV × Env → Prop) : List RV × Env → Prop := fun a => DV (allVal a.1) (QLst a.2 P)
theorem q_tup {ds : List D} : QTup e P ds ↔ ds.length ≤ 10000000 ∧ P (.val (.tup ds), e) := Iff.rfl
theorem q_lst {ds : List D} : QLst e P ds ↔ ds.length ≤ 10000000 ∧ P (.new ds, e) := Iff.rfl
theorem k_tup : KTup P (rs, e) ↔ DV (allVal rs) (QTup e P) := Iff.rfl
theorem k_lst : KLst P (rs, e) ↔ DV (allVal rs) (QLst e P) := Iff.rfl
theorem w_tup : Ok (fTup fr env) P ↔ Ok (fr env) (KTup P) := by
  unfold fTup
  rw [ok_bind]
  simp only [ok_bind, ok_some, ok_guard]
  constructor <;> intro z <;> refine ok_mono z fun a z => ?_
  · exact dv_ok.mpr z
  · exact dv_ok.mp z
theorem w_lst : Ok (fLst fr env) P ↔ Ok (fr env) (KLst P) := by
  unfold fLst
  rw [ok_bind]
  simp only [ok_bind, ok_some, ok_guard]
  constructor <;> intro z <;> refine ok_mono z fun a z => ?_
  · exact dv_ok.mpr z
  · exact dv_ok.mp z
/-- tests -/
def KT (PT : Bool × Env → Prop) : RV × Env → Prop := fun a => match a.1 with
  | .val (.bl b) => PT (b, a.2)
  | _ => False
theorem k_t {b : Bool} : KT PT (.val (.bl b), e) ↔ PT (b, e) := Iff.rfl
theorem w_T : Ok (fT f env) PT ↔ Ok (f env) (KT PT) := by
  refine ok_bind_iff fun ⟨r, e⟩ => ?_
  cases r with
  | ex n => first | exact ok_none (P := PO) | exact ok_none (P := PT) | exact ok_none (P := PP) | exact ok_none (P := PI) | exact ok_none (P := PF) | exact ok_none (P := P) | exact ok_none | (cases r' <;> exact ok_none (P := PO))
  | val d => cases d <;> first | exact ok_some (P := PT) | exact ok_none (P := PT)
  | slot i => exact ok_none (P := PT)
  | new ds => exact ok_none (P := PT)
  | tw ds => first | (exact ok_none (P := PT)) | exact ok_none (P := PO) | exact ok_none (P := PT) | exact ok_none (P := PP) | exact ok_none (P := PI) | exact ok_none (P := PF) | exact ok_none (P := P) | exact ok_none
def KAnd (gt : TF) (PT : Bool × Env → Prop) : Bool × Env → Prop := fun x => (x.1 = true → Ok (gt x.2) PT) ∧ (x.1 = false → PT (false, x.2))
def KOr (gt : TF) (PT : Bool × Env → Prop) : Bool × Env → Prop := fun x => (x.1 = true → PT (true, x.2)) ∧ (x.1 = false → Ok (gt x.2) PT)
def KNot (PT : Bool × Env → Prop) : Bool × Env → Prop := fun x => PT (!x.1, x.2)
theorem k_and {b : Bool} : KAnd gt PT (b, e) ↔ (b = true → Ok (gt e) PT) ∧ (b = false → PT (false, e)) := Iff.rfl
theorem k_or {b : Bool} : KOr gt PT (b, e) ↔ (b = true → PT (true, e)) ∧ (b = false → Ok (gt e) PT) := Iff.rfl
theorem k_not {b : Bool} : KNot PT (b, e) ↔ PT (!b, e) := Iff.rfl
theorem w_and : Ok (fAnd ft gt env) PT ↔ Ok (ft env) (KAnd gt PT) := by
  unfold fAnd
  simp only [ok_bind, ok_ite, ok_some, Bool.not_eq_true]
  exact Iff.rfl
theorem w_or : Ok (fOr ft gt env) PT ↔ Ok (ft env) (KOr gt PT) := by
  unfold fOr
  simp only [ok_bind, ok_ite, ok_some, Bool.not_eq_true]
  exact Iff.rfl
theorem w_not : Ok (fNot ft env) PT ↔ Ok (ft env) (KNot PT) := by
  unfold fNot
  simp only [ok_bind, ok_some]
  exact Iff.rfl
theorem w_yes : Ok (fYes env) PT ↔ PT (true, env) := ok_some
def KAndV (fb : EF) (P : RV × Env → Prop) : Bool × Env → Prop := fun x => (x.1 = true → Ok (fb x.2) P) ∧ (x.1 = false → P (.val (.bl false), x.2))
def KOrV (fb : EF) (P : RV × Env → Prop) : Bool × Env → Prop := fun x => (x.1 = true → P (.val (.bl true), x.2)) ∧ (x.1 = false → Ok (fb x.2) P)
def KNotV (P : RV × Env → Prop) : Bool × Env → Prop := fun x => P (.val (.bl (!x.1)), x.2)
def KIfE (fa fb : EF) (P : RV × Env → Prop) : Bool × Env → Prop := fun x => (x.1 = true → Ok (fa x.2) P) ∧ (x.1 = false → Ok (fb x.2) P)
theorem k_andV {b : Bool} : KAndV fb P (b, e) ↔ (b = true → Ok (fb e) P) ∧ (b = false → P (.val (.bl false), e)) := Iff.rfl
theorem k_orV {b : Bool} : KOrV fb P (b, e) ↔ (b = true → P (.val (.bl true), e)) ∧ (b = false → Ok (fb e) P) := Iff.rfl
theorem k_notV {b : Bool} : KNotV P (b, e) ↔ P (.val (.bl (!b)), e) := Iff.rfl
theorem k_ifE {b : Bool} : KIfE fa fb P (b, e) ↔ (b = true → Ok (fa e) P) ∧ (b = false → Ok (fb e) P) := Iff.rfl
theorem w_andV : Ok (fAndV fa fb env) P ↔ Ok (fT fa env) (KAndV fb P) := by
  unfold fAndV
  simp only [ok_bind, ok_ite, ok_some, Bool.not_eq_true]
  exact Iff.rfl
theorem w_orV : Ok (fOrV fa fb env) P ↔ Ok (fT fa env) (KOrV fb P) := by
  unfold fOrV
  simp only [ok_bind, ok_ite, ok_some, Bool.not_eq_true]
  exact Iff.rfl
theorem w_notV : Ok (fNotV fa env) P ↔ Ok (fT fa env) (KNotV P) := by
  unfold fNotV
  simp only [ok_bind, ok_some]
  exact Iff.rfl
theorem w_ifE : Ok (fIfE ft fa fb env) P ↔ Ok (ft env) (KIfE fa fb P) := by
  unfold fIfE
  simp only [ok_bind, ok_ite, ok_some, Bool.not_eq_true]
  exact Iff.rfl
/-- statements -/
def KNx (PO : Out → Prop) : Env → Prop := fun e => PO (.nx e)
theorem k_nxt : KNx PO e ↔ PO (.nx e) := Iff.rfl
def KAsg (k : GF) (PO : Out → Prop) : RV × Env → Prop := fun a => match frz a.1 with
  | .val d => Ok (k d a.2) (KNx PO)
  | _ => False
theorem k_asg {k : GF} {d : D} : KAsg k PO (.val d, e) ↔ Ok (k d e) (KNx PO) := Iff.rfl
theorem k_asgN {k : GF} {ds : List D} : KAsg k PO (.new ds, e) ↔ Ok (k (.lst ds) e) (KNx PO) := Iff.rfl
theorem w_asg {k : GF} : Ok (fAsg f k env) PO ↔ Ok (f env) (KAsg k PO) := by
  refine ok_bind_iff fun ⟨r, e⟩ => ?_
  cases r with
  | ex n => first | exact ok_none (P := PO) | exact ok_none (P := PT) | exact ok_none (P := PP) | exact ok_none (P := PI) | exact ok_none (P := PF) | exact ok_none (P := P) | exact ok_none | (cases r' <;> exact ok_none (P := PO))
  | val d => exact ok_bind_iff (P := PO) fun e => ok_some (P := PO)
  | slot i => exact ok_none (P := PO)
  | new ds => exact ok_bind_iff (P := PO) fun e => ok_some (P := PO)
  | tw ds => first | (exact ok_bind_iff (P := PO) fun e => ok_some (P := PO)) | exact ok_none (P := PO) | exact ok_none (P := PT) | exact ok_none (P := PP) | exact ok_none (P := PI) | exact ok_none (P := PF) | exact ok_none (P := P) | exact ok_none
theorem w_name {i : Nat} {d : D} {Q : Env → Prop} : Ok (gfName i d env) Q ↔ Ok (putS i (.fz d) env) Q := Iff.rfl
def KOwn (i : Nat) (PO : Out → Prop) : RV × Env → Prop := fun a => match a.1 with
  | .new ds => Ok (putS i (.o1 ds) a.2) (KNx PO)
  | _ => False
theorem k_own {i : Nat} {ds : List D} : KOwn i PO (.new ds, e) ↔ Ok (putS i (.o1 ds) e) (KNx PO) := Iff.rfl
theorem w_own {i : Nat} : Ok (fOwn i f env) PO ↔ Ok (f env) (KOwn i PO) := by
  refine ok_bind_iff fun ⟨r, e⟩ => ?_
  cases r with
  | ex n => first | exact ok_none (P := PO) | exact ok_none (P := PT) | exact ok_none (P := PP) | exact ok_none (P := PI) | exact ok_none (P := PF) | exact ok_none (P := P) | exact ok_none | (cases r' <;> exact ok_none (P := PO))
  | val d => exact ok_none (P := PO)
  | slot i => exact ok_none (P := PO)
  | new ds => exact ok_bind_iff (P := PO) fun e => ok_some (P := PO)
  | tw ds => first | (exact ok_bind_iff (P := PO) fun e => ok_some (P := PO)) | exact ok_none (P := PO) | exact ok_none (P := PT) | exact ok_none (P := PP) | exact ok_none (P := PI) | exact ok_none (P := PF) | exact ok_none (P := P) | exact ok_none
def KPut (i : Nat) (d : D) (PO : Out → Prop) : Env → Prop := fun e => Ok (putS i (.fz d) e) (KNx PO)
theorem k_put {i : Nat} {d : D} : KPut i d PO e ↔ Ok (putS i (.fz d) e) (KNx PO) := Iff.rfl
def QPar (i j : Nat) (e : Env) (PO : Out → Prop) : List D → Prop := fun ds => match ds with
  | [d, d'] => Ok (putS i (.fz d) e) (KPut j d' PO)
  | _ => False
theorem q_par {i j : Nat} {d d' : D} : QPar i j e PO [d, d'] ↔ Ok (putS i (.fz d) e) (KPut j d' PO) := Iff.rfl
def KPar (i j : Nat) (PO : Out → Prop) : List RV × Env → Prop := fun a => DV (allVal a.1) (QPar i j a.2 PO)
theorem k_par {i j : Nat} : KPar i j PO (rs, e) ↔ DV (allVal rs) (QPar i j e PO) := Iff.rfl
theorem w_par {i j : Nat} : Ok (fPar i j fr env) PO ↔ Ok (fr env) (KPar i j PO) := by
  refine ok_bind_iff fun ⟨rs, e⟩ => ?_
  refine Iff.trans (ok_bind_iff (K := QPar i j e PO) fun ds => ?_) dv_ok.symm
  match ds with
  | [] => exact ok_none (P := PO)
  | [_] => exact ok_none (P := PO)
  | [_, _] => exact ok_bind_iff (P := PO) fun e => ok_bind_iff (P := PO) fun e => ok_some (P := PO)
  | _ :: _ :: _ :: _ => exact ok_none (P := PO)
def KDrop (PO : Out → Prop) : RV × Env → Prop := fun a => PO (.nx a.2)
def KRet (PO : Out → Prop) : RV × Env → Prop := fun a => PO (.rt a.1 a.2)
theorem k_drop : KDrop PO (r, e) ↔ PO (.nx e) := Iff.rfl
theorem k_ret : KRet PO (r, e) ↔ PO (.rt r e) := Iff.rfl
theorem w_drop : Ok (fDrop f env) PO ↔ Ok (f env) (KDrop PO) := by
  unfold fDrop
  simp only [ok_bind, ok_some]
  exact Iff.rfl
theorem w_ret : Ok (fRet f env) PO ↔ Ok (f env) (KRet PO) := by
  unfold fRet
  simp only [ok_bind, ok_some]
  exact Iff.rfl
theorem w_next : Ok (fNext env) PO ↔ PO (.nx env) := ok_some
/-- what follows a statement -/
def SeqK (h : SFn) (P : Out → Prop) : Out → Prop
  | .nx e => Ok (h e) P
  | .rt r e => P (.rt r e)
  | .bk e => P (.bk e)
  | .ct e => P (.ct e)
theorem w_seq : Ok (fSeq g h env) PO ↔ Ok (g env) (SeqK h PO) := by
  unfold fSeq
  rw [ok_bind]
  constructor <;> intro z <;> refine ok_mono z fun o z => ?_
  · cases o <;> first | exact z | exact (ok_some (P := PO)).mp z
  · cases o <;> first | exact z | exact (ok_some (P := PO)).mpr z
theorem k_nx : SeqK h PO (.nx e) ↔ Ok (h e) PO := Iff.rfl
theorem k_rt : SeqK h PO (.rt r e) ↔ PO (.rt r e) := Iff.rfl
theorem k_bk : SeqK h PO (.bk e) ↔ PO (.bk e) := Iff.rfl
theorem k_ct : SeqK h PO (.ct e) ↔ PO (.ct e) := Iff.rfl
def KIf (g h : SFn) (PO : Out → Prop) : Bool × Env → Prop := fun b => (b.1 = true → Ok (g b.2) PO) ∧ (b.1 = false → Ok (h b.2) PO)
theorem k_if {b : Bool} : KIf g h PO (b, e) ↔ (b = true → Ok (g e) PO) ∧ (b = false → Ok (h e) PO) := Iff.rfl
theorem w_if : Ok (fIf ft g h env) PO ↔ Ok (ft env) (KIf g h PO) := by
  unfold fIf
  simp only [ok_bind, ok_ite, Bool.not_eq_true]
  exact Iff.rfl
/-- xs[k] = d -/
def setF (k : Int) (d : D) : List D → Option (List D) := fun ds => (ixN ds.length k).bind fun j => some (ds.set j d)
def KSetB (i : Nat) (r : RV) (PO : Out → Prop) : RV × Env → Prop := fun b => match frz r, b.1 with
  | .val d, .val (.int k) => Ok (upO i (setF k d) b.2) (KNx PO)
  | _, _ => False
def KSet (i : Nat) (fk : EF) (PO : Out → Prop) : RV × Env → Prop := fun a => isOwn a.2 i = true ∧ Ok (fk a.2) (KSetB i a.1 PO)
theorem k_setB {i : Nat} {d : D} {k : Int} : KSetB i (.val d) PO (.val (.int k), e) ↔ Ok (upO i (setF k d) e) (KNx PO) := Iff.rfl
theorem k_set {i : Nat} {fk : EF} : KSet i fk PO (r, e) ↔ isOwn e i = true ∧ Ok (fk e) (KSetB i r PO) := Iff.rfl
theorem w_setI {i : Nat} {fk fe : EF} : Ok (fSetI i fk fe env) PO ↔ Ok (fe env) (KSet i fk PO) := by
  refine ok_bind_iff fun ⟨r, e⟩ => ?_
  rw [ok_guard]
  refine and_congr_right fun _ => ok_bind_iff fun ⟨r', e'⟩ => ?_
  cases r with
  | ex n => first | exact ok_none (P := PO) | exact ok_none (P := PT) | exact ok_none (P := PP) | exact ok_none (P := PI) | exact ok_none (P := PF) | exact ok_none (P := P) | exact ok_none | (cases r' <;> exact ok_none (P := PO))
  | val d =>
    cases r' with
    | ex n => first | exact ok_none (P := PO) | exact ok_none (P := PT) | exact ok_none (P := PP) | exact ok_none (P := PI) | exact ok_none (P := PF) | exact ok_none (P := P) | exact ok_none | (cases r' <;> exact ok_none (P := PO))
    | val k => cases k <;> first | exact ok_bind_iff (P := PO) fun e => ok_some (P := PO) | exact ok_none (P := PO)
    | slot i => exact ok_none (P := PO)
    | new ds => exact ok_none (P := PO)
    | tw ds => first | (exact ok_none (P := PO)) | exact ok_none (P := PO) | exact ok_none (P := PT) | exact ok_none (P := PP) | exact ok_none (P := PI) | exact ok_none (P := PF) | exact ok_none (P := P) | exact ok_none
  | slot i => cases r' <;> exact ok_none (P := PO)
  | new ds =>
    cases r' with
    | ex n => first | exact ok_none (P := PO) | exact ok_none (P := PT) | exact ok_none (P := PP) | exact ok_none (P := PI) | exact ok_none (P := PF) | exact ok_none (P := P) | exact ok_none | (cases r' <;> exact ok_none (P := PO))
    | val k => cases k <;> first | exact ok_bind_iff (P := PO) fun e => ok_some (P := PO) | exact ok_none (P := PO)
    | slot i => exact ok_none (P := PO)
    | new ds => exact ok_none (P := PO)
    | tw ds => first | (exact ok_none (P := PO)) | exact ok_none (P := PO) | exact ok_none (P := PT) | exact ok_none (P := PP) | exact ok_none (P := PI) | exact ok_none (P := PF) | exact ok_none (P := P) | exact ok_none
  | tw ds =>
    cases r' with
    | ex n => first | exact ok_none (P := PO) | exact ok_none (P := PT) | exact ok_none (P := PP) | exact ok_none (P := PI) | exact ok_none (P := PF) | exact ok_none (P := P) | exact ok_none | (cases r' <;> exact ok_none (P := PO))
    | val k => cases k <;> first | exact ok_bind_iff (P := PO) fun e => ok_some (P := PO) | exact ok_none (P := PO)
    | slot i => exact ok_none (P := PO)
    | new ds => exact ok_none (P := PO)
    | tw ds => first | (exact ok_none (P := PO)) | exact ok_none (P := PO) | exact ok_none (P := PT) | exact ok_none (P := PP) | exact ok_none (P := PI) | exact ok_none (P := PF) | exact ok_none (P := P) | exact ok_none
def KNon (P : RV × Env → Prop) : Env → Prop := fun e => P (.val .non, e)
theorem k_non : KNon P e ↔ P (.val .non, e) := Iff.rfl
def KOM (i : Nat) (k : D → List D → Option (List D)) (P : RV × Env → Prop) : RV × Env → Prop := fun a => match frz a.1 with
  | .val d => Ok (upO i (k d) a.2) (KNon P)
  | _ => False
theorem k_om {i : Nat} {k : D → List D → Option (List D)} {d : D} : KOM i k P (.val d, e) ↔ Ok (upO i (k d) e) (KNon P) := Iff.rfl
theorem k_omN {i : Nat} {k : D → List D → Option (List D)} {ds : List D} : KOM i k P (.new ds, e) ↔ Ok (upO i (k (.lst ds)) e) (KNon P) := Iff.rfl
theorem w_om {i : Nat} {k : D → List D → Option (List D)} : Ok (fOM i k f env) P ↔ isOwn env i = true ∧ Ok (f env) (KOM i k P) := by
  unfold fOM
  rw [ok_guard]
  refine and_congr_right fun _ => ok_bind_iff fun ⟨r, e⟩ => ?_
  cases r with
  | ex n => first | exact ok_none (P := PO) | exact ok_none (P := PT) | exact ok_none (P := PP) | exact ok_none (P := PI) | exact ok_none (P := PF) | exact ok_none (P := P) | exact ok_none | (cases r' <;> exact ok_none (P := PO))
  | val d => exact ok_bind_iff (P := P) fun e => ok_some (P := P)
  | slot i => exact ok_none (P := P)
  | new ds => exact ok_bind_iff (P := P) fun e => ok_some (P := P)
  | tw ds => first | (exact ok_bind_iff (P := P) fun e => ok_some (P := P)) | exact ok_none (P := PO) | exact ok_none (P := PT) | exact ok_none (P := PP) | exact ok_none (P := PI) | exact ok_none (P := PF) | exact ok_none (P := P) | exact ok_none
theorem w_om0 {i : Nat} {k : List D → Option (List D)} : Ok (fOM0 i k env) P ↔ Ok (upO i k env) (KNon P) := by
  unfold fOM0
  simp only [ok_bind, ok_some]
  exact Iff.rfl
/-- slices -/
def DS (g : GS) (x : Option D) (lo hi : Option Int) (e : Env) (P : RV × Env → Prop) : Prop := match x with
  | some x => Ok (g x lo hi) (KZ e P)
  | _ => False
theorem d_s {g : GS} {x : D} {lo hi : Option Int} : DS g (some x) lo hi e P ↔ Ok (g x lo hi) (KZ e P) := Iff.rfl
def KSlc (g : GS) (r : RV) (lo : Option Int) (P : RV × Env → Prop) : Option Int × Env → Prop := fun c => DS g (deref c.2 (frz r)) lo c.1 c.2 P
def KSlb (g : GS) (r : RV) (fh : OF) (P : RV × Env → Prop) : Option Int × Env → Prop := fun b => Ok (fh b.2) (KSlc g r b.1 P)
def KSl (g : GS) (fl fh : OF) (P : RV × Env → Prop) : RV × Env → Prop := fun a => Ok (fl a.2) (KSlb g a.1 fh P)
theorem k_slc {g : GS} {lo hi : Option Int} : KSlc g r lo P (hi, e) ↔ DS g (deref e (frz r)) lo hi e P := Iff.rfl
theorem k_slb {g : GS} {fh : OF} {lo : Option Int} : KSlb g r fh P (lo, e) ↔ Ok (fh e) (KSlc g r lo P) := Iff.rfl
theorem k_sl {g : GS} {fl fh : OF} : KSl g fl fh P (r, e) ↔ Ok (fl e) (KSlb g r fh P) := Iff.rfl
theorem w_sl {g : GS} {fl fh : OF} : Ok (fSl g f fl fh env) P ↔ Ok (f env) (KSl g fl fh P) := by
  unfold fSl
  rw [ok_bind]
  constructor <;> intro z <;> refine ok_mono z fun a z => ?_
  · rw [ok_bind] at z
    refine ok_mono z fun b z => ?_
    rw [ok_bind] at z
    refine ok_mono z fun c z => ?_
    obtain ⟨q, e, p⟩ := z
    obtain ⟨x, e1, e⟩ := bnd e
    obtain ⟨w, e3, e⟩ := bnd e
    cases e
    show DS g _ _ _ _ P
    rw [e1]
    exact ⟨w, e3, p⟩
  · rw [ok_bind]
    refine ok_mono z fun b z => ?_
    rw [ok_bind]
    refine ok_mono z fun c z => ?_
    have z' : DS g (deref c.2 (frz a.1)) b.1 c.1 c.2 P := z
    unfold DS at z'
    split at z'
    · rename_i x h1
      obtain ⟨w, e3, p⟩ := z'
      exact ⟨(w, c.2), by rw [h1]; simp [e3], p⟩
    · exact z'.elim
theorem w_noP : Ok (fNoP env) PP ↔ PP (none, env) := ok_some
def KPt (PP : Option Int × Env → Prop) : RV × Env → Prop := fun a => match a.1 with
  | .val (.int i) => PP (some i, a.2)
  | _ => False
theorem k_pt {i : Int} : KPt PP (.val (.int i), e) ↔ PP (some i, e) := Iff.rfl
theorem w_pt : Ok (fPt f env) PP ↔ Ok (f env) (KPt PP) := by
  refine ok_bind_iff fun ⟨r, e⟩ => ?_
  cases r with
  | ex n => first | exact ok_none (P := PO) | exact ok_none (P := PT) | exact ok_none (P := PP) | exact ok_none (P := PI) | exact ok_none (P := PF) | exact ok_none (P := P) | exact ok_none | (cases r' <;> exact ok_none (P := PO))
  | val d => cases d <;> first | exact ok_some (P := PP) | exact ok_none (P := PP)
  | slot i => exact ok_none (P := PP)
  | new ds => exact ok_none (P := PP)
  | tw ds => first | (exact ok_none (P := PP)) | exact ok_none (P := PO) | exact ok_none (P := PT) | exact ok_none (P := PP) | exact ok_none (P := PI) | exact ok_none (P := PF) | exact ok_none (P := P) | exact ok_none
def gIsi (T : String) : G1 := fun d => (kitD d T).bind fun b => some (.val (.bl b))
theorem w_isi {T : String} : Ok (fIsi T f env) P ↔ Ok (f env) (K1 (gIsi T) P) := by
  rw [← w_1]
  have : fIsi T f env = f1 (gIsi T) f env := by
    unfold fIsi f1 gIsi
    congr 1
    funext a
    congr 1
    funext x
    cases kitD x T <;> rfl
  rw [this]
/-- calls -/
def KRes (bor : List Nat) (outs : List (List D)) (r : D × Bool × List (List D)) (P : RV × Env → Prop) : Env → Prop := fun e => match resR r with
  | some z => (lentOk bor z && outs.all (fun ds => bor.isEmpty || noLs ds)) = true ∧ P (z, e)
  | none => False
def KBack (ios bor : List Nat) (e : Env) (P : RV × Env → Prop) : D × Bool × List (List D) → Prop := fun r => Ok (putOuts ios r.2.2 e) (KRes bor r.2.2 r P)
def QArg (g : FF) (e : Env) (P : RV × Env → Prop) : List D × List Nat × List Nat → Prop := fun x => (decide x.2.1.Nodup && decide (∀ i, i ∈ x.2.1 → i ∉ x.2.2)) = true ∧ Ok (g x.1) (KBack x.2.1 x.2.2 e P)
def KCall (io : List Bool) (g : FF) (P : RV × Env → Prop) : List RV × Env → Prop := fun a => Ok (argD a.2 io a.1) (QArg g a.2 P)
theorem k_call {io : List Bool} {g : FF} : KCall io g P (rs, e) ↔ Ok (argD e io rs) (QArg g e P) := Iff.rfl
theorem q_arg {g : FF} {ds : List D} {ios bor : List Nat} : QArg g e P (ds, ios, bor) ↔ (decide ios.Nodup && decide (∀ i, i ∈ ios → i ∉ bor)) = true ∧ Ok (g ds) (KBack ios bor e P) := Iff.rfl
theorem k_back {ios bor : List Nat} {d : D} {fr : Bool} {outs : List (List D)} : KBack ios bor e P (d, fr, outs) ↔ Ok (putOuts ios outs e) (KRes bor outs (d, fr, outs) P) := Iff.rfl
theorem k_resF {bor : List Nat} {outs outs' : List (List D)} {d : D} : KRes bor outs (d, false, outs') P e ↔ ((bor.isEmpty || noL d) && outs.all (fun ds => bor.isEmpty || noLs ds)) = true ∧ P (.val d, e) := by
  unfold KRes resR
  cases d <;> exact Iff.rfl
theorem k_resT {bor : List Nat} {outs outs' : List (List D)} {ds : List D} : KRes bor outs (.lst ds, true, outs') P e ↔ ((bor.isEmpty || noLs ds) && outs.all (fun ds => bor.isEmpty || noLs ds)) = true ∧ P (.new ds, e) := Iff.rfl
theorem w_call {io : List Bool} {g : FF} : Ok (fCall io g fr env) P ↔ Ok (fr env) (KCall io g P) := by
  unfold fCall
  simp only [ok_bind, ok_some, ok_guard]
  constructor <;> intro z <;> refine ok_mono z fun a z => ?_
  · refine ok_mono z fun x z => ⟨z.1, ok_mono z.2 fun r z => ok_mono z fun e z => ?_⟩
    obtain ⟨w, h, z⟩ := z
    unfold KRes
    rw [h]
    exact z
  · refine ok_mono z fun x z => ⟨z.1, ok_mono z.2 fun r z => ok_mono z fun e z => ?_⟩
    unfold KRes at z
    split at z
    · exact ⟨_, by assumption, z⟩
    · exact z.elim
/-- loops, comprehensions -/
def KLc3 (e0 : Env) (vs : List Nat) (P : RV × Env → Prop) : List D × Env → Prop := fun r => r.1.length ≤ 10000000 ∧ P (.new r.1, restE e0 vs r.2)
def KLc2 (k : GF) (tt : TF) (f : EF) (vs : List Nat) (ds : List D) (e0 : Env) (P : RV × Env → Prop) : Env → Prop := fun w => Ok (lcN k tt f vs ds w) (KLc3 e0 vs P)
def KLc (k : GF) (tt : TF) (f : EF) (vs : List Nat) (P : RV × Env → Prop) : List D × Env → Prop := fun a => Ok (wipeO vs a.2) (KLc2 k tt f vs a.1 a.2 P)
theorem k_lc {k : GF} {tt : TF} {vs : List Nat} {ds : List D} : KLc k tt f vs P (ds, e) ↔ Ok (wipeO vs e) (KLc2 k tt f vs ds e P) := Iff.rfl
theorem k_lc2 {k : GF} {tt : TF} {vs : List Nat} {ds : List D} {e0 : Env} : KLc2 k tt f vs ds e0 P e ↔ Ok (lcN k tt f vs ds e) (KLc3 e0 vs P) := Iff.rfl
theorem k_lc3 {vs : List Nat} {ds : List D} {e0 : Env} : KLc3 e0 vs P (ds, e) ↔ ds.length ≤ 10000000 ∧ P (.new ds, restE e0 vs e) := Iff.rfl
theorem w_lc {fi : IF} {k : GF} {tt : TF} {vs : List Nat} : Ok (fLc fi k tt f vs env) P ↔ Ok (fi env) (KLc k tt f vs P) := by
  unfold fLc
  simp only [ok_bind, ok_some, ok_guard]
  exact Iff.rfl
def KFor (k : GF) (g : SFn) (PO : Out → Prop) : List D × Env → Prop := fun a => Ok (loopN k g a.1 a.2) PO
theorem k_for {k : GF} {ds : List D} : KFor k g PO (ds, e) ↔ Ok (loopN k g ds e) PO := Iff.rfl
theorem w_for {fi : IF} {k : GF} : Ok (fFor fi k g env) PO ↔ Ok (fi env) (KFor k g PO) := by
  unfold fFor
  simp only [ok_bind]
  exact Iff.rfl
theorem w_while {fuel : Env → Nat} : Ok (fWhile fuel ft g env) PO ↔ Ok (whileN ft g (fuel env) env) PO := Iff.rfl
def QR1 (e : Env) (PI : List D × Env → Prop) : List D → Prop := fun ds => match ds with
  | [.int j] => (-1000000000000 ≤ j ∧ j ≤ 1000000000000) ∧ PI (rangeD 0 j.toNat, e)
  | _ => False
theorem q_r1 {j : Int} : QR1 e PI [.int j] ↔ (-1000000000000 ≤ j ∧ j ≤ 1000000000000) ∧ PI (rangeD 0 j.toNat, e) := Iff.rfl
def KR1 (PI : List D × Env → Prop) : List RV × Env → Prop := fun a => DV (allVal a.1) (QR1 a.2 PI)
theorem k_r1 : KR1 PI (rs, e) ↔ DV (allVal rs) (QR1 e PI) := Iff.rfl
theorem w_range1 : Ok (fRange1 fr env) PI ↔ Ok (fr env) (KR1 PI) := by
  refine ok_bind_iff fun ⟨rs, e⟩ => ?_
  refine Iff.trans (ok_bind_iff (K := QR1 e PI) fun ds => ?_) dv_ok.symm
  match ds with
  | [] => exact ok_none (P := PI)
  | [d] =>
    cases d with
    | int j => exact Iff.trans ok_guard (and_congr_right fun _ => ok_some (P := PI))
    | _ => exact ok_none (P := PI)
  | d :: _ :: _ => cases d <;> exact ok_none (P := PI)
def KIL (PI : List D × Env → Prop) : RV × Env → Prop := fun a => match frz a.1 with
  | .val (.lst ds) => PI (ds, a.2)
  | _ => False
theorem k_il {ds : List D} : KIL PI (.val (.lst ds), e) ↔ PI (ds, e) := Iff.rfl
theorem k_ilN {ds : List D} : KIL PI (.new ds, e) ↔ PI (ds, e) := Iff.rfl
theorem w_iterL : Ok (fIterL f env) PI ↔ Ok (f env) (KIL PI) := by
  refine ok_bind_iff fun ⟨r, e⟩ => ?_
  cases r with
  | ex n => first | exact ok_none (P := PO) | exact ok_none (P := PT) | exact ok_none (P := PP) | exact ok_none (P := PI) | exact ok_none (P := PF) | exact ok_none (P := P) | exact ok_none | (cases r' <;> exact ok_none (P := PO))
  | val d => cases d <;> first | exact ok_some (P := PI) | exact ok_none (P := PI)
  | slot i => exact ok_none (P := PI)
  | new ds => first | exact ok_some (P := PI) | exact ok_none (P := PI)
  | tw ds => first | (first | exact ok_some (P := PI) | exact ok_none (P := PI)) | exact ok_none (P := PO) | exact ok_none (P := PT) | exact ok_none (P := PP) | exact ok_none (P := PI) | exact ok_none (P := PF) | exact ok_none (P := P) | exact ok_none
def KIT (PI : List D × Env → Prop) : RV × Env → Prop := fun a => match frz a.1 with
  | .val (.tup ds) => PI (ds, a.2)
  | .val (.nt ds) => PI (ds, a.2)
  | _ => False
theorem k_itN {ds : List D} : KIT PI (.val (.nt ds), e) ↔ PI (ds, e) := Iff.rfl
theorem k_it {ds : List D} : KIT PI (.val (.tup ds), e) ↔ PI (ds, e) := Iff.rfl
theorem w_iterT : Ok (fIterT f env) PI ↔ Ok (f env) (KIT PI) := by
  refine ok_bind_iff fun ⟨r, e⟩ => ?_
  cases r with
  | ex n => first | exact ok_none (P := PO) | exact ok_none (P := PT) | exact ok_none (P := PP) | exact ok_none (P := PI) | exact ok_none (P := PF) | exact ok_none (P := P) | exact ok_none | (cases r' <;> exact ok_none (P := PO))
  | val d => cases d <;> first | exact ok_some (P := PI) | exact ok_none (P := PI)
  | slot i => exact ok_none (P := PI)
  | new ds => first | exact ok_some (P := PI) | exact ok_none (P := PI)
  | tw ds => first | (first | exact ok_some (P := PI) | exact ok_none (P := PI)) | exact ok_none (P := PO) | exact ok_none (P := PT) | exact ok_none (P := PP) | exact ok_none (P := PI) | exact ok_none (P := PF) | exact ok_none (P := P) | exact ok_none
/-- a def -/
def outF (io : List Bool) (d : D) (fr : Bool) (e : Env) (P : D × Bool × List (List D) → Prop) : Prop := match outE e (ioIx 0 io) with
  | some outs => P (d, fr, outs)
  | none => False
def KFin (io : List Bool) (P : D × Bool × List (List D) → Prop) : Out → Prop
  | .nx e => outF io .non false e P
  | .rt (.val d) e => outF io d false e P
  | .rt (.new es) e => outF io (.lst es) true e P
  | .rt (.tw dss) e => outF io (.tup (dss.map D.lst)) true e P
  | .rt (.slot i) e => match e[i]? with
    | some (.o1 es) => outF io (.lst es) true e P
    | _ => False
  | _ => False
variable {PF : D × Bool × List (List D) → Prop} {io : List Bool}
theorem k_finN : KFin io PF (.nx e) ↔ outF io .non false e PF := Iff.rfl
theorem k_finV {d : D} : KFin io PF (.rt (.val d) e) ↔ outF io d false e PF := Iff.rfl
theorem k_finW {ds : List D} : KFin io PF (.rt (.new ds) e) ↔ outF io (.lst ds) true e PF := Iff.rfl
theorem k_finT {dss : List (List D)} : KFin io PF (.rt (.tw dss) e) ↔ outF io (.tup (dss.map D.lst)) true e PF := Iff.rfl
theorem k_finS {i : Nat} : KFin io PF (.rt (.slot i) e) ↔ (match e[i]? with | some (.o1 es) => outF io (.lst es) true e PF | _ => False) := Iff.rfl
theorem out_ok {d : D} {fr : Bool} : outF io d fr e PF ↔ Ok ((outE e (ioIx 0 io)).bind fun outs => some (d, fr, outs)) PF := by
  unfold outF
  split
  · rename_i h
    rw [h]
    exact ok_some.symm
  · rename_i h
    rw [h]
    exact ok_none.symm
theorem w_def {m : Nat} {b : SFn} {ds : List D} {e0 : Env} (he : argS io ds = some e0) : Ok (fDef m io b ds) PF ↔ Ok (b (e0 ++ List.replicate m .no)) (KFin io PF) := by
  unfold fDef
  rw [he, Option.bind_some]
  refine ok_bind_iff fun o => ?_
  cases o with
  | nx e => exact out_ok.symm
  | rt r e =>
    cases r with
    | ex n => first | exact ok_none (P := PO) | exact ok_none (P := PT) | exact ok_none (P := PP) | exact ok_none (P := PI) | exact ok_none (P := PF) | exact ok_none (P := P) | exact ok_none | (cases r' <;> exact ok_none (P := PO))
    | val d => exact out_ok.symm
    | new ds => exact out_ok.symm
    | tw ds => first | (exact out_ok.symm) | exact ok_none (P := PO) | exact ok_none (P := PT) | exact ok_none (P := PP) | exact ok_none (P := PI) | exact ok_none (P := PF) | exact ok_none (P := P) | exact ok_none
    | slot i =>
      cases h : e[i]? with
      | none =>
        show Ok (match e[i]? with | some (.o1 es) => (outE e (ioIx 0 io)).bind fun outs => some (.lst es, true, outs) | _ => none) PF ↔ (match e[i]? with | some (.o1 es) => outF io (.lst es) true e PF | _ => False)
        rw [h]
        exact ok_none
      | some s =>
        show Ok (match e[i]? with | some (.o1 es) => (outE e (ioIx 0 io)).bind fun outs => some (.lst es, true, outs) | _ => none) PF ↔ (match e[i]? with | some (.o1 es) => outF io (.lst es) true e PF | _ => False)
        rw [h]
        cases s <;> first | exact out_ok.symm | exact ok_none
  | bk e => exact ok_none (P := PF)
  | ct e => exact ok_none (P := PF)
end
theorem gEq_int {i j : Int} : gEq (.int i) (.int j) = some (.val (.bl (decide (i = j)))) := by
  have h3 : eqD (.int i) (.int j) = decide (i = j) := by
    show (i == j) = decide (i = j)
    exact (Bool.beq_eq_decide_eq i j)
  show some (RV.val (D.bl (eqD (.int i) (.int j)))) = _
  rw [h3]
theorem gNe_int {i j : Int} : gNe (.int i) (.int j) = some (.val (.bl (!decide (i = j)))) := by
  have h3 : eqD (.int i) (.int j) = decide (i = j) := by
    show (i == j) = decide (i = j)
    exact (Bool.beq_eq_decide_eq i j)
  show some (RV.val (D.bl (!eqD (.int i) (.int j)))) = _
  rw [h3]
theorem gAdd_int {i j : Int} : gAdd (.int i) (.int j) = some (.val (.int (i + j))) := rfl
theorem gSub_int {i j : Int} : gSub (.int i) (.int j) = some (.val (.int (i - j))) := rfl
theorem gMul_int {i j : Int} : gMul (.int i) (.int j) = if mulB i j = true then some (.val (.int (i * j))) else none := by
  unfold gMul gI gRep
  simp only [Option.or_none]
theorem gDiv_int {i j : Int} : gDiv (.int i) (.int j) = if divB i j = true then some (.val (.int (i.fdiv j))) else none := rfl
theorem gMod_int {i j : Int} : gMod (.int i) (.int j) = if modB i j = true then some (.val (.int (i.fmod j))) else none := rfl
theorem gPow_int {i j : Int} : gPow (.int i) (.int j) = if powB i j = true then some (.val (.int (i ^ j.toNat))) else none := rfl
theorem gLt_int {i j : Int} : gLt (.int i) (.int j) = some (.val (.bl (decide (i < j)))) := rfl
theorem gLe_int {i j : Int} : gLe (.int i) (.int j) = some (.val (.bl (decide (i ≤ j)))) := rfl
theorem gGt_int {i j : Int} : gGt (.int i) (.int j) = some (.val (.bl (decide (j < i)))) := rfl
theorem gGe_int {i j : Int} : gGe (.int i) (.int j) = some (.val (.bl (decide (j ≤ i)))) := rfl
section
variable {α : Type} {x0 x1 x2 x3 x4 x5 x6 x7 : α} {r : List α}
theorem atI_1 : L2.atI (x0 :: x1 :: r) 1 = some x1 := (atI_natC (i := 1)).trans rfl
theorem atI_2 : L2.atI (x0 :: x1 :: x2 :: r) 2 = some x2 := (atI_natC (i := 2)).trans rfl
theorem atI_3 : L2.atI (x0 :: x1 :: x2 :: x3 :: r) 3 = some x3 := (atI_natC (i := 3)).trans rfl
theorem atI_4 : L2.atI (x0 :: x1 :: x2 :: x3 :: x4 :: r) 4 = some x4 := (atI_natC (i := 4)).trans rfl
theorem atI_5 : L2.atI (x0 :: x1 :: x2 :: x3 :: x4 :: x5 :: r) 5 = some x5 := (atI_natC (i := 5)).trans rfl
theorem atI_6 : L2.atI (x0 :: x1 :: x2 :: x3 :: x4 :: x5 :: x6 :: r) 6 = some x6 := (atI_natC (i := 6)).trans rfl
theorem atI_7 : L2.atI (x0 :: x1 :: x2 :: x3 :: x4 :: x5 :: x6 :: x7 :: r) 7 = some x7 := (atI_natC (i := 7)).trans rfl
theorem atI_neg {xs : List α} : L2.atI xs (-1) = xs.getLast? := by
  cases xs with
  | nil => rfl
  | cons a l =>
    unfold L2.atI L2.ixN
    rw [if_neg (by decide), if_pos (by simp only [List.length_cons]; omega), List.getLast?_eq_getElem?]
    show (a :: l)[((-1 : Int) + ((a :: l).length : Nat)).toNat]? = _
    congr 1
    simp only [List.length_cons]
    omega
end
theorem ixN20 : L2.ixN 2 0 = some 0 := rfl
theorem ixN21 : L2.ixN 2 1 = some 1 := rfl
/-- sizes -/
theorem log2_le {n k : Nat} (h : n < 2 ^ k) : n.log2 ≤ k := by
  by_cases h0 : n = 0
  · subst h0
    simp
  · exact Nat.le_of_lt ((Nat.log2_lt h0).mpr h)
theorem mulB_of {i j : Int} {a b : Nat} (hi : i.natAbs < 2 ^ a) (hj : j.natAbs < 2 ^ b) (h : a + b ≤ 134000000) : mulB i j = true := by
  have h1 := log2_le hi
  have h2 := log2_le hj
  exact decide_eq_true (by omega)
theorem modB_of {i j : Int} (h : j ≠ 0) : modB i j = true := decide_eq_true h
theorem divB_of {i j : Int} (h : j ≠ 0) (h2 : j.natAbs < 2 ^ 8999) : divB i j = true := by
  unfold divB
  rw [decide_eq_true h, decide_eq_true (Nat.lt_succ_of_le (log2_le h2))]
  rfl
theorem powB_of {i : Int} {n a : Nat} (hi : i.natAbs < 2 ^ a) (h : (a + 1) * n ≤ 134217728) : powB i (n : Int) = true := by
  unfold powB
  have h1 := log2_le hi
  rw [decide_eq_true (Int.natCast_nonneg n), decide_eq_true]
  · rfl
  · have : ((i.natAbs.log2 + 1 : Nat) : Int) * (n : Int) = (((i.natAbs.log2 + 1) * n : Nat) : Int) := by simp
    rw [this]
    have h3 : (i.natAbs.log2 + 1) * n ≤ (a + 1) * n := Nat.mul_le_mul_right n (by omega)
    omega
/-- small numbers -/
theorem p40 : (10 : Nat) ^ 40 < 2 ^ 133 := by decide +kernel
theorem nat40 {i : Int} (h1 : -(10 ^ 40) ≤ i) (h2 : i ≤ 10 ^ 40) : i.natAbs < 2 ^ 133 := Nat.lt_of_le_of_lt (by omega) p40
theorem mul40 {i j : Int} (h1 : -(10 ^ 40) ≤ i) (h2 : i ≤ 10 ^ 40) (h3 : -(10 ^ 40) ≤ j) (h4 : j ≤ 10 ^ 40) : mulB i j = true := mulB_of (nat40 h1 h2) (nat40 h3 h4) (by decide)
theorem div40 {i j : Int} (h0 : 0 < j) (h2 : j ≤ 10 ^ 40) : divB i j = true := divB_of (by omega) (Nat.lt_trans (nat40 (by omega) h2) (Nat.pow_lt_pow_right (by decide) (by decide)))
theorem fmod_nn {a b : Int} (h : 0 < b) : 0 ≤ a.fmod b ∧ a.fmod b < b := by
  rw [Int.fmod_eq_emod_of_nonneg a (Int.le_of_lt h)]
  exact ⟨Int.emod_nonneg a (by omega), Int.emod_lt_of_pos a h⟩
theorem fdiv_nn {a b : Int} (ha : 0 ≤ a) (h : 0 < b) : 0 ≤ a.fdiv b := by
  rw [Int.fdiv_eq_ediv_of_nonneg a (Int.le_of_lt h)]
  exact Int.ediv_nonneg ha (Int.le_of_lt h)
section
variable {env e : Env} {k : GF} {g : SFn} {d : D} {ds : List D} {P : Out → Prop} {r : RV}
def KTurn (k : GF) (g : SFn) (ds : List D) (P : Out → Prop) : Out → Prop
  | .nx e => Ok (loopN k g ds e) P
  | .ct e => Ok (loopN k g ds e) P
  | .bk e => P (.nx e)
  | .rt r e => P (.rt r e)
def KTgt (k : GF) (g : SFn) (ds : List D) (P : Out → Prop) : Env → Prop := fun e => Ok (g e) (KTurn k g ds P)
theorem k_tgt : KTgt k g ds P e ↔ Ok (g e) (KTurn k g ds P) := Iff.rfl
theorem k_tnx : KTurn k g ds P (.nx e) ↔ Ok (loopN k g ds e) P := Iff.rfl
theorem k_tct : KTurn k g ds P (.ct e) ↔ Ok (loopN k g ds e) P := Iff.rfl
theorem k_tbk : KTurn k g ds P (.bk e) ↔ P (.nx e) := Iff.rfl
theorem k_trt : KTurn k g ds P (.rt r e) ↔ P (.rt r e) := Iff.rfl
theorem w_loop0 : Ok (loopN k g [] env) P ↔ P (.nx env) := ok_some
theorem w_loop1 : Ok (loopN k g (d :: ds) env) P ↔ Ok (k d env) (KTgt k g ds P) := by
  show Ok ((k d env).bind _) P ↔ _
  refine ok_bind_iff fun e => ok_bind_iff fun o => ?_
  cases o with
  | nx e => exact Iff.rfl
  | ct e => exact Iff.rfl
  | bk e => exact ok_some (P := P)
  | rt r e => exact ok_some (P := P)
end
section
variable {env e : Env} {P : RV × Env → Prop} {K : Env → Prop} {x : SV} {s : SV} {i : Nat} {h : List D → Option (List D)}
def KIx (e : Env) (P : RV × Env → Prop) : D → Prop := fun d => P (.val d, e)
def KIxI (e : Env) (P : RV × Env → Prop) : Int → Prop := fun d => P (.val (.int d), e)
theorem k_ix {d : D} : KIx e P d ↔ P (.val d, e) := Iff.rfl
theorem k_ixI {d : Int} : KIxI e P d ↔ P (.val (.int d), e) := Iff.rfl
theorem w_ixL {ds : List D} {k : Int} : Ok (gIx (.lst ds) (.int k)) (KZ e P) ↔ Ok (L2.atI ds k) (KIx e P) := ok_bind_iff fun d => ok_some
theorem w_ixT {ds : List D} {k : Int} : Ok (gIx (.tup ds) (.int k)) (KZ e P) ↔ Ok (L2.atI ds k) (KIx e P) := ok_bind_iff fun d => ok_some
theorem w_ixN {ds : List D} {k : Int} : Ok (gIx (.nt ds) (.int k)) (KZ e P) ↔ Ok (L2.atI ds k) (KIx e P) := ok_bind_iff fun d => ok_some
theorem w_ixS {ds : List Int} {k : Int} : Ok (gIx (.scr ds) (.int k)) (KZ e P) ↔ Ok (L2.atI ds k) (KIxI e P) := ok_bind_iff fun d => ok_some
def KCx (x : SV) (K : Env → Prop) : Env → Prop := fun e => K (x :: e)
theorem k_cx : KCx x K e ↔ K (x :: e) := Iff.rfl
theorem w_put0 : Ok (putS 0 s (x :: env)) K ↔ freeP x = true ∧ K (s :: env) := by
  rw [putS_0, ok_guard, ok_some]
theorem w_putS : Ok (putS (i + 1) s (x :: env)) K ↔ Ok (putS i s env) (KCx x K) := by
  rw [putS_s]
  exact ok_bind_iff fun e => ok_some
def KO1 (env : Env) (K : Env → Prop) : List D → Prop := fun es => K (.o1 es :: env)
def KIo (env : Env) (K : Env → Prop) : List D → Prop := fun es => K (.io es :: env)
theorem k_o1 {es : List D} : KO1 env K es ↔ K (.o1 es :: env) := Iff.rfl
theorem k_io {es : List D} : KIo env K es ↔ K (.io es :: env) := Iff.rfl
theorem w_upo {ds : List D} : Ok (upO 0 h (.o1 ds :: env)) K ↔ Ok (h ds) (KO1 env K) := by
  rw [upO_0]
  exact ok_bind_iff fun e => ok_some
theorem w_upi {ds : List D} : Ok (upO 0 h (.io ds :: env)) K ↔ Ok (h ds) (KIo env K) := by
  rw [upO_0]
  exact ok_bind_iff fun e => ok_some
theorem w_upS : Ok (upO (i + 1) h (x :: env)) K ↔ Ok (upO i h env) (KCx x K) := by
  rw [upO_s]
  exact ok_bind_iff fun e => ok_some
/-- an own list changed at a place -/
def KSt (d : D) (ds : List D) (Q : List D → Prop) : Nat → Prop := fun j => Q (ds.set j d)
theorem k_st {d : D} {ds : List D} {Q : List D → Prop} {j : Nat} : KSt d ds Q j ↔ Q (ds.set j d) := Iff.rfl
theorem w_setF {k : Int} {d : D} {ds : List D} {Q : List D → Prop} : Ok (setF k d ds) Q ↔ Ok (L2.ixN ds.length k) (KSt d ds Q) := ok_bind_iff fun j => ok_some
theorem w_app {d : D} {ds : List D} {Q : List D → Prop} : Ok (hApp d ds) Q ↔ ds.length ≤ 10000000 ∧ Q (ds ++ [d]) := by
  unfold hApp
  rw [ok_guard, ok_some]
theorem w_ext {es : List D} {ds : List D} {Q : List D → Prop} : Ok (hExt (.lst es) ds) Q ↔ ds.length + es.length ≤ 10000000 ∧ Q (ds ++ es) := by
  unfold hExt
  dsimp only
  rw [ok_guard, ok_some]
/-- wiping -/
def KWp (v : Nat) (K : Env → Prop) : Env → Prop := fun e => Ok (putS v .no e) K
theorem k_wp {v : Nat} : KWp v K e ↔ Ok (putS v .no e) K := Iff.rfl
theorem w_wipe0 : Ok (wipeO [] env) K ↔ K env := ok_some
theorem w_wipe1 {v : Nat} {vs : List Nat} : Ok (wipeO (v :: vs) env) K ↔ Ok (wipeO vs env) (KWp v K) := ok_bind_iff fun e => Iff.rfl
/-- own lists handed back -/
def KOuts (is : List Nat) (dss : List (List D)) (K : Env → Prop) : Env → Prop := fun e => Ok (putOuts is dss e) K
theorem k_outs {is : List Nat} {dss : List (List D)} : KOuts is dss K e ↔ Ok (putOuts is dss e) K := Iff.rfl
def hCon (ds : List D) : List D → Option (List D) := fun _ => some ds
theorem w_con {ds es : List D} {Q : List D → Prop} : Ok (hCon ds es) Q ↔ Q ds := ok_some
theorem w_outs0 : Ok (putOuts [] [] env) K ↔ K env := ok_some
theorem w_outs1 {is : List Nat} {dss : List (List D)} {ds : List D} : Ok (putOuts (i :: is) (ds :: dss) env) K ↔ Ok (upO i (hCon ds) env) (KOuts is dss K) := ok_bind_iff fun e => Iff.rfl
end
section
variable {env e : Env} {P : RV × Env → Prop} {K : Env → Prop} {fr : AF} {rs : List RV}
def KDr (z : RV) (P : RV × Env → Prop) : Env → Prop := fun e => P (z, e)
theorem k_dr {z : RV} : KDr z P e ↔ P (z, e) := Iff.rfl
theorem w_drop0 : Ok (dropAll [] env) K ↔ K env := ok_some
theorem w_drop1 {v : Nat} {vs : List Nat} : Ok (dropAll (v :: vs) env) K ↔ Ok (dropAll vs env) (KWp v K) := ok_bind_iff fun e => Iff.rfl
def KResM (bor : List Nat) (outs : List (List D)) (r : D × Bool × List (List D)) (P : RV × Env → Prop) : Env → Prop := fun e => match resR r with
  | some z => outs.all (fun ds => bor.isEmpty || noLs ds) = true ∧ Ok (dropAll bor e) (KDr z P)
  | none => False
def KBackM (ios bor : List Nat) (e : Env) (P : RV × Env → Prop) : D × Bool × List (List D) → Prop := fun r => Ok (putOuts ios r.2.2 e) (KResM bor r.2.2 r P)
def QArgM (g : FF) (e : Env) (P : RV × Env → Prop) : List D × List Nat × List Nat → Prop := fun x => (decide x.2.1.Nodup && decide (∀ i, i ∈ x.2.1 → i ∉ x.2.2)) = true ∧ Ok (g x.1) (KBackM x.2.1 x.2.2 e P)
def KCallM (io : List Bool) (g : FF) (P : RV × Env → Prop) : List RV × Env → Prop := fun a => Ok (argD a.2 io a.1) (QArgM g a.2 P)
theorem k_callM {io : List Bool} {g : FF} : KCallM io g P (rs, e) ↔ Ok (argD e io rs) (QArgM g e P) := Iff.rfl
theorem q_argM {g : FF} {ds : List D} {ios bor : List Nat} : QArgM g e P (ds, ios, bor) ↔ (decide ios.Nodup && decide (∀ i, i ∈ ios → i ∉ bor)) = true ∧ Ok (g ds) (KBackM ios bor e P) := Iff.rfl
theorem k_backM {ios bor : List Nat} {d : D} {fr : Bool} {outs : List (List D)} : KBackM ios bor e P (d, fr, outs) ↔ Ok (putOuts ios outs e) (KResM bor outs (d, fr, outs) P) := Iff.rfl
theorem k_resMF {bor : List Nat} {outs outs' : List (List D)} {d : D} : KResM bor outs (d, false, outs') P e ↔ outs.all (fun ds => bor.isEmpty || noLs ds) = true ∧ Ok (dropAll bor e) (KDr (.val d) P) := by
  unfold KResM resR
  cases d <;> exact Iff.rfl
theorem k_resMT {bor : List Nat} {outs outs' : List (List D)} {ds : List D} : KResM bor outs (.lst ds, true, outs') P e ↔ outs.all (fun ds => bor.isEmpty || noLs ds) = true ∧ Ok (dropAll bor e) (KDr (.new ds) P) := Iff.rfl
theorem w_callM {io : List Bool} {g : FF} : Ok (fCallM io g fr env) P ↔ Ok (fr env) (KCallM io g P) := by
  unfold fCallM
  simp only [ok_bind, ok_some, ok_guard]
  constructor <;> intro z <;> refine ok_mono z fun a z => ?_
  · refine ok_mono z fun x z => ⟨z.1, ok_mono z.2 fun r z => ok_mono z fun e z => ?_⟩
    obtain ⟨w, h, z⟩ := z
    unfold KResM
    rw [h]
    exact z
  · refine ok_mono z fun x z => ⟨z.1, ok_mono z.2 fun r z => ok_mono z fun e z => ?_⟩
    unfold KResM at z
    split at z
    · exact ⟨_, by assumption, z⟩
    · exact z.elim
theorem w_mv {i : Nat} : Ok (fMv i env) P ↔ (match env[i]? with | some (.o1 ds) => Ok (dropAll [i] env) (KDr (.val (.lst ds)) P) | _ => False) := by
  unfold fMv
  cases env[i]? with
  | none => exact ok_none
  | some v => cases v <;> first | exact ok_none | exact ok_bind_iff fun e => ok_some
end
section
variable {env e : Env} {PI : List D × Env → Prop} {fr : AF} {rs : List RV}
def QEn (e : Env) (PI : List D × Env → Prop) : List D → Prop := fun ds => match ds with
  | [.lst ds] => PI (enumD 0 ds, e)
  | _ => False
theorem q_en {ds : List D} : QEn e PI [.lst ds] ↔ PI (enumD 0 ds, e) := Iff.rfl
def KEn (PI : List D × Env → Prop) : List RV × Env → Prop := fun a => DV (allVal a.1) (QEn a.2 PI)
theorem k_en : KEn PI (rs, e) ↔ DV (allVal rs) (QEn e PI) := Iff.rfl
theorem w_enum : Ok (fEnum fr env) PI ↔ Ok (fr env) (KEn PI) := by
  refine ok_bind_iff fun ⟨rs, e⟩ => ?_
  refine Iff.trans (ok_bind_iff (K := QEn e PI) fun ds => ?_) dv_ok.symm
  match ds with
  | [] => exact ok_none (P := PI)
  | [d] => cases d <;> first | exact ok_some (P := PI) | exact ok_none (P := PI)
  | d :: _ :: _ => cases d <;> exact ok_none (P := PI)
def QZp (e : Env) (PI : List D × Env → Prop) : List D → Prop := fun ds => match ds with
  | [.lst ds, .lst es] => PI (zipD ds es, e)
  | _ => False
theorem q_zp {ds es : List D} : QZp e PI [.lst ds, .lst es] ↔ PI (zipD ds es, e) := Iff.rfl
def KZp (PI : List D × Env → Prop) : List RV × Env → Prop := fun a => DV (allVal a.1) (QZp a.2 PI)
theorem k_zp : KZp PI (rs, e) ↔ DV (allVal rs) (QZp e PI) := Iff.rfl
theorem w_zip : Ok (fZip fr env) PI ↔ Ok (fr env) (KZp PI) := by
  refine ok_bind_iff fun ⟨rs, e⟩ => ?_
  refine Iff.trans (ok_bind_iff (K := QZp e PI) fun ds => ?_) dv_ok.symm
  match ds with
  | [] => exact ok_none (P := PI)
  | [d] => cases d <;> exact ok_none (P := PI)
  | [d, d'] => cases d <;> cases d' <;> first | exact ok_some (P := PI) | exact ok_none (P := PI)
  | d :: d' :: _ :: _ => cases d <;> cases d' <;> exact ok_none (P := PI)
def QRv (e : Env) (PI : List D × Env → Prop) : List D → Prop := fun ds => match ds with
  | [.lst ds] => PI (ds.reverse, e)
  | _ => False
theorem q_rv {ds : List D} : QRv e PI [.lst ds] ↔ PI (ds.reverse, e) := Iff.rfl
def KRv (PI : List D × Env → Prop) : List RV × Env → Prop := fun a => DV (allVal a.1) (QRv a.2 PI)
theorem k_rv : KRv PI (rs, e) ↔ DV (allVal rs) (QRv e PI) := Iff.rfl
theorem w_rev : Ok (fRev fr env) PI ↔ Ok (fr env) (KRv PI) := by
  refine ok_bind_iff fun ⟨rs, e⟩ => ?_
  refine Iff.trans (ok_bind_iff (K := QRv e PI) fun ds => ?_) dv_ok.symm
  match ds with
  | [] => exact ok_none (P := PI)
  | [d] => cases d <;> first | exact ok_some (P := PI) | exact ok_none (P := PI)
  | d :: _ :: _ => cases d <;> exact ok_none (P := PI)
def QR2 (e : Env) (PI : List D × Env → Prop) : List D → Prop := fun ds => match ds with
  | [.int i, .int j] => (-1000000000000 ≤ i ∧ i ≤ 1000000000000 ∧ -1000000000000 ≤ j ∧ j ≤ 1000000000000) ∧ PI (rangeD i (j - i).toNat, e)
  | _ => False
theorem q_r2 {i j : Int} : QR2 e PI [.int i, .int j] ↔ (-1000000000000 ≤ i ∧ i ≤ 1000000000000 ∧ -1000000000000 ≤ j ∧ j ≤ 1000000000000) ∧ PI (rangeD i (j - i).toNat, e) := Iff.rfl
def KR2 (PI : List D × Env → Prop) : List RV × Env → Prop := fun a => DV (allVal a.1) (QR2 a.2 PI)
theorem k_r2 : KR2 PI (rs, e) ↔ DV (allVal rs) (QR2 e PI) := Iff.rfl
theorem w_range2 : Ok (fRange2 fr env) PI ↔ Ok (fr env) (KR2 PI) := by
  refine ok_bind_iff fun ⟨rs, e⟩ => ?_
  refine Iff.trans (ok_bind_iff (K := QR2 e PI) fun ds => ?_) dv_ok.symm
  match ds with
  | [] => exact ok_none (P := PI)
  | [d] => cases d <;> exact ok_none (P := PI)
  | [d, d'] =>
    cases d with
    | int i =>
      cases d' with
      | int j => exact Iff.trans ok_guard (and_congr_right fun _ => ok_some (P := PI))
      | _ => exact ok_none (P := PI)
    | _ => exact ok_none (P := PI)
  | d :: d' :: _ :: _ => cases d <;> cases d' <;> exact ok_none (P := PI)
def QR3 (e : Env) (PI : List D × Env → Prop) : List D → Prop := fun ds => match ds with
  | [.int i, .int j, .int c] => (c ≠ 0 ∧ c.natAbs < 1073741824 ∧ Builtin.Range.small i j c = true ∧ 0 ≤ Builtin.Range.rangeSize i j c) ∧ PI (rangeC i c (Builtin.Range.rangeSize i j c).toNat, e)
  | _ => False
theorem q_r3 {i j c : Int} : QR3 e PI [.int i, .int j, .int c] ↔ (c ≠ 0 ∧ c.natAbs < 1073741824 ∧ Builtin.Range.small i j c = true ∧ 0 ≤ Builtin.Range.rangeSize i j c) ∧ PI (rangeC i c (Builtin.Range.rangeSize i j c).toNat, e) := Iff.rfl
def KR3 (PI : List D × Env → Prop) : List RV × Env → Prop := fun a => DV (allVal a.1) (QR3 a.2 PI)
theorem k_r3 : KR3 PI (rs, e) ↔ DV (allVal rs) (QR3 e PI) := Iff.rfl
theorem w_range3 : Ok (fRange3 fr env) PI ↔ Ok (fr env) (KR3 PI) := by
  refine ok_bind_iff fun ⟨rs, e⟩ => ?_
  refine Iff.trans (ok_bind_iff (K := QR3 e PI) fun ds => ?_) dv_ok.symm
  match ds with
  | [] => exact ok_none (P := PI)
  | [d] => cases d <;> exact ok_none (P := PI)
  | [d, d'] => cases d <;> cases d' <;> exact ok_none (P := PI)
  | [d, d', d''] =>
    cases d with
    | int i =>
      cases d' with
      | int j =>
        cases d'' with
        | int c => exact Iff.trans ok_guard (and_congr_right fun _ => ok_some (P := PI))
        | _ => exact ok_none (P := PI)
      | _ => exact ok_none (P := PI)
    | _ => exact ok_none (P := PI)
  | d :: d' :: d'' :: _ :: _ => cases d <;> cases d' <;> cases d'' <;> exact ok_none (P := PI)
/-- targets that are tuples -/
def KGC (h : List D → Env → Option Env) (r : List D) (K : Env → Prop) : Env → Prop := fun e => Ok (h r e) K
theorem k_gc {h : List D → Env → Option Env} {r : List D} {K : Env → Prop} : KGC h r K e ↔ Ok (h r e) K := Iff.rfl
theorem w_gcons {g : GF} {h : List D → Env → Option Env} {d : D} {r : List D} {K : Env → Prop} : Ok (gfCons g h (d :: r) env) K ↔ Ok (g d env) (KGC h r K) := ok_bind_iff fun e => Iff.rfl
theorem w_gnil {K : Env → Prop} : Ok (gfNil [] env) K ↔ K env := ok_some
theorem w_gtupN {n : Nat} {h : List D → Env → Option Env} {ds : List D} {K : Env → Prop} : Ok (gfTup n h (.nt ds) env) K ↔ ds.length = n ∧ Ok (h ds env) K := ok_guard
theorem w_gtup {n : Nat} {h : List D → Env → Option Env} {ds : List D} {K : Env → Prop} : Ok (gfTup n h (.tup ds) env) K ↔ ds.length = n ∧ Ok (h ds env) K := ok_guard
end
section
variable {env e : Env} {PO : Out → Prop} {g h : SFn} {J : Env → Prop} {r : RV}
theorem w_cut : Ok (fCut g env) PO ↔ Ok (g env) PO := Iff.rfl
def KJ (J : Env → Prop) (PO : Out → Prop) : Out → Prop
  | .nx e => J e
  | .rt r e => PO (.rt r e)
  | .bk e => PO (.bk e)
  | .ct e => PO (.ct e)
theorem k_jnx : KJ J PO (.nx e) ↔ J e := Iff.rfl
theorem k_jrt : KJ J PO (.rt r e) ↔ PO (.rt r e) := Iff.rfl
theorem k_jbk : KJ J PO (.bk e) ↔ PO (.bk e) := Iff.rfl
theorem k_jct : KJ J PO (.ct e) ↔ PO (.ct e) := Iff.rfl
/-- ways meet: what holds behind the if is said once -/
theorem cut_seq (J : Env → Prop) (h1 : Ok (g env) (KJ J PO)) (h2 : ∀ e, J e → Ok (h e) PO) : Ok (fCut (fSeq g h) env) PO := by
  refine w_seq.mpr (ok_mono h1 fun o ho => ?_)
  cases o with
  | nx e => exact h2 e ho
  | rt r e => exact ho
  | bk e => exact ho
  | ct e => exact ho
end
theorem gIs_bl {a b : Bool} : gIs (.bl a) (.bl b) = some (.val (.bl (decide (a = b)))) := rfl
theorem gIsnt_bl {a b : Bool} : gIsnt (.bl a) (.bl b) = some (.val (.bl (!decide (a = b)))) := rfl
theorem gIs_no {d : D} : gIs d .non = some (.val (.bl (isNon d))) := by cases d <;> rfl
theorem gIsnt_no {d : D} : gIsnt d .non = some (.val (.bl (!isNon d))) := by cases d <;> rfl
theorem gEq_bl {a b : Bool} : gEq (.bl a) (.bl b) = some (.val (.bl (decide (a = b)))) := by
  have h3 : eqD (.bl a) (.bl b) = decide (a = b) := by
    show (a == b) = decide (a = b)
    exact (Bool.beq_eq_decide_eq a b)
  show some (RV.val (D.bl (eqD (.bl a) (.bl b)))) = _
  rw [h3]
theorem gNe_bl {a b : Bool} : gNe (.bl a) (.bl b) = some (.val (.bl (!decide (a = b)))) := by
  have h3 : eqD (.bl a) (.bl b) = decide (a = b) := by
    show (a == b) = decide (a = b)
    exact (Bool.beq_eq_decide_eq a b)
  show some (RV.val (D.bl (!eqD (.bl a) (.bl b)))) = _
  rw [h3]
end Dv
namespace Dv
open PySem L2
def Shp (k : Nat) (d : D) : Prop := PyData.canLay0 (toPy d) = true ∧ PyData.depth (toPy d) ≤ k
theorem shp_of {k : Nat} {d : D} (h : Shp k d) (hk : k ≤ 64) : shp d = true := by
  unfold shp SeqAt.shaped
  rw [h.1, Bool.true_and]
  exact decide_eq_true (Nat.le_trans h.2 hk)
theorem Shp.mono {k l : Nat} {d : D} (h : Shp k d) (hk : k ≤ l) : Shp l d := ⟨h.1, Nat.le_trans h.2 hk⟩
theorem shp_int {i : Int} : Shp 0 (.int i) := ⟨rfl, Nat.le_refl 0⟩
theorem shp_all {k : Nat} : ∀ {ds : List D}, (∀ d, d ∈ ds → Shp k d) → PyData.canLayAll0 (toPys ds) = true ∧ PyData.depthAll (toPys ds) ≤ k
  | [], _ => ⟨rfl, Nat.zero_le _⟩
  | d :: ds, h => by
    obtain ⟨h1, h2⟩ := h d List.mem_cons_self
    obtain ⟨h3, h4⟩ := shp_all (ds := ds) fun e he => h e (List.mem_cons_of_mem _ he)
    simp only [toPys, PyData.canLayAll0, PyData.depthAll, h1, h3, Bool.and_self, true_and]
    exact Nat.max_le.mpr ⟨h2, h4⟩
theorem shp_lst {k : Nat} {ds : List D} (h : ∀ d, d ∈ ds → Shp k d) : Shp (k + 1) (.lst ds) := by
  obtain ⟨h1, h2⟩ := shp_all h
  unfold Shp
  simp only [toPy, PyData.canLay0, PyData.depth]
  exact ⟨h1, Nat.succ_le_succ h2⟩
theorem shp_tup {k : Nat} {ds : List D} (h : ∀ d, d ∈ ds → Shp k d) : Shp (k + 1) (.tup ds) := by
  obtain ⟨h1, h2⟩ := shp_all h
  unfold Shp
  simp only [toPy, PyData.canLay0, PyData.depth]
  exact ⟨h1, Nat.succ_le_succ h2⟩
def eqA (as bs : List D) : Bool := PyData.eqvAll (toPys as) (toPys bs)
theorem eqD_lst {as bs : List D} : eqD (.lst as) (.lst bs) = eqA as bs := by
  unfold eqD eqA
  simp only [toPy, PyData.eqv]
theorem eqD_tup {as bs : List D} : eqD (.tup as) (.tup bs) = eqA as bs := by
  unfold eqD eqA
  simp only [toPy, PyData.eqv]
theorem eqD_int {i j : Int} : eqD (.int i) (.int j) = decide (i = j) := by
  show (i == j) = decide (i = j)
  exact Bool.beq_eq_decide_eq i j
theorem eqA_nil : eqA [] [] = true := rfl
theorem eqA_cons {a b : D} {as bs : List D} : eqA (a :: as) (b :: bs) = (eqD a b && eqA as bs) := by
  unfold eqA eqD
  simp only [toPys, PyData.eqvAll]
theorem eqA_nc {a : D} {as : List D} : eqA [] (a :: as) = false := by
  unfold eqA
  simp only [toPys, PyData.eqvAll]
theorem eqA_cn {a : D} {as : List D} : eqA (a :: as) [] = false := by
  unfold eqA
  simp only [toPys, PyData.eqvAll]
theorem eqA_map {α : Type} [DecidableEq α] {f : α → D} (h : ∀ a b, eqD (f a) (f b) = decide (a = b)) : ∀ as bs : List α, eqA (as.map f) (bs.map f) = decide (as = bs)
  | [], [] => rfl
  | [], b :: bs => by rw [List.map_nil, List.map_cons, eqA_nc]; exact (decide_eq_false (by simp)).symm
  | a :: as, [] => by rw [List.map_nil, List.map_cons, eqA_cn]; exact (decide_eq_false (by simp)).symm
  | a :: as, b :: bs => by
    rw [List.map_cons, List.map_cons, eqA_cons, h, eqA_map h as bs]
    by_cases h1 : a = b <;> by_cases h2 : as = bs <;> simp [h1, h2]
theorem gEq_of {d e : D} {b : Bool} (h1 : shp d = true) (h2 : shp e = true) (h : eqD d e = b) : gEq d e = some (.val (.bl b)) := by
  unfold gEq
  rw [h1, h2, h]
  rfl
theorem gNe_of {d e : D} {b : Bool} (h1 : shp d = true) (h2 : shp e = true) (h : eqD d e = b) : gNe d e = some (.val (.bl (!b))) := by
  unfold gNe
  rw [h1, h2, h]
  rfl
abbrev R := Int × Int
def encR (p : R) : D := .tup [.int p.1, .int p.2]
def encL (xs : List R) : D := .lst (xs.map encR)
theorem shp_R (p : R) : Shp 1 (encR p) := shp_tup fun d h => by
  simp only [List.mem_cons, List.not_mem_nil, or_false] at h
  rcases h with rfl | rfl <;> exact shp_int
theorem shp_L (xs : List R) : Shp 2 (encL xs) := shp_lst fun d h => by
  obtain ⟨p, _, rfl⟩ := List.mem_map.mp h
  exact shp_R p
theorem eqD_R (p q : R) : eqD (encR p) (encR q) = decide (p = q) := by
  unfold encR
  rw [eqD_tup, eqA_cons, eqA_cons, eqD_int, eqD_int, eqA_nil]
  obtain ⟨a, b⟩ := p
  obtain ⟨c, d⟩ := q
  by_cases h1 : a = c <;> by_cases h2 : b = d <;> simp [h1, h2]
theorem eqD_L (xs ys : List R) : eqD (encL xs) (encL ys) = decide (xs = ys) := by
  unfold encL
  rw [eqD_lst]
  exact eqA_map eqD_R xs ys
theorem gEq_L (xs ys : List R) : gEq (encL xs) (encL ys) = some (.val (.bl (decide (xs = ys)))) := gEq_of (shp_of (shp_L xs) (by decide)) (shp_of (shp_L ys) (by decide)) (eqD_L xs ys)
theorem gNe_L (xs ys : List R) : gNe (encL xs) (encL ys) = some (.val (.bl (!decide (xs = ys)))) := gNe_of (shp_of (shp_L xs) (by decide)) (shp_of (shp_L ys) (by decide)) (eqD_L xs ys)
theorem gEq_Lm (xs ys : List R) : gEq (.lst (xs.map encR)) (.lst (ys.map encR)) = some (.val (.bl (decide (xs = ys)))) := gEq_L xs ys
theorem gNe_Lm (xs ys : List R) : gNe (.lst (xs.map encR)) (.lst (ys.map encR)) = some (.val (.bl (!decide (xs = ys)))) := gNe_L xs ys
theorem gEq_Ln (xs : List R) : gEq (.lst (xs.map encR)) (.lst []) = some (.val (.bl (decide (xs = [])))) := gEq_L xs []
theorem gNe_Ln (xs : List R) : gNe (.lst (xs.map encR)) (.lst []) = some (.val (.bl (!decide (xs = [])))) := gNe_L xs []
theorem ok_atI {α : Type} {xs : List α} {i : Int} {P : α → Prop} (h0 : 0 ≤ i) (h1 : i < xs.length) (h : ∀ x, xs[i.toNat]? = some x → P x) : Ok (L2.atI xs i) P := by
  have e : i = ((i.toNat : Nat) : Int) := by omega
  have hl : i.toNat < xs.length := by omega
  have e2 : L2.atI xs i = xs[i.toNat]? := by
    conv => lhs; rw [e]
    exact atI_natC
  exact ⟨xs[i.toNat], e2.trans (List.getElem?_eq_getElem hl), h _ (List.getElem?_eq_getElem hl)⟩
def KLT (I : Env → Prop) (P : Out → Prop) : Out → Prop
  | .nx e => I e
  | .ct e => I e
  | .bk e => P (.nx e)
  | .rt r e => P (.rt r e)
def KLB (b : SFn) (I : Env → Prop) (P : Out → Prop) : Env → Prop := fun e => Ok (b e) (KLT I P)
section
variable {e : Env} {r : RV} {I : Env → Prop} {P : Out → Prop} {b : SFn}
theorem k_lnx : KLT I P (.nx e) ↔ I e := Iff.rfl
theorem k_lct : KLT I P (.ct e) ↔ I e := Iff.rfl
theorem k_lbk : KLT I P (.bk e) ↔ P (.nx e) := Iff.rfl
theorem k_lrt : KLT I P (.rt r e) ↔ P (.rt r e) := Iff.rfl
theorem k_lb : KLB b I P e ↔ Ok (b e) (KLT I P) := Iff.rfl
end
theorem loop_inv {g : GF} {b : SFn} {P : Out → Prop} (Inv : Nat → Env → Prop) : ∀ (items : List D) (n : Nat) (env : Env), Inv n env →
    (∀ (i : Nat) (d : D) (env : Env), items[i]? = some d → Inv (n + i) env → Ok (g d env) (KLB b (Inv (n + i + 1)) P)) →
    (∀ env, Inv (n + items.length) env → P (.nx env)) → Ok (loopN g b items env) P
  | [], n, env, h0, _, hf => ok_some.mpr (hf env h0)
  | d :: ds, n, env, h0, hs, hf => by
    unfold loopN
    rw [ok_bind]
    refine ok_mono (hs 0 d env rfl h0) fun e he => ?_
    rw [ok_bind]
    refine ok_mono (Q := fun o => Ok _ P) he fun o ho => ?_
    have go := fun e (he : Inv (n + 1) e) => loop_inv (g := g) (b := b) (P := P) Inv ds (n + 1) e he (fun i d env hd hi => by
      have := hs (i + 1) d env (by simpa using hd) (by rw [show n + (i + 1) = n + 1 + i by omega]; exact hi)
      rw [show n + (i + 1) = n + 1 + i by omega] at this
      exact this) (fun env h => hf env (by rw [List.length_cons, show n + (ds.length + 1) = n + 1 + ds.length by omega]; exact h))
    cases o with
    | nx e => exact go e ho
    | ct e => exact go e ho
    | bk e => exact ok_some.mpr ho
    | rt r e => exact ok_some.mpr ho
/-- a comprehension: each turn gives an item, the state keeps its word -/
def KV3 (Inv : List D → Env → Prop) (acc : List D) : Env → Prop := fun w => Inv acc w
def KV2 (vs : List Nat) (Inv : List D → Env → Prop) (acc : List D) : RV × Env → Prop := fun a => ∃ y, frz a.1 = .val y ∧ Ok (wipeO vs a.2) (KV3 Inv (acc ++ [y]))
def KV1 (fe : EF) (vs : List Nat) (Inv : List D → Env → Prop) (acc : List D) : Bool × Env → Prop := fun b => (b.1 = true → Ok (fe b.2) (KV2 vs Inv acc)) ∧ (b.1 = false → Ok (wipeO vs b.2) (KV3 Inv acc))
def KV0 (tt : TF) (fe : EF) (vs : List Nat) (Inv : List D → Env → Prop) (acc : List D) : Env → Prop := fun e => Ok (tt e) (KV1 fe vs Inv acc)
section
variable {e : Env} {vs : List Nat} {Inv : List D → Env → Prop} {acc ds : List D} {fe : EF} {tt : TF} {d : D} {b : Bool}
theorem k_v3 : KV3 Inv acc e ↔ Inv acc e := Iff.rfl
theorem k_v2 : KV2 vs Inv acc (.val d, e) ↔ Ok (wipeO vs e) (KV3 Inv (acc ++ [d])) := ⟨fun ⟨y, h1, h2⟩ => by cases h1; exact h2, fun h => ⟨d, rfl, h⟩⟩
theorem k_v2n : KV2 vs Inv acc (.new ds, e) ↔ Ok (wipeO vs e) (KV3 Inv (acc ++ [.lst ds])) := ⟨fun ⟨y, h1, h2⟩ => by cases h1; exact h2, fun h => ⟨.lst ds, rfl, h⟩⟩
theorem k_v1 : KV1 fe vs Inv acc (b, e) ↔ (b = true → Ok (fe e) (KV2 vs Inv acc)) ∧ (b = false → Ok (wipeO vs e) (KV3 Inv acc)) := Iff.rfl
theorem k_v0 : KV0 tt fe vs Inv acc e ↔ Ok (tt e) (KV1 fe vs Inv acc) := Iff.rfl
end
theorem lc_inv {g : GF} {tt : TF} {fe : EF} {vs : List Nat} {P : List D × Env → Prop} (Inv : Nat → List D → Env → Prop) : ∀ (items : List D) (n : Nat) (acc : List D) (env : Env), Inv n acc env →
    (∀ (i : Nat) (d : D) (acc : List D) (env : Env), items[i]? = some d → Inv (n + i) acc env → Ok (g d env) (KV0 tt fe vs (Inv (n + i + 1)) acc)) →
    (∀ out env, Inv (n + items.length) (acc ++ out) env → P (out, env)) → Ok (lcN g tt fe vs items env) P
  | [], n, acc, env, h0, _, hf => ok_some.mpr (hf [] env (by rw [List.append_nil]; exact h0))
  | d :: ds, n, acc, env, h0, hs, hf => by
    unfold lcN
    rw [ok_bind]
    refine ok_mono (hs 0 d acc env rfl h0) fun e he => ?_
    rw [ok_bind]
    refine ok_mono (Q := fun b => Ok _ P) he fun b hb => ?_
    rw [ok_ite]
    have go := fun (acc' : List D) (Q : List D × Env → Prop) e (he : Inv (n + 1) acc' e) hf => lc_inv (g := g) (tt := tt) (fe := fe) (vs := vs) (P := Q) Inv ds (n + 1) acc' e he (fun i d acc env hd hi => by
      have := hs (i + 1) d acc env (by simpa using hd) (by rw [show n + (i + 1) = n + 1 + i by omega]; exact hi)
      rw [show n + (i + 1) = n + 1 + i by omega] at this
      exact this) hf
    constructor
    · intro c
      rw [ok_bind]
      refine ok_mono (hb.1 c) fun a ⟨y, hy, hw⟩ => ?_
      rw [hy]
      rw [ok_bind]
      refine ok_mono (Q := fun b => Ok _ P) hw fun w hw => ?_
      rw [ok_bind]
      refine go (acc ++ [y]) _ w hw fun out env h => ok_some.mpr (hf (y :: out) env ?_)
      rw [List.length_cons, show n + (ds.length + 1) = n + 1 + ds.length by omega]
      simpa using h
    · intro c
      rw [ok_bind]
      refine ok_mono (Q := fun b => Ok _ P) (hb.2 (by simpa using c)) fun w hw => ?_
      refine go acc _ w hw fun out env h => hf out env ?_
      rw [List.length_cons, show n + (ds.length + 1) = n + 1 + ds.length by omega]
      exact h
/-- a loop that goes on while a size falls -/
def KWT (I : Env → Prop) (sz : Env → Nat) (n : Nat) (P : Out → Prop) : Out → Prop
  | .nx e => I e ∧ sz e < n
  | .ct e => I e ∧ sz e < n
  | .bk e => P (.nx e)
  | .rt r e => P (.rt r e)
def KWC (b : SFn) (I : Env → Prop) (sz : Env → Nat) (n : Nat) (P : Out → Prop) : Bool × Env → Prop := fun x => (x.1 = true → Ok (b x.2) (KWT I sz n P)) ∧ (x.1 = false → P (.nx x.2))
section
variable {e : Env} {r : RV} {I : Env → Prop} {P : Out → Prop} {g : SFn} {sz : Env → Nat} {n : Nat} {b : Bool}
theorem k_wnx : KWT I sz n P (.nx e) ↔ I e ∧ sz e < n := Iff.rfl
theorem k_wct : KWT I sz n P (.ct e) ↔ I e ∧ sz e < n := Iff.rfl
theorem k_wbk : KWT I sz n P (.bk e) ↔ P (.nx e) := Iff.rfl
theorem k_wrt : KWT I sz n P (.rt r e) ↔ P (.rt r e) := Iff.rfl
theorem k_wc : KWC g I sz n P (b, e) ↔ (b = true → Ok (g e) (KWT I sz n P)) ∧ (b = false → P (.nx e)) := Iff.rfl
end
theorem while_inv {c : TF} {b : SFn} {P : Out → Prop} (Inv : Env → Prop) (sz : Env → Nat) (hs : ∀ env, Inv env → Ok (c env) (KWC b Inv sz (sz env) P)) : ∀ (n : Nat) (env : Env), Inv env → sz env < n → Ok (whileN c b n env) P
  | 0, env, _, h => by omega
  | n + 1, env, hi, h => by
    unfold whileN
    rw [ok_bind]
    refine ok_mono (Q := fun x => Ok _ P) (hs env hi) fun x hx => ?_
    rw [ok_ite]
    constructor
    · intro q
      rw [ok_bind]
      refine ok_mono (Q := fun x => Ok _ P) (hx.1 q) fun o ho => ?_
      cases o with
      | nx e => exact while_inv Inv sz hs n e ho.1 (by have := ho.2; omega)
      | ct e => exact while_inv Inv sz hs n e ho.1 (by have := ho.2; omega)
      | bk e => exact ok_some.mpr ho
      | rt r e => exact ok_some.mpr ho
    · intro q
      exact ok_some.mpr (hx.2 (by simpa using q))
section
variable {b : Bool} {i : Int} {x : Str} {ds : List D}
theorem isi_int_non : gIsi "int" .non = some (.val (.bl false)) := by
  show (kitB "NoneType" "int").bind _ = _
  rw [show kitB "NoneType" "int" = some false from by decide +kernel]
  rfl
theorem isi_int_bl : gIsi "int" (.bl b) = some (.val (.bl true)) := by
  show (kitB "bool" "int").bind _ = _
  rw [show kitB "bool" "int" = some true from by decide +kernel]
  rfl
theorem isi_int_int : gIsi "int" (.int i) = some (.val (.bl true)) := by
  show (kitB "int" "int").bind _ = _
  rw [show kitB "int" "int" = some true from by decide +kernel]
  rfl
theorem isi_int_str : gIsi "int" (.str x) = some (.val (.bl false)) := by
  show (kitB "str" "int").bind _ = _
  rw [show kitB "str" "int" = some false from by decide +kernel]
  rfl
theorem isi_int_lst : gIsi "int" (.lst ds) = some (.val (.bl false)) := by
  show (kitB "list" "int").bind _ = _
  rw [show kitB "list" "int" = some false from by decide +kernel]
  rfl
theorem isi_int_tup : gIsi "int" (.tup ds) = some (.val (.bl false)) := by
  show (kitB "tuple" "int").bind _ = _
  rw [show kitB "tuple" "int" = some false from by decide +kernel]
  rfl
theorem isi_bool_non : gIsi "bool" .non = some (.val (.bl false)) := by
  show (kitB "NoneType" "bool").bind _ = _
  rw [show kitB "NoneType" "bool" = some false from by decide +kernel]
  rfl
theorem isi_bool_bl : gIsi "bool" (.bl b) = some (.val (.bl true)) := by
  show (kitB "bool" "bool").bind _ = _
  rw [show kitB "bool" "bool" = some true from by decide +kernel]
  rfl
theorem isi_bool_int : gIsi "bool" (.int i) = some (.val (.bl false)) := by
  show (kitB "int" "bool").bind _ = _
  rw [show kitB "int" "bool" = some false from by decide +kernel]
  rfl
theorem isi_bool_str : gIsi "bool" (.str x) = some (.val (.bl false)) := by
  show (kitB "str" "bool").bind _ = _
  rw [show kitB "str" "bool" = some false from by decide +kernel]
  rfl
theorem isi_bool_lst : gIsi "bool" (.lst ds) = some (.val (.bl false)) := by
  show (kitB "list" "bool").bind _ = _
  rw [show kitB "list" "bool" = some false from by decide +kernel]
  rfl
theorem isi_bool_tup : gIsi "bool" (.tup ds) = some (.val (.bl false)) := by
  show (kitB "tuple" "bool").bind _ = _
  rw [show kitB "tuple" "bool" = some false from by decide +kernel]
  rfl
theorem isi_tuple_non : gIsi "tuple" .non = some (.val (.bl false)) := by
  show (kitB "NoneType" "tuple").bind _ = _
  rw [show kitB "NoneType" "tuple" = some false from by decide +kernel]
  rfl
theorem isi_tuple_bl : gIsi "tuple" (.bl b) = some (.val (.bl false)) := by
  show (kitB "bool" "tuple").bind _ = _
  rw [show kitB "bool" "tuple" = some false from by decide +kernel]
  rfl
theorem isi_tuple_int : gIsi "tuple" (.int i) = some (.val (.bl false)) := by
  show (kitB "int" "tuple").bind _ = _
  rw [show kitB "int" "tuple" = some false from by decide +kernel]
  rfl
theorem isi_tuple_str : gIsi "tuple" (.str x) = some (.val (.bl false)) := by
  show (kitB "str" "tuple").bind _ = _
  rw [show kitB "str" "tuple" = some false from by decide +kernel]
  rfl
theorem isi_tuple_lst : gIsi "tuple" (.lst ds) = some (.val (.bl false)) := by
  show (kitB "list" "tuple").bind _ = _
  rw [show kitB "list" "tuple" = some false from by decide +kernel]
  rfl
theorem isi_tuple_tup : gIsi "tuple" (.tup ds) = some (.val (.bl true)) := by
  show (kitB "tuple" "tuple").bind _ = _
  rw [show kitB "tuple" "tuple" = some true from by decide +kernel]
  rfl
theorem isi_list_non : gIsi "list" .non = some (.val (.bl false)) := by
  show (kitB "NoneType" "list").bind _ = _
  rw [show kitB "NoneType" "list" = some false from by decide +kernel]
  rfl
theorem isi_list_bl : gIsi "list" (.bl b) = some (.val (.bl false)) := by
  show (kitB "bool" "list").bind _ = _
  rw [show kitB "bool" "list" = some false from by decide +kernel]
  rfl
theorem isi_list_int : gIsi "list" (.int i) = some (.val (.bl false)) := by
  show (kitB "int" "list").bind _ = _
  rw [show kitB "int" "list" = some false from by decide +kernel]
  rfl
theorem isi_list_str : gIsi "list" (.str x) = some (.val (.bl false)) := by
  show (kitB "str" "list").bind _ = _
  rw [show kitB "str" "list" = some false from by decide +kernel]
  rfl
theorem isi_list_lst : gIsi "list" (.lst ds) = some (.val (.bl true)) := by
  show (kitB "list" "list").bind _ = _
  rw [show kitB "list" "list" = some true from by decide +kernel]
  rfl
theorem isi_list_tup : gIsi "list" (.tup ds) = some (.val (.bl false)) := by
  show (kitB "tuple" "list").bind _ = _
  rw [show kitB "tuple" "list" = some false from by decide +kernel]
  rfl
theorem isi_str_non : gIsi "str" .non = some (.val (.bl false)) := by
  show (kitB "NoneType" "str").bind _ = _
  rw [show kitB "NoneType" "str" = some false from by decide +kernel]
  rfl
theorem isi_str_bl : gIsi "str" (.bl b) = some (.val (.bl false)) := by
  show (kitB "bool" "str").bind _ = _
  rw [show kitB "bool" "str" = some false from by decide +kernel]
  rfl
theorem isi_str_int : gIsi "str" (.int i) = some (.val (.bl false)) := by
  show (kitB "int" "str").bind _ = _
  rw [show kitB "int" "str" = some false from by decide +kernel]
  rfl
theorem isi_str_str : gIsi "str" (.str x) = some (.val (.bl true)) := by
  show (kitB "str" "str").bind _ = _
  rw [show kitB "str" "str" = some true from by decide +kernel]
  rfl
theorem isi_str_lst : gIsi "str" (.lst ds) = some (.val (.bl false)) := by
  show (kitB "list" "str").bind _ = _
  rw [show kitB "list" "str" = some false from by decide +kernel]
  rfl
theorem isi_str_tup : gIsi "str" (.tup ds) = some (.val (.bl false)) := by
  show (kitB "tuple" "str").bind _ = _
  rw [show kitB "tuple" "str" = some false from by decide +kernel]
  rfl
end
/-- a comprehension that gives for each item h of it, and leaves the state -/
theorem lc_map {α : Type} {g : GF} {tt : TF} {fe : EF} {vs : List Nat} {P : List D × Env → Prop} {env : Env} {c : α → D} {h : α → D} {xs : List α}
    (hs : ∀ x, x ∈ xs → ∀ acc, Ok (g (c x) env) (KV0 tt fe vs (fun a e => a = acc ++ [h x] ∧ e = env) acc)) (hf : P (xs.map h, env)) : Ok (lcN g tt fe vs (xs.map c) env) P := by
  refine lc_inv (fun n acc e => acc = (xs.take n).map h ∧ e = env) (xs.map c) 0 [] env ⟨rfl, rfl⟩ (fun i d acc e hd hi => ?_) fun out e hi => ?_
  · obtain ⟨rfl, rfl⟩ := hi
    rw [List.getElem?_map] at hd
    obtain ⟨x, hx, rfl⟩ := Option.map_eq_some_iff.mp hd
    have key : (fun (a : List D) (e' : Env) => a = (xs.take (0 + i)).map h ++ [h x] ∧ e' = e) = (fun (a : List D) (e' : Env) => a = (xs.take (0 + i + 1)).map h ∧ e' = e) := by
      funext a e'
      rw [List.take_add_one, Nat.zero_add, hx, List.map_append]
      rfl
    have := hs x (List.mem_of_getElem? hx) ((xs.take (0 + i)).map h)
    rw [key] at this
    exact this
  · obtain ⟨h1, rfl⟩ := hi
    rw [List.nil_append, Nat.zero_add, List.length_map, List.take_length] at h1
    rw [h1]
    exact hf
theorem free_keep {x : Option SV} : freeP (keepFz x) = true := by
  unfold keepFz
  split <;> rfl
theorem keep_no : keepFz (some .no) = .no := rfl
theorem keep_fz {d : D} : keepFz (some (.fz d)) = .fz d := rfl
theorem keep_o1 {ds : List D} : keepFz (some (.o1 ds)) = .no := rfl
theorem gAdd_lst {a b : List D} : gAdd (.lst a) (.lst b) = if a.length + b.length ≤ 10000000 then some (.new (a ++ b)) else none := by
  unfold gAdd gI0 gCat gCatS
  simp only [Option.none_or, Option.or_none]
theorem gMul_lst {a : List D} {k : Int} : gMul (.lst a) (.int k) = if a.length * k.toNat ≤ 10000000 ∧ -1000000000 ≤ k ∧ k ≤ 1000000000 then some (.new (List.replicate k.toNat a).flatten) else none := by
  unfold gMul gI gRep
  simp only [Option.none_or]
theorem rangeD_get {lo : Int} {n i : Nat} {d : D} (h : (rangeD lo n)[i]? = some d) : i < n ∧ d = .int (lo + (i : Nat)) := by
  unfold rangeD at h
  rw [List.getElem?_map] at h
  obtain ⟨k, h1, h2⟩ := Option.map_eq_some_iff.mp h
  by_cases c : i < n
  · rw [List.getElem?_range c] at h1
    cases h1
    exact ⟨c, h2.symm⟩
  · rw [List.getElem?_eq_none (by simpa using c)] at h1
    cases h1
theorem rangeD_len {lo : Int} {n : Nat} : (rangeD lo n).length = n := by simp [rangeD]
theorem rangeD_1 : rangeD 0 1 = [.int 0] := rfl
theorem rangeD_2 : rangeD 0 2 = [.int 0, .int 1] := rfl
theorem rangeD_3 : rangeD 0 3 = [.int 0, .int 1, .int 2] := rfl
theorem rangeD_4 : rangeD 0 4 = [.int 0, .int 1, .int 2, .int 3] := rfl
end Dv
namespace Dv
open PySem L2
section
variable {P : RV × Env → Prop} {PO : Out → Prop} {env e : Env} {f : EF} {fr : AF} {rs : List RV}
theorem w_raise {n : Nat} : Ok (fRaise n env) PO ↔ PO (.rt (.ex n) env) := ok_some
def KDropX (PO : Out → Prop) : RV × Env → Prop := fun a => match a.1 with
  | .ex n => PO (.rt (.ex n) a.2)
  | _ => PO (.nx a.2)
theorem k_dropXe {n : Nat} : KDropX PO (.ex n, e) ↔ PO (.rt (.ex n) e) := Iff.rfl
theorem k_dropXv {d : D} : KDropX PO (.val d, e) ↔ PO (.nx e) := Iff.rfl
theorem k_dropXn {ds : List D} : KDropX PO (.new ds, e) ↔ PO (.nx e) := Iff.rfl
theorem w_dropX : Ok (fDropX f env) PO ↔ Ok (f env) (KDropX PO) := by
  refine ok_bind_iff fun ⟨r, e⟩ => ?_
  cases r <;> exact ok_some (P := PO)
def KAsgX (g : GF) (PO : Out → Prop) : RV × Env → Prop := fun a => match a.1 with
  | .ex n => PO (.rt (.ex n) a.2)
  | .val d => Ok (g d a.2) (KNx PO)
  | .new ds => Ok (g (.lst ds) a.2) (KNx PO)
  | _ => False
theorem k_asgXe {g : GF} {n : Nat} : KAsgX g PO (.ex n, e) ↔ PO (.rt (.ex n) e) := Iff.rfl
theorem k_asgXv {g : GF} {d : D} : KAsgX g PO (.val d, e) ↔ Ok (g d e) (KNx PO) := Iff.rfl
theorem k_asgXn {g : GF} {ds : List D} : KAsgX g PO (.new ds, e) ↔ Ok (g (.lst ds) e) (KNx PO) := Iff.rfl
theorem w_asgX {g : GF} : Ok (fAsgX f g env) PO ↔ Ok (f env) (KAsgX g PO) := by
  refine ok_bind_iff fun ⟨r, e⟩ => ?_
  cases r with
  | ex n => exact ok_some (P := PO)
  | val d => exact ok_bind_iff (P := PO) fun e => ok_some (P := PO)
  | new ds => exact ok_bind_iff (P := PO) fun e => ok_some (P := PO)
  | tw ds => first | (exact ok_bind_iff (P := PO) fun e => ok_some (P := PO)) | exact ok_none (P := PO) | exact ok_none (P := PT) | exact ok_none (P := PP) | exact ok_none (P := PI) | exact ok_none (P := PF) | exact ok_none (P := P) | exact ok_none
  | slot i => exact ok_none (P := PO)
def KBackX (bor : List Nat) (e : Env) (P : RV × Env → Prop) : Except Nat (D × Bool × List (List D)) → Prop
  | .error n => P (.ex n, e)
  | .ok r => r.2.2.isEmpty = true ∧ Ok (resR r) fun z => lentOk bor z = true ∧ P (z, e)
theorem k_backXe {bor : List Nat} {n : Nat} : KBackX bor e P (.error n) ↔ P (.ex n, e) := Iff.rfl
theorem k_backXv {bor : List Nat} {d : D} : KBackX bor e P (.ok (d, false, [])) ↔ (bor.isEmpty || noL d) = true ∧ P (.val d, e) := by
  have : resR (d, false, []) = some (.val d) := by cases d <;> rfl
  show (_ ∧ Ok (resR (d, false, [])) fun z => lentOk bor z = true ∧ P (z, e)) ↔ _
  rw [this, ok_some]
  exact ⟨fun h => h.2, fun h => ⟨rfl, h⟩⟩
theorem k_backXn {bor : List Nat} {ds : List D} : KBackX bor e P (.ok (.lst ds, true, [])) ↔ (bor.isEmpty || noLs ds) = true ∧ P (.new ds, e) := by
  show (_ ∧ Ok (some (RV.new ds)) fun z => lentOk bor z = true ∧ P (z, e)) ↔ _
  rw [ok_some]
  exact ⟨fun h => h.2, fun h => ⟨rfl, h⟩⟩
def QArgX (io : List Bool) (g : FX) (e : Env) (P : RV × Env → Prop) : List D × List Nat × List Nat → Prop := fun x => (x.2.1.isEmpty && io.all (fun b => !b)) = true ∧ Ok (g x.1) (KBackX x.2.2 e P)
theorem q_argX {io : List Bool} {g : FX} {ds : List D} {ios bor : List Nat} : QArgX io g e P (ds, ios, bor) ↔ (ios.isEmpty && io.all (fun b => !b)) = true ∧ Ok (g ds) (KBackX bor e P) := Iff.rfl
def KCallX (io : List Bool) (g : FX) (P : RV × Env → Prop) : List RV × Env → Prop := fun a => Ok (argD a.2 io a.1) (QArgX io g a.2 P)
theorem k_callX {io : List Bool} {g : FX} : KCallX io g P (rs, e) ↔ Ok (argD e io rs) (QArgX io g e P) := Iff.rfl
theorem w_callX {io : List Bool} {g : FX} : Ok (fCallX io g fr env) P ↔ Ok (fr env) (KCallX io g P) := by
  refine ok_bind_iff fun a => ok_bind_iff fun x => ?_
  rw [ok_guard]
  refine and_congr_right fun _ => ok_bind_iff fun r => ?_
  cases r with
  | error n => exact ok_some (P := P)
  | ok r =>
    show Ok (if r.2.2.isEmpty then _ else none) P ↔ _
    rw [ok_guard]
    refine and_congr_right fun _ => ok_bind_iff fun z => ?_
    rw [ok_guard, ok_some]
def KRx (PO : Out → Prop) : RV × Env → Prop := fun a => match a.1 with
  | .ex _ => False
  | r => PO (.rt r a.2)
theorem k_rxv {d : D} : KRx PO (.val d, e) ↔ PO (.rt (.val d) e) := Iff.rfl
theorem k_rxn {ds : List D} : KRx PO (.new ds, e) ↔ PO (.rt (.new ds) e) := Iff.rfl
def KHnd (h : Nat → EF) (n : Nat) (PO : Out → Prop) : Env → Prop := fun e1 => Ok (h n e1) (KRx PO)
theorem k_hnd {h : Nat → EF} {n : Nat} : KHnd h n PO e ↔ Ok (h n e) (KRx PO) := Iff.rfl
def KTry (i : Nat) (ks : List Nat) (h : Nat → EF) (PO : Out → Prop) : Out → Prop
  | .rt (.ex n) e => n ∈ ks ∧ Ok (putS i .no e) (KHnd h n PO)
  | o => PO o
theorem k_tryE {i n : Nat} {ks : List Nat} {h : Nat → EF} : KTry i ks h PO (.rt (.ex n) e) ↔ n ∈ ks ∧ Ok (putS i .no e) (KHnd h n PO) := Iff.rfl
theorem k_tryV {i : Nat} {d : D} {ks : List Nat} {h : Nat → EF} : KTry i ks h PO (.rt (.val d) e) ↔ PO (.rt (.val d) e) := Iff.rfl
theorem k_tryW {i : Nat} {ds : List D} {ks : List Nat} {h : Nat → EF} : KTry i ks h PO (.rt (.new ds) e) ↔ PO (.rt (.new ds) e) := Iff.rfl
theorem k_tryN {i : Nat} {ks : List Nat} {h : Nat → EF} : KTry i ks h PO (.nx e) ↔ PO (.nx e) := Iff.rfl
theorem w_try {i : Nat} {ks : List Nat} {g : SFn} {h : Nat → EF} : Ok (fTry i ks g h env) PO ↔ Ok (g env) (KTry i ks h PO) := by
  refine ok_bind_iff fun o => ?_
  cases o with
  | nx e => exact ok_some (P := PO)
  | bk e => exact ok_some (P := PO)
  | ct e => exact ok_some (P := PO)
  | rt r e =>
    cases r with
    | val d => exact ok_some (P := PO)
    | new ds => exact ok_some (P := PO)
    | tw ds => first | (exact ok_some (P := PO)) | exact ok_none (P := PO) | exact ok_none (P := PT) | exact ok_none (P := PP) | exact ok_none (P := PI) | exact ok_none (P := PF) | exact ok_none (P := P) | exact ok_none
    | slot j => exact ok_some (P := PO)
    | ex n =>
      show Ok (if n ∈ ks then _ else none) PO ↔ _
      rw [ok_guard]
      refine and_congr_right fun _ => ok_bind_iff fun e1 => ok_bind_iff fun ⟨r, e2⟩ => ?_
      cases r with
      | ex m => exact ok_none (P := PO)
      | val d => exact ok_some (P := PO)
      | new ds => exact ok_some (P := PO)
      | tw ds => first | (exact ok_some (P := PO)) | exact ok_none (P := PO) | exact ok_none (P := PT) | exact ok_none (P := PP) | exact ok_none (P := PI) | exact ok_none (P := PF) | exact ok_none (P := P) | exact ok_none
      | slot j => exact ok_some (P := PO)
def KFinX (io : List Bool) (PX : Except Nat (D × Bool × List (List D)) → Prop) : Out → Prop
  | .rt (.ex n) _ => PX (.error n)
  | o => KFin io (fun r => PX (.ok r)) o
theorem k_finE {io : List Bool} {PX : Except Nat (D × Bool × List (List D)) → Prop} {n : Nat} : KFinX io PX (.rt (.ex n) e) ↔ PX (.error n) := Iff.rfl
theorem k_finXo {io : List Bool} {PX : Except Nat (D × Bool × List (List D)) → Prop} {d : D} : KFinX io PX (.rt (.val d) e) ↔ outF io d false e fun r => PX (.ok r) := Iff.rfl
theorem k_finXw {io : List Bool} {PX : Except Nat (D × Bool × List (List D)) → Prop} {ds : List D} : KFinX io PX (.rt (.new ds) e) ↔ outF io (.lst ds) true e fun r => PX (.ok r) := Iff.rfl
theorem k_finXn {io : List Bool} {PX : Except Nat (D × Bool × List (List D)) → Prop} : KFinX io PX (.nx e) ↔ outF io .non false e fun r => PX (.ok r) := Iff.rfl
theorem w_defX {m : Nat} {io : List Bool} {b : SFn} {ds : List D} {e0 : Env} {PX : Except Nat (D × Bool × List (List D)) → Prop} (he : argS io ds = some e0) : Ok (fDefX m io b ds) PX ↔ Ok (b (e0 ++ List.replicate m .no)) (KFinX io PX) := by
  have key : ∀ o : Out, Ok ((finF io o).bind fun r => some (Except.ok (ε := Nat) r)) PX ↔ KFin io (fun r => PX (.ok r)) o := fun o => by
    rw [ok_bind]
    have : Ok (finF io o) (fun r => Ok (some (Except.ok (ε := Nat) r)) PX) ↔ Ok (finF io o) fun r => PX (.ok r) := ⟨fun z => ok_mono z fun r y => ok_some.mp y, fun z => ok_mono z fun r y => ok_some.mpr y⟩
    rw [this]
    have w := w_def (m := 0) (io := []) (b := fun _ => some o) (ds := []) (e0 := []) (PF := fun r => PX (.ok r)) rfl
    cases o with
    | nx e => exact out_ok.symm
    | bk e => exact ok_none
    | ct e => exact ok_none
    | rt r e =>
      cases r with
      | ex n => exact ok_none
      | val d => exact out_ok.symm
      | new ds => exact out_ok.symm
      | tw ds => first | (exact out_ok.symm) | exact ok_none (P := PO) | exact ok_none (P := PT) | exact ok_none (P := PP) | exact ok_none (P := PI) | exact ok_none (P := PF) | exact ok_none (P := P) | exact ok_none
      | slot i =>
        unfold finF KFin
        dsimp only
        cases e[i]? with
        | none => exact ok_none
        | some v => cases v <;> first | exact ok_none | exact out_ok.symm
  unfold fDefX
  rw [he, Option.bind_some]
  refine ok_bind_iff fun o => ?_
  cases o with
  | nx e => exact key (.nx e)
  | bk e => exact key (.bk e)
  | ct e => exact key (.ct e)
  | rt r e =>
    cases r with
    | ex n => exact ok_some
    | val d => exact key (.rt (.val d) e)
    | new ds => exact key (.rt (.new ds) e)
    | tw ds => exact key (.rt (.tw ds) e)
    | slot i => exact key (.rt (.slot i) e)
end
end Dv
namespace Dv
open PySem L2
section
variable {P : RV × Env → Prop} {PO : Out → Prop} {env e : Env} {f fa fb : EF} {fr : AF} {rs : List RV} {r : RV}
def KIsE (a : Addr) (b : Bool) (P : RV × Env → Prop) : RV × Env → Prop := fun z => match z.1 with
  | .val (.adr x) => x = a ∧ P (.val (.bl b), z.2)
  | _ => False
theorem k_isE {a : Addr} {b : Bool} : KIsE a b P (.val (.adr a), e) ↔ P (.val (.bl b), e) := ⟨fun h => h.2, fun h => ⟨rfl, h⟩⟩
theorem w_isE {i : Nat} {a : Addr} {b : Bool} : Ok (fIsE i a b env) P ↔ Ok (fVar i env) (KIsE a b P) := by
  unfold fIsE fVar
  cases env[i]? with
  | none => exact ⟨fun h => (ok_none.mp h).elim, fun h => (ok_none.mp h).elim⟩
  | some s =>
    cases s with
    | no => exact ⟨fun h => (ok_none.mp h).elim, fun h => (ok_none.mp h).elim⟩
    | nw w => exact ⟨fun h => (ok_none.mp h).elim, fun h => (ok_none.mp h).elim⟩
    | o1 ds => exact ⟨fun h => (ok_none.mp h).elim, fun h => (ok_some.mp h).elim⟩
    | io ds => exact ⟨fun h => (ok_none.mp h).elim, fun h => (ok_some.mp h).elim⟩
    | fz d =>
      dsimp only
      rw [ok_some]
      cases d with
      | adr x => dsimp only; rw [ok_guard, ok_some]; exact Iff.rfl
      | _ => exact ⟨fun h => (ok_none.mp h).elim, fun h => h.elim⟩
/-- x.m(y) -/
def KM1b (g : G2) (r : RV) (P : RV × Env → Prop) : RV × Env → Prop := fun b => D2 g (deref b.2 r) (deref b.2 b.1) b.2 P
def QM1 (g : G2) (fa : EF) (r : RV) (e : Env) (P : RV × Env → Prop) : Option D → Prop
  | some (.lst _) => Ok (fa e) (KM1b g r P)
  | _ => False
def KM1 (g : G2) (fa : EF) (P : RV × Env → Prop) : RV × Env → Prop := fun a => QM1 g fa a.1 a.2 P (deref a.2 a.1)
theorem k_m1b {g : G2} {r' : RV} : KM1b g r P (r', e) ↔ D2 g (deref e r) (deref e r') e P := Iff.rfl
theorem q_m1 {g : G2} {ds : List D} : QM1 g fa r e P (some (.lst ds)) ↔ Ok (fa e) (KM1b g r P) := Iff.rfl
theorem k_m1 {g : G2} : KM1 g fa P (r, e) ↔ QM1 g fa r e P (deref e r) := Iff.rfl
theorem w_m1 {g : G2} {i : Nat} : Ok (fM1 g i fa env) P ↔ Ok (fVar i env) (KM1 g fa P) := by
  refine ok_bind_iff fun ⟨r, e⟩ => ?_
  show Ok (Option.bind (deref e r) _) P ↔ QM1 g fa r e P (deref e r)
  cases hd : deref e r with
  | none => exact ⟨fun h => (ok_none.mp h).elim, fun h => h.elim⟩
  | some w =>
    rw [Option.bind_some]
    cases w with
    | lst ds =>
      show Ok (Option.bind (fa e) _) P ↔ _
      refine ok_bind_iff fun b => ?_
      show _ ↔ D2 g (deref b.2 r) (deref b.2 b.1) b.2 P
      constructor
      · intro z
        obtain ⟨q, e, p⟩ := z
        obtain ⟨x, e1, e⟩ := bnd e
        obtain ⟨y, e2, e⟩ := bnd e
        obtain ⟨w, e3, e⟩ := bnd e
        cases e
        rw [e1, e2]
        exact ⟨w, e3, p⟩
      · intro z'
        unfold D2 at z'
        split at z'
        · rename_i x y h1 h2
          obtain ⟨w, e3, p⟩ := z'
          exact ⟨(w, b.2), by rw [h1, h2]; simp [e3], p⟩
        · exact z'.elim
    | _ => exact ⟨fun h => (ok_none.mp h).elim, fun h => h.elim⟩
end
section
variable {P : RV × Env → Prop} {env e : Env} {f : EF}
def KBackN (e : Env) (P : RV × Env → Prop) : D × Bool × List (List D) → Prop := fun r => match resR r with
  | some z => P (z, e)
  | none => False
def KCallN (g : FF) (P : RV × Env → Prop) : RV × Env → Prop := fun a => match a.1 with
  | .new ds => Ok (g [.lst ds]) (KBackN a.2 P)
  | _ => False
theorem k_backNF {d : D} {outs : List (List D)} : KBackN e P (d, false, outs) ↔ P (.val d, e) := by
  unfold KBackN resR
  cases d <;> exact Iff.rfl
theorem k_backNT {ds : List D} {outs : List (List D)} : KBackN e P (.lst ds, true, outs) ↔ P (.new ds, e) := Iff.rfl
theorem k_callN {g : FF} {ds : List D} : KCallN g P (.new ds, e) ↔ Ok (g [.lst ds]) (KBackN e P) := Iff.rfl
theorem w_callN {g : FF} : Ok (fCallN g f env) P ↔ Ok (f env) (KCallN g P) := by
  refine ok_bind_iff fun ⟨r, e⟩ => ?_
  cases r with
  | new ds =>
    show Ok (Option.bind (g [.lst ds]) _) P ↔ Ok (g [.lst ds]) (KBackN e P)
    refine ok_bind_iff fun x => ?_
    show Ok (Option.bind (resR x) _) P ↔ _
    unfold KBackN
    cases resR x with
    | none => exact ⟨fun h => (ok_none.mp h).elim, fun h => h.elim⟩
    | some z => exact ok_some
  | _ => exact ⟨fun h => (ok_none.mp h).elim, fun h => h.elim⟩
end
section
variable {P : RV × Env → Prop} {env e : Env} {f : EF} {i : Nat} {r : RV} {a b : SV} {d d' : D} {ds es : List D}
def KLend (i : Nat) (ds : List D) (env : Env) (P : RV × Env → Prop) : RV × Env → Prop := fun a => (a.2.all ownNoL && noR a.1) = true ∧ P (a.1, (List.zipWith mergeS env a.2).set i (.o1 ds))
def QLend (i : Nat) (f : EF) (env : Env) (P : RV × Env → Prop) : Option SV → Prop
  | some (.o1 ds) => Ok (f (env.set i (.fz (.lst ds)))) (KLend i ds env P)
  | _ => False
theorem q_lend : QLend i f env P (some (.o1 ds)) ↔ Ok (f (env.set i (.fz (.lst ds)))) (KLend i ds env P) := Iff.rfl
theorem k_lend : KLend i ds env P (r, e) ↔ (e.all ownNoL && noR r) = true ∧ P (r, (List.zipWith mergeS env e).set i (.o1 ds)) := Iff.rfl
theorem w_lend : Ok (fLend i f env) P ↔ QLend i f env P env[i]? := by
  unfold fLend
  cases env[i]? with
  | none => exact ⟨fun h => (ok_none.mp h).elim, fun h => h.elim⟩
  | some s =>
    cases s with
    | o1 ds =>
      show Ok (Option.bind _ _) P ↔ Ok _ _
      refine ok_bind_iff fun x => ?_
      rw [ok_guard, ok_some]
      exact Iff.rfl
    | _ => exact ⟨fun h => (ok_none.mp h).elim, fun h => h.elim⟩
theorem m_fz : mergeS (.fz d) b = .fz d := by cases b <;> rfl
theorem m_no : mergeS .no b = .no := by cases b <;> rfl
theorem m_oo : mergeS (.o1 ds) (.o1 es) = .o1 es := rfl
theorem m_ii : mergeS (.io ds) (.io es) = .io es := rfl
theorem m_of : mergeS (.o1 ds) (.fz d) = .no := rfl
theorem o_fz : ownNoL (.fz d) = true := rfl
theorem o_no : ownNoL .no = true := rfl
theorem o_o1 : ownNoL (.o1 ds) = noLs ds := rfl
theorem o_io : ownNoL (.io ds) = noLs ds := rfl
theorem n_val : noR (.val d) = noL d := rfl
theorem n_new : noR (.new ds) = noLs ds := rfl
end
section
variable {P : RV × Env → Prop} {PO : Out → Prop} {env e : Env} {f : EF} {i : Nat} {d : D} {ds : List D}
def dropL : List D → Option (List D) := fun ds => some ds.dropLast
theorem dropL_eq : dropL ds = some ds.dropLast := rfl
def KPop2 (d : D) (P : RV × Env → Prop) : Env → Prop := fun e => P (.val d, e)
def KPop1 (i : Nat) (env : Env) (P : RV × Env → Prop) : D → Prop := fun d => Ok (upO i dropL env) (KPop2 d P)
def QPop (i : Nat) (env : Env) (P : RV × Env → Prop) : Option D → Prop
  | some (.lst ds) => Ok ds.getLast? (KPop1 i env P)
  | _ => False
theorem k_pop2 : KPop2 d P e ↔ P (.val d, e) := Iff.rfl
theorem k_pop1 : KPop1 i env P d ↔ Ok (upO i dropL env) (KPop2 d P) := Iff.rfl
theorem q_pop : QPop i env P (some (.lst ds)) ↔ Ok ds.getLast? (KPop1 i env P) := Iff.rfl
theorem w_pop : Ok (fPop i env) P ↔ QPop i env P (deref env (.slot i)) := by
  unfold fPop
  cases deref env (.slot i) with
  | none => exact ⟨fun h => (ok_none.mp h).elim, fun h => h.elim⟩
  | some w =>
    cases w with
    | lst ds =>
      show Ok (Option.bind (ds[ds.length - 1]?) _) P ↔ Ok ds.getLast? _
      rw [← List.getLast?_eq_getElem?]
      refine ok_bind_iff fun d => ?_
      exact ok_bind_iff fun e => ok_some
    | _ => exact ⟨fun h => (ok_none.mp h).elim, fun h => h.elim⟩
def KOwnV (i : Nat) (PO : Out → Prop) : RV × Env → Prop := fun a => match a.1 with
  | .new ds => Ok (putS i (.o1 ds) a.2) (KNx PO)
  | .val d => Ok (gfName i d a.2) (KNx PO)
  | _ => False
theorem k_ownVn : KOwnV i PO (.new ds, e) ↔ Ok (putS i (.o1 ds) e) (KNx PO) := Iff.rfl
theorem k_ownVv : KOwnV i PO (.val d, e) ↔ Ok (gfName i d e) (KNx PO) := Iff.rfl
theorem w_ownV : Ok (fOwnV i f env) PO ↔ Ok (f env) (KOwnV i PO) := by
  refine ok_bind_iff fun ⟨r, e⟩ => ?_
  cases r with
  | new ds => exact ok_bind_iff fun e => ok_some
  | val d => exact ok_bind_iff fun e => ok_some
  | _ => exact ⟨fun h => (ok_none.mp h).elim, fun h => h.elim⟩
end
theorem ixN30 : ixN 3 0 = some 0 := by decide
theorem ixN31 : ixN 3 1 = some 1 := by decide
theorem ixN32 : ixN 3 2 = some 2 := by decide
theorem gSortSet_R (xs : List R) : gSortSet [.lst (xs.map encR)] = if xs.length ≤ 9900 then some (.new ((srtP xs).map encR)) else none := gSortSet_L xs
end Dv
namespace Dv
open PySem L2
theorem hu1 {n c : Nat} (h : n + 64 < c) : n + 1 < c := by omega
section
variable {P : RV × Env → Prop} {PO : Out → Prop} {env e : Env} {f fa fb fk fe fx : EF} {fr : AF} {rs : List RV} {r : RV} {i : Nat} {d kd x : D} {s : SV} {kvs : List (List Int × D)} {k : List Int}
theorem dct_0 : dctAt (.nw (.dct kvs) :: env) 0 = some kvs := rfl
theorem dct_s : dctAt (s :: env) (i + 1) = dctAt env i := by
  unfold dctAt
  rw [List.getElem?_cons_succ]
theorem free_nw {w : OV} : freeP (.nw w) = true := rfl
theorem keep_nw {w : OV} : keepFz (some (.nw w)) = .no := rfl
theorem w_dnew : Ok (fDNew i env) PO ↔ Ok (putS i (.nw (.dct [])) env) (KNx PO) := ok_bind_iff fun e => ok_some
def QTupN (e : Env) (P : RV × Env → Prop) : List D → Prop := fun ds => ds.length ≤ 10000000 ∧ P (.val (.nt ds), e)
def KTupN (P : RV × Env → Prop) : List RV × Env → Prop := fun a => DV (allVal a.1) (QTupN a.2 P)
theorem q_tupN {ds : List D} : QTupN e P ds ↔ ds.length ≤ 10000000 ∧ P (.val (.nt ds), e) := Iff.rfl
theorem k_tupN : KTupN P (rs, e) ↔ DV (allVal rs) (QTupN e P) := Iff.rfl
theorem w_tupN : Ok (fTupN fr env) P ↔ Ok (fr env) (KTupN P) := by
  refine ok_bind_iff fun a => ?_
  show _ ↔ DV (allVal a.1) (QTupN a.2 P)
  unfold DV
  cases allVal a.1 with
  | none => exact ⟨fun h => (ok_none.mp h).elim, fun h => h.elim⟩
  | some ds =>
    rw [Option.bind_some, ok_guard, ok_some]
    exact Iff.rfl
theorem w_varN : Ok (fVarN i env) P ↔ (match env[i]? with | some (.fz (.nt ds)) => P (.val (.tup ds), env) | _ => False) := by
  unfold fVarN
  split <;> simp_all [ok_some, ok_none]
theorem key_2 {x y : Int} : keyD (.nt [.int x, .int y]) = some [x, y] := rfl
/-- d[k] -/
def KV (e : Env) (P : RV × Env → Prop) : D → Prop := fun d => P (.val d, e)
theorem k_v : KV e P d ↔ P (.val d, e) := Iff.rfl
def QDIx (e : Env) (P : RV × Env → Prop) : Option (List Int) → Option (List (List Int × D)) → Prop
  | some k, some kvs => Ok (kVal kvs k) (KV e P)
  | _, _ => False
def KDIx (i : Nat) (P : RV × Env → Prop) : RV × Env → Prop := fun a => match a.1 with
  | .val kd => QDIx a.2 P (keyD kd) (dctAt a.2 i)
  | _ => False
theorem q_dix : QDIx e P (some k) (some kvs) ↔ Ok (kVal kvs k) (KV e P) := Iff.rfl
theorem k_dix : KDIx i P (.val kd, e) ↔ QDIx e P (keyD kd) (dctAt e i) := Iff.rfl
theorem w_dix : Ok (fDIx i fk env) P ↔ (dctAt env i).isSome = true ∧ Ok (fk env) (KDIx i P) := by
  unfold fDIx
  cases hd : dctAt env i with
  | none => exact ⟨fun h => (ok_none.mp h).elim, fun h => by simp at h⟩
  | some z =>
    rw [Option.bind_some]
    simp only [Option.isSome_some, true_and]
    refine ok_bind_iff fun ⟨r, e⟩ => ?_
    cases r with
    | val kd =>
      show Ok (Option.bind (keyD kd) _) P ↔ QDIx e P (keyD kd) (dctAt e i)
      cases keyD kd with
      | none => exact ⟨fun h => (ok_none.mp h).elim, fun h => h.elim⟩
      | some k =>
        rw [Option.bind_some]
        show Ok (Option.bind (dctAt e i) _) P ↔ _
        cases dctAt e i with
        | none => exact ⟨fun h => (ok_none.mp h).elim, fun h => h.elim⟩
        | some kvs =>
          rw [Option.bind_some]
          exact ok_bind_iff fun d => ok_some
    | _ => exact ⟨fun h => (ok_none.mp h).elim, fun h => h.elim⟩
/-- d.get(k, x) -/
def QDG2 (e : Env) (k : List Int) (x : D) (P : RV × Env → Prop) : Option (List (List Int × D)) → Prop
  | some kvs => P (.val ((kVal kvs k).getD x), e)
  | _ => False
def KDG2 (i : Nat) (k : List Int) (P : RV × Env → Prop) : RV × Env → Prop := fun b => match frz b.1 with
  | .val x => QDG2 b.2 k x P (dctAt b.2 i)
  | _ => False
def QDG1 (i : Nat) (fx : EF) (e : Env) (P : RV × Env → Prop) : Option (List Int) → Prop
  | some k => Ok (fx e) (KDG2 i k P)
  | _ => False
def KDG1 (i : Nat) (fx : EF) (P : RV × Env → Prop) : RV × Env → Prop := fun a => match a.1 with
  | .val kd => QDG1 i fx a.2 P (keyD kd)
  | _ => False
theorem q_dg2 : QDG2 e k x P (some kvs) ↔ P (.val ((kVal kvs k).getD x), e) := Iff.rfl
theorem k_dg2 : KDG2 i k P (.val x, e) ↔ QDG2 e k x P (dctAt e i) := Iff.rfl
theorem q_dg1 : QDG1 i fx e P (some k) ↔ Ok (fx e) (KDG2 i k P) := Iff.rfl
theorem k_dg1 : KDG1 i fx P (.val kd, e) ↔ QDG1 i fx e P (keyD kd) := Iff.rfl
theorem w_dget2 : Ok (fDGet2 i fk fx env) P ↔ (dctAt env i).isSome = true ∧ Ok (fk env) (KDG1 i fx P) := by
  unfold fDGet2
  cases hd : dctAt env i with
  | none => exact ⟨fun h => (ok_none.mp h).elim, fun h => by simp at h⟩
  | some z =>
    rw [Option.bind_some]
    simp only [Option.isSome_some, true_and]
    refine ok_bind_iff fun ⟨r, e⟩ => ?_
    cases r with
    | val kd =>
      show Ok (Option.bind (keyD kd) _) P ↔ QDG1 i fx e P (keyD kd)
      cases keyD kd with
      | none => exact ⟨fun h => (ok_none.mp h).elim, fun h => h.elim⟩
      | some k =>
        rw [Option.bind_some]
        refine ok_bind_iff fun ⟨r2, e2⟩ => ?_
        show Ok (match frz r2 with | .val x => _ | _ => none) P ↔ (match frz r2 with | .val x => QDG2 e2 k x P (dctAt e2 i) | _ => False)
        cases frz r2 with
        | val x =>
          dsimp only
          cases dctAt e2 i with
          | none => exact ⟨fun h => (ok_none.mp h).elim, fun h => h.elim⟩
          | some kvs => exact ok_some
        | _ => exact ⟨fun h => (ok_none.mp h).elim, fun h => h.elim⟩
    | _ => exact ⟨fun h => (ok_none.mp h).elim, fun h => h.elim⟩
/-- k in d -/
def QDIn (neg : Bool) (e : Env) (P : RV × Env → Prop) : Option (List Int) → Option (List (List Int × D)) → Prop
  | some k, some kvs => P (.val (.bl ((kVal kvs k).isSome != neg)), e)
  | _, _ => False
def KDIn (i : Nat) (neg : Bool) (P : RV × Env → Prop) : RV × Env → Prop := fun a => match a.1 with
  | .val kd => QDIn neg a.2 P (keyD kd) (dctAt a.2 i)
  | _ => False
theorem q_din {neg : Bool} : QDIn neg e P (some k) (some kvs) ↔ P (.val (.bl ((kVal kvs k).isSome != neg)), e) := Iff.rfl
theorem k_din {neg : Bool} : KDIn i neg P (.val kd, e) ↔ QDIn neg e P (keyD kd) (dctAt e i) := Iff.rfl
theorem w_din {neg : Bool} : Ok (fDIn i neg fk env) P ↔ Ok (fk env) (KDIn i neg P) := by
  refine ok_bind_iff fun ⟨r, e⟩ => ?_
  cases r with
  | val kd =>
    show Ok (Option.bind (keyD kd) _) P ↔ QDIn neg e P (keyD kd) (dctAt e i)
    cases keyD kd with
    | none => exact ⟨fun h => (ok_none.mp h).elim, fun h => h.elim⟩
    | some k =>
      rw [Option.bind_some]
      show Ok (Option.bind (dctAt e i) _) P ↔ _
      cases dctAt e i with
      | none => exact ⟨fun h => (ok_none.mp h).elim, fun h => h.elim⟩
      | some kvs => exact ok_some
  | _ => exact ⟨fun h => (ok_none.mp h).elim, fun h => h.elim⟩
/-- d[k] = e -/
def QDP (i : Nat) (d : D) (e : Env) (PO : Out → Prop) : Option (List Int) → Option (List (List Int × D)) → Prop
  | some k, some kvs => kvs.length ≤ 1000000 ∧ PO (.nx (e.set i (.nw (.dct (kPut kvs k d)))))
  | _, _ => False
def KDP2 (i : Nat) (r : RV) (PO : Out → Prop) : RV × Env → Prop := fun b => match frz r, b.1 with
  | .val d, .val kd => QDP i d b.2 PO (keyD kd) (dctAt b.2 i)
  | _, _ => False
def KDP1 (i : Nat) (fk : EF) (PO : Out → Prop) : RV × Env → Prop := fun a => (dctAt a.2 i).isSome = true ∧ Ok (fk a.2) (KDP2 i a.1 PO)
theorem q_dp : QDP i d e PO (some k) (some kvs) ↔ kvs.length ≤ 1000000 ∧ PO (.nx (e.set i (.nw (.dct (kPut kvs k d))))) := Iff.rfl
theorem k_dp2 : KDP2 i (.val d) PO (.val kd, e) ↔ QDP i d e PO (keyD kd) (dctAt e i) := Iff.rfl
theorem k_dp2n {ds : List D} : KDP2 i (.new ds) PO (.val kd, e) ↔ QDP i (.lst ds) e PO (keyD kd) (dctAt e i) := Iff.rfl
theorem k_dp1 : KDP1 i fk PO (r, e) ↔ (dctAt e i).isSome = true ∧ Ok (fk e) (KDP2 i r PO) := Iff.rfl
theorem w_dput : Ok (fDPut i fk fe env) PO ↔ Ok (fe env) (KDP1 i fk PO) := by
  refine ok_bind_iff fun ⟨r, e⟩ => ?_
  show Ok (Option.bind (dctAt e i) _) PO ↔ (dctAt e i).isSome = true ∧ Ok (fk e) (KDP2 i r PO)
  cases dctAt e i with
  | none => exact ⟨fun h => (ok_none.mp h).elim, fun h => by simp at h⟩
  | some z =>
    rw [Option.bind_some]
    simp only [Option.isSome_some, true_and]
    refine ok_bind_iff fun ⟨r2, e2⟩ => ?_
    show Ok (match frz r, r2 with | .val d, .val kd => _ | _, _ => none) PO ↔ (match frz r, r2 with | .val d, .val kd => QDP i d e2 PO (keyD kd) (dctAt e2 i) | _, _ => False)
    cases frz r with
    | val d =>
      cases r2 with
      | val kd =>
        dsimp only
        cases keyD kd with
        | none => exact ⟨fun h => (ok_none.mp h).elim, fun h => h.elim⟩
        | some k =>
          rw [Option.bind_some]
          cases dctAt e2 i with
          | none => exact ⟨fun h => (ok_none.mp h).elim, fun h => h.elim⟩
          | some kvs =>
            rw [Option.bind_some, ok_guard, ok_some]
            exact Iff.rfl
      | _ => exact ⟨fun h => (ok_none.mp h).elim, fun h => h.elim⟩
    | _ => exact ⟨fun h => (ok_none.mp h).elim, fun h => h.elim⟩
/-- sorted(d) -/
def QDS2 (n : Nat) (e : Env) (P : RV × Env → Prop) : Option (List (Int × Int)) → Prop
  | some ps => n ≤ 1000000 ∧ P (.new ((srtP ps).map pD), e)
  | _ => False
def QDS (e : Env) (P : RV × Env → Prop) : Option (List (List Int × D)) → Prop
  | some kvs => QDS2 kvs.length e P (pairK kvs)
  | _ => False
theorem q_ds2 {n : Nat} {ps : List (Int × Int)} : QDS2 n e P (some ps) ↔ n ≤ 1000000 ∧ P (.new ((srtP ps).map pD), e) := Iff.rfl
theorem q_ds : QDS e P (some kvs) ↔ QDS2 kvs.length e P (pairK kvs) := Iff.rfl
theorem w_dsort : Ok (fDSort i env) P ↔ QDS env P (dctAt env i) := by
  unfold fDSort
  cases dctAt env i with
  | none => exact ⟨fun h => (ok_none.mp h).elim, fun h => h.elim⟩
  | some kvs =>
    rw [Option.bind_some]
    show _ ↔ QDS2 kvs.length env P (pairK kvs)
    cases pairK kvs with
    | none => exact ⟨fun h => (ok_none.mp h).elim, fun h => h.elim⟩
    | some ps =>
      rw [Option.bind_some, ok_guard, ok_some]
      exact Iff.rfl
end
section
variable {PO : Out → Prop} {env e : Env} {fr : AF} {rs : List RV} {i j l : Nat} {d d' d'' : D}
def KPutB (j l : Nat) (d' d'' : D) (PO : Out → Prop) : Env → Prop := fun e => Ok (putS j (.fz d') e) (KPut l d'' PO)
def QPar3 (i j l : Nat) (e : Env) (PO : Out → Prop) : List D → Prop
  | [d, d', d''] => Ok (putS i (.fz d) e) (KPutB j l d' d'' PO)
  | _ => False
def KPar3 (i j l : Nat) (PO : Out → Prop) : List RV × Env → Prop := fun a => DV (allVal a.1) (QPar3 i j l a.2 PO)
theorem q_par3 : QPar3 i j l e PO [d, d', d''] ↔ Ok (putS i (.fz d) e) (KPutB j l d' d'' PO) := Iff.rfl
theorem k_putB : KPutB j l d' d'' PO e ↔ Ok (putS j (.fz d') e) (KPut l d'' PO) := Iff.rfl
theorem k_par3 : KPar3 i j l PO (rs, e) ↔ DV (allVal rs) (QPar3 i j l e PO) := Iff.rfl
theorem w_par3 : Ok (fPar3 i j l fr env) PO ↔ Ok (fr env) (KPar3 i j l PO) := by
  refine ok_bind_iff fun a => ?_
  show _ ↔ DV (allVal a.1) (QPar3 i j l a.2 PO)
  unfold DV
  cases allVal a.1 with
  | none => exact ⟨fun h => (ok_none.mp h).elim, fun h => h.elim⟩
  | some ds =>
    rw [Option.bind_some]
    match ds with
    | [d, d', d''] => exact ok_bind_iff fun e1 => ok_bind_iff fun e2 => ok_bind_iff fun e3 => ok_some
    | [] => exact ⟨fun h => (ok_none.mp h).elim, fun h => h.elim⟩
    | [_] => exact ⟨fun h => (ok_none.mp h).elim, fun h => h.elim⟩
    | [_, _] => exact ⟨fun h => (ok_none.mp h).elim, fun h => h.elim⟩
    | _ :: _ :: _ :: _ :: _ => exact ⟨fun h => (ok_none.mp h).elim, fun h => h.elim⟩
end
section
variable {α : Type} {c : α → D}
def encK (c : α → D) (m : List (R × α)) : List (List Int × D) := m.map fun p => ([p.1.1, p.1.2], c p.2)
def mVal (m : List (R × α)) (k : R) : Option α := (m.find? fun p => decide (p.1 = k)).map (·.2)
def mPut (m : List (R × α)) (k : R) (x : α) : List (R × α) := if (m.any fun p => decide (p.1 = k)) = true then m.map (fun p => if p.1 = k then (p.1, x) else p) else m ++ [(k, x)]
theorem k2_iff {p k : R} : ([p.1, p.2] = [k.1, k.2]) ↔ p = k := by
  constructor
  · intro h
    injection h with h1 h2
    injection h2 with h2
    exact Prod.ext h1 h2
  · intro h
    rw [h]
theorem encK_len (m : List (R × α)) : (encK c m).length = m.length := List.length_map _
theorem kVal_enc (m : List (R × α)) (x y : Int) : kVal (encK c m) [x, y] = (mVal m (x, y)).map c := by
  induction m with
  | nil => rfl
  | cons p m ih =>
    unfold kVal mVal encK at ih ⊢
    by_cases h : p.1 = (x, y)
    · rw [List.map_cons, List.find?_cons_of_pos (by simpa using k2_iff.mpr h), List.find?_cons_of_pos (by simpa using h)]
      rfl
    · rw [List.map_cons, List.find?_cons_of_neg (by intro z; exact h ((k2_iff (k := (x, y))).mp (of_decide_eq_true z))), List.find?_cons_of_neg (by simpa using h)]
      exact ih
theorem any_enc (m : List (R × α)) (x y : Int) : ((encK c m).any fun kv => decide (kv.1 = [x, y])) = m.any fun p => decide (p.1 = (x, y)) := by
  unfold encK
  rw [List.any_map]
  congr 1
  funext p
  show decide ([p.1.1, p.1.2] = [x, y]) = _
  exact decide_eq_decide.mpr (k2_iff (p := p.1) (k := (x, y)))
theorem kPut_enc (m : List (R × α)) (x y : Int) (a : α) : kPut (encK c m) [x, y] (c a) = encK c (mPut m (x, y) a) := by
  unfold kPut mPut
  rw [any_enc]
  split
  · unfold encK
    rw [List.map_map, List.map_map]
    refine List.map_congr_left fun p _ => ?_
    show (if [p.1.1, p.1.2] = [x, y] then ([p.1.1, p.1.2], c a) else ([p.1.1, p.1.2], c p.2)) = _
    by_cases h : p.1 = (x, y)
    · rw [if_pos ((k2_iff (k := (x, y))).mpr h)]
      show _ = ((fun p : R × α => ([p.1.1, p.1.2], c p.2)) (if p.1 = (x, y) then (p.1, a) else p))
      rw [if_pos h]
    · rw [if_neg (fun z => h ((k2_iff (k := (x, y))).mp z))]
      show _ = ((fun p : R × α => ([p.1.1, p.1.2], c p.2)) (if p.1 = (x, y) then (p.1, a) else p))
      rw [if_neg h]
  · unfold encK
    rw [List.map_append]
    rfl
theorem pairK_enc (m : List (R × α)) : pairK (encK c m) = some (m.map (·.1)) := by
  induction m with
  | nil => rfl
  | cons p m ih =>
    show (pairK (encK c m)).bind _ = _
    rw [ih]
    rfl
theorem mLen_put (m : List (R × α)) (k : R) (x : α) : (mPut m k x).length ≤ m.length + 1 := by
  unfold mPut
  split
  · rw [List.length_map]
    omega
  · simp
theorem pD_R (ps : List R) : ps.map pD = ps.map encR := rfl
end
section
variable {P : RV × Env → Prop} {PO : Out → Prop} {PN : List (List D) × Env → Prop} {env e : Env} {f fa : EF} {fr : NF} {i k : Nat} {r : RV} {ds es : List D} {dss : List (List D)} {d : D} {w : OV}
theorem w_nilN : Ok (fNilN env) PN ↔ PN ([], env) := ok_some
def KConsN2 (ds : List D) (PN : List (List D) × Env → Prop) : List (List D) × Env → Prop := fun r => PN (ds :: r.1, r.2)
def KConsN (fr : NF) (PN : List (List D) × Env → Prop) : RV × Env → Prop := fun a => match a.1 with
  | .new ds => Ok (fr a.2) (KConsN2 ds PN)
  | _ => False
theorem k_consN2 : KConsN2 ds PN (dss, e) ↔ PN (ds :: dss, e) := Iff.rfl
theorem k_consN : KConsN fr PN (.new ds, e) ↔ Ok (fr e) (KConsN2 ds PN) := Iff.rfl
theorem w_consN : Ok (fConsN fa fr env) PN ↔ Ok (fa env) (KConsN fr PN) := by
  refine ok_bind_iff fun ⟨r, e⟩ => ?_
  cases r with
  | new ds => exact ok_bind_iff fun x => ok_some
  | _ => exact ⟨fun h => (ok_none.mp h).elim, fun h => h.elim⟩
def KLs2 (i : Nat) (PO : Out → Prop) : List (List D) × Env → Prop := fun a => a.1.length ≤ 1000 ∧ Ok (putS i (.nw (.ls2 a.1)) a.2) (KNx PO)
theorem k_ls2 : KLs2 i PO (dss, e) ↔ dss.length ≤ 1000 ∧ Ok (putS i (.nw (.ls2 dss)) e) (KNx PO) := Iff.rfl
theorem w_ls2 : Ok (fLs2 i fr env) PO ↔ Ok (fr env) (KLs2 i PO) := by
  refine ok_bind_iff fun ⟨r, e⟩ => ?_
  dsimp only
  rw [ok_guard]
  exact and_congr Iff.rfl (ok_bind_iff fun x => ok_some)
def KO2b (i k : Nat) (env : Env) (dss : List (List D)) (P : RV × Env → Prop) : List D → Prop := fun es => P (.val .non, env.set i (.nw (.ls2 (dss.set k es))))
def KO2 (i k : Nat) (h : List D → Option (List D)) (env : Env) (dss : List (List D)) (P : RV × Env → Prop) : List D → Prop := fun ds => Ok (h ds) (KO2b i k env dss P)
def QO2 (i k : Nat) (h : List D → Option (List D)) (env : Env) (P : RV × Env → Prop) : Option SV → Prop
  | some (.nw (.ls2 dss)) => Ok dss[k]? (KO2 i k h env dss P)
  | _ => False
theorem q_o2 {h : List D → Option (List D)} : QO2 i k h env P (some (.nw (.ls2 dss))) ↔ Ok dss[k]? (KO2 i k h env dss P) := Iff.rfl
theorem k_o2 {h : List D → Option (List D)} : KO2 i k h env dss P ds ↔ Ok (h ds) (KO2b i k env dss P) := Iff.rfl
theorem k_o2b : KO2b i k env dss P es ↔ P (.val .non, env.set i (.nw (.ls2 (dss.set k es)))) := Iff.rfl
theorem w_o2 {h : List D → Option (List D)} : Ok (fO2M0 i k h env) P ↔ QO2 i k h env P env[i]? := by
  unfold fO2M0
  cases env[i]? with
  | none => exact ⟨fun h => (ok_none.mp h).elim, fun h => h.elim⟩
  | some s =>
    cases s with
    | nw w =>
      cases w with
      | ls2 dss => exact ok_bind_iff fun ds => ok_bind_iff fun es => ok_some
      | _ => exact ⟨fun h => (ok_none.mp h).elim, fun h => h.elim⟩
    | _ => exact ⟨fun h => (ok_none.mp h).elim, fun h => h.elim⟩
def KLend2 (i : Nat) (dss : List (List D)) (env : Env) (P : RV × Env → Prop) : RV × Env → Prop := fun a => (a.2.all ownNoL && noR a.1) = true ∧ P (a.1, (List.zipWith mergeS env a.2).set i (.nw (.ls2 dss)))
def QLend2 (i : Nat) (f : EF) (env : Env) (P : RV × Env → Prop) : Option SV → Prop
  | some (.nw (.ls2 dss)) => (env.set i .no).all notNw = true ∧ Ok (f (env.set i (.fz (.lst (dss.map D.lst))))) (KLend2 i dss env P)
  | _ => False
theorem q_lend2 : QLend2 i f env P (some (.nw (.ls2 dss))) ↔ (env.set i .no).all notNw = true ∧ Ok (f (env.set i (.fz (.lst (dss.map D.lst))))) (KLend2 i dss env P) := Iff.rfl
theorem k_lend2 : KLend2 i dss env P (r, e) ↔ (e.all ownNoL && noR r) = true ∧ P (r, (List.zipWith mergeS env e).set i (.nw (.ls2 dss))) := Iff.rfl
theorem w_lend2 : Ok (fLend2 i f env) P ↔ QLend2 i f env P env[i]? := by
  unfold fLend2
  cases env[i]? with
  | none => exact ⟨fun h => (ok_none.mp h).elim, fun h => h.elim⟩
  | some s =>
    cases s with
    | nw w =>
      cases w with
      | ls2 dss =>
        dsimp only
        rw [ok_guard]
        refine and_congr Iff.rfl (ok_bind_iff fun x => ?_)
        rw [ok_guard, ok_some]
        exact Iff.rfl
      | _ => exact ⟨fun h => (ok_none.mp h).elim, fun h => h.elim⟩
    | _ => exact ⟨fun h => (ok_none.mp h).elim, fun h => h.elim⟩
theorem mapL_c : (ds :: dss).map D.lst = .lst ds :: dss.map D.lst := rfl
theorem mapL_n : ([] : List (List D)).map D.lst = [] := rfl
theorem m_nw : mergeS (.nw w) (.fz d) = .no := rfl
theorem nn_nw : notNw (.nw w) = false := rfl
theorem nn_no : notNw .no = true := rfl
theorem nn_fz : notNw (.fz d) = true := rfl
theorem nn_o1 : notNw (.o1 ds) = true := rfl
theorem nn_io : notNw (.io ds) = true := rfl
end
end Dv
namespace Dv
open PySem L2
end Dv
namespace Dv
open PySem L2
section
variable {K : PySem.W.Frag} {B : Hp} {O : List Addr} {I : List (Nat × Addr)} {σ : L2.St} {H H' : Hp} {env env' : Env} {v : V} {W : WN}
def fO2V (i k j : Nat) (h : D → List D → Option (List D)) : EF := fun env => match env[i]?, env[j]? with
  | some (.nw (.ls2 dss)), some (.fz d) => (dss[k]?).bind fun ds => (h d ds).bind fun es => some (.val .non, env.set i (.nw (.ls2 (dss.set k es))))
  | _, _ => none
variable {P : RV × Env → Prop}
def KO2v (i k : Nat) (h : D → List D → Option (List D)) (d : D) (env : Env) (dss : List (List D)) (P : RV × Env → Prop) : List D → Prop := fun ds => Ok (h d ds) (KO2b i k env dss P)
def QO2v (i k : Nat) (h : D → List D → Option (List D)) (env : Env) (P : RV × Env → Prop) : Option SV → Option SV → Prop
  | some (.nw (.ls2 dss)), some (.fz d) => Ok dss[k]? (KO2v i k h d env dss P)
  | _, _ => False
theorem q_o2v {i k : Nat} {h : D → List D → Option (List D)} {dss : List (List D)} {d : D} : QO2v i k h env P (some (.nw (.ls2 dss))) (some (.fz d)) ↔ Ok dss[k]? (KO2v i k h d env dss P) := Iff.rfl
theorem k_o2v {i k : Nat} {h : D → List D → Option (List D)} {dss : List (List D)} {d : D} {ds : List D} : KO2v i k h d env dss P ds ↔ Ok (h d ds) (KO2b i k env dss P) := Iff.rfl
theorem w_o2v {i k j : Nat} {h : D → List D → Option (List D)} : Ok (fO2V i k j h env) P ↔ QO2v i k h env P env[i]? env[j]? := by
  unfold fO2V
  cases env[i]? with
  | none => exact ⟨fun h => (ok_none.mp h).elim, fun h => h.elim⟩
  | some s =>
    cases s with
    | nw w =>
      cases w with
      | ls2 dss =>
        cases env[j]? with
        | none => exact ⟨fun h => (ok_none.mp h).elim, fun h => h.elim⟩
        | some s2 =>
          cases s2 with
          | fz d => exact ok_bind_iff fun ds => ok_bind_iff fun es => ok_some
          | _ => exact ⟨fun h => (ok_none.mp h).elim, fun h => h.elim⟩
      | _ => exact ⟨fun h => (ok_none.mp h).elim, fun h => h.elim⟩
    | _ => exact ⟨fun h => (ok_none.mp h).elim, fun h => h.elim⟩
end
end Dv
namespace Dv
open PySem L2
section
variable {K : PySem.W.Frag} {B : Hp} {O : List Addr} {I : List (Nat × Addr)} {σ : L2.St} {H H' : Hp} {env env' : Env} {v : V} {W : WN} {t ta tb te : TE} {f fa fb fe : EF} {cl : Nat → Addr}
/-- a, b, .. = a list -/
def gfUnl (n : Nat) (h : List D → Env → Option Env) : GF := fun d env => match d with
  | .lst ds => if ds.length = n then h ds env else none
  | _ => none
theorem w_gunl {n : Nat} {h : List D → Env → Option Env} {ds : List D} {K : Env → Prop} : Ok (gfUnl n h (.lst ds) env) K ↔ ds.length = n ∧ Ok (h ds env) K := ok_guard
/-- i in (j, ..) -/
def gInT : G2
  | .int i, .tup ds => (allInts ds).bind fun ns => some (.val (.bl (ns.any fun j => decide (j = i))))
  | _, _ => none
def gNotInT : G2
  | .int i, .tup ds => (allInts ds).bind fun ns => some (.val (.bl (!ns.any fun j => decide (j = i))))
  | _, _ => none
theorem gInT_of (i : Int) (ns : List Int) : gInT (.int i) (.tup (ns.map D.int)) = some (.val (.bl (ns.any fun j => decide (j = i)))) := by
  show (allInts (ns.map D.int)).bind _ = _
  rw [allInts_map]
  rfl
theorem gNotInT_of (i : Int) (ns : List Int) : gNotInT (.int i) (.tup (ns.map D.int)) = some (.val (.bl (!ns.any fun j => decide (j = i)))) := by
  show (allInts (ns.map D.int)).bind _ = _
  rw [allInts_map]
  rfl
theorem gInT_2 (i a b : Int) : gInT (.int i) (.tup [.int a, .int b]) = some (.val (.bl (decide (a = i) || decide (b = i)))) := (gInT_of i [a, b]).trans (by simp)
theorem gNotInT_2 (i a b : Int) : gNotInT (.int i) (.tup [.int a, .int b]) = some (.val (.bl (!(decide (a = i) || decide (b = i))))) := (gNotInT_of i [a, b]).trans (by simp)
abbrev Hd := Value × Nat × (Addr → Value → Option Addr → TS)
/-- what is wished of a refusal in the body -/
def wMost (K : PySem.W.Frag) (D : Ends) : List Hd → L2.WX
  | [] => fun _ _ _ _ => False
  | h :: r => fun cls d σ H => ∃ b, PySem.W.exmOne K cls h.1 = some b ∧
      (b = true → ∀ a, H a = none → h.2.2 a cls d { nx := fun σ' H' => D.nx (σ'.set h.2.1 none) H', rt := D.rt, bk := fun σ' H' => D.bk (σ'.set h.2.1 none) H', ct := fun σ' H' => D.ct (σ'.set h.2.1 none) H' } (σ.set h.2.1 (some (.ref a))) H) ∧
      (b = false → wMost K D r cls d σ H)
inductive HdsAs (X : Cx) : List ExceptHandler → List Hd → Prop
  | rest {hds : List ExceptHandler} : HdsAs X hds []
  | cons {x n : Str} {c : Value} {i : Nat} {ts : Addr → Value → Option Addr → TS} {b₀ : Stmt} {suite : List Stmt} {np pos' : Pos} {hds : List ExceptHandler} {l : List Hd}
      (hi : X.N[i]? = some n) (hln : X.env.kindOf n = some .local) (hc : Names X x c)
      (hsu : ∀ (a : Addr) (oe : Obj) (cls : Value) (d : Option Addr) (pn : List (Addr × Obj)), L2N.Zn cls d oe → (∃ vs, oe.data = .fields vs) → L2.PSs (X.suite a ((a, oe) :: pn)) (b₀ :: suite) (ts a cls d))
      (r : HdsAs X hds l) : HdsAs X (.ExceptHandler (some (.Name x np)) (some n) (b₀ :: suite) pos' :: hds) ((c, i, ts) :: l)
end
section
open PySem PySem.Spec PyProof.Rows
variable {X : Cx} {body : List Stmt} {h₀ : ExceptHandler} {hds : List ExceptHandler} {l : List Hd} {pos : Pos} {tb : L2.WX → TS}
theorem ps_try_most (hs : X.stack = X.env :: X.outer) (hf : X.env.frame = some X.env.locals) (hN : X.N.Nodup)
    (hb : ∀ (W : L2.WX) (pn : List (Addr × Obj)) (xe : Value → Shared → Prop), L2N.Takes (X.tr pn xe) W → PassesOwn (model X.prog X.w) X.A X.env xe → L2.PSs (X.tr pn xe) body (tb W))
    (hh : HdsAs X (h₀ :: hds) l) : L2.PS X (.Try body (h₀ :: hds) [] [] pos) (fun D σ H => tb (wMost X.K D l) D σ H) := by
  refine ⟨fun pins s σ H D I h => ?_⟩
  have ok := I.ok
  have fr0 : X.A.frames = some (X.env :: X.outer) := by rw [ok.frames, hs]
  let catch_ : Value → Shared → Prop := fun e s1 => wpAny (model X.prog X.w) X.A (noteFrame e X.env) (fun _ s2 => wpAny (model X.prog X.w) X.A (setFlight e none) (fun _ s3 => wpAny (model X.prog X.w) X.A (handleBy e X.env (h₀ :: hds)) (SP X pins D) X.xe s3) X.xe s2) X.xe s1
  have take : L2N.Takes (X.tr (X.pn ++ pins) catch_) (wMost X.K D l) := by
    intro u s' xx
    obtain ⟨a, B, sI, pins', σ', H', cls, d, rfl, J', nb, up, sky, na, os, ag, wish⟩ := xx
    have J : Inv X pins σ' H' sI := J'.ofTry ok
    have sky2 : L2.Sky B (X.env :: X.outer) a (L2N.Zn cls d) X.env.locals s'.heap := by rw [← hs]; exact sky
    show wpAny (model X.prog X.w) X.A (noteFrame (.ref a) X.env) _ _ _
    refine L2N.Sky.land L2N.Zn.steady fr0 hf sky2 fun h3 fl3 up3 => ?_
    have J3 : Inv X pins σ' H' { s' with heap := h3 } := J.landed nb fl3.1 (up.trans up3) os ag
    obtain ⟨o3, v3, at3, zn3, dat3⟩ := fl3.there
    have apart : a ∉ frs (X.env :: X.outer) := fun hm => by
      obtain ⟨_, o', e', hnf⟩ := fl3.2.2.1.mem hm
      rw [at3] at e'
      cases e'
      exact hnf _ dat3
    have aL : a ≠ X.env.locals := fun z => apart (List.mem_filterMap.mpr ⟨X.env, List.mem_cons_self, by rw [hf, z]⟩)
    have aF : a ∉ X.fs := fun hm => by
      obtain ⟨e, he, q⟩ := List.mem_filterMap.mp hm
      exact apart (List.mem_filterMap.mpr ⟨e, List.mem_cons_of_mem _ he, q⟩)
    have S3 := J3.suite at3 dat3 na aL aF
    have walk : ∀ {hs' : List ExceptHandler} {l' : List Hd}, HdsAs X hs' l' → wMost X.K D l' cls d σ' H' → wpAny (model X.prog X.w) X.A (handleBy (.ref a) X.env hs') (SP X pins D) X.xe { s' with heap := h3 } := by
      intro hs' l' hk
      induction hk with
      | rest => exact fun z => False.elim z
      | @cons x n c i ts b₀ suite np pos' hds2 l2 hi hln hc hsu r ih =>
        intro wi
        obtain ⟨b, isB, yes, no⟩ := wi
        refine wpAny_handleBy_cons (codeAny_handlers_test ?_) (by intro q; cases q)
        have looks : PySem.W.Looks (model X.prog X.w) h3 (typeOf (.ref a)) cls := fun A Q E s k q => wpAny_typeOf_ref (k _ _ at3) (by rw [zn3.1]; exact q)
        have meets := PySem.W.exm_one (M := model X.prog X.w) J3.kIn looks isB
        have named : ∀ {Q E : Value → Shared → Prop}, Q c { s' with heap := h3 } → wpAny (model X.prog X.w) (X.A.mark (some (.ref a))) (eval (.Name x np) X.env) Q E { s' with heap := h3 } := fun {Q E} q => by
          obtain ⟨g, dbg, m | ⟨m, bv, nn⟩⟩ := hc
          · exact ld_glob (X := X.suite a ((a, o3) :: (X.pn ++ pins))) S3 g m q dbg
          · exact ld_blt (X := X.suite a ((a, o3) :: (X.pn ++ pins))) S3 g m bv q nn dbg
        refine named (meets.here ?_)
        cases b with
        | true =>
          refine codeAny_handlers_suite_as ?_
          refine HandSPX.lands_againZ fl3 fun h4 fl4 up4 => ?_
          have J4 : Inv X pins σ' H' { s' with heap := h4 } := J.landed nb fl4.1 ((up.trans up3).trans up4) os ag
          obtain ⟨o4, v4, at4, zn4, dat4⟩ := fl4.there
          have S4 := J4.suite at4 dat4 na aL aF
          refine store_ok (X := X.suite a ((a, o4) :: (X.pn ++ pins))) (v := .ref a) S4 hN hi (.inl hln) rfl (fun s5 S5 => ?_) (.inr hln)
          have gone : ∀ {s6 : Shared} {σ6 : L2.St} {H6 : Hp} {Q : Shared → Prop}, Inv (X.suite a ((a, o4) :: (X.pn ++ pins))) [] σ6 H6 s6 → (∀ s7, Inv X pins (σ6.set i none) H6 s7 → Q s7) →
              wpAny (model X.prog X.w) X.A (do bindName X.env n .none; unbindBehindTheSuite X.env n pos') (fun _ s7 => Q s7) X.xe s6 := fun S6 hq => gone_ok (S6.unsuite ok) hN hi hln hq
          refine wpAny_mono ((hsu a o4 cls d (X.pn ++ pins) zn4 ⟨_, dat4⟩).run [] s5 _ H' _ S5 (yes rfl a na)) (fun fl s6 sp => ?_) (fun _ _ z => False.elim z)
          cases fl with
          | ret u =>
            obtain ⟨v6, σ6, H6, S6, r6, q6⟩ := sp
            exact gone S6 fun s7 J7 => ⟨_, _, _, J7, r6, q6⟩
          | next =>
            obtain ⟨σ6, H6, S6, q6⟩ := sp
            exact gone S6 fun s7 J7 => ⟨_, _, J7, q6⟩
          | brk =>
            obtain ⟨σ6, H6, S6, q6⟩ := sp
            exact gone S6 fun s7 J7 => ⟨_, _, J7, q6⟩
          | cont =>
            obtain ⟨σ6, H6, S6, q6⟩ := sp
            exact gone S6 fun s7 J7 => ⟨_, _, J7, q6⟩
        | false =>
          show wpAny _ X.A (handleBy (.ref a) X.env hds2) _ _ _
          exact ih (no rfl)
    exact walk hh wish
  refine wpAny_Try_except (wpAny_mono ((hb (wMost X.K D l) (X.pn ++ pins) catch_ take PassesOwn.looking).run [] s σ H D (I.toTry _) h) (fun fl s1 sp => ?_) fun e s1 he => he)
  cases fl with
  | ret u =>
    obtain ⟨v, σ', H', J', r, q⟩ := sp
    exact ⟨v, σ', H', J'.ofTry ok, r, q⟩
  | next =>
    obtain ⟨σ', H', J', q⟩ := sp
    exact wpAny_execs_nil ⟨σ', H', J'.ofTry ok, q⟩
  | brk =>
    obtain ⟨σ', H', J', q⟩ := sp
    exact ⟨σ', H', J'.ofTry ok, q⟩
  | cont =>
    obtain ⟨σ', H', J', q⟩ := sp
    exact ⟨σ', H', J'.ofTry ok, q⟩
end
section
variable {K : PySem.W.Frag} {B : Hp} {O : List Addr} {I : List (Nat × Addr)} {σ : L2.St} {H H' : Hp} {env env' : Env} {v : V} {W : WN} {t ta tb te : TE} {f fa fb fe : EF} {cl : Nat → Addr}
/-- a class goes to a handler -/
def Goes (K : PySem.W.Frag) (cl : Nat → Addr) (i : Nat) (tx : Addr → Nat → TE) : List Hd → Nat → Prop
  | [], _ => False
  | h :: r, n => (PySem.W.exmOne K (.ref (cl n)) h.1 = some true ∧ h.2.1 = i ∧ ∀ (a : Addr) (D : Ends) (σ : L2.St) (H : Hp), tRet (tx a n) D σ H → h.2.2 a (.ref (cl n)) none D σ H) ∨ (PySem.W.exmOne K (.ref (cl n)) h.1 = some false ∧ Goes K cl i tx r n)
theorem wMost_of {D : Ends} {i n : Nat} {tx : Addr → Nat → TE} : ∀ {l : List Hd}, Goes K cl i tx l n →
    (∀ a, H a = none → tRet (tx a n) { nx := fun σ' H' => D.nx (σ'.set i none) H', rt := D.rt, bk := fun σ' H' => D.bk (σ'.set i none) H', ct := fun σ' H' => D.ct (σ'.set i none) H' } (σ.set i (some (.ref a))) H) → wMost K D l (.ref (cl n)) none σ H
  | [], h, _ => h.elim
  | h :: r, g, k => by
    rcases g with ⟨g1, g2, g3⟩ | ⟨g1, g2⟩
    · refine ⟨true, g1, fun _ a ha => ?_, fun z => nomatch z⟩
      rw [g2]
      exact g3 a _ _ _ (k a ha)
    · exact ⟨false, g1, (fun z => nomatch z), fun _ => wMost_of g2 k⟩
theorem ss_try_most {i : Nat} {ks : List Nat} {tb : L2.WX → TS} {tx : Addr → Nat → TE} {l : List Hd} {g : SFn} {h : Nat → EF}
    (hb : ∀ WX : L2.WX, SndS K (wn cl WX) (tb WX) g) (hin : ∀ n, n ∈ ks → Goes K cl i tx l n)
    (htx : ∀ n, n ∈ ks → ∀ (a : Addr) (σ : L2.St), σ[i]? = some (some (.ref a)) → SndAt K σ (tx a n) (h n)) :
    SndS K W (fun D σ H => tb (wMost K D l) D σ H) (fTry i ks g h) := by
  intro B O I σ H env o S e D k
  obtain ⟨o1, e1, e⟩ := bnd e
  refine hb (wMost K D l) B O I σ H env o1 S e1 D ?_
  cases o1 with
  | nx e2 => cases e; exact k
  | bk e2 => cases e; exact k
  | ct e2 => cases e; exact k
  | rt r e2 =>
    cases r with
    | val d => cases e; exact k
    | slot j => cases e; exact k
    | new ds => cases e; exact k
    | tw ds => cases e; exact k
    | ex n =>
      dsimp only at e
      split at e
      · rename_i hn
        obtain ⟨e3, e4, e⟩ := bnd e
        obtain ⟨⟨r5, e5⟩, e6, e⟩ := bnd e
        intro O' σ' H' s S'
        refine wMost_of (hin n hn) fun a ha => ?_
        have S2 := S'.drop (w := some (.ref a)) e4
        have hi : i < σ'.length := by
          rw [S'.len]
          exact (putS_of e4).2.1
        refine htx n hn a _ (List.getElem?_set_self hi) B O' I H' e3 r5 e5 S2 e6 _ fun v H2 P2 => ?_
        dsimp only at e
        split at e
        · exact False.elim P2
        · cases e
          exact OutOk.rt k s P2
      · cases e
/-- a call of a built-in thing with one argument, at given slots -/
theorem sndAt_b1 {r : List V → Hp → VK → Prop} {g : GB} (h1 : SndAt K σ te fe) (ho : CallG K r g) : SndAt K σ (tCB r (tCons te tNil)) (fB g (fCons fe fNil)) := by
  intro B O I H env rv env' S e Q q
  obtain ⟨⟨rs, env1⟩, e1, e⟩ := bnd e
  obtain ⟨x, ex, e⟩ := bnd e
  obtain ⟨z, ez, e⟩ := bnd e
  cases e
  obtain ⟨⟨r1, e2⟩, e3, e1⟩ := bnd e1
  have e4 : some (Dv.frz r1 :: [], e2) = some (rs, env1) := e1
  rw [Option.some.injEq, Prod.mk.injEq] at e4
  obtain ⟨e5, e6⟩ := e4
  subst e5 e6
  refine h1 B O I H env r1 _ S e3 _ fun v H1 P1 => ?_
  exact ho B O I σ H1 _ [v] _ x _ P1.frz.sta (.cons P1.frz .nil) ex ez Q q
end
section
variable {K : PySem.W.Frag} {W : WN} {te : TE} {fe : EF}
/-- x = f(..), own, where f may refuse -/
def fOwnX (i : Nat) (f : EF) : SFn := fun env => (f env).bind fun a => match a.1 with
  | .ex n => some (.rt (.ex n) a.2)
  | .new ds => (putS i (.o1 ds) a.2).bind fun e => some (.nx e)
  | _ => none
variable {e : Env} {env : Env} {PO : Out → Prop} {f : EF}
def KOwnX (i : Nat) (PO : Out → Prop) : RV × Env → Prop := fun a => match a.1 with
  | .ex n => PO (.rt (.ex n) a.2)
  | .new ds => Ok (putS i (.o1 ds) a.2) (KNx PO)
  | _ => False
theorem k_ownXe {i n : Nat} : KOwnX i PO (.ex n, e) ↔ PO (.rt (.ex n) e) := Iff.rfl
theorem k_ownXn {i : Nat} {ds : List D} : KOwnX i PO (.new ds, e) ↔ Ok (putS i (.o1 ds) e) (KNx PO) := Iff.rfl
theorem w_ownX {i : Nat} : Ok (fOwnX i f env) PO ↔ Ok (f env) (KOwnX i PO) := by
  refine ok_bind_iff fun ⟨r, e⟩ => ?_
  cases r with
  | ex n => exact ok_some (P := PO)
  | val d => exact ok_none (P := PO)
  | new ds => exact ok_bind_iff (P := PO) fun e => ok_some (P := PO)
  | tw ds => exact ok_none (P := PO)
  | slot i => exact ok_none (P := PO)
end
abbrev rInt1 : List V → Hp → VK → Prop := fun xs H Q => (∃ i, xs = [.int i] ∧ Q (.int i) H) ∨ ∃ k, xs = [.bl k] ∧ Q (.int (if k then 1 else 0)) H
end Dv
namespace Dv
open PySem L2
section
variable {K : PySem.W.Frag} {B : Hp} {O : List Addr} {I : List (Nat × Addr)} {σ : L2.St} {H H' : Hp} {env env' : Env} {v : V} {W : WN} {t ta tb te : TE}
def fForApp (i j : Nat) (d : D) : SFn := fun env => match env[i]? with
  | some (.nw (.ls2 dss)) => if i ≠ j ∧ (dss.all fun ds => decide (ds.length ≤ 1000000)) = true then (putS j .no env).bind fun e => some (.nx (e.set i (.nw (.ls2 (dss.map fun ds => ds ++ [d]))))) else none
  | _ => none
def fFrz (i : Nat) (g : SFn) : SFn := fun env => match env[i]? with
  | some (.o1 ds) => g (env.set i (.fz (.lst ds)))
  | _ => none
variable {PO : Out → Prop}
def QForApp (i j : Nat) (d : D) (env : Env) (PO : Out → Prop) : Option SV → Prop
  | some (.nw (.ls2 dss)) => (i ≠ j ∧ (dss.all fun ds => decide (ds.length ≤ 1000000)) = true) ∧ Ok (putS j .no env) (fun e => PO (.nx (e.set i (.nw (.ls2 (dss.map fun ds => ds ++ [d]))))))
  | _ => False
theorem q_forApp {i j : Nat} {d : D} {dss : List (List D)} : QForApp i j d env PO (some (.nw (.ls2 dss))) ↔ (i ≠ j ∧ (dss.all fun ds => decide (ds.length ≤ 1000000)) = true) ∧ Ok (putS j .no env) (fun e => PO (.nx (e.set i (.nw (.ls2 (dss.map fun ds => ds ++ [d])))))) := Iff.rfl
theorem w_forApp {i j : Nat} {d : D} : Ok (fForApp i j d env) PO ↔ QForApp i j d env PO env[i]? := by
  unfold fForApp
  cases env[i]? with
  | none => exact ⟨fun h => (ok_none.mp h).elim, fun h => h.elim⟩
  | some s =>
    cases s with
    | nw w =>
      cases w with
      | ls2 dss =>
        show Ok (if _ then _ else none) PO ↔ _
        rw [ok_guard]
        exact and_congr_right fun _ => ok_bind_iff fun e => ok_some
      | _ => exact ⟨fun h => (ok_none.mp h).elim, fun h => h.elim⟩
    | _ => exact ⟨fun h => (ok_none.mp h).elim, fun h => h.elim⟩
def QFrz (i : Nat) (g : SFn) (env : Env) (PO : Out → Prop) : Option SV → Prop
  | some (.o1 ds) => Ok (g (env.set i (.fz (.lst ds)))) PO
  | _ => False
theorem q_frz {i : Nat} {g : SFn} {ds : List D} : QFrz i g env PO (some (.o1 ds)) ↔ Ok (g (env.set i (.fz (.lst ds)))) PO := Iff.rfl
theorem w_frz {i : Nat} {g : SFn} : Ok (fFrz i g env) PO ↔ QFrz i g env PO env[i]? := by
  unfold fFrz
  cases env[i]? with
  | none => exact ⟨fun h => (ok_none.mp h).elim, fun h => h.elim⟩
  | some s =>
    cases s with
    | o1 ds => exact Iff.rfl
    | _ => exact ⟨fun h => (ok_none.mp h).elim, fun h => h.elim⟩
end
end Dv
namespace Dv
open PySem L2
section
variable {K : PySem.W.Frag} {B : Hp} {O : List Addr} {I : List (Nat × Addr)} {σ : L2.St} {H H' G : Hp} {env env' : Env} {v : V} {t ta tb te td tk : TE} {f fa fb fe fd fk : EF} {W : WN}
theorem DqK.back : ∀ {kl : List (List L2.Key × V)} {ks : List (List Int)} {ds : List D}, kl.map (·.1) = ks.map (fun k => k.map Sum.inl) → DqA K G (kl.map (·.2)) ds → DqK K G kl (ks.zip ds)
  | [], [], _, _, h => by cases h; exact trivial
  | [], _ :: _, _, h, _ => by cases h
  | _ :: _, [], _, h, _ => by cases h
  | p :: kl, k :: ks, [], _, h => by cases h
  | p :: kl, k :: ks, d :: ds, e, h => by
    simp only [List.map_cons, List.cons.injEq] at e
    simp only [List.map_cons] at h
    cases h with
    | cons h1 h2 => exact ⟨e.1, h1, DqK.back e.2 h2⟩
def fFrzD (i : Nat) (g : SFn) : SFn := fun env => match env[i]? with
  | some (.nw (.dct kvs)) => g (env.set i (.fz (.dct (kvs.map (·.1)) (kvs.map (·.2)))))
  | _ => none
theorem rd_mi {a : Addr} {u : HO} (h : Rd (mi H O) a u) : Rd H a u := by
  rcases h with h | ⟨o, h⟩
  · exact .inl (mi_some h).2
  · exact .inr ⟨o, (mi_some h).2⟩
theorem Post.dict {r : RV} {ks : List (List Int)} {ds : List D} (h : Post K B O I σ H env v r) (e : deref env r = some (.dct ks ds)) : ∃ p kl, v = .ref p ∧ Rd H p (.dT kl) ∧ DqK K (mi H O) kl (ks.zip ds) := by
  cases r with
  | ex n => exact False.elim h
  | val d' =>
    cases e
    obtain ⟨S, h⟩ := h
    cases h with
    | dct h1 h2 h3 => exact ⟨_, _, rfl, rd_mi h1, DqK.back h2 h3⟩
  | slot i =>
    obtain ⟨es, e1, ho⟩ := ownAt_of e
    cases e1
  | new es => cases e
  | tw es => cases e
variable {PO : Out → Prop} {P : RV × Env → Prop}
theorem isi_tuple_nt {ds : List D} : gIsi "tuple" (.nt ds) = some (.val (.bl true)) := by
  show (kitB "tuple" "tuple").bind _ = _
  rw [show kitB "tuple" "tuple" = some true from by decide +kernel]
  rfl
def QFrzD (i : Nat) (g : SFn) (env : Env) (PO : Out → Prop) : Option SV → Prop
  | some (.nw (.dct kvs)) => Ok (g (env.set i (.fz (.dct (kvs.map (·.1)) (kvs.map (·.2)))))) PO
  | _ => False
theorem q_frzD {i : Nat} {g : SFn} {kvs : List (List Int × D)} : QFrzD i g env PO (some (.nw (.dct kvs))) ↔ Ok (g (env.set i (.fz (.dct (kvs.map (·.1)) (kvs.map (·.2)))))) PO := Iff.rfl
theorem w_frzD {i : Nat} {g : SFn} : Ok (fFrzD i g env) PO ↔ QFrzD i g env PO env[i]? := by
  unfold fFrzD
  cases env[i]? with
  | none => exact ⟨fun h => (ok_none.mp h).elim, fun h => h.elim⟩
  | some s =>
    cases s with
    | nw w =>
      cases w with
      | dct kvs => exact Iff.rfl
      | _ => exact ⟨fun h => (ok_none.mp h).elim, fun h => h.elim⟩
    | _ => exact ⟨fun h => (ok_none.mp h).elim, fun h => h.elim⟩
end
end Dv
namespace Dv
open PySem L2
def kValI (kvs : List (Int × D)) (k : Int) : Option D := (kvs.find? fun kv => decide (kv.1 = k)).map (·.2)
def kPutI (kvs : List (Int × D)) (k : Int) (d : D) : List (Int × D) := if (kvs.any fun kv => decide (kv.1 = k)) = true then kvs.map (fun kv => if kv.1 = k then (kv.1, d) else kv) else kvs ++ [(k, d)]
section
variable {K : PySem.W.Frag} {G : Hp}
theorem DqI.val : ∀ {ks : List (L2.Key × V)} {kvs : List (Int × D)} (k : Int), DqI K G ks kvs → (valV ks (Sum.inl k) = none ∧ kValI kvs k = none) ∨ ∃ v d, valV ks (Sum.inl k) = some v ∧ kValI kvs k = some d ∧ Dq K G v d
  | [], [], k, _ => .inl ⟨rfl, rfl⟩
  | [], _ :: _, _, h => h.elim
  | _ :: _, [], _, h => h.elim
  | p :: ks, q :: kvs, k, h => by
    obtain ⟨h1, h2, h3⟩ := h
    by_cases c : q.1 = k
    · refine .inr ⟨p.2, q.2, ?_, ?_, h2⟩
      · exact valV_pos (by rw [h1, c])
      · unfold kValI
        rw [List.find?_cons_of_pos (by simpa using c)]
        rfl
    · have e1 : valV (p :: ks) (Sum.inl k) = valV ks (Sum.inl k) := valV_neg (fun z => c (Sum.inl.inj (by rw [← z, h1])))
      have e2 : kValI (q :: kvs) k = kValI kvs k := by
        unfold kValI
        rw [List.find?_cons_of_neg (by simpa using c)]
      rw [e1, e2]
      exact DqI.val k h3
theorem DqI.any : ∀ {ks : List (L2.Key × V)} {kvs : List (Int × D)} (k : Int), DqI K G ks kvs → (ks.any fun kv => decide (kv.1 = Sum.inl k)) = kvs.any fun kv => decide (kv.1 = k)
  | [], [], k, _ => rfl
  | [], _ :: _, _, h => h.elim
  | _ :: _, [], _, h => h.elim
  | p :: ks, q :: kvs, k, h => by
    obtain ⟨h1, h2, h3⟩ := h
    rw [List.any_cons, List.any_cons, DqI.any k h3, h1]
    congr 1
    by_cases c : q.1 = k
    · rw [decide_eq_true c, decide_eq_true (by rw [c])]
    · rw [decide_eq_false c, decide_eq_false (fun z => c (Sum.inl.inj z))]
theorem DqI.maps {v : V} {d : D} (hv : Dq K G v d) : ∀ {ks : List (L2.Key × V)} {kvs : List (Int × D)} (k : Int), DqI K G ks kvs → DqI K G (ks.map fun kv => if kv.1 = Sum.inl k then (kv.1, v) else kv) (kvs.map fun kv => if kv.1 = k then (kv.1, d) else kv)
  | [], [], k, _ => trivial
  | [], _ :: _, _, h => h.elim
  | _ :: _, [], _, h => h.elim
  | p :: ks, q :: kvs, k, h => by
    obtain ⟨h1, h2, h3⟩ := h
    rw [List.map_cons, List.map_cons]
    have t := DqI.maps hv k h3
    by_cases c : q.1 = k
    · rw [if_pos c, if_pos (by rw [h1, c])]
      exact ⟨h1, hv, t⟩
    · rw [if_neg c, if_neg (fun z => c (Sum.inl.inj (by rw [← z, h1])))]
      exact ⟨h1, h2, t⟩
theorem DqI.snoc {v : V} {d : D} (hv : Dq K G v d) (k : Int) : ∀ {ks : List (L2.Key × V)} {kvs : List (Int × D)}, DqI K G ks kvs → DqI K G (ks ++ [(Sum.inl k, v)]) (kvs ++ [(k, d)])
  | [], [], _ => ⟨rfl, hv, trivial⟩
  | [], _ :: _, h => h.elim
  | _ :: _, [], h => h.elim
  | p :: ks, q :: kvs, h => ⟨h.1, h.2.1, DqI.snoc hv k h.2.2⟩
theorem DqI.put {v : V} {d : D} {ks : List (L2.Key × V)} {kvs : List (Int × D)} (k : Int) (h : DqI K G ks kvs) (hv : Dq K G v d) : DqI K G (putK ks (Sum.inl k) v) (kPutI kvs k d) := by
  unfold putK kPutI
  rw [h.any k]
  split
  · exact DqI.maps hv k h
  · exact DqI.snoc hv k h
theorem DqI.len : ∀ {ks : List (L2.Key × V)} {kvs : List (Int × D)}, DqI K G ks kvs → ks.length = kvs.length
  | [], [], _ => rfl
  | [], _ :: _, h => h.elim
  | _ :: _, [], h => h.elim
  | _ :: _, _ :: _, h => by
    rw [List.length_cons, List.length_cons, DqI.len h.2.2]
end
/-- what can be a key -/
def keyDI : D → Option Int
  | .int i => some i
  | _ => none
section
variable {K : PySem.W.Frag} {B : Hp} {O : List Addr} {I : List (Nat × Addr)} {σ : L2.St} {H H' : Hp} {env env' : Env} {v : V} {t ta tb te tk tx : TE} {f fa fb fe fk fx : EF} {W : WN}
def fDNewI (i : Nat) : SFn := fun env => (putS i (.nw (.dcI [])) env).bind fun e => some (.nx e)
def dctAtI (env : Env) (i : Nat) : Option (List (Int × D)) := match env[i]? with
  | some (.nw (.dcI kvs)) => some kvs
  | _ => none
def fDIxI (i : Nat) (fk : EF) : EF := fun env => (dctAtI env i).bind fun _ => (fk env).bind fun a => match a.1 with
  | .val kd => (keyDI kd).bind fun k => (dctAtI a.2 i).bind fun kvs => (kValI kvs k).bind fun d => some (.val d, a.2)
  | _ => none
def fDGet2I (i : Nat) (fk fx : EF) : EF := fun env => (dctAtI env i).bind fun _ => (fk env).bind fun a => match a.1 with
  | .val kd => (keyDI kd).bind fun k => (fx a.2).bind fun b => match frz b.1 with
    | .val x => (dctAtI b.2 i).bind fun kvs => some (.val ((kValI kvs k).getD x), b.2)
    | _ => none
  | _ => none
def fDInI (i : Nat) (neg : Bool) (fk : EF) : EF := fun env => (fk env).bind fun a => match a.1 with
  | .val kd => (keyDI kd).bind fun k => (dctAtI a.2 i).bind fun kvs => some (.val (.bl ((kValI kvs k).isSome != neg)), a.2)
  | _ => none
def fDPutI (i : Nat) (fk fe : EF) : SFn := fun env => (fe env).bind fun a => (dctAtI a.2 i).bind fun _ => (fk a.2).bind fun b => match frz a.1, b.1 with
  | .val d, .val kd => (keyDI kd).bind fun k => (dctAtI b.2 i).bind fun kvs => if kvs.length ≤ 1000000 then some (.nx (b.2.set i (.nw (.dcI (kPutI kvs k d))))) else none
  | _, _ => none
end
section
variable {P : RV × Env → Prop} {PO : Out → Prop} {env e : Env} {f fa fb fk fe fx : EF} {fr : AF} {rs : List RV} {r : RV} {i : Nat} {d kd x : D} {s : SV} {kvs : List (Int × D)} {k : Int}
theorem dct_0I : dctAtI (.nw (.dcI kvs) :: env) 0 = some kvs := rfl
theorem dct_sI : dctAtI (s :: env) (i + 1) = dctAtI env i := by
  unfold dctAtI
  rw [List.getElem?_cons_succ]
theorem w_dnewI : Ok (fDNewI i env) PO ↔ Ok (putS i (.nw (.dcI [])) env) (KNx PO) := ok_bind_iff fun e => ok_some
theorem keyI_1 {x : Int} : keyDI (.int x) = some x := rfl
/-- d[k] -/
def QDIxI (e : Env) (P : RV × Env → Prop) : Option Int → Option (List (Int × D)) → Prop
  | some k, some kvs => Ok (kValI kvs k) (KV e P)
  | _, _ => False
def KDIxI (i : Nat) (P : RV × Env → Prop) : RV × Env → Prop := fun a => match a.1 with
  | .val kd => QDIxI a.2 P (keyDI kd) (dctAtI a.2 i)
  | _ => False
theorem q_dixI : QDIxI e P (some k) (some kvs) ↔ Ok (kValI kvs k) (KV e P) := Iff.rfl
theorem k_dixI : KDIxI i P (.val kd, e) ↔ QDIxI e P (keyDI kd) (dctAtI e i) := Iff.rfl
theorem w_dixI : Ok (fDIxI i fk env) P ↔ (dctAtI env i).isSome = true ∧ Ok (fk env) (KDIxI i P) := by
  unfold fDIxI
  cases hd : dctAtI env i with
  | none => exact ⟨fun h => (ok_none.mp h).elim, fun h => by simp at h⟩
  | some z =>
    rw [Option.bind_some]
    simp only [Option.isSome_some, true_and]
    refine ok_bind_iff fun ⟨r, e⟩ => ?_
    cases r with
    | val kd =>
      show Ok (Option.bind (keyDI kd) _) P ↔ QDIxI e P (keyDI kd) (dctAtI e i)
      cases keyDI kd with
      | none => exact ⟨fun h => (ok_none.mp h).elim, fun h => h.elim⟩
      | some k =>
        rw [Option.bind_some]
        show Ok (Option.bind (dctAtI e i) _) P ↔ _
        cases dctAtI e i with
        | none => exact ⟨fun h => (ok_none.mp h).elim, fun h => h.elim⟩
        | some kvs =>
          rw [Option.bind_some]
          exact ok_bind_iff fun d => ok_some
    | _ => exact ⟨fun h => (ok_none.mp h).elim, fun h => h.elim⟩
/-- d.get(k, x) -/
def QDG2I (e : Env) (k : Int) (x : D) (P : RV × Env → Prop) : Option (List (Int × D)) → Prop
  | some kvs => P (.val ((kValI kvs k).getD x), e)
  | _ => False
def KDG2I (i : Nat) (k : Int) (P : RV × Env → Prop) : RV × Env → Prop := fun b => match frz b.1 with
  | .val x => QDG2I b.2 k x P (dctAtI b.2 i)
  | _ => False
def QDG1I (i : Nat) (fx : EF) (e : Env) (P : RV × Env → Prop) : Option Int → Prop
  | some k => Ok (fx e) (KDG2I i k P)
  | _ => False
def KDG1I (i : Nat) (fx : EF) (P : RV × Env → Prop) : RV × Env → Prop := fun a => match a.1 with
  | .val kd => QDG1I i fx a.2 P (keyDI kd)
  | _ => False
theorem q_dg2I : QDG2I e k x P (some kvs) ↔ P (.val ((kValI kvs k).getD x), e) := Iff.rfl
theorem k_dg2I : KDG2I i k P (.val x, e) ↔ QDG2I e k x P (dctAtI e i) := Iff.rfl
theorem q_dg1I : QDG1I i fx e P (some k) ↔ Ok (fx e) (KDG2I i k P) := Iff.rfl
theorem k_dg1I : KDG1I i fx P (.val kd, e) ↔ QDG1I i fx e P (keyDI kd) := Iff.rfl
theorem w_dget2I : Ok (fDGet2I i fk fx env) P ↔ (dctAtI env i).isSome = true ∧ Ok (fk env) (KDG1I i fx P) := by
  unfold fDGet2I
  cases hd : dctAtI env i with
  | none => exact ⟨fun h => (ok_none.mp h).elim, fun h => by simp at h⟩
  | some z =>
    rw [Option.bind_some]
    simp only [Option.isSome_some, true_and]
    refine ok_bind_iff fun ⟨r, e⟩ => ?_
    cases r with
    | val kd =>
      show Ok (Option.bind (keyDI kd) _) P ↔ QDG1I i fx e P (keyDI kd)
      cases keyDI kd with
      | none => exact ⟨fun h => (ok_none.mp h).elim, fun h => h.elim⟩
      | some k =>
        rw [Option.bind_some]
        refine ok_bind_iff fun ⟨r2, e2⟩ => ?_
        show Ok (match frz r2 with | .val x => _ | _ => none) P ↔ (match frz r2 with | .val x => QDG2I e2 k x P (dctAtI e2 i) | _ => False)
        cases frz r2 with
        | val x =>
          dsimp only
          cases dctAtI e2 i with
          | none => exact ⟨fun h => (ok_none.mp h).elim, fun h => h.elim⟩
          | some kvs => exact ok_some
        | _ => exact ⟨fun h => (ok_none.mp h).elim, fun h => h.elim⟩
    | _ => exact ⟨fun h => (ok_none.mp h).elim, fun h => h.elim⟩
/-- k in d -/
def QDInI (neg : Bool) (e : Env) (P : RV × Env → Prop) : Option Int → Option (List (Int × D)) → Prop
  | some k, some kvs => P (.val (.bl ((kValI kvs k).isSome != neg)), e)
  | _, _ => False
def KDInI (i : Nat) (neg : Bool) (P : RV × Env → Prop) : RV × Env → Prop := fun a => match a.1 with
  | .val kd => QDInI neg a.2 P (keyDI kd) (dctAtI a.2 i)
  | _ => False
theorem q_dinI {neg : Bool} : QDInI neg e P (some k) (some kvs) ↔ P (.val (.bl ((kValI kvs k).isSome != neg)), e) := Iff.rfl
theorem k_dinI {neg : Bool} : KDInI i neg P (.val kd, e) ↔ QDInI neg e P (keyDI kd) (dctAtI e i) := Iff.rfl
theorem w_dinI {neg : Bool} : Ok (fDInI i neg fk env) P ↔ Ok (fk env) (KDInI i neg P) := by
  refine ok_bind_iff fun ⟨r, e⟩ => ?_
  cases r with
  | val kd =>
    show Ok (Option.bind (keyDI kd) _) P ↔ QDInI neg e P (keyDI kd) (dctAtI e i)
    cases keyDI kd with
    | none => exact ⟨fun h => (ok_none.mp h).elim, fun h => h.elim⟩
    | some k =>
      rw [Option.bind_some]
      show Ok (Option.bind (dctAtI e i) _) P ↔ _
      cases dctAtI e i with
      | none => exact ⟨fun h => (ok_none.mp h).elim, fun h => h.elim⟩
      | some kvs => exact ok_some
  | _ => exact ⟨fun h => (ok_none.mp h).elim, fun h => h.elim⟩
/-- d[k] = e -/
def QDPI (i : Nat) (d : D) (e : Env) (PO : Out → Prop) : Option Int → Option (List (Int × D)) → Prop
  | some k, some kvs => kvs.length ≤ 1000000 ∧ PO (.nx (e.set i (.nw (.dcI (kPutI kvs k d)))))
  | _, _ => False
def KDP2I (i : Nat) (r : RV) (PO : Out → Prop) : RV × Env → Prop := fun b => match frz r, b.1 with
  | .val d, .val kd => QDPI i d b.2 PO (keyDI kd) (dctAtI b.2 i)
  | _, _ => False
def KDP1I (i : Nat) (fk : EF) (PO : Out → Prop) : RV × Env → Prop := fun a => (dctAtI a.2 i).isSome = true ∧ Ok (fk a.2) (KDP2I i a.1 PO)
theorem q_dpI : QDPI i d e PO (some k) (some kvs) ↔ kvs.length ≤ 1000000 ∧ PO (.nx (e.set i (.nw (.dcI (kPutI kvs k d))))) := Iff.rfl
theorem k_dp2I : KDP2I i (.val d) PO (.val kd, e) ↔ QDPI i d e PO (keyDI kd) (dctAtI e i) := Iff.rfl
theorem k_dp2nI {ds : List D} : KDP2I i (.new ds) PO (.val kd, e) ↔ QDPI i (.lst ds) e PO (keyDI kd) (dctAtI e i) := Iff.rfl
theorem k_dp1I : KDP1I i fk PO (r, e) ↔ (dctAtI e i).isSome = true ∧ Ok (fk e) (KDP2I i r PO) := Iff.rfl
theorem w_dputI : Ok (fDPutI i fk fe env) PO ↔ Ok (fe env) (KDP1I i fk PO) := by
  refine ok_bind_iff fun ⟨r, e⟩ => ?_
  show Ok (Option.bind (dctAtI e i) _) PO ↔ (dctAtI e i).isSome = true ∧ Ok (fk e) (KDP2I i r PO)
  cases dctAtI e i with
  | none => exact ⟨fun h => (ok_none.mp h).elim, fun h => by simp at h⟩
  | some z =>
    rw [Option.bind_some]
    simp only [Option.isSome_some, true_and]
    refine ok_bind_iff fun ⟨r2, e2⟩ => ?_
    show Ok (match frz r, r2 with | .val d, .val kd => _ | _, _ => none) PO ↔ (match frz r, r2 with | .val d, .val kd => QDPI i d e2 PO (keyDI kd) (dctAtI e2 i) | _, _ => False)
    cases frz r with
    | val d =>
      cases r2 with
      | val kd =>
        dsimp only
        cases keyDI kd with
        | none => exact ⟨fun h => (ok_none.mp h).elim, fun h => h.elim⟩
        | some k =>
          rw [Option.bind_some]
          cases dctAtI e2 i with
          | none => exact ⟨fun h => (ok_none.mp h).elim, fun h => h.elim⟩
          | some kvs =>
            rw [Option.bind_some, ok_guard, ok_some]
            exact Iff.rfl
      | _ => exact ⟨fun h => (ok_none.mp h).elim, fun h => h.elim⟩
    | _ => exact ⟨fun h => (ok_none.mp h).elim, fun h => h.elim⟩
end
end Dv
namespace Dv
open PySem L2
section
variable {K : PySem.W.Frag} {B : Hp} {O : List Addr} {I : List (Nat × Addr)} {σ : L2.St} {H H' G : Hp} {env env' : Env} {v : V} {W : WN}
theorem DqI.keys : ∀ {ks : List (L2.Key × V)} {kvs : List (Int × D)}, DqI K G ks kvs → ks.map (·.1) = (kvs.map (·.1)).map Sum.inl
  | [], [], _ => rfl
  | [], _ :: _, h => h.elim
  | _ :: _, [], h => h.elim
  | p :: ks, q :: kvs, h => by
    obtain ⟨h1, _, h3⟩ := h
    rw [List.map_cons, List.map_cons, List.map_cons, DqI.keys h3, h1]
/-- max(d) -/
def fDMaxI (i : Nat) : EF := fun env => (dctAtI env i).bind fun kvs => (maxL (kvs.map (·.1))).bind fun m => some (.val (.int m), env)
end
section
variable {P : RV × Env → Prop} {env : Env} {i : Nat} {kvs : List (Int × D)}
def QDMI (e : Env) (P : RV × Env → Prop) : Option (List (Int × D)) → Prop
  | some kvs => Ok (maxL (kvs.map (·.1))) fun m => P (.val (.int m), e)
  | _ => False
theorem q_dmI : QDMI env P (some kvs) ↔ Ok (maxL (kvs.map (·.1))) fun m => P (.val (.int m), env) := Iff.rfl
theorem w_dmaxI : Ok (fDMaxI i env) P ↔ QDMI env P (dctAtI env i) := by
  unfold fDMaxI
  cases dctAtI env i with
  | none => exact ⟨fun h => (ok_none.mp h).elim, fun h => h.elim⟩
  | some kvs => exact ok_bind_iff fun m => ok_some
end
end Dv
namespace PySem.W
open PySem PySem.Calls PyProof.Rows PyProof.V PySem.Spec
end PySem.W
namespace Big
open PySem PySem.Spec PyProof.Rows L2
def sameI : Option V → V → Bool
  | some (.int i), .int j => j == i
  | _, _ => false
end Big
namespace Dv
open PySem L2
def isIntD : D → Bool
  | .int _ => true
  | _ => false
theorem isIntD_of {d : D} (h : isIntD d = true) : ∃ n, d = .int n := by
  cases d with
  | int n => exact ⟨n, rfl⟩
  | _ => cases h
def sameD : Option D → D → Bool
  | some (.int i), .int j => j == i
  | _, _ => false
section
variable {K : PySem.W.Frag} {G : Hp}
theorem DqK.same {kl' : List (List L2.Key × V)} {kvs' : List (List Int × D)} (h' : DqK K G kl' kvs') (i' : (kvs'.all fun q => isIntD q.2) = true) : ∀ {kl : List (List L2.Key × V)} {kvs : List (List Int × D)}, DqK K G kl kvs → (kvs.all fun q => isIntD q.2) = true →
    (kl.all fun p => Big.sameI (valV kl' p.1) p.2) = kvs.all fun q => sameD (kVal kvs' q.1) q.2
  | [], [], _, _ => rfl
  | [], _ :: _, h, _ => h.elim
  | _ :: _, [], h, _ => h.elim
  | p :: kl, q :: kvs, h, e => by
    obtain ⟨h1, h2, h3⟩ := h
    rw [List.all_cons, Bool.and_eq_true] at e
    rw [List.all_cons, List.all_cons, DqK.same h' i' h3 e.2]
    congr 1
    rw [h1]
    obtain ⟨k, d⟩ := q
    dsimp only at h2 e ⊢
    obtain ⟨n, rfl⟩ := isIntD_of e.1
    obtain ⟨pk, pv⟩ := p
    dsimp only at h2 ⊢
    cases h2
    rcases h'.val k with ⟨z1, z2⟩ | ⟨v, d', z1, z2, z3⟩
    · rw [show valV kl' (List.map Sum.inl k) = none from z1, z2]
      rfl
    · rw [show valV kl' (List.map Sum.inl k) = some v from z1, z2]
      have hd : isIntD d' = true := by
        unfold kVal at z2
        obtain ⟨z, hz, e⟩ := Option.map_eq_some_iff.mp z2
        rw [← e]
        exact List.all_eq_true.mp i' z (List.mem_of_find?_eq_some hz)
      obtain ⟨n', rfl⟩ := isIntD_of hd
      cases z3
      rfl
end
end Dv
namespace Dv
open PySem L2
section
variable {K : PySem.W.Frag} {B : Hp} {O : List Addr} {I : List (Nat × Addr)} {σ : L2.St} {H H' : Hp} {env env' : Env} {v : V} {t ta tb te : TE} {f fa fb fe : EF} {W : WN}
def fTupW (fn : NF) : EF := fun env => (fn env).bind fun a => if a.1.length ≤ 1000 then some (.tw a.1, a.2) else none
def adrT (qs : List Addr) : D := .tup (qs.map D.adr)
/-- how the names are between -/
def TwOk (i j k : Nat) (mid : SFn) (A C : List D) (e0 e4 : Env) : Prop := ∀ q1 q2 : Addr, ∃ e1 e2 e3, putS i (.fz (adrT [q1, q2])) e0 = some e1 ∧ mid e1 = some (.nx e2) ∧
  fAsg (fVar i) (gfTup 2 (gfCons (gfName j) (gfCons (gfName k) gfNil))) e2 = some (.nx e3) ∧ e3[j]? = some (.fz (.adr q1)) ∧ e3[k]? = some (.fz (.adr q2)) ∧ j ≠ k ∧ putS i .no ((e3.set j (.o1 A)).set k (.o1 C)) = some e4
end
section
variable {env e : Env} {P : RV × Env → Prop} {PO : Out → Prop} {fn : NF} {fe : EF} {mid rest : SFn} {i j k : Nat} {A C : List D} {e4 : Env}
def KTupW (P : RV × Env → Prop) : List (List D) × Env → Prop := fun a => a.1.length ≤ 1000 ∧ P (.tw a.1, a.2)
theorem k_tupW {dss : List (List D)} : KTupW P (dss, e) ↔ dss.length ≤ 1000 ∧ P (.tw dss, e) := Iff.rfl
theorem w_tupW : Ok (fTupW fn env) P ↔ Ok (fn env) (KTupW P) := by
  refine ok_bind_iff fun ⟨r, e⟩ => ?_
  dsimp only
  rw [ok_guard]
  exact and_congr Iff.rfl ok_some
theorem k_finXt {io : List Bool} {PX : Except Nat (D × Bool × List (List D)) → Prop} {dss : List (List D)} : KFinX io PX (.rt (.tw dss) e) ↔ outF io (.tup (dss.map D.lst)) true e fun r => PX (.ok r) := Iff.rfl
theorem k_resW {bor : List Nat} {outs outs' : List (List D)} {a b : List D} : KRes bor outs (.tup [.lst a, .lst b], true, outs') P e ↔ (bor.isEmpty && outs.all (fun ds => bor.isEmpty || noLs ds)) = true ∧ P (.tw [a, b], e) := Iff.rfl
theorem k_backXw {bor : List Nat} {a b : List D} : KBackX bor e P (.ok (.tup [.lst a, .lst b], true, [])) ↔ bor.isEmpty = true ∧ P (.tw [a, b], e) := by
  unfold KBackX
  dsimp only
  rw [show resR (.tup [.lst a, .lst b], true, []) = some (.tw [a, b]) from rfl, ok_some]
  exact ⟨fun h => h.2, fun h => ⟨rfl, h⟩⟩
theorem TwOk.uniq {e0 e4' : Env} (h : TwOk i j k mid A C e0 e4) (h' : TwOk i j k mid A C e0 e4') : e4 = e4' := by
  obtain ⟨e1, e2, e3, g1, g2, g3, _, _, _, g7⟩ := h 0 0
  obtain ⟨e1', e2', e3', g1', g2', g3', _, _, _, g7'⟩ := h' 0 0
  rw [g1] at g1'
  cases g1'
  rw [g2] at g2'
  cases g2'
  rw [g3] at g3'
  cases g3'
  rw [g7] at g7'
  cases g7'
  rfl
end
end Dv
namespace Zl
open PySem PySem.Spec PyProof.Rows L2
theorem no_len : typeLookup (.type "zip") "__len__" = pure none := am_miss_of_fast (by decide +kernel)
theorem no_hint : typeLookup (.type "zip") "__length_hint__" = pure none := am_miss_of_fast (by decide +kernel)
abbrev lsO (acc : Array Value) (c : Nat) : Obj := { cls := .type "list", dict := none, data := .seq acc c, slots := #[] }
/-- the zip as it stands while its pairs are put into the list S -/
structure At (h : Heap) (S z TI TO i1 i2 l1 l2 : Addr) (xs ys : Array Value) (i : Nat) : Prop where
  ti : IsPair h TI (.ref i1) (.ref i2)
  a1 : h.IsListIter i1 l1 i
  a2 : h.IsListIter i2 l2 i
  b1 : h.IsList l1 xs
  b2 : h.IsList l2 ys
  to : ∃ a b, IsPair h TO a b
  st : IsZip h z TI TO .none ∨ ∃ T f oT, IsZipHeld h z TI TO T f ∧ h.get? T = some oT ∧ T ≠ z ∧ T ≠ i1 ∧ T ≠ i2 ∧ T ≠ S
theorem At.go {h h' : Heap} {S z TI TO i1 i2 l1 l2 : Addr} {xs ys : Array Value} {i : Nat} (a : At h S z TI TO i1 i2 l1 l2 xs ys i) (hS : S ∉ [z, TI, TO, i1, i2, l1, l2]) (k : ∀ b o, b ≠ S → h.get? b = some o → h'.get? b = some o) : At h' S z TI TO i1 i2 l1 l2 xs ys i := by
  simp only [List.mem_cons, List.not_mem_nil, or_false, not_or] at hS
  obtain ⟨d1, d2, d3, d4, d5, d6, d7⟩ := hS
  obtain ⟨u, v, q⟩ := a.to
  refine ⟨k _ _ (Ne.symm d2) a.ti, a.a1.at fun o e => k _ o (Ne.symm d4) e, a.a2.at fun o e => k _ o (Ne.symm d5) e, a.b1.at fun o e => k _ o (Ne.symm d6) e, a.b2.at fun o e => k _ o (Ne.symm d7) e, ⟨u, v, k _ _ (Ne.symm d3) q⟩, ?_⟩
  rcases a.st with p | ⟨T, f, oT, p, q, r1, r2, r3, r4⟩
  · exact .inl (k _ _ (Ne.symm d1) p)
  · exact .inr ⟨T, f, oT, k _ _ (Ne.symm d1) p, k _ _ r4 q, r1, r2, r3, r4⟩
theorem At.there {h : Heap} {S z TI TO i1 i2 l1 l2 : Addr} {xs ys : Array Value} {i : Nat} (a : At h S z TI TO i1 i2 l1 l2 xs ys i) : ∀ b, b ∈ [z, TI, TO, i1, i2] → ∃ o, h.get? b = some o := fun b hb => by
  obtain ⟨u, v, q⟩ := a.to
  obtain ⟨o1, e1, _⟩ := a.a1
  obtain ⟨o2, e2, _⟩ := a.a2
  have hz : ∃ o, h.get? z = some o := by
    rcases a.st with p | ⟨T, f, oT, p, _⟩
    · exact ⟨_, p⟩
    · exact ⟨_, p⟩
  simp only [List.mem_cons, List.not_mem_nil, or_false] at hb
  rcases hb with e | e | e | e | e <;> subst e
  · exact hz
  · exact ⟨_, a.ti⟩
  · exact ⟨_, q⟩
  · exact ⟨_, e1⟩
  · exact ⟨_, e2⟩
/-- the pairs that lie in the list -/
structure Has (h0 h : Heap) (S z TI TO i1 i2 : Addr) (xs ys : Array Value) (Ts : List Addr) (acc : Array Value) (c : Nat) : Prop where
  lst : h.get? S = some (lsO acc c)
  is : acc.toList = Ts.map Value.ref
  prs : ∀ (j : Nat) (T : Addr), Ts[j]? = some T → ∃ u v, xs[j]? = some u ∧ ys[j]? = some v ∧ IsPair h T u v ∧ h0.objs.size ≤ T ∧ T ∉ [S, z, TI, TO, i1, i2]
  nod : Ts.Nodup
  kept : ∀ b o, h0.get? b = some o → h.get? b = some o
theorem Has.go {h0 h h' : Heap} {S z TI TO i1 i2 : Addr} {xs ys : Array Value} {Ts : List Addr} {acc : Array Value} {c : Nat} (a : Has h0 h S z TI TO i1 i2 xs ys Ts acc c) (d : S ∉ [z, TO, i1, i2]) (new : ∀ b, b ∈ [S, z, TI, TO, i1, i2] → h0.objs.size ≤ b)
    (k : ∀ b o, b ∉ [z, TO, i1, i2] → h.get? b = some o → h'.get? b = some o) : Has h0 h' S z TI TO i1 i2 xs ys Ts acc c := by
  refine ⟨k _ _ d a.lst, a.is, fun j T e => ?_, a.nod, fun b o e => k _ _ (fun hb => ?_) (a.kept b o e)⟩
  · obtain ⟨u, v, p1, p2, p3, p4, p5⟩ := a.prs j T e
    refine ⟨u, v, p1, p2, k _ _ (fun hb => p5 ?_) p3, p4, p5⟩
    simp only [List.mem_cons, List.not_mem_nil, or_false] at hb ⊢
    rcases hb with e | e | e | e <;> simp [e]
  · have := new b (by
      simp only [List.mem_cons, List.not_mem_nil, or_false] at hb ⊢
      rcases hb with e | e | e | e <;> simp [e])
    exact absurd (Nat.lt_of_lt_of_le (Heap.lt_size e) this) (Nat.lt_irrefl _)
theorem Has.push {h0 h h' : Heap} {S z TI TO i1 i2 : Addr} {xs ys : Array Value} {Ts : List Addr} {acc : Array Value} {c c' : Nat} {T : Addr} {u v : Value} (a : Has h0 h S z TI TO i1 i2 xs ys Ts acc c) (hS : S ≠ T) (h0S : h0.objs.size ≤ S) (hu : xs[Ts.length]? = some u) (hv : ys[Ts.length]? = some v)
    (hT : IsPair h T u v) (h1 : h0.objs.size ≤ T) (h2 : T ∉ [S, z, TI, TO, i1, i2]) (h3 : T ∉ Ts) (e : h'.get? S = some (lsO (acc.push (.ref T)) c')) (k : ∀ b o, b ≠ S → h.get? b = some o → h'.get? b = some o) : Has h0 h' S z TI TO i1 i2 xs ys (Ts ++ [T]) (acc.push (.ref T)) c' := by
  refine ⟨e, by rw [Array.toList_push, a.is, List.map_append]; rfl, fun j T' e => ?_, ?_, fun b o eo => k _ _ (fun hb => ?_) (a.kept b o eo)⟩
  · rw [List.getElem?_append] at e
    split at e
    · obtain ⟨u, v, p1, p2, p3, p4, p5⟩ := a.prs j T' e
      exact ⟨u, v, p1, p2, k _ _ (fun z => p5 (by rw [z]; exact List.mem_cons_self)) p3, p4, p5⟩
    · have hj : j = Ts.length := by
        have := (List.getElem?_eq_some_iff.mp e).1
        simp at this
        omega
      subst hj
      rw [Nat.sub_self] at e
      cases e
      exact ⟨u, v, hu, hv, k _ _ (Ne.symm hS) hT, h1, h2⟩
  · refine List.nodup_append.mpr ⟨a.nod, List.pairwise_singleton _ _, fun x hx y hy => ?_⟩
    rw [List.mem_singleton.mp hy]
    intro z
    rw [z] at hx
    exact h3 hx
  · subst hb
    exact absurd (Nat.lt_of_lt_of_le (Heap.lt_size eo) h0S) (Nat.lt_irrefl _)
section
variable {prog : Program} {w : World} {A : Around} {s : Shared} {R : Result → Shared → Prop} {S z TI TO i1 i2 l1 l2 : Addr} {xs ys : Array Value} {res : Value} {h0 : Heap}
theorem loop (hh : A.handled = none) (D : ZipApart z TI TO i1 i2 l1 l2) (hS : S ∉ [z, TI, TO, i1, i2, l1, l2]) (new : ∀ b, b ∈ [S, z, TI, TO, i1, i2] → h0.objs.size ≤ b) (hn : min xs.size ys.size ≤ sizeLine) :
    ∀ (k i : Nat) (s : Shared) (Ts : List Addr) (acc : Array Value) (c : Nat), min xs.size ys.size - i = k → i ≤ min xs.size ys.size → At s.heap S z TI TO i1 i2 l1 l2 xs ys i → Has h0 s.heap S z TI TO i1 i2 xs ys Ts acc c → Ts.length = i →
    (∀ h' Ts acc c, Has h0 h' S z TI TO i1 i2 xs ys Ts acc c → Ts.length = min xs.size ys.size → R (.ok (.ret res)) { s with heap := h' }) → codeAny (model prog w) A (.builtin "list.extend.loop" ⟨[.ref S, .ref z, res], []⟩) R s := by
  have dS : S ∉ [z, TO, i1, i2] := fun hb => hS (by
    simp only [List.mem_cons, List.not_mem_nil, or_false] at hb ⊢
    rcases hb with e | e | e | e <;> simp [e])
  intro k
  induction k with
  | zero =>
    intro i s Ts acc c hk hi a has hl fin
    have hend : xs[i]? = none ∨ ys[i]? = none := by
      rcases Nat.le_total xs.size ys.size with h | h
      · exact .inl (Array.getElem?_eq_none (by omega))
      · exact .inr (Array.getElem?_eq_none (by omega))
    refine codeAny_builtin F.entry_extend_loop ?_; rw [Around.under_plainId F.plain_extend_loop _]
    show wpAny _ A.in1 (pyNext (.ref z) >>= _) _ _ s
    obtain ⟨u, v, hTO⟩ := a.to
    rcases a.st with p | ⟨T, f, oT, p, q, r1, r2, r3, r4⟩
    · refine wpAny_bind (wpAny_pyNext_zip_end hh D p a.ti hTO a.a1 a.a2 a.b1 a.b2 hend fun h' hk => wpAny_pure (fin h' Ts acc c (has.go dS new fun b o hb e => ?_) (by omega)))
      simp only [List.mem_cons, List.not_mem_nil, or_false, not_or] at hb
      exact hk _ _ hb.1 hb.2.1 hb.2.2.1 hb.2.2.2 e
    · refine wpAny_bind (wpAny_pyNext_zip_end_held hh D p q a.ti a.a1 a.a2 a.b1 a.b2 hend fun h' hk => wpAny_pure (fin h' Ts acc c (has.go dS new fun b o hb e => ?_) (by omega)))
      simp only [List.mem_cons, List.not_mem_nil, or_false, not_or] at hb
      exact hk _ _ hb.1 hb.2.2.1 hb.2.2.2 e
  | succ k ih =>
    intro i s Ts acc c hk hi a has hl fin
    have hix : i < xs.size := by omega
    have hiy : i < ys.size := by omega
    have ex := Array.getElem?_eq_getElem hix
    have ey := Array.getElem?_eq_getElem hiy
    have asz : acc.size = i := by rw [← hl, ← Array.length_toList, has.is, List.length_map]
    refine codeAny_builtin F.entry_extend_loop ?_; rw [Around.under_plainId F.plain_extend_loop _]
    show wpAny _ A.in1 (pyNext (.ref z) >>= _) _ _ s
    have apart : ∀ b o, s.heap.get? b = some o → s.heap.objs.size ≠ b := fun b o e => Nat.ne_of_gt (Heap.lt_size e)
    have thr := a.there
    have nS := apart _ _ has.lst
    have nT : s.heap.objs.size ∉ [S, z, TI, TO, i1, i2] := fun hb => by
      rcases List.mem_cons.mp hb with e | e
      · exact nS e
      · obtain ⟨o, ho⟩ := thr _ e
        exact apart _ _ ho rfl
    have nTs : s.heap.objs.size ∉ Ts := fun hb => by
      obtain ⟨j, e⟩ := List.mem_iff_getElem?.mp hb
      obtain ⟨u, v, _, _, p, _⟩ := has.prs j _ e
      exact apart _ _ p rfl
    have old : h0.objs.size ≤ s.heap.objs.size := by
      have h1 := new S List.mem_cons_self
      have h2 := Heap.lt_size has.lst
      exact Nat.le_trans h1 (Nat.le_of_lt h2)
    have nmem : ∀ b, b ∈ [z, TI, TO, i1, i2] → s.heap.objs.size ≠ b := fun b hb e => by
      obtain ⟨o, ho⟩ := thr b hb
      exact apart _ _ ho e
    have step : ∀ h' : Heap, At h' S z TI TO i1 i2 l1 l2 xs ys (i + 1) → IsPair h' s.heap.objs.size xs[i] ys[i] → (∀ b o, b ∉ [z, TO, i1, i2] → s.heap.get? b = some o → h'.get? b = some o) →
        wpAny (model prog w) A.in1 (updateSeq S (·.push (.ref s.heap.objs.size)) >>= fun _ => again (.builtin "list.extend.loop" ⟨[.ref S, .ref z, res], []⟩)) (fun fin s' => match fin with | .done f => R (.ok f) s' | .again c' => c'.quiet = true ∧ codeAny (model prog w) A c' R s') (fun e s' => R (.error e) s') { s with heap := h' } := fun h' a' pr kp => by
      have has' := has.go dS new kp
      have other : ∀ b o, b ≠ S → h'.get? b = some o → (h'.update S (Obj.mapSeq (·.push (.ref s.heap.objs.size)))).get? b = some o := fun b o hb e => (Heap.get?_update_other _ _ (Ne.symm hb)).trans e
      refine wpAny_bind (wpAny_updateSeq (s := { s with heap := h' }) has'.lst rfl (wpAny_pure ⟨plainId_quiet F.plain_extend_loop _, ?_⟩) (by rw [asz]; omega) (by show (acc.push _).size ≤ sizeLine + 1; rw [Array.size_push, asz]; omega))
      have self := Heap.get?_update_self (Obj.mapSeq (·.push (Value.ref s.heap.objs.size))) has'.lst rfl
      refine ih (i + 1) _ (Ts ++ [s.heap.objs.size]) _ _ (by omega) (by omega) (a'.go hS other) (has'.push (Ne.symm nS) (new S List.mem_cons_self) (by rw [hl]; exact ex) (by rw [hl]; exact ey) pr old nT nTs self other) (by rw [List.length_append, hl]; rfl) fin
    obtain ⟨u, v, hTO⟩ := a.to
    rcases a.st with p | ⟨T, f, oT, p, q, r1, r2, r3, r4⟩
    · refine wpAny_bind (wpAny_pyNext_zip_item D p a.ti hTO a.a1 a.a2 a.b1 a.b2 ex ey fun h' q1 q2 q3 q4 q5 q6 hk => step h' ⟨hk _ _ D.TIz D.TITO D.TIi1 D.TIi2 a.ti, q3, q4, ?_, ?_, ⟨_, _, q2⟩, .inr ⟨s.heap.objs.size, false, _, q1, q5, ?_, ?_, ?_, nS⟩⟩ q5 fun b o hb e => ?_)
      · exact a.b1.at fun o e => hk _ o D.l1z D.l1TO D.l1i1 D.l1i2 e
      · exact a.b2.at fun o e => hk _ o D.l2z D.l2TO D.l2i1 D.l2i2 e
      · exact nmem z (by simp)
      · exact nmem i1 (by simp)
      · exact nmem i2 (by simp)
      · simp only [List.mem_cons, List.not_mem_nil, or_false, not_or] at hb
        exact hk _ _ hb.1 hb.2.1 hb.2.2.1 hb.2.2.2 e
    · refine wpAny_bind (wpAny_pyNext_zip_item_held D p q a.ti a.a1 a.a2 a.b1 a.b2 ex ey fun h' q1 q3 q4 q5 q6 hk => step h' ⟨hk _ _ D.TIz D.TIi1 D.TIi2 a.ti, q3, q4, ?_, ?_, ⟨u, v, hk _ _ D.TOz D.TOi1 D.TOi2 hTO⟩, .inr ⟨T, true, oT, q1, hk _ _ r1 r2 r3 q, r1, r2, r3, r4⟩⟩ q5 fun b o hb e => ?_)
      · exact a.b1.at fun o e => hk _ o D.l1z D.l1i1 D.l1i2 e
      · exact a.b2.at fun o e => hk _ o D.l2z D.l2i1 D.l2i2 e
      · simp only [List.mem_cons, List.not_mem_nil, or_false, not_or] at hb
        exact hk _ _ hb.1 hb.2.2.1 hb.2.2.2 e
theorem call {Q : Value → Shared → Prop} {E : Value → Shared → Prop} (hh : A.handled = none) (D : ZipApart z TI TO i1 i2 l1 l2) (new : ∀ b, b ∈ [z, TI, TO, i1, i2] → h0.objs.size ≤ b) (hn : min xs.size ys.size ≤ sizeLine)
    (hz : IsZip s.heap z TI TO .none) (ti : IsPair s.heap TI (.ref i1) (.ref i2)) (to : ∃ a b, IsPair s.heap TO a b) (a1 : s.heap.IsListIter i1 l1 0) (a2 : s.heap.IsListIter i2 l2 0) (b1 : s.heap.IsList l1 xs) (b2 : s.heap.IsList l2 ys) (kp : ∀ b o, h0.get? b = some o → s.heap.get? b = some o)
    (fin : ∀ h' S Ts acc c, Has h0 h' S z TI TO i1 i2 xs ys Ts acc c → h0.objs.size ≤ S → Ts.length = min xs.size ys.size → Q (.ref S) { s with heap := h' }) :
    wpAny (model prog w) A (PySem.call (.type "list") [.ref z]) Q E s := by
  refine callType_codes (Q₁ := fun ob t => ob = .ref s.heap.objs.size ∧ t = { s with heap := s.heap.push { cls := .type "list", data := .seq #[] } }) F.called_list (F.typeCall_list_1 _) F.entry_list_init (code_list_new _ ⟨rfl, rfl⟩) fun ob t ht => ?_
  obtain ⟨rfl, rfl⟩ := ht
  generalize hSd : s.heap.objs.size = S
  have g0 : (s.heap.push { cls := .type "list", data := .seq #[] }).get? S = some (lsO #[] 0) := by rw [← hSd]; exact Heap.get?_push_size _ rfl
  have k0 : ∀ b o, s.heap.get? b = some o → b ≠ S ∧ (s.heap.push { cls := .type "list", data := .seq #[] }).get? b = some o := fun b o e => ⟨by rw [← hSd]; exact Nat.ne_of_lt (Heap.lt_size e), Heap.get?_push_of_some _ e⟩
  generalize s.heap.push { cls := .type "list", data := .seq #[] } = hp at g0 k0
  refine ⟨⟨_, g0, rfl⟩, F.args_list_init_2 _ _, ?_⟩
  have hzS : z ≠ S := (k0 _ _ hz).1
  have TIS : TI ≠ S := (k0 _ _ ti).1
  obtain ⟨u, v, hTO⟩ := to
  have TOS : TO ≠ S := (k0 _ _ hTO).1
  have i1S : i1 ≠ S := let ⟨_, e, _⟩ := a1; (k0 _ _ e).1
  have i2S : i2 ≠ S := let ⟨_, e, _⟩ := a2; (k0 _ _ e).1
  have l1S : l1 ≠ S := let ⟨_, e, _⟩ := b1; (k0 _ _ e).1
  have l2S : l2 ≠ S := let ⟨_, e, _⟩ := b2; (k0 _ _ e).1
  have hS : S ∉ [z, TI, TO, i1, i2, l1, l2] := fun hb => by
    simp only [List.mem_cons, List.not_mem_nil, or_false] at hb
    rcases hb with e | e | e | e | e | e | e
    · exact hzS e.symm
    · exact TIS e.symm
    · exact TOS e.symm
    · exact i1S e.symm
    · exact i2S e.symm
    · exact l1S e.symm
    · exact l2S e.symm
  have h0S : h0.objs.size ≤ S := by
    have h1 := new z List.mem_cons_self
    have h2 := Heap.lt_size hz
    rw [← hSd]
    exact Nat.le_trans h1 (Nat.le_of_lt h2)
  have news : ∀ b, b ∈ [S, z, TI, TO, i1, i2] → h0.objs.size ≤ b := fun b hb => by
    rcases List.mem_cons.mp hb with e | e
    · rw [e]; exact h0S
    · exact new b e
  have upk : ∀ (h : Heap) (f : Obj → Obj), (∀ b o, s.heap.get? b = some o → h.get? b = some o) → ∀ b o, s.heap.get? b = some o → (h.update S f).get? b = some o := fun h f q b o e => (Heap.get?_update_other _ _ (Ne.symm (k0 _ _ e).1)).trans (q b o e)
  have k1 : ∀ b o, s.heap.get? b = some o → hp.get? b = some o := fun b o e => (k0 b o e).2
  show wpAny _ A.in1.in1 (do let old ← Builtin.List.listItems (.ref S); Builtin.List.listUpdate (.ref S) (fun _ => #[]); letGo old.toList.reverse; Builtin.List.listExtendWith (.ref S) (.ref z) .none) _ _ _
  unfold Builtin.List.listItems
  refine wpAny_bind (wpAny_bind (wpAny_seqItems (s := { s with heap := hp }) g0 rfl (wpAny_pure ?_)))
  show wpAny _ A.in1.in1 (updateSeq S (fun _ => #[]) >>= fun _ => letGo (#[] : Array Value).toList.reverse >>= fun _ => Builtin.List.listExtendWith (.ref S) (.ref z) .none) _ _ _
  refine wpAny_bind (wpAny_updateSeq (s := { s with heap := hp }) g0 rfl (wpAny_bind (wpAny_letGo ?_)))
  have g1 := Heap.get?_update_self (Obj.mapSeq (fun _ => (#[] : Array Value))) g0 rfl
  have k2 := upk _ (Obj.mapSeq (fun _ => (#[] : Array Value))) k1
  unfold Builtin.List.listExtendWith
  refine wpAny_bind (wpAny_typeOf (v := .ref z) (T := "zip") ⟨_, k2 _ _ hz, rfl⟩ ?_)
  have c1 : Builtin.List.listSameRef (.ref S) (.ref z) = false := by simp [Builtin.List.listSameRef, Ne.symm hzS]
  have c2 : (Value.type "zip" == Value.type "list") = false ∧ (Value.type "zip" == Value.type "tuple") = false := by decide
  simp only [c1, c2.1, c2.2, Bool.or_false, Bool.false_eq_true, if_false]
  refine wpAny_bind (wpAny_pyIter_zip (k2 _ _ hz) (wpAny_bind (wpAny_holding ?_)))
  unfold Builtin.List.listLengthHint
  refine wpAny_bind (wpAny_specialOf (T := "zip") ⟨_, k2 _ _ hz, rfl⟩ no_len ?_)
  show wpAny _ A.in1.in1 (specialOf (Value.ref z) (Str.ofString "__length_hint__") >>= _) _ _ _
  refine wpAny_bind (wpAny_specialOf (T := "zip") ⟨_, k2 _ _ hz, rfl⟩ no_hint (wpAny_pure ?_))
  show wpAny _ A.in1.in1 (rule "list.extend.makes-room" >>= fun _ => Builtin.List.listTouch (.ref S) >>= fun _ => again (.builtin "list.extend.loop" ⟨[.ref S, .ref z, .none], []⟩)) _ _ _
  refine wpAny_bind (wpAny_rule (wpAny_bind ?_))
  show wpAny _ A.in1.in1 (updateSeq S (·.push .none) >>= fun _ => updateSeq S (·.pop)) _ _ _
  refine wpAny_bind (wpAny_updateSeq g1 rfl ?_)
  have g2 := Heap.get?_update_self (Obj.mapSeq (·.push Value.none)) g1 rfl
  refine wpAny_updateSeq (hz := by seq_fits) g2 rfl ?_
  have g3 := Heap.get?_update_self (Obj.mapSeq (·.pop)) g2 rfl
  have k4 := upk _ (Obj.mapSeq (·.pop)) (upk _ (Obj.mapSeq (·.push Value.none)) k2)
  refine wpAny_pure ⟨plainId_quiet F.plain_extend_loop _, ?_⟩
  refine loop (A := A.in1) (h0 := h0) hh D hS news hn _ 0 _ [] _ _ rfl (Nat.zero_le _) ⟨k4 _ _ ti, a1.at fun o e => k4 _ o e, a2.at fun o e => k4 _ o e, b1.at fun o e => k4 _ o e, b2.at fun o e => k4 _ o e, ⟨u, v, k4 _ _ hTO⟩, .inl (k4 _ _ hz)⟩ ⟨g3, rfl, fun j T e => ?_, List.nodup_nil, fun b o e => k4 _ _ (kp b o e)⟩ rfl fun h' Ts acc c has hl => ?_
  · simp at e
  · exact ⟨rfl, fin h' S Ts acc c has h0S hl⟩
end
end Zl
namespace L2
open PySem PySem.Spec PyProof.Rows
end L2
namespace Dv
open PySem L2
end Dv
namespace Dv
open PySem L2
open PySem.W (dataLt dataLt_ii AlikeAll iter_listW readsAll_len cmpIn_lt moved_old argBest_fold)
end Dv
namespace Dv
open PySem L2
end Dv
namespace Dv
open PySem PySem.Spec PyProof.Rows L2
/-- a def's promise where no thing is being shown -/
def RunG (P : Program) (w : World) (K : PySem.W.Frag) (mg : Str → Option Value) (base : Heap) (CX : CXT) (k : Nat) (f : Addr) (fd : FuncData) (ps : List Str) (sp : Sp) : Prop :=
  ∀ (A : Around) (outer : List PySem.Env) (s : Shared) (H : Hp) (args : Args) (us : List Value) (vs : List V) (Q : VK) (E : XK), A.guards = some [] → Room k A → Env0 P w K mg base A outer s H → BindsTo s fd args (ps.zip us) → Vals vs us → sp vs H Q E →
    codeAny (model P w) A (.call (.ref f) args) (CR CX outer P w H s Q E) s
def gAddS : G2
  | .str a, .str b => if a.length + b.length ≤ 10000000 then some (.val (.str (a ++ b))) else none
  | _, _ => none
theorem op2_addS {K : PySem.W.Frag} : Op2 K (fun x y H Q => ∃ i j, x = .str i ∧ y = .str j ∧ i.length + j.length ≤ sizeLine ∧ Q (.str (i ++ j)) H) gAddS := by
  intro B O I σ H env x y ra rb d e z P1 P2 e1 e2 ez Q q
  unfold gAddS at ez
  split at ez
  · split at ez
    · rename_i hc
      cases ez
      have d1 := P1.read e1
      have d2 := P2.read e2
      cases d1
      cases d2
      exact ⟨_, _, rfl, rfl, line_of hc, q _ H ⟨P1.sta, .str _⟩⟩
    · cases ez
  · cases ez
def gSlS : GS := fun d lo hi => match d with
  | .str x => if x.length ≤ 10000000 then some (.val (.str (L2.cutS x lo hi))) else none
  | _ => none
theorem os_str {K : PySem.W.Frag} : OpS K L2.rSlS gSlS := by
  intro B O I σ H env x ra d lo hi z P e ez Q q
  unfold gSlS at ez
  split at ez
  · split at ez
    · rename_i hc
      cases ez
      have d1 := P.read e
      cases d1
      exact ⟨_, rfl, line_of hc, q _ H ⟨P.sta, .str _⟩⟩
    · cases ez
  · cases ez
def gNeS : G2
  | .str a, .str b => some (.val (.bl (!(a == b))))
  | _, _ => none
theorem op2_neS {K : PySem.W.Frag} : Op2 K rNe gNeS := by
  intro B O I σ H env x y ra rb d e z P1 P2 e1 e2 ez Q q
  unfold gNeS at ez
  split at ez
  · cases ez
    have d1 := P1.read e1
    have d2 := P2.read e2
    cases d1
    cases d2
    refine ⟨rfl, ?_⟩
    rw [dec_str]
    exact q _ H ⟨P1.sta, .bl _⟩
  · cases ez
end Dv
namespace Dv
open PySem L2
section
variable {K : PySem.W.Frag} {B : Hp} {O : List Addr} {I : List (Nat × Addr)} {σ : L2.St} {H : Hp} {env : Env} {W : WN} {te : TE} {fe : EF}
def rIns : V → List V → Hp → VK → Prop := fun x vs H Q => ∃ (l : Addr) (xs : List V) (i : Int) (y : V), x = .ref l ∧ vs = [.int i, y] ∧ H l = some (.lst xs) ∧ xs.length < sizeLine ∧ 0 ≤ i ∧ i < 2 ^ 63 ∧
    Q .non (upd H l (.lst (xs.take i.toNat ++ [y] ++ xs.drop i.toNat)))
theorem mt_insertR {X : Cx} : MtR X "list.insert" rIns := mt_insert
def intAt (env : Env) (j : Nat) : Option Int := match env[j]? with
  | some (.fz (.int m)) => some m
  | _ => none
theorem intAt_of {j : Nat} {m : Int} (h : intAt env j = some m) : env[j]? = some (.fz (.int m)) := by
  unfold intAt at h
  split at h
  · rename_i e
    cases h
    exact e
  · cases h
def hIns (m : Int) (d : D) : List D → Option (List D) := fun ds => if ds.length ≤ 10000000 ∧ 0 ≤ m ∧ m < 2 ^ 63 then some (ds.take m.toNat ++ [d] ++ ds.drop m.toNat) else none
def fIns (i j : Nat) (f : EF) : EF := fun env => if isOwn env i then (intAt env j).bind fun m => (f env).bind fun a => match frz a.1 with
  | .val d => (upO i (hIns m d) a.2).bind fun e => some (.val .non, e)
  | _ => none
  else none
theorem snd_ins {i j : Nat} (he : Snd K te fe) : Snd K (tBM K "list" rIns (tVar i) (tCons (tVar j) (tCons te tNil))) (fIns i j fe) := by
  intro B O I σ H env rv env' S e Q q
  unfold fIns at e
  split at e
  · rename_i ho
    obtain ⟨ds0, o0⟩ := isOwn_of ho
    obtain ⟨p0, xs0, s0, p0O, hp0, _, _⟩ := S.ow i ds0 o0
    obtain ⟨m, em, e⟩ := bnd e
    obtain ⟨vm, sm, dm⟩ := S.fz j _ (intAt_of em)
    cases dm
    obtain ⟨⟨r1, env1⟩, e1, e⟩ := bnd e
    dsimp only at e
    split at e
    · rename_i d hd
      obtain ⟨env2, e2, e⟩ := bnd e
      cases e
      refine ⟨_, s0, tyL hp0, _, sm, ?_⟩
      refine he B O I σ H env r1 env1 S e1 _ fun x H1 P1 => ?_
      have P := P1.frz
      rw [hd] at P
      obtain ⟨S1, dx⟩ := P
      obtain ⟨p, xs, ds, es, s1, hp, hx, _, eh, up⟩ := S1.up e2
      rw [s0] at s1
      cases s1
      unfold hIns at eh
      split at eh
      · rename_i hc
        cases eh
        refine ⟨p0, xs, m, x, rfl, rfl, hp, by rw [hx.length]; exact line_lt hc.1, hc.2.1, hc.2.2, ?_⟩
        exact q _ _ ⟨up _ (((hx.take _).append (.cons dx .nil)).append (hx.drop _)), .non⟩
      · cases eh
    · cases e
  · cases e
theorem w_ins_of {i j : Nat} {m : Int} {P : RV × Env → Prop} (h1 : isOwn env i = true) (h2 : intAt env j = some m) (h3 : Ok (fe env) (KOM i (hIns m) P)) : Ok (fIns i j fe env) P := by
  unfold fIns
  rw [if_pos h1, h2]
  obtain ⟨⟨r, e⟩, e1, h⟩ := h3
  unfold KOM at h
  dsimp only at h
  split at h
  · rename_i d hd
    obtain ⟨e2, e3, h⟩ := h
    refine ⟨_, ?_, h⟩
    show (fe env).bind _ = _
    rw [e1]
    show (match frz r with | .val d => (upO i (hIns m d) e).bind fun e => some (RV.val D.non, e) | _ => none) = _
    rw [hd]
    show (upO i (hIns m d) e).bind _ = _
    rw [e3]
    rfl
  · exact h.elim
theorem w_hIns {m : Int} {d : D} {ds : List D} {Q : List D → Prop} (h1 : ds.length ≤ 10000000) (h2 : 0 ≤ m) (h3 : m < 2 ^ 63) (h : Q (ds.take m.toNat ++ [d] ++ ds.drop m.toNat)) : Ok (hIns m d ds) Q := ⟨_, if_pos ⟨h1, h2, h3⟩, h⟩
theorem DqA.erase {G : Hp} {vs : List V} {ds : List D} (n : Nat) (h : DqA K G vs ds) : DqA K G (vs.eraseIdx n) (ds.eraseIdx n) := by
  rw [List.eraseIdx_eq_take_drop_succ, List.eraseIdx_eq_take_drop_succ]
  exact (h.take _).append (h.drop _)
end
def gLtP : G2
  | .tup [.int a, .int b], .tup [.int c, .int d] => some (.val (.bl (HT.lexLt [a, b] [c, d])))
  | _, _ => none
theorem lexLt_2 {a b c d : Int} : HT.lexLt [a, b] [c, d] = decide (a < c ∨ (a = c ∧ b < d)) := by
  unfold HT.lexLt HT.lexLt HT.lexLt
  rw [Bool.eq_iff_iff]
  simp
  split <;> omega
theorem gLtP_i {a b c d : Int} : gLtP (.tup [.int a, .int b]) (.tup [.int c, .int d]) = some (.val (.bl (decide (a < c ∨ (a = c ∧ b < d))))) := by
  show some (RV.val (D.bl (HT.lexLt [a, b] [c, d]))) = _
  rw [lexLt_2]
theorem op2_ltP {K : PySem.W.Frag} : Op2 K (rLtT K) gLtP := by
  intro B O I σ H env x y ra rb d e z P1 P2 e1 e2 ez Q q
  unfold gLtP at ez
  split at ez
  · rename_i a b c d
    cases ez
    have h1 := P1.read e1
    have h2 := P2.read e2
    cases h1 with
    | @tup p us _ h3 h4 =>
      cases h2 with
      | @tup p' us' _ h5 h6 =>
        have g1 : us = [V.int a, V.int b] := DqA.isInts (ns := [a, b]) h4
        have g2 : us' = [V.int c, V.int d] := DqA.isInts (ns := [c, d]) h6
        subst g1
        subst g2
        exact ⟨_, _, [a, b], [c, d], rfl, rfl, h3, h5, q _ H ⟨P1.sta, .bl _⟩⟩
  · cases ez
end Dv
namespace Dv
open PySem L2
section
variable {K : PySem.W.Frag} {B B' : Hp} {O : List Addr} {I : List (Nat × Addr)} {σ : L2.St} {H H' G G' : Hp} {env : Env} {W : WN} {te : TE} {fe : EF} {p : Addr} {od : Obj} {kl : List (List L2.Key × V)} {kvs : List (List Int × D)} {i : Nat}
/-- two heaps that differ at a dict alone: in one it may be locked -/
structure Swp (p : Addr) (kl : List (List L2.Key × V)) (G G' : Hp) : Prop where
  h1 : Rd G p (.dT kl)
  h2 : Rd G' p (.dT kl)
  off : ∀ a, a ≠ p → G' a = G a
theorem Swp.keep (s : Swp p kl G G') {a : Addr} {o : HO} (h : G a = some o) (n1 : ∀ l, o ≠ .dT l) (n2 : ∀ od l, o ≠ .frz od (.dT l)) : G' a = some o := by
  by_cases c : a = p
  · subst c
    rcases s.h1 with z | ⟨od, z⟩
    · rw [h] at z
      exact absurd (Option.some.inj z) (n1 _)
    · rw [h] at z
      exact absurd (Option.some.inj z) (n2 _ _)
  · rw [s.off a c]
    exact h
end
def gEqS : G2
  | .str a, .str b => some (.val (.bl (a == b)))
  | _, _ => none
theorem op2_eqS {K : PySem.W.Frag} : Op2 K rEq gEqS := by
  intro B O I σ H env x y ra rb d e z P1 P2 e1 e2 ez Q q
  unfold gEqS at ez
  split at ez
  · cases ez
    have d1 := P1.read e1
    have d2 := P2.read e2
    cases d1
    cases d2
    refine ⟨rfl, ?_⟩
    rw [dec_str]
    exact q _ H ⟨P1.sta, .bl _⟩
  · cases ez
end Dv
namespace Dv
open PySem L2
section
variable {K : PySem.W.Frag} {B : Hp} {O : List Addr} {I : List (Nat × Addr)} {σ : L2.St} {H H' : Hp} {env env' e : Env} {W : WN} {ta tb tc to te : TE} {fa fb fc fo fe : EF} {P : RV × Env → Prop} {PI : List D × Env → Prop}
def chC (fc : EF) (j : Int) (e : Env) : Option (RV × Env) := (fc e).bind fun c => match c.1 with
  | .val (.int k) => some (.val (.bl (decide (j ≤ k))), c.2)
  | _ => none
def chB (fb fc : EF) (i : Int) (e : Env) : Option (RV × Env) := (fb e).bind fun b => match b.1 with
  | .val (.int j) => if i ≤ j then chC fc j b.2 else some (.val (.bl false), b.2)
  | _ => none
def fChn (fa fb fc : EF) : EF := fun env => (fa env).bind fun a => match a.1 with
  | .val (.int i) => chB fb fc i a.2
  | _ => none
theorem snd_chn (h1 : Snd K ta fa) (h2 : Snd K tb fb) (h3 : Snd K tc fc) : Snd K (tChain (rI0 fun i j => .bl (decide (i ≤ j))) (rI0 fun i j => .bl (decide (i ≤ j))) ta tb tc) (fChn fa fb fc) := by
  intro B O I σ H env rv env' S e Q q
  obtain ⟨⟨r1, env1⟩, e1, e⟩ := bnd e
  dsimp only at e
  split at e
  · rename_i i
    obtain ⟨⟨r2, env2⟩, e2, e⟩ := bnd e
    dsimp only at e
    split at e
    · rename_i j
      refine h1 B O I σ H env _ env1 S e1 _ fun v H1 P1 => ?_
      obtain ⟨S1, d1⟩ := P1
      cases d1
      refine h2 B O I σ H1 env1 _ env2 S1 e2 _ fun w H2 P2 => ?_
      obtain ⟨S2, d2⟩ := P2
      cases d2
      refine ⟨i, j, rfl, rfl, _, rfl, ?_⟩
      by_cases c : i ≤ j
      · rw [if_pos c] at e
        rw [decide_eq_true c, if_pos rfl]
        obtain ⟨⟨r3, env3⟩, e3, e⟩ := bnd e
        dsimp only at e
        split at e
        · rename_i k
          cases e
          refine h3 B O I σ H2 env2 _ _ S2 e3 _ fun u H3 P3 => ?_
          obtain ⟨S3, d3⟩ := P3
          cases d3
          exact ⟨j, k, rfl, rfl, q _ H3 ⟨S3, .bl _⟩⟩
        · cases e
      · rw [if_neg c] at e
        cases e
        rw [decide_eq_false c, if_neg Bool.false_ne_true]
        exact q _ H2 ⟨S2, .bl _⟩
    · cases e
  · cases e
def KCh3 (j : Int) (P : RV × Env → Prop) : RV × Env → Prop := fun c => match c.1 with
  | .val (.int k) => P (.val (.bl (decide (j ≤ k))), c.2)
  | _ => False
def KCh2 (i : Int) (fc : EF) (P : RV × Env → Prop) : RV × Env → Prop := fun b => match b.1 with
  | .val (.int j) => (i ≤ j → Ok (fc b.2) (KCh3 j P)) ∧ (¬ i ≤ j → P (.val (.bl false), b.2))
  | _ => False
def KCh1 (fb fc : EF) (P : RV × Env → Prop) : RV × Env → Prop := fun a => match a.1 with
  | .val (.int i) => Ok (fb a.2) (KCh2 i fc P)
  | _ => False
theorem k_ch3 {j k : Int} : KCh3 j P (.val (.int k), e) ↔ P (.val (.bl (decide (j ≤ k))), e) := Iff.rfl
theorem k_ch2 {i j : Int} : KCh2 i fc P (.val (.int j), e) ↔ (i ≤ j → Ok (fc e) (KCh3 j P)) ∧ (¬ i ≤ j → P (.val (.bl false), e)) := Iff.rfl
theorem k_ch1 {i : Int} : KCh1 fb fc P (.val (.int i), e) ↔ Ok (fb e) (KCh2 i fc P) := Iff.rfl
theorem ok_matchI {α : Type} {r : RV} {f : Int → Option α} {Z : α → Prop} : Ok (match r with | .val (.int k) => f k | _ => none) Z ↔ (match r with | .val (.int k) => Ok (f k) Z | _ => False) := by
  cases r with
  | val d => cases d <;> first | exact Iff.rfl | exact ok_none
  | slot i => exact ok_none
  | new ds => exact ok_none
  | ex n => exact ok_none
  | tw n => exact ok_none
theorem w_chn : Ok (fChn fa fb fc env) P ↔ Ok (fa env) (KCh1 fb fc P) := by
  refine ok_bind_iff fun ⟨r, e⟩ => ?_
  refine ok_matchI.trans ?_
  cases r with
  | val d =>
    cases d <;> first | exact Iff.rfl | skip
    rename_i i
    refine ok_bind_iff fun ⟨r, e⟩ => ?_
    refine ok_matchI.trans ?_
    cases r with
    | val d =>
      cases d <;> first | exact Iff.rfl | skip
      rename_i j
      show Ok (if i ≤ j then chC fc j e else some (.val (.bl false), e)) P ↔ _
      rw [ok_ite, ok_some]
      refine and_congr (imp_congr Iff.rfl ?_) Iff.rfl
      refine ok_bind_iff fun ⟨r, e⟩ => ?_
      refine ok_matchI.trans ?_
      cases r with
      | val d => cases d <;> first | exact Iff.rfl | exact ok_some (P := P)
      | _ => exact Iff.rfl
    | _ => exact Iff.rfl
  | _ => exact Iff.rfl
def fS1 (g : G2) (fo fe : EF) : EF := fun env => (fo env).bind fun a => match a.1 with
  | .val (.str z) => (fe a.2).bind fun b => (deref b.2 b.1).bind fun y => (g (.str z) y).bind fun w => some (w, b.2)
  | _ => none
theorem snd_s1 {r : V → List V → Hp → VK → Prop} {g : G2} (h1 : Snd K to fo) (h2 : Snd K te fe) (ho : Op2 K (fun x y H Q => r x [y] H Q) g) : Snd K (tM1 r to te) (fS1 g fo fe) := by
  intro B O I σ H env rv env' S e Q q
  obtain ⟨⟨r1, env1⟩, e1, e⟩ := bnd e
  dsimp only at e
  split at e
  · rename_i z
    obtain ⟨⟨r2, env2⟩, e2, e⟩ := bnd e
    obtain ⟨y, ey, e⟩ := bnd e
    obtain ⟨w, ew, e⟩ := bnd e
    cases e
    refine h1 B O I σ H env _ env1 S e1 _ fun v H1 P1 => ?_
    obtain ⟨S1, d1⟩ := P1
    cases d1
    refine ⟨⟨z, rfl⟩, h2 B O I σ H1 env1 r2 _ S1 e2 _ fun u H2 P2 => ?_⟩
    exact ho B O I σ H2 _ (.str z) u (.val (.str z)) r2 (.str z) y _ ⟨P2.sta, .str z⟩ P2 rfl ey ew Q q
  · cases e
def DSt (g : G2) (z : Str) (y : Option D) (e : Env) (P : RV × Env → Prop) : Prop := match y with
  | some y => Ok (g (.str z) y) (KZ e P)
  | _ => False
def KS2 (g : G2) (z : Str) (P : RV × Env → Prop) : RV × Env → Prop := fun b => DSt g z (deref b.2 b.1) b.2 P
def KS1 (g : G2) (fe : EF) (P : RV × Env → Prop) : RV × Env → Prop := fun a => match a.1 with
  | .val (.str z) => Ok (fe a.2) (KS2 g z P)
  | _ => False
theorem d_s1 {g : G2} {z : Str} {y : D} : DSt g z (some y) e P ↔ Ok (g (.str z) y) (KZ e P) := Iff.rfl
theorem k_s2 {g : G2} {z : Str} {r : RV} : KS2 g z P (r, e) ↔ DSt g z (deref e r) e P := Iff.rfl
theorem k_s1 {g : G2} {z : Str} : KS1 g fe P (.val (.str z), e) ↔ Ok (fe e) (KS2 g z P) := Iff.rfl
theorem w_s1 {g : G2} : Ok (fS1 g fo fe env) P ↔ Ok (fo env) (KS1 g fe P) := by
  refine ok_bind_iff fun ⟨r, e⟩ => ?_
  cases r with
  | val d =>
    cases d <;> first | exact ok_none (P := P) | skip
    rename_i z
    refine ok_bind_iff fun ⟨r, e⟩ => ?_
    show Ok (Option.bind (deref e r) _) P ↔ DSt g z (deref e r) e P
    cases hd : deref e r with
    | none => exact ok_none (P := P)
    | some y => exact ok_bind_iff (P := P) fun w => ok_some (P := P)
  | _ => exact ok_none (P := P)
def strsOf : List D → Option (List Str)
  | [] => some []
  | .str x :: r => (strsOf r).bind fun xs => some (x :: xs)
  | _ => none
theorem strsOf_eq : ∀ {ds : List D} {xs : List Str}, strsOf ds = some xs → ds = xs.map D.str
  | [], _, h => by cases h; rfl
  | d :: ds, xs, h => by
    cases d with
    | str b =>
      obtain ⟨x, e1, e2⟩ := bnd h
      cases e2
      rw [strsOf_eq e1]
      rfl
    | _ => cases h
theorem strsOf_map : ∀ xs : List Str, strsOf (xs.map D.str) = some xs
  | [] => rfl
  | x :: xs => by
    show (strsOf (xs.map D.str)).bind _ = _
    rw [strsOf_map xs]
    rfl
theorem DqA.strs {G : Hp} : ∀ xs : List Str, DqA K G (xs.map V.str) (xs.map D.str)
  | [] => .nil
  | x :: xs => .cons (.str x) (DqA.strs xs)
theorem DqA.isStrs {G : Hp} : ∀ {vs : List V} {xs : List Str}, DqA K G vs (xs.map D.str) → vs = xs.map V.str
  | [], [], _ => rfl
  | [], _ :: _, h => by cases h
  | _ :: _, [], h => by cases h
  | v :: vs, x :: xs, h => by
    cases h with
    | cons h1 h2 =>
      cases h1
      rw [DqA.isStrs h2]
      rfl
def gSplit : G2
  | .str a, .str b => if b.length ≠ 0 ∧ a.length + 2 ≤ 10000000 then some (.new ((Txt.split a b).map D.str)) else none
  | _, _ => none
theorem op2_split : Op2 K (fun x y H Q => ∃ a b, x = .str a ∧ [y] = [V.str b] ∧ (b.length == 0) = false ∧ a.length + 2 ≤ sizeLine ∧ rNewStrs (Txt.split a b) H Q) gSplit := by
  intro B O I σ H env x y ra rb d e z P1 P2 e1 e2 ez Q q
  unfold gSplit at ez
  split at ez
  · split at ez
    · rename_i hc
      cases ez
      have d1 := P1.read e1
      have d2 := P2.read e2
      cases d1
      cases d2
      exact ⟨_, _, rfl, rfl, by simpa using hc.1, line_of hc.2, fun p hp => q _ _ (post_new P1.sta hp (DqA.strs _))⟩
    · cases ez
  · cases ez
def gPart : G2
  | .str a, .str b => if b.length ≠ 0 ∧ a.length ≤ 10000000 then some (.val (.tup [.str (Txt.partition a b).1, .str (Txt.partition a b).2.1, .str (Txt.partition a b).2.2])) else none
  | _, _ => none
theorem op2_part : Op2 K (fun x y H Q => ∃ a b, x = .str a ∧ [y] = [V.str b] ∧ (b.length == 0) = false ∧ a.length ≤ sizeLine ∧ ∀ p, H p = none → Q (.ref p) (upd H p (.tup [.str (Txt.partition a b).1, .str (Txt.partition a b).2.1, .str (Txt.partition a b).2.2]))) gPart := by
  intro B O I σ H env x y ra rb d e z P1 P2 e1 e2 ez Q q
  unfold gPart at ez
  split at ez
  · split at ez
    · rename_i hc
      cases ez
      have d1 := P1.read e1
      have d2 := P2.read e2
      cases d1
      cases d2
      exact ⟨_, _, rfl, rfl, by simpa using hc.1, line_of hc.2, fun p hp => q _ _ (post_tup P1.sta hp (.cons (.str _) (.cons (.str _) (.cons (.str _) .nil))))⟩
    · cases ez
  · cases ez
def gJoin : G2
  | .str a, .lst ds => (strsOf ds).bind fun ys => if (ys.map (·.length)).sum + ys.length * a.length ≤ 10000000 then some (.val (.str (Txt.join a ys))) else none
  | _, _ => none
theorem op2_join : Op2 K (fun x y H Q => ∃ a p, ∃ ys : List Str, x = .str a ∧ [y] = [V.ref p] ∧ (SqL K H p (ys.map V.str) ∨ SqT K H p (ys.map V.str)) ∧ (ys.map (·.length)).sum + ys.length * a.length ≤ 16777216 ∧ Q (.str (Txt.join a ys)) H) gJoin := by
  intro B O I σ H env x y ra rb d e z P1 P2 e1 e2 ez Q q
  unfold gJoin at ez
  split at ez
  · obtain ⟨ys, e3, ez⟩ := bnd ez
    split at ez
    · rename_i hc
      cases ez
      have d1 := P1.read e1
      cases d1
      obtain ⟨p1, xs, rfl, h1, k1⟩ := P2.items e2
      rw [strsOf_eq e3] at k1
      rw [k1.isStrs] at h1
      exact ⟨_, p1, ys, rfl, rfl, .inl (.inl (.inl h1)), by omega, q _ H ⟨P1.sta, .str _⟩⟩
    · cases ez
  · cases ez
def gLenS : GB
  | [.str z] => if z.length ≤ 10000000 then some (.val (.int z.length)) else none
  | _ => none
theorem cg_lenS : CallG K (fun xs H Q => ∃ z, xs = [.str z] ∧ z.length ≤ sizeLine ∧ Q (.int z.length) H) gLenS := by
  intro B O I σ H env vs rs ds z S P e ez Q q
  unfold gLenS at ez
  split at ez
  · split at ez
    · rename_i hc
      cases ez
      obtain ⟨v, r, rfl, P1, e1⟩ := one_of P e
      have d1 := P1.read e1
      cases d1
      exact ⟨_, rfl, line_of hc, q _ H ⟨S, .int _⟩⟩
    · cases ez
  · cases ez
def gIntS : GB
  | [.str a] => if a.length ≤ 640 then (PySem.intText? a).bind fun n => some (.val (.int n)) else none
  | _ => none
theorem cg_intS : CallG K (fun xs H Q => ∃ a n, xs = [.str a] ∧ PySem.intText? a = some n ∧ a.length ≤ 640 ∧ Q (.int n) H) gIntS := by
  intro B O I σ H env vs rs ds z S P e ez Q q
  unfold gIntS at ez
  split at ez
  · split at ez
    · rename_i hc
      obtain ⟨n, hn, ez⟩ := bnd ez
      cases ez
      obtain ⟨v, r, rfl, P1, e1⟩ := one_of P e
      have d1 := P1.read e1
      cases d1
      exact ⟨_, n, rfl, hn, hc, q _ H ⟨S, .int _⟩⟩
    · cases ez
  · cases ez
def gInSig (b : Bool) : G2
  | .str x, .str z => match x.cps.toList with
    | [c] => some (.val (.bl (b ^^ decide (c ∈ z.cps.toList))))
    | _ => none
  | _, _ => none
theorem sig_of {x : Str} {c : Nat} (h : x.cps.toList = [c]) : x = ⟨#[c]⟩ := Str.ext' (Array.toList_inj.mp h)
theorem op2_notInSig : Op2 K (fun x y H Q => ∃ (c : Nat) (z : Str), x = .str ⟨#[c]⟩ ∧ y = .str z ∧ Q (.bl (!decide (c ∈ z.cps.toList))) H) (gInSig true) := by
  intro B O I σ H env x y ra rb d e z P1 P2 e1 e2 ez Q q
  unfold gInSig at ez
  split at ez
  · split at ez
    · rename_i c hc
      cases ez
      have d1 := P1.read e1
      have d2 := P2.read e2
      cases d1
      cases d2
      exact ⟨c, _, by rw [sig_of hc], rfl, q _ H ⟨P1.sta, by rw [Bool.true_xor]; exact .bl _⟩⟩
    · cases ez
  · cases ez
theorem gInSigF {c : Nat} {z : Str} : gInSig false (.str ⟨#[c]⟩) (.str z) = some (.val (.bl (decide (c ∈ z.cps.toList)))) := by
  show some (RV.val (D.bl (false ^^ decide (c ∈ z.cps.toList)))) = _
  rw [Bool.false_xor]
theorem gInSigT {c : Nat} {z : Str} : gInSig true (.str ⟨#[c]⟩) (.str z) = some (.val (.bl (!decide (c ∈ z.cps.toList)))) := by
  show some (RV.val (D.bl (true ^^ decide (c ∈ z.cps.toList)))) = _
  rw [Bool.true_xor]
def sigs (z : Str) : List D := z.cps.toList.map fun c => D.str ⟨#[c]⟩
def fIterS (f : EF) : IF := fun env => (f env).bind fun a => match a.1 with
  | .val (.str z) => some (sigs z, a.2)
  | _ => none
theorem iter_str {z : Str} {G : Hp} : IterOk K G (Its z) (sigs z) := by
  intro H O _ _
  have hl : (sigs z).length = z.cps.size := by simp [sigs]
  refine ⟨fun i h => by rw [hl] at h; exact h, by rw [hl]; exact Nat.le_refl _, fun i d x H' hi hy => ?_⟩
  obtain ⟨rfl, c, hc, rfl⟩ := hy
  refine ⟨Same.refl _, ?_⟩
  unfold sigs at hi
  rw [List.getElem?_map] at hi
  obtain ⟨k, h1, h2⟩ := Option.map_eq_some_iff.mp hi
  rw [Array.getElem?_toList] at h1
  rw [hc] at h1
  cases h1
  rw [← h2]
  exact .str _
theorem si_str {t : TE} {f : EF} (h : Snd K t f) : SndI K (iStr t) (fIterS f) := by
  intro B O I σ H env items env' S e R q
  obtain ⟨⟨r1, env1⟩, e1, e⟩ := bnd e
  dsimp only at e
  split at e
  · cases e
    refine h B O I σ H env _ _ S e1 _ fun v H1 P1 => ?_
    obtain ⟨S1, d1⟩ := P1
    cases d1
    exact ⟨_, rfl, q _ H1 S1 iter_str⟩
  · cases e
def KItS (PI : List D × Env → Prop) : RV × Env → Prop := fun a => match a.1 with
  | .val (.str z) => PI (sigs z, a.2)
  | _ => False
theorem k_itS {z : Str} : KItS PI (.val (.str z), e) ↔ PI (sigs z, e) := Iff.rfl
theorem w_iterS : Ok (fIterS fa env) PI ↔ Ok (fa env) (KItS PI) := by
  refine ok_bind_iff fun ⟨r, e⟩ => ?_
  cases r with
  | val d => cases d <;> first | exact ok_none (P := PI) | exact ok_some (P := PI)
  | _ => exact ok_none (P := PI)
end
theorem beq_txt {x y : Str} : (x == y) = decide (x = y) := by
  by_cases c : x = y
  · subst c
    rw [decide_eq_true rfl]
    exact beq_self_eq_true x
  · rw [decide_eq_false c]
    exact beq_eq_false_iff_ne.mpr c
theorem gEqS_txt {x y : Str} : gEqS (.str x) (.str y) = some (.val (.bl (decide (x = y)))) := by
  show some (RV.val (D.bl (x == y))) = _
  rw [beq_txt]
theorem gNeS_txt {x y : Str} : gNeS (.str x) (.str y) = some (.val (.bl (!decide (x = y)))) := by
  show some (RV.val (D.bl (!(x == y)))) = _
  rw [beq_txt]
end Dv
namespace Dv
open PySem L2 PyProof.Rows
section
variable {K : PySem.W.Frag} {B : Hp} {O : List Addr} {I : List (Nat × Addr)} {σ : L2.St} {H H' : Hp} {env env' e : Env} {v : V} {t : TA} {fa : AF} {P : RV × Env → Prop} {cl : Nat → Addr} {rs : List RV}
theorem ArgsOk.mono {O : List Addr} {H H' : Hp} (e : Same H H') : ∀ {bs : List Bool} {vs : List V} {ds : List D}, noIo bs → ArgsOk K O H bs vs ds → ArgsOk K O H' bs vs ds
  | _, _, _, _, .nil => .nil
  | _, _, _, n, .val h1 h2 => .val (Dq.mono (mi_mono e) _ _ h1) (ArgsOk.mono e (by simpa [noIo] using n) h2)
  | _, _, _, n, .io _ _ _ _ => by cases n
end
def fCallN2 (g : FF) (fe : EF) (i j : Int) : EF := fun env => (fe env).bind fun a => match a.1 with
  | .new ds => (g [.lst ds, .int i, .int j]).bind fun r => (resR r).bind fun z => some (z, a.2)
  | _ => none
section
variable {env e : Env} {P : RV × Env → Prop} {f : EF}
def KCallN2 (g : FF) (i j : Int) (P : RV × Env → Prop) : RV × Env → Prop := fun a => match a.1 with
  | .new ds => Ok (g [.lst ds, .int i, .int j]) (KBackN a.2 P)
  | _ => False
theorem k_callN2 {g : FF} {i j : Int} {ds : List D} : KCallN2 g i j P (.new ds, e) ↔ Ok (g [.lst ds, .int i, .int j]) (KBackN e P) := Iff.rfl
theorem w_callN2 {g : FF} {i j : Int} : Ok (fCallN2 g f i j env) P ↔ Ok (f env) (KCallN2 g i j P) := by
  refine ok_bind_iff fun ⟨r, e⟩ => ?_
  cases r with
  | new ds =>
    show Ok (Option.bind (g [.lst ds, .int i, .int j]) _) P ↔ Ok (g [.lst ds, .int i, .int j]) (KBackN e P)
    refine ok_bind_iff fun x => ?_
    show Ok (Option.bind (resR x) _) P ↔ _
    unfold KBackN
    cases resR x with
    | none => exact ok_none (P := P)
    | some z => exact ok_some (P := P)
  | _ => exact ok_none (P := P)
end
end Dv
namespace Dv
open PySem PySem.Spec PyProof.Rows L2
section
variable {X : Cx} {W : L2.WX}
theorem tracedZ_sub {h B B' : Heap} {e : Addr} {Z : Obj → Prop} {fl : Value} (x : HandSPX.TracedZ h B e Z fl) (hb : ∀ b, B.get? b = none → B'.get? b = none) : HandSPX.TracedZ h B' e Z fl := by
  obtain ⟨oe, vs, T, oT, ts, he, hz, hd, h1, hnT, r⟩ := x
  exact ⟨oe, vs, T, oT, ts, he, hz, hd, h1, hb T hnT, r⟩
theorem tracedZ_sameBut {h h' B : Heap} {e L : Addr} {Z : Obj → Prop} {fl : Value} {m : Str → Option Value} (x : HandSPX.TracedZ h B e Z fl) (hn : h.Ns L m) (hs : Heap.SameBut L h h') : HandSPX.TracedZ h' B e Z fl := by
  obtain ⟨oe, vs, T, oT, ts, he, hc, hd, h1, hnT, hTe, hT, hdT, h3⟩ := x
  obtain ⟨oL, es, ep, hoL, hdL, _⟩ := hn
  have neE : e ≠ L := fun q => by
    rw [q, hoL] at he
    have z := Option.some.inj he
    rw [← z, hdL] at hd
    cases hd
  have neT : T ≠ L := fun q => by
    rw [q, hoL] at hT
    have z := Option.some.inj hT
    rw [← z, hdL] at hdT
    cases hdT
  exact ⟨oe, vs, T, oT, ts, (hs.2 e neE).trans he, hc, hd, h1, hnT, hTe, (hs.2 T neT).trans hT, hdT, h3⟩
/-- a call's exception, still in the air -/
theorem of_callF {pins : List (Addr × Obj)} {σ : L2.St} {H : Hp} {s s' : Shared} {E : XK} (I : Inv X pins σ H s) (hW : ∀ cls d H', E cls d H' → W cls d σ H') {u : Value} (c : L2N.CX X.prog X.w X.stack H s E u s') :
    ∃ (a : Addr) (B : Heap) (sI : Shared) (H' : Hp) (cls : Value) (d : Option Addr), u = .ref a ∧ Inv X pins σ H' sI ∧ (∀ b o, sI.heap.get? b = some o → b ∉ frs X.stack → B.get? b = some o) ∧ sI.heap.UpToSlots s'.heap ∧
      HandSPX.FlyingZ B X.stack a (L2N.Zn cls d) s'.heap ∧ H' a = none ∧ s'.os = sI.os ∧ AllBare s'.gens ∧ W cls d σ H' := by
  obtain ⟨a, B, H', cls, d, rfl, fl, hok, ub, na, os, ag, hE⟩ := c
  obtain ⟨G, g1, g2⟩ := restrict s'.heap fun b => (B.get? b).isSome || decide (b ∈ frs X.stack)
  have st : B.StaysIn s'.heap := fl.1
  have gB : ∀ b o, B.get? b = some o → G.get? b = some o := fun b o e => by
    rw [g1 b (by simp [e])]
    exact st b o e
  have gF : ∀ b, b ∈ frs X.stack → G.get? b = s'.heap.get? b := fun b hb => g1 b (by simp [hb])
  have og : ∀ b o, G.get? b = some o → s'.heap.get? b = some o ∧ ((B.get? b).isSome = true ∨ b ∈ frs X.stack) := fun b o e => by
    cases q : ((B.get? b).isSome || decide (b ∈ frs X.stack)) with
    | false => rw [g2 b q] at e; cases e
    | true =>
      rw [g1 b q] at e
      exact ⟨e, by simpa [Bool.or_eq_true] using q⟩
  refine ⟨a, B, { s with heap := G, gens := s'.gens, drawn := s'.drawn, toks := s'.toks }, H', cls, d, rfl, ?_, fun b o e hb => ?_, Heap.UpToSlots.of_keeps fun b o e => (og b o e).1, fl, na, os, ag, hW _ _ _ hE⟩
  · refine I.call (ch := []) ⟨fun b o e n hb _ => gB b o (ub.keep b o e n hb), fun b o e n hb _ => ?_, fun b o e n _ => ub.free b o e n, fun b o e _ => ?_, ub.tups, ub.frzs, ub.tbls⟩ (hok.kept gB) ag (fun _ z => nomatch z)
    · obtain ⟨sl, q⟩ := ub.slot b o e hb
      exact ⟨sl, by rw [gF b hb]; exact q⟩
    · by_cases hb : b ∈ frs X.stack
      · obtain ⟨sl, q⟩ := ub.slot b o e hb
        exact ⟨_, by rw [gF b hb]; exact q⟩
      · obtain ⟨o', q⟩ := ub.there b o e hb
        exact ⟨o', gB b o' q⟩
  · obtain ⟨e', h⟩ := og b o e
    rcases h with h | h
    · obtain ⟨o', q⟩ := Option.isSome_iff_exists.mp h
      have z := st b o' q
      rw [e'] at z; cases z
      exact q
    · exact absurd h hb
/-- it leaves the block of a comprehension -/
theorem passes_blk {pins : List (Addr × Obj)} {σ : L2.St} {H3 : Hp} {s3 : Shared} {scope : Scope} {ce : PySem.Env} {fp : List Addr} (tk : L2N.Takes X W) (hW : ∀ c d σ σ' H, W c d σ H → W c d σ' H) (hs : X.stack = X.env :: X.outer) (hf : X.env.frame = some X.env.locals)
    (hcf : ce.frame = X.env.frame) (hcl : ce.locals = s3.heap.objs.size) (I3 : Inv X pins σ H3 s3) (f3 : ∀ b ∈ fp, FpOk X pins H3 b ∧ b < s3.heap.objs.size) (σ' : L2.St) :
    PassesAt (L2N.CX X.prog X.w) ((X.blk s3 H3 scope ce fp).tr [] (notedBy (model X.prog X.w) X.A ce (CompFails (model X.prog X.w) X.A X.xe ce))) σ' (WE W σ') := by
  intro pins' H' s' e s'' Ib c
  obtain ⟨a, B, sI, H2, cls, d, rfl, I2, nb, up, fl0, na, os, ag, w⟩ := of_callF Ib (W := W) (fun _ _ _ h => h) c
  have fl : HandSPX.FlyingZ B (X.env :: X.outer) a (L2N.Zn cls d) s''.heap := by
    rw [← hs]
    exact fl0
  have hfr : X.A.frames = some (X.env :: X.outer) := by rw [I3.ok.frames, hs]
  have I7 : Inv X pins σ H2 sI := I3.call' (ch := fp) I2.os I2.base I2.hok I2.bare fun b hb => ⟨(f3 b hb).1.2.2.2.1, (f3 b hb).1.2.1, (f3 b hb).1.2.2.2.2.1, (f3 b hb).1.2.2.2.2.2⟩
  have nC : H2 ce.locals = none := I2.free
  obtain ⟨f0, f1, _, f3', f4, f5⟩ := I3.fpOk (H' := H2) (b := ce.locals) (by rw [hcl]; exact Nat.le_refl _) nC
  obtain ⟨m, hn, _⟩ := I2.loc
  have hn : sI.heap.Ns ce.locals m := hn
  have ofB : ∀ b o, (PySem.W.hideAll B [ce.locals]).get? b = some o → B.get? b = some o ∧ b ≠ ce.locals := fun b o e =>
    ⟨PySem.W.of_hideAll _ e, fun z => by
      rw [PySem.W.hideAll_none [ce.locals] (by rw [z]; exact List.mem_singleton.mpr rfl)] at e
      cases e⟩
  have noB : ∀ b, B.get? b = none → (PySem.W.hideAll B [ce.locals]).get? b = none := fun b e => by
    cases q : (PySem.W.hideAll B [ce.locals]).get? b with
    | none => rfl
    | some o =>
      rw [(ofB b o q).1] at e
      cases e
  have inB : ∀ b o, B.get? b = some o → b ≠ ce.locals → (PySem.W.hideAll B [ce.locals]).get? b = some o := fun b o e c => PySem.W.hideAll_get _ e fun z => c (List.mem_singleton.mp z)
  generalize PySem.W.hideAll B [ce.locals] = B' at ofB noB inB
  have fl2 : HandSPX.FlyingZ B' (X.env :: X.outer) a (L2N.Zn cls d) s''.heap := ⟨fun b o e => fl.1 b o (ofB b o e).1, noB _ fl.2.1, funFrames_none fl.2.2.1 (fun L hL => noB L (fl.2.2.1.mem hL).1), tracedZ_sub fl.2.2.2 noB⟩
  show wpAny (model X.prog X.w) X.A (noteFrame (.ref a) ce) _ _ s''
  rw [noteFrame_env _ hcf]
  refine PXN.looks_onZ L2N.Zn.steady hfr hf fl2 fun h1 hh up1 => ?_
  have hn1 : h1.Ns ce.locals m := (up.trans up1).ns hn
  refine ⟨m, hn1, fun h₂ m₂ hn₂ hs₂ => ?_⟩
  obtain ⟨b1, b0, fr1, t1⟩ := hh
  have b2 : B'.StaysIn h₂ := fun b o hb => (hs₂.2 b (ofB b o hb).2).trans (b1 b o hb)
  have fr2 : h₂.FunFrames B' (X.env :: X.outer) := Heap.FunFrames.sameBut hs₂ hn₂ fr1
  have t2 := tracedZ_sameBut t1 hn1 hs₂
  have t2' := t2
  obtain ⟨oe, vs, T, oT, ts, he, hz, hd, h1', r⟩ := t2
  unfold PySem.passOn
  refine wpAny_bind (wpAny_field he hd h1' ?_)
  rw [if_neg (show ¬ ((Value.ref T == Value.none) = true) from by simp)]
  rw [hcf, hf]
  refine wpAny_bind (HandSPX.setFlight_anyZ b2 fr2 t2' fun h₃ b3 fr3 t3 up3 => ?_)
  refine wpAny_throw ?_
  have ofI : ∀ b o, (PySem.W.hideAll sI.heap [ce.locals]).get? b = some o → sI.heap.get? b = some o ∧ b ≠ ce.locals := fun b o e =>
    ⟨PySem.W.of_hideAll _ e, fun z => by
      rw [PySem.W.hideAll_none [ce.locals] (by rw [z]; exact List.mem_singleton.mpr rfl)] at e
      cases e⟩
  refine tk _ _ ⟨a, B', { sI with heap := PySem.W.hideAll sI.heap [ce.locals] }, pins, σ, H2, cls, d, rfl, I7.turned (t' := sI.toks) (fun b o hb e => PySem.W.hideAll_get _ e (fun z => hb (List.mem_singleton.mp z))) f0 f1 f3' f4 f5, fun b o e hb => ?_, fun b o e hnf => ?_, .inr (.inr ⟨b3, b0, by rw [hs]; exact fr3, t3⟩), na, os, ag, hW _ _ _ _ _ w⟩
  · obtain ⟨e0, bC⟩ := ofI b o e
    exact inB b o (nb b o e0 hb) bC
  · obtain ⟨e0, bC⟩ := ofI b o e
    obtain ⟨sl, e1⟩ := up b o e0 hnf
    obtain ⟨sl2, e2⟩ := up1 b _ e1 hnf
    obtain ⟨sl3, e4⟩ := up3 b _ ((hs₂.2 b bC).trans e2) hnf
    exact ⟨sl3, e4⟩
theorem ps_setLcX {i : Nat} {y : Str} {py : Pos} {elt tg iter : Expr} {ifs : List Expr} {scope : Scope} {own : List (Str × Nat)} {pos spos : Pos} {wi : TI} {g : TG} {tt : TT} {te : TE} (tk : L2N.Takes X W) (hW : ∀ c d σ σ' H, W c d σ H → W c d σ' H) (hst : X.stack = X.env :: X.outer) (hf : X.env.frame = some X.env.locals)
    (hc : X.calm = true) (hN : X.N.Nodup) (hy : X.N[i]? = some y) (hyl : X.env.scope.names.lookup y = some .local)
    (hsw : swapsWith (.ListComp elt [⟨tg, iter, ifs, 0⟩] scope pos) (some (.Name y py)) spos.line X.env = pure true) (hi : PI X tg iter wi) (ok : BlkOk X.N X.env.scope scope own)
    (hg : ∀ (s : Shared) (H : Hp) (C : Addr) (cl : List (Str × Addr)) (fp : List Addr), PG (X.blk s H scope (compEnvC scope cl C X.env) fp) tg g) (ht : ∀ (s : Shared) (H : Hp) (C : Addr) (cl : List (Str × Addr)) (fp : List Addr), PTs (X.blk s H scope (compEnvC scope cl C X.env) fp) ifs tt)
    (he : ∀ (s : Shared) (H : Hp) (C : Addr) (cl : List (Str × Addr)) (fp : List Addr) (E' : Value → Shared → Prop), (∀ σ', PassesAt (L2N.CX X.prog X.w) ((X.blk s H scope (compEnvC scope cl C X.env) fp).tr [] E') σ' (WE W σ')) → PE ((X.blk s H scope (compEnvC scope cl C X.env) fp).tr [] E') elt te)
    (hs : ∀ x, foldedSetIterable iter X.env x = pure x := by intro _; rfl) :
    PS X (.Assign [.Name y py] (.ListComp elt [⟨tg, iter, ifs, 0⟩] scope pos) spos) (tAsg (tLc wi g tt te (own.map (·.2))) (gName i)) := by
  refine ⟨fun pins s σ H D I h => ?_⟩
  rw [exec_Assign_Name_used _ _ _ _ hsw]
  refine wpAny_bind (wpAny_standAt (wpAny_bind ?_))
  show wpAny _ X.A (do let _ ← comprehension (.ListComp elt [⟨tg, iter, ifs, 0⟩] scope pos) scope X.env (firstIterPos [⟨tg, iter, ifs, 0⟩] pos) (newList []) false (eval iter X.env) (some (assign (.Name y py) X.env))) _ _ s
  have h : tLc wi g tt te (own.map (·.2)) σ H (fun x H1 => gName i x σ H1 D.nx) := h
  refine wpAny_bind (thn ?_ fun _ s' hq => wpAny_pure (wpAny_pure hq))
  have hfree : ∀ y ∈ scope.names, y.2 = .free → ∃ c, X.env.cells.lookup y.1 = some c := fun y hy e => by
    rcases ok.free y hy e with k | k
    · exact I.ok.has _ (.inl k)
    · exact I.ok.has _ (.inr k)
  refine comprehension_at (use := some (assign (.Name y py) X.env)) (Q := fun _ s' => SP X pins D .next s') rfl hs (closure_ok hfree) ok.kind (fun y hy e => by rw [ok.uniq y hy, e])
    (thn (hi.run pins s σ H _ I h) fun xv s1 hx => thn hx fun itv s2 h2 => ?_)
  obtain ⟨it, fp, tn, J, H2, e, I2, T, st2, f2, q⟩ := h2
  subst e
  refine wpAny_newObj_type (newEnv_comp ?_) (by show 0 ≤ sizeLine; decide)
  generalize hD : s2.heap.objs.size = L
  have hDn : H2 L = none := I2.hok.fresh (Nat.le_of_eq hD)
  obtain ⟨Wl, ⟨m0, w0⟩, turn⟩ := q L hDn
  generalize hs3 : ({ s2 with heap := s2.heap.push { cls := .type "list", data := .seq ([] : List Value).toArray } } : Shared) = s3
  have I3 : Inv X pins σ (upd H2 L (.lst [])) s3 := by
    rw [← hs3]
    refine I2.laid (t' := s2.toks) (fun b o e => Heap.get?_push_of_some _ e) (Nat.le_of_eq hD) ⟨Nat.zero_le _, [], 0, .nil, ?_⟩
    rw [← hD]
    exact Heap.get?_push_size _ rfl
  have h3 : s3.heap = s2.heap.push { cls := .type "list", data := .seq ([] : List Value).toArray } := by rw [← hs3]
  have sz : ∀ b ∈ fp, b < s2.heap.objs.size := fun b hb => by
    obtain ⟨o, e, _⟩ := T.obj _ _ st2 b hb
    exact Heap.lt_size e
  have f3 : ∀ b ∈ fp, FpOk X pins (upd H2 L (.lst [])) b ∧ b < s3.heap.objs.size := fun b hb => by
    have hlt := sz b hb
    refine ⟨⟨?_, (f2 b hb).2⟩, by rw [h3, Heap.size_push]; exact Nat.lt_succ_of_lt hlt⟩
    rw [upd_ne (by rw [← hD]; exact Nat.ne_of_lt hlt)]
    exact (f2 b hb).1
  have st3 : tn 0 s3.heap := T.keep _ _ _ st2 fun b _ o e => by rw [h3]; exact Heap.get?_push_of_some _ e
  have I4 := block_start I3 ok hN f3
  have pg := hg s3 (upd H2 L (.lst [])) s3.heap.objs.size (cellsFrom (s3.heap.objs.size + 1) scope.names (cloFrom X.env.cells scope.names [])) fp
  have pt := ht s3 (upd H2 L (.lst [])) s3.heap.objs.size (cellsFrom (s3.heap.objs.size + 1) scope.names (cloFrom X.env.cells scope.names [])) fp
  have pe := he s3 (upd H2 L (.lst [])) s3.heap.objs.size (cellsFrom (s3.heap.objs.size + 1) scope.names (cloFrom X.env.cells scope.names [])) fp _ (fun σ' => passes_blk (ce := compEnvC scope (cellsFrom (s3.heap.objs.size + 1) scope.names (cloFrom X.env.cells scope.names [])) s3.heap.objs.size X.env) tk hW hst hf rfl rfl I3 f3 σ')
  show codeAny _ _ (.compStart (.ListComp elt [⟨tg, iter, ifs, 0⟩] scope pos) 0 (.ref it) (.ref L) (compEnvC scope (cellsFrom (s3.heap.objs.size + 1) scope.names (cloFrom X.env.cells scope.names [])) s3.heap.objs.size X.env)) (compEnds (model X.prog X.w) X.A X.xe (some (assign (.Name y py) X.env)) (fun _ s' => SP X pins D .next s') (.ref L) (compEnvC scope (cellsFrom (s3.heap.objs.size + 1) scope.names (cloFrom X.env.cells scope.names [])) s3.heap.objs.size X.env)) { s3 with heap := pushCells (s3.heap.push { cls := .type "dict", data := .dict #[] }) scope.names }
  have nfp : ∀ b ∈ fp, (upd H2 L (.lst [])) b = none := fun b hb => (f3 b hb).1.1
  generalize hce : compEnvC scope (cellsFrom (s3.heap.objs.size + 1) scope.names (cloFrom X.env.cells scope.names [])) s3.heap.objs.size X.env = ce at I4 pg pt pe ⊢
  have cL : ce.locals = s3.heap.objs.size := by subst hce; rfl
  generalize hH3 : upd H2 L (.lst []) = H3 at I3 I4 pg pt pe w0 nfp f3
  generalize hs4 : ({ s3 with heap := pushCells (s3.heap.push { cls := .type "dict", data := .dict #[] }) scope.names } : Shared) = s4 at I4 ⊢
  have st4 : tn 0 s4.heap := T.keep _ _ _ st3 fun b _ o e => by rw [← hs4]; exact pushCells_keeps _ _ _ _ (Heap.get?_push_of_some _ e)
  have stat : ∀ {σ' : L2.St} {H' : Hp} {s' : Shared}, Inv (X.blk s3 H3 scope ce fp) [] σ' H' s' → (∀ b ∈ fp, H' b = none) → ∀ b ∈ fp, FpOk (X.blk s3 H3 scope ce fp) [] H' b := fun {σ' H' s'} I' hn b hb =>
    ⟨hn b hb, (I'.ok.exf b hb).1, I'.ok.exfs b hb, .inl hb, fun x c e => (I'.ok.exf b hb).2 x c e, fun p hp => absurd (show p ∈ ([] : List (Addr × Obj)) ++ [] from hp) (by simp)⟩
  have toE : ∀ {E' : Value → Shared → Prop} {ps : List (Addr × Obj)} {σ' : L2.St} {H' : Hp} {s' : Shared}, Inv (X.blk s3 H3 scope ce fp) ps σ' H' s' → Inv ((X.blk s3 H3 scope ce fp).tr [] E') ps σ' H' s' := fun I' =>
    ⟨I'.ok.toTry _ _, I'.os, I'.bare, I'.base, I'.loc, I'.cell, I'.free, I'.freeC, I'.pin, I'.hok, I'.len⟩
  have ofE : ∀ {E' : Value → Shared → Prop} {ps : List (Addr × Obj)} {σ' : L2.St} {H' : Hp} {s' : Shared}, Inv ((X.blk s3 H3 scope ce fp).tr [] E') ps σ' H' s' → Inv (X.blk s3 H3 scope ce fp) ps σ' H' s' := fun I' =>
    ⟨Cx.Ok.ofTry (X := X.blk s3 H3 scope ce fp) I'.ok, I'.os, I'.bare, I'.base, I'.loc, I'.cell, I'.free, I'.freeC, I'.pin, I'.hok, I'.len⟩
  have loop : codeAny (model X.prog X.w) X.A (.compLoop (.ListComp elt [⟨tg, iter, ifs, 0⟩] scope pos) 0 (.ref it) (.ref L) ce) (compEnds (model X.prog X.w) X.A X.xe (some (assign (.Name y py) X.env)) (fun _ s' => SP X pins D .next s') (.ref L) ce) s4 := by
    refine compLoop_any (fun n s' => ∃ i H', Inv (X.blk s3 H3 scope ce fp) [] (wipe σ (own.map (·.2))) H' s' ∧ tn i s'.heap ∧ (∀ b ∈ fp, H' b = none) ∧ Wl i n H') ?_ m0 ⟨0, H3, I4, st4, nfp, w0⟩
    rintro n s5 ⟨i2, H5, I5, st5, n5, w5⟩
    rcases turn i2 n H5 w5 with ⟨stop, qq⟩ | ⟨go, Nx, hNx, step⟩
    · have td := T.done (X.blk s3 H3 scope ce fp) rfl rfl rfl hc i2 [] s5 _ H5 (fun _ _ => False) I5 (stat I5 n5) st5 stop
      refine thnF td fun r s6 ⟨hr, I6⟩ => ?_
      subst hr
      have I7 : Inv X pins σ H5 s6 := I3.call' (ch := fp) I6.os I6.base I6.hok I6.bare fun b hb => ⟨(f3 b hb).1.2.2.2.1, (f3 b hb).1.2.1, (f3 b hb).1.2.2.2.2.1, (f3 b hb).1.2.2.2.2.2⟩
      have nC : H5 s3.heap.objs.size = none := by
        have z : H5 ce.locals = none := I6.free
        rw [cL] at z
        exact z
      obtain ⟨m, hn, _⟩ := I6.loc
      have hn : s6.heap.Ns ce.locals m := hn
      rw [cL] at hn
      obtain ⟨f0, f1, f2, f3, f4, f5⟩ := I3.fpOk (Nat.le_refl _) nC
      show wpAny _ _ (assign (.Name y py) X.env (.ref L)) _ _ _
      refine wpAny_assign_Name (store_ok2 (v := V.ref L) I7 hN hy (.inl hyl) rfl (fun s2 I2 ⟨a, sb, ha⟩ => ?_) (.inr hyl))
      have haC : s3.heap.objs.size ≠ a := by
        rcases ha with z | z
        · rw [z]; exact f1
        · exact fun e => f4 y a z e.symm
      refine ⟨m, by rw [cL]; exact hn.sameBut sb haC, fun h3 sb3 => ?_⟩
      rw [cL] at sb3
      exact ⟨_, H5, I2.turned (t' := s2.toks) (fun b o hb e => (sb3.2 b hb).trans e) f0 f1 f3 f4 f5, qq⟩
    · have ti := T.item (X.blk s3 H3 scope ce fp) rfl rfl rfl hc i2 [] s5 _ H5 (fun _ _ => False) I5 (stat I5 n5) st5 go
      refine thnF ti fun r s6 ⟨u, hr, h6⟩ => ?_
      subst hr
      refine thnF h6 fun _ s7 ⟨x, H7, I7, r7, y7, st7, n7⟩ => ?_
      have I7' := I7.pinned (stat I7 n7) (T.obj _ _ st7)
      refine thnF (pg.run _ s7 _ H7 x u _ I7' r7 (step x H7 y7)) fun _ s8 ⟨σ8, H8, I8, hw8, q8⟩ => ?_
      refine thnF (pt.run _ s8 σ8 H8 _ I8 q8) fun b s9 ⟨H9, I9, q9⟩ => ?_
      have fin : ∀ {s' : Shared} {H' : Hp}, Inv (X.blk s3 H3 scope ce fp) ([] ++ pinsAt fp s7.heap) σ8 H' s' → Nx H' → ∃ m, m < n ∧ ∃ i H', Inv (X.blk s3 H3 scope ce fp) [] (wipe σ (own.map (·.2))) H' s' ∧ tn i s'.heap ∧ (∀ b ∈ fp, H' b = none) ∧ Wl i m H' := fun {s' H'} I' nx => by
        obtain ⟨m', hm, w'⟩ := hNx H' nx
        have pin' : ∀ b ∈ fp, ∀ o, s7.heap.get? b = some o → s'.heap.get? b = some o ∧ H' b = none := fun b hb o e =>
          let z := I'.pin (b, o) (List.mem_append_right _ (List.mem_append_right _ (mem_pinsAt hb e)))
          ⟨z.1, z.2.1⟩
        have hl : (wipe σ (own.map (·.2))).length = σ8.length := by rw [← hw8, wipe_length]
        refine ⟨m', hm, i2 + 1, H', (I'.unpinned (pins := [])).weak hl (fun j v e => ?_), T.keep _ _ _ st7 fun b hb o e => (pin' b hb o e).1, fun b hb => ?_, w'⟩
        · rw [← hw8] at e
          exact (wipe_some e).1
        · obtain ⟨o, e, _⟩ := T.obj _ _ st7 b hb
          exact (pin' b hb o e).2
      cases b with
      | false =>
        simp only [Bool.false_eq_true, if_false] at q9 ⊢
        exact fin I9 q9
      | true =>
        simp only [if_true] at q9 ⊢
        refine thn (pe.run _ s9 σ8 H9 _ (toE I9) q9) fun z s10 ⟨yv, H10, I10, r10, acc, hD10, hz10, nx⟩ => ?_
        exact app_ok (X := X.blk s3 H3 scope ce fp) (ofE I10) hD10 hz10 r10 fun s11 I11 => fin I11 nx
  exact codeAny_compStart_list loop (T.self X.A 0 _ _ _ st4 loop)
end
end Dv
namespace Dv
open PySem L2 PyProof.Rows
section
variable {K : PySem.W.Frag} {B : Hp} {O : List Addr} {I : List (Nat × Addr)} {σ : L2.St} {H H' : Hp} {env env' : Env} {v : V} {t ta tb te : TE} {f fa fb fe : EF} {W : WN}
abbrev AFX := Env → Option (Except Nat (List RV) × Env)
def putR (r : RV) : Except Nat (List RV) → Except Nat (List RV)
  | .ok rs => .ok (frz r :: rs)
  | .error n => .error n
def fNilA : AFX := fun env => some (.ok [], env)
def fConsP (fe : EF) (fr : AFX) : AFX := fun env => (fe env).bind fun a => (fr a.2).bind fun b => some (putR a.1 b.1, b.2)
def fConsX (fe : EF) (fr : AFX) : AFX := fun env => (fe env).bind fun a => match a.1 with
  | .ex n => some (.error n, a.2)
  | r => (fr a.2).bind fun b => some (putR r b.1, b.2)
def SndAX (K : PySem.W.Frag) (W : WN) (t : TA) (f : AFX) : Prop := ∀ B O I σ H env r env', Sta K B O I σ H env → f env = some (r, env') →
  ∀ Q : List V → Hp → Prop, (∀ rs vs H', r = .ok rs → Sta K B O I σ H' env' → PostA K B O I σ H' env' vs rs → Q vs H') → (∀ n H', r = .error n → Sta K B O I σ H' env' → W n σ H') → t σ H Q
theorem sax_nil : SndAX K W tNil fNilA := by
  intro B O I σ H env r env' S e Q q qx
  cases e
  exact q [] [] H rfl S .nil
theorem sax_consP {ts : TA} {fr : AFX} (h1 : Snd K te fe) (h2 : SndAX K W ts fr) : SndAX K W (tCons te ts) (fConsP fe fr) := by
  intro B O I σ H env r env' S e Q q qx
  obtain ⟨⟨r1, env1⟩, e1, e⟩ := bnd e
  obtain ⟨⟨r2, env2⟩, e2, e⟩ := bnd e
  cases e
  refine h1 B O I σ H env r1 env1 S e1 _ fun v H1 P1 => ?_
  have P1' := P1.frz
  have S1 := P1'.sta
  refine h2 _ O I σ H1 env1 r2 _ S1.strong e2 _ (fun rs vs H2 er S2 P2 => ?_) fun n H2 er S2 => ?_
  · subst er
    exact q (Dv.frz r1 :: rs) (v :: vs) H2 rfl (S2.weak S1.base_keep) (.cons (P1'.later S2) (PostA.weak S1.base_keep P2))
  · subst er
    exact qx n H2 rfl (S2.weak S1.base_keep)
theorem sax_consX {ts : TA} {fr : AFX} (h1 : SndX K W te fe) (h2 : SndAX K W ts fr) : SndAX K W (tCons te ts) (fConsX fe fr) := by
  intro B O I σ H env r env' S e Q q qx
  obtain ⟨⟨r1, env1⟩, e1, e⟩ := bnd e
  refine h1 B O I σ H env r1 env1 S e1 _ (fun v H1 P1 => ?_) fun n en H1 S1 => ?_
  · have P1' := P1.frz
    have S1 := P1'.sta
    have key : ∀ r2 env2, fr env1 = some (r2, env2) → (putR r1 r2, env2) = (r, env') → tCons (fun _ H Q => Q v H) ts σ H1 Q := fun r2 env2 e2 e3 => by
      cases e3
      refine h2 _ O I σ H1 env1 r2 _ S1.strong e2 _ (fun rs vs H2 er S2 P2 => ?_) fun n H2 er S2 => ?_
      · subst er
        exact q (Dv.frz r1 :: rs) (v :: vs) H2 rfl (S2.weak S1.base_keep) (.cons (P1'.later S2) (PostA.weak S1.base_keep P2))
      · subst er
        exact qx n H2 rfl (S2.weak S1.base_keep)
    dsimp only at e
    cases r1 with
    | ex n => exact False.elim P1
    | val d =>
      obtain ⟨⟨r2, env2⟩, e2, e⟩ := bnd e
      exact key r2 env2 e2 (Option.some.inj e)
    | slot i =>
      obtain ⟨⟨r2, env2⟩, e2, e⟩ := bnd e
      exact key r2 env2 e2 (Option.some.inj e)
    | new ds =>
      obtain ⟨⟨r2, env2⟩, e2, e⟩ := bnd e
      exact key r2 env2 e2 (Option.some.inj e)
    | tw ds =>
      obtain ⟨⟨r2, env2⟩, e2, e⟩ := bnd e
      exact key r2 env2 e2 (Option.some.inj e)
  · subst en
    cases e
    exact qx n H1 rfl S1
def fTupX (fa : AFX) : EF := fun env => (fa env).bind fun a => match a.1 with
  | .error n => some (.ex n, a.2)
  | .ok rs => (allVal rs).bind fun ds => if ds.length ≤ 10000000 then some (.val (.tup ds), a.2) else none
theorem sndX_tup {ts : TA} {fr : AFX} (h1 : SndAX K W ts fr) : SndX K W (tTup ts) (fTupX fr) := by
  intro B O I σ H env rv env' S e Q q qx
  obtain ⟨⟨r1, env1⟩, e1, e⟩ := bnd e
  refine h1 B O I σ H env r1 _ S e1 _ (fun rs vs H1 er S1 P1 => ?_) fun n H1 er S1 => ?_
  · subst er
    obtain ⟨ds, e2, e⟩ := bnd e
    split at e
    · cases e
      have k := post_vals P1 e2
      refine ⟨by rw [k.length]; exact line_of (by assumption), fun p hp => q _ _ (post_tup S1 hp k)⟩
    · cases e
  · subst er
    cases e
    exact qx n rfl H1 S1
/-- the right side may refuse -/
def f2R (g : G2) (fa fb : EF) : EF := fun env => (fa env).bind fun a => (fb a.2).bind fun b => match b.1 with
  | .ex n => some (.ex n, b.2)
  | r => (deref b.2 (frz a.1)).bind fun x => (deref b.2 r).bind fun y => (g x y).bind fun z => some (z, b.2)
theorem sndX_2r {r : R2} {g : G2} (h1 : Snd K ta fa) (h2 : SndX K W tb fb) (ho : Op2 K r g) : SndX K W (tOp r ta tb) (f2R g fa fb) := by
  intro B O I σ H env rv env' S e Q q qx
  obtain ⟨⟨r1, env1⟩, e1, e⟩ := bnd e
  obtain ⟨⟨r2, env2⟩, e2, e⟩ := bnd e
  refine h1 B O I σ H env r1 env1 S e1 _ fun v H1 P1 => ?_
  have P1' := P1.frz
  have S1 := P1'.sta
  refine h2 _ O I σ H1 env1 r2 env2 S1.strong e2 _ (fun w H2 P2 => ?_) fun n en H2 S2 => ?_
  · have key : ((deref env2 (Dv.frz r1)).bind fun x => (deref env2 r2).bind fun y => (g x y).bind fun z => some (z, env2)) = some (rv, env') → r v w H2 Q := fun e => by
      obtain ⟨x, ex, e⟩ := bnd e
      obtain ⟨y, ey, e⟩ := bnd e
      obtain ⟨z, ez, e⟩ := bnd e
      cases e
      exact ho B O I σ H2 _ v w _ r2 x y _ (P1'.later P2.sta) (P2.weakN S1.base_keep) ex ey ez Q q
    dsimp only at e
    cases r2 with
    | ex n => exact False.elim P2
    | val d => exact key e
    | slot i => exact key e
    | new ds => exact key e
    | tw ds => exact key e
  · subst en
    cases e
    exact qx n rfl H2 (S2.weak S1.base_keep)
def lcNX (g : GF) (tt : TF) (fe : EF) (vs : List Nat) : List D → Env → Option (Except Nat (List D) × Env)
  | [], env => some (.ok [], env)
  | d :: ds, env => (g d env).bind fun e1 => (tt e1).bind fun b => if b.1 then (fe b.2).bind fun a => match frz a.1 with
      | .val y => (wipeO vs a.2).bind fun w => (lcNX g tt fe vs ds w).bind fun r => some (r.1.map (y :: ·), r.2)
      | .ex n => (wipeO vs a.2).bind fun w => some (.error n, w)
      | _ => none
    else (wipeO vs b.2).bind fun w => lcNX g tt fe vs ds w
def fLcX (fi : IF) (g : GF) (tt : TF) (fe : EF) (vs : List Nat) : EF := fun env => (fi env).bind fun a => (wipeO vs a.2).bind fun w => (lcNX g tt fe vs a.1 w).bind fun r => match r.1 with
  | .ok ys => if ys.length ≤ 10000000 then some (.new ys, restE a.2 vs r.2) else none
  | .error n => if a.1.length ≤ 10000000 then some (.ex n, restE a.2 vs r.2) else none
def catX (done : List D) : Except Nat (List D) → Except Nat (List D)
  | .ok ys => .ok (done ++ ys)
  | .error n => .error n
theorem catX_cons {done : List D} {y : D} {r : Except Nat (List D)} : catX done (r.map (y :: ·)) = catX (done ++ [y]) r := by
  cases r with
  | ok ys => show Except.ok _ = Except.ok _; simp
  | error n => rfl
theorem catX_nil {r : Except Nat (List D)} : catX [] r = r := by
  cases r <;> rfl
theorem sndX_lc {wi : TI} {fi : IF} {g : TG} {h : GF} {tt : TT} {ft : TF} {vs : List Nat} (hW : ∀ n σ σ' H, W n σ H → W n σ' H) (hi : SndI K wi fi) (hg : SndW K vs g h) (ht : SndT K tt ft) (he : SndX K W te fe) : SndX K W (tLc wi g tt te vs) (fLcX fi h ft fe vs) := by
  intro B O I σ H env rv env' S e Q q qx
  obtain ⟨⟨items, env1⟩, e1, e⟩ := bnd e
  obtain ⟨w0, ew, e⟩ := bnd e
  obtain ⟨⟨all, envE⟩, e2, e⟩ := bnd e
  dsimp only at ew e2 e
  have hall : ∀ acc : List D, (∃ m r envx, m ≤ items.length ∧ lcNX h ft fe vs (items.drop m) envx = some (r, envE) ∧ catX acc r = all ∧ acc.length ≤ m) → acc.length ≤ items.length := fun acc ⟨m, r, envx, a1, _, _, a2⟩ => Nat.le_trans a2 a1
  have lit : items.length ≤ 10000000 ∨ ∃ ys, all = .ok ys ∧ ys.length ≤ 10000000 := by
    cases all with
    | ok ys =>
      dsimp only at e
      split at e
      · exact .inr ⟨ys, rfl, by assumption⟩
      · cases e
    | error n =>
      dsimp only at e
      split at e
      · exact .inl (by assumption)
      · cases e
  refine hi B O I σ H env items env1 S e1 _ fun J H1 S1 it => fun L hL => ?_
  have hLO : L ∉ O := not_dom S1.dom hL
  have hLB : keepH σ env1 H1 L = none := (keepH_same (σ := σ) (env := env1) (H := H1)).free hL
  have S0 : Sta K (keepH σ env1 H1) O I (L2.wipe σ vs) H1 w0 := S1.strong.wipe ew
  refine ⟨fun i m H => ∃ env acc done rest, Sta K (keepH σ env1 H1) O I (L2.wipe σ vs) (mi H [L]) env ∧ H L = some (.lst acc) ∧ DqA K (mi (mi H [L]) O) acc done ∧ i + m = items.length ∧ done.length ≤ i ∧ lcNX h ft fe vs (items.drop i) env = some (rest, envE) ∧ catX done rest = all,
    ⟨items.length, w0, [], [], all, by rw [mi_one_new hL]; exact S0, upd_same, .nil, by omega, Nat.zero_le _, by simpa using e2, catX_nil⟩, fun i m H ⟨env2, acc, done, rest, S2, hA, hD, em, ld, e3, ed⟩ => ?_⟩
  have fz0 : Same (mi H1 O) (mi H (L :: O)) := fun a o z => by
    obtain ⟨z1, z2⟩ := mi_some z
    rw [← mi_mi]
    refine mi_of z1 (S2.base a o ?_)
    rw [keepH_not (fun y => z1 (S1.owns_in y))]
    exact z2
  have S3 := S2.show hA
  obtain ⟨i1, i2, i3⟩ := it H (L :: O) fz0 S3.dom
  cases m with
  | zero =>
    have ei : i = items.length := by omega
    subst ei
    rw [List.drop_length] at e3
    cases e3
    have ed : Except.ok (done ++ []) = all := ed
    rw [List.append_nil] at ed
    subst ed
    dsimp only at e
    split at e
    · cases e
      refine .inl ⟨i2, q _ _ ⟨L, acc, rfl, hA, S1.base.free hL, hLO, ?_, hD⟩⟩
      exact (Sta.rest S1 S2 (by rw [mi_mi]; exact fz0)).weak S1.base_keep
    · cases e
  | succ m =>
    have hi : i < items.length := by omega
    rw [List.drop_eq_getElem_cons hi] at e3
    obtain ⟨env3, e4, e5⟩ := bnd e3
    obtain ⟨⟨b, env4⟩, e6, e7⟩ := bnd e5
    refine .inr ⟨i1 i hi, fun H' => ∃ env acc done rest, Sta K (keepH σ env1 H1) O I (L2.wipe σ vs) (mi H' [L]) env ∧ H' L = some (.lst acc) ∧ DqA K (mi (mi H' [L]) O) acc done ∧ done.length ≤ i + 1 ∧ lcNX h ft fe vs (items.drop (i + 1)) env = some (rest, envE) ∧ catX done rest = all,
      fun H' ⟨a1, a2, a3, a4, a5, a6, a7, a8, a9, a10⟩ => ⟨m, by omega, a1, a2, a3, a4, a5, a6, a7, by omega, a8, a9, a10⟩, fun x H3 hy => ?_⟩
    obtain ⟨sm, dx⟩ := i3 i _ x H3 (List.getElem?_eq_getElem hi) hy
    have S4 := S3.grow sm
    have hL3 : keepH (L2.wipe σ vs) env2 H3 L = some (.lst acc) := S4.not_own (o := .lst acc) upd_same
    have base3 : Same (upd (keepH σ env1 H1) L (.lst acc)) (keepH (L2.wipe σ vs) env2 H3) := S4.base_keep
    refine hg _ _ I _ H3 env2 x _ env3 S4.strong dx e4 _ fun σ4 w4 S5 => ⟨by rw [w4, wipe_idem], ?_⟩
    refine ht _ _ I σ4 H3 env3 b env4 S5 e6 _ fun H5 S6 => ?_
    have st : ∀ {H6 : Hp} {σ6 : L2.St} {env6 : Env}, Sta K (keepH (L2.wipe σ vs) env2 H3) (L :: O) I σ6 H6 env6 → Same (mi H (L :: O)) (mi H6 (L :: O)) := fun {H6 σ6 env6} Z => by
      have z1 : Same (mi H3 (L :: O)) (mi H6 (L :: O)) := stays S4 .refl Z
      exact (mi_mono sm).trans z1
    cases b with
    | false =>
      rw [if_neg Bool.false_ne_true]
      obtain ⟨w5, e8, e9⟩ := bnd e7
      have S7 := ((S6.wipe e8).weak base3).hide hLO hLB
      rw [w4, wipe_idem] at S7
      refine ⟨w5, acc, done, rest, S7, S6.base _ _ hL3, ?_, by omega, e9, ed⟩
      rw [mi_mi] at hD ⊢
      exact DqA.mono (st S6) _ _ hD
    | true =>
      rw [if_pos rfl]
      obtain ⟨⟨r6, env6⟩, e8, e9⟩ := bnd e7
      dsimp only at e9
      refine he _ _ I σ4 H5 env4 r6 env6 S6 e8 _ (fun vy H6 P6 => ?_) fun n en H6 S7 => ?_
      · split at e9
        · rename_i y hy6
          obtain ⟨w5, f1, f2⟩ := bnd e9
          obtain ⟨⟨rest', env7⟩, f3, f4⟩ := bnd f2
          cases f4
          have P6' := P6.frz
          rw [hy6] at P6'
          obtain ⟨S7, dy⟩ := P6'
          have hA6 := S7.base _ _ hL3
          have ed2 : catX (done ++ [y]) rest' = all := by rw [← catX_cons]; exact ed
          have ll : acc.length < sizeLine := by
            rw [hD.length]
            refine line_lt ?_
            rcases lit with z | ⟨ys, z1, z2⟩
            · omega
            · rw [z1] at ed2
              cases rest' with
              | error n => cases ed2
              | ok zs =>
                have ed2 : done ++ [y] ++ zs = ys := Except.ok.inj ed2
                rw [← ed2] at z2
                simp only [List.length_append] at z2
                omega
          refine ⟨acc, hA6, ll, w5, acc ++ [vy], done ++ [y], rest', ?_, upd_same, ?_, by rw [List.length_append]; exact Nat.succ_le_succ ld, f3, ed2⟩
          · have S8 := ((S7.wipe f1).weak base3).hide hLO hLB
            rw [w4, wipe_idem] at S8
            rw [mi_upd_in (List.mem_singleton.mpr rfl)]
            exact S8
          · rw [mi_upd_in (List.mem_singleton.mpr rfl)]
            rw [mi_mi] at hD ⊢
            exact (DqA.mono (st S7) _ _ hD).append (.cons dy .nil)
        · rename_i n hy6
          cases r6 <;> cases hy6
          exact False.elim P6
        · cases e9
      · subst en
        obtain ⟨w5, f1, f2⟩ := bnd e9
        cases f2
        have ed : Except.error n = all := ed
        subst ed
        dsimp only at e
        split at e
        · cases e
          have S8 := ((S7.wipe f1).weak base3).hide hLO hLB
          rw [w4, wipe_idem] at S8
          have S9 : Sta K B O I σ (mi H6 [L]) (restE env1 vs envE) := (Sta.rest S1 S8 (by
            rw [mi_mi]
            exact fz0.trans (st S7))).weak S1.base_keep
          exact hW n σ σ4 H6 (qx n rfl H6 (S9.grow mi_same))
        · cases e
end
section
variable {env e : Env} {P : RV × Env → Prop} {PO : Out → Prop} {PA : Except Nat (List RV) × Env → Prop} {fa fb fe : EF} {fr : AFX} {r : RV} {rs : List RV} {d : D} {ds : List D} {n : Nat}
theorem w_nilA : Ok (fNilA env) PA ↔ PA (.ok [], env) := ok_some
def KPR (r : RV) (PA : Except Nat (List RV) × Env → Prop) : Except Nat (List RV) × Env → Prop := fun b => PA (putR r b.1, b.2)
def KCP (fr : AFX) (PA : Except Nat (List RV) × Env → Prop) : RV × Env → Prop := fun a => Ok (fr a.2) (KPR a.1 PA)
def KCX (fr : AFX) (PA : Except Nat (List RV) × Env → Prop) : RV × Env → Prop := fun a => match a.1 with
  | .ex n => PA (.error n, a.2)
  | r => Ok (fr a.2) (KPR r PA)
theorem w_consP : Ok (fConsP fe fr env) PA ↔ Ok (fe env) (KCP fr PA) := ok_bind_iff fun a => ok_bind_iff fun b => ok_some (P := PA)
theorem k_CP : KCP fr PA (r, e) ↔ Ok (fr e) (KPR r PA) := Iff.rfl
theorem w_consX : Ok (fConsX fe fr env) PA ↔ Ok (fe env) (KCX fr PA) := by
  refine ok_bind_iff fun ⟨r, e⟩ => ?_
  cases r with
  | ex n => exact ok_some (P := PA)
  | val d => exact ok_bind_iff fun b => ok_some (P := PA)
  | slot i => exact ok_bind_iff fun b => ok_some (P := PA)
  | new ds => exact ok_bind_iff fun b => ok_some (P := PA)
  | tw ds => exact ok_bind_iff fun b => ok_some (P := PA)
theorem k_CXe : KCX fr PA (.ex n, e) ↔ PA (.error n, e) := Iff.rfl
theorem k_CXv : KCX fr PA (.val d, e) ↔ Ok (fr e) (KPR (.val d) PA) := Iff.rfl
theorem k_CXn : KCX fr PA (.new ds, e) ↔ Ok (fr e) (KPR (.new ds) PA) := Iff.rfl
theorem k_PRe : KPR r PA (.error n, e) ↔ PA (.error n, e) := Iff.rfl
theorem k_PRv : KPR (.val d) PA (.ok rs, e) ↔ PA (.ok (.val d :: rs), e) := Iff.rfl
theorem k_PRn : KPR (.new ds) PA (.ok rs, e) ↔ PA (.ok (.val (.lst ds) :: rs), e) := Iff.rfl
def KTupX (P : RV × Env → Prop) : Except Nat (List RV) × Env → Prop := fun a => match a.1 with
  | .error n => P (.ex n, a.2)
  | .ok rs => KTup P (rs, a.2)
theorem w_tupX : Ok (fTupX fr env) P ↔ Ok (fr env) (KTupX P) := by
  refine ok_bind_iff fun ⟨r, e⟩ => ?_
  cases r with
  | error n => exact ok_some (P := P)
  | ok rs =>
    have := w_tup (P := P) (fr := fun _ => some (rs, e)) (env := env)
    unfold fTup at this
    rw [Option.bind_some] at this
    exact this.trans (ok_some (P := KTup P))
theorem k_tupXe : KTupX P (.error n, e) ↔ P (.ex n, e) := Iff.rfl
theorem k_tupXo : KTupX P (.ok rs, e) ↔ KTup P (rs, e) := Iff.rfl
def K2Rb (g : G2) (r : RV) (P : RV × Env → Prop) : RV × Env → Prop := fun b => match b.1 with
  | .ex n => P (.ex n, b.2)
  | r' => K2b g r P (r', b.2)
def K2R (g : G2) (fb : EF) (P : RV × Env → Prop) : RV × Env → Prop := fun a => Ok (fb a.2) (K2Rb g a.1 P)
theorem w_2R {g : G2} : Ok (f2R g fa fb env) P ↔ Ok (fa env) (K2R g fb P) := by
  refine ok_bind_iff fun ⟨r, e⟩ => ?_
  refine ok_bind_iff fun ⟨r2, e2⟩ => ?_
  have key : ∀ r2 : RV, Ok ((deref e2 (frz r)).bind fun x => (deref e2 r2).bind fun y => (g x y).bind fun z => some (z, e2)) P ↔ K2b g r P (r2, e2) := fun r2 => by
    have := w_2 (P := P) (g := g) (fa := fun _ => some (r, e)) (fb := fun _ => some (r2, e2)) (env := env)
    unfold f2 at this
    rw [Option.bind_some, Option.bind_some] at this
    refine this.trans ?_
    rw [ok_some, k_2, ok_some]
  cases r2 with
  | ex n => exact ok_some (P := P)
  | val d => exact key _
  | slot i => exact key _
  | new ds => exact key _
  | tw ds => exact key _
theorem k_2R {g : G2} : K2R g fb P (r, e) ↔ Ok (fb e) (K2Rb g r P) := Iff.rfl
theorem k_2Re {g : G2} : K2Rb g r P (.ex n, e) ↔ P (.ex n, e) := Iff.rfl
theorem k_2Rv {g : G2} : K2Rb g r P (.val d, e) ↔ K2b g r P (.val d, e) := Iff.rfl
def KLcX3 (k : Nat) (e0 : Env) (vs : List Nat) (P : RV × Env → Prop) : Except Nat (List D) × Env → Prop := fun r => match r.1 with
  | .ok ys => ys.length ≤ 10000000 ∧ P (.new ys, restE e0 vs r.2)
  | .error n => k ≤ 10000000 ∧ P (.ex n, restE e0 vs r.2)
def KLcX2 (k : GF) (tt : TF) (f : EF) (vs : List Nat) (ds : List D) (e0 : Env) (P : RV × Env → Prop) : Env → Prop := fun w => Ok (lcNX k tt f vs ds w) (KLcX3 ds.length e0 vs P)
def KLcX (k : GF) (tt : TF) (f : EF) (vs : List Nat) (P : RV × Env → Prop) : List D × Env → Prop := fun a => Ok (wipeO vs a.2) (KLcX2 k tt f vs a.1 a.2 P)
theorem k_lcX {k : GF} {tt : TF} {vs : List Nat} {f : EF} : KLcX k tt f vs P (ds, e) ↔ Ok (wipeO vs e) (KLcX2 k tt f vs ds e P) := Iff.rfl
theorem k_lcX2 {k : GF} {tt : TF} {vs : List Nat} {f : EF} {e0 : Env} : KLcX2 k tt f vs ds e0 P e ↔ Ok (lcNX k tt f vs ds e) (KLcX3 ds.length e0 vs P) := Iff.rfl
theorem k_lcX3o {k : Nat} {vs : List Nat} {e0 : Env} : KLcX3 k e0 vs P (.ok ds, e) ↔ ds.length ≤ 10000000 ∧ P (.new ds, restE e0 vs e) := Iff.rfl
theorem k_lcX3e {k : Nat} {vs : List Nat} {e0 : Env} : KLcX3 k e0 vs P (.error n, e) ↔ k ≤ 10000000 ∧ P (.ex n, restE e0 vs e) := Iff.rfl
theorem w_lcX {fi : IF} {k : GF} {tt : TF} {vs : List Nat} {f : EF} : Ok (fLcX fi k tt f vs env) P ↔ Ok (fi env) (KLcX k tt f vs P) := by
  refine ok_bind_iff fun a => ok_bind_iff fun w => ok_bind_iff fun ⟨r, e⟩ => ?_
  cases r with
  | ok ys =>
    show Ok (if _ then _ else none) P ↔ _
    rw [ok_guard, ok_some]
    exact Iff.rfl
  | error n =>
    show Ok (if _ then _ else none) P ↔ _
    rw [ok_guard, ok_some]
    exact Iff.rfl
def mapX {α : Type} (h : α → Except Nat D) : List α → Except Nat (List D)
  | [] => .ok []
  | x :: xs => match h x with
    | .ok y => (mapX h xs).map (y :: ·)
    | .error n => .error n
/-- each item is told or refused, and leaves the state -/
theorem lcX_map {α : Type} {g : GF} {tt : TF} {fe : EF} {vs : List Nat} {PL : Except Nat (List D) × Env → Prop} {env : Env} {c : α → D} {h : α → Except Nat D} :
    ∀ {xs : List α}, (∀ x, x ∈ xs → ∃ e1 e2 a, g (c x) env = some e1 ∧ tt e1 = some (true, e2) ∧ fe e2 = some a ∧ wipeO vs a.2 = some env ∧ frz a.1 = match h x with
      | .ok y => .val y
      | .error n => .ex n) → PL (mapX h xs, env) → Ok (lcNX g tt fe vs (xs.map c) env) PL := by
  have key : ∀ xs : List α, (∀ x, x ∈ xs → ∃ e1 e2 a, g (c x) env = some e1 ∧ tt e1 = some (true, e2) ∧ fe e2 = some a ∧ wipeO vs a.2 = some env ∧ frz a.1 = match h x with
      | .ok y => .val y
      | .error n => .ex n) → lcNX g tt fe vs (xs.map c) env = some (mapX h xs, env) := by
    intro xs
    induction xs with
    | nil => intro _; rfl
    | cons x xs ih =>
      intro hs
      obtain ⟨e1, e2, a, h1, h2, h3, h4, h5⟩ := hs x List.mem_cons_self
      rw [List.map_cons]
      unfold lcNX mapX
      rw [h1, Option.bind_some, h2, Option.bind_some]
      dsimp only
      rw [if_pos rfl, h3, Option.bind_some, h5]
      cases hx : h x with
      | ok y =>
        dsimp only
        rw [h4, Option.bind_some, ih fun z hz => hs z (List.mem_cons_of_mem _ hz)]
        rfl
      | error n =>
        dsimp only
        rw [h4]
        rfl
  intro xs hs hp
  exact ⟨_, key xs hs, hp⟩
end
end Dv
namespace Dv
open PySem PySem.Spec PyProof.Rows L2
structure DivOk (X : Cx) : Prop where
  seer : X.base.NoSeer
  dp : X.A.depth + 100 < recursionLimit
  tree : X.prog.given.tree = none
  top : ∃ env l, X.stack = env :: l ∧ env.scope.isGenerator = false ∧ env.scope.isCoroutine = false ∧ env.builtins = builtinsNs ∧ env.globals = mainGlobals
/-- a bound that is never reckoned -/
@[irreducible] def lim : Nat := 30008999
theorem DivOk.nox {X : Cx} (h : DivOk X) : DivOk X.nox := ⟨h.seer, h.dp, h.tree, h.top⟩
/-- a promise that holds wherever -/
theorem RunG.of {P : Program} {w : World} {K : PySem.W.Frag} {mg : Str → Option Value} {base : Heap} {CX : CXT} {k : Nat} {f : Addr} {fd : FuncData} {ps : List Str} {sp : Sp} (F : FnOk P w K mg base CX k f fd ps sp) : RunG P w K mg base CX k f fd ps sp :=
  fun A outer s H args us vs Q E _ hr e0 hb hv h => F.run A outer s H args us vs Q E hr e0 hb hv h
end Dv
namespace Dv
open PySem L2 PyProof.Rows
/-- which names a statement sets -/
def Frm (as : List Nat) (σ σ' : L2.St) : Prop := σ'.length = σ.length ∧ ∀ m, m ∉ as → σ'[m]? = σ[m]?
theorem Frm.refl {as : List Nat} {σ : L2.St} : Frm as σ σ := ⟨rfl, fun _ _ => rfl⟩
theorem Frm.trans {as : List Nat} {σ σ1 σ2 : L2.St} (h : Frm as σ σ1) (k : Frm as σ1 σ2) : Frm as σ σ2 := ⟨k.1.trans h.1, fun m n => (k.2 m n).trans (h.2 m n)⟩
theorem Frm.set {as : List Nat} {σ : L2.St} {i : Nat} {w : Option V} (h : i ∈ as) : Frm as σ (σ.set i w) := ⟨by simp, fun m n => List.getElem?_set_ne fun z => n (by rw [← z]; exact h)⟩
def OutF (K : PySem.W.Frag) (as : List Nat) (B : Hp) (O : List Addr) (I : List (Nat × Addr)) (σ : L2.St) (D : Ends) : Out → Prop
  | .nx env => ∀ O' σ' H', Sub B I O O' → Sta K B O' I σ' H' env → Frm as σ σ' → D.nx σ' H'
  | .rt r env => ∀ O' σ' H' v, Sub B I O O' → Frm as σ σ' → Post K B O' I σ' H' env v r → D.rt v H'
  | _ => False
section
variable {K : PySem.W.Frag} {B : Hp} {O : List Addr} {I : List (Nat × Addr)} {σ σ' : L2.St} {H H' : Hp} {env env' : Env} {v : V} {t ta tb te : TE} {f fa fb fe : EF} {W : WN} {as : List Nat}
theorem OutF.sub {O' : List Addr} {D : Ends} {o : Out} (s : Sub B I O O') (h : OutF K as B O I σ D o) : OutF K as B O' I σ D o := by
  cases o with
  | nx e => exact fun O2 σ2 H2 k S fr => h O2 σ2 H2 (s.trans k) S fr
  | rt r e => exact fun O2 σ2 H2 v k fr P => h O2 σ2 H2 v (s.trans k) fr P
  | bk e => exact h
  | ct e => exact h
theorem OutF.fr {D : Ends} {o : Out} (s : Frm as σ σ') (h : OutF K as B O I σ D o) : OutF K as B O I σ' D o := by
  cases o with
  | nx e => exact fun O2 σ2 H2 k S fr => h O2 σ2 H2 k S (s.trans fr)
  | rt r e => exact fun O2 σ2 H2 v k fr P => h O2 σ2 H2 v k (s.trans fr) P
  | bk e => exact h
  | ct e => exact h
end
end Dv
namespace Dv
open PySem PySem.Spec PyProof.Rows L2
end Dv
namespace Dv
open PySem L2 PyProof.Rows
end Dv
namespace Dv
open PySem L2
end Dv
namespace Dv
open PySem L2 PySem.Spec PyProof.Rows
section
variable {X : Cx}
def rInTD (K : PySem.W.Frag) (neg : Bool) : R2 := fun x y H Q => ∃ d ds, Dp K H x d ∧ Dp K H y (.tuple ds) ∧ SeqAt.shaped d = true ∧ SeqAt.shaped (.tuple ds) = true ∧ Q (.bl (if neg then !(ds.any fun z => PyData.eqv z d) else ds.any fun z => PyData.eqv z d)) H
theorem op_inTD (hu : X.A.units + 65 < cLine) : OpR X (compareOp .In) (rInTD X.K false) := by
  intro pins s σ H x y v u Q I rx ry h
  obtain ⟨d, ds, hd, he, sd, se, q⟩ := h
  obtain ⟨as, r1⟩ := Dp.reads I d x v hd rx
  obtain ⟨bs, r2⟩ := Dp.reads I (.tuple ds) y u he ry
  exact SeqAt.in_tuple_reads r2 r1 (SeqAt.canLay_of_shaped se) (SeqAt.canLay_of_shaped sd) (room_in_shaped sd hu) ⟨.bl _, H, I, rfl, q⟩
end
section
variable {K : PySem.W.Frag} {B : Hp} {O : List Addr} {I : List (Nat × Addr)} {σ : L2.St} {H H' : Hp} {env env' : Env} {v : V}
theorem dp_tup {r : RV} {ds : List D} (P : Post K B O I σ H env v r) (e : deref env r = some (.tup ds)) (hs : shp (.tup ds) = true) : Dp K H v (.tuple (toPys ds)) := by
  have := Dq.py _ _ (P.read e) (SeqAt.canLay_of_shaped hs)
  simpa only [toPy] using this
def gInTD (neg : Bool) : G2
  | x, .tup ds => if shp x && shp (.tup ds) then some (.val (.bl (if neg then !inD x ds else inD x ds))) else none
  | _, _ => none
theorem op2_inTD {neg : Bool} : Op2 K (rInTD K neg) (gInTD neg) := by
  intro B O I σ H env x y ra rb d e z P1 P2 e1 e2 ez Q q
  cases e with
  | tup ds =>
    unfold gInTD at ez
    dsimp only at ez
    split at ez
    · rename_i h
      rw [Bool.and_eq_true] at h
      cases ez
      refine ⟨toPy d, toPys ds, dp_any P1 e1 h.1, dp_tup P2 e2 h.2, h.1, ?_, ?_⟩
      · have := h.2
        unfold shp at this
        simpa only [toPy] using this
      · rw [inD_eq]
        exact q _ H ⟨P1.sta, .bl _⟩
    · cases ez
  | _ => cases ez
end
end Dv
namespace Dv
structure PS where
  co : Nat → Rat
namespace PS
theorem ext {f g : PS} (h : ∀ k, f.co k = g.co k) : f = g := by
  cases f
  cases g
  congr
  funext k
  exact h k
def tl (f : PS) : PS := ⟨fun k => f.co (k + 1)⟩
def C (r : Rat) : PS := ⟨fun k => if k = 0 then r else 0⟩
def mulC : Nat → PS → PS → Rat
  | 0, f, g => f.co 0 * g.co 0
  | k + 1, f, g => f.co 0 * g.co (k + 1) + mulC k f.tl g
instance : Add PS := ⟨fun f g => ⟨fun k => f.co k + g.co k⟩⟩
instance : Neg PS := ⟨fun f => ⟨fun k => -f.co k⟩⟩
instance : _root_.Sub PS := ⟨fun f g => ⟨fun k => f.co k - g.co k⟩⟩
instance : Mul PS := ⟨fun f g => ⟨fun k => mulC k f g⟩⟩
instance : NatCast PS := ⟨fun n => C n⟩
instance : IntCast PS := ⟨fun n => C n⟩
instance (n : Nat) : OfNat PS n := ⟨C n⟩
instance : SMul Nat PS := ⟨fun n f => C n * f⟩
instance : SMul Int PS := ⟨fun n f => C n * f⟩
def npow (f : PS) : Nat → PS
  | 0 => C 1
  | n + 1 => npow f n * f
instance : HPow PS Nat PS := ⟨npow⟩
theorem add_co (f g : PS) (k : Nat) : (f + g).co k = f.co k + g.co k := rfl
theorem neg_co (f : PS) (k : Nat) : (-f).co k = -f.co k := rfl
theorem sub_co (f g : PS) (k : Nat) : (f - g).co k = f.co k - g.co k := rfl
theorem mul_co (f g : PS) (k : Nat) : (f * g).co k = mulC k f g := rfl
theorem mulC_0 (f g : PS) : mulC 0 f g = f.co 0 * g.co 0 := rfl
theorem mulC_s (f g : PS) (k : Nat) : mulC (k + 1) f g = f.co 0 * g.co (k + 1) + mulC k f.tl g := rfl
theorem zero_co (k : Nat) : (0 : PS).co k = 0 := by
  show (if k = 0 then ((0 : Nat) : Rat) else 0) = 0
  split <;> rfl
theorem C_coS (r : Rat) (k : Nat) : (C r).co (k + 1) = 0 := rfl
theorem one_eq : (1 : PS) = C 1 := rfl
theorem mulC_z (g : PS) (f : PS) (h : ∀ k, f.co k = 0) : ∀ k, mulC k f g = 0 := by
  intro k
  induction k generalizing f with
  | zero => rw [mulC_0, h]; grind
  | succ k ih => rw [mulC_s, h, ih f.tl (fun k => h (k + 1))]; grind
theorem mulC_C (r : Rat) (g : PS) (k : Nat) : mulC k (C r) g = r * g.co k := by
  cases k with
  | zero => rfl
  | succ k =>
    rw [mulC_s, mulC_z g _ (fun k => rfl)]
    show r * _ + 0 = _
    grind
theorem mulC_addR (k : Nat) (f g h : PS) : mulC k f (g + h) = mulC k f g + mulC k f h := by
  induction k generalizing f with
  | zero => rw [mulC_0, mulC_0, mulC_0, add_co]; grind
  | succ k ih => rw [mulC_s, mulC_s, mulC_s, ih, add_co]; grind
theorem tl_add (f g : PS) : (f + g).tl = f.tl + g.tl := rfl
theorem mulC_addL (k : Nat) (f g h : PS) : mulC k (f + g) h = mulC k f h + mulC k g h := by
  induction k generalizing f g with
  | zero => rw [mulC_0, mulC_0, mulC_0, add_co]; grind
  | succ k ih => rw [mulC_s, mulC_s, mulC_s, tl_add, ih, add_co]; grind
theorem mulC_r (k : Nat) (f g : PS) : mulC (k + 1) f g = f.co (k + 1) * g.co 0 + mulC k f g.tl := by
  induction k generalizing f with
  | zero =>
    rw [mulC_s, mulC_0, mulC_0]
    show f.co 0 * g.co 1 + f.co 1 * g.co 0 = f.co 1 * g.co 0 + f.co 0 * g.co 1
    grind
  | succ k ih =>
    rw [mulC_s, ih, mulC_s]
    show f.co 0 * g.co (k + 2) + (f.co (k + 2) * g.co 0 + _) = f.co (k + 2) * g.co 0 + (f.co 0 * g.co (k + 2) + _)
    grind
theorem mulC_comm (k : Nat) (f g : PS) : mulC k f g = mulC k g f := by
  induction k generalizing f g with
  | zero => rw [mulC_0, mulC_0]; grind
  | succ k ih => rw [mulC_s, mulC_r, ih]; grind
theorem tl_mul (f g : PS) : (f * g).tl = C (f.co 0) * g.tl + f.tl * g := by
  apply ext
  intro k
  show mulC (k + 1) f g = mulC k (C (f.co 0)) g.tl + mulC k f.tl g
  rw [mulC_s, mulC_C]
  rfl
theorem mulC_assoc (k : Nat) (f g h : PS) : mulC k (f * g) h = mulC k f (g * h) := by
  induction k generalizing f g h with
  | zero => rw [mulC_0, mulC_0, mul_co, mul_co, mulC_0, mulC_0]; grind
  | succ k ih =>
    rw [mulC_s, mulC_s, tl_mul, mulC_addL, ih, ih, mulC_C, mul_co, mul_co, mulC_0]
    show f.co 0 * g.co 0 * h.co (k + 1) + (f.co 0 * mulC k g.tl h + mulC k f.tl (g * h)) = f.co 0 * mulC (k + 1) g h + mulC k f.tl (g * h)
    rw [mulC_s]
    grind
theorem C_add (a b : Rat) : C (a + b) = C a + C b := by
  apply ext
  intro k
  rw [add_co]
  cases k with
  | zero => rfl
  | succ k => rw [C_coS, C_coS, C_coS]; grind
theorem C_neg (a : Rat) : C (-a) = -C a := by
  apply ext
  intro k
  rw [neg_co]
  cases k with
  | zero => rfl
  | succ k => rw [C_coS, C_coS]; grind
theorem mul_comm' (f g : PS) : f * g = g * f := ext fun k => mulC_comm k f g
theorem mul_assoc' (f g h : PS) : f * g * h = f * (g * h) := ext fun k => mulC_assoc k f g h
theorem C_co_mul (r : Rat) (f : PS) (k : Nat) : (C r * f).co k = r * f.co k := mulC_C r f k
theorem one_mul' (f : PS) : 1 * f = f := ext fun k => by rw [one_eq, C_co_mul]; grind
theorem zero_mul' (f : PS) : 0 * f = 0 := ext fun k => by rw [mul_co, mulC_z f 0 (fun k => zero_co k), zero_co]
theorem ldis (f g h : PS) : f * (g + h) = f * g + f * h := ext fun k => mulC_addR k f g h
instance : Lean.Grind.CommRing PS where
  add_zero f := ext fun k => by rw [add_co, zero_co]; grind
  add_comm f g := ext fun k => by rw [add_co, add_co]; grind
  add_assoc f g h := ext fun k => by rw [add_co, add_co, add_co, add_co]; grind
  mul_assoc := mul_assoc'
  mul_one f := by rw [mul_comm', one_mul']
  one_mul := one_mul'
  left_distrib := ldis
  right_distrib f g h := by rw [mul_comm', ldis, mul_comm' h, mul_comm' h]
  zero_mul := zero_mul'
  mul_zero f := by rw [mul_comm', zero_mul']
  pow_zero f := rfl
  pow_succ f n := rfl
  ofNat_succ a := by
    show C ((a + 1 : Nat) : Rat) = C (a : Nat) + C 1
    rw [← C_add]
    rw [Rat.natCast_add]; rfl
  ofNat_eq_natCast n := rfl
  nsmul_eq_natCast_mul n f := rfl
  neg_add_cancel f := ext fun k => by rw [add_co, neg_co, zero_co]; grind
  sub_eq_add_neg f g := ext fun k => by rw [sub_co, add_co, neg_co]; grind
  neg_zsmul i f := by
    show C ((-i : Int) : Rat) * f = -(C (i : Rat) * f)
    apply ext
    intro k
    rw [neg_co, C_co_mul, C_co_mul, Rat.intCast_neg]
    grind
  zsmul_natCast_eq_nsmul n f := rfl
  intCast_ofNat n := rfl
  intCast_neg i := by
    show C ((-i : Int) : Rat) = -C (i : Rat)
    rw [Rat.intCast_neg, C_neg]
  mul_comm := mul_comm'
def X : PS := ⟨fun k => if k = 1 then 1 else 0⟩
/-- the slope -/
def dd (f : PS) : PS := ⟨fun k => ((k + 1 : Nat) : Rat) * f.co (k + 1)⟩
end PS
open PS
def ps (xs : List Rat) : PS := ⟨fun k => xs.getD k 0⟩
def cutQ (xs : List Rat) : List Rat := (xs.reverse.dropWhile fun p => p = 0).reverse
theorem cutQ_mem {xs : List Rat} {p : Rat} (h : p ∈ cutQ xs) : p ∈ xs := by
  unfold cutQ at h
  have := (List.dropWhile_suffix _).subset (List.mem_reverse.mp h)
  exact List.mem_reverse.mp this
def Sz (M B : Nat) (q : Rat) : Prop := ∃ N : Int, q * (M : Nat) = N ∧ N.natAbs ≤ B
theorem Sz.mono {M B B' : Nat} {q : Rat} (h : Sz M B q) (k : B ≤ B') : Sz M B' q := by
  obtain ⟨N, h1, h2⟩ := h
  exact ⟨N, h1, Nat.le_trans h2 k⟩
theorem Sz.zero {M B : Nat} : Sz M B 0 := ⟨0, by grind, Nat.zero_le _⟩
theorem Sz.add {M B B' : Nat} {p q : Rat} (h : Sz M B p) (k : Sz M B' q) : Sz M (B + B') (p + q) := by
  obtain ⟨N, h1, h2⟩ := h
  obtain ⟨N', k1, k2⟩ := k
  refine ⟨N + N', ?_, by omega⟩
  rw [Rat.intCast_add]
  grind
theorem Sz.ext {M B : Nat} {p : Rat} (h : Sz M B p) (k : Nat) : Sz (M * k) (B * k) p := by
  obtain ⟨N, h1, h2⟩ := h
  refine ⟨N * k, ?_, ?_⟩
  · rw [Rat.intCast_mul, Rat.natCast_mul, Rat.intCast_natCast]
    grind
  · rw [Int.natAbs_mul]
    exact Nat.mul_le_mul h2 (Nat.le_of_eq (Int.natAbs_natCast k))
theorem num_den (q : Rat) : q * (q.den : Nat) = q.num := by
  have h := Rat.mkRat_self q
  rw [Rat.mkRat_eq_div] at h
  have hd : ((q.den : Nat) : Rat) ≠ 0 := by
    intro z
    exact q.den_nz (Rat.natCast_inj.mp z)
  conv => lhs; lhs; rw [← h]
  grind
theorem Sz.self (q : Rat) : Sz q.den q.num.natAbs q := ⟨q.num, num_den q, Nat.le_refl _⟩
theorem Sz.le {M B : Nat} {q : Rat} (hM : 0 < M) (h : Sz M B q) : q.den ≤ M ∧ q.num.natAbs ≤ B := by
  obtain ⟨N, h1, h2⟩ := h
  have e : q.num * (M : Int) = N * (q.den : Int) := by
    have := num_den q
    apply Rat.intCast_inj.mp
    rw [Rat.intCast_mul, Rat.intCast_mul, Rat.intCast_natCast, Rat.intCast_natCast]
    grind
  have e2 : q.num.natAbs * M = N.natAbs * q.den := by
    have := congrArg Int.natAbs e
    rw [Int.natAbs_mul, Int.natAbs_mul, Int.natAbs_natCast, Int.natAbs_natCast] at this
    exact this
  have d : q.den ∣ M := (Nat.Coprime.symm q.reduced).dvd_of_dvd_mul_left ⟨N.natAbs, by rw [e2, Nat.mul_comm]⟩
  refine ⟨Nat.le_of_dvd hM d, ?_⟩
  obtain ⟨c, rfl⟩ := d
  have hd := Nat.pos_of_ne_zero q.den_nz
  have e3 : q.num.natAbs * c = N.natAbs := by
    apply Nat.eq_of_mul_eq_mul_right hd
    rw [← e2, Nat.mul_assoc, Nat.mul_comm c]
  have hc : 0 < c := Nat.pos_of_ne_zero fun z => by subst z; simp at hM
  calc q.num.natAbs ≤ q.num.natAbs * c := Nat.le_mul_of_pos_right _ hc
    _ ≤ B := by rw [e3]; exact h2
/-- a list with a common bottom -/
def SzL (M B : Nat) (xs : List Rat) : Prop := ∀ q, q ∈ xs → Sz M B q
theorem SzL.getD {M B : Nat} {xs : List Rat} (h : SzL M B xs) (k : Nat) : Sz M B (xs.getD k 0) := by
  rw [List.getD_eq_getElem?_getD]
  cases e : xs[k]? with
  | none => exact Sz.zero
  | some p => exact h p (List.mem_of_getElem? e)
theorem SzL.cut {M B : Nat} {xs : List Rat} (h : SzL M B xs) : SzL M B (cutQ xs) := fun p hp => h p (cutQ_mem hp)
theorem SzL.mono {M B B' : Nat} {xs : List Rat} (h : SzL M B xs) (k : B ≤ B') : SzL M B' xs := fun p hp => (h p hp).mono k
theorem SzL.ext {M B : Nat} {xs : List Rat} (h : SzL M B xs) (k : Nat) : SzL (M * k) (B * k) xs := fun p hp => (h p hp).ext k
/-- the common bottom of a drawn list -/
theorem SzL.drawn (n : Nat) : ∀ xs : List Rat, (∀ q, q ∈ xs → q.num.natAbs < 2 ^ n ∧ q.den < 2 ^ n) → ∃ M, 0 < M ∧ M ≤ 2 ^ (n * xs.length) ∧ SzL M (2 ^ n * M) xs
  | [], _ => ⟨1, by decide, Nat.one_le_two_pow, fun q h => nomatch h⟩
  | x :: xs, h => by
    obtain ⟨M, h1, h2, h3⟩ := SzL.drawn n xs fun q hq => h q (List.mem_cons_of_mem _ hq)
    obtain ⟨hx1, hx2⟩ := h x List.mem_cons_self
    have hd := Nat.pos_of_ne_zero x.den_nz
    refine ⟨M * x.den, Nat.mul_pos h1 hd, ?_, fun q hq => ?_⟩
    · rw [List.length_cons, Nat.mul_succ, Nat.pow_add]
      exact Nat.mul_le_mul h2 (Nat.le_of_lt hx2)
    · rcases List.mem_cons.mp hq with rfl | hq
      · have := (Sz.self q).ext M
        rw [Nat.mul_comm M q.den]
        refine this.mono ?_
        calc q.num.natAbs * M ≤ 2 ^ n * M := Nat.mul_le_mul_right _ (Nat.le_of_lt hx1)
          _ ≤ 2 ^ n * (q.den * M) := Nat.mul_le_mul_left _ (Nat.le_mul_of_pos_left M hd)
      · have := (h3 q hq).ext x.den
        rw [Nat.mul_assoc] at this
        exact this
end Dv
namespace Lw
open PySem L2 Dv
def kc_law_alone : Nat → Bool
  | 8 => true
  | _ => false
def bk__law_alone_NoText (a : Addr) : SFn :=
  (fSeq (fAsg (fLst (fCons (fIsE 0 a false) (fCons (fIsE 0 a false) (fCons (fIsE 0 a false) (fCons (fIsE 0 a false) fNil))))) (gfName 1))
  (fSeq (fAsg (f2 gAdd (fVar 1) (fLst (fCons (fIsE 0 a false) (fCons (fIsE 0 a false) (fCons (fIsE 0 a false) (fCons (fIsE 0 a false) fNil)))))) (gfName 1))
  (fSeq (fAsg (f2 gAdd (fVar 1) (fLst (fCons (fIsE 0 a true) (fCons (fIsE 0 a false) fNil)))) (gfName 1))
  (fRet (fAndV (f2 gEq (fM1 gCount 1 (fC (.bl true))) (fC (.int 1))) (fAndV (fIsE 0 a true) (fIsE 0 a true)))))))
def b_is_whole : SFn :=
  (fRet (fAndV (fIsi "int" (fVar 0)) (fNotV (fIsi "bool" (fVar 0)))))
def ev_is_whole : FF := fDef 0 [false] b_is_whole
def b_divisor : SFn :=
  (fSeq (fPar 0 1 (fCons (fB gAbs (fCons (fVar 0) fNil)) (fCons (fB gAbs (fCons (fVar 1) fNil)) fNil)))
  (fSeq (fWhile fuelE (fT (f2 gGt (fVar 1) (fC (.int 0))))
  (fPar 0 1 (fCons (fVar 1) (fCons (f2 gMod (fVar 0) (fVar 1)) fNil))))
  (fRet (fVar 0))))
def ev_divisor : FF := fDef 0 [false, false] b_divisor
def b_is_ratio : SFn :=
  (fSeq (fIf (fOr (fNot (fT (fIsi "tuple" (fVar 0)))) (fOr (fT (f2 gNe (fB gLen (fCons (fVar 0) fNil)) (fC (.int 2)))) (fOr (fNot (fT (fCall [false] ev_is_whole (fCons (f2 gIx (fVar 0) (fC (.int 0))) fNil)))) (fNot (fT (fCall [false] ev_is_whole (fCons (f2 gIx (fVar 0) (fC (.int 1))) fNil)))))))
  (fRet (fC (.bl false)))
  fNext)
  (fRet (fAndV (f2 gGt (f2 gIx (fVar 0) (fC (.int 1))) (fC (.int 0))) (f2 gEq (fCall [false, false] ev_divisor (fCons (f2 gIx (fVar 0) (fC (.int 0))) (fCons (f2 gIx (fVar 0) (fC (.int 1))) fNil))) (fC (.int 1))))))
def ev_is_ratio : FF := fDef 0 [false] b_is_ratio
def b_is_term : SFn :=
  (fSeq (fIf (fOr (fNot (fT (fIsi "tuple" (fVar 0)))) (fOr (fT (f2 gNe (fB gLen (fCons (fVar 0) fNil)) (fC (.int 3)))) (fOr (fNot (fT (fCall [false] ev_is_whole (fCons (f2 gIx (fVar 0) (fC (.int 0))) fNil)))) (fNot (fT (fCall [false] ev_is_whole (fCons (f2 gIx (fVar 0) (fC (.int 1))) fNil)))))))
  (fRet (fC (.bl false)))
  fNext)
  (fRet (fAndV (fCall [false] ev_is_ratio (fCons (f2 gIx (fVar 0) (fC (.int 2))) fNil)) (f2 gNe (f2 gIx (fVar 0) (fC (.int 2))) (fC (.tup [(.int 0), (.int 1)]))))))
def ev_is_term : FF := fDef 0 [false] b_is_term
def b_is_sum : SFn :=
  (fSeq (fIf (fOr (fNot (fT (fIsi "list" (fVar 0)))) (fNot (fT (fB gAll (fCons (fLc (fIterL (fVar 0)) (gfName 1) fYes (fCall [false] ev_is_term (fCons (fVar 1) fNil)) [1]) fNil)))))
  (fRet (fC (.bl false)))
  fNext)
  (fRet (fB gAll (fCons (fLc (fRange1 (fCons (f2 gSub (fB gLen (fCons (fVar 0) fNil)) (fC (.int 1))) fNil)) (gfName 2) fYes (f2 gLtP (fSl gSlT (f2 gIx (fVar 0) (fVar 2)) fNoP (fPt (fC (.int 2)))) (fSl gSlT (f2 gIx (fVar 0) (f2 gAdd (fVar 2) (fC (.int 1)))) fNoP (fPt (fC (.int 2))))) [2]) fNil))))
def ev_is_sum : FF := fDef 2 [false] b_is_sum
def b_read_figures : SFn :=
  (fSeq (fIf (fOr (fNot (fT (fChn (fC (.int 1)) (fB gLenS (fCons (fVar 0) fNil)) (fVar 1)))) (fAnd (fT (f2 gEqS (f2 gIx (fVar 0) (fC (.int 0))) (fC (.str "0")))) (fT (f2 gGt (fB gLenS (fCons (fVar 0) fNil)) (fC (.int 1))))))
  fNever
  fNext)
  (fSeq (fFor (fIterS (fVar 0)) (gfName 2)
  (fIf (fT (f2 (gInSig true) (fVar 2) (fC (.str "0123456789"))))
  fNever
  fNext))
  (fRet (fB gIntS (fCons (fVar 0) fNil)))))
def ev_read_figures : FF := fDef 1 [false, false] b_read_figures
def bx_read_figures : SFn :=
  (fSeq (fIf (fOr (fNot (fT (fChn (fC (.int 1)) (fB gLenS (fCons (fVar 0) fNil)) (fVar 1)))) (fAnd (fT (f2 gEqS (f2 gIx (fVar 0) (fC (.int 0))) (fC (.str "0")))) (fT (f2 gGt (fB gLenS (fCons (fVar 0) fNil)) (fC (.int 1))))))
  (fRaise 8)
  fNext)
  (fSeq (fFor (fIterS (fVar 0)) (gfName 2)
  (fIf (fT (f2 (gInSig true) (fVar 2) (fC (.str "0123456789"))))
  (fRaise 8)
  fNext))
  (fRet (fB gIntS (fCons (fVar 0) fNil)))))
def evx_read_figures : FX := fDefX 1 [false, false] bx_read_figures
def b_read_whole : SFn :=
  (fSeq (fIf (fT (f2 gNeS (fSl gSlS (fVar 0) fNoP (fPt (fC (.int 1)))) (fC (.str "-"))))
  (fRet (fCall [false, false] ev_read_figures (fCons (fVar 0) (fCons (fVar 1) fNil))))
  fNext)
  (fSeq (fIf (fT (f2 gEqS (fVar 0) (fC (.str "-0"))))
  fNever
  fNext)
  (fRet (f2 gSub (fC (.int 0)) (fCall [false, false] ev_read_figures (fCons (fSl gSlS (fVar 0) (fPt (fC (.int 1))) fNoP) (fCons (fVar 1) fNil)))))))
def ev_read_whole : FF := fDef 0 [false, false] b_read_whole
def bx_read_whole : SFn :=
  (fSeq (fIf (fT (f2 gNeS (fSl gSlS (fVar 0) fNoP (fPt (fC (.int 1)))) (fC (.str "-"))))
  (fRet (fCallX [false, false] evx_read_figures (fCons (fVar 0) (fCons (fVar 1) fNil))))
  fNext)
  (fSeq (fIf (fT (f2 gEqS (fVar 0) (fC (.str "-0"))))
  (fRaise 8)
  fNext)
  (fRet (f2R gSub (fC (.int 0)) (fCallX [false, false] evx_read_figures (fCons (fSl gSlS (fVar 0) (fPt (fC (.int 1))) fNoP) (fCons (fVar 1) fNil)))))))
def evx_read_whole : FX := fDefX 0 [false, false] bx_read_whole
def b_read_power : SFn :=
  (fSeq (fAsg (fCall [false, false] ev_read_whole (fCons (fVar 0) (fCons (fC (.int 1)) fNil))) (gfName 1))
  (fSeq (fIf (fNot (fT (fChn (f2 gSub (fC (.int 0)) (fC (.int 6))) (fVar 1) (fC (.int 6)))))
  fNever
  fNext)
  (fRet (fVar 1))))
def ev_read_power : FF := fDef 1 [false] b_read_power
def bx_read_power : SFn :=
  (fSeq (fAsgX (fCallX [false, false] evx_read_whole (fCons (fVar 0) (fCons (fC (.int 1)) fNil))) (gfName 1))
  (fSeq (fIf (fNot (fT (fChn (f2 gSub (fC (.int 0)) (fC (.int 6))) (fVar 1) (fC (.int 6)))))
  (fRaise 8)
  fNext)
  (fRet (fVar 1))))
def evx_read_power : FX := fDefX 1 [false] bx_read_power
def b_read_ratio : SFn :=
  (fSeq (fAsg (fS1 gPart (fVar 0) (fC (.str "/"))) (gfTup 3 (gfCons (gfName 1) (gfCons (gfName 2) (gfCons (gfName 3) gfNil)))))
  (fSeq (fIf (fT (f2 gEqS (fVar 2) (fC (.str ""))))
  (fRet (fTup (fCons (fCall [false, false] ev_read_whole (fCons (fVar 1) (fCons (fC (.int 6)) fNil))) (fCons (fC (.int 1)) fNil))))
  fNext)
  (fSeq (fAsg (fTup (fCons (fCall [false, false] ev_read_whole (fCons (fVar 1) (fCons (fC (.int 6)) fNil))) (fCons (fCall [false, false] ev_read_figures (fCons (fVar 3) (fCons (fC (.int 6)) fNil))) fNil))) (gfName 4))
  (fSeq (fIf (fT (f2 gEq (f2 gIx (fVar 4) (fC (.int 1))) (fC (.int 1))))
  fNever
  fNext)
  (fRet (fVar 4))))))
def ev_read_ratio : FF := fDef 4 [false] b_read_ratio
def bx_read_ratio : SFn :=
  (fSeq (fAsg (fS1 gPart (fVar 0) (fC (.str "/"))) (gfTup 3 (gfCons (gfName 1) (gfCons (gfName 2) (gfCons (gfName 3) gfNil)))))
  (fSeq (fIf (fT (f2 gEqS (fVar 2) (fC (.str ""))))
  (fRet (fTupX (fConsX (fCallX [false, false] evx_read_whole (fCons (fVar 1) (fCons (fC (.int 6)) fNil))) (fConsP (fC (.int 1)) fNilA))))
  fNext)
  (fSeq (fAsgX (fTupX (fConsX (fCallX [false, false] evx_read_whole (fCons (fVar 1) (fCons (fC (.int 6)) fNil))) (fConsX (fCallX [false, false] evx_read_figures (fCons (fVar 3) (fCons (fC (.int 6)) fNil))) fNilA))) (gfName 4))
  (fSeq (fIf (fT (f2 gEq (f2 gIx (fVar 4) (fC (.int 1))) (fC (.int 1))))
  (fRaise 8)
  fNext)
  (fRet (fVar 4))))))
def evx_read_ratio : FX := fDefX 4 [false] bx_read_ratio
def b_read_term : SFn :=
  (fSeq (fAsg (fS1 gSplit (fVar 0) (fC (.str ":"))) (gfName 1))
  (fSeq (fIf (fT (f2 gNe (fB gLen (fCons (fVar 1) fNil)) (fC (.int 3))))
  fNever
  fNext)
  (fRet (fTup (fCons (fCall [false] ev_read_power (fCons (f2 gIx (fVar 1) (fC (.int 1))) fNil)) (fCons (fCall [false] ev_read_power (fCons (f2 gIx (fVar 1) (fC (.int 2))) fNil)) (fCons (fCall [false] ev_read_ratio (fCons (f2 gIx (fVar 1) (fC (.int 0))) fNil)) fNil)))))))
def ev_read_term : FF := fDef 1 [false] b_read_term
def bx_read_term : SFn :=
  (fSeq (fAsg (fS1 gSplit (fVar 0) (fC (.str ":"))) (gfName 1))
  (fSeq (fIf (fT (f2 gNe (fB gLen (fCons (fVar 1) fNil)) (fC (.int 3))))
  (fRaise 8)
  fNext)
  (fRet (fTupX (fConsX (fCallX [false] evx_read_power (fCons (f2 gIx (fVar 1) (fC (.int 1))) fNil)) (fConsX (fCallX [false] evx_read_power (fCons (f2 gIx (fVar 1) (fC (.int 2))) fNil)) (fConsX (fCallX [false] evx_read_ratio (fCons (f2 gIx (fVar 1) (fC (.int 0))) fNil)) fNilA)))))))
def evx_read_term : FX := fDefX 1 [false] bx_read_term
def b_read : SFn :=
  (fSeq (fIf (fNot (fT (fIsi "str" (fVar 0))))
  fNever
  fNext)
  (fSeq (fIf (fT (f2 gEqS (fVar 0) (fC (.str "none"))))
  (fRet (fLst fNil))
  fNext)
  (fSeq (fAsg (fLc (fIterL (fS1 gSplit (fVar 0) (fC (.str " ")))) (gfName 2) fYes (fCall [false] ev_read_term (fCons (fVar 2) fNil)) [2]) (gfName 1))
  (fSeq (fIf (fOr (fT (f2 gGt (fB gLen (fCons (fVar 1) fNil)) (fC (.int 9)))) (fNot (fT (fCall [false] ev_is_sum (fCons (fVar 1) fNil)))))
  fNever
  fNext)
  (fRet (fVar 1))))))
def bx_read : SFn :=
  (fSeq (fIf (fNot (fT (fIsi "str" (fVar 0))))
  (fRaise 8)
  fNext)
  (fSeq (fIf (fT (f2 gEqS (fVar 0) (fC (.str "none"))))
  (fRet (fLst fNil))
  fNext)
  (fSeq (fAsgX (fLcX (fIterL (fS1 gSplit (fVar 0) (fC (.str " ")))) (gfName 2) fYes (fCallX [false] evx_read_term (fCons (fVar 2) fNil)) [2]) (gfName 1))
  (fSeq (fIf (fOr (fT (f2 gGt (fB gLen (fCons (fVar 1) fNil)) (fC (.int 9)))) (fNot (fT (fCall [false] ev_is_sum (fCons (fVar 1) fNil)))))
  (fRaise 8)
  fNext)
  (fRet (fVar 1))))))
def evx_read : FX := fDefX 2 [false] bx_read
def b__law_purse : SFn :=
  (fSeq (fAsg (fC (.int 0)) (gfName 2))
  (fCut (fSeq (fIf (fT (f2 gLt (fVar 1) (fB gLen (fCons (fVar 0) fNil))))
  (fAsg (f2 gIx (fVar 0) (fVar 1)) (gfName 2))
  fNext)
  (fSeq (fAsg (fB gAbs (fCons (fVar 2) fNil)) (gfName 3))
  (fRet (fLst (fCons (f2 gMul (fVar 3) (fB gInt (fCons (f2 gGe (fVar 3) (f2 gPow (fC (.int 10)) (fC (.int 18)))) fNil))) (fCons (f2 gMod (f2 gAdd (f2 gAdd (f2 gMod (fVar 2) (fC (.int 2147483647))) (f2 gMul (fC (.int 7919)) (fVar 1))) (fC (.int 17))) (fC (.int 2147483647))) (fCons (fC (.int 0)) fNil)))))))))
def ev__law_purse : FF := fDef 2 [false, false] b__law_purse
def b__law_take : SFn :=
  (fSeq (fIf (fT (f2 gGt (f2 gIx (fVar 0) (fC (.int 0))) (fC (.int 0))))
  (fSeq (fAsg (f2 gMod (f2 gIx (fVar 0) (fC (.int 0))) (fVar 1)) (gfName 2))
  (fSeq (fSetI 0 (fC (.int 0)) (f2 gDiv (f2 gIx (fVar 0) (fC (.int 0))) (fVar 1)))
  (fRet (fVar 2))))
  fNext)
  (fSeq (fSetI 0 (fC (.int 2)) (f2 gAdd (f2 gIx (fVar 0) (fC (.int 2))) (fC (.int 1))))
  (fSeq (fAsg (f2 gIx (fVar 0) (fC (.int 2))) (gfName 3))
  (fSeq (fAsg (f2 gMod (f2 gPow (f2 gAdd (f2 gAdd (f2 gIx (fVar 0) (fC (.int 1))) (f2 gMul (f2 gMul (fC (.int 48271)) (fVar 3)) (fVar 3))) (fC (.int 1))) (fC (.int 5))) (fC (.int 2147483647))) (gfName 4))
  (fSeq (fAsg (f2 gMod (f2 gPow (f2 gAdd (f2 gMul (fVar 4) (f2 gAdd (f2 gMul (fC (.int 2)) (fVar 3)) (fC (.int 30011)))) (fVar 3)) (fC (.int 3))) (fC (.int 998244353))) (gfName 5))
  (fRet (f2 gMod (f2 gDiv (f2 gAdd (f2 gMul (fVar 4) (fC (.int 998244353))) (fVar 5)) (fC (.int 1009))) (fVar 1))))))))
def ev__law_take : FF := fDef 4 [true, false] b__law_take
def b__law_share : SFn :=
  (fSeq (fPar 0 1 (fCons (fB gAbs (fCons (fVar 0) fNil)) (fCons (fB gAbs (fCons (fVar 1) fNil)) fNil)))
  (fSeq (fWhile fuelE (fT (f2 gGt (fVar 1) (fC (.int 0))))
  (fPar 0 1 (fCons (fVar 1) (fCons (f2 gMod (fVar 0) (fVar 1)) fNil))))
  (fRet (fVar 0))))
def ev__law_share : FF := fDef 0 [false, false] b__law_share
def b__law_ratio : SFn :=
  (fSeq (fAsg (f2 gIx (fLst (fCons (fC (.int 3)) (fCons (fC (.int 9)) (fCons (fC (.int 9)) (fCons (fC (.int 999999)) fNil))))) (fCall [true, false] ev__law_take (fCons (fVar 0) (fCons (fC (.int 4)) fNil)))) (gfName 1))
  (fSeq (fAsg (f2 gAdd (fC (.int 1)) (fCall [true, false] ev__law_take (fCons (fVar 0) (fCons (fVar 1) fNil)))) (gfName 2))
  (fSeq (fAsg (f2 gAdd (fC (.int 1)) (fCall [true, false] ev__law_take (fCons (fVar 0) (fCons (f2 gIx (fLst (fCons (fC (.int 1)) (fCons (fC (.int 3)) (fCons (fVar 1) fNil)))) (fCall [true, false] ev__law_take (fCons (fVar 0) (fCons (fC (.int 3)) fNil)))) fNil)))) (gfName 3))
  (fSeq (fAsg (fCall [false, false] ev__law_share (fCons (fVar 2) (fCons (fVar 3) fNil))) (gfName 4))
  (fRet (fTup (fCons (f2 gDiv (f2 gIx (fLst (fCons (fVar 2) (fCons (f2 gSub (fC (.int 0)) (fVar 2)) fNil))) (fCall [true, false] ev__law_take (fCons (fVar 0) (fCons (fC (.int 2)) fNil)))) (fVar 4)) (fCons (f2 gDiv (fVar 3) (fVar 4)) fNil))))))))
def ev__law_ratio : FF := fDef 4 [true] b__law_ratio
def b__law_sum : SFn :=
  (fSeq (fAsg (fCall [true, false] ev__law_take (fCons (fVar 0) (fCons (fC (.int 6)) fNil))) (gfName 1))
  (fSeq (fAsg (f2 gIx (fLst (fCons (fC (.int 1)) (fCons (fC (.int 2)) (fCons (fC (.int 3)) (fCons (fC (.int 6)) fNil))))) (fCall [true, false] ev__law_take (fCons (fVar 0) (fCons (fC (.int 4)) fNil)))) (gfName 2))
  (fSeq (fAsg (fTup (fCons (f2 gSub (fCall [true, false] ev__law_take (fCons (fVar 0) (fCons (fC (.int 3)) fNil))) (fC (.int 1))) (fCons (f2 gSub (fCall [true, false] ev__law_take (fCons (fVar 0) (fCons (fC (.int 3)) fNil))) (fC (.int 1))) fNil))) (gfName 3))
  (fSeq (fDNew 4)
  (fSeq (fFor (fRange1 (fCons (f2 gAdd (fC (.int 1)) (fCall [true, false] ev__law_take (fCons (fVar 0) (fCons (fC (.int 9)) fNil)))) fNil)) (gfName 5)
  (fSeq (fAsg (fTupN (fCons (f2 gSub (fCall [true, false] ev__law_take (fCons (fVar 0) (fCons (f2 gAdd (f2 gMul (fC (.int 2)) (fVar 2)) (fC (.int 1))) fNil))) (fVar 2)) (fCons (f2 gSub (fCall [true, false] ev__law_take (fCons (fVar 0) (fCons (f2 gAdd (f2 gMul (fC (.int 2)) (fVar 2)) (fC (.int 1))) fNil))) (fVar 2)) fNil))) (gfName 6))
  (fCut (fSeq (fIf (fT (f2 gEq (fVar 1) (fC (.int 0))))
  (fSeq (fAsg (f2 gSub (fCall [true, false] ev__law_take (fCons (fVar 0) (fCons (fC (.int 13)) fNil))) (fC (.int 6))) (gfName 7))
  (fAsg (fTupN (fCons (f2 gMul (fVar 7) (f2 gIx (fVar 3) (fC (.int 0)))) (fCons (f2 gMul (fVar 7) (f2 gIx (fVar 3) (fC (.int 1)))) fNil))) (gfName 6)))
  fNext)
  (fDPut 4 (fVar 6) (fCall [true] ev__law_ratio (fCons (fVar 0) fNil)))))))
  (fRet (fLc (fIterL (fDSort 4)) (gfTup 2 (gfCons (gfName 8) (gfCons (gfName 9) gfNil))) fYes (fTup (fCons (fVar 8) (fCons (fVar 9) (fCons (fDIx 4 (fTupN (fCons (fVar 8) (fCons (fVar 9) fNil)))) fNil)))) [8, 9])))))))
def ev__law_sum : FF := fDef 9 [true] b__law_sum
def b__law_number_text : SFn :=
  (fSeq (fIf (fT (f2 gEq (f2 gIx (fVar 0) (fC (.int 1))) (fC (.int 1))))
  (fRet (fB gStr (fCons (f2 gIx (fVar 0) (fC (.int 0))) fNil)))
  fNext)
  (fRet (f2 gAddS (f2 gAddS (fB gStr (fCons (f2 gIx (fVar 0) (fC (.int 0))) fNil)) (fC (.str "/"))) (fB gStr (fCons (f2 gIx (fVar 0) (fC (.int 1))) fNil)))))
def ev__law_number_text : FF := fDef 0 [false] b__law_number_text
def b__law_text : SFn :=
  (fSeq (fIf (fT (f2 gEq (fVar 0) (fLst fNil)))
  (fRet (fC (.str "none")))
  fNext)
  (fRet (fS1 gJoin (fC (.str " ")) (fLc (fIterL (fVar 0)) (gfTup 3 (gfCons (gfName 1) (gfCons (gfName 2) (gfCons (gfName 3) gfNil)))) fYes (f2 gAddS (f2 gAddS (f2 gAddS (f2 gAddS (fCall [false] ev__law_number_text (fCons (fVar 3) fNil)) (fC (.str ":"))) (fB gStr (fCons (fVar 1) fNil))) (fC (.str ":"))) (fB gStr (fCons (fVar 2) fNil))) [1, 2, 3]))))
def ev__law_text : FF := fDef 3 [false] b__law_text
def b__law_whole_of : SFn :=
  (fSeq (fAsg (fVar 0) (gfName 2))
  (fCut (fSeq (fIf (fT (f2 gEqS (fSl gSlS (fVar 0) fNoP (fPt (fC (.int 1)))) (fC (.str "-"))))
  (fAsg (fSl gSlS (fVar 0) (fPt (fC (.int 1))) fNoP) (gfName 2))
  fNext)
  (fSeq (fIf (fOr (fT (f2 gEqS (fVar 2) (fC (.str "")))) (fOr (fT (f2 gGt (fB gLenS (fCons (fVar 2) fNil)) (fC (.int 6)))) (fT (f2 gNe (fLc (fIterS (fVar 2)) (gfName 3) (fT (f2 (gInSig true) (fVar 3) (fC (.str "0123456789")))) (fVar 3) [3]) (fLst fNil)))))
  (fRet (fC .non))
  fNext)
  (fSeq (fIf (fOr (fAnd (fT (f2 gEqS (f2 gIx (fVar 2) (fC (.int 0))) (fC (.str "0")))) (fT (f2 gNeS (fVar 0) (fC (.str "0"))))) (fT (f2 gGt (fB gIntS (fCons (fVar 2) fNil)) (fVar 1))))
  (fRet (fC .non))
  fNext)
  (fRet (fB gIntS (fCons (fVar 0) fNil))))))))
def ev__law_whole_of : FF := fDef 2 [false, false] b__law_whole_of
def b__law_number_of : SFn :=
  (fSeq (fAsg (fS1 gPart (fVar 0) (fC (.str "/"))) (gfTup 3 (gfCons (gfName 1) (gfCons (gfName 2) (gfCons (gfName 3) gfNil)))))
  (fSeq (fAsg (fTup (fCons (fCall [false, false] ev__law_whole_of (fCons (fVar 1) (fCons (fC (.int 999999)) fNil))) (fCons (fC (.int 1)) fNil))) (gfName 4))
  (fCut (fSeq (fIf (fT (f2 gEqS (fVar 2) (fC (.str "/"))))
  (fAsg (fTup (fCons (f2 gIx (fVar 4) (fC (.int 0))) (fCons (fCall [false, false] ev__law_whole_of (fCons (fVar 3) (fCons (fC (.int 999999)) fNil))) fNil))) (gfName 4))
  fNext)
  (fSeq (fIf (fOr (fT (f2 (gInTD false) (fC .non) (fVar 4))) (fOr (fT (f2 gEq (f2 gIx (fVar 4) (fC (.int 0))) (fC (.int 0)))) (fOr (fT (f2 gLt (f2 gIx (fVar 4) (fC (.int 1))) (fC (.int 1)))) (fAnd (fT (f2 gEqS (fVar 2) (fC (.str "/")))) (fT (f2 gEq (f2 gIx (fVar 4) (fC (.int 1))) (fC (.int 1))))))))
  (fRet (fC .non))
  fNext)
  (fSeq (fIf (fT (f2 gNe (fCall [false, false] ev__law_share (fCons (f2 gIx (fVar 4) (fC (.int 0))) (fCons (f2 gIx (fVar 4) (fC (.int 1))) fNil))) (fC (.int 1))))
  (fRet (fC .non))
  fNext)
  (fRet (fVar 4))))))))
def ev__law_number_of : FF := fDef 4 [false] b__law_number_of
def b__law_read : SFn :=
  (fSeq (fIf (fT (f2 gEqS (fVar 0) (fC (.str "none"))))
  (fRet (fLst fNil))
  fNext)
  (fSeq (fOwn 1 (fLst fNil))
  (fSeq (fFor (fIterL (fS1 gSplit (fVar 0) (fC (.str " ")))) (gfName 2)
  (fSeq (fAsg (fS1 gSplit (fVar 2) (fC (.str ":"))) (gfName 3))
  (fSeq (fIf (fT (f2 gNe (fB gLen (fCons (fVar 3) fNil)) (fC (.int 3))))
  (fRet (fC .non))
  fNext)
  (fSeq (fAsg (fCall [false] ev__law_number_of (fCons (f2 gIx (fVar 3) (fC (.int 0))) fNil)) (gfName 4))
  (fSeq (fAsg (fCall [false, false] ev__law_whole_of (fCons (f2 gIx (fVar 3) (fC (.int 1))) (fCons (fC (.int 6)) fNil))) (gfName 5))
  (fSeq (fAsg (fCall [false, false] ev__law_whole_of (fCons (f2 gIx (fVar 3) (fC (.int 2))) (fCons (fC (.int 6)) fNil))) (gfName 6))
  (fSeq (fIf (fOr (fT (f2 gIs (fVar 4) (fC .non))) (fOr (fT (f2 gIs (fVar 5) (fC .non))) (fT (f2 gIs (fVar 6) (fC .non)))))
  (fRet (fC .non))
  fNext)
  (fDrop (fOM 1 hApp (fTup (fCons (fVar 5) (fCons (fVar 6) (fCons (fVar 4) fNil)))))))))))))
  (fSeq (fAsg (fLend 1 (fLc (fIterL (fVar 1)) (gfTup 3 (gfCons (gfName 5) (gfCons (gfName 6) (gfCons (gfName 4) gfNil)))) fYes (fTup (fCons (fVar 5) (fCons (fVar 6) fNil))) [5, 6, 4])) (gfName 7))
  (fSeq (fIf (fOr (fT (f2 gGt (fB gLen (fCons (fVar 1) fNil)) (fC (.int 9)))) (fT (f2 gNe (fVar 7) (fB gSortSet (fCons (fVar 7) fNil)))))
  (fRet (fC .non))
  fNext)
  (fRet (fVar 1)))))))
def ev__law_read : FF := fDef 7 [false] b__law_read
def b__law_spoilt : SFn :=
  (fSeq (fAsg (fCall [true, false] ev__law_take (fCons (fVar 0) (fCons (fC (.int 5)) fNil))) (gfName 2))
  (fSeq (fAsg (fCall [true, false] ev__law_take (fCons (fVar 0) (fCons (f2 gAdd (fB gLenS (fCons (fVar 1) fNil)) (fC (.int 1))) fNil))) (gfName 3))
  (fSeq (fAsg (f2 gIx (fC (.str "0123456789-/: .,;noe+=_x(")) (fCall [true, false] ev__law_take (fCons (fVar 0) (fCons (fC (.int 25)) fNil)))) (gfName 4))
  (fSeq (fIf (fT (f2 gEq (fVar 2) (fC (.int 0))))
  (fRet (f2 gAddS (f2 gAddS (fSl gSlS (fVar 1) fNoP (fPt (fVar 3))) (fVar 4)) (fSl gSlS (fVar 1) (fPt (f2 gAdd (fVar 3) (fC (.int 1)))) fNoP)))
  fNext)
  (fSeq (fIf (fT (f2 gEq (fVar 2) (fC (.int 1))))
  (fRet (f2 gAddS (f2 gAddS (fSl gSlS (fVar 1) fNoP (fPt (fVar 3))) (fVar 4)) (fSl gSlS (fVar 1) (fPt (fVar 3)) fNoP)))
  fNext)
  (fSeq (fIf (fT (f2 gEq (fVar 2) (fC (.int 2))))
  (fRet (f2 gAddS (fSl gSlS (fVar 1) fNoP (fPt (fVar 3))) (fSl gSlS (fVar 1) (fPt (f2 gAdd (fVar 3) (fC (.int 1)))) fNoP)))
  fNext)
  (fSeq (fIf (fT (f2 gEq (fVar 2) (fC (.int 3))))
  (fSeq (fAsg (f2 gAddS (fSl gSlS (fVar 1) (fPt (f2 gAdd (fVar 3) (fC (.int 1)))) (fPt (f2 gAdd (fVar 3) (fC (.int 2))))) (fSl gSlS (fVar 1) (fPt (fVar 3)) (fPt (f2 gAdd (fVar 3) (fC (.int 1)))))) (gfName 5))
  (fRet (f2 gAddS (f2 gAddS (fSl gSlS (fVar 1) fNoP (fPt (fVar 3))) (fVar 5)) (fSl gSlS (fVar 1) (fPt (f2 gAdd (fVar 3) (fC (.int 2)))) fNoP))))
  fNext)
  (fRet (f2 gAddS (f2 gAddS (fSl gSlS (fVar 1) fNoP (fPt (fVar 3))) (fSl gSlS (fVar 1) (fPt (fVar 3)) (fPt (f2 gAdd (fVar 3) (fC (.int 3)))))) (fSl gSlS (fVar 1) (fPt (fVar 3)) fNoP))))))))))
def ev__law_spoilt : FF := fDef 4 [true, false] b__law_spoilt
def b__law_odd_word : SFn :=
  (fSeq (fAsg (fCall [true, false] ev__law_take (fCons (fVar 0) (fCons (fC (.int 14)) fNil))) (gfName 1))
  (fSeq (fAsg (f2 gSub (fCall [true, false] ev__law_take (fCons (fVar 0) (fCons (fC (.int 15)) fNil))) (fC (.int 7))) (gfName 2))
  (fSeq (fAsg (f2 gSub (fCall [true, false] ev__law_take (fCons (fVar 0) (fCons (fC (.int 15)) fNil))) (fC (.int 7))) (gfName 3))
  (fSeq (fAsg (fCall [true, false] ev__law_take (fCons (fVar 0) (fCons (f2 gPow (fC (.int 10)) (fC (.int 8))) fNil))) (gfName 4))
  (fSeq (fAsg (fLst (fCons (fC (.str "0")) (fCons (fC (.str "2/4")) (fCons (fC (.str "3/0")) (fCons (fC (.str "3/1")) (fCons (fC (.str "05")) (fCons (fC (.str "+3")) (fCons (fB gStr (fCons (fVar 4) fNil)) (fCons (f2 gAddS (fC (.str "1/")) (fB gStr (fCons (fVar 4) fNil))) (fCons (fC (.str "-0")) (fCons (fC (.str "-3/-2")) fNil))))))))))) (gfName 5))
  (fSeq (fAsg (f2 gAdd (fVar 5) (fLst (fCons (fC (.str "")) (fCons (fC (.str "1/2/3")) (fCons (fC (.str "7")) (fCons (fC (.str "-5/3")) fNil)))))) (gfName 5))
  (fRet (f2 gAddS (f2 gAddS (f2 gAddS (f2 gAddS (f2 gIx (fVar 5) (fVar 1)) (fC (.str ":"))) (fB gStr (fCons (fVar 2) fNil))) (fC (.str ":"))) (fB gStr (fCons (fVar 3) fNil))))))))))
def ev__law_odd_word : FF := fDef 5 [true] b__law_odd_word
def b__law_other : SFn :=
  (fSeq (fAsg (fCall [true, false] ev__law_take (fCons (fVar 0) (fCons (fC (.int 6)) fNil))) (gfName 2))
  (fSeq (fAsg (fCall [true, false] ev__law_take (fCons (fVar 0) (fCons (fB gLen (fCons (fVar 1) fNil)) fNil))) (gfName 3))
  (fSeq (fOwn 4 (fS1 gSplit (fCall [false] ev__law_text (fCons (fVar 1) fNil)) (fC (.str " "))))
  (fCut (fSeq (fIf (fT (f2 gEq (fVar 2) (fC (.int 0))))
  (fDrop (fOM0 4 fun ds => some ds.reverse))
  (fIf (fT (f2 gEq (fVar 2) (fC (.int 1))))
  (fDrop (fIns 4 3 (f2 gIx (fVar 4) (fVar 3))))
  (fIf (fT (f2 gEq (fVar 2) (fC (.int 2))))
  (fSetI 4 (fVar 3) (fCall [true] ev__law_odd_word (fCons (fVar 0) fNil)))
  (fIf (fT (f2 gEq (fVar 2) (fC (.int 3))))
  (fOwn 4 (fLst (fCons (fCall [true] ev__law_odd_word (fCons (fVar 0) fNil)) fNil)))
  (fIf (fT (f2 gEq (fVar 2) (fC (.int 4))))
  (fSeq (fAsg (f2 gAdd (fC (.int 1)) (fCall [true, false] ev__law_take (fCons (fVar 0) (fCons (fC (.int 12)) fNil)))) (gfName 5))
  (fOwn 4 (fLc (fRange1 (fCons (fVar 5) fNil)) (gfName 7) fYes (f2 gAddS (f2 gAddS (f2 gAddS (fC (.str "1:")) (fB gStr (fCons (f2 gSub (f2 gDiv (fVar 7) (fC (.int 4))) (fC (.int 2))) fNil))) (fC (.str ":"))) (fB gStr (fCons (f2 gMod (fVar 7) (fC (.int 4))) fNil))) [7])))
  (fSeq (fAsg (fCall [true, false] ev__law_take (fCons (fVar 0) (fCons (fC (.int 10)) fNil))) (gfName 6))
  (fRet (f2 gIx (fLst (fCons (fC (.str "")) (fCons (fC (.str " ")) (fCons (fC (.str "none none")) (fCons (fC (.str "None")) (fCons (fC .non) (fCons (fC (.int 1)) (fCons (fLst fNil) (fCons (fLst (fCons (fTup (fCons (fC (.int 0)) (fCons (fC (.int 0)) (fCons (fTup (fCons (fC (.int 1)) (fCons (fC (.int 1)) fNil))) fNil)))) fNil)) (fCons (fC (.bl true)) (fCons (fTup (fCons (fC (.str "1:0:0")) fNil)) fNil))))))))))) (fVar 6)))))))))
  (fRet (fS1 gJoin (fC (.str " ")) (fVar 4))))))))
def ev__law_other : FF := fDef 6 [true, false] b__law_other
def b__law_told : SFn :=
  (fSeq (fTry 2 [8] (fAsgX (fCallX [false] evx_read (fCons (fVar 0) fNil)) (gfName 1)) (fun n => (f2 gIx (fLst (fCons (fC (.str "other")) (fCons (fC .non) fNil))) (fB gInt (fCons (fC (.bl (kc_law_alone n))) fNil)))))
  (fRet (fVar 1)))
def ev__law_told : FF := fDef 2 [false] b__law_told
def b_law : SFn :=
  (fSeq (fFor (fRange1 (fCons (fB gMax2 (fCons (fC (.int 4)) (fCons (fB gMin2 (fCons (fB gLen (fCons (fVar 0) fNil)) (fCons (fC (.int 24)) fNil))) fNil))) fNil)) (gfName 1)
  (fSeq (fOwn 2 (fCall [false, false] ev__law_purse (fCons (fVar 0) (fCons (fVar 1) fNil))))
  (fSeq (fAsg (fCall [true] ev__law_sum (fCons (fVar 2) fNil)) (gfName 3))
  (fSeq (fAsg (fCall [false] ev__law_text (fCons (fVar 3) fNil)) (gfName 4))
  (fCut (fSeq (fIf (fT (f2 gEq (fCall [true, false] ev__law_take (fCons (fVar 2) (fCons (fC (.int 3)) fNil))) (fC (.int 0))))
  (fAsg (fCall [true, false] ev__law_other (fCons (fVar 2) (fCons (fVar 3) fNil))) (gfName 4))
  (fFor (fRange1 (fCons (f2 gAdd (fC (.int 1)) (fCall [true, false] ev__law_take (fCons (fVar 2) (fCons (fC (.int 2)) fNil)))) fNil)) (gfName 5)
  (fAsg (fCall [true, false] ev__law_spoilt (fCons (fVar 2) (fCons (fVar 4) fNil))) (gfName 4))))
  (fSeq (fAsg (fC .non) (gfName 6))
  (fCut (fSeq (fIf (fT (fIsi "str" (fVar 4)))
  (fAsg (fCall [false] ev__law_read (fCons (fVar 4) fNil)) (gfName 6))
  fNext)
  (fIf (fT (f2 gNe (fCall [false] ev__law_told (fCons (fVar 4) fNil)) (fVar 6)))
  (fRet (fC (.bl false)))
  fNext))))))))))
  (fRet (fC (.bl true))))
def ev_law : FF := fDef 6 [false] b_law
end Lw
local macro_rules | `(tactic| walk_at "ev") => `(tactic| simp only [Dv.w_callN2, Dv.k_callN2, Dv.w_chn, Dv.k_ch1, Dv.k_ch2, Dv.k_ch3, Dv.w_s1, Dv.k_s1, Dv.k_s2, Dv.d_s1, Dv.w_iterS, Dv.k_itS, Dv.gInSigF, Dv.gInSigT, Dv.gLenS, Dv.gAddS, Dv.gSlS, Dv.gSplit, Dv.gPart, Dv.gEqS_txt, Dv.gNeS_txt, Dv.dct_0I, Dv.dct_sI, Dv.w_dnewI, Dv.keyI_1, Dv.q_dixI, Dv.k_dixI, Dv.w_dixI, Dv.q_dg2I, Dv.k_dg2I, Dv.q_dg1I, Dv.k_dg1I, Dv.w_dget2I, Dv.q_dinI, Dv.k_dinI, Dv.w_dinI, Dv.q_dpI, Dv.k_dp2I, Dv.k_dp2nI, Dv.k_dp1I, Dv.w_dputI, Dv.q_dmI, Dv.w_dmaxI, Dv.q_frzD, Dv.w_frzD, Dv.w_ixN, Dv.w_gtupN, Dv.k_itN, Dv.isi_tuple_nt, Dv.q_frz, Dv.w_frz, Dv.q_forApp, Dv.w_forApp, Dv.k_ownXe, Dv.k_ownXn, Dv.w_ownX, Dv.w_gunl, Dv.gInT_2, Dv.gNotInT_2, Dv.q_o2v, Dv.k_o2v, Dv.w_o2v, Dv.w_nilN, Dv.k_consN2, Dv.k_consN, Dv.w_consN, Dv.k_ls2, Dv.w_ls2, Dv.q_o2, Dv.k_o2, Dv.k_o2b, Dv.w_o2, Dv.q_lend2, Dv.k_lend2, Dv.w_lend2, Dv.nn_nw, Dv.nn_no, Dv.nn_fz, Dv.nn_o1, Dv.nn_io, Dv.mapL_c, Dv.mapL_n, Dv.m_nw, Dv.dct_0, Dv.dct_s, Dv.free_nw, Dv.keep_nw, Dv.w_dnew, Dv.q_tupN, Dv.k_tupN, Dv.w_tupN, Dv.w_varN, Dv.key_2, Dv.k_v, Dv.q_dix, Dv.k_dix, Dv.w_dix, Dv.q_dg2, Dv.k_dg2, Dv.q_dg1, Dv.k_dg1, Dv.w_dget2, Dv.q_din, Dv.k_din, Dv.w_din, Dv.q_dp, Dv.k_dp2, Dv.k_dp2n, Dv.k_dp1, Dv.w_dput, Dv.q_ds2, Dv.q_ds, Dv.w_dsort, Dv.encK_len, Dv.kVal_enc, Dv.pairK_enc, Dv.pD_R, Option.isSome_some, Dv.k_putB, Dv.q_par3, Dv.k_par3, Dv.w_par3, Dv.dropL_eq, Dv.k_pop2, Dv.k_pop1, Dv.q_pop, Dv.w_pop, Dv.k_ownVn, Dv.k_ownVv, Dv.w_ownV, Dv.q_lend, Dv.k_lend, Dv.w_lend, Dv.m_fz, Dv.m_no, Dv.m_oo, Dv.m_ii, Dv.m_of, Dv.o_fz, Dv.o_no, Dv.o_o1, Dv.o_io, Dv.n_val, Dv.n_new, List.zipWith_cons_cons, List.zipWith_nil_left, Dv.k_backNF, Dv.k_backNT, Dv.k_callN, Dv.w_callN, Dv.gSortSet_R, Dv.gSlT, Dv.gRevL, Dv.k_isE, Dv.w_isE, Dv.k_m1b, Dv.q_m1, Dv.k_m1, Dv.w_m1, Dv.w_raise, Dv.k_dropXe, Dv.k_dropXv, Dv.k_dropXn, Dv.w_dropX, Dv.k_asgXe, Dv.k_asgXv, Dv.k_asgXn, Dv.w_asgX, Dv.k_backXe, Dv.k_backXv, Dv.k_backXn, Dv.q_argX, Dv.k_callX, Dv.w_callX, Dv.k_rxv, Dv.k_rxn, Dv.k_hnd, Dv.k_tryE, Dv.k_tryV, Dv.k_tryW, Dv.k_tryN, Dv.w_try, Dv.k_finE, Dv.k_finXo, Dv.k_finXw, Dv.k_finXn, Dv.w_var, Dv.w_c, Dv.k_z, Dv.d_2, Dv.k_2b, Dv.k_2, Dv.w_2, Dv.d_1, Dv.k_1, Dv.w_1, Dv.w_nil, Dv.k_cb, Dv.k_c, Dv.w_cons, Dv.d_b, Dv.k_b, Dv.w_b, Dv.d_v, Dv.q_tup, Dv.q_lst, Dv.k_tup, Dv.k_lst, Dv.w_tup, Dv.w_lst, Dv.k_t, Dv.w_T, Dv.k_and, Dv.k_or, Dv.k_not, Dv.w_and, Dv.w_or, Dv.w_not, Dv.w_yes, Dv.k_andV, Dv.k_orV, Dv.k_notV, Dv.k_ifE, Dv.w_andV, Dv.w_orV, Dv.w_notV, Dv.w_ifE,
  Dv.w_tupW, Dv.k_tupW, Dv.k_finT, Dv.k_finXt, Dv.k_resW, Dv.k_backXw, Dv.k_nxt, Dv.k_asg, Dv.k_asgN, Dv.w_asg, Dv.w_name, Dv.k_own, Dv.w_own, Dv.k_put, Dv.q_par, Dv.k_par, Dv.w_par, Dv.k_drop, Dv.k_ret, Dv.w_drop, Dv.w_ret, Dv.w_next, Dv.w_seq, Dv.k_nx, Dv.k_rt, Dv.k_bk, Dv.k_ct, Dv.k_if, Dv.w_if, Dv.k_setB, Dv.k_set, Dv.w_setI, Dv.k_non, Dv.k_om, Dv.k_omN, Dv.w_om, Dv.w_om0, Dv.d_s, Dv.k_slc, Dv.k_slb, Dv.k_sl, Dv.w_sl, Dv.w_noP, Dv.k_pt, Dv.w_pt, Dv.w_isi, Dv.k_call, Dv.q_arg, Dv.k_back, Dv.k_resF, Dv.k_resT, Dv.w_call, Dv.k_lc, Dv.k_lc2, Dv.k_lc3, Dv.w_lc, Dv.k_for, Dv.w_for, Dv.w_while, Dv.q_r1, Dv.k_r1, Dv.w_range1, Dv.k_il, Dv.k_ilN, Dv.w_iterL, Dv.k_it, Dv.w_iterT, Dv.k_lnx, Dv.k_lct, Dv.k_lbk, Dv.k_lrt, Dv.k_lb, Dv.k_v3, Dv.k_v2, Dv.k_v2n, Dv.k_v1, Dv.k_v0, Dv.k_wnx, Dv.k_wct, Dv.k_wbk, Dv.k_wrt, Dv.k_wc, Dv.k_ix, Dv.k_ixI, Dv.w_ixL, Dv.w_ixT, Dv.w_ixS, Dv.k_cx, Dv.w_put0, Dv.w_putS, Dv.k_o1, Dv.k_io, Dv.w_upo, Dv.w_upi, Dv.w_upS, Dv.k_st, Dv.w_setF, Dv.w_app, Dv.w_ext, Dv.k_wp, Dv.w_wipe0, Dv.w_wipe1, Dv.k_outs, Dv.w_con, Dv.w_outs0, Dv.w_outs1, Dv.k_dr, Dv.w_drop0, Dv.w_drop1, Dv.k_callM, Dv.q_argM, Dv.k_backM, Dv.k_resMF, Dv.k_resMT, Dv.w_callM, Dv.w_mv, Dv.q_en, Dv.k_en, Dv.w_enum, Dv.q_zp, Dv.k_zp, Dv.w_zip, Dv.q_rv, Dv.k_rv, Dv.w_rev, Dv.q_r2, Dv.k_r2, Dv.w_range2, Dv.q_r3, Dv.k_r3, Dv.w_range3, Dv.k_gc, Dv.w_gcons, Dv.w_gnil, Dv.w_gtup, Dv.k_jnx, Dv.k_jrt, Dv.k_jbk, Dv.k_jct, Dv.w_cut, Dv.w_loop0, Dv.w_loop1, Dv.k_tgt, Dv.k_tnx, Dv.k_tct, Dv.k_tbk, Dv.k_trt, Dv.free_keep, Dv.keep_no, Dv.keep_fz, Dv.keep_o1, Dv.gAdd_lst, Dv.gMul_lst, Dv.rangeD_1, Dv.rangeD_2, Dv.rangeD_3, Dv.rangeD_4, Dv.gEq_Lm, Dv.gNe_Lm, Dv.gEq_Ln, Dv.gNe_Ln, Dv.noL, Dv.noLs, Bool.not_true, Bool.not_false, Bool.false_or, Bool.or_false, if_true, if_false, Dv.free_no, Dv.free_fz, Dv.free_o1, Dv.k_finN, Dv.k_finV, Dv.k_finW, Dv.k_finS,
  Dv.gIs_bl, Dv.gIsnt_bl, Dv.gIs_no, Dv.gIsnt_no, Dv.gEq_bl, Dv.gNe_bl, Dv.isNon, Dv.gEq_int, Dv.gNe_int, Dv.gAdd_int, Dv.gSub_int, Dv.gMul_int, Dv.gDiv_int, Dv.gMod_int, Dv.gPow_int, Dv.gLt_int, Dv.gLe_int, Dv.gGt_int, Dv.gGe_int, Dv.gNeg, Dv.isi_int_non, Dv.isi_int_bl, Dv.isi_int_int, Dv.isi_int_str, Dv.isi_int_lst, Dv.isi_int_tup, Dv.isi_bool_non, Dv.isi_bool_bl, Dv.isi_bool_int, Dv.isi_bool_str, Dv.isi_bool_lst, Dv.isi_bool_tup, Dv.isi_tuple_non, Dv.isi_tuple_bl, Dv.isi_tuple_int, Dv.isi_tuple_str, Dv.isi_tuple_lst, Dv.isi_tuple_tup, Dv.isi_list_non, Dv.isi_list_bl, Dv.isi_list_int, Dv.isi_list_str, Dv.isi_list_lst, Dv.isi_list_tup, Dv.isi_str_non, Dv.isi_str_bl, Dv.isi_str_int, Dv.isi_str_str, Dv.isi_str_lst, Dv.isi_str_tup, Dv.gLen, Dv.gAbs, Dv.gMax2, Dv.gMin2, Dv.gInt, Dv.gList, Dv.gSlL,
  Dv.ok_some, Dv.ok_none, Dv.ok_guard, Dv.deref, Dv.frz, Dv.derefs, Dv.allVal, Dv.outF, Dv.outE, Dv.ioIx, Dv.argD, Dv.isOwn_0, Dv.isOwn_s, Dv.atI_0, Dv.atI_1, Dv.atI_2, Dv.atI_3, Dv.atI_4, Dv.atI_5, Dv.atI_6, Dv.atI_7, Dv.atI_neg, Dv.ixN20, Dv.ixN30, Dv.ixN31, Dv.ixN32, Dv.ixN21, Dv.restE,
  Option.bind_some, Option.bind_none, Option.map_some, List.replicate, List.cons_append, List.nil_append, List.getElem?_cons_zero, List.getElem?_cons_succ, decide_eq_true_eq, decide_eq_false_iff_not, Bool.not_eq_true', Bool.not_eq_false', forall_const, List.length_cons, List.length_nil, List.length_map, Int.toNat_natCast, Int.zero_add, Nat.zero_add, List.set_cons_zero, List.set_cons_succ, Nat.reduceAdd, Int.reduceToNat, Int.reducePow, Int.cast_ofNat_Int, Int.reduceEq, eq_self, not_true_eq_false, Int.reduceLE, Nat.reduceLeDiff, Int.reduceNeg, true_and, and_true, List.nodup_nil, List.nodup_cons, List.isEmpty_nil, List.isEmpty_cons, Bool.true_or, Bool.and_self, List.all_nil, List.all_cons, implies_true, List.not_mem_nil, not_false_eq_true, decide_true, Bool.true_and, Bool.and_true, reduceCtorEq, false_implies])
local macro_rules | `(tactic| walk_at "evj") => `(tactic| simp only [Dv.w_callN2, Dv.k_callN2, Dv.w_chn, Dv.k_ch1, Dv.k_ch2, Dv.k_ch3, Dv.w_s1, Dv.k_s1, Dv.k_s2, Dv.d_s1, Dv.w_iterS, Dv.k_itS, Dv.gInSigF, Dv.gInSigT, Dv.gLenS, Dv.gAddS, Dv.gSlS, Dv.gSplit, Dv.gPart, Dv.gEqS_txt, Dv.gNeS_txt, Dv.dct_0I, Dv.dct_sI, Dv.w_dnewI, Dv.keyI_1, Dv.q_dixI, Dv.k_dixI, Dv.w_dixI, Dv.q_dg2I, Dv.k_dg2I, Dv.q_dg1I, Dv.k_dg1I, Dv.w_dget2I, Dv.q_dinI, Dv.k_dinI, Dv.w_dinI, Dv.q_dpI, Dv.k_dp2I, Dv.k_dp2nI, Dv.k_dp1I, Dv.w_dputI, Dv.q_dmI, Dv.w_dmaxI, Dv.q_frzD, Dv.w_frzD, Dv.w_ixN, Dv.w_gtupN, Dv.k_itN, Dv.isi_tuple_nt, Dv.q_frz, Dv.w_frz, Dv.q_forApp, Dv.w_forApp, Dv.k_ownXe, Dv.k_ownXn, Dv.w_ownX, Dv.w_gunl, Dv.gInT_2, Dv.gNotInT_2, Dv.q_o2v, Dv.k_o2v, Dv.w_o2v, Dv.w_nilN, Dv.k_consN2, Dv.k_consN, Dv.w_consN, Dv.k_ls2, Dv.w_ls2, Dv.q_o2, Dv.k_o2, Dv.k_o2b, Dv.w_o2, Dv.q_lend2, Dv.k_lend2, Dv.w_lend2, Dv.nn_nw, Dv.nn_no, Dv.nn_fz, Dv.nn_o1, Dv.nn_io, Dv.mapL_c, Dv.mapL_n, Dv.m_nw, Dv.dct_0, Dv.dct_s, Dv.free_nw, Dv.keep_nw, Dv.w_dnew, Dv.q_tupN, Dv.k_tupN, Dv.w_tupN, Dv.w_varN, Dv.key_2, Dv.k_v, Dv.q_dix, Dv.k_dix, Dv.w_dix, Dv.q_dg2, Dv.k_dg2, Dv.q_dg1, Dv.k_dg1, Dv.w_dget2, Dv.q_din, Dv.k_din, Dv.w_din, Dv.q_dp, Dv.k_dp2, Dv.k_dp2n, Dv.k_dp1, Dv.w_dput, Dv.q_ds2, Dv.q_ds, Dv.w_dsort, Dv.encK_len, Dv.kVal_enc, Dv.pairK_enc, Dv.pD_R, Option.isSome_some, Dv.k_putB, Dv.q_par3, Dv.k_par3, Dv.w_par3, Dv.dropL_eq, Dv.k_pop2, Dv.k_pop1, Dv.q_pop, Dv.w_pop, Dv.k_ownVn, Dv.k_ownVv, Dv.w_ownV, Dv.q_lend, Dv.k_lend, Dv.w_lend, Dv.m_fz, Dv.m_no, Dv.m_oo, Dv.m_ii, Dv.m_of, Dv.o_fz, Dv.o_no, Dv.o_o1, Dv.o_io, Dv.n_val, Dv.n_new, List.zipWith_cons_cons, List.zipWith_nil_left, Dv.k_backNF, Dv.k_backNT, Dv.k_callN, Dv.w_callN, Dv.gSortSet_R, Dv.gSlT, Dv.gRevL, Dv.k_isE, Dv.w_isE, Dv.k_m1b, Dv.q_m1, Dv.k_m1, Dv.w_m1, Dv.w_raise, Dv.k_dropXe, Dv.k_dropXv, Dv.k_dropXn, Dv.w_dropX, Dv.k_asgXe, Dv.k_asgXv, Dv.k_asgXn, Dv.w_asgX, Dv.k_backXe, Dv.k_backXv, Dv.k_backXn, Dv.q_argX, Dv.k_callX, Dv.w_callX, Dv.k_rxv, Dv.k_rxn, Dv.k_hnd, Dv.k_tryE, Dv.k_tryV, Dv.k_tryW, Dv.k_tryN, Dv.w_try, Dv.k_finE, Dv.k_finXo, Dv.k_finXw, Dv.k_finXn, Dv.w_var, Dv.w_c, Dv.k_z, Dv.d_2, Dv.k_2b, Dv.k_2, Dv.w_2, Dv.d_1, Dv.k_1, Dv.w_1, Dv.w_nil, Dv.k_cb, Dv.k_c, Dv.w_cons, Dv.d_b, Dv.k_b, Dv.w_b, Dv.d_v, Dv.q_tup, Dv.q_lst, Dv.k_tup, Dv.k_lst, Dv.w_tup, Dv.w_lst, Dv.k_t, Dv.w_T, Dv.k_and, Dv.k_or, Dv.k_not, Dv.w_and, Dv.w_or, Dv.w_not, Dv.w_yes, Dv.k_andV, Dv.k_orV, Dv.k_notV, Dv.k_ifE, Dv.w_andV, Dv.w_orV, Dv.w_notV, Dv.w_ifE,
  Dv.w_tupW, Dv.k_tupW, Dv.k_finT, Dv.k_finXt, Dv.k_resW, Dv.k_backXw, Dv.k_nxt, Dv.k_asg, Dv.k_asgN, Dv.w_asg, Dv.w_name, Dv.k_own, Dv.w_own, Dv.k_put, Dv.q_par, Dv.k_par, Dv.w_par, Dv.k_drop, Dv.k_ret, Dv.w_drop, Dv.w_ret, Dv.w_next, Dv.w_seq, Dv.k_nx, Dv.k_rt, Dv.k_bk, Dv.k_ct, Dv.k_if, Dv.w_if, Dv.k_setB, Dv.k_set, Dv.w_setI, Dv.k_non, Dv.k_om, Dv.k_omN, Dv.w_om, Dv.w_om0, Dv.d_s, Dv.k_slc, Dv.k_slb, Dv.k_sl, Dv.w_sl, Dv.w_noP, Dv.k_pt, Dv.w_pt, Dv.w_isi, Dv.k_call, Dv.q_arg, Dv.k_back, Dv.k_resF, Dv.k_resT, Dv.w_call, Dv.k_lc, Dv.k_lc2, Dv.k_lc3, Dv.w_lc, Dv.k_for, Dv.w_for, Dv.w_while, Dv.q_r1, Dv.k_r1, Dv.w_range1, Dv.k_il, Dv.k_ilN, Dv.w_iterL, Dv.k_it, Dv.w_iterT, Dv.k_lnx, Dv.k_lct, Dv.k_lbk, Dv.k_lrt, Dv.k_lb, Dv.k_v3, Dv.k_v2, Dv.k_v2n, Dv.k_v1, Dv.k_v0, Dv.k_wnx, Dv.k_wct, Dv.k_wbk, Dv.k_wrt, Dv.k_wc, Dv.k_ix, Dv.k_ixI, Dv.w_ixL, Dv.w_ixT, Dv.w_ixS, Dv.k_cx, Dv.w_put0, Dv.w_putS, Dv.k_o1, Dv.k_io, Dv.w_upo, Dv.w_upi, Dv.w_upS, Dv.k_st, Dv.w_setF, Dv.w_app, Dv.w_ext, Dv.k_wp, Dv.w_wipe0, Dv.w_wipe1, Dv.k_outs, Dv.w_con, Dv.w_outs0, Dv.w_outs1, Dv.k_dr, Dv.w_drop0, Dv.w_drop1, Dv.k_callM, Dv.q_argM, Dv.k_backM, Dv.k_resMF, Dv.k_resMT, Dv.w_callM, Dv.w_mv, Dv.q_en, Dv.k_en, Dv.w_enum, Dv.q_zp, Dv.k_zp, Dv.w_zip, Dv.q_rv, Dv.k_rv, Dv.w_rev, Dv.q_r2, Dv.k_r2, Dv.w_range2, Dv.q_r3, Dv.k_r3, Dv.w_range3, Dv.k_gc, Dv.w_gcons, Dv.w_gnil, Dv.w_gtup, Dv.k_jnx, Dv.k_jrt, Dv.k_jbk, Dv.k_jct, Dv.w_loop0, Dv.w_loop1, Dv.k_tgt, Dv.k_tnx, Dv.k_tct, Dv.k_tbk, Dv.k_trt, Dv.free_keep, Dv.keep_no, Dv.keep_fz, Dv.keep_o1, Dv.gAdd_lst, Dv.gMul_lst, Dv.rangeD_1, Dv.rangeD_2, Dv.rangeD_3, Dv.rangeD_4, Dv.gEq_Lm, Dv.gNe_Lm, Dv.gEq_Ln, Dv.gNe_Ln, Dv.noL, Dv.noLs, Bool.not_true, Bool.not_false, Bool.false_or, Bool.or_false, if_true, if_false, Dv.free_no, Dv.free_fz, Dv.free_o1, Dv.k_finN, Dv.k_finV, Dv.k_finW, Dv.k_finS,
  Dv.gIs_bl, Dv.gIsnt_bl, Dv.gIs_no, Dv.gIsnt_no, Dv.gEq_bl, Dv.gNe_bl, Dv.isNon, Dv.gEq_int, Dv.gNe_int, Dv.gAdd_int, Dv.gSub_int, Dv.gMul_int, Dv.gDiv_int, Dv.gMod_int, Dv.gPow_int, Dv.gLt_int, Dv.gLe_int, Dv.gGt_int, Dv.gGe_int, Dv.gNeg, Dv.isi_int_non, Dv.isi_int_bl, Dv.isi_int_int, Dv.isi_int_str, Dv.isi_int_lst, Dv.isi_int_tup, Dv.isi_bool_non, Dv.isi_bool_bl, Dv.isi_bool_int, Dv.isi_bool_str, Dv.isi_bool_lst, Dv.isi_bool_tup, Dv.isi_tuple_non, Dv.isi_tuple_bl, Dv.isi_tuple_int, Dv.isi_tuple_str, Dv.isi_tuple_lst, Dv.isi_tuple_tup, Dv.isi_list_non, Dv.isi_list_bl, Dv.isi_list_int, Dv.isi_list_str, Dv.isi_list_lst, Dv.isi_list_tup, Dv.isi_str_non, Dv.isi_str_bl, Dv.isi_str_int, Dv.isi_str_str, Dv.isi_str_lst, Dv.isi_str_tup, Dv.gLen, Dv.gAbs, Dv.gMax2, Dv.gMin2, Dv.gInt, Dv.gList, Dv.gSlL,
  Dv.ok_some, Dv.ok_none, Dv.ok_guard, Dv.deref, Dv.frz, Dv.derefs, Dv.allVal, Dv.outF, Dv.outE, Dv.ioIx, Dv.argD, Dv.isOwn_0, Dv.isOwn_s, Dv.atI_0, Dv.atI_1, Dv.atI_2, Dv.atI_3, Dv.atI_4, Dv.atI_5, Dv.atI_6, Dv.atI_7, Dv.atI_neg, Dv.ixN20, Dv.ixN30, Dv.ixN31, Dv.ixN32, Dv.ixN21, Dv.restE,
  Option.bind_some, Option.bind_none, Option.map_some, List.replicate, List.cons_append, List.nil_append, List.getElem?_cons_zero, List.getElem?_cons_succ, decide_eq_true_eq, decide_eq_false_iff_not, Bool.not_eq_true', Bool.not_eq_false', forall_const, List.length_cons, List.length_nil, List.length_map, Int.toNat_natCast, Int.zero_add, Nat.zero_add, List.set_cons_zero, List.set_cons_succ, Nat.reduceAdd, Int.reduceToNat, Int.reducePow, Int.cast_ofNat_Int, Int.reduceEq, eq_self, not_true_eq_false, Int.reduceLE, Nat.reduceLeDiff, Int.reduceNeg, true_and, and_true, List.nodup_nil, List.nodup_cons, List.isEmpty_nil, List.isEmpty_cons, Bool.true_or, Bool.and_self, List.all_nil, List.all_cons, implies_true, List.not_mem_nil, not_false_eq_true, decide_true, Bool.true_and, Bool.and_true, reduceCtorEq, false_implies])
local macro_rules | `(tactic| walk_at "evk") => `(tactic| simp only [Dv.w_callN2, Dv.k_callN2, Dv.w_chn, Dv.k_ch1, Dv.k_ch2, Dv.k_ch3, Dv.w_s1, Dv.k_s1, Dv.k_s2, Dv.d_s1, Dv.w_iterS, Dv.k_itS, Dv.gInSigF, Dv.gInSigT, Dv.gLenS, Dv.gAddS, Dv.gSlS, Dv.gSplit, Dv.gPart, Dv.gEqS_txt, Dv.gNeS_txt, Dv.dct_0I, Dv.dct_sI, Dv.w_dnewI, Dv.keyI_1, Dv.q_dixI, Dv.k_dixI, Dv.w_dixI, Dv.q_dg2I, Dv.k_dg2I, Dv.q_dg1I, Dv.k_dg1I, Dv.w_dget2I, Dv.q_dinI, Dv.k_dinI, Dv.w_dinI, Dv.q_dpI, Dv.k_dp2I, Dv.k_dp2nI, Dv.k_dp1I, Dv.w_dputI, Dv.q_dmI, Dv.w_dmaxI, Dv.q_frzD, Dv.w_frzD, Dv.w_ixN, Dv.w_gtupN, Dv.k_itN, Dv.isi_tuple_nt, Dv.q_frz, Dv.w_frz, Dv.q_forApp, Dv.w_forApp, Dv.k_ownXe, Dv.k_ownXn, Dv.w_ownX, Dv.w_gunl, Dv.gInT_2, Dv.gNotInT_2, Dv.q_o2v, Dv.k_o2v, Dv.w_o2v, Dv.w_nilN, Dv.k_consN2, Dv.k_consN, Dv.w_consN, Dv.k_ls2, Dv.w_ls2, Dv.q_o2, Dv.k_o2, Dv.k_o2b, Dv.w_o2, Dv.q_lend2, Dv.k_lend2, Dv.w_lend2, Dv.nn_nw, Dv.nn_no, Dv.nn_fz, Dv.nn_o1, Dv.nn_io, Dv.mapL_c, Dv.mapL_n, Dv.m_nw, Dv.dct_0, Dv.dct_s, Dv.free_nw, Dv.keep_nw, Dv.w_dnew, Dv.q_tupN, Dv.k_tupN, Dv.w_tupN, Dv.w_varN, Dv.key_2, Dv.k_v, Dv.q_dix, Dv.k_dix, Dv.w_dix, Dv.q_dg2, Dv.k_dg2, Dv.q_dg1, Dv.k_dg1, Dv.w_dget2, Dv.q_din, Dv.k_din, Dv.w_din, Dv.q_dp, Dv.k_dp2, Dv.k_dp2n, Dv.k_dp1, Dv.w_dput, Dv.q_ds2, Dv.q_ds, Dv.w_dsort, Dv.encK_len, Dv.kVal_enc, Dv.pairK_enc, Dv.pD_R, Option.isSome_some, Dv.k_putB, Dv.q_par3, Dv.k_par3, Dv.w_par3, Dv.dropL_eq, Dv.k_pop2, Dv.k_pop1, Dv.q_pop, Dv.w_pop, Dv.k_ownVn, Dv.k_ownVv, Dv.w_ownV, Dv.q_lend, Dv.k_lend, Dv.w_lend, Dv.m_fz, Dv.m_no, Dv.m_oo, Dv.m_ii, Dv.m_of, Dv.o_fz, Dv.o_no, Dv.o_o1, Dv.o_io, Dv.n_val, Dv.n_new, List.zipWith_cons_cons, List.zipWith_nil_left, Dv.k_backNF, Dv.k_backNT, Dv.k_callN, Dv.w_callN, Dv.gSortSet_R, Dv.gSlT, Dv.gRevL, Dv.k_isE, Dv.w_isE, Dv.k_m1b, Dv.q_m1, Dv.k_m1, Dv.w_m1, Dv.w_raise, Dv.k_dropXe, Dv.k_dropXv, Dv.k_dropXn, Dv.w_dropX, Dv.k_asgXe, Dv.k_asgXv, Dv.k_asgXn, Dv.w_asgX, Dv.k_backXe, Dv.k_backXv, Dv.k_backXn, Dv.q_argX, Dv.k_callX, Dv.w_callX, Dv.k_rxv, Dv.k_rxn, Dv.k_hnd, Dv.k_tryE, Dv.k_tryV, Dv.k_tryW, Dv.k_tryN, Dv.w_try, Dv.k_finE, Dv.k_finXo, Dv.k_finXw, Dv.k_finXn, Dv.w_var, Dv.w_c, Dv.k_z, Dv.d_2, Dv.k_2b, Dv.k_2, Dv.w_2, Dv.d_1, Dv.k_1, Dv.w_1, Dv.w_nil, Dv.k_cb, Dv.k_c, Dv.w_cons, Dv.d_b, Dv.k_b, Dv.w_b, Dv.d_v, Dv.q_tup, Dv.q_lst, Dv.k_tup, Dv.k_lst, Dv.w_tup, Dv.w_lst, Dv.k_t, Dv.w_T, Dv.k_and, Dv.k_or, Dv.k_not, Dv.w_and, Dv.w_or, Dv.w_not, Dv.w_yes, Dv.k_andV, Dv.k_orV, Dv.k_notV, Dv.k_ifE, Dv.w_andV, Dv.w_orV, Dv.w_notV, Dv.w_ifE,
  Dv.w_tupW, Dv.k_tupW, Dv.k_finT, Dv.k_finXt, Dv.k_resW, Dv.k_backXw, Dv.k_nxt, Dv.k_asg, Dv.k_asgN, Dv.w_asg, Dv.w_name, Dv.k_own, Dv.w_own, Dv.k_put, Dv.q_par, Dv.k_par, Dv.w_par, Dv.k_drop, Dv.k_ret, Dv.w_drop, Dv.w_ret, Dv.w_next, Dv.w_seq, Dv.k_nx, Dv.k_rt, Dv.k_bk, Dv.k_ct, Dv.k_if, Dv.w_if, Dv.k_setB, Dv.k_set, Dv.w_setI, Dv.k_non, Dv.k_om, Dv.k_omN, Dv.w_om, Dv.w_om0, Dv.d_s, Dv.k_slc, Dv.k_slb, Dv.k_sl, Dv.w_sl, Dv.w_noP, Dv.k_pt, Dv.w_pt, Dv.w_isi, Dv.k_call, Dv.q_arg, Dv.k_back, Dv.k_resF, Dv.k_resT, Dv.w_call, Dv.k_lc, Dv.k_lc2, Dv.k_lc3, Dv.w_lc, Dv.k_for, Dv.w_for, Dv.w_while, Dv.q_r1, Dv.k_r1, Dv.w_range1, Dv.k_il, Dv.k_ilN, Dv.w_iterL, Dv.k_it, Dv.w_iterT, Dv.k_lnx, Dv.k_lct, Dv.k_lbk, Dv.k_lrt, Dv.k_lb, Dv.k_v3, Dv.k_v2, Dv.k_v2n, Dv.k_v1, Dv.k_v0, Dv.k_wnx, Dv.k_wct, Dv.k_wbk, Dv.k_wrt, Dv.k_wc, Dv.k_ix, Dv.k_ixI, Dv.w_ixL, Dv.w_ixT, Dv.w_ixS, Dv.k_cx, Dv.w_put0, Dv.w_putS, Dv.k_o1, Dv.k_io, Dv.w_upo, Dv.w_upi, Dv.w_upS, Dv.k_st, Dv.w_setF, Dv.w_app, Dv.w_ext, Dv.k_wp, Dv.w_wipe0, Dv.w_wipe1, Dv.k_outs, Dv.w_con, Dv.w_outs0, Dv.w_outs1, Dv.k_dr, Dv.w_drop0, Dv.w_drop1, Dv.k_callM, Dv.q_argM, Dv.k_backM, Dv.k_resMF, Dv.k_resMT, Dv.w_callM, Dv.w_mv, Dv.q_en, Dv.k_en, Dv.w_enum, Dv.q_zp, Dv.k_zp, Dv.w_zip, Dv.q_rv, Dv.k_rv, Dv.w_rev, Dv.q_r2, Dv.k_r2, Dv.w_range2, Dv.q_r3, Dv.k_r3, Dv.w_range3, Dv.k_gc, Dv.w_gcons, Dv.w_gnil, Dv.w_gtup, Dv.k_jnx, Dv.k_jrt, Dv.k_jbk, Dv.k_jct, Dv.w_cut, Dv.k_tgt, Dv.k_tnx, Dv.k_tct, Dv.k_tbk, Dv.k_trt, Dv.free_keep, Dv.keep_no, Dv.keep_fz, Dv.keep_o1, Dv.gAdd_lst, Dv.gMul_lst, Dv.gEq_Lm, Dv.gNe_Lm, Dv.gEq_Ln, Dv.gNe_Ln, Dv.noL, Dv.noLs, Bool.not_true, Bool.not_false, Bool.false_or, Bool.or_false, if_true, if_false, Dv.free_no, Dv.free_fz, Dv.free_o1, Dv.k_finN, Dv.k_finV, Dv.k_finW, Dv.k_finS,
  Dv.gIs_bl, Dv.gIsnt_bl, Dv.gIs_no, Dv.gIsnt_no, Dv.gEq_bl, Dv.gNe_bl, Dv.isNon, Dv.gEq_int, Dv.gNe_int, Dv.gAdd_int, Dv.gSub_int, Dv.gMul_int, Dv.gDiv_int, Dv.gMod_int, Dv.gPow_int, Dv.gLt_int, Dv.gLe_int, Dv.gGt_int, Dv.gGe_int, Dv.gNeg, Dv.isi_int_non, Dv.isi_int_bl, Dv.isi_int_int, Dv.isi_int_str, Dv.isi_int_lst, Dv.isi_int_tup, Dv.isi_bool_non, Dv.isi_bool_bl, Dv.isi_bool_int, Dv.isi_bool_str, Dv.isi_bool_lst, Dv.isi_bool_tup, Dv.isi_tuple_non, Dv.isi_tuple_bl, Dv.isi_tuple_int, Dv.isi_tuple_str, Dv.isi_tuple_lst, Dv.isi_tuple_tup, Dv.isi_list_non, Dv.isi_list_bl, Dv.isi_list_int, Dv.isi_list_str, Dv.isi_list_lst, Dv.isi_list_tup, Dv.isi_str_non, Dv.isi_str_bl, Dv.isi_str_int, Dv.isi_str_str, Dv.isi_str_lst, Dv.isi_str_tup, Dv.gLen, Dv.gAbs, Dv.gMax2, Dv.gMin2, Dv.gInt, Dv.gList, Dv.gSlL,
  Dv.ok_some, Dv.ok_none, Dv.ok_guard, Dv.deref, Dv.frz, Dv.derefs, Dv.allVal, Dv.outF, Dv.outE, Dv.ioIx, Dv.argD, Dv.isOwn_0, Dv.isOwn_s, Dv.atI_0, Dv.atI_1, Dv.atI_2, Dv.atI_3, Dv.atI_4, Dv.atI_5, Dv.atI_6, Dv.atI_7, Dv.atI_neg, Dv.ixN20, Dv.ixN30, Dv.ixN31, Dv.ixN32, Dv.ixN21, Dv.restE,
  Option.bind_some, Option.bind_none, Option.map_some, List.replicate, List.cons_append, List.nil_append, List.getElem?_cons_zero, List.getElem?_cons_succ, decide_eq_true_eq, decide_eq_false_iff_not, Bool.not_eq_true', Bool.not_eq_false', forall_const, List.length_cons, List.length_nil, List.length_map, Int.toNat_natCast, Int.zero_add, Nat.zero_add, List.set_cons_zero, List.set_cons_succ, Nat.reduceAdd, Int.reduceToNat, Int.reducePow, Int.cast_ofNat_Int, Int.reduceEq, eq_self, not_true_eq_false, Int.reduceLE, Nat.reduceLeDiff, Int.reduceNeg, true_and, and_true, List.nodup_nil, List.nodup_cons, List.isEmpty_nil, List.isEmpty_cons, Bool.true_or, Bool.and_self, List.all_nil, List.all_cons, implies_true, List.not_mem_nil, not_false_eq_true, decide_true, Bool.true_and, Bool.and_true, reduceCtorEq, false_implies])
namespace Lw
open PySem L2 Dv
theorem ek__law_alone_NoText (a : Addr) : ∃ e, bk__law_alone_NoText a [.fz (.adr a), .no] = some (.rt (.val (.bl (kc_law_alone 8))) e) := by
  have key : Ok (bk__law_alone_NoText a [.fz (.adr a), .no]) fun o => ∃ e, o = .rt (.val (.bl (kc_law_alone 8))) e := by
    unfold bk__law_alone_NoText
    walk_at "ev"
    refine ok_eq (a := .val (.int 1)) (by rfl) ?_
    walk_at "ev"
    exact ⟨_, rfl⟩
  obtain ⟨o, e, e2, h⟩ := key
  exact ⟨e2, by rw [e, h]⟩
end Lw
local macro_rules | `(tactic| walk_at "ev") => `(tactic| simp only [Dv.w_callN2, Dv.k_callN2, Dv.w_chn, Dv.k_ch1, Dv.k_ch2, Dv.k_ch3, Dv.w_s1, Dv.k_s1, Dv.k_s2, Dv.d_s1, Dv.w_iterS, Dv.k_itS, Dv.gInSigF, Dv.gInSigT, Dv.gLenS, Dv.gAddS, Dv.gSlS, Dv.gSplit, Dv.gPart, Dv.gEqS_txt, Dv.gNeS_txt, Dv.dct_0I, Dv.dct_sI, Dv.w_dnewI, Dv.keyI_1, Dv.q_dixI, Dv.k_dixI, Dv.w_dixI, Dv.q_dg2I, Dv.k_dg2I, Dv.q_dg1I, Dv.k_dg1I, Dv.w_dget2I, Dv.q_dinI, Dv.k_dinI, Dv.w_dinI, Dv.q_dpI, Dv.k_dp2I, Dv.k_dp2nI, Dv.k_dp1I, Dv.w_dputI, Dv.q_dmI, Dv.w_dmaxI, Dv.q_frzD, Dv.w_frzD, Dv.w_ixN, Dv.w_gtupN, Dv.k_itN, Dv.isi_tuple_nt, Dv.q_frz, Dv.w_frz, Dv.q_forApp, Dv.w_forApp, Dv.k_ownXe, Dv.k_ownXn, Dv.w_ownX, Dv.w_gunl, Dv.gInT_2, Dv.gNotInT_2, Dv.q_o2v, Dv.k_o2v, Dv.w_o2v, Dv.w_nilN, Dv.k_consN2, Dv.k_consN, Dv.w_consN, Dv.k_ls2, Dv.w_ls2, Dv.q_o2, Dv.k_o2, Dv.k_o2b, Dv.w_o2, Dv.q_lend2, Dv.k_lend2, Dv.w_lend2, Dv.nn_nw, Dv.nn_no, Dv.nn_fz, Dv.nn_o1, Dv.nn_io, Dv.mapL_c, Dv.mapL_n, Dv.m_nw, Dv.dct_0, Dv.dct_s, Dv.free_nw, Dv.keep_nw, Dv.w_dnew, Dv.q_tupN, Dv.k_tupN, Dv.w_tupN, Dv.w_varN, Dv.key_2, Dv.k_v, Dv.q_dix, Dv.k_dix, Dv.w_dix, Dv.q_dg2, Dv.k_dg2, Dv.q_dg1, Dv.k_dg1, Dv.w_dget2, Dv.q_din, Dv.k_din, Dv.w_din, Dv.q_dp, Dv.k_dp2, Dv.k_dp2n, Dv.k_dp1, Dv.w_dput, Dv.q_ds2, Dv.q_ds, Dv.w_dsort, Dv.encK_len, Dv.kVal_enc, Dv.pairK_enc, Dv.pD_R, Option.isSome_some, Dv.k_putB, Dv.q_par3, Dv.k_par3, Dv.w_par3, Dv.dropL_eq, Dv.k_pop2, Dv.k_pop1, Dv.q_pop, Dv.w_pop, Dv.k_ownVn, Dv.k_ownVv, Dv.w_ownV, Dv.q_lend, Dv.k_lend, Dv.w_lend, Dv.m_fz, Dv.m_no, Dv.m_oo, Dv.m_ii, Dv.m_of, Dv.o_fz, Dv.o_no, Dv.o_o1, Dv.o_io, Dv.n_val, Dv.n_new, List.zipWith_cons_cons, List.zipWith_nil_left, Dv.k_backNF, Dv.k_backNT, Dv.k_callN, Dv.w_callN, Dv.gSortSet_R, Dv.gSlT, Dv.gRevL, Dv.k_isE, Dv.w_isE, Dv.k_m1b, Dv.q_m1, Dv.k_m1, Dv.w_m1, Dv.w_raise, Dv.k_dropXe, Dv.k_dropXv, Dv.k_dropXn, Dv.w_dropX, Dv.k_asgXe, Dv.k_asgXv, Dv.k_asgXn, Dv.w_asgX, Dv.k_backXe, Dv.k_backXv, Dv.k_backXn, Dv.q_argX, Dv.k_callX, Dv.w_callX, Dv.k_rxv, Dv.k_rxn, Dv.k_hnd, Dv.k_tryE, Dv.k_tryV, Dv.k_tryW, Dv.k_tryN, Dv.w_try, Dv.k_finE, Dv.k_finXo, Dv.k_finXw, Dv.k_finXn, Dv.w_var, Dv.w_c, Dv.k_z, Dv.d_2, Dv.k_2b, Dv.k_2, Dv.w_2, Dv.d_1, Dv.k_1, Dv.w_1, Dv.w_nil, Dv.k_cb, Dv.k_c, Dv.w_cons, Dv.d_b, Dv.k_b, Dv.w_b, Dv.d_v, Dv.q_tup, Dv.q_lst, Dv.k_tup, Dv.k_lst, Dv.w_tup, Dv.w_lst, Dv.k_t, Dv.w_T, Dv.k_and, Dv.k_or, Dv.k_not, Dv.w_and, Dv.w_or, Dv.w_not, Dv.w_yes, Dv.k_andV, Dv.k_orV, Dv.k_notV, Dv.k_ifE, Dv.w_andV, Dv.w_orV, Dv.w_notV, Dv.w_ifE,
  Dv.w_tupW, Dv.k_tupW, Dv.k_finT, Dv.k_finXt, Dv.k_resW, Dv.k_backXw, Dv.k_nxt, Dv.k_asg, Dv.k_asgN, Dv.w_asg, Dv.w_name, Dv.k_own, Dv.w_own, Dv.k_put, Dv.q_par, Dv.k_par, Dv.w_par, Dv.k_drop, Dv.k_ret, Dv.w_drop, Dv.w_ret, Dv.w_next, Dv.w_seq, Dv.k_nx, Dv.k_rt, Dv.k_bk, Dv.k_ct, Dv.k_if, Dv.w_if, Dv.k_setB, Dv.k_set, Dv.w_setI, Dv.k_non, Dv.k_om, Dv.k_omN, Dv.w_om, Dv.w_om0, Dv.d_s, Dv.k_slc, Dv.k_slb, Dv.k_sl, Dv.w_sl, Dv.w_noP, Dv.k_pt, Dv.w_pt, Dv.w_isi, Dv.k_call, Dv.q_arg, Dv.k_back, Dv.k_resF, Dv.k_resT, Dv.w_call, Dv.k_lc, Dv.k_lc2, Dv.k_lc3, Dv.w_lc, Dv.k_for, Dv.w_for, Dv.w_while, Dv.q_r1, Dv.k_r1, Dv.w_range1, Dv.k_il, Dv.k_ilN, Dv.w_iterL, Dv.k_it, Dv.w_iterT, Dv.k_lnx, Dv.k_lct, Dv.k_lbk, Dv.k_lrt, Dv.k_lb, Dv.k_v3, Dv.k_v2, Dv.k_v2n, Dv.k_v1, Dv.k_v0, Dv.k_wnx, Dv.k_wct, Dv.k_wbk, Dv.k_wrt, Dv.k_wc, Dv.k_ix, Dv.k_ixI, Dv.w_ixL, Dv.w_ixT, Dv.w_ixS, Dv.k_cx, Dv.w_put0, Dv.w_putS, Dv.k_o1, Dv.k_io, Dv.w_upo, Dv.w_upi, Dv.w_upS, Dv.k_st, Dv.w_setF, Dv.w_app, Dv.w_ext, Dv.k_wp, Dv.w_wipe0, Dv.w_wipe1, Dv.k_outs, Dv.w_con, Dv.w_outs0, Dv.w_outs1, Dv.k_dr, Dv.w_drop0, Dv.w_drop1, Dv.k_callM, Dv.q_argM, Dv.k_backM, Dv.k_resMF, Dv.k_resMT, Dv.w_callM, Dv.w_mv, Dv.q_en, Dv.k_en, Dv.w_enum, Dv.q_zp, Dv.k_zp, Dv.w_zip, Dv.q_rv, Dv.k_rv, Dv.w_rev, Dv.q_r2, Dv.k_r2, Dv.w_range2, Dv.q_r3, Dv.k_r3, Dv.w_range3, Dv.k_gc, Dv.w_gcons, Dv.w_gnil, Dv.w_gtup, Dv.k_jnx, Dv.k_jrt, Dv.k_jbk, Dv.k_jct, Dv.w_cut, Dv.w_loop0, Dv.w_loop1, Dv.k_tgt, Dv.k_tnx, Dv.k_tct, Dv.k_tbk, Dv.k_trt, Dv.free_keep, Dv.keep_no, Dv.keep_fz, Dv.keep_o1, Dv.gAdd_lst, Dv.gMul_lst, Dv.rangeD_1, Dv.rangeD_2, Dv.rangeD_3, Dv.rangeD_4, Dv.gEq_Lm, Dv.gNe_Lm, Dv.gEq_Ln, Dv.gNe_Ln, Dv.noL, Dv.noLs, Bool.not_true, Bool.not_false, Bool.false_or, Bool.or_false, if_true, if_false, Dv.free_no, Dv.free_fz, Dv.free_o1, Dv.k_finN, Dv.k_finV, Dv.k_finW, Dv.k_finS,
  Dv.gIs_bl, Dv.gIsnt_bl, Dv.gIs_no, Dv.gIsnt_no, Dv.gEq_bl, Dv.gNe_bl, Dv.isNon, Dv.gEq_int, Dv.gNe_int, Dv.gAdd_int, Dv.gSub_int, Dv.gMul_int, Dv.gDiv_int, Dv.w_nilA, Dv.w_consP, Dv.k_CP, Dv.w_consX, Dv.k_CXe, Dv.k_CXv, Dv.k_CXn, Dv.k_PRe, Dv.k_PRv, Dv.k_PRn, Dv.w_tupX, Dv.k_tupXe, Dv.k_tupXo, Dv.w_2R, Dv.k_2R, Dv.k_2Re, Dv.k_2Rv, Dv.w_lcX, Dv.k_lcX, Dv.k_lcX2, Dv.k_lcX3o, Dv.k_lcX3e, Dv.gMod_int, Dv.gPow_int, Dv.gLt_int, Dv.gLe_int, Dv.gGt_int, Dv.gGe_int, Dv.gNeg, Dv.isi_int_non, Dv.isi_int_bl, Dv.isi_int_int, Dv.isi_int_str, Dv.isi_int_lst, Dv.isi_int_tup, Dv.isi_bool_non, Dv.isi_bool_bl, Dv.isi_bool_int, Dv.isi_bool_str, Dv.isi_bool_lst, Dv.isi_bool_tup, Dv.isi_tuple_non, Dv.isi_tuple_bl, Dv.isi_tuple_int, Dv.isi_tuple_str, Dv.isi_tuple_lst, Dv.isi_tuple_tup, Dv.isi_list_non, Dv.isi_list_bl, Dv.isi_list_int, Dv.isi_list_str, Dv.isi_list_lst, Dv.isi_list_tup, Dv.isi_str_non, Dv.isi_str_bl, Dv.isi_str_int, Dv.isi_str_str, Dv.isi_str_lst, Dv.isi_str_tup, Dv.gLen, Dv.gAbs, Dv.gMax2, Dv.gMin2, Dv.gInt, Dv.gList, Dv.gSlL,
  Dv.ok_some, Dv.ok_none, Dv.ok_guard, Dv.deref, Dv.frz, Dv.derefs, Dv.allVal, Dv.outF, Dv.outE, Dv.ioIx, Dv.argD, Dv.isOwn_0, Dv.isOwn_s, Dv.atI_0, Dv.atI_1, Dv.atI_2, Dv.atI_3, Dv.atI_4, Dv.atI_5, Dv.atI_6, Dv.atI_7, Dv.atI_neg, Dv.ixN20, Dv.ixN30, Dv.ixN31, Dv.ixN32, Dv.ixN21, Dv.restE,
  Option.bind_some, Option.bind_none, Option.map_some, List.replicate, List.cons_append, List.nil_append, List.getElem?_cons_zero, List.getElem?_cons_succ, decide_eq_true_eq, decide_eq_false_iff_not, Bool.not_eq_true', Bool.not_eq_false', forall_const, List.length_cons, List.length_nil, List.length_map, Int.toNat_natCast, Int.zero_add, Nat.zero_add, List.set_cons_zero, List.set_cons_succ, Nat.reduceAdd, Int.reduceToNat, Int.reducePow, Int.cast_ofNat_Int, Int.reduceEq, eq_self, not_true_eq_false, Int.reduceLE, Nat.reduceLeDiff, Int.reduceNeg, true_and, and_true, List.nodup_nil, List.nodup_cons, List.isEmpty_nil, List.isEmpty_cons, Bool.true_or, Bool.and_self, List.all_nil, List.all_cons, implies_true, List.not_mem_nil, not_false_eq_true, decide_true, Bool.true_and, Bool.and_true, reduceCtorEq, false_implies])
local macro_rules | `(tactic| walk_at "evj") => `(tactic| simp only [Dv.w_callN2, Dv.k_callN2, Dv.w_chn, Dv.k_ch1, Dv.k_ch2, Dv.k_ch3, Dv.w_s1, Dv.k_s1, Dv.k_s2, Dv.d_s1, Dv.w_iterS, Dv.k_itS, Dv.gInSigF, Dv.gInSigT, Dv.gLenS, Dv.gAddS, Dv.gSlS, Dv.gSplit, Dv.gPart, Dv.gEqS_txt, Dv.gNeS_txt, Dv.dct_0I, Dv.dct_sI, Dv.w_dnewI, Dv.keyI_1, Dv.q_dixI, Dv.k_dixI, Dv.w_dixI, Dv.q_dg2I, Dv.k_dg2I, Dv.q_dg1I, Dv.k_dg1I, Dv.w_dget2I, Dv.q_dinI, Dv.k_dinI, Dv.w_dinI, Dv.q_dpI, Dv.k_dp2I, Dv.k_dp2nI, Dv.k_dp1I, Dv.w_dputI, Dv.q_dmI, Dv.w_dmaxI, Dv.q_frzD, Dv.w_frzD, Dv.w_ixN, Dv.w_gtupN, Dv.k_itN, Dv.isi_tuple_nt, Dv.q_frz, Dv.w_frz, Dv.q_forApp, Dv.w_forApp, Dv.k_ownXe, Dv.k_ownXn, Dv.w_ownX, Dv.w_gunl, Dv.gInT_2, Dv.gNotInT_2, Dv.q_o2v, Dv.k_o2v, Dv.w_o2v, Dv.w_nilN, Dv.k_consN2, Dv.k_consN, Dv.w_consN, Dv.k_ls2, Dv.w_ls2, Dv.q_o2, Dv.k_o2, Dv.k_o2b, Dv.w_o2, Dv.q_lend2, Dv.k_lend2, Dv.w_lend2, Dv.nn_nw, Dv.nn_no, Dv.nn_fz, Dv.nn_o1, Dv.nn_io, Dv.mapL_c, Dv.mapL_n, Dv.m_nw, Dv.dct_0, Dv.dct_s, Dv.free_nw, Dv.keep_nw, Dv.w_dnew, Dv.q_tupN, Dv.k_tupN, Dv.w_tupN, Dv.w_varN, Dv.key_2, Dv.k_v, Dv.q_dix, Dv.k_dix, Dv.w_dix, Dv.q_dg2, Dv.k_dg2, Dv.q_dg1, Dv.k_dg1, Dv.w_dget2, Dv.q_din, Dv.k_din, Dv.w_din, Dv.q_dp, Dv.k_dp2, Dv.k_dp2n, Dv.k_dp1, Dv.w_dput, Dv.q_ds2, Dv.q_ds, Dv.w_dsort, Dv.encK_len, Dv.kVal_enc, Dv.pairK_enc, Dv.pD_R, Option.isSome_some, Dv.k_putB, Dv.q_par3, Dv.k_par3, Dv.w_par3, Dv.dropL_eq, Dv.k_pop2, Dv.k_pop1, Dv.q_pop, Dv.w_pop, Dv.k_ownVn, Dv.k_ownVv, Dv.w_ownV, Dv.q_lend, Dv.k_lend, Dv.w_lend, Dv.m_fz, Dv.m_no, Dv.m_oo, Dv.m_ii, Dv.m_of, Dv.o_fz, Dv.o_no, Dv.o_o1, Dv.o_io, Dv.n_val, Dv.n_new, List.zipWith_cons_cons, List.zipWith_nil_left, Dv.k_backNF, Dv.k_backNT, Dv.k_callN, Dv.w_callN, Dv.gSortSet_R, Dv.gSlT, Dv.gRevL, Dv.k_isE, Dv.w_isE, Dv.k_m1b, Dv.q_m1, Dv.k_m1, Dv.w_m1, Dv.w_raise, Dv.k_dropXe, Dv.k_dropXv, Dv.k_dropXn, Dv.w_dropX, Dv.k_asgXe, Dv.k_asgXv, Dv.k_asgXn, Dv.w_asgX, Dv.k_backXe, Dv.k_backXv, Dv.k_backXn, Dv.q_argX, Dv.k_callX, Dv.w_callX, Dv.k_rxv, Dv.k_rxn, Dv.k_hnd, Dv.k_tryE, Dv.k_tryV, Dv.k_tryW, Dv.k_tryN, Dv.w_try, Dv.k_finE, Dv.k_finXo, Dv.k_finXw, Dv.k_finXn, Dv.w_var, Dv.w_c, Dv.k_z, Dv.d_2, Dv.k_2b, Dv.k_2, Dv.w_2, Dv.d_1, Dv.k_1, Dv.w_1, Dv.w_nil, Dv.k_cb, Dv.k_c, Dv.w_cons, Dv.d_b, Dv.k_b, Dv.w_b, Dv.d_v, Dv.q_tup, Dv.q_lst, Dv.k_tup, Dv.k_lst, Dv.w_tup, Dv.w_lst, Dv.k_t, Dv.w_T, Dv.k_and, Dv.k_or, Dv.k_not, Dv.w_and, Dv.w_or, Dv.w_not, Dv.w_yes, Dv.k_andV, Dv.k_orV, Dv.k_notV, Dv.k_ifE, Dv.w_andV, Dv.w_orV, Dv.w_notV, Dv.w_ifE,
  Dv.w_tupW, Dv.k_tupW, Dv.k_finT, Dv.k_finXt, Dv.k_resW, Dv.k_backXw, Dv.k_nxt, Dv.k_asg, Dv.k_asgN, Dv.w_asg, Dv.w_name, Dv.k_own, Dv.w_own, Dv.k_put, Dv.q_par, Dv.k_par, Dv.w_par, Dv.k_drop, Dv.k_ret, Dv.w_drop, Dv.w_ret, Dv.w_next, Dv.w_seq, Dv.k_nx, Dv.k_rt, Dv.k_bk, Dv.k_ct, Dv.k_if, Dv.w_if, Dv.k_setB, Dv.k_set, Dv.w_setI, Dv.k_non, Dv.k_om, Dv.k_omN, Dv.w_om, Dv.w_om0, Dv.d_s, Dv.k_slc, Dv.k_slb, Dv.k_sl, Dv.w_sl, Dv.w_noP, Dv.k_pt, Dv.w_pt, Dv.w_isi, Dv.k_call, Dv.q_arg, Dv.k_back, Dv.k_resF, Dv.k_resT, Dv.w_call, Dv.k_lc, Dv.k_lc2, Dv.k_lc3, Dv.w_lc, Dv.k_for, Dv.w_for, Dv.w_while, Dv.q_r1, Dv.k_r1, Dv.w_range1, Dv.k_il, Dv.k_ilN, Dv.w_iterL, Dv.k_it, Dv.w_iterT, Dv.k_lnx, Dv.k_lct, Dv.k_lbk, Dv.k_lrt, Dv.k_lb, Dv.k_v3, Dv.k_v2, Dv.k_v2n, Dv.k_v1, Dv.k_v0, Dv.k_wnx, Dv.k_wct, Dv.k_wbk, Dv.k_wrt, Dv.k_wc, Dv.k_ix, Dv.k_ixI, Dv.w_ixL, Dv.w_ixT, Dv.w_ixS, Dv.k_cx, Dv.w_put0, Dv.w_putS, Dv.k_o1, Dv.k_io, Dv.w_upo, Dv.w_upi, Dv.w_upS, Dv.k_st, Dv.w_setF, Dv.w_app, Dv.w_ext, Dv.k_wp, Dv.w_wipe0, Dv.w_wipe1, Dv.k_outs, Dv.w_con, Dv.w_outs0, Dv.w_outs1, Dv.k_dr, Dv.w_drop0, Dv.w_drop1, Dv.k_callM, Dv.q_argM, Dv.k_backM, Dv.k_resMF, Dv.k_resMT, Dv.w_callM, Dv.w_mv, Dv.q_en, Dv.k_en, Dv.w_enum, Dv.q_zp, Dv.k_zp, Dv.w_zip, Dv.q_rv, Dv.k_rv, Dv.w_rev, Dv.q_r2, Dv.k_r2, Dv.w_range2, Dv.q_r3, Dv.k_r3, Dv.w_range3, Dv.k_gc, Dv.w_gcons, Dv.w_gnil, Dv.w_gtup, Dv.k_jnx, Dv.k_jrt, Dv.k_jbk, Dv.k_jct, Dv.w_loop0, Dv.w_loop1, Dv.k_tgt, Dv.k_tnx, Dv.k_tct, Dv.k_tbk, Dv.k_trt, Dv.free_keep, Dv.keep_no, Dv.keep_fz, Dv.keep_o1, Dv.gAdd_lst, Dv.gMul_lst, Dv.rangeD_1, Dv.rangeD_2, Dv.rangeD_3, Dv.rangeD_4, Dv.gEq_Lm, Dv.gNe_Lm, Dv.gEq_Ln, Dv.gNe_Ln, Dv.noL, Dv.noLs, Bool.not_true, Bool.not_false, Bool.false_or, Bool.or_false, if_true, if_false, Dv.free_no, Dv.free_fz, Dv.free_o1, Dv.k_finN, Dv.k_finV, Dv.k_finW, Dv.k_finS,
  Dv.gIs_bl, Dv.gIsnt_bl, Dv.gIs_no, Dv.gIsnt_no, Dv.gEq_bl, Dv.gNe_bl, Dv.isNon, Dv.gEq_int, Dv.gNe_int, Dv.gAdd_int, Dv.gSub_int, Dv.gMul_int, Dv.gDiv_int, Dv.w_nilA, Dv.w_consP, Dv.k_CP, Dv.w_consX, Dv.k_CXe, Dv.k_CXv, Dv.k_CXn, Dv.k_PRe, Dv.k_PRv, Dv.k_PRn, Dv.w_tupX, Dv.k_tupXe, Dv.k_tupXo, Dv.w_2R, Dv.k_2R, Dv.k_2Re, Dv.k_2Rv, Dv.w_lcX, Dv.k_lcX, Dv.k_lcX2, Dv.k_lcX3o, Dv.k_lcX3e, Dv.gMod_int, Dv.gPow_int, Dv.gLt_int, Dv.gLe_int, Dv.gGt_int, Dv.gGe_int, Dv.gNeg, Dv.isi_int_non, Dv.isi_int_bl, Dv.isi_int_int, Dv.isi_int_str, Dv.isi_int_lst, Dv.isi_int_tup, Dv.isi_bool_non, Dv.isi_bool_bl, Dv.isi_bool_int, Dv.isi_bool_str, Dv.isi_bool_lst, Dv.isi_bool_tup, Dv.isi_tuple_non, Dv.isi_tuple_bl, Dv.isi_tuple_int, Dv.isi_tuple_str, Dv.isi_tuple_lst, Dv.isi_tuple_tup, Dv.isi_list_non, Dv.isi_list_bl, Dv.isi_list_int, Dv.isi_list_str, Dv.isi_list_lst, Dv.isi_list_tup, Dv.isi_str_non, Dv.isi_str_bl, Dv.isi_str_int, Dv.isi_str_str, Dv.isi_str_lst, Dv.isi_str_tup, Dv.gLen, Dv.gAbs, Dv.gMax2, Dv.gMin2, Dv.gInt, Dv.gList, Dv.gSlL,
  Dv.ok_some, Dv.ok_none, Dv.ok_guard, Dv.deref, Dv.frz, Dv.derefs, Dv.allVal, Dv.outF, Dv.outE, Dv.ioIx, Dv.argD, Dv.isOwn_0, Dv.isOwn_s, Dv.atI_0, Dv.atI_1, Dv.atI_2, Dv.atI_3, Dv.atI_4, Dv.atI_5, Dv.atI_6, Dv.atI_7, Dv.atI_neg, Dv.ixN20, Dv.ixN30, Dv.ixN31, Dv.ixN32, Dv.ixN21, Dv.restE,
  Option.bind_some, Option.bind_none, Option.map_some, List.replicate, List.cons_append, List.nil_append, List.getElem?_cons_zero, List.getElem?_cons_succ, decide_eq_true_eq, decide_eq_false_iff_not, Bool.not_eq_true', Bool.not_eq_false', forall_const, List.length_cons, List.length_nil, List.length_map, Int.toNat_natCast, Int.zero_add, Nat.zero_add, List.set_cons_zero, List.set_cons_succ, Nat.reduceAdd, Int.reduceToNat, Int.reducePow, Int.cast_ofNat_Int, Int.reduceEq, eq_self, not_true_eq_false, Int.reduceLE, Nat.reduceLeDiff, Int.reduceNeg, true_and, and_true, List.nodup_nil, List.nodup_cons, List.isEmpty_nil, List.isEmpty_cons, Bool.true_or, Bool.and_self, List.all_nil, List.all_cons, implies_true, List.not_mem_nil, not_false_eq_true, decide_true, Bool.true_and, Bool.and_true, reduceCtorEq, false_implies])
local macro_rules | `(tactic| walk_at "evk") => `(tactic| simp only [Dv.w_callN2, Dv.k_callN2, Dv.w_chn, Dv.k_ch1, Dv.k_ch2, Dv.k_ch3, Dv.w_s1, Dv.k_s1, Dv.k_s2, Dv.d_s1, Dv.w_iterS, Dv.k_itS, Dv.gInSigF, Dv.gInSigT, Dv.gLenS, Dv.gAddS, Dv.gSlS, Dv.gSplit, Dv.gPart, Dv.gEqS_txt, Dv.gNeS_txt, Dv.dct_0I, Dv.dct_sI, Dv.w_dnewI, Dv.keyI_1, Dv.q_dixI, Dv.k_dixI, Dv.w_dixI, Dv.q_dg2I, Dv.k_dg2I, Dv.q_dg1I, Dv.k_dg1I, Dv.w_dget2I, Dv.q_dinI, Dv.k_dinI, Dv.w_dinI, Dv.q_dpI, Dv.k_dp2I, Dv.k_dp2nI, Dv.k_dp1I, Dv.w_dputI, Dv.q_dmI, Dv.w_dmaxI, Dv.q_frzD, Dv.w_frzD, Dv.w_ixN, Dv.w_gtupN, Dv.k_itN, Dv.isi_tuple_nt, Dv.q_frz, Dv.w_frz, Dv.q_forApp, Dv.w_forApp, Dv.k_ownXe, Dv.k_ownXn, Dv.w_ownX, Dv.w_gunl, Dv.gInT_2, Dv.gNotInT_2, Dv.q_o2v, Dv.k_o2v, Dv.w_o2v, Dv.w_nilN, Dv.k_consN2, Dv.k_consN, Dv.w_consN, Dv.k_ls2, Dv.w_ls2, Dv.q_o2, Dv.k_o2, Dv.k_o2b, Dv.w_o2, Dv.q_lend2, Dv.k_lend2, Dv.w_lend2, Dv.nn_nw, Dv.nn_no, Dv.nn_fz, Dv.nn_o1, Dv.nn_io, Dv.mapL_c, Dv.mapL_n, Dv.m_nw, Dv.dct_0, Dv.dct_s, Dv.free_nw, Dv.keep_nw, Dv.w_dnew, Dv.q_tupN, Dv.k_tupN, Dv.w_tupN, Dv.w_varN, Dv.key_2, Dv.k_v, Dv.q_dix, Dv.k_dix, Dv.w_dix, Dv.q_dg2, Dv.k_dg2, Dv.q_dg1, Dv.k_dg1, Dv.w_dget2, Dv.q_din, Dv.k_din, Dv.w_din, Dv.q_dp, Dv.k_dp2, Dv.k_dp2n, Dv.k_dp1, Dv.w_dput, Dv.q_ds2, Dv.q_ds, Dv.w_dsort, Dv.encK_len, Dv.kVal_enc, Dv.pairK_enc, Dv.pD_R, Option.isSome_some, Dv.k_putB, Dv.q_par3, Dv.k_par3, Dv.w_par3, Dv.dropL_eq, Dv.k_pop2, Dv.k_pop1, Dv.q_pop, Dv.w_pop, Dv.k_ownVn, Dv.k_ownVv, Dv.w_ownV, Dv.q_lend, Dv.k_lend, Dv.w_lend, Dv.m_fz, Dv.m_no, Dv.m_oo, Dv.m_ii, Dv.m_of, Dv.o_fz, Dv.o_no, Dv.o_o1, Dv.o_io, Dv.n_val, Dv.n_new, List.zipWith_cons_cons, List.zipWith_nil_left, Dv.k_backNF, Dv.k_backNT, Dv.k_callN, Dv.w_callN, Dv.gSortSet_R, Dv.gSlT, Dv.gRevL, Dv.k_isE, Dv.w_isE, Dv.k_m1b, Dv.q_m1, Dv.k_m1, Dv.w_m1, Dv.w_raise, Dv.k_dropXe, Dv.k_dropXv, Dv.k_dropXn, Dv.w_dropX, Dv.k_asgXe, Dv.k_asgXv, Dv.k_asgXn, Dv.w_asgX, Dv.k_backXe, Dv.k_backXv, Dv.k_backXn, Dv.q_argX, Dv.k_callX, Dv.w_callX, Dv.k_rxv, Dv.k_rxn, Dv.k_hnd, Dv.k_tryE, Dv.k_tryV, Dv.k_tryW, Dv.k_tryN, Dv.w_try, Dv.k_finE, Dv.k_finXo, Dv.k_finXw, Dv.k_finXn, Dv.w_var, Dv.w_c, Dv.k_z, Dv.d_2, Dv.k_2b, Dv.k_2, Dv.w_2, Dv.d_1, Dv.k_1, Dv.w_1, Dv.w_nil, Dv.k_cb, Dv.k_c, Dv.w_cons, Dv.d_b, Dv.k_b, Dv.w_b, Dv.d_v, Dv.q_tup, Dv.q_lst, Dv.k_tup, Dv.k_lst, Dv.w_tup, Dv.w_lst, Dv.k_t, Dv.w_T, Dv.k_and, Dv.k_or, Dv.k_not, Dv.w_and, Dv.w_or, Dv.w_not, Dv.w_yes, Dv.k_andV, Dv.k_orV, Dv.k_notV, Dv.k_ifE, Dv.w_andV, Dv.w_orV, Dv.w_notV, Dv.w_ifE,
  Dv.w_tupW, Dv.k_tupW, Dv.k_finT, Dv.k_finXt, Dv.k_resW, Dv.k_backXw, Dv.k_nxt, Dv.k_asg, Dv.k_asgN, Dv.w_asg, Dv.w_name, Dv.k_own, Dv.w_own, Dv.k_put, Dv.q_par, Dv.k_par, Dv.w_par, Dv.k_drop, Dv.k_ret, Dv.w_drop, Dv.w_ret, Dv.w_next, Dv.w_seq, Dv.k_nx, Dv.k_rt, Dv.k_bk, Dv.k_ct, Dv.k_if, Dv.w_if, Dv.k_setB, Dv.k_set, Dv.w_setI, Dv.k_non, Dv.k_om, Dv.k_omN, Dv.w_om, Dv.w_om0, Dv.d_s, Dv.k_slc, Dv.k_slb, Dv.k_sl, Dv.w_sl, Dv.w_noP, Dv.k_pt, Dv.w_pt, Dv.w_isi, Dv.k_call, Dv.q_arg, Dv.k_back, Dv.k_resF, Dv.k_resT, Dv.w_call, Dv.k_lc, Dv.k_lc2, Dv.k_lc3, Dv.w_lc, Dv.k_for, Dv.w_for, Dv.w_while, Dv.q_r1, Dv.k_r1, Dv.w_range1, Dv.k_il, Dv.k_ilN, Dv.w_iterL, Dv.k_it, Dv.w_iterT, Dv.k_lnx, Dv.k_lct, Dv.k_lbk, Dv.k_lrt, Dv.k_lb, Dv.k_v3, Dv.k_v2, Dv.k_v2n, Dv.k_v1, Dv.k_v0, Dv.k_wnx, Dv.k_wct, Dv.k_wbk, Dv.k_wrt, Dv.k_wc, Dv.k_ix, Dv.k_ixI, Dv.w_ixL, Dv.w_ixT, Dv.w_ixS, Dv.k_cx, Dv.w_put0, Dv.w_putS, Dv.k_o1, Dv.k_io, Dv.w_upo, Dv.w_upi, Dv.w_upS, Dv.k_st, Dv.w_setF, Dv.w_app, Dv.w_ext, Dv.k_wp, Dv.w_wipe0, Dv.w_wipe1, Dv.k_outs, Dv.w_con, Dv.w_outs0, Dv.w_outs1, Dv.k_dr, Dv.w_drop0, Dv.w_drop1, Dv.k_callM, Dv.q_argM, Dv.k_backM, Dv.k_resMF, Dv.k_resMT, Dv.w_callM, Dv.w_mv, Dv.q_en, Dv.k_en, Dv.w_enum, Dv.q_zp, Dv.k_zp, Dv.w_zip, Dv.q_rv, Dv.k_rv, Dv.w_rev, Dv.q_r2, Dv.k_r2, Dv.w_range2, Dv.q_r3, Dv.k_r3, Dv.w_range3, Dv.k_gc, Dv.w_gcons, Dv.w_gnil, Dv.w_gtup, Dv.k_jnx, Dv.k_jrt, Dv.k_jbk, Dv.k_jct, Dv.w_cut, Dv.k_tgt, Dv.k_tnx, Dv.k_tct, Dv.k_tbk, Dv.k_trt, Dv.free_keep, Dv.keep_no, Dv.keep_fz, Dv.keep_o1, Dv.gAdd_lst, Dv.gMul_lst, Dv.gEq_Lm, Dv.gNe_Lm, Dv.gEq_Ln, Dv.gNe_Ln, Dv.noL, Dv.noLs, Bool.not_true, Bool.not_false, Bool.false_or, Bool.or_false, if_true, if_false, Dv.free_no, Dv.free_fz, Dv.free_o1, Dv.k_finN, Dv.k_finV, Dv.k_finW, Dv.k_finS,
  Dv.gIs_bl, Dv.gIsnt_bl, Dv.gIs_no, Dv.gIsnt_no, Dv.gEq_bl, Dv.gNe_bl, Dv.isNon, Dv.gEq_int, Dv.gNe_int, Dv.gAdd_int, Dv.gSub_int, Dv.gMul_int, Dv.gDiv_int, Dv.w_nilA, Dv.w_consP, Dv.k_CP, Dv.w_consX, Dv.k_CXe, Dv.k_CXv, Dv.k_CXn, Dv.k_PRe, Dv.k_PRv, Dv.k_PRn, Dv.w_tupX, Dv.k_tupXe, Dv.k_tupXo, Dv.w_2R, Dv.k_2R, Dv.k_2Re, Dv.k_2Rv, Dv.w_lcX, Dv.k_lcX, Dv.k_lcX2, Dv.k_lcX3o, Dv.k_lcX3e, Dv.gMod_int, Dv.gPow_int, Dv.gLt_int, Dv.gLe_int, Dv.gGt_int, Dv.gGe_int, Dv.gNeg, Dv.isi_int_non, Dv.isi_int_bl, Dv.isi_int_int, Dv.isi_int_str, Dv.isi_int_lst, Dv.isi_int_tup, Dv.isi_bool_non, Dv.isi_bool_bl, Dv.isi_bool_int, Dv.isi_bool_str, Dv.isi_bool_lst, Dv.isi_bool_tup, Dv.isi_tuple_non, Dv.isi_tuple_bl, Dv.isi_tuple_int, Dv.isi_tuple_str, Dv.isi_tuple_lst, Dv.isi_tuple_tup, Dv.isi_list_non, Dv.isi_list_bl, Dv.isi_list_int, Dv.isi_list_str, Dv.isi_list_lst, Dv.isi_list_tup, Dv.isi_str_non, Dv.isi_str_bl, Dv.isi_str_int, Dv.isi_str_str, Dv.isi_str_lst, Dv.isi_str_tup, Dv.gLen, Dv.gAbs, Dv.gMax2, Dv.gMin2, Dv.gInt, Dv.gList, Dv.gSlL,
  Dv.ok_some, Dv.ok_none, Dv.ok_guard, Dv.deref, Dv.frz, Dv.derefs, Dv.allVal, Dv.outF, Dv.outE, Dv.ioIx, Dv.argD, Dv.isOwn_0, Dv.isOwn_s, Dv.atI_0, Dv.atI_1, Dv.atI_2, Dv.atI_3, Dv.atI_4, Dv.atI_5, Dv.atI_6, Dv.atI_7, Dv.atI_neg, Dv.ixN20, Dv.ixN30, Dv.ixN31, Dv.ixN32, Dv.ixN21, Dv.restE,
  Option.bind_some, Option.bind_none, Option.map_some, List.replicate, List.cons_append, List.nil_append, List.getElem?_cons_zero, List.getElem?_cons_succ, decide_eq_true_eq, decide_eq_false_iff_not, Bool.not_eq_true', Bool.not_eq_false', forall_const, List.length_cons, List.length_nil, List.length_map, Int.toNat_natCast, Int.zero_add, Nat.zero_add, List.set_cons_zero, List.set_cons_succ, Nat.reduceAdd, Int.reduceToNat, Int.reducePow, Int.cast_ofNat_Int, Int.reduceEq, eq_self, not_true_eq_false, Int.reduceLE, Nat.reduceLeDiff, Int.reduceNeg, true_and, and_true, List.nodup_nil, List.nodup_cons, List.isEmpty_nil, List.isEmpty_cons, Bool.true_or, Bool.and_self, List.all_nil, List.all_cons, implies_true, List.not_mem_nil, not_false_eq_true, decide_true, Bool.true_and, Bool.and_true, reduceCtorEq, false_implies])
namespace Lw
open PySem L2 Dv
def Purse (n : Nat) (a b c : Int) : Prop := 0 ≤ a ∧ 0 ≤ b ∧ b < 2147483647 ∧ 0 ≤ c ∧ c ≤ n
theorem Purse.mono {n m : Nat} {a b c : Int} (h : Purse n a b c) (hm : n ≤ m) : Purse m a b c := ⟨h.1, h.2.1, h.2.2.1, h.2.2.2.1, by have := h.2.2.2.2; omega⟩
theorem purse_ok {P : D × Bool × List (List D) → Prop} (ns : List Int) (hb : ∀ z, z ∈ ns → z.natAbs.log2 ≤ 1048576) (k : Int) (hk : 0 ≤ k) (hk2 : k ≤ 1000)
    (q : ∀ a b, Purse 0 a b 0 → P (.lst [.int a, .int b, .int 0], true, [])) : Ok (ev__law_purse [.scr ns, .int k]) P := by
  unfold ev__law_purse b__law_purse
  rw [w_def rfl]
  walk_at "evj"
  refine cut_seq (fun e => ∃ c : Int, c.natAbs.log2 ≤ 1048576 ∧ e = [.fz (.scr ns), .fz (.int k), .fz (.int c), .no]) ?_ ?_
  · walk_at "evj"
    refine ⟨fun h => ok_atI hk h fun b hm => ?_, fun _ => ⟨0, by decide, rfl⟩⟩
    walk_at "evj"
    exact ⟨_, hb _ (List.mem_of_getElem? hm), rfl⟩
  rintro e ⟨c, hcb, rfl⟩
  walk_at "evj"
  have hc := fmod_nn (a := c) (b := 2147483647) (by decide)
  have hb := fmod_nn (a := c.fmod 2147483647 + 7919 * k + 17) (b := 2147483647) (by decide)
  have ha : 0 ≤ (if c < 0 then -c else c) ∧ (if c < 0 then -c else c).natAbs.log2 ≤ 1048576 := by
    split
    · rw [Int.natAbs_neg]
      exact ⟨by omega, hcb⟩
    · exact ⟨by omega, hcb⟩
  generalize (if c < 0 then -c else c) = f at ha
  refine ⟨by decide, ?_⟩
  have done : ∀ z : Int, (z = 0 ∨ z = 1) → (mulB f z = true ∧ modB c 2147483647 = true ∧ mulB 7919 k = true ∧ modB (c.fmod 2147483647 + 7919 * k + 17) 2147483647 = true ∧ P (D.lst [D.int (f * z), D.int ((c.fmod 2147483647 + 7919 * k + 17).fmod 2147483647), D.int 0], true, [])) := fun z hz => by
    refine ⟨mul_bit ha.2 (by rcases hz with rfl | rfl <;> decide), modB_of (by decide), mul40 (by omega) (by omega) (by omega) (by omega), modB_of (by decide), q _ _ ⟨?_, hb.1, hb.2, by decide, by decide⟩⟩
    rcases hz with rfl | rfl
    · simp
    · rw [Int.mul_one]
      exact ha.1
  exact done _ (by split <;> simp)
theorem nat57 {b c : Int} (h1 : 0 ≤ b) (h2 : b < 2147483647) (h3 : 0 ≤ c) (h4 : c ≤ 1000000) : (b + 48271 * c * c + 1).natAbs < 2 ^ 70 := by
  have h5 : 48271 * c * c ≤ 48271 * 1000000 * 1000000 := Int.mul_le_mul (by omega) h4 h3 (by decide)
  have h6 : 0 ≤ 48271 * c * c := Int.mul_nonneg (by omega) h3
  omega
theorem ptake_ok {P : D × Bool × List (List D) → Prop} {n : Nat} (a b c many : Int) (h : Purse n a b c) (hn : n < 1000000) (hm : 0 < many) (hm2 : many ≤ 10 ^ 40)
    (q : ∀ a' b' c' d, 0 ≤ d → d < many → Purse (n + 1) a' b' c' → P (.int d, false, [[.int a', .int b', .int c']])) : Ok (ev__law_take [.lst [.int a, .int b, .int c], .int many]) P := by
  obtain ⟨h1, h2, h3, h4, h5⟩ := h
  unfold ev__law_take b__law_take
  rw [w_def rfl]
  walk_at "ev"
  refine ⟨fun _ => ⟨modB_of (by omega), div40 hm hm2, ?_⟩, fun _ => ?_⟩
  · have f := fmod_nn (a := a) hm
    exact q _ _ _ _ f.1 f.2 ⟨fdiv_nn h1 hm, h2, h3, h4, by omega⟩
  · have hc : 0 ≤ c + 1 ∧ c + 1 ≤ 1000000 := by omega
    have z1 := nat57 h2 h3 hc.1 hc.2
    have h6 : 48271 * (c + 1) ≤ 48271 * 1000000 := by omega
    refine ⟨mul40 (by omega) (by omega) (by omega) (by omega), mul40 (by omega) (by omega) (by omega) (by omega), powB_of (n := 5) z1 (by decide), modB_of (by decide), ?_⟩
    have f := fmod_nn (a := (b + 48271 * (c + 1) * (c + 1) + 1) ^ 5) (b := 2147483647) (by decide)
    generalize ((b + 48271 * (c + 1) * (c + 1) + 1) ^ 5).fmod 2147483647 = o at f
    have z2 : (o * (2 * (c + 1) + 30011) + (c + 1)).natAbs < 2 ^ 70 := by
      have y1 : o * (2 * (c + 1) + 30011) ≤ 2147483647 * 3000000 := Int.mul_le_mul (by omega) (by omega) (by omega) (by decide)
      have y2 : 0 ≤ o * (2 * (c + 1) + 30011) := Int.mul_nonneg f.1 (by omega)
      omega
    refine ⟨mul40 (by omega) (by omega) (by omega) (by omega), mul40 (by omega) (by omega) (by omega) (by omega), powB_of (n := 3) z2 (by decide), modB_of (by decide), mul40 (by omega) (by omega) (by omega) (by omega), div40 (by decide) (by decide), modB_of (by omega), ?_⟩
    have g := fmod_nn (a := ((o * 998244353 + ((o * (2 * (c + 1) + 30011) + (c + 1)) ^ 3).fmod 998244353).fdiv 1009)) hm
    exact q _ _ _ _ g.1 g.2 ⟨h1, h2, h3, hc.1, by omega⟩
end Lw
namespace Lw
open PySem L2 Dv
def gS (t b : Int) : Int := if b < 0 then 0 - (Int.gcd t b : Nat) else (Int.gcd t b : Nat)
def lowR (t b : Int) : R := (t.fdiv (gS t b), b.fdiv (gS t b))
def isR (p : R) : Bool := decide (0 < p.2) && decide (Int.gcd p.1 p.2 = 1)
theorem gcd_le {t b : Int} (h : b ≠ 0) : (Int.gcd t b : Nat) ≤ b.natAbs := Nat.le_of_dvd (by omega) (Int.gcd_dvd_natAbs_right t b)
theorem gcd_pos {t b : Int} (h : b ≠ 0) : 0 < Int.gcd t b := Nat.pos_of_ne_zero fun z => by
  rw [Int.gcd_eq_zero_iff] at z
  exact h z.2
theorem gS_ne {t b : Int} (h : b ≠ 0) : gS t b ≠ 0 := by
  have := gcd_pos (t := t) h
  unfold gS
  split <;> omega
theorem fdiv_exact {a g : Int} (h : g ∣ a) (hg : g ≠ 0) : a.fdiv g * g = a := by
  obtain ⟨c, rfl⟩ := h
  rw [Int.mul_comm g c, Int.mul_fdiv_cancel _ hg]
theorem gS_dvd_l (t b : Int) : gS t b ∣ t := by
  unfold gS
  split
  · rw [Int.zero_sub]
    exact Int.neg_dvd.mpr (Int.gcd_dvd_left ..)
  · exact Int.gcd_dvd_left ..
theorem gS_dvd_r (t b : Int) : gS t b ∣ b := by
  unfold gS
  split
  · rw [Int.zero_sub]
    exact Int.neg_dvd.mpr (Int.gcd_dvd_right ..)
  · exact Int.gcd_dvd_right ..
/-- what a ratio in lowest terms is -/
theorem lowR_spec {t b : Int} (h : b ≠ 0) : (lowR t b).1 * gS t b = t ∧ (lowR t b).2 * gS t b = b ∧ isR (lowR t b) = true := by
  have h1 := fdiv_exact (gS_dvd_l t b) (gS_ne (t := t) h)
  have h2 := fdiv_exact (gS_dvd_r t b) (gS_ne (t := t) h)
  refine ⟨h1, h2, ?_⟩
  unfold isR
  rw [Bool.and_eq_true, decide_eq_true_eq, decide_eq_true_eq]
  have g0 := gcd_pos (t := t) h
  constructor
  · show 0 < b.fdiv (gS t b)
    apply Classical.byContradiction
    intro z
    have z' : b.fdiv (gS t b) ≤ 0 := by omega
    unfold gS at h2 z'
    split at h2
    · rename_i c
      rw [if_pos c] at z'
      have : 0 ≤ b.fdiv (0 - ((Int.gcd t b : Nat) : Int)) * (0 - ((Int.gcd t b : Nat) : Int)) := Int.mul_nonneg_of_nonpos_of_nonpos z' (by omega)
      omega
    · rename_i c
      rw [if_neg c] at z'
      have : b.fdiv ((Int.gcd t b : Nat) : Int) * ((Int.gcd t b : Nat) : Int) ≤ 0 := Int.mul_nonpos_of_nonpos_of_nonneg z' (by omega)
      omega
  · have e : Int.gcd t b = Int.gcd (lowR t b).1 (lowR t b).2 * (gS t b).natAbs := by
      have : Int.gcd ((lowR t b).1 * gS t b) ((lowR t b).2 * gS t b) = Int.gcd (lowR t b).1 (lowR t b).2 * (gS t b).natAbs := Int.gcd_mul_right ..
      rw [← this]
      show Int.gcd t b = Int.gcd (t.fdiv (gS t b) * gS t b) (b.fdiv (gS t b) * gS t b)
      rw [h1, h2]
    have e2 : (gS t b).natAbs = Int.gcd t b := by
      unfold gS
      split <;> omega
    rw [e2] at e
    have e3 : 1 * Int.gcd t b = Int.gcd (lowR t b).1 (lowR t b).2 * Int.gcd t b := by rw [Nat.one_mul]; exact e
    exact (Nat.eq_of_mul_eq_mul_right g0 e3).symm
theorem lowR_le {t b : Int} (h : b ≠ 0) : (lowR t b).1.natAbs ≤ t.natAbs ∧ (lowR t b).2.natAbs ≤ b.natAbs := by
  obtain ⟨h1, h2, _⟩ := lowR_spec (t := t) h
  have g := gS_ne (t := t) h
  have e1 : (lowR t b).1.natAbs * (gS t b).natAbs = t.natAbs := by rw [← Int.natAbs_mul, h1]
  have e2 : (lowR t b).2.natAbs * (gS t b).natAbs = b.natAbs := by rw [← Int.natAbs_mul, h2]
  have g1 : 1 ≤ (gS t b).natAbs := by omega
  exact ⟨by rw [← e1]; exact Nat.le_mul_of_pos_right _ g1, by rw [← e2]; exact Nat.le_mul_of_pos_right _ g1⟩
theorem isR_pos {p : R} (h : isR p = true) : 0 < p.2 ∧ Int.gcd p.1 p.2 = 1 := by
  unfold isR at h
  rw [Bool.and_eq_true, decide_eq_true_eq, decide_eq_true_eq] at h
  exact h
theorem share_eq (a b : Int) : ev__law_share [.int a, .int b] = some (.int (Int.gcd a b : Nat), false, []) := by
  have key : Ok (ev__law_share [.int a, .int b]) fun r => r = (.int (Int.gcd a b : Nat), false, []) := by
    unfold ev__law_share b__law_share
    rw [w_def rfl]
    walk_at "ev"
    have ha : (if a < 0 then -a else a) = (a.natAbs : Nat) := by split <;> omega
    have hb : (if b < 0 then -b else b) = (b.natAbs : Nat) := by split <;> omega
    rw [ha, hb]
    refine while_inv (fun env => ∃ x y : Nat, env = [.fz (.int x), .fz (.int y)] ∧ Nat.gcd x y = Int.gcd a b) (fun env => match env with | [_, .fz (.int y)] => y.natAbs | _ => 0) ?_ _ _ ⟨a.natAbs, b.natAbs, rfl, rfl⟩ ?_
    · rintro env ⟨x, y, rfl, h⟩
      have em : ((x : Int)).fmod (y : Int) = ((x % y : Nat) : Int) := by
        rw [Int.fmod_eq_emod_of_nonneg _ (Int.natCast_nonneg y)]
        rfl
      walk_at "ev"
      rw [em]
      refine ⟨fun hy => ⟨modB_of (by omega), ⟨y, x % y, rfl, ?_⟩, ?_⟩, fun hy => ?_⟩
      · rw [Nat.gcd_comm, ← h, ← Nat.gcd_rec, Nat.gcd_comm]
      · have := Nat.mod_lt x (show 0 < y by omega)
        rw [Int.natAbs_natCast, Int.natAbs_natCast]
        exact this
      · have : y = 0 := by omega
        subst this
        rw [Nat.gcd_zero_right] at h
        rw [h]
    · show b.natAbs < fuelE [.fz (.int a.natAbs), .fz (.int b.natAbs)]
      unfold fuelE
      simp only [List.map_cons, List.map_nil, sizeS, List.sum_cons, List.sum_nil]
      omega
  obtain ⟨r, e, h⟩ := key
  rw [e, h]
theorem divisor_eq (a b : Int) : ev_divisor [.int a, .int b] = some (.int (Int.gcd a b : Nat), false, []) := share_eq a b
def Gd (n : Nat) (p : R) : Prop := isR p = true ∧ p.1.natAbs < 2 ^ n ∧ p.2.natAbs < 2 ^ n
theorem Gd.mono {m n : Nat} {p : R} (h : Gd m p) (k : m ≤ n) : Gd n p := ⟨h.1, Nat.lt_of_lt_of_le h.2.1 (Nat.pow_le_pow_right (by decide) k), Nat.lt_of_lt_of_le h.2.2 (Nat.pow_le_pow_right (by decide) k)⟩
theorem lowR_gd {t b : Int} {n : Nat} (h : b ≠ 0) (ht : t.natAbs < 2 ^ n) (hb : b.natAbs < 2 ^ n) : Gd n (lowR t b) :=
  ⟨(lowR_spec h).2.2, Nat.lt_of_le_of_lt (lowR_le h).1 ht, Nat.lt_of_le_of_lt (lowR_le h).2 hb⟩
abbrev Trm := Int × Int × R
def encT (t : Trm) : D := .tup [.int t.1, .int t.2.1, encR t.2.2]
def keyT (t : Trm) : R := (t.1, t.2.1)
theorem shp_T (t : Trm) : Shp 2 (encT t) := shp_tup fun d h => by
  simp only [List.mem_cons, List.not_mem_nil, or_false] at h
  rcases h with rfl | rfl | rfl
  · exact Shp.mono shp_int (by decide)
  · exact Shp.mono shp_int (by decide)
  · exact shp_R _
theorem eqD_T (a b : Trm) : eqD (encT a) (encT b) = decide (a = b) := by
  unfold encT
  rw [eqD_tup, eqA_cons, eqA_cons, eqA_cons, eqA_nil, eqD_R, eqD_int, eqD_int, Bool.and_true, ← Bool.decide_and, ← Bool.decide_and, decide_eq_decide]
  exact ⟨fun h => Prod.ext h.1 (Prod.ext h.2.1 h.2.2), fun h => by rw [h]; exact ⟨rfl, rfl, rfl⟩⟩
theorem shp_Ts (xs : List Trm) : shp (.lst (xs.map encT)) = true := shp_of (shp_lst (k := 2) fun d h => by
  obtain ⟨s, _, rfl⟩ := List.mem_map.mp h
  exact shp_T s) (by decide)
theorem gNe_Tm (xs ys : List Trm) : gNe (.lst (xs.map encT)) (.lst (ys.map encT)) = some (.val (.bl (!decide (xs = ys)))) := gNe_of (shp_Ts xs) (shp_Ts ys) (by rw [eqD_lst, eqA_map eqD_T])
theorem gEq_Tm (xs ys : List Trm) : gEq (.lst (xs.map encT)) (.lst (ys.map encT)) = some (.val (.bl (decide (xs = ys)))) := gEq_of (shp_Ts xs) (shp_Ts ys) (by rw [eqD_lst, eqA_map eqD_T])
end Lw
namespace Lw
open PySem L2 Dv
def Near (m : Int) (p : R) : Prop := -m ≤ p.1 ∧ p.1 ≤ m ∧ -m ≤ p.2 ∧ p.2 ≤ m
theorem gNe_R (p q : R) : gNe (encR p) (encR q) = some (.val (.bl (!decide (p = q)))) := gNe_of (shp_of (shp_R p) (by decide)) (shp_of (shp_R q) (by decide)) (eqD_R p q)
theorem insP_len (p : R) : ∀ l : List R, (insP p l).length ≤ l.length + 1
  | [] => Nat.le_refl _
  | q :: l => by
    unfold insP
    split
    · exact Nat.le_succ _
    · split
      · exact Nat.le_refl _
      · have := insP_len p l
        simp only [List.length_cons]
        omega
theorem srtP_len : ∀ l : List R, (srtP l).length ≤ l.length
  | [] => Nat.le_refl _
  | p :: l => by
    have h1 := insP_len p (srtP l)
    have h2 := srtP_len l
    show (insP p (srtP l)).length ≤ l.length + 1
    omega
end Lw
namespace Lw
open PySem L2 Dv
theorem low_of {t b : Int} (hb : 0 < b) : (t.fdiv (Int.gcd t b : Nat), b.fdiv (Int.gcd t b : Nat)) = lowR t b := by
  unfold lowR gS
  rw [if_neg (by omega)]
theorem low_ne {t b : Int} (hb : 0 < b) (ht : t ≠ 0) : (lowR t b).1 ≠ 0 := by
  have g := gcd_pos (t := t) (b := b) (by omega)
  have e := fdiv_exact (gS_dvd_l t b) (gS_ne (by omega))
  intro z
  have z' : t.fdiv (gS t b) = 0 := z
  rw [z', Int.zero_mul] at e
  exact ht e.symm
theorem size_at {d : Int} {P : D → Prop} (h0 : 0 ≤ d) (h1 : d < 4) (q : ∀ p : Int, 1 ≤ p → p ≤ 999999 → P (.int p)) : Ok (L2.atI [.int 3, .int 9, .int 9, .int 999999] d) P := by
  refine ok_atI h0 (by simp only [List.length_cons, List.length_nil]; omega) fun x hx => ?_
  have hm := List.mem_of_getElem? hx
  simp only [List.mem_cons, List.not_mem_nil, or_false] at hm
  rcases hm with rfl | rfl | rfl | rfl <;> exact q _ (by decide) (by decide)
theorem three_at {d s : Int} {P : D → Prop} (hs : 1 ≤ s) (hs2 : s ≤ 999999) (h0 : 0 ≤ d) (h1 : d < 3) (q : ∀ p : Int, 1 ≤ p → p ≤ 999999 → P (.int p)) : Ok (L2.atI [.int 1, .int 3, .int s] d) P := by
  refine ok_atI h0 (by simp only [List.length_cons, List.length_nil]; omega) fun x hx => ?_
  have hm := List.mem_of_getElem? hx
  simp only [List.mem_cons, List.not_mem_nil, or_false] at hm
  rcases hm with rfl | rfl | rfl
  · exact q _ (by decide) (by decide)
  · exact q _ (by decide) (by decide)
  · exact q _ hs hs2
theorem two_at {d a b : Int} {P : D → Prop} (h0 : 0 ≤ d) (h1 : d < 2) (q : ∀ p : Int, p = a ∨ p = b → P (.int p)) : Ok (L2.atI [.int a, .int b] d) P := by
  refine ok_atI h0 (by simp only [List.length_cons, List.length_nil]; omega) fun x hx => ?_
  have hm := List.mem_of_getElem? hx
  simp only [List.mem_cons, List.not_mem_nil, or_false] at hm
  rcases hm with rfl | rfl
  · exact q _ (.inl rfl)
  · exact q _ (.inr rfl)
/-- of six figures -/
def Six (p : R) : Prop := p.1.natAbs ≤ 999999 ∧ p.2 ≤ 999999
theorem natAbs_quo {t q g : Int} (h : q * g = t) (hg : g ≠ 0) : q.natAbs ≤ t.natAbs := by
  rw [← h, Int.natAbs_mul]
  exact Nat.le_mul_of_pos_right _ (by omega)
theorem six_low {t b : Int} (ht : t.natAbs ≤ 999999) (hb : 0 < b) (hb2 : b ≤ 999999) : Six (lowR t b) := by
  have e1 := natAbs_quo (fdiv_exact (gS_dvd_l t b) (gS_ne (by omega))) (gS_ne (by omega))
  have e2 := natAbs_quo (fdiv_exact (gS_dvd_r t b) (gS_ne (by omega))) (gS_ne (by omega))
  refine ⟨Nat.le_trans e1 ht, ?_⟩
  show b.fdiv (gS t b) ≤ 999999
  omega
theorem pratio_ok {P : D × Bool × List (List D) → Prop} {n : Nat} (a b c : Int) (h : Purse n a b c) (hn : n ≤ 100000)
    (q : ∀ (p : R) (a' b' c' : Int), Gd 20 p → Six p → p.1 ≠ 0 → Purse (n + 5) a' b' c' → P (encR p, false, [[.int a', .int b', .int c']])) : Ok (ev__law_ratio [.lst [.int a, .int b, .int c]]) P := by
  unfold ev__law_ratio b__law_ratio
  rw [w_def rfl]
  walk_at "ev"
  refine ptake_ok a b c 4 h (by omega) (by decide) (by decide) fun a1 b1 c1 d1 g1 g2 h1 => ?_
  walk_at "ev"
  refine size_at g1 g2 fun s s1 s2 => ?_
  walk_at "ev"
  refine ptake_ok a1 b1 c1 s h1 (by omega) (by omega) (by omega) fun a2 b2 c2 d2 g3 g4 h2 => ?_
  walk_at "ev"
  refine ptake_ok a2 b2 c2 3 h2 (by omega) (by decide) (by decide) fun a3 b3 c3 d3 g5 g6 h3 => ?_
  walk_at "ev"
  refine three_at s1 s2 g5 g6 fun m m1 m2 => ?_
  walk_at "ev"
  refine ptake_ok a3 b3 c3 m h3 (by omega) (by omega) (by omega) fun a4 b4 c4 d4 g7 g8 h4 => ?_
  walk_at "ev"
  refine ok_eq (share_eq _ _) ?_
  walk_at "ev"
  refine ptake_ok a4 b4 c4 2 h4 (by omega) (by decide) (by decide) fun a5 b5 c5 d5 g9 g10 h5 => ?_
  walk_at "ev"
  refine two_at g9 g10 fun t ht => ?_
  walk_at "ev"
  have gp := gcd_pos (t := 1 + d2) (b := 1 + d4) (by omega)
  have gl := gcd_le (t := 1 + d2) (b := 1 + d4) (by omega)
  have eg : Int.gcd (1 + d2) (1 + d4) = Int.gcd t (1 + d4) := by
    rcases ht with rfl | rfl
    · rfl
    · rw [Int.zero_sub, Int.neg_gcd]
  refine ⟨div40 (by omega) (by omega), div40 (by omega) (by omega), ?_⟩
  rw [eg]
  have e := low_of (t := t) (b := 1 + d4) (by omega)
  have r : D.tup [D.int (t.fdiv (Int.gcd t (1 + d4) : Nat)), D.int ((1 + d4).fdiv (Int.gcd t (1 + d4) : Nat))] = encR (lowR t (1 + d4)) := by
    rw [← e]
    rfl
  rw [r]
  exact q _ _ _ _ (lowR_gd (by omega) (by omega) (by omega)) (six_low (by omega) (by omega) (by omega)) (low_ne (by omega) (by omega)) (h5.mono (by omega))
theorem mLen_ge {α : Type} (m : List (R × α)) (k : R) (x : α) : 1 ≤ (mPut m k x).length ∧ m.length ≤ (mPut m k x).length := by
  unfold mPut
  split
  · rename_i h
    rw [List.length_map]
    refine ⟨?_, Nat.le_refl _⟩
    cases m with
    | nil => cases h
    | cons a l => simp
  · rw [List.length_append]
    simp
theorem mVal_mem {α : Type} {m : List (R × α)} {k : R} (h : k ∈ m.map (·.1)) : ∃ p, p ∈ m ∧ p.1 = k ∧ mVal m k = some p.2 := by
  unfold mVal
  cases e : m.find? fun p => decide (p.1 = k) with
  | none =>
    obtain ⟨p, hp, hk⟩ := List.mem_map.mp h
    have := List.find?_eq_none.mp e p hp
    simp [hk] at this
  | some p => exact ⟨p, List.mem_of_find?_eq_some e, by simpa using List.find?_some e, rfl⟩
theorem mem_mPut {α : Type} {m : List (R × α)} {k : R} {x : α} {p : R × α} (h : p ∈ mPut m k x) : p = (k, x) ∨ p ∈ m := by
  unfold mPut at h
  split at h
  · obtain ⟨q, hq, e⟩ := List.mem_map.mp h
    split at e
    · rename_i c
      rw [c] at e
      exact .inl e.symm
    · rw [← e]
      exact .inr hq
  · rcases List.mem_append.mp h with z | z
    · exact .inr z
    · exact .inl (List.mem_singleton.mp z)
def STrm (t : Trm) : Prop := Near 6 (keyT t) ∧ (Gd 20 t.2.2 ∧ Six t.2.2) ∧ t.2.2.1 ≠ 0
theorem far6_at {d : Int} {P : D → Prop} (h0 : 0 ≤ d) (h1 : d < 4) (q : ∀ p : Int, 1 ≤ p → p ≤ 6 → P (.int p)) : Ok (L2.atI [.int 1, .int 2, .int 3, .int 6] d) P := by
  refine ok_atI h0 (by simp only [List.length_cons, List.length_nil]; omega) fun x hx => ?_
  have hm := List.mem_of_getElem? hx
  simp only [List.mem_cons, List.not_mem_nil, or_false] at hm
  rcases hm with rfl | rfl | rfl | rfl <;> exact q _ (by decide) (by decide)
theorem six_near {s k : Int} (h1 : -1 ≤ s) (h2 : s ≤ 1) (h3 : -6 ≤ k) (h4 : k ≤ 6) : -6 ≤ k * s ∧ k * s ≤ 6 := by
  have : s = -1 ∨ s = 0 ∨ s = 1 := by omega
  rcases this with h | h | h <;> rw [h] <;> omega
theorem psum_ok {P : D × Bool × List (List D) → Prop} {n : Nat} (a b c : Int) (h : Purse n a b c) (hn : n ≤ 10000)
    (q : ∀ (ts : List Trm) (a' b' c' : Int), 1 ≤ ts.length → ts.length ≤ 9 → (∀ t, t ∈ ts → STrm t) → StrP (ts.map keyT) → Purse (n + 100) a' b' c' → P (.lst (ts.map encT), true, [[.int a', .int b', .int c']])) : Ok (ev__law_sum [.lst [.int a, .int b, .int c]]) P := by
  unfold ev__law_sum b__law_sum
  rw [w_def rfl]
  walk_at "ev"
  refine ptake_ok a b c 6 h (by omega) (by decide) (by decide) fun a1 b1 c1 d1 g1 g2 h1 => ?_
  walk_at "ev"
  refine ptake_ok a1 b1 c1 4 h1 (by omega) (by decide) (by decide) fun a2 b2 c2 d2 g3 g4 h2 => ?_
  walk_at "ev"
  refine far6_at g3 g4 fun far f1 f2 => ?_
  walk_at "ev"
  refine ptake_ok a2 b2 c2 3 h2 (by omega) (by decide) (by decide) fun a3 b3 c3 d3 g5 g6 h3 => ?_
  walk_at "ev"
  refine ptake_ok a3 b3 c3 3 h3 (by omega) (by decide) (by decide) fun a4 b4 c4 d4 g7 g8 h4 => ?_
  walk_at "ev"
  refine ptake_ok a4 b4 c4 9 h4 (by omega) (by decide) (by decide) fun a5 b5 c5 d5 g9 g10 h5 => ?_
  walk_at "ev"
  refine ⟨by omega, ?_⟩
  refine loop_inv (fun j env => ∃ (a b c : Int) (m : List (R × R)) (s5 s6 s7 : SV), env = [.io [.int a, .int b, .int c], .fz (.int d1), .fz (.int far), .fz (.tup [.int (d3 - 1), .int (d4 - 1)]), .nw (.dct (encK encR m)), s5, s6, s7, .no, .no] ∧ freeP s5 = true ∧ freeP s6 = true ∧ freeP s7 = true ∧ m.length ≤ j ∧ (1 ≤ j → 1 ≤ m.length) ∧ (∀ p, p ∈ m → Near 6 p.1 ∧ (Gd 20 p.2 ∧ Six p.2) ∧ p.2.1 ≠ 0) ∧ Purse (n + 5 + 8 * j) a b c) _ 0 _ ⟨a5, b5, c5, [], .no, .no, .no, rfl, rfl, rfl, rfl, Nat.le_refl _, (fun z => by omega), (fun p hp => nomatch hp), h5⟩ (fun j d env hd hi => ?_) fun env hi => ?_
  · obtain ⟨a, b, c, m, s5, s6, s7, rfl, e5, e6, e7, l1, l2, nm, hp⟩ := hi
    obtain ⟨hj, rfl⟩ := rangeD_get hd
    walk_at "evj"
    refine ⟨e5, mul40 (by omega) (by omega) (by omega) (by omega), ptake_ok a b c _ hp (by omega) (by omega) (by omega) fun a6 b6 c6 d6 g11 g12 h6 => ?_⟩
    walk_at "evj"
    refine ⟨mul40 (by omega) (by omega) (by omega) (by omega), ptake_ok a6 b6 c6 _ h6 (by omega) (by omega) (by omega) fun a7 b7 c7 d7 g13 g14 h7 => ?_⟩
    walk_at "evj"
    refine ⟨e6, ?_⟩
    refine cut_seq (fun e => ∃ (a b c : Int) (k : R) (s7 : SV), e = [.io [.int a, .int b, .int c], .fz (.int d1), .fz (.int far), .fz (.tup [.int (d3 - 1), .int (d4 - 1)]), .nw (.dct (encK encR m)), .fz (.int (j : Nat)), .fz (.nt [.int k.1, .int k.2]), s7, .no, .no] ∧ freeP s7 = true ∧ Near 6 k ∧ Purse (n + 5 + 8 * j + 3) a b c) ?_ ?_
    · walk_at "evj"
      refine ⟨fun _ => ?_, fun _ => ?_⟩
      · refine ptake_ok a7 b7 c7 13 h7 (by omega) (by decide) (by decide) fun a8 b8 c8 d8 g15 g16 h8 => ?_
        walk_at "evj"
        refine ⟨e7, mul40 (by omega) (by omega) (by omega) (by omega), mul40 (by omega) (by omega) (by omega) (by omega), ?_⟩
        have x1 := six_near (s := d3 - 1) (k := d8 - 6) (by omega) (by omega) (by omega) (by omega)
        have x2 := six_near (s := d4 - 1) (k := d8 - 6) (by omega) (by omega) (by omega) (by omega)
        exact ⟨a8, b8, c8, ((d8 - 6) * (d3 - 1), (d8 - 6) * (d4 - 1)), _, rfl, rfl, ⟨x1.1, x1.2, x2.1, x2.2⟩, h8.mono (by omega)⟩
      · refine ⟨a7, b7, c7, (d6 - far, d7 - far), _, rfl, e7, ?_, h7.mono (by omega)⟩
        unfold Near
        dsimp only
        omega
    rintro e ⟨a8, b8, c8, k, s7, rfl, e7, nk, h8⟩
    walk_at "evj"
    refine pratio_ok a8 b8 c8 h8 (by omega) fun p a9 b9 c9 gp px p0 h9 => ?_
    walk_at "evj"
    rw [kPut_enc (c := encR)]
    have ln := mLen_put m (k.1, k.2) p
    have lg := mLen_ge m (k.1, k.2) p
    refine ⟨by omega, a9, b9, c9, mPut m (k.1, k.2) p, _, _, _, rfl, rfl, rfl, e7, by omega, lg.1, fun x hx => ?_, h9.mono (by omega)⟩
    rcases mem_mPut hx with z | z
    · rw [z]
      exact ⟨nk, ⟨gp, px⟩, p0⟩
    · exact nm x z
  · obtain ⟨a, b, c, m, s5, s6, s7, rfl, e5, e6, e7, l1, l2, nm, hp⟩ := hi
    rw [rangeD_len, Nat.zero_add] at l1 l2 hp
    have lm : 1 ≤ m.length := l2 (by omega)
    walk_at "ev"
    refine ⟨by omega, ?_⟩
    have mk : ∀ k, k ∈ srtP (m.map (·.1)) → ∃ p, p ∈ m ∧ p.1 = k ∧ mVal m k = some p.2 := fun k hk => mVal_mem (mem_srtP.mp hk)
    have ne : srtP (m.map (·.1)) ≠ [] := fun z => by
      cases m with
      | nil => cases lm
      | cons x l =>
        have : x.1 ∈ srtP ((x :: l).map (·.1)) := mem_srtP.mpr List.mem_cons_self
        rw [z] at this
        cases this
    have lk : (srtP (m.map (·.1))).length ≤ m.length := Nat.le_trans (srtP_len _) (by rw [List.length_map]; exact Nat.le_refl _)
    have st := str_srtP (m.map (·.1))
    generalize srtP (m.map (·.1)) = ks at mk ne lk st
    refine lc_map (c := encR) (h := fun k => encT (k.1, k.2, (mVal m k).getD (0, 1))) (xs := ks) (fun k hk acc => ?_) ?_
    · obtain ⟨p, hp, e1, e2⟩ := mk k hk
      unfold encR
      walk_at "ev"
      have e3 : (mVal m (k.1, k.2)).map (fun p : R => D.tup [D.int p.1, D.int p.2]) = some (encR p.2) := by
        show (mVal m k).map _ = _
        rw [e2]
        rfl
      refine ok_eq e3 ?_
      walk_at "ev"
      rw [e2]
      rfl
    · have em : ks.map (fun k => encT (k.1, k.2, (mVal m k).getD (0, 1))) = (ks.map fun k => ((k.1, k.2, (mVal m k).getD (0, 1)) : Trm)).map encT := by rw [List.map_map]; rfl
      rw [em]
      walk_at "ev"
      have kt : (ks.map fun k => ((k.1, k.2, (mVal m k).getD (0, 1)) : Trm)).map keyT = ks := by
        rw [List.map_map]
        exact List.map_id ks
      refine ⟨by omega, q _ _ _ _ (by rw [List.length_map]; exact List.length_pos_iff.mpr ne) (by rw [List.length_map]; omega) (fun t ht => ?_) (by rw [kt]; exact st) (hp.mono (by omega))⟩
      obtain ⟨k, hk, rfl⟩ := List.mem_map.mp ht
      obtain ⟨p, hp, e1, e2⟩ := mk k hk
      obtain ⟨n1, n2, n3⟩ := nm p hp
      unfold STrm
      dsimp only
      rw [e2]
      refine ⟨?_, n2, n3⟩
      rw [← e1]
      exact n1
end Lw
namespace Lw
open PySem L2 Dv
mutual
def pl : D → Bool
  | .non => true
  | .bl _ => true
  | .int _ => true
  | .str _ => true
  | .lst xs => plA xs
  | .tup xs => plA xs
  | .scr _ => false
  | .adr _ => false
  | .nt _ => false
  | .dct _ _ => false
def plA : List D → Bool
  | [] => true
  | d :: ds => pl d && plA ds
end
theorem plA_of : ∀ {ds : List D}, (∀ d, d ∈ ds → pl d = true) → plA ds = true
  | [], _ => rfl
  | d :: ds, h => by
    show (pl d && plA ds) = true
    rw [h d List.mem_cons_self, plA_of fun e he => h e (List.mem_cons_of_mem d he)]
    rfl
theorem plA_mem : ∀ {ds : List D}, plA ds = true → ∀ d, d ∈ ds → pl d = true
  | d :: ds, h, e, he => by
    have h : (pl d && plA ds) = true := h
    rw [Bool.and_eq_true] at h
    rcases List.mem_cons.mp he with z | z
    · rw [z]
      exact h.1
    · exact plA_mem h.2 e z
structure ThgL (n w : Nat) (d : D) : Prop where
  s : Shp n d
  sh : (toPy d).showable = true
  lf : (toPy d).leavesShort 62 = true
  w : (toPy d).weight ≤ w
  p : pl d = true
theorem ThgL.mono {n m w v : Nat} {d : D} (h : ThgL n w d) (hn : n ≤ m) (hw : w ≤ v) : ThgL m v d := ⟨h.s.mono hn, h.sh, h.lf, Nat.le_trans h.w hw, h.p⟩
end Lw
namespace Lw
open PySem L2 Dv
def isI : D → Bool
  | .int _ => true
  | _ => false
def nI : D → Int
  | .int i => i
  | _ => 0
theorem isI_eq {d : D} (h : isI d = true) : d = .int (nI d) := by
  cases d <;> first | rfl | cases h
def rb2 (x y : D) : Bool := isI x && (isI y && isR (nI x, nI y))
def rb : D → Bool
  | .tup [x, y] => rb2 x y
  | _ => false
def zt : D → Bool
  | .tup (x :: _) => decide (nI x = 0)
  | _ => false
def tb3 (x y z : D) : Bool := isI x && (isI y && (rb z && !zt z))
def tb : D → Bool
  | .tup [x, y, z] => tb3 x y z
  | _ => false
theorem whole_pl {d : D} (h : pl d = true) : ev_is_whole [d] = some (.bl (isI d), false, []) := by
  have key : Ok (ev_is_whole [d]) fun r => r = (.bl (isI d), false, []) := by
    unfold ev_is_whole b_is_whole
    rw [w_def rfl]
    cases d with
    | scr ns => cases h
    | adr a => cases h
    | nt ds => cases h
    | dct ks ds => cases h
    | _ => walk_at "ev" <;> simp [isI]
  obtain ⟨r, e, h⟩ := key
  rw [e, h]
theorem ratio_pl {d : D} (h : pl d = true) : ev_is_ratio [d] = some (.bl (rb d), false, []) := by
  have key : Ok (ev_is_ratio [d]) fun r => r = (.bl (rb d), false, []) := by
    unfold ev_is_ratio b_is_ratio
    rw [w_def rfl]
    cases d with
    | scr ns => cases h
    | adr a => cases h
    | nt ds => cases h
    | dct ks ds => cases h
    | tup ds =>
      walk_at "ev"
      have hp : plA ds = true := h
      match ds, hp with
      | [x, y], hp =>
        have hx := plA_mem hp x (by simp)
        have hy := plA_mem hp y (by simp)
        refine ⟨fun c => absurd c (by simp), fun _ => ?_⟩
        walk_at "ev"
        refine ok_eq (whole_pl hx) ?_
        walk_at "ev"
        refine ⟨fun c => ?_, fun c => ?_⟩
        · simp only [rb, rb2, c, Bool.false_and]
        refine ok_eq (whole_pl hy) ?_
        walk_at "ev"
        refine ⟨fun c2 => ?_, fun c2 => ?_⟩
        · simp only [rb, rb2, c2, Bool.false_and, Bool.and_false]
        obtain ⟨i, rfl⟩ : ∃ i, x = .int i := ⟨_, isI_eq c⟩
        obtain ⟨j, rfl⟩ : ∃ i, y = .int i := ⟨_, isI_eq c2⟩
        walk_at "ev"
        refine ⟨fun c => ok_eq (show ev_divisor [.int i, .int j] = _ from divisor_eq i j) ?_, fun c => ?_⟩
        · walk_at "ev"
          show (D.bl _, false, []) = (D.bl (decide (0 < j) && decide (Int.gcd i j = 1)), false, [])
          have e : decide ((i.gcd j : Int) = 1) = decide (i.gcd j = 1) := by
            rw [decide_eq_decide]
            omega
          have ec : decide (0 < j) = true := decide_eq_true c
          rw [e, ec, Bool.true_and]
        · show (D.bl _, false, []) = (D.bl (decide (0 < j) && decide (Int.gcd i j = 1)), false, [])
          have ec : decide (0 < j) = false := decide_eq_false c
          rw [ec, Bool.false_and]
      | [], _ => exact ⟨fun _ => by simp [rb], fun c => absurd c (by decide)⟩
      | [_], _ => exact ⟨fun _ => by simp [rb], fun c => absurd c (by simp)⟩
      | _ :: _ :: _ :: _, _ => exact ⟨fun _ => by simp [rb], fun c => absurd c (by simp only [List.length_cons]; omega)⟩
    | _ =>
      walk_at "ev"
      simp [rb]
  obtain ⟨r, e, h⟩ := key
  rw [e, h]
theorem rb_eq {z : D} (h : rb z = true) : ∃ p : R, z = encR p ∧ isR p = true := by
  unfold rb at h
  split at h
  · rename_i x y
    unfold rb2 at h
    rw [Bool.and_eq_true, Bool.and_eq_true] at h
    refine ⟨(nI x, nI y), ?_, h.2.2⟩
    unfold encR
    show D.tup [x, y] = D.tup [.int (nI x), .int (nI y)]
    rw [← isI_eq h.1, ← isI_eq h.2.1]
  · cases h
theorem zero_isR {p : R} (h : isR p = true) : (!decide (p = (0, 1))) = !decide (p.1 = 0) := by
  have e : p = (0, 1) ↔ p.1 = 0 := by
    refine ⟨fun z => by rw [z], fun z => ?_⟩
    obtain ⟨a, b⟩ := p
    obtain ⟨h1, h2⟩ := isR_pos h
    dsimp only at z h1 h2 ⊢
    subst z
    rw [Int.gcd_zero_left] at h2
    rw [show b = 1 by omega]
  rw [decide_eq_decide.mpr e]
theorem term_pl {d : D} (h : pl d = true) : ev_is_term [d] = some (.bl (tb d), false, []) := by
  have key : Ok (ev_is_term [d]) fun r => r = (.bl (tb d), false, []) := by
    unfold ev_is_term b_is_term
    rw [w_def rfl]
    cases d with
    | scr ns => cases h
    | adr a => cases h
    | nt ds => cases h
    | dct ks ds => cases h
    | tup ds =>
      walk_at "ev"
      have hp : plA ds = true := h
      match ds, hp with
      | [x, y, z], hp =>
        have hx := plA_mem hp x (by simp)
        have hy := plA_mem hp y (by simp)
        have hz := plA_mem hp z (by simp)
        refine ⟨fun c => absurd c (by simp), fun _ => ?_⟩
        walk_at "ev"
        refine ok_eq (whole_pl hx) ?_
        walk_at "ev"
        refine ⟨fun c => ?_, fun c => ?_⟩
        · simp only [tb, tb3, c, Bool.false_and]
        refine ok_eq (whole_pl hy) ?_
        walk_at "ev"
        refine ⟨fun c2 => ?_, fun c2 => ?_⟩
        · simp only [tb, tb3, c2, Bool.false_and, Bool.and_false]
        refine ok_eq (ratio_pl hz) ?_
        walk_at "ev"
        cases c3 : rb z with
        | false =>
          simp only [tb, tb3, c3, Bool.false_and, Bool.and_false]
          walk_at "ev"
        | true =>
          obtain ⟨p, rfl, rp⟩ := rb_eq c3
          walk_at "ev"
          refine ok_eq (gNe_R p (0, 1)) ?_
          walk_at "ev"
          simp only [tb, tb3, c3, c, c2, Bool.true_and]
          rw [zero_isR rp]
          rfl
      | [], _ => exact ⟨fun _ => by simp [tb], fun c => absurd c (by decide)⟩
      | [_], _ => exact ⟨fun _ => by simp [tb], fun c => absurd c (by simp)⟩
      | [_, _], _ => exact ⟨fun _ => by simp [tb], fun c => absurd c (by simp)⟩
      | _ :: _ :: _ :: _ :: _, _ => exact ⟨fun _ => by simp [tb], fun c => absurd c (by simp only [List.length_cons]; omega)⟩
    | _ =>
      walk_at "ev"
      simp [tb]
  obtain ⟨r, e, h⟩ := key
  rw [e, h]
/-- a term, read off a thing -/
def rD : D → R
  | .tup [x, y] => (nI x, nI y)
  | _ => (0, 1)
def dT : D → Trm
  | .tup [x, y, z] => (nI x, nI y, rD z)
  | _ => (0, 0, (0, 1))
theorem tb_enc {d : D} (h : tb d = true) : d = encT (dT d) ∧ isR (dT d).2.2 = true ∧ (dT d).2.2.1 ≠ 0 := by
  unfold tb at h
  split at h
  · rename_i x y z
    unfold tb3 at h
    simp only [Bool.and_eq_true, Bool.not_eq_true'] at h
    obtain ⟨p, rfl, rp⟩ := rb_eq h.2.2.1
    refine ⟨?_, rp, ?_⟩
    · show D.tup [x, y, encR p] = D.tup [.int (nI x), .int (nI y), encR p]
      rw [← isI_eq h.1, ← isI_eq h.2.1]
    · have e := h.2.2.2
      intro z
      have z : p.1 = 0 := z
      have : zt (encR p) = true := by
        show decide (p.1 = 0) = true
        rw [decide_eq_true_eq]
        exact z
      rw [this] at e
      cases e
  · cases h
theorem all_enc : ∀ {ds : List D}, ds.all tb = true → ds = (ds.map dT).map encT
  | [], _ => rfl
  | d :: ds, h => by
    rw [List.all_cons, Bool.and_eq_true] at h
    rw [List.map_cons, List.map_cons, ← (tb_enc h.1).1, ← all_enc h.2]
/-- a sum, of a list of things -/
def sb (ds : List D) : Bool := ds.all tb && decide (StrP (ds.map fun d => keyT (dT d)))
def sD : D → Bool
  | .lst ds => sb ds
  | _ => false
theorem adj_str : ∀ {ks : List R}, (∀ i, (h : i + 1 < ks.length) → ltP2 ks[i] ks[i + 1]) → StrP ks
  | [], _ => List.Pairwise.nil
  | [k], _ => List.pairwise_singleton _ _
  | k :: l :: ks, h => by
    have ih : StrP (l :: ks) := adj_str fun i hi => h (i + 1) (by simp only [List.length_cons] at hi ⊢; omega)
    have h0 : ltP2 k l := h 0 (by simp)
    refine List.pairwise_cons.mpr ⟨fun m hm => ?_, ih⟩
    rcases List.mem_cons.mp hm with z | z
    · rw [z]
      exact h0
    · have h1 : ltP2 l m := (List.pairwise_cons.mp ih).1 m z
      unfold ltP2 at h0 h1 ⊢
      omega
theorem str_iff {ks : List R} : StrP ks ↔ ∀ i, (h : i + 1 < ks.length) → ltP2 ks[i] ks[i + 1] :=
  ⟨fun h i hi => List.pairwise_iff_getElem.mp h i (i + 1) (by omega) hi (Nat.lt_succ_self i), adj_str⟩
end Lw
namespace Lw
open PySem L2 Dv
theorem gAll_b {α : Type} (f : α → Bool) (xs : List α) : gAll [.lst (xs.map fun x => D.bl (f x))] = some (.val (.bl (xs.all f))) := by
  show (allBls (xs.map fun x => D.bl (f x))).bind _ = _
  rw [show (xs.map fun x => D.bl (f x)) = (xs.map f).map D.bl by rw [List.map_map]; rfl, allBls_map]
  show some (RV.val (.bl ((xs.map f).all id))) = _
  rw [List.all_map]
  rfl
theorem is_sum_pl {d : D} (h : pl d = true) (hl : ∀ ds, d = .lst ds → ds.length ≤ 9000) : ev_is_sum [d] = some (.bl (sD d), false, []) := by
  have key : Ok (ev_is_sum [d]) fun r => r = (.bl (sD d), false, []) := by
    unfold ev_is_sum b_is_sum
    rw [w_def rfl]
    cases d with
    | scr ns => cases h
    | adr a => cases h
    | nt ds => cases h
    | dct ks ds => cases h
    | lst ds =>
      have hp : plA ds = true := h
      have hl := hl ds rfl
      walk_at "ev"
      have em := lc_map (g := gfName 1) (tt := fYes) (fe := fCall [false] ev_is_term (fCons (fVar 1) fNil)) (vs := [1]) (env := [SV.fz (.lst ds), .no, .no]) (P := fun r => r = (ds.map fun d => D.bl (tb d), [SV.fz (.lst ds), .no, .no])) (c := fun d : D => d) (h := fun d => .bl (tb d)) (xs := ds) (fun x hx acc => by
        walk_at "ev"
        refine ok_eq (term_pl (plA_mem hp x hx)) ?_
        walk_at "ev") rfl
      rw [List.map_id'] at em
      obtain ⟨r, e1, rfl⟩ := em
      refine ok_eq e1 ?_
      walk_at "ev"
      refine ⟨by omega, ok_eq (gAll_b tb ds) ?_⟩
      walk_at "ev"
      refine ⟨fun c => ?_, fun c => ?_⟩
      · simp only [sD, sb, c, Bool.false_and]
      have ee := all_enc c
      generalize he : ds.map dT = ts at ee
      have lt : ts.length = ds.length := by rw [← he, List.length_map]
      subst ee
      refine ⟨⟨by omega, by omega⟩, ?_⟩
      generalize hn : ((ts.map encT).length - 1 : Int).toNat = n
      have hks : ∀ k, (hk : k < n) → ∃ t u, ts[k]? = some t ∧ ts[k + 1]? = some u := fun k hk => ⟨_, _, List.getElem?_eq_getElem (by omega), List.getElem?_eq_getElem (by omega)⟩
      have er : rangeD 0 n = (List.range n).map fun k : Nat => D.int (0 + (k : Int)) := rfl
      rw [er]
      refine lc_map (c := fun k : Nat => D.int (0 + (k : Int))) (h := fun k => D.bl (decide (ltP2 ((ts.map keyT).getD k (0, 0)) ((ts.map keyT).getD (k + 1) (0, 0))))) (xs := List.range n) (fun k hk acc => ?_) ?_
      · obtain ⟨t, u, ht, hu⟩ := hks k (List.mem_range.mp hk)
        have e1 : (ts.map encT)[k]? = some (encT t) := by rw [List.getElem?_map, ht]; rfl
        have e2 : (ts.map encT)[k + 1]? = some (encT u) := by rw [List.getElem?_map, hu]; rfl
        walk_at "ev"
        refine ok_eq (atI_natC.trans e1) ?_
        rw [show encT t = D.tup [.int t.1, .int t.2.1, encR t.2.2] from rfl]
        walk_at "ev"
        refine ok_eq (show L2.atI (ts.map encT) ((k : Int) + 1) = _ from by rw [show ((k : Int) + 1) = ((k + 1 : Nat) : Int) by omega]; exact atI_natC.trans e2) ?_
        rw [show encT u = D.tup [.int u.1, .int u.2.1, encR u.2.2] from rfl]
        walk_at "ev"
        refine ok_eq (show gLtP (.tup [.int t.1, .int t.2.1]) (.tup [.int u.1, .int u.2.1]) = _ from gLtP_i) ?_
        walk_at "ev"
        rw [List.getD_eq_getElem?_getD, List.getD_eq_getElem?_getD, List.getElem?_map, List.getElem?_map, ht, hu]
        rfl
      · walk_at "ev"
        rw [List.length_range]
        refine ⟨by omega, ok_eq (gAll_b _ _) ?_⟩
        walk_at "ev"
        show (D.bl _, false, []) = (D.bl (((ts.map encT).all tb) && decide (StrP ((ts.map encT).map fun d => keyT (dT d)))), false, [])
        rw [c, Bool.true_and]
        have ek : (ts.map encT).map (fun d => keyT (dT d)) = ts.map keyT := by
          rw [List.map_map]
          rfl
        rw [ek]
        congr 2
        rw [Bool.eq_iff_iff, List.all_eq_true, decide_eq_true_eq, str_iff]
        constructor
        · intro z i hi
          rw [List.length_map] at hi
          have := z i (List.mem_range.mpr (by omega))
          rw [decide_eq_true_eq] at this
          rw [List.getD_eq_getElem?_getD, List.getD_eq_getElem?_getD, List.getElem?_eq_getElem (by rw [List.length_map]; omega), List.getElem?_eq_getElem (by rw [List.length_map]; omega)] at this
          exact this
        · intro z i hi
          have hi := List.mem_range.mp hi
          have := z i (by rw [List.length_map]; omega)
          rw [decide_eq_true_eq, List.getD_eq_getElem?_getD, List.getD_eq_getElem?_getD, List.getElem?_eq_getElem (by rw [List.length_map]; omega), List.getElem?_eq_getElem (by rw [List.length_map]; omega)]
          exact this
    | _ =>
      walk_at "ev"
      simp [sD]
  obtain ⟨r, e, h⟩ := key
  rw [e, h]
end Lw
namespace Lw
open PySem L2 Dv
open TL in
theorem tl_one {c : Nat} : tl ⟨#[c]⟩ = [c] := rfl
def natT (n : Nat) : Str := Str.ofString (toString ((n : Nat) : Int))
def intT (i : Int) : Str := Str.ofString (toString i)
theorem tl_natT (n : Nat) : TL.tl (natT n) = TL.numL n := TL.tl_num n
theorem tl_intT_neg {n : Nat} (h : 0 < n) : TL.tl (intT (-(n : Int))) = 45 :: TL.numL n := by
  obtain ⟨m, rfl⟩ : ∃ m, n = m + 1 := ⟨n - 1, by omega⟩
  have e : toString (-((m + 1 : Nat) : Int)) = "-" ++ toString ((m + 1 : Nat) : Int) := rfl
  unfold intT
  rw [e, TL.tl_ofString]
  have e2 : ("-" ++ toString ((m + 1 : Nat) : Int)).toList = '-' :: (toString ((m + 1 : Nat) : Int)).toList := by
    rw [String.toList_append]
    rfl
  rw [e2, List.map_cons, ← TL.tl_ofString]
  exact congrArg (fun l => 45 :: l) (tl_natT (m + 1))
theorem gIx_str0 {z : Str} {c : Nat} {r : List Nat} (h : TL.tl z = c :: r) (hl : z.length ≤ 10000000) : gIx (.str z) (.int 0) = some (.val (.str ⟨#[c]⟩)) := by
  show (if z.length ≤ 10000000 then (L2.atI z.cps.toList 0).bind fun c => some (RV.val (.str ⟨#[c]⟩)) else none) = _
  rw [if_pos hl]
  have e : z.cps.toList = c :: r := h
  rw [e, atI_0]
  rfl
theorem figs_tl : TL.tl (Str.ofString "0123456789") = [48, 49, 50, 51, 52, 53, 54, 55, 56, 57] := by decide +kernel
theorem gStr_int {i : Int} (h : i.natAbs < 2 ^ 100) : gStr [.int i] = some (.val (.str (intT i))) := by
  have : i.natAbs.log2 < 1920 := by
    by_cases z : i.natAbs = 0
    · rw [z]
      decide
    · exact (Nat.log2_lt z).mpr (Nat.lt_of_lt_of_le h (Nat.pow_le_pow_right (by decide) (by decide)))
  show (if i.natAbs.log2 < 1920 then some (RV.val (.str (Str.ofString (toString i)))) else none) = _
  rw [if_pos this]
  rfl
theorem cut1_tl {z : Str} : TL.tl (L2.cutS z none (some 1)) = (TL.tl z).take 1 := by
  show ((z.cps.toList.drop 0).take (min 1 z.length - 0)) = _
  rw [List.drop_zero, Nat.sub_zero]
  have e : z.length = (TL.tl z).length := TL.len_tl z
  rw [e]
  cases h : TL.tl z with
  | nil =>
    have h' : z.cps.toList = [] := h
    rw [h']
    rfl
  | cons c r =>
    have h' : z.cps.toList = c :: r := h
    rw [h', List.length_cons, Nat.min_eq_left (by omega)]
theorem cutR_tl {z : Str} : TL.tl (L2.cutS z (some 1) none) = (TL.tl z).drop 1 := by
  show ((z.cps.toList.drop (min 1 z.length)).take (z.length - min 1 z.length)) = _
  have e : z.length = (TL.tl z).length := TL.len_tl z
  rw [e]
  cases h : TL.tl z with
  | nil =>
    have h' : z.cps.toList = [] := h
    rw [h']
    rfl
  | cons c r =>
    have h' : z.cps.toList = c :: r := h
    rw [h', List.length_cons, Nat.min_eq_left (by omega), List.drop_succ_cons, List.drop_zero, List.take_of_length_le (by omega)]
theorem sigs_get {z : Str} {j : Nat} {d : D} (h : (sigs z)[j]? = some d) : ∃ k, k ∈ TL.tl z ∧ d = .str ⟨#[k]⟩ := by
  unfold sigs at h
  rw [List.getElem?_map] at h
  obtain ⟨k, h1, h2⟩ := Option.map_eq_some_iff.mp h
  exact ⟨k, List.mem_of_getElem? h1, h2.symm⟩
end Lw
namespace Lw
open PySem L2 Dv
theorem Str.length_append' (a b : Str) : (a ++ b).length = a.length + b.length := by
  rw [TL.len_tl, TL.len_tl, TL.len_tl, TL.tl_append, List.length_append]
def numT (p : R) : Str := if p.2 = 1 then intT p.1 else intT p.1 ++ (Str.ofString "/") ++ intT p.2
def wordT (t : Trm) : Str := numT t.2.2 ++ (Str.ofString ":") ++ intT t.1 ++ (Str.ofString ":") ++ intT t.2.1
def showT (ts : List Trm) : Str := if ts = [] then Str.ofString "none" else Txt.join (Str.ofString " ") (ts.map wordT)
/-- small enough -/
def Wrd (t : Trm) : Prop := Near 6 (keyT t) ∧ isR t.2.2 = true ∧ t.2.2.1 ≠ 0 ∧ t.2.2.1.natAbs ≤ 999999 ∧ t.2.2.2 ≤ 999999
theorem intT_cases (i : Int) : (0 ≤ i ∧ TL.tl (intT i) = TL.numL i.natAbs) ∨ (i < 0 ∧ TL.tl (intT i) = 45 :: TL.numL i.natAbs) := by
  by_cases h : 0 ≤ i
  · obtain ⟨n, rfl⟩ := Int.eq_ofNat_of_zero_le h
    exact .inl ⟨h, tl_natT n⟩
  · obtain ⟨n, hn⟩ := Int.eq_ofNat_of_zero_le (show 0 ≤ -i by omega)
    have e : i = -(n : Int) := by omega
    subst e
    refine .inr ⟨by omega, ?_⟩
    rw [tl_intT_neg (by omega)]
    congr 2
    omega
theorem intT_mem {i : Int} {c : Nat} (h : c ∈ TL.tl (intT i)) : c = 45 ∨ (48 ≤ c ∧ c ≤ 57) := by
  rcases intT_cases i with ⟨_, e⟩ | ⟨_, e⟩
  · rw [e] at h
    exact .inr (TL.numL_digits _ c h)
  · rw [e] at h
    rcases List.mem_cons.mp h with z | z
    · exact .inl z
    · exact .inr (TL.numL_digits _ c z)
theorem intT_len {i : Int} {k : Nat} (hk : 0 < k) (h : i.natAbs < 10 ^ k) : (intT i).length ≤ k + 1 := by
  have := TL.numL_len hk h
  rw [TL.len_tl]
  rcases intT_cases i with ⟨_, e⟩ | ⟨_, e⟩
  · rw [e]
    omega
  · rw [e, List.length_cons]
    omega
theorem numT_mem {p : R} {c : Nat} (h : c ∈ TL.tl (numT p)) : c = 45 ∨ c = 47 ∨ (48 ≤ c ∧ c ≤ 57) := by
  unfold numT at h
  split at h
  · rcases intT_mem h with z | z
    · exact .inl z
    · exact .inr (.inr z)
  · rw [TL.tl_append, TL.tl_append, show TL.tl (Str.ofString "/") = [47] by decide +kernel] at h
    rcases List.mem_append.mp h with z | z
    · rcases List.mem_append.mp z with z | z
      · rcases intT_mem z with z | z
        · exact .inl z
        · exact .inr (.inr z)
      · exact .inr (.inl (List.mem_singleton.mp z))
    · rcases intT_mem z with z | z
      · exact .inl z
      · exact .inr (.inr z)
theorem wordT_tl (t : Trm) : TL.tl (wordT t) = TL.tl (numT t.2.2) ++ (58 :: (TL.tl (intT t.1) ++ (58 :: TL.tl (intT t.2.1)))) := by
  unfold wordT
  rw [TL.tl_append, TL.tl_append, TL.tl_append, TL.tl_append, show TL.tl (Str.ofString ":") = [58] by decide +kernel]
  simp only [List.append_assoc, List.cons_append, List.nil_append]
theorem wordT_mem {t : Trm} {c : Nat} (h : c ∈ TL.tl (wordT t)) : c = 45 ∨ c = 47 ∨ (48 ≤ c ∧ c ≤ 58) := by
  rw [wordT_tl] at h
  simp only [List.mem_append, List.mem_cons] at h
  rcases h with h | h | h | h | h
  · have := numT_mem h
    omega
  · omega
  · have := intT_mem h
    omega
  · omega
  · have := intT_mem h
    omega
theorem wordT_len {t : Trm} (h : Wrd t) : (wordT t).length ≤ 40 := by
  obtain ⟨⟨n1, n2, n3, n4⟩, hp, _, h1, h2⟩ := h
  have p2 : 0 < t.2.2.2 := (isR_pos hp).1
  have i1 := intT_len (i := t.2.2.1) (k := 6) (by decide) (by omega)
  have i2 := intT_len (i := t.2.2.2) (k := 6) (by decide) (by omega)
  have n1 : -6 ≤ t.1 := n1
  have n2 : t.1 ≤ 6 := n2
  have n3 : -6 ≤ t.2.1 := n3
  have n4 : t.2.1 ≤ 6 := n4
  have i3 := intT_len (i := t.1) (k := 1) (by decide) (by omega)
  have i4 := intT_len (i := t.2.1) (k := 1) (by decide) (by omega)
  have ns : (numT t.2.2).length ≤ 15 := by
    unfold numT
    split
    · omega
    · rw [Str.length_append', Str.length_append', show (Str.ofString "/").length = 1 by decide +kernel]
      omega
  unfold wordT
  rw [Str.length_append', Str.length_append', Str.length_append', Str.length_append', show (Str.ofString ":").length = 1 by decide +kernel]
  omega
theorem numT_len {t : Trm} (h : Wrd t) : (numT t.2.2).length ≤ 15 := by
  obtain ⟨_, hp, _, h1, h2⟩ := h
  have p2 : 0 < t.2.2.2 := (isR_pos hp).1
  have i1 := intT_len (i := t.2.2.1) (k := 6) (by decide) (by omega)
  have i2 := intT_len (i := t.2.2.2) (k := 6) (by decide) (by omega)
  unfold numT
  split
  · omega
  · rw [Str.length_append', Str.length_append', show (Str.ofString "/").length = 1 by decide +kernel]
    omega
theorem sum_len {f : Trm → Str} : ∀ {ts : List Trm}, (∀ t, t ∈ ts → (f t).length ≤ 40) → ((ts.map f).map (·.length)).sum ≤ 40 * ts.length
  | [], _ => Nat.zero_le _
  | t :: ts, h => by
    have h0 := h t List.mem_cons_self
    have ih := sum_len fun u hu => h u (List.mem_cons_of_mem _ hu)
    simp only [List.map_cons, List.sum_cons, List.length_cons]
    omega
theorem gJoin_map {f : Trm → Str} {ts : List Trm} {a : Str} (h : ∀ t, t ∈ ts → (f t).length ≤ 40) (hl : ts.length ≤ 1000) (ha : a.length = 1) : gJoin (.str a) (.lst (ts.map fun t => D.str (f t))) = some (.val (.str (Txt.join a (ts.map f)))) := by
  show (strsOf (ts.map fun t => D.str (f t))).bind _ = _
  rw [show (ts.map fun t => D.str (f t)) = (ts.map f).map D.str by rw [List.map_map]; rfl, strsOf_map]
  show (if ((ts.map f).map (·.length)).sum + (ts.map f).length * a.length ≤ 10000000 then _ else none) = _
  rw [if_pos]
  have := sum_len h
  rw [List.length_map, ha]
  omega
theorem showT_len {ts : List Trm} (h : ∀ t, t ∈ ts → Wrd t) (hl : ts.length ≤ 1000) : (showT ts).length ≤ 50000 := by
  unfold showT
  split
  · decide +kernel
  · rw [TL.len_tl, TL.join_eq, TL.tl_join]
    have : ∀ l : List (List Nat), (∀ x, x ∈ l → x.length ≤ 40) → (TL.joinL (TL.tl (Str.ofString " ")) l).length ≤ 41 * l.length := by
      intro l
      induction l with
      | nil => intro _; exact Nat.zero_le _
      | cons x l ih =>
        intro hx
        cases l with
        | nil =>
          have := hx x List.mem_cons_self
          show x.length ≤ 41 * 1
          omega
        | cons y l =>
          have h0 := hx x List.mem_cons_self
          have := ih fun z hz => hx z (List.mem_cons_of_mem _ hz)
          show (x ++ (TL.tl (Str.ofString " ") ++ TL.joinL (TL.tl (Str.ofString " ")) (y :: l))).length ≤ _
          rw [List.length_append, List.length_append, show TL.tl (Str.ofString " ") = [32] by decide +kernel]
          rw [show TL.tl (Str.ofString " ") = [32] by decide +kernel] at this
          simp only [List.length_cons, List.length_nil] at this ⊢
          omega
    have z := this ((ts.map wordT).map TL.tl) fun x hx => by
      obtain ⟨w, hw, rfl⟩ := List.mem_map.mp hx
      obtain ⟨t, ht, rfl⟩ := List.mem_map.mp hw
      rw [← TL.len_tl]
      exact wordT_len (h t ht)
    rw [List.length_map, List.length_map] at z
    omega
theorem show_split {ts : List Trm} (hn : ts ≠ []) : Txt.split (showT ts) (Str.ofString " ") = ts.map wordT := by
  unfold showT
  rw [if_neg hn]
  refine TL.split_join (s := 32) (S := []) (by decide +kernel) (by decide +kernel) (fun z => hn (List.map_eq_nil_iff.mp z)) fun p hp => ?_
  obtain ⟨t, _, rfl⟩ := List.mem_map.mp hp
  intro z
  have := wordT_mem z
  omega
theorem strm_wrd {t : Trm} (h : STrm t) : Wrd t := ⟨h.1, h.2.1.1.1, h.2.2, h.2.1.2.1, h.2.1.2.2⟩
end Lw
namespace Lw
open PySem L2 Dv
def digB (l : List Nat) : Bool := l.all fun c => decide (48 ≤ c ∧ c ≤ 57)
theorem digB_iff {l : List Nat} : digB l = true ↔ NumText.AllDigits l := by
  unfold digB NumText.AllDigits
  simp only [List.all_eq_true, decide_eq_true_eq]
def outX (o : Option D) : Except Nat (D × Bool × List (List D)) := match o with
  | some d => .ok (d, false, [])
  | none => .error 8
def figR (l : List Nat) (m : Int) : Option Int := if 1 ≤ l.length ∧ (l.length : Int) ≤ m ∧ ¬ (l.head? = some 48 ∧ 1 < l.length) ∧ digB l = true then some ((NumText.digitsVal l : Nat) : Int) else none
theorem mem_figs {c : Nat} : c ∈ (Str.ofString "0123456789").cps.toList ↔ 48 ≤ c ∧ c ≤ 57 := by
  show c ∈ TL.tl (Str.ofString "0123456789") ↔ _
  rw [figs_tl]
  simp only [List.mem_cons, List.not_mem_nil, or_false]
  omega
theorem sig_zero {c : Nat} : (⟨#[c]⟩ : Str) = Str.ofString "0" ↔ c = 48 := by
  constructor
  · intro q
    have := congrArg TL.tl q
    rw [tl_one, show TL.tl (Str.ofString "0") = [48] by decide +kernel] at this
    injection this
  · intro q
    subst q
    decide +kernel
theorem gIntS_digs {z : Str} (h : digB (TL.tl z) = true) (h1 : 1 ≤ z.length) (h2 : z.length ≤ 640) : gIntS [.str z] = some (.val (.int ((NumText.digitsVal (TL.tl z) : Nat) : Int))) := by
  have e := intText_digits (x := z) (digB_iff.mp h) (fun q => by
    have e2 : z.length = z.cps.toList.length := TL.len_tl z
    rw [q] at e2
    rw [e2] at h1
    cases h1) (by omega)
  show (if z.length ≤ 640 then (PySem.intText? z).bind fun n => some (RV.val (.int n)) else none) = _
  rw [if_pos h2, e]
  rfl
theorem figs_x {z : Str} {m : Int} (hz : z.length ≤ 100000) (hm : m ≤ 100) : evx_read_figures [.str z, .int m] = some (outX ((figR (TL.tl z) m).map D.int)) := by
  have key : Ok (evx_read_figures [.str z, .int m]) fun r => r = outX ((figR (TL.tl z) m).map D.int) := by
    have hl : z.length = (TL.tl z).length := TL.len_tl z
    unfold evx_read_figures bx_read_figures
    rw [w_defX rfl]
    walk_at "ev"
    have no : ¬ (1 ≤ (TL.tl z).length ∧ (((TL.tl z).length : Nat) : Int) ≤ m ∧ ¬ ((TL.tl z).head? = some 48 ∧ 1 < (TL.tl z).length) ∧ digB (TL.tl z) = true) → Except.error 8 = outX ((figR (TL.tl z) m).map D.int) := fun c => by
      unfold figR
      rw [if_neg c]
      rfl
    refine ⟨by omega, fun h1 => ⟨fun h2 => no fun q => h2 (by rw [hl]; exact q.2.1), fun h2 => ?_⟩, fun h1 => no fun q => h1 (by have := q.1; omega)⟩
    obtain ⟨c, r, e⟩ : ∃ c r, TL.tl z = c :: r := by
      cases e : TL.tl z with
      | nil => rw [e] at hl; rw [hl] at h1; exact absurd h1 (by decide)
      | cons c r => exact ⟨c, r, rfl⟩
    refine ok_eq (gIx_str0 e (by omega)) ?_
    walk_at "ev"
    have loop : ¬ ((TL.tl z).head? = some 48 ∧ 1 < (TL.tl z).length) → Ok (loopN (gfName 2) (fIf (fT (f2 (gInSig true) (fVar 2) (fC (D.str (Str.ofString "0123456789"))))) (fRaise 8) fNext) (sigs z) [SV.fz (D.str z), SV.fz (D.int m), SV.no]) (SeqK (fRet (fB gIntS (fCons (fVar 0) fNil))) (KFinX [false, false] fun r => r = outX ((figR (TL.tl z) m).map D.int))) := fun hz0 => by
      refine loop_inv (fun n env => ∃ s2, env = [.fz (.str z), .fz (.int m), s2] ∧ freeP s2 = true ∧ digB ((TL.tl z).take n) = true) _ 0 _ ⟨.no, rfl, rfl, rfl⟩ (fun j d env hd hi => ?_) fun env hi => ?_
      · obtain ⟨s2, rfl, f2, dg⟩ := hi
        have hd' := hd
        obtain ⟨k, hk, rfl⟩ := sigs_get hd
        have ej : (TL.tl z)[j]? = some k := by
          unfold sigs at hd'
          rw [List.getElem?_map] at hd'
          obtain ⟨k', h3, h4⟩ := Option.map_eq_some_iff.mp hd'
          have := congrArg (fun d : D => match d with | .str w => TL.tl w | _ => []) h4
          have e5 : [k'] = [k] := this
          injection e5 with e5
          rw [← e5]
          exact h3
        walk_at "ev"
        refine ⟨f2, ?_⟩
        refine ⟨fun q => no fun q2 => q (mem_figs.mpr ?_), fun q => ⟨_, rfl, rfl, ?_⟩⟩
        · have := List.all_eq_true.mp q2.2.2.2 k hk
          exact of_decide_eq_true this
        · have q := mem_figs.mp q
          rw [Nat.zero_add] at dg
          rw [List.take_add_one, ej]
          unfold digB at dg ⊢
          rw [List.all_append, dg]
          simp only [Option.toList_some, List.all_cons, List.all_nil, Bool.and_true, Bool.true_and, decide_eq_true_eq]
          exact q
      · obtain ⟨s2, rfl, f2, dg⟩ := hi
        have ls : (sigs z).length = (TL.tl z).length := by
          unfold sigs
          rw [List.length_map]
        rw [Nat.zero_add, ls, List.take_length] at dg
        walk_at "ev"
        refine ok_eq (gIntS_digs dg (by omega) (by omega)) ?_
        walk_at "ev"
        unfold figR
        rw [if_pos ⟨by omega, by omega, hz0, dg⟩]
        rfl
    refine ⟨fun q => ⟨by omega, fun q2 => no fun q3 => q3.2.2.1 ⟨by rw [e]; exact congrArg some (sig_zero.mp q), by omega⟩, fun q2 => loop fun q3 => q2 (by omega)⟩, fun q => loop fun q3 => q (sig_zero.mpr (by rw [e] at q3; exact Option.some.inj q3.1))⟩
  obtain ⟨r, e, h⟩ := key
  rw [e, h]
def whR (l : List Nat) (m : Int) : Option Int := if l.head? = some 45 then (if l = [45, 48] then none else (figR l.tail m).map fun i => 0 - i) else figR l m
theorem dash_iff {z : Str} : L2.cutS z none (some 1) = Str.ofString "-" ↔ (TL.tl z).head? = some 45 := by
  constructor
  · intro q
    have q := congrArg TL.tl q
    rw [cut1_tl, show TL.tl (Str.ofString "-") = [45] by decide +kernel] at q
    cases h : TL.tl z with
    | nil => rw [h] at q; cases q
    | cons c r =>
      rw [h] at q
      injection q with q
      rw [q]
      rfl
  · intro q
    refine TL.ext_tl ?_
    rw [cut1_tl, show TL.tl (Str.ofString "-") = [45] by decide +kernel]
    cases h : TL.tl z with
    | nil => rw [h] at q; cases q
    | cons c r =>
      rw [h] at q
      rw [Option.some.inj q]
      rfl
theorem cutR_len {z : Str} : (L2.cutS z (some 1) none).length ≤ z.length := by
  rw [TL.len_tl, TL.len_tl, cutR_tl, List.length_drop]
  omega
theorem whole_x {z : Str} {m : Int} (hz : z.length ≤ 100000) (hm : m ≤ 100) : evx_read_whole [.str z, .int m] = some (outX ((whR (TL.tl z) m).map D.int)) := by
  have key : Ok (evx_read_whole [.str z, .int m]) fun r => r = outX ((whR (TL.tl z) m).map D.int) := by
    unfold evx_read_whole bx_read_whole
    rw [w_defX rfl]
    walk_at "ev"
    refine ⟨by omega, fun q => ?_, fun q => ⟨fun q2 => ?_, fun q2 => ⟨by omega, ?_⟩⟩⟩
    · have e : whR (TL.tl z) m = figR (TL.tl z) m := if_neg fun h => q (dash_iff.mpr h)
      rw [e]
      refine ok_eq (figs_x hz hm) ?_
      cases figR (TL.tl z) m with
      | none =>
        show KBackX _ _ _ (.error 8)
        walk_at "ev"
        rfl
      | some n =>
        show KBackX _ _ _ (.ok (.int n, false, []))
        walk_at "ev"
        rfl
    · rw [q2, show TL.tl (Str.ofString "-0") = [45, 48] by decide +kernel]
      rfl
    · have e : whR (TL.tl z) m = (figR (TL.tl z).tail m).map fun i => 0 - i := by
        unfold whR
        rw [if_pos (dash_iff.mp q), if_neg fun h => q2 (TL.ext_tl (h.trans (by decide +kernel)))]
      rw [e]
      refine ok_eq (figs_x (Nat.le_trans cutR_len hz) hm) ?_
      rw [cutR_tl, List.drop_one]
      cases figR (TL.tl z).tail m with
      | none =>
        show KBackX _ _ _ (.error 8)
        walk_at "ev"
        rfl
      | some n =>
        show KBackX _ _ _ (.ok (.int n, false, []))
        walk_at "ev"
        rfl
  obtain ⟨r, e, h⟩ := key
  rw [e, h]
def powR (l : List Nat) : Option Int := (whR l 1).bind fun p => if -6 ≤ p ∧ p ≤ 6 then some p else none
theorem power_x {z : Str} (hz : z.length ≤ 100000) : evx_read_power [.str z] = some (outX ((powR (TL.tl z)).map D.int)) := by
  have key : Ok (evx_read_power [.str z]) fun r => r = outX ((powR (TL.tl z)).map D.int) := by
    unfold evx_read_power bx_read_power powR
    rw [w_defX rfl]
    walk_at "ev"
    refine ok_eq (whole_x hz (by decide)) ?_
    cases whR (TL.tl z) 1 with
    | none =>
      show KBackX _ _ _ (.error 8)
      walk_at "ev"
      rfl
    | some n =>
      show KBackX _ _ _ (.ok (.int n, false, []))
      walk_at "ev"
      refine ⟨fun q => ⟨fun q2 => ?_, fun q2 => ?_⟩, fun q => ?_⟩
      · rw [if_neg fun h => q2 h.2]
        rfl
      · rw [if_pos ⟨by omega, q2⟩]
        rfl
      · rw [if_neg fun h => q (by omega)]
        rfl
  obtain ⟨r, e, h⟩ := key
  rw [e, h]
/-- a number's word: top, stroke, bottom; figures are at most six -/
def ratP (p : Str × Str × Str) : Option (Int × Int) := if p.2.1 = Str.ofString "" then (whR (TL.tl p.1) 6).map fun t => (t, 1) else
  (whR (TL.tl p.1) 6).bind fun t => (figR (TL.tl p.2.2) 6).bind fun b => if b = 1 then none else some (t, b)
def ratR (z : Str) : Option (Int × Int) := ratP (Txt.partition z (Str.ofString "/"))
theorem part_len {z y : Str} : (Txt.partition z y).1.length ≤ z.length ∧ (Txt.partition z y).2.2.length ≤ z.length := by
  unfold Txt.partition
  split
  · exact ⟨le_strSub _ _ _, le_strSub _ _ _⟩
  · exact ⟨Nat.le_refl _, Nat.zero_le _⟩
theorem part_mid {z y : Str} : (Txt.partition z y).2.1 = y ∨ (Txt.partition z y).2.1 = Str.empty := by
  unfold Txt.partition
  split
  · exact Or.inl rfl
  · exact Or.inr rfl
theorem ratio_x {z : Str} (hz : z.length ≤ 100000) : evx_read_ratio [.str z] = some (outX ((ratR z).map encR)) := by
  have key : Ok (evx_read_ratio [.str z]) fun r => r = outX ((ratR z).map encR) := by
    have pl := part_len (z := z) (y := Str.ofString "/")
    unfold evx_read_ratio bx_read_ratio ratR
    rw [w_defX rfl]
    walk_at "ev"
    generalize Txt.partition z (Str.ofString "/") = p at pl
    refine ⟨⟨by decide +kernel, by omega⟩, fun q => ?_, fun q => ?_⟩
    · have e : ratP p = (whR (TL.tl p.1) 6).map fun t => (t, 1) := if_pos q
      rw [e]
      refine ok_eq (whole_x (by omega) (by decide)) ?_
      cases whR (TL.tl p.1) 6 with
      | none =>
        show KBackX _ _ _ (.error 8)
        walk_at "ev"
        rfl
      | some n =>
        show KBackX _ _ _ (.ok (.int n, false, []))
        walk_at "ev"
        rfl
    · have e : ratP p = (whR (TL.tl p.1) 6).bind fun t => (figR (TL.tl p.2.2) 6).bind fun b => if b = 1 then none else some (t, b) := if_neg q
      rw [e]
      refine ok_eq (whole_x (by omega) (by decide)) ?_
      cases whR (TL.tl p.1) 6 with
      | none =>
        show KBackX _ _ _ (.error 8)
        walk_at "ev"
        rfl
      | some n =>
        show KBackX _ _ _ (.ok (.int n, false, []))
        walk_at "ev"
        refine ok_eq (figs_x (by omega) (by decide)) ?_
        cases figR (TL.tl p.2.2) 6 with
        | none =>
          show KBackX _ _ _ (.error 8)
          walk_at "ev"
          rfl
        | some b =>
          show KBackX _ _ _ (.ok (.int b, false, []))
          walk_at "ev"
          refine ⟨fun q => ?_, fun q => ?_⟩
          · rw [q]
            rfl
          · rw [if_neg q]
            rfl
  obtain ⟨r, e, h⟩ := key
  rw [e, h]
/-- a term's word -/
def trmL : List Str → Option Trm
  | [n, a, b] => (powR (TL.tl a)).bind fun a => (powR (TL.tl b)).bind fun b => (ratR n).map fun n => (a, b, n)
  | _ => none
def trmR (z : Str) : Option Trm := trmL (Txt.split z (Str.ofString ":"))
theorem split_len {z y : Str} {w : Str} (h : w ∈ Txt.split z y) : w.length ≤ z.length := by
  unfold Txt.split at h
  split at h
  · rw [List.mem_singleton.mp h]
    exact Nat.le_refl _
  · split at h
    · rw [List.mem_singleton.mp h]
      exact Nat.le_refl _
    · unfold Builtin.Str.partsBetween at h
      obtain ⟨⟨i, j⟩, _, rfl⟩ := List.mem_map.mp h
      exact le_strSub _ _ _
theorem spl_len (S : List Nat) : ∀ (l : List Nat) (k : Nat) (acc : List Nat), (TL.spl S k acc l).length ≤ l.length + 1
  | [], k, acc => by rw [TL.spl_nil]; exact Nat.le_refl _
  | c :: r, k, acc => by
    rw [TL.spl_pass]
    cases k with
    | zero =>
      rw [List.drop_zero]
      cases h : TL.pre S (c :: r) with
      | true =>
        rw [TL.spl_hit h, List.length_cons, List.length_cons]
        exact Nat.succ_le_succ (spl_len S r _ _)
      | false =>
        rw [TL.spl_miss h, List.length_cons]
        exact Nat.le_succ_of_le (spl_len S r _ _)
    | succ k =>
      rw [List.drop_succ_cons, ← TL.spl_pass S k acc r, List.length_cons]
      exact Nat.le_succ_of_le (spl_len S r _ _)
theorem split_many {z y : Str} (hy : TL.tl y ≠ []) (hk : y.cps.all (· < 256) = true) : (Txt.split z y).length ≤ z.length + 1 := by
  have e := TL.split_spl z y hy (TL.kind_ok hk)
  have := spl_len (TL.tl y) (TL.tl z) 0 []
  rw [← e, List.length_map] at this
  rw [TL.len_tl z]
  exact this
theorem term_x {z : Str} (hz : z.length ≤ 90000) : evx_read_term [.str z] = some (outX ((trmR z).map encT)) := by
  have key : Ok (evx_read_term [.str z]) fun r => r = outX ((trmR z).map encT) := by
    have wl : ∀ w, w ∈ Txt.split z (Str.ofString ":") → w.length ≤ 90000 := fun w hw => Nat.le_trans (split_len hw) hz
    have ml := split_many (z := z) (y := Str.ofString ":") (by decide +kernel) (by decide +kernel)
    unfold evx_read_term bx_read_term trmR
    rw [w_defX rfl]
    walk_at "ev"
    generalize Txt.split z (Str.ofString ":") = ws at wl ml
    refine ⟨⟨by decide +kernel, by omega⟩, fun q => ?_, fun q => ?_⟩
    · match ws, q with
      | [], _ => rfl
      | [_], _ => rfl
      | [_, _], _ => rfl
      | [_, _, _], q => exact absurd rfl q
      | _ :: _ :: _ :: _ :: _, _ => rfl
    · match ws, q, wl with
      | [n, a, b], _, wl =>
        have hn := wl n (by simp)
        have ha := wl a (by simp)
        have hb := wl b (by simp)
        simp only [List.map_cons, List.map_nil]
        walk_at "ev"
        refine ok_eq (power_x (by omega)) ?_
        rw [show trmL [n, a, b] = (powR (TL.tl a)).bind fun a => (powR (TL.tl b)).bind fun b => (ratR n).map fun n => (a, b, n) from rfl]
        rcases h1 : powR (TL.tl a) with _ | i
        · show KBackX _ _ _ (.error 8)
          walk_at "ev"
          try simp only [h1]
          rfl
        · show KBackX _ _ _ (.ok (.int i, false, []))
          walk_at "ev"
          refine ok_eq (power_x (by omega)) ?_
          rcases h2 : powR (TL.tl b) with _ | j
          · show KBackX _ _ _ (.error 8)
            walk_at "ev"
            try simp only [h1, h2]
            rfl
          · show KBackX _ _ _ (.ok (.int j, false, []))
            walk_at "ev"
            refine ok_eq (ratio_x (by omega)) ?_
            rcases h3 : ratR n with _ | p
            · show KBackX _ _ _ (.error 8)
              walk_at "ev"
              try simp only [h1, h2, h3]
              rfl
            · show KBackX _ _ _ (.ok (.tup [.int p.1, .int p.2], false, []))
              walk_at "ev"
              try simp only [h1, h2, h3]
              rfl
      | [], q, _ => exact absurd q (by decide)
      | [_], q, _ => exact absurd q (show ¬ (((1 : Nat) : Int) = 3) by decide)
      | [_, _], q, _ => exact absurd q (show ¬ (((2 : Nat) : Int) = 3) by decide)
      | _ :: _ :: _ :: _ :: _, q, _ => exact absurd q (by simp only [List.length_cons]; omega)
  obtain ⟨r, e, h⟩ := key
  rw [e, h]
def allT : List Str → Option (List Trm)
  | [] => some []
  | w :: ws => (trmR w).bind fun t => (allT ws).map (t :: ·)
def hT (w : Str) : Except Nat D := match trmR w with
  | some t => .ok (encT t)
  | none => .error 8
def encX : Option (List Trm) → Except Nat (List D)
  | some ts => .ok (ts.map encT)
  | none => .error 8
theorem mapX_all : ∀ ws : List Str, mapX hT ws = encX (allT ws)
  | [] => rfl
  | w :: ws => by
    have ih := mapX_all ws
    have e : mapX hT (w :: ws) = match hT w with
      | .ok y => (mapX hT ws).map (y :: ·)
      | .error n => .error n := rfl
    have e2 : allT (w :: ws) = (trmR w).bind fun t => (allT ws).map (t :: ·) := rfl
    rw [e, e2, ih]
    rcases h : trmR w with _ | t
    · rw [show hT w = .error 8 from by unfold hT; rw [h]]
      rfl
    · rw [show hT w = .ok (encT t) from by unfold hT; rw [h]]
      cases allT ws with
      | none => rfl
      | some ts => rfl
/-- a text read: the terms, or nothing -/
def readR (z : Str) : Option (List Trm) := if z = Str.ofString "none" then some [] else (allT (Txt.split z (Str.ofString " "))).bind fun ts => if ts.length ≤ 9 ∧ sD (.lst (ts.map encT)) = true then some ts else none
theorem allT_len : ∀ {ws : List Str} {ts : List Trm}, allT ws = some ts → ts.length = ws.length
  | [], ts, h => by cases h; rfl
  | w :: ws, ts, h => by
    obtain ⟨t, h1, h⟩ := Option.bind_eq_some_iff.mp h
    obtain ⟨us, h2, rfl⟩ := Option.map_eq_some_iff.mp h
    rw [List.length_cons, List.length_cons, allT_len h2]
def outR (fr : Bool) : Option (List Trm) → Except Nat (D × Bool × List (List D))
  | some ts => .ok (.lst (ts.map encT), fr, [])
  | none => .error 8
theorem someOf {α : Type} {x : Option α} {a : α} (h : Ok x fun y => y = a) : x = some a := by
  obtain ⟨y, h1, h2⟩ := h
  rw [h1, h2]
theorem is_sum_trm {ts : List Trm} (hl : ts.length ≤ 9000) : ev_is_sum [.lst (ts.map encT)] = some (.bl (sD (.lst (ts.map encT))), false, []) := by
  refine is_sum_pl ?_ fun ds z => by cases z; rw [List.length_map]; exact hl
  show plA (ts.map encT) = true
  refine plA_of fun d hd => ?_
  obtain ⟨t, _, rfl⟩ := List.mem_map.mp hd
  rfl
theorem read_x {z : Str} (hz : z.length ≤ 8000) : ∃ fr, evx_read [.str z] = some (outR fr (readR z)) := by
  have key : Ok (evx_read [.str z]) fun r => ∃ fr, r = outR fr (readR z) := by
    have wl : ∀ w, w ∈ Txt.split z (Str.ofString " ") → w.length ≤ 90000 := fun w hw => Nat.le_trans (split_len hw) (by omega)
    have ml := split_many (z := z) (y := Str.ofString " ") (by decide +kernel) (by decide +kernel)
    unfold evx_read bx_read
    rw [w_defX rfl]
    walk_at "ev"
    refine ⟨fun q => ⟨true, by rw [show readR z = some [] from if_pos q]; rfl⟩, fun q => ⟨⟨by decide +kernel, by omega⟩, ?_⟩⟩
    have er : readR z = (allT (Txt.split z (Str.ofString " "))).bind fun ts => if ts.length ≤ 9 ∧ sD (.lst (ts.map encT)) = true then some ts else none := if_neg q
    generalize Txt.split z (Str.ofString " ") = ws at wl ml er
    refine lcX_map (c := D.str) (h := hT) (xs := ws) (fun w hw => ?_) ?_
    · have tx := term_x (wl w hw)
      rcases h : trmR w with _ | t
      · refine ⟨[.fz (.str z), .no, .fz (.str w)], [.fz (.str z), .no, .fz (.str w)], (.ex 8, [.fz (.str z), .no, .fz (.str w)]), rfl, rfl, someOf ?_, rfl, ?_⟩
        · walk_at "ev"
          refine ok_eq tx ?_
          rw [h]
          show KBackX _ _ _ (.error 8)
          walk_at "ev"
        · rw [show hT w = .error 8 from by unfold hT; rw [h]]
          rfl
      · refine ⟨[.fz (.str z), .no, .fz (.str w)], [.fz (.str z), .no, .fz (.str w)], (.val (encT t), [.fz (.str z), .no, .fz (.str w)]), rfl, rfl, someOf ?_, rfl, ?_⟩
        · walk_at "ev"
          refine ok_eq tx ?_
          rw [h]
          show KBackX _ _ _ (.ok (.tup [.int t.1, .int t.2.1, encR t.2.2], false, []))
          walk_at "ev"
          rfl
        · rw [show hT w = .ok (encT t) from by unfold hT; rw [h]]
          rfl
    · rw [mapX_all]
      rcases h : allT ws with _ | ts
      · show KLcX3 _ _ _ _ (.error 8, _)
        walk_at "ev"
        refine ⟨by omega, false, ?_⟩
        rw [er, h]
        rfl
      · show KLcX3 _ _ _ _ (.ok (ts.map encT), _)
        have tl := allT_len h
        walk_at "ev"
        refine ⟨by omega, fun q2 => ⟨false, ?_⟩, fun q2 => ok_eq (is_sum_trm (by omega)) ?_⟩
        · rw [er, h, Option.bind_some, if_neg fun c => by have := c.1; omega]
          rfl
        · rcases hs : sD (.lst (ts.map encT)) with _ | _
          · walk_at "ev"
            refine ⟨false, ?_⟩
            rw [er, h, Option.bind_some, if_neg fun c => by rw [hs] at c; cases c.2]
            rfl
          · walk_at "ev"
            refine ⟨false, ?_⟩
            rw [er, h, Option.bind_some, if_pos ⟨by omega, hs⟩]
            rfl
  obtain ⟨r, e, fr, h⟩ := key
  exact ⟨fr, by rw [e, h]⟩
end Lw
namespace Lw
open PySem L2 Dv
def oI : Option Int → D
  | some i => .int i
  | none => .non
def fgL (l : List Nat) : List Nat := if l.head? = some 45 then l.tail else l
def wofR (l : List Nat) (m : Int) : Option Int := if fgL l = [] ∨ 6 < (fgL l).length ∨ digB (fgL l) = false then none else
  if ((fgL l).head? = some 48 ∧ l ≠ [48]) ∨ ((NumText.digitsVal (fgL l) : Nat) : Int) > m then none else
  some (if l.head? = some 45 then -((NumText.digitsVal (fgL l) : Nat) : Int) else ((NumText.digitsVal (fgL l) : Nat) : Int))
def ndig (c : Nat) : Bool := !decide (48 ≤ c ∧ c ≤ 57)
def sg1 (c : Nat) : D := .str ⟨#[c]⟩
theorem shp_sg {c : Nat} (h : c < 1114112) : Shp 0 (sg1 c) := ⟨by
  show (#[c] : Array Nat).all (· < 0x110000) = true
  simp only [List.all_toArray, List.all_cons, List.all_nil, Bool.and_true, decide_eq_true_eq]
  exact h, Nat.le_refl 0⟩
/-- signs of a text that can be compared -/
def Sgn (l : List Nat) : Prop := ∀ c, c ∈ l → c < 1114112
theorem gNe_sigs (l : List Nat) (hl : Sgn l) : gNe (.lst (l.map sg1)) (.lst []) = some (.val (.bl (!decide (l = [])))) := by
  refine gNe_of (shp_of (shp_lst (k := 0) fun d h => ?_) (by decide)) (by decide +kernel) ?_
  · obtain ⟨c, hc, rfl⟩ := List.mem_map.mp h
    exact shp_sg (hl c (by assumption))
  · rw [eqD_lst]
    cases l with
    | nil => rfl
    | cons c r =>
      rw [List.map_cons, eqA_cn]
      exact (decide_eq_false (by simp)).symm
theorem ndig_nil {l : List Nat} : l.filter ndig = [] ↔ digB l = true := by
  rw [List.filter_eq_nil_iff]
  unfold digB ndig
  simp only [List.all_eq_true, decide_eq_true_eq, Bool.not_eq_true', decide_eq_false_iff_not, Decidable.not_not]
theorem empty_iff {g : Str} : g = Str.ofString "" ↔ TL.tl g = [] := ⟨fun h => by rw [h]; decide +kernel, fun h => TL.ext_tl (h.trans (by decide +kernel))⟩
theorem zero_iff {g : Str} : g = Str.ofString "0" ↔ TL.tl g = [48] := ⟨fun h => by rw [h]; decide +kernel, fun h => TL.ext_tl (h.trans (by decide +kernel))⟩
theorem wof_x {z : Str} {m : Int} (hz : z.length ≤ 100000) (hs : Sgn (TL.tl z)) (hm : m ≤ 10 ^ 9) : ev__law_whole_of [.str z, .int m] = some (oI (wofR (TL.tl z) m), false, []) := by
  have key : Ok (ev__law_whole_of [.str z, .int m]) fun r => r = (oI (wofR (TL.tl z) m), false, []) := by
    unfold ev__law_whole_of b__law_whole_of
    rw [w_def rfl]
    walk_at "evj"
    refine cut_seq (fun e => ∃ g : Str, e = [.fz (.str z), .fz (.int m), .fz (.str g), .no] ∧ TL.tl g = fgL (TL.tl z) ∧ g.length ≤ 100000) ?_ ?_
    · walk_at "ev"
      refine ⟨by omega, fun q => ⟨by omega, _, rfl, ?_, Nat.le_trans cutR_len hz⟩, fun q => ⟨z, rfl, ?_, hz⟩⟩
      · rw [cutR_tl, List.drop_one]
        exact (if_pos (dash_iff.mp q)).symm
      · exact (if_neg fun h => q (dash_iff.mpr h)).symm
    · rintro e ⟨g, rfl, hg, gl⟩
      walk_at "ev"
      have gll : g.length = (fgL (TL.tl z)).length := by rw [TL.len_tl, hg]
      have no : (fgL (TL.tl z) = [] ∨ 6 < (fgL (TL.tl z)).length ∨ digB (fgL (TL.tl z)) = false) → (D.non, false, ([] : List (List D))) = (oI (wofR (TL.tl z) m), false, []) := fun c => by
        unfold wofR
        rw [if_pos c]
        rfl
      refine ⟨fun q => no (Or.inl (by rw [← hg]; exact empty_iff.mp q)), fun q => ⟨by omega, fun q2 => no (Or.inr (Or.inl (by omega))), fun q2 => ?_⟩⟩
      refine lc_inv (fun n acc env => env = [.fz (.str z), .fz (.int m), .fz (.str g), .no] ∧ acc = (((TL.tl g).take n).filter ndig).map sg1) _ 0 [] _ ⟨rfl, rfl⟩ (fun j d acc env hd hi => ?_) fun out env hi => ?_
      · obtain ⟨rfl, rfl⟩ := hi
        unfold sigs at hd
        rw [List.getElem?_map] at hd
        obtain ⟨k, hk, rfl⟩ := Option.map_eq_some_iff.mp hd
        have hk : (TL.tl g)[j]? = some k := hk
        walk_at "ev"
        rw [List.take_add_one, hk, List.filter_append, List.map_append]
        refine ⟨fun q => ?_, fun q => ?_⟩
        · have e : ndig k = true := by
            unfold ndig
            rw [decide_eq_false fun h => q (mem_figs.mpr h)]
            rfl
          simp only [Option.toList_some, List.filter_cons, e, if_true, List.filter_nil, List.map_cons, List.map_nil]
          rfl
        · have e : ndig k = false := by
            unfold ndig
            rw [decide_eq_true (mem_figs.mp q)]
            rfl
          simp only [Option.toList_some, List.filter_cons, e, List.filter_nil, List.map_nil, List.append_nil, Bool.false_eq_true, if_false]
      · obtain ⟨rfl, ho⟩ := hi
        have ls : (sigs g).length = (TL.tl g).length := by
          unfold sigs
          rw [List.length_map]
        rw [List.nil_append, Nat.zero_add, ls, List.take_length, hg] at ho
        subst ho
        walk_at "ev"
        have lf := List.length_filter_le ndig (fgL (TL.tl z))
        have sf : Sgn ((fgL (TL.tl z)).filter ndig) := fun c hc => hs c (by
          have := (List.mem_filter.mp hc).1
          unfold fgL at this
          split at this
          · exact List.mem_of_mem_tail this
          · exact this)
        refine ⟨by omega, ok_eq (gNe_sigs _ sf) ?_⟩
        rcases hd : digB (fgL (TL.tl z)) with _ | _
        · rw [decide_eq_false fun h => by rw [ndig_nil.mp h] at hd; cases hd]
          walk_at "ev"
          exact no (Or.inr (Or.inr hd))
        · rw [decide_eq_true (ndig_nil.mpr hd)]
          walk_at "ev"
          have f0 : fgL (TL.tl z) ≠ [] := fun h => q (empty_iff.mpr (by rw [hg, h]))
          obtain ⟨c, r, ec⟩ := List.exists_cons_of_ne_nil f0
          have e1 : ¬ (fgL (TL.tl z) = [] ∨ 6 < (fgL (TL.tl z)).length ∨ digB (fgL (TL.tl z)) = false) := by
            rintro (h | h | h)
            · exact f0 h
            · omega
            · rw [hd] at h
              cases h
          have gi := gIntS_digs (z := g) (by rw [hg]; exact hd) (by rw [gll, ec, List.length_cons]; omega) (by omega)
          rw [hg] at gi
          have no2 : ((fgL (TL.tl z)).head? = some 48 ∧ TL.tl z ≠ [48]) ∨ ((NumText.digitsVal (fgL (TL.tl z)) : Nat) : Int) > m → (D.non, false, ([] : List (List D))) = (oI (wofR (TL.tl z) m), false, []) := fun h => by
            unfold wofR
            rw [if_neg e1, if_pos h]
            rfl
          refine ok_eq (gIx_str0 (z := g) (c := c) (r := r) (by rw [hg, ec]) (by omega)) ?_
          walk_at "ev"
          have zl : z.length ≤ 640 := by
            rw [TL.len_tl]
            have h6 : (fgL (TL.tl z)).length ≤ 6 := by omega
            unfold fgL at h6
            split at h6
            · rw [List.length_tail] at h6
              omega
            · omega
          have gz : gIntS [.str z] = some (.val (.int (if (TL.tl z).head? = some 45 then -((NumText.digitsVal (fgL (TL.tl z)) : Nat) : Int) else ((NumText.digitsVal (fgL (TL.tl z)) : Nat) : Int)))) := by
            by_cases c45 : (TL.tl z).head? = some 45
            · rw [if_pos c45]
              have ef : fgL (TL.tl z) = (TL.tl z).tail := if_pos c45
              have ez : z.cps.toList = 45 :: fgL (TL.tl z) := by
                rw [ef]
                show TL.tl z = _
                cases h : TL.tl z with
                | nil => rw [h] at c45; cases c45
                | cons x y =>
                  rw [h] at c45
                  rw [Option.some.inj c45]
                  rfl
              have e := intText_neg (x := z) ez (digB_iff.mp hd) f0 (by omega)
              show (if z.length ≤ 640 then (PySem.intText? z).bind fun n => some (RV.val (.int n)) else none) = _
              rw [if_pos zl, e]
              rfl
            · rw [if_neg c45]
              have ef : fgL (TL.tl z) = TL.tl z := if_neg c45
              have := gIntS_digs (z := z) (by rw [← ef]; exact hd) (by rw [TL.len_tl, ← ef, ec, List.length_cons]; omega) zl
              rw [ef]
              exact this
          have yes : ¬ (((fgL (TL.tl z)).head? = some 48 ∧ TL.tl z ≠ [48]) ∨ ((NumText.digitsVal (fgL (TL.tl z)) : Nat) : Int) > m) → (D.int (if (TL.tl z).head? = some 45 then -((NumText.digitsVal (fgL (TL.tl z)) : Nat) : Int) else ((NumText.digitsVal (fgL (TL.tl z)) : Nat) : Int)), false, ([] : List (List D))) = (oI (wofR (TL.tl z) m), false, []) := fun h => by
            unfold wofR
            rw [if_neg e1, if_neg h]
            rfl
          refine ⟨fun q3 => ⟨fun q4 => no2 (Or.inl ⟨by rw [ec]; exact congrArg some (sig_zero.mp q3), fun h => q4 (zero_iff.mpr h)⟩), fun q4 => ok_eq gi ?_⟩, fun q3 => ok_eq gi ?_⟩
          · walk_at "ev"
            refine ⟨fun q5 => no2 (Or.inr q5), fun q5 => ok_eq gz ?_⟩
            walk_at "ev"
            exact yes fun h => h.elim (fun h => h.2 (zero_iff.mp q4)) q5
          · walk_at "ev"
            refine ⟨fun q5 => no2 (Or.inr q5), fun q5 => ok_eq gz ?_⟩
            walk_at "ev"
            exact yes fun h => h.elim (fun h => q3 (sig_zero.mpr (by
              have := h.1
              rw [ec] at this
              exact Option.some.inj this))) q5
  obtain ⟨r, e, h⟩ := key
  rw [e, h]
theorem val_fold : ∀ (l : List Nat) (a : Nat), NumText.AllDigits l → a * 10 ^ l.length ≤ l.foldl (fun acc c => acc * 10 + (c - 48)) a ∧ l.foldl (fun acc c => acc * 10 + (c - 48)) a < (a + 1) * 10 ^ l.length
  | [], a, _ => by simp
  | c :: l, a, h => by
    have h2 := h c List.mem_cons_self
    obtain ⟨h3, h4⟩ := val_fold l (a * 10 + (c - 48)) fun d hd => h d (List.mem_cons_of_mem _ hd)
    rw [List.foldl_cons, List.length_cons, Nat.pow_succ]
    constructor
    · refine Nat.le_trans ?_ h3
      rw [Nat.mul_comm (10 ^ l.length) 10, ← Nat.mul_assoc]
      exact Nat.mul_le_mul_right _ (by omega)
    · refine Nat.lt_of_lt_of_le h4 ?_
      rw [Nat.mul_comm (10 ^ l.length) 10, ← Nat.mul_assoc]
      exact Nat.mul_le_mul_right _ (by omega)
theorem val_lt {l : List Nat} (h : NumText.AllDigits l) : NumText.digitsVal l < 10 ^ l.length := by
  have := (val_fold l 0 h).2
  rw [Nat.zero_add, Nat.one_mul] at this
  exact this
theorem val_ge {l : List Nat} {c : Nat} (h : NumText.AllDigits (c :: l)) (h0 : c ≠ 48) : 10 ^ l.length ≤ NumText.digitsVal (c :: l) := by
  have h2 := h c List.mem_cons_self
  have := (val_fold l (0 * 10 + (c - 48)) fun d hd => h d (List.mem_cons_of_mem _ hd)).1
  refine Nat.le_trans ?_ this
  have : 1 ≤ 0 * 10 + (c - 48) := by omega
  exact Nat.le_trans (by rw [Nat.one_mul]; exact Nat.le_refl _) (Nat.mul_le_mul_right (10 ^ l.length) this)
theorem fig_some {l : List Nat} {m : Int} {n : Int} : figR l m = some n ↔ (1 ≤ l.length ∧ (l.length : Int) ≤ m ∧ ¬ (l.head? = some 48 ∧ 1 < l.length) ∧ digB l = true) ∧ n = ((NumText.digitsVal l : Nat) : Int) := by
  unfold figR
  split
  · rename_i h
    constructor
    · intro e; cases e; exact ⟨h, rfl⟩
    · rintro ⟨_, rfl⟩; rfl
  · rename_i h
    constructor
    · intro e; cases e
    · rintro ⟨e, _⟩; exact absurd e h
/-- the law's condition on a word, in words of its figures -/
theorem wof_some {l : List Nat} {m n : Int} : wofR l m = some n ↔ (1 ≤ (fgL l).length ∧ (fgL l).length ≤ 6 ∧ digB (fgL l) = true ∧ ¬ ((fgL l).head? = some 48 ∧ l ≠ [48]) ∧ ((NumText.digitsVal (fgL l) : Nat) : Int) ≤ m) ∧ n = if l.head? = some 45 then -((NumText.digitsVal (fgL l) : Nat) : Int) else ((NumText.digitsVal (fgL l) : Nat) : Int) := by
  have e0 : fgL l = [] ↔ ¬ 1 ≤ (fgL l).length := by
    cases fgL l with
    | nil => simp
    | cons a b => simp
  unfold wofR
  split
  · rename_i h
    constructor
    · intro e; cases e
    · rintro ⟨⟨h1, h2, h3, _⟩, _⟩
      rcases h with h | h | h
      · exact absurd h1 (e0.mp h)
      · omega
      · rw [h3] at h; cases h
  · rename_i h
    split
    · rename_i h2
      constructor
      · intro e; cases e
      · rintro ⟨⟨_, _, _, h4, h5⟩, _⟩
        rcases h2 with h2 | h2
        · exact absurd h2 h4
        · omega
    · rename_i h2
      have f1 : 1 ≤ (fgL l).length := Decidable.byContradiction fun c => h (Or.inl (e0.mpr c))
      have f2 : (fgL l).length ≤ 6 := Nat.le_of_not_lt fun c => h (Or.inr (Or.inl c))
      have f3 : digB (fgL l) = true := by
        cases hd : digB (fgL l) with
        | true => rfl
        | false => exact absurd (Or.inr (Or.inr hd)) h
      constructor
      · intro e
        exact ⟨⟨f1, f2, f3, fun c => h2 (Or.inl c), Int.not_lt.mp fun c => h2 (Or.inr c)⟩, (Option.some.inj e).symm⟩
      · rintro ⟨_, rfl⟩; rfl
theorem one_le {l : List Nat} (h : l.head? = some 48) (h2 : ¬ 1 < l.length) : l = [48] := by
  cases l with
  | nil => cases h
  | cons a b =>
    cases b with
    | nil => rw [Option.some.inj h]
    | cons c d => exact absurd (by simp) h2
theorem wh_some {l : List Nat} {m n : Int} : whR l m = some n ↔ (1 ≤ (fgL l).length ∧ ((fgL l).length : Int) ≤ m ∧ digB (fgL l) = true ∧ ¬ ((fgL l).head? = some 48 ∧ l ≠ [48])) ∧ n = if l.head? = some 45 then -((NumText.digitsVal (fgL l) : Nat) : Int) else ((NumText.digitsVal (fgL l) : Nat) : Int) := by
  unfold whR
  by_cases c : l.head? = some 45
  · have ef : fgL l = l.tail := if_pos c
    have l48 : l ≠ [48] := fun h => by rw [h] at c; cases c
    have lt : l = 45 :: l.tail := by
      cases l with
      | nil => cases c
      | cons a b => rw [Option.some.inj c]; rfl
    rw [if_pos c, if_pos c]
    by_cases c2 : l = [45, 48]
    · rw [if_pos c2]
      constructor
      · intro e; cases e
      · rintro ⟨⟨_, _, _, h4⟩, _⟩
        exact absurd ⟨by rw [ef, c2]; rfl, l48⟩ h4
    · rw [if_neg c2, Option.map_eq_some_iff]
      constructor
      · rintro ⟨i, hi, rfl⟩
        obtain ⟨⟨h1, h2, h3, h4⟩, rfl⟩ := fig_some.mp hi
        rw [ef]
        refine ⟨⟨h1, h2, h4, fun h => ?_⟩, by omega⟩
        by_cases c3 : 1 < l.tail.length
        · exact h3 ⟨h.1, c3⟩
        · exact c2 (by rw [lt, one_le h.1 c3])
      · rintro ⟨⟨h1, h2, h3, h4⟩, rfl⟩
        rw [ef] at h1 h2 h3 h4 ⊢
        exact ⟨_, fig_some.mpr ⟨⟨h1, h2, fun h => h4 ⟨h.1, l48⟩, h3⟩, rfl⟩, by omega⟩
  · have ef : fgL l = l := if_neg c
    rw [if_neg c, if_neg c, ef, fig_some]
    constructor
    · rintro ⟨⟨h1, h2, h3, h4⟩, rfl⟩
      refine ⟨⟨h1, h2, h4, fun h => ?_⟩, rfl⟩
      by_cases c3 : 1 < l.length
      · exact h3 ⟨h.1, c3⟩
      · exact h.2 (one_le h.1 c3)
    · rintro ⟨⟨h1, h2, h3, h4⟩, rfl⟩
      exact ⟨⟨h1, h2, fun h => h4 ⟨h.1, fun e => by rw [e] at h; exact absurd h.2 (by decide)⟩, h3⟩, rfl⟩
theorem opt_ext {α : Type} {x y : Option α} (h : ∀ a, x = some a ↔ y = some a) : x = y := by
  cases x with
  | none =>
    cases y with
    | none => rfl
    | some b => exact ((h b).mpr rfl)
  | some a => exact ((h a).mp rfl).symm
theorem wof_wh (l : List Nat) : wofR l 999999 = whR l 6 := opt_ext fun n => by
  rw [wof_some, wh_some]
  constructor
  · rintro ⟨⟨h1, h2, h3, h4, h5⟩, h6⟩
    exact ⟨⟨h1, by omega, h3, h4⟩, h6⟩
  · rintro ⟨⟨h1, h2, h3, h4⟩, h6⟩
    refine ⟨⟨h1, by omega, h3, h4, ?_⟩, h6⟩
    have := val_lt (digB_iff.mp h3)
    have : NumText.digitsVal (fgL l) < 10 ^ 6 := Nat.lt_of_lt_of_le this (Nat.pow_le_pow_right (by decide) (by omega))
    omega
theorem wof_pow (l : List Nat) : wofR l 6 = powR l := opt_ext fun n => by
  unfold powR
  rw [wof_some, Option.bind_eq_some_iff]
  constructor
  · rintro ⟨⟨h1, h2, h3, h4, h5⟩, h6⟩
    have l1 : (fgL l).length ≤ 1 := by
      refine Nat.le_of_not_lt fun c => ?_
      match e : fgL l, c with
      | a :: b :: r, _ =>
        rw [e] at h3 h4 h5
        have a48 : a ≠ 48 := fun q => h4 ⟨by rw [q]; rfl, fun q2 => by
          have e2 : fgL l = l := if_neg fun q3 => by rw [q2] at q3; cases q3
          rw [q2] at e2
          rw [q2, e2] at e
          cases e⟩
        have := val_ge (digB_iff.mp h3) a48
        rw [List.length_cons] at this
        have : 10 ^ 1 ≤ 10 ^ (r.length + 1) := Nat.pow_le_pow_right (by decide) (by omega)
        omega
    refine ⟨n, wh_some.mpr ⟨⟨h1, by omega, h3, h4⟩, h6⟩, if_pos ?_⟩
    split at h6 <;> omega
  · rintro ⟨p, hp, h⟩
    split at h
    · rename_i hc
      cases h
      obtain ⟨⟨h1, h2, h3, h4⟩, h6⟩ := wh_some.mp hp
      refine ⟨⟨h1, by omega, h3, h4, ?_⟩, h6⟩
      split at h6 <;> omega
    · cases h
end Lw
namespace Lw
open PySem L2 Dv
def nofR (z : Str) : Option R := (ratR z).bind fun p => if isR p = true ∧ p.1 ≠ 0 then some p else none
def oR : Option R → D
  | some p => encR p
  | none => .non
theorem sgn_sub {z : Str} {i j : Nat} (h : Sgn (TL.tl z)) : Sgn (TL.tl (Builtin.Str.strSub z i j)) := fun c hc => by
  rw [TL.tl_strSub] at hc
  exact h c (List.mem_of_mem_drop (List.mem_of_mem_take hc))
theorem sgn_part {z y : Str} (h : Sgn (TL.tl z)) : Sgn (TL.tl (Txt.partition z y).1) ∧ Sgn (TL.tl (Txt.partition z y).2.2) := by
  unfold Txt.partition
  split
  · exact ⟨sgn_sub h, sgn_sub h⟩
  · exact ⟨h, fun c hc => by cases hc⟩
theorem sgn_split {z y : Str} (h : Sgn (TL.tl z)) {w : Str} (hw : w ∈ Txt.split z y) : Sgn (TL.tl w) := by
  unfold Txt.split at hw
  split at hw
  · rw [List.mem_singleton.mp hw]; exact h
  · split at hw
    · rw [List.mem_singleton.mp hw]; exact h
    · unfold Builtin.Str.partsBetween at hw
      obtain ⟨⟨i, j⟩, _, rfl⟩ := List.mem_map.mp hw
      exact sgn_sub h
def nlR (x y : Option Int) (s : Prop) [Decidable s] : Option R := x.bind fun t => y.bind fun b => if t = 0 ∨ b < 1 ∨ (s ∧ b = 1) ∨ Int.gcd t b ≠ 1 then none else some (t, b)
theorem wh_fig {l : List Nat} {b : Int} (h : 1 ≤ b) : whR l 6 = some b ↔ figR l 6 = some b := by
  rw [wh_some, fig_some]
  by_cases c : l.head? = some 45
  · rw [if_pos c]
    constructor
    · rintro ⟨_, e⟩
      omega
    · rintro ⟨⟨_, _, _, h4⟩, _⟩
      cases l with
      | nil => cases c
      | cons a r =>
        have := digB_iff.mp h4 a List.mem_cons_self
        have := Option.some.inj c
        omega
  · have ef : fgL l = l := if_neg c
    rw [if_neg c, ef]
    constructor
    · rintro ⟨⟨h1, h2, h3, h4⟩, e⟩
      refine ⟨⟨h1, h2, fun q => h4 ⟨q.1, fun q2 => ?_⟩, h3⟩, e⟩
      rw [q2] at q
      exact absurd q.2 (by decide)
    · rintro ⟨⟨h1, h2, h3, h4⟩, e⟩
      refine ⟨⟨h1, h2, h4, fun q => ?_⟩, e⟩
      by_cases c3 : 1 < l.length
      · exact h3 ⟨q.1, c3⟩
      · exact q.2 (one_le q.1 c3)
theorem isR_ok {t b : Int} : isR (t, b) = true ↔ 0 < b ∧ Int.gcd t b = 1 := by
  unfold isR
  rw [Bool.and_eq_true, decide_eq_true_eq, decide_eq_true_eq]
theorem nlR_eq {p : Str × Str × Str} (pm : p.2.1 = Str.ofString "/" ∨ p.2.1 = Str.empty) : nlR (whR (TL.tl p.1) 6) (if p.2.1 = Str.ofString "/" then whR (TL.tl p.2.2) 6 else some 1) (p.2.1 = Str.ofString "/") = (ratP p).bind fun p => if isR p = true ∧ p.1 ≠ 0 then some p else none := by
  have ne : ¬ Str.ofString "/" = Str.ofString "" := by decide +kernel
  have ne2 : ¬ Str.empty = Str.ofString "/" := by decide +kernel
  have ee : Str.empty = Str.ofString "" := by decide +kernel
  unfold nlR
  rcases pm with c | c
  · have e : ratP p = (whR (TL.tl p.1) 6).bind fun t => (figR (TL.tl p.2.2) 6).bind fun b => if b = 1 then none else some (t, b) := if_neg (by rw [c]; exact ne)
    rw [e, if_pos c]
    cases whR (TL.tl p.1) 6 with
    | none => rfl
    | some t =>
      rw [Option.bind_some, Option.bind_some]
      refine opt_ext fun q => ?_
      rw [Option.bind_eq_some_iff, Option.bind_eq_some_iff]
      constructor
      · rintro ⟨b, hb, h⟩
        split at h
        · cases h
        · rename_i hn
          cases h
          have b1 : 1 ≤ b := Int.not_lt.mp fun z => hn (Or.inr (Or.inl z))
          refine ⟨(t, b), Option.bind_eq_some_iff.mpr ⟨b, (wh_fig b1).mp hb, if_neg fun z => hn (Or.inr (Or.inr (Or.inl ⟨c, z⟩)))⟩, if_pos ⟨isR_ok.mpr ⟨by omega, ?_⟩, fun z => hn (Or.inl z)⟩⟩
          exact Decidable.byContradiction fun z => hn (Or.inr (Or.inr (Or.inr z)))
      · rintro ⟨r, hr, h⟩
        obtain ⟨b, hb, hr⟩ := Option.bind_eq_some_iff.mp hr
        split at hr
        · cases hr
        · rename_i b1
          cases hr
          split at h
          · rename_i hk
            cases h
            obtain ⟨k1, k2⟩ := isR_ok.mp hk.1
            refine ⟨b, (wh_fig (by omega)).mpr hb, if_neg ?_⟩
            rintro (z | z | z | z)
            · exact hk.2 z
            · omega
            · exact b1 z.2
            · exact z k2
          · cases h
  · have e : ratP p = (whR (TL.tl p.1) 6).map fun t => (t, 1) := if_pos (by rw [c]; exact ee)
    rw [e, if_neg (by rw [c]; exact ne2)]
    cases whR (TL.tl p.1) 6 with
    | none => rfl
    | some t =>
      show (if t = 0 ∨ (1 : Int) < 1 ∨ (p.2.1 = Str.ofString "/" ∧ (1 : Int) = 1) ∨ Int.gcd t 1 ≠ 1 then none else some (t, 1)) = if isR (t, 1) = true ∧ t ≠ 0 then some (t, 1) else none
      have g1 : Int.gcd t 1 = 1 := Int.gcd_one
      by_cases z : t = 0
      · rw [if_pos (Or.inl z), if_neg fun h => h.2 z]
      · rw [if_neg, if_pos ⟨isR_ok.mpr ⟨by decide, g1⟩, z⟩]
        rintro (h | h | h | h)
        · exact z h
        · omega
        · rw [c] at h
          exact ne2 h.1
        · exact h g1
theorem gIn_N (x y : Option Int) : gInTD false .non (.tup [oI x, oI y]) = some (.val (.bl (x.isNone || y.isNone))) := by
  cases x <;> cases y <;> rfl
theorem nof_x {z : Str} (hz : z.length ≤ 100000) (hs : Sgn (TL.tl z)) : ev__law_number_of [.str z] = some (oR (nofR z), false, []) := by
  have key : Ok (ev__law_number_of [.str z]) fun r => r = (oR (nofR z), false, []) := by
    have pl := part_len (z := z) (y := Str.ofString "/")
    have ps := sgn_part (y := Str.ofString "/") hs
    have pm := part_mid (z := z) (y := Str.ofString "/")
    unfold ev__law_number_of b__law_number_of nofR ratR
    rw [w_def rfl]
    walk_at "evj"
    generalize Txt.partition z (Str.ofString "/") = p at pl ps pm
    have w1 := wof_x (m := 999999) (z := p.1) (by omega) ps.1 (by decide)
    have w2 := wof_x (m := 999999) (z := p.2.2) (by omega) ps.2 (by decide)
    rw [wof_wh] at w1 w2
    rw [← nlR_eq pm]
    refine ⟨⟨by decide +kernel, by omega⟩, ok_eq w1 ?_⟩
    generalize whR (TL.tl p.1) 6 = x at w1
    generalize whR (TL.tl p.2.2) 6 = y0 at w2
    walk_at "evj"
    refine cut_seq (fun e => e = [.fz (.str z), .fz (.str p.1), .fz (.str p.2.1), .fz (.str p.2.2), .fz (.tup [oI x, oI (if p.2.1 = Str.ofString "/" then y0 else some 1)])]) ?_ ?_
    · walk_at "ev"
      refine ⟨fun q => ok_eq w2 ?_, fun q => by rw [if_neg q]; rfl⟩
      walk_at "ev"
      rw [if_pos q]
    · rintro e rfl
      generalize (if p.2.1 = Str.ofString "/" then y0 else some 1) = y
      walk_at "ev"
      refine ok_eq (gIn_N x y) ?_
      cases x with
      | none =>
        rw [Option.isNone_none, Bool.true_or]
        walk_at "ev"
        rfl
      | some t =>
        cases y with
        | none =>
          rw [Option.isNone_none, Bool.or_true]
          walk_at "ev"
          rfl
        | some b =>
          rw [Option.isNone_some, Option.isNone_some, Bool.or_false]
          unfold oI
          walk_at "ev"
          have no : (t = 0 ∨ b < 1 ∨ (p.2.1 = Str.ofString "/" ∧ b = 1) ∨ Int.gcd t b ≠ 1) → (D.non, false, ([] : List (List D))) = (oR (nlR (some t) (some b) (p.2.1 = Str.ofString "/")), false, []) := fun h => by
            unfold nlR
            rw [Option.bind_some, Option.bind_some, if_pos h]
            rfl
          refine ⟨fun q => no (Or.inl q), fun q => ⟨fun q2 => no (Or.inr (Or.inl q2)), fun q2 => ?_⟩⟩
          have sh := share_eq t b
          have yes : ¬ (p.2.1 = Str.ofString "/" ∧ b = 1) → Int.gcd t b = 1 → (D.tup [D.int t, D.int b], false, ([] : List (List D))) = (oR (nlR (some t) (some b) (p.2.1 = Str.ofString "/")), false, []) := fun h1 h2 => by
            unfold nlR
            rw [Option.bind_some, Option.bind_some, if_neg]
            · rfl
            · rintro (h | h | h | h)
              · exact q h
              · exact q2 h
              · exact h1 h
              · exact h h2
          refine ⟨fun q3 => ⟨fun q4 => no (Or.inr (Or.inr (Or.inl ⟨q3, q4⟩))), fun q4 => ok_eq sh ?_⟩, fun q3 => ok_eq sh ?_⟩
          · walk_at "ev"
            exact ⟨fun h => no (Or.inr (Or.inr (Or.inr (by omega)))), fun h => yes (fun h2 => q4 h2.2) (by omega)⟩
          · walk_at "ev"
            exact ⟨fun h => no (Or.inr (Or.inr (Or.inr (by omega)))), fun h => yes (fun h2 => q3 h2.1) (by omega)⟩
  obtain ⟨r, e, h⟩ := key
  rw [e, h]
end Lw
namespace Lw
open PySem L2 Dv
def trlL : List Str → Option Trm
  | [n, a, b] => (nofR n).bind fun n => (powR (TL.tl a)).bind fun a => (powR (TL.tl b)).map fun b => (a, b, n)
  | _ => none
def trl (w : Str) : Option Trm := trlL (Txt.split w (Str.ofString ":"))
def okT (t : Trm) : Prop := isR t.2.2 = true ∧ t.2.2.1 ≠ 0
instance (t : Trm) : Decidable (okT t) := inferInstanceAs (Decidable (_ ∧ _))
theorem trl_eq (w : Str) : trl w = (trmR w).bind fun t => if okT t then some t else none := by
  unfold trl trmR
  generalize Txt.split w (Str.ofString ":") = ws
  match ws with
  | [] => rfl
  | [_] => rfl
  | [_, _] => rfl
  | _ :: _ :: _ :: _ :: _ => rfl
  | [n, a, b] =>
    rw [show trlL [n, a, b] = (nofR n).bind fun n => (powR (TL.tl a)).bind fun a => (powR (TL.tl b)).map fun b => (a, b, n) from rfl, show trmL [n, a, b] = (powR (TL.tl a)).bind fun a => (powR (TL.tl b)).bind fun b => (ratR n).map fun n => (a, b, n) from rfl]
    unfold nofR
    cases ratR n with
    | none => cases powR (TL.tl a) <;> cases powR (TL.tl b) <;> rfl
    | some p =>
      cases powR (TL.tl a) with
      | none =>
        rw [Option.bind_some]
        split <;> rfl
      | some i =>
        cases powR (TL.tl b) with
        | none =>
          rw [Option.bind_some]
          split <;> rfl
        | some j =>
          rw [Option.bind_some, Option.bind_some, Option.bind_some, Option.map_some, Option.bind_some]
          by_cases c : isR p = true ∧ p.1 ≠ 0
          · rw [if_pos c, if_pos (show okT (i, j, p) from c)]
            rfl
          · rw [if_neg c, if_neg (show ¬ okT (i, j, p) from c)]
            rfl
def allL : List Str → Option (List Trm)
  | [] => some []
  | w :: ws => (trl w).bind fun t => (allL ws).map (t :: ·)
theorem allL_eq : ∀ ws : List Str, allL ws = (allT ws).bind fun ts => if ∀ t, t ∈ ts → okT t then some ts else none
  | [] => by
    show some [] = if ∀ t : Trm, t ∈ [] → okT t then some [] else none
    rw [if_pos fun t ht => nomatch ht]
  | w :: ws => by
    show (trl w).bind (fun t => (allL ws).map (t :: ·)) = ((trmR w).bind fun t => (allT ws).map (t :: ·)).bind _
    rw [trl_eq, allL_eq ws]
    cases trmR w with
    | none => rfl
    | some t =>
      cases allT ws with
      | none =>
        rw [Option.bind_some, Option.bind_some]
        split <;> rfl
      | some ts =>
        rw [Option.bind_some, Option.bind_some, Option.bind_some, Option.map_some, Option.bind_some]
        by_cases c : okT t
        · rw [if_pos c, Option.bind_some]
          by_cases c2 : ∀ t, t ∈ ts → okT t
          · rw [if_pos c2, if_pos fun u hu => (List.mem_cons.mp hu).elim (fun z => z ▸ c) (c2 u)]
            rfl
          · rw [if_neg c2, if_neg fun h => c2 fun u hu => h u (List.mem_cons_of_mem _ hu)]
            rfl
        · have c3 : ¬ ∀ u, u ∈ t :: ts → okT u := fun h => c (h t List.mem_cons_self)
          rw [if_neg c, if_neg c3]
          rfl
theorem allL_len : ∀ {ws : List Str} {ts : List Trm}, allL ws = some ts → ts.length = ws.length
  | [], ts, h => by cases h; rfl
  | w :: ws, ts, h => by
    obtain ⟨t, h1, h⟩ := Option.bind_eq_some_iff.mp h
    obtain ⟨us, h2, rfl⟩ := Option.map_eq_some_iff.mp h
    rw [List.length_cons, List.length_cons, allL_len h2]
def qP (s : SV) : Prop := freeP s = true ∧ ownNoL s = true
theorem own_keep {x : Option SV} : ownNoL (keepFz x) = true := by
  unfold keepFz
  split <;> rfl
theorem noLs_keys : ∀ ts : List Trm, noLs (ts.map fun t => encR (keyT t)) = true
  | [] => rfl
  | t :: ts => by
    show (noL (encR (keyT t)) && noLs (ts.map fun t => encR (keyT t))) = true
    rw [noLs_keys ts]
    rfl
theorem trlL_no {vs : List Str} (h : ¬ ((vs.length : Nat) : Int) = 3) : trlL vs = none := by
  match vs, h with
  | [], _ => rfl
  | [_], _ => rfl
  | [_, _], _ => rfl
  | [_, _, _], h => exact absurd rfl h
  | _ :: _ :: _ :: _ :: _, _ => rfl
theorem allL_snoc : ∀ (xs : List Str) (w : Str), allL (xs ++ [w]) = (allL xs).bind fun ts => (trl w).map fun t => ts ++ [t]
  | [], w => by
    show (trl w).bind (fun t => (some []).map (t :: ·)) = _
    cases trl w <;> rfl
  | x :: xs, w => by
    show (trl x).bind (fun t => (allL (xs ++ [w])).map (t :: ·)) = ((trl x).bind fun t => (allL xs).map (t :: ·)).bind _
    rw [allL_snoc xs w]
    cases trl x with
    | none => rfl
    | some t =>
      cases allL xs with
      | none => rfl
      | some ts => cases trl w <;> rfl
theorem allL_none : ∀ {ws : List Str} {w : Str}, w ∈ ws → trl w = none → allL ws = none
  | x :: xs, w, h, e => by
    show (trl x).bind (fun t => (allL xs).map (t :: ·)) = none
    rcases List.mem_cons.mp h with z | z
    · rw [← z, e]
      rfl
    · rw [allL_none z e]
      cases trl x <;> rfl
def lawR (z : Str) : Option (List Trm) := if z = Str.ofString "none" then some [] else (allL (Txt.split z (Str.ofString " "))).bind fun ts => if ts.length ≤ 9 ∧ StrP (ts.map keyT) then some ts else none
theorem sD_trm (ts : List Trm) : sD (.lst (ts.map encT)) = true ↔ (∀ t, t ∈ ts → okT t) ∧ StrP (ts.map keyT) := by
  show sb (ts.map encT) = true ↔ _
  unfold sb
  rw [Bool.and_eq_true, List.all_eq_true, decide_eq_true_eq, List.map_map]
  refine and_congr ⟨fun h t ht => ?_, fun h d hd => ?_⟩ Iff.rfl
  · have h : tb3 (.int t.1) (.int t.2.1) (encR t.2.2) = true := h _ (List.mem_map.mpr ⟨t, ht, rfl⟩)
    have h : (true && (true && (rb2 (.int t.2.2.1) (.int t.2.2.2) && !(decide (t.2.2.1 = 0))))) = true := h
    have h : (true && (true && ((true && (true && isR t.2.2)) && !(decide (t.2.2.1 = 0))))) = true := h
    simp only [Bool.true_and, Bool.and_eq_true, Bool.not_eq_true', decide_eq_false_iff_not] at h
    exact h
  · obtain ⟨t, ht, rfl⟩ := List.mem_map.mp hd
    obtain ⟨h1, h2⟩ := h t ht
    show (true && (true && ((true && (true && isR t.2.2)) && !(decide (t.2.2.1 = 0))))) = true
    simp only [Bool.true_and, Bool.and_eq_true, Bool.not_eq_true', decide_eq_false_iff_not]
    exact ⟨h1, h2⟩
theorem law_read_eq (z : Str) : lawR z = readR z := by
  unfold lawR readR
  split
  · rfl
  · rw [allL_eq]
    cases allT (Txt.split z (Str.ofString " ")) with
    | none => rfl
    | some ts =>
      rw [Option.bind_some, Option.bind_some]
      by_cases c : ∀ t, t ∈ ts → okT t
      · rw [if_pos c, Option.bind_some]
        by_cases h : ts.length ≤ 9 ∧ StrP (ts.map keyT)
        · rw [if_pos h, if_pos ⟨h.1, (sD_trm ts).mpr ⟨c, h.2⟩⟩]
        · rw [if_neg h, if_neg fun q => h ⟨q.1, ((sD_trm ts).mp q.2).2⟩]
      · have c3 : ¬ (ts.length ≤ 9 ∧ sD (.lst (ts.map encT)) = true) := fun h => c ((sD_trm ts).mp h.2).1
        rw [if_neg c, if_neg c3]
        rfl
def oL : Option (List Trm) → D
  | some ts => .lst (ts.map encT)
  | none => .non
theorem lread_x {z : Str} (hz : z.length ≤ 8000) (hs : Sgn (TL.tl z)) : ∃ fr, ev__law_read [.str z] = some (oL (lawR z), fr && (lawR z).isSome, []) := by
  have key : Ok (ev__law_read [.str z]) fun r => ∃ fr, r = (oL (lawR z), fr && (lawR z).isSome, []) := by
    have wl : ∀ w, w ∈ Txt.split z (Str.ofString " ") → w.length ≤ 90000 := fun w hw => Nat.le_trans (split_len hw) (by omega)
    have ws : ∀ w, w ∈ Txt.split z (Str.ofString " ") → Sgn (TL.tl w) := fun w hw => sgn_split hs hw
    have ml := split_many (z := z) (y := Str.ofString " ") (by decide +kernel) (by decide +kernel)
    unfold ev__law_read b__law_read
    rw [w_def rfl]
    walk_at "ev"
    refine ⟨fun q => ⟨true, by rw [show lawR z = some [] from if_pos q]; rfl⟩, fun q => ⟨⟨by decide +kernel, by omega⟩, ?_⟩⟩
    have er : lawR z = (allL (Txt.split z (Str.ofString " "))).bind fun ts => if ts.length ≤ 9 ∧ StrP (ts.map keyT) then some ts else none := if_neg q
    generalize Txt.split z (Str.ofString " ") = wds at wl ws ml er
    refine loop_inv (fun n env => ∃ ts s2 s3 s4 s5 s6, env = [.fz (.str z), .o1 (ts.map encT), s2, s3, s4, s5, s6, .no] ∧ qP s2 ∧ qP s3 ∧ qP s4 ∧ qP s5 ∧ qP s6 ∧ allL (wds.take n) = some ts) _ 0 _ ⟨[], .no, .no, .no, .no, .no, rfl, ⟨rfl, rfl⟩, ⟨rfl, rfl⟩, ⟨rfl, rfl⟩, ⟨rfl, rfl⟩, ⟨rfl, rfl⟩, rfl⟩ (fun j d env hd hi => ?_) fun env hi => ?_
    · obtain ⟨ts, s2, s3, s4, s5, s6, rfl, f2, f3, f4, f5, f6, ha⟩ := hi
      rw [List.getElem?_map] at hd
      obtain ⟨w, hw, rfl⟩ := Option.map_eq_some_iff.mp hd
      have wm := List.mem_of_getElem? hw
      have wln := wl w wm
      have wsg := ws w wm
      have pl2 : ∀ v, v ∈ Txt.split w (Str.ofString ":") → v.length ≤ 90000 := fun v hv => Nat.le_trans (split_len hv) wln
      have ps2 : ∀ v, v ∈ Txt.split w (Str.ofString ":") → Sgn (TL.tl v) := fun v hv => sgn_split wsg hv
      have no : trl w = none → ∃ fr, (D.non, false, ([] : List (List D))) = (oL (lawR z), fr && (lawR z).isSome, []) := fun h => ⟨false, by
        rw [er, allL_none wm h]
        rfl⟩
      have et : trl w = trlL (Txt.split w (Str.ofString ":")) := rfl
      have sn : ∀ t, trl w = some t → allL (wds.take (0 + j + 1)) = some (ts ++ [t]) := fun t h => by
        rw [List.take_add_one, Nat.zero_add, hw]
        rw [Nat.zero_add] at ha
        show allL (wds.take j ++ [w]) = _
        rw [allL_snoc, ha, h]
        rfl
      walk_at "ev"
      generalize Txt.split w (Str.ofString ":") = vs at pl2 ps2 et
      refine ⟨f2.1, ⟨by decide +kernel, by omega⟩, f3.1, fun q2 => no (by rw [et]; exact trlL_no q2), fun q2 => ?_⟩
      match vs, q2, pl2, ps2, et with
      | [n, a, b], _, pl2, ps2, et =>
        have hn := nof_x (z := n) (by have := pl2 n (by simp); omega) (ps2 n (by simp))
        have hwa := wof_x (z := a) (m := 6) (by have := pl2 a (by simp); omega) (ps2 a (by simp)) (by decide)
        have hwb := wof_x (z := b) (m := 6) (by have := pl2 b (by simp); omega) (ps2 b (by simp)) (by decide)
        rw [wof_pow] at hwa hwb
        have et : trl w = (nofR n).bind fun n => (powR (TL.tl a)).bind fun a => (powR (TL.tl b)).map fun b => (a, b, n) := et
        clear pl2 ps2
        generalize nofR n = xn at hn et
        generalize powR (TL.tl a) = xa at hwa et
        generalize powR (TL.tl b) = xb at hwb et
        simp only [List.map_cons, List.map_nil]
        walk_at "ev"
        refine ok_eq hn ?_
        walk_at "ev"
        refine ⟨f4.1, ok_eq hwa ?_⟩
        walk_at "ev"
        refine ⟨f5.1, ok_eq hwb ?_⟩
        cases xn with
        | none =>
          unfold oR
          walk_at "ev"
          exact ⟨f6.1, no et⟩
        | some p =>
          cases xa with
          | none =>
            unfold oR encR oI
            walk_at "ev"
            exact ⟨f6.1, no et⟩
          | some i =>
            cases xb with
            | none =>
              unfold oR encR oI
              walk_at "ev"
              exact ⟨f6.1, no et⟩
            | some j =>
              unfold oR encR oI
              walk_at "ev"
              refine ⟨f6.1, by have := allL_len ha; rw [List.length_take] at this; omega, ts ++ [(i, j, p)], .fz (.str w), .fz (.lst [.str n, .str a, .str b]), .fz (encR p), .fz (.int i), .fz (.int j), ?_, ⟨rfl, rfl⟩, ⟨rfl, rfl⟩, ⟨rfl, rfl⟩, ⟨rfl, rfl⟩, ⟨rfl, rfl⟩, ?_⟩
              · rw [List.map_append]
                rfl
              · have := sn (i, j, p) et
                rw [Nat.zero_add] at this
                exact this
    · obtain ⟨ts, s2, s3, s4, s5, s6, rfl, f2, f3, f4, f5, f6, ha⟩ := hi
      rw [Nat.zero_add, List.length_map, List.take_length] at ha
      walk_at "ev"
      have tl : ts.length ≤ 8001 := by
        rw [allL_len ha]
        omega
      refine ⟨f4.1, f6.1, f5.1, ?_⟩
      refine lc_map (c := encT) (h := fun t => encR (keyT t)) (xs := ts) (fun t ht acc => ?_) ?_
      · unfold encT encR
        walk_at "ev"
        rfl
      · walk_at "ev"
        have no : ¬ (ts.length ≤ 9 ∧ StrP (ts.map keyT)) → ∃ fr, (D.non, false, ([] : List (List D))) = (oL (lawR z), fr && (lawR z).isSome, []) := fun h => ⟨false, by
          rw [er, ha, Option.bind_some, if_neg h]
          rfl⟩
        have ek : (ts.map fun t => encR (keyT t)) = (ts.map keyT).map encR := by rw [List.map_map]; rfl
        refine ⟨by omega, ?_, fun q2 => no fun c => by have := c.1; omega, fun q2 => ?_⟩
        · rw [f2.2, f3.2, own_keep, own_keep, own_keep, noLs_keys]
          rfl
        · rw [ek]
          refine ok_eq (gSortSet_R (ts.map keyT) |>.trans (if_pos (by rw [List.length_map]; omega))) ?_
          walk_at "ev"
          refine ⟨fun h => no fun c => h (str_uniq (str_srtP _) c.2 fun x => mem_srtP).symm, fun h => ⟨true, ?_⟩⟩
          rw [er, ha, Option.bind_some, if_pos ⟨by omega, by rw [h]; exact str_srtP _⟩]
          rfl
  obtain ⟨r, e, fr, h⟩ := key
  exact ⟨fr, by rw [e, h]⟩
end Lw
namespace Lw
open PySem L2 Dv
theorem told_x {z : Str} (hz : z.length ≤ 8000) : ∃ fr, ev__law_told [.str z] = some (oL (readR z), fr && (readR z).isSome, []) := by
  obtain ⟨fr, hx⟩ := read_x hz
  have key : Ok (ev__law_told [.str z]) fun r => ∃ fr, r = (oL (readR z), fr && (readR z).isSome, []) := by
    unfold ev__law_told b__law_told
    rw [w_def rfl]
    walk_at "ev"
    refine ok_eq hx ?_
    cases readR z with
    | none =>
      show KBackX _ _ _ (.error 8)
      walk_at "ev"
      refine ⟨List.mem_singleton.mpr rfl, ?_⟩
      rw [show kc_law_alone 8 = true from rfl, if_pos rfl]
      refine ok_eq (show L2.atI [D.str (Str.ofString "other"), D.non] 1 = some .non from rfl) ?_
      walk_at "ev"
      exact ⟨false, rfl⟩
    | some ts =>
      show KBackX _ _ _ (.ok (.lst (ts.map encT), fr, []))
      cases fr <;> walk_at "ev"
      · exact ⟨false, rfl⟩
      · exact ⟨false, rfl⟩
  obtain ⟨r, e, fr, h⟩ := key
  exact ⟨fr, by rw [e, h]⟩
theorem told_no {d : D} (hd : d = .non ∨ d = .int 1 ∨ d = .lst [] ∨ d = .lst [.tup [.int 0, .int 0, .tup [.int 1, .int 1]]] ∨ d = .bl true ∨ d = .tup [.str (Str.ofString "1:0:0")]) : ev__law_told [d] = some (.non, false, []) := by
  have e : evx_read [d] = some (.error 8) := by
    have key : Ok (evx_read [d]) fun r => r = .error 8 := by
      unfold evx_read bx_read
      rw [w_defX rfl]
      rcases hd with rfl | rfl | rfl | rfl | rfl | rfl <;> walk_at "ev"
    obtain ⟨r, e, h⟩ := key
    rw [e, h]
  have key : Ok (ev__law_told [d]) fun r => r = (.non, false, []) := by
    unfold ev__law_told b__law_told
    rw [w_def rfl]
    rcases hd with rfl | rfl | rfl | rfl | rfl | rfl <;> (walk_at "ev"; refine ok_eq e ?_; walk_at "ev"; refine ⟨List.mem_singleton.mpr rfl, ?_⟩; rw [show kc_law_alone 8 = true from rfl, if_pos rfl]; refine ok_eq (show L2.atI [D.str (Str.ofString "other"), D.non] 1 = some .non from rfl) ?_; walk_at "ev")
  obtain ⟨r, e, h⟩ := key
  rw [e, h]
end Lw
namespace Lw
open PySem L2 Dv
theorem ltx_ratio {t : Trm} (h : Wrd t) : ev__law_number_text [encR t.2.2] = some (.str (numT t.2.2), false, []) := by
  have key : Ok (ev__law_number_text [encR t.2.2]) fun r => r = (.str (numT t.2.2), false, []) := by
    obtain ⟨_, hp, _, h1, h2⟩ := h
    have p2 : 0 < t.2.2.2 := (isR_pos hp).1
    have i1 := intT_len (i := t.2.2.1) (k := 6) (by decide) (by omega)
    have g1 := gStr_int (i := t.2.2.1) (by omega)
    have g2 := gStr_int (i := t.2.2.2) (by omega)
    unfold ev__law_number_text b__law_number_text encR
    rw [w_def rfl]
    walk_at "ev"
    unfold numT
    refine ⟨fun c => ?_, fun c => ?_⟩
    · refine ok_eq g1 ?_
      walk_at "ev"
      rw [if_pos c]
    · refine ok_eq g1 ?_
      walk_at "ev"
      have cl : (Str.ofString "/").length = 1 := by decide +kernel
      have i2 := intT_len (i := t.2.2.2) (k := 6) (by decide) (by omega)
      refine ⟨by omega, ok_eq g2 ?_⟩
      walk_at "ev"
      refine ⟨by simp only [Str.length_append', cl]; omega, ?_⟩
      rw [if_neg c]
  obtain ⟨r, e, h⟩ := key
  rw [e, h]
theorem ltx_eq {ts : List Trm} (h : ∀ t, t ∈ ts → Wrd t) (hl : ts.length ≤ 1000) : ev__law_text [.lst (ts.map encT)] = some (.str (showT ts), false, []) := by
  have key : Ok (ev__law_text [.lst (ts.map encT)]) fun r => r = (.str (showT ts), false, []) := by
    unfold ev__law_text b__law_text
    rw [w_def rfl]
    walk_at "ev"
    refine ok_eq (show gEq (.lst (ts.map encT)) (.lst []) = _ from gEq_Tm ts []) ?_
    unfold showT
    by_cases c : ts = []
    · rw [decide_eq_true c]
      walk_at "ev"
      rw [if_pos c]
    · rw [decide_eq_false c]
      walk_at "ev"
      refine lc_map (c := encT) (h := fun t => .str (wordT t)) (xs := ts) (fun t ht acc => ?_) ?_
      · unfold encT
        walk_at "ev"
        refine ok_eq (ltx_ratio (h t ht)) ?_
        walk_at "ev"
        have cl : (Str.ofString ":").length = 1 := by decide +kernel
        have nl := numT_len (h t ht)
        obtain ⟨⟨n1, n2, n3, n4⟩, _⟩ := h t ht
        have n1 : -6 ≤ t.1 := n1
        have n2 : t.1 ≤ 6 := n2
        have n3 : -6 ≤ t.2.1 := n3
        have n4 : t.2.1 ≤ 6 := n4
        have i3 := intT_len (i := t.1) (k := 1) (by decide) (by omega)
        have i4 := intT_len (i := t.2.1) (k := 1) (by decide) (by omega)
        refine ⟨by omega, ok_eq (gStr_int (by omega)) ?_⟩
        walk_at "ev"
        refine ⟨by simp only [Str.length_append', cl]; omega, by simp only [Str.length_append', cl]; omega, ok_eq (gStr_int (by omega)) ?_⟩
        walk_at "ev"
        refine ⟨by simp only [Str.length_append', cl]; omega, rfl⟩
      · walk_at "ev"
        refine ⟨by omega, ok_eq (gJoin_map (f := wordT) (fun t ht => wordT_len (h t ht)) (by omega) (by decide +kernel)) ?_⟩
        walk_at "ev"
        rw [if_neg c]
  obtain ⟨r, e, h⟩ := key
  rw [e, h]
/-- texts of plain signs, not too long -/
def Asc (l : List Nat) : Prop := ∀ c, c ∈ l → c < 256
theorem Asc.sgn {l : List Nat} (h : Asc l) : Sgn l := fun c hc => Nat.lt_of_lt_of_le (h c hc) (by decide)
theorem asc_word (t : Trm) : Asc (TL.tl (wordT t)) := fun c hc => by
  have := wordT_mem hc
  omega
theorem asc_join {l : List (List Nat)} (h : ∀ x, x ∈ l → Asc x) : Asc (TL.joinL (TL.tl (Str.ofString " ")) l) := by
  rw [show TL.tl (Str.ofString " ") = [32] by decide +kernel]
  induction l with
  | nil => intro c hc; cases hc
  | cons x l ih =>
    have h0 := h x List.mem_cons_self
    have ih := ih fun y hy => h y (List.mem_cons_of_mem _ hy)
    cases l with
    | nil => exact h0
    | cons y l =>
      intro c hc
      have hc : c ∈ x ++ ([32] ++ TL.joinL [32] (y :: l)) := hc
      rcases List.mem_append.mp hc with z | z
      · exact h0 c z
      · rcases List.mem_append.mp z with z | z
        · rw [List.mem_singleton.mp z]
          decide
        · exact ih c z
theorem asc_joinT {ws : List Str} (h : ∀ w, w ∈ ws → Asc (TL.tl w)) : Asc (TL.tl (Txt.join (Str.ofString " ") ws)) := by
  rw [TL.join_eq, TL.tl_join]
  refine asc_join fun x hx => ?_
  obtain ⟨w, hw, rfl⟩ := List.mem_map.mp hx
  exact h w hw
theorem asc_app {a b : Str} (ha : Asc (TL.tl a)) (hb : Asc (TL.tl b)) : Asc (TL.tl (a ++ b)) := fun c hc => by
  rw [TL.tl_append] at hc
  exact (List.mem_append.mp hc).elim (ha c) (hb c)
theorem asc_cut {a : Str} {lo hi : Option Int} (ha : Asc (TL.tl a)) : Asc (TL.tl (L2.cutS a lo hi)) := by
  intro c hc
  unfold L2.cutS at hc
  have hc : c ∈ ((TL.tl a).drop _).take _ := hc
  exact ha c (List.mem_of_mem_drop (List.mem_of_mem_take hc))
theorem cut_len {a : Str} {lo hi : Option Int} : (L2.cutS a lo hi).length ≤ a.length := by
  rw [TL.len_tl, TL.len_tl]
  have : TL.tl (L2.cutS a lo hi) = ((TL.tl a).drop _).take _ := rfl
  rw [this, List.length_take, List.length_drop]
  omega
structure Txo (n : Nat) (z : Str) : Prop where
  len : z.length ≤ n
  asc : Asc (TL.tl z)
end Lw
namespace Lw
open PySem L2 Dv
theorem gIx_sig {z : Str} {d : Int} (h0 : 0 ≤ d) (h1 : d < (z.length : Nat)) (hl : z.length ≤ 10000000) : ∃ c, c ∈ TL.tl z ∧ gIx (.str z) (.int d) = some (.val (.str ⟨#[c]⟩)) := by
  obtain ⟨k, rfl⟩ := Int.eq_ofNat_of_zero_le h0
  have hk : k < (TL.tl z).length := by rw [← TL.len_tl]; omega
  refine ⟨(TL.tl z)[k], List.getElem_mem hk, ?_⟩
  show (if z.length ≤ 10000000 then (L2.atI z.cps.toList ((k : Nat) : Int)).bind fun c => some (RV.val (.str ⟨#[c]⟩)) else none) = _
  rw [if_pos hl, show L2.atI z.cps.toList ((k : Nat) : Int) = some (TL.tl z)[k] from atI_n (List.getElem?_eq_getElem hk)]
  rfl
theorem asc_one {c : Nat} (h : c < 256) : Asc (TL.tl (⟨#[c]⟩ : Str)) := fun d hd => by
  rw [tl_one] at hd
  rw [List.mem_singleton.mp hd]
  exact h
theorem spoilt_ok {P : D × Bool × List (List D) → Prop} {n m : Nat} (a b c : Int) {z : Str} (h : Purse n a b c) (hn : n < 100000) (hz : Txo m z) (hm : m ≤ 5000)
    (q : ∀ z' a' b' c', Txo (4 * m + 1) z' → Purse (n + 3) a' b' c' → P (.str z', false, [[.int a', .int b', .int c']])) : Ok (ev__law_spoilt [.lst [.int a, .int b, .int c], .str z]) P := by
  have hl := hz.len
  unfold ev__law_spoilt b__law_spoilt
  rw [w_def rfl]
  walk_at "ev"
  refine ptake_ok a b c 5 h (by omega) (by decide) (by decide) fun a1 b1 c1 d1 g1 g2 h => ?_
  walk_at "ev"
  refine ⟨by omega, ptake_ok a1 b1 c1 _ h (by omega) (by omega) (by omega) fun a2 b2 c2 d2 g3 g4 h => ?_⟩
  walk_at "ev"
  refine ptake_ok a2 b2 c2 25 h (by omega) (by decide) (by decide) fun a3 b3 c3 d3 g5 g6 h => ?_
  have e25 : (Str.ofString "0123456789-/: .,;noe+=_x(").length = 25 := by decide +kernel
  obtain ⟨s, hs, es⟩ := gIx_sig (z := Str.ofString "0123456789-/: .,;noe+=_x(") g5 (by rw [e25]; exact g6) (by rw [e25]; decide)
  have s256 : s < 256 := by
    have : ∀ c, c ∈ TL.tl (Str.ofString "0123456789-/: .,;noe+=_x(") → c < 256 := by decide +kernel
    exact this s hs
  have as := asc_one s256
  have l1 : (⟨#[s]⟩ : Str).length = 1 := rfl
  walk_at "ev"
  refine ok_eq es ?_
  walk_at "ev"
  have cl : ∀ lo hi, (L2.cutS z lo hi).length ≤ z.length := fun lo hi => cut_len
  have ac : ∀ lo hi, Asc (TL.tl (L2.cutS z lo hi)) := fun lo hi => asc_cut hz.asc
  have k1 := cl none (some d2)
  have k2 := cl (some (d2 + 1)) none
  have k3 := cl (some d2) none
  have k4 := cl (some (d2 + 1)) (some (d2 + 2))
  have k5 := cl (some d2) (some (d2 + 1))
  have k6 := cl (some (d2 + 2)) none
  have k7 := cl (some d2) (some (d2 + 3))
  have fin : ∀ w : Str, w.length ≤ 4 * z.length + 1 → Asc (TL.tl w) → P (.str w, false, [[.int a3, .int b3, .int c3]]) := fun w h1 h2 => q w a3 b3 c3 ⟨by omega, h2⟩ (h.mono (by omega))
  simp only [Str.length_append', l1]
  refine ⟨fun _ => ⟨by omega, by omega, by omega, by omega, fin _ (by simp only [Str.length_append', l1]; omega) (asc_app (asc_app (ac _ _) as) (ac _ _))⟩, fun _ => ⟨fun _ => ⟨by omega, by omega, by omega, by omega, fin _ (by simp only [Str.length_append', l1]; omega) (asc_app (asc_app (ac _ _) as) (ac _ _))⟩, fun _ => ⟨fun _ => ⟨by omega, by omega, by omega, fin _ (by simp only [Str.length_append']; omega) (asc_app (ac _ _) (ac _ _))⟩, fun _ => ⟨fun _ => ⟨by omega, by omega, by omega, by omega, by omega, by omega, by omega, ?_⟩, fun _ => ⟨by omega, by omega, by omega, by omega, by omega, fin _ (by simp only [Str.length_append']; omega) (asc_app (asc_app (ac _ _) (ac _ _)) (ac _ _))⟩⟩⟩⟩⟩
  · refine q _ a3 b3 c3 ⟨?_, asc_app (asc_app (ac _ _) (asc_app (ac _ _) (ac _ _))) (ac _ _)⟩ (h.mono (by omega))
    simp only [Str.length_append']
    omega
theorem txo_dec {n : Nat} {w : Str} (h : (decide (w.length ≤ n) && w.cps.all (· < 256)) = true) : Txo n w := by
  rw [Bool.and_eq_true] at h
  refine ⟨of_decide_eq_true h.1, fun c hc => ?_⟩
  have h2 := h.2
  rw [← Array.all_toList, List.all_eq_true] at h2
  exact of_decide_eq_true (h2 c hc)
theorem Txo.mono {n m : Nat} {w : Str} (h : Txo n w) (k : n ≤ m) : Txo m w := ⟨Nat.le_trans h.len k, h.asc⟩
theorem Txo.app {n m k : Nat} {w v : Str} (h : Txo n w) (g : Txo m v) (hk : n + m ≤ k) : Txo k (w ++ v) := ⟨by
  rw [Str.length_append']
  have := h.len
  have := g.len
  omega, asc_app h.asc g.asc⟩
theorem odd_ok {P : D × Bool × List (List D) → Prop} {n : Nat} (a b c : Int) (h : Purse n a b c) (hn : n < 100000)
    (q : ∀ z' a' b' c', Txo 40 z' → Purse (n + 4) a' b' c' → P (.str z', false, [[.int a', .int b', .int c']])) : Ok (ev__law_odd_word [.lst [.int a, .int b, .int c]]) P := by
  unfold ev__law_odd_word b__law_odd_word
  rw [w_def rfl]
  walk_at "ev"
  refine ptake_ok a b c 14 h (by omega) (by decide) (by decide) fun a1 b1 c1 d1 g1 g2 h => ?_
  walk_at "ev"
  refine ptake_ok a1 b1 c1 15 h (by omega) (by decide) (by decide) fun a2 b2 c2 d2 g3 g4 h => ?_
  walk_at "ev"
  refine ptake_ok a2 b2 c2 15 h (by omega) (by decide) (by decide) fun a3 b3 c3 d3 g5 g6 h => ?_
  walk_at "ev"
  refine ⟨by decide +kernel, ptake_ok a3 b3 c3 100000000 h (by omega) (by decide) (by decide) fun a4 b4 c4 d4 g7 g8 h => ?_⟩
  have t4 := gStr_int (i := d4) (by omega)
  have t2 := gStr_int (i := d2 - 7) (by omega)
  have t3 := gStr_int (i := d3 - 7) (by omega)
  have l4 := intT_len (i := d4) (k := 8) (by decide) (by omega)
  have l2 := intT_len (i := d2 - 7) (k := 1) (by decide) (by omega)
  have l3 := intT_len (i := d3 - 7) (k := 1) (by decide) (by omega)
  have ai : ∀ i : Int, Asc (TL.tl (intT i)) := fun i c hc => by
    have := intT_mem hc
    omega
  have lc : (Str.ofString ":").length = 1 := by decide +kernel
  have ls : (Str.ofString "1/").length = 2 := by decide +kernel
  have ac : Asc (TL.tl (Str.ofString ":")) := by
    have : ∀ c, c ∈ TL.tl (Str.ofString ":") → c < 256 := by decide +kernel
    exact this
  have as : Asc (TL.tl (Str.ofString "1/")) := by
    have : ∀ c, c ∈ TL.tl (Str.ofString "1/") → c < 256 := by decide +kernel
    exact this
  walk_at "ev"
  refine ok_eq t4 ?_
  walk_at "ev"
  refine ok_eq t4 ?_
  walk_at "ev"
  have x4 : Txo 9 (intT d4) := ⟨by omega, ai _⟩
  have x2 : Txo 2 (intT (d2 - 7)) := ⟨by omega, ai _⟩
  have x3 : Txo 2 (intT (d3 - 7)) := ⟨by omega, ai _⟩
  have xc : Txo 1 (Str.ofString ":") := txo_dec (by decide +kernel)
  have xs : Txo 2 (Str.ofString "1/") := txo_dec (by decide +kernel)
  refine ⟨by omega, ok_atI g1 (by simp only [List.length_cons, List.length_nil]; omega) fun x hx => ?_⟩
  have ex : ∃ w, x = .str w ∧ Txo 15 w := by
    have hm := List.mem_of_getElem? hx
    simp only [List.mem_cons, List.not_mem_nil, or_false] at hm
    rcases hm with rfl | rfl | rfl | rfl | rfl | rfl | rfl | rfl | rfl | rfl | rfl | rfl | rfl | rfl
    case inr.inr.inr.inr.inr.inr.inl => exact ⟨_, rfl, x4.mono (by decide)⟩
    case inr.inr.inr.inr.inr.inr.inr.inl => exact ⟨_, rfl, xs.app x4 (by decide)⟩
    all_goals exact ⟨_, rfl, txo_dec (by decide +kernel)⟩
  obtain ⟨w, rfl, xw⟩ := ex
  have lw := xw.len
  walk_at "ev"
  refine ⟨by omega, ok_eq t2 ?_⟩
  walk_at "ev"
  refine ⟨by simp only [Str.length_append']; omega, by simp only [Str.length_append']; omega, ok_eq t3 ?_⟩
  walk_at "ev"
  refine ⟨by simp only [Str.length_append']; omega, ?_⟩
  exact q _ a4 b4 c4 ((((xw.app xc (Nat.le_refl _)).app x2 (Nat.le_refl _)).app xc (Nat.le_refl _)).app x3 (by decide)) h
theorem gJoin_strs {a : Str} {ws : List Str} {n : Nat} (h : ∀ w, w ∈ ws → w.length ≤ n) (hs : ws.length * n + ws.length * a.length ≤ 10000000) : gJoin (.str a) (.lst (ws.map D.str)) = some (.val (.str (Txt.join a ws))) := by
  show (strsOf (ws.map D.str)).bind _ = _
  rw [strsOf_map]
  show (if (ws.map (·.length)).sum + ws.length * a.length ≤ 10000000 then _ else none) = _
  rw [if_pos]
  have : ∀ l : List Str, (∀ w, w ∈ l → w.length ≤ n) → (l.map (·.length)).sum ≤ l.length * n := by
    intro l
    induction l with
    | nil => intro _; exact Nat.zero_le _
    | cons w l ih =>
      intro hl
      have := ih fun v hv => hl v (List.mem_cons_of_mem _ hv)
      have := hl w List.mem_cons_self
      simp only [List.map_cons, List.sum_cons, List.length_cons, Nat.succ_mul]
      omega
  have := this ws h
  omega
theorem txo_join {ws : List Str} {n k : Nat} (h : ∀ w, w ∈ ws → Txo n w) (hk : ws.length * n + ws.length ≤ k) : Txo k (Txt.join (Str.ofString " ") ws) := by
  refine ⟨?_, asc_joinT fun w hw => (h w hw).asc⟩
  rw [TL.join_eq]
  have := StrLaws.join_length_le (Str.ofString " ") ws
  have l1 : (Str.ofString " ").length = 1 := by decide +kernel
  rw [l1, Nat.mul_one] at this
  have s : ∀ l : List Str, (∀ w, w ∈ l → Txo n w) → (l.map (·.length)).sum ≤ l.length * n := by
    intro l
    induction l with
    | nil => intro _; exact Nat.zero_le _
    | cons w l ih =>
      intro hl
      have := ih fun v hv => hl v (List.mem_cons_of_mem _ hv)
      have := (hl w List.mem_cons_self).len
      simp only [List.map_cons, List.sum_cons, List.length_cons, Nat.succ_mul]
      omega
  have := s ws h
  omega
theorem rangeD_z (n : Nat) : rangeD 0 n = (List.range n).map fun k : Nat => D.int (k : Nat) := List.map_congr_left fun k _ => by rw [Int.zero_add]
def OddD (d : D) : Prop := d = .non ∨ d = .int 1 ∨ d = .lst [] ∨ d = .lst [.tup [.int 0, .int 0, .tup [.int 1, .int 1]]] ∨ d = .bl true ∨ d = .tup [.str (Str.ofString "1:0:0")]
theorem other_ok {P : D × Bool × List (List D) → Prop} {n : Nat} (a b c : Int) {ts : List Trm} (h : Purse n a b c) (hn : n < 90000) (hw : ∀ t, t ∈ ts → Wrd t) (l1 : 1 ≤ ts.length) (l9 : ts.length ≤ 9)
    (q : ∀ d a' b' c', ((∃ z, d = .str z ∧ Txo 1000 z) ∨ OddD d) → Purse (n + 10) a' b' c' → P (d, false, [[.int a', .int b', .int c']])) : Ok (ev__law_other [.lst [.int a, .int b, .int c], .lst (ts.map encT)]) P := by
  have ne : ts ≠ [] := fun z => by rw [z] at l1; cases l1
  unfold ev__law_other b__law_other
  rw [w_def rfl]
  walk_at "evj"
  refine ptake_ok a b c 6 h (by omega) (by decide) (by decide) fun a1 b1 c1 d1 g1 g2 h => ?_
  walk_at "evj"
  refine ptake_ok a1 b1 c1 _ h (by omega) (by omega) (by omega) fun a2 b2 c2 d2 g3 g4 h => ?_
  have e1 := ltx_eq hw (by omega)
  have sl := showT_len hw (by omega)
  have ss := show_split ne
  have xw : ∀ w, w ∈ ts.map wordT → Txo 40 w := fun w hw2 => by
    obtain ⟨t, ht, rfl⟩ := List.mem_map.mp hw2
    exact ⟨wordT_len (hw t ht), asc_word t⟩
  have lw : (ts.map wordT).length = ts.length := List.length_map _
  generalize ts.map wordT = ws at ss xw lw
  generalize showT ts = st at e1 sl ss
  walk_at "evj"
  refine ok_eq e1 ?_
  walk_at "evj"
  rw [ss]
  refine ⟨⟨by decide +kernel, by omega⟩, ?_⟩
  refine cut_seq (fun e => ∃ (ws : List Str) (a b c : Int) (s5 : SV), e = [.io [.int a, .int b, .int c], .fz (.lst (ts.map encT)), .fz (.int d1), .fz (.int d2), .o1 (ws.map D.str), s5, .no, .no] ∧ ws.length ≤ 13 ∧ (∀ w, w ∈ ws → Txo 40 w) ∧ Purse (n + 9) a b c) ?_ ?_
  · walk_at "ev"
    refine ⟨fun _ => ⟨ws.reverse, a2, b2, c2, .no, by rw [List.map_reverse], by rw [List.length_reverse]; omega, fun w hw => xw w (List.mem_reverse.mp hw), h.mono (by omega)⟩, fun _ => ⟨fun _ => ?_, fun _ => ⟨fun _ => ?_, fun _ => ⟨fun _ => ?_, fun _ => ⟨fun _ => ?_, fun _ => ?_⟩⟩⟩⟩⟩
    · refine w_ins_of (m := d2) rfl rfl ?_
      walk_at "ev"
      refine ok_atI g3 (by rw [List.length_map]; omega) fun x hx => ?_
      walk_at "ev"
      refine w_hIns (by rw [List.length_map]; omega) g3 (by omega) ?_
      obtain ⟨w, hwm, rfl⟩ := List.mem_map.mp (List.mem_of_getElem? hx)
      walk_at "ev"
      refine ⟨ws.take d2.toNat ++ [w] ++ ws.drop d2.toNat, a2, b2, c2, .no, ?_, ?_, fun v hv => ?_, h.mono (by omega)⟩
      · rw [List.map_append, List.map_append, List.map_take, List.map_drop]
        rfl
      · simp only [List.length_append, List.length_take, List.length_drop, List.length_cons, List.length_nil]
        omega
      · simp only [List.mem_append, List.mem_singleton] at hv
        rcases hv with (z | z) | z
        · exact xw v (List.mem_of_mem_take z)
        · rw [z]
          exact xw w hwm
        · exact xw v (List.mem_of_mem_drop z)
    · refine odd_ok a2 b2 c2 h (by omega) fun z a4 b4 c4 hz h => ?_
      walk_at "ev"
      refine ok_eq (show L2.ixN ws.length d2 = some d2.toNat from by
        unfold L2.ixN
        rw [if_pos g3, if_pos (by omega)]) ?_
      walk_at "ev"
      refine ⟨ws.set d2.toNat z, a4, b4, c4, .no, by rw [List.map_set], by rw [List.length_set]; omega, fun w hw => ?_, h.mono (by omega)⟩
      rcases List.mem_or_eq_of_mem_set hw with y | y
      · exact xw w y
      · rw [y]
        exact hz
    · refine odd_ok a2 b2 c2 h (by omega) fun z a4 b4 c4 hz h => ?_
      walk_at "ev"
      exact ⟨[z], a4, b4, c4, .no, rfl, (show 1 ≤ 13 by decide), fun w hw => by rw [List.mem_singleton.mp hw]; exact hz, h.mono (by omega)⟩
    · refine ptake_ok a2 b2 c2 12 h (by omega) (by decide) (by decide) fun a4 b4 c4 d4 g5 g6 h => ?_
      walk_at "ev"
      refine ⟨by omega, ?_⟩
      obtain ⟨m, hm⟩ := Int.eq_ofNat_of_zero_le (show 0 ≤ 1 + d4 by omega)
      rw [hm, show ((m : Nat) : Int).toNat = m from rfl]
      have m12 : m ≤ 12 := by omega
      have xa : Txo 2 (Str.ofString "1:") := txo_dec (by decide +kernel)
      have xc : Txo 1 (Str.ofString ":") := txo_dec (by decide +kernel)
      have xi : ∀ i : Int, i.natAbs < 10 → Txo 2 (intT i) := fun i hi => ⟨intT_len (k := 1) (by decide) (by omega), fun c hc => by
        have := intT_mem hc
        omega⟩
      rw [rangeD_z]
      refine lc_map (h := fun k : Nat => .str (Str.ofString "1:" ++ intT (((k : Nat) : Int).fdiv 4 - 2) ++ Str.ofString ":" ++ intT (((k : Nat) : Int).fmod 4))) (fun k hk acc => ?_) ?_
      · have hk := List.mem_range.mp hk
        have f1 : ((k : Nat) : Int).fdiv 4 = ((k / 4 : Nat) : Int) := by
          rw [Int.fdiv_eq_ediv_of_nonneg _ (by decide)]
          rfl
        have f2 : ((k : Nat) : Int).fmod 4 = ((k % 4 : Nat) : Int) := by
          rw [Int.fmod_eq_emod_of_nonneg _ (by decide)]
          rfl
        walk_at "ev"
        have g1 := gStr_int (i := ((k : Nat) : Int).fdiv 4 - 2) (by rw [f1]; omega)
        have g2 := gStr_int (i := ((k : Nat) : Int).fmod 4) (by rw [f2]; omega)
        have y1 := (xi (((k : Nat) : Int).fdiv 4 - 2) (by rw [f1]; omega)).len
        have y2 := (xi (((k : Nat) : Int).fmod 4) (by rw [f2]; omega)).len
        have y3 := xa.len
        have y4 := xc.len
        refine ⟨by unfold divB; decide, ok_eq g1 ?_⟩
        walk_at "ev"
        refine ⟨by omega, by simp only [Str.length_append']; omega, modB_of (by omega), ok_eq g2 ?_⟩
        walk_at "ev"
        simp only [Str.length_append']
        omega
      · walk_at "ev"
        refine ⟨by rw [List.length_range]; omega, (List.range m).map fun k : Nat => Str.ofString "1:" ++ intT (((k : Nat) : Int).fdiv 4 - 2) ++ Str.ofString ":" ++ intT (((k : Nat) : Int).fmod 4), a4, b4, c4, .fz (.int m), by rw [List.map_map]; rfl, by rw [List.length_map, List.length_range]; omega, fun w hw => ?_, h.mono (by omega)⟩
        obtain ⟨k, hk, rfl⟩ := List.mem_map.mp hw
        have hk := List.mem_range.mp hk
        have f1 : ((k : Nat) : Int).fdiv 4 = ((k / 4 : Nat) : Int) := by
          rw [Int.fdiv_eq_ediv_of_nonneg _ (by decide)]
          rfl
        have f2 : ((k : Nat) : Int).fmod 4 = ((k % 4 : Nat) : Int) := by
          rw [Int.fmod_eq_emod_of_nonneg _ (by decide)]
          rfl
        exact ((xa.app (xi _ (by rw [f1]; omega)) (Nat.le_refl _)).app xc (Nat.le_refl _)).app (xi _ (by rw [f2]; omega)) (by decide)
    · refine ptake_ok a2 b2 c2 10 h (by omega) (by decide) (by decide) fun a4 b4 c4 d4 g5 g6 h => ?_
      walk_at "ev"
      refine ok_atI g5 (by simp only [List.length_cons, List.length_nil]; omega) fun x hx => ?_
      walk_at "ev"
      refine q x a4 b4 c4 ?_ (h.mono (by omega))
      have hm := List.mem_of_getElem? hx
      simp only [List.mem_cons, List.not_mem_nil, or_false] at hm
      rcases hm with rfl | rfl | rfl | rfl | hm
      · exact Or.inl ⟨_, rfl, txo_dec (by decide +kernel)⟩
      · exact Or.inl ⟨_, rfl, txo_dec (by decide +kernel)⟩
      · exact Or.inl ⟨_, rfl, txo_dec (by decide +kernel)⟩
      · exact Or.inl ⟨_, rfl, txo_dec (by decide +kernel)⟩
      · exact Or.inr hm
  · rintro e ⟨ws, a3, b3, c3, s5, rfl, l3, x3, h3⟩
    walk_at "ev"
    refine ok_eq (gJoin_strs (n := 40) (fun w hw => (x3 w hw).len) (by rw [show (Str.ofString " ").length = 1 by decide +kernel]; omega)) ?_
    walk_at "ev"
    exact q _ a3 b3 c3 (Or.inl ⟨_, rfl, txo_join x3 (by omega)⟩) (h3.mono (by omega))
end Lw
namespace Lw
open PySem L2 Dv
theorem txo_show {ts : List Trm} (hw : ∀ t, t ∈ ts → Wrd t) (hl : ts.length ≤ 9) : Txo 400 (showT ts) := by
  unfold showT
  split
  · exact txo_dec (by decide +kernel)
  · refine txo_join (n := 40) (fun w hm => ?_) (by rw [List.length_map]; omega)
    obtain ⟨t, ht, rfl⟩ := List.mem_map.mp hm
    exact ⟨wordT_len (hw t ht), asc_word t⟩
theorem gNe_oL (x : Option (List Trm)) : gNe (oL x) (oL x) = some (.val (.bl false)) := by
  cases x with
  | none => rfl
  | some ts =>
    show gNe (.lst (ts.map encT)) (.lst (ts.map encT)) = _
    rw [gNe_Tm ts ts, decide_eq_true rfl]
    rfl
def TxtD (d : D) : Prop := (∃ z, d = .str z ∧ Txo 7000 z) ∨ OddD d
theorem law_true (ns : List Int) (hn : ns.length ≤ 63) (hb : ∀ z, z ∈ ns → z.natAbs.log2 ≤ 1048576) : ev_law [.scr ns] = some (.bl true, false, []) := by
  have key : Ok (ev_law [.scr ns]) fun r => r = (.bl true, false, []) := by
    unfold ev_law b_law
    rw [w_def rfl]
    walk_at "evj"
    generalize hN : (if (if (24 : Int) < ns.length then 24 else (ns.length : Int)) > 4 then if (24 : Int) < ns.length then 24 else (ns.length : Int) else 4) = N
    have hN1 : 1 ≤ N ∧ N ≤ 24 := by
      subst hN
      split <;> split <;> omega
    refine ⟨by omega, ?_⟩
    refine loop_inv (fun _ env => ∃ s1 s2 s3 s4 s5 s6, env = [.fz (.scr ns), s1, s2, s3, s4, s5, s6] ∧ freeP s1 = true ∧ freeP s2 = true ∧ freeP s3 = true ∧ freeP s4 = true ∧ freeP s5 = true ∧ freeP s6 = true) _ 0 _ ⟨.no, .no, .no, .no, .no, .no, rfl, rfl, rfl, rfl, rfl, rfl, rfl⟩ (fun i d env hd hi => ?_) fun env hi => ?_
    · obtain ⟨s1, s2, s3, s4, s5, s6, rfl, f1, f2, f3, f4, f5, f6⟩ := hi
      obtain ⟨hi, rfl⟩ := rangeD_get hd
      walk_at "evj"
      refine ⟨f1, purse_ok ns hb _ (by omega) (by omega) fun a b hab => ?_⟩
      walk_at "evj"
      refine ⟨f2, psum_ok a b 0 hab (by decide) fun ts a1 b1 c1 l1 l2 nt st hp => ?_⟩
      have hw : ∀ t, t ∈ ts → Wrd t := fun t ht => strm_wrd (nt t ht)
      have e2 := ltx_eq hw (by omega)
      have tx := txo_show hw l2
      generalize showT ts = w at e2 tx
      walk_at "evj"
      refine ⟨f3, ok_eq e2 ?_⟩
      walk_at "evj"
      refine ⟨f4, ?_⟩
      refine cut_seq (fun e => ∃ (d : D) (a b c : Int) (s5 : SV), e = [.fz (.scr ns), .fz (.int (i : Nat)), .o1 [.int a, .int b, .int c], .fz (.lst (ts.map encT)), .fz d, s5, s6] ∧ TxtD d ∧ freeP s5 = true) ?_ ?_
      · walk_at "ev"
        refine ptake_ok a1 b1 c1 3 hp (by omega) (by decide) (by decide) fun a2 b2 c2 d2 g1 g2 h => ?_
        walk_at "ev"
        refine ⟨fun _ => ?_, fun _ => ?_⟩
        · refine other_ok a2 b2 c2 h (by omega) hw l1 l2 fun d a3 b3 c3 hd h => ?_
          walk_at "ev"
          exact ⟨d, a3, b3, c3, s5, rfl, hd.imp (fun ⟨z, e, h⟩ => ⟨z, e, h.mono (by decide)⟩) id, f5⟩
        · refine ptake_ok a2 b2 c2 2 h (by omega) (by decide) (by decide) fun a3 b3 c3 d3 g3 g4 h => ?_
          walk_at "ev"
          refine ⟨by omega, ?_⟩
          refine loop_inv (fun j env => ∃ (z : Str) (a b c : Int) (s5 : SV), env = [.fz (.scr ns), .fz (.int (i : Nat)), .o1 [.int a, .int b, .int c], .fz (.lst (ts.map encT)), .fz (.str z), s5, s6] ∧ Txo (if j = 0 then 400 else if j = 1 then 1601 else 6405) z ∧ Purse (102 + 3 * j) a b c ∧ freeP s5 = true) _ 0 _ ⟨w, a3, b3, c3, s5, rfl, tx, h, f5⟩ (fun j d env hd hi => ?_) fun env hi => ?_
          · obtain ⟨z, a4, b4, c4, s7, rfl, tz, h4, f7⟩ := hi
            obtain ⟨hj, rfl⟩ := rangeD_get hd
            walk_at "ev"
            refine ⟨f7, ?_⟩
            have j1 : j ≤ 1 := by omega
            have j2 : j = 0 ∨ j = 1 := by omega
            have tz : Txo (if j = 0 then 400 else 1601) z := by
              rcases j2 with rfl | rfl
              · exact tz
              · exact tz
            refine spoilt_ok a4 b4 c4 h4 (by omega) tz (by split <;> decide) fun z' a5 b5 c5 tz h5 => ?_
            walk_at "ev"
            refine ⟨z', a5, b5, c5, _, rfl, tz.mono (by rcases j2 with rfl | rfl <;> decide), h5.mono (by omega), rfl⟩
          · obtain ⟨z, a4, b4, c4, s7, rfl, tz, h4, f7⟩ := hi
            walk_at "ev"
            exact ⟨_, a4, b4, c4, s7, rfl, Or.inl ⟨z, rfl, tz.mono (by split; omega; split <;> omega)⟩, f7⟩
      · rintro e ⟨d, a3, b3, c3, s7, rfl, hd, f7⟩
        walk_at "evj"
        refine ⟨f6, ?_⟩
        refine cut_seq (fun e => ∃ x : Option (List Trm), e = [.fz (.scr ns), .fz (.int (i : Nat)), .o1 [.int a3, .int b3, .int c3], .fz (.lst (ts.map encT)), .fz d, s7, .fz (oL x)] ∧ (∃ fr, ev__law_told [d] = some (oL x, fr && x.isSome, []))) ?_ ?_
        · rcases hd with ⟨z, rfl, tz⟩ | hd
          · have sz := tz.asc.sgn
            have lz := tz.len
            obtain ⟨fr, e5⟩ := lread_x (z := z) (by omega) sz
            have e6 := told_x (z := z) (by omega)
            rw [law_read_eq] at e5
            generalize readR z = x at e5 e6
            walk_at "ev"
            refine ok_eq e5 ?_
            rcases x with _ | us
            · simp only [oL, Option.isSome_none, Option.isSome_some, Bool.and_false, Bool.and_true]
              cases fr <;> walk_at "ev" <;> exact ⟨none, rfl, e6⟩
            · simp only [oL, Option.isSome_none, Option.isSome_some, Bool.and_false, Bool.and_true]
              cases fr <;> walk_at "ev" <;> exact ⟨some us, rfl, e6⟩
          · have e6 := told_no hd
            have ei : gIsi "str" d = some (.val (.bl false)) := by
              rcases hd with rfl | rfl | rfl | rfl | rfl | rfl <;> rfl
            walk_at "ev"
            refine ok_eq ei ?_
            walk_at "ev"
            exact ⟨none, rfl, false, by rw [e6]; rfl⟩
        · rintro e ⟨x, rfl, fr, e6⟩
          walk_at "ev"
          refine ok_eq e6 ?_
          have en := gNe_oL x
          rcases x with _ | us
          · simp only [oL, Option.isSome_none, Option.isSome_some, Bool.and_false, Bool.and_true] at e6 en ⊢
            cases fr <;> walk_at "ev" <;> refine ok_eq en ?_ <;> walk_at "ev" <;> exact ⟨_, _, _, _, _, _, rfl, rfl, rfl, rfl, rfl, f7, rfl⟩
          · simp only [oL, Option.isSome_none, Option.isSome_some, Bool.and_false, Bool.and_true] at e6 en ⊢
            cases fr <;> walk_at "ev" <;> refine ok_eq en ?_ <;> walk_at "ev" <;> exact ⟨_, _, _, _, _, _, rfl, rfl, rfl, rfl, rfl, f7, rfl⟩
    · obtain ⟨s1, s2, s3, s4, s5, s6, rfl, f1, f2, f3, f4, f5, f6⟩ := hi
      walk_at "ev"
  obtain ⟨r, e, h⟩ := key
  rw [e, h]
end Lw
namespace Lw
open PySem PySem.Spec PyProof.Rows L2 Dv
def topS (i : Nat) : Stmt := PySem.Challenge.pw_mixedmeets_k75_no_sums_written.main.body.getD i (.Pass ⟨0, 0, 0, 0⟩)
abbrev st_is_whole : Stmt := topS 14
abbrev N_is_whole : List Str := ["thing"]
abbrev P_is_whole : List Str := ["thing"]
theorem sc_is_whole : FnScope N_is_whole P_is_whole (defScope st_is_whole) := ⟨rfl, rfl, rfl, by decide +kernel, rfl, by decide +kernel, by decide +kernel⟩
abbrev st_divisor : Stmt := topS 15
abbrev N_divisor : List Str := ["one", "other"]
abbrev P_divisor : List Str := ["one", "other"]
theorem sc_divisor : FnScope N_divisor P_divisor (defScope st_divisor) := ⟨rfl, rfl, rfl, by decide +kernel, rfl, by decide +kernel, by decide +kernel⟩
abbrev st_is_ratio : Stmt := topS 16
abbrev N_is_ratio : List Str := ["thing"]
abbrev P_is_ratio : List Str := ["thing"]
theorem sc_is_ratio : FnScope N_is_ratio P_is_ratio (defScope st_is_ratio) := ⟨rfl, rfl, rfl, by decide +kernel, rfl, by decide +kernel, by decide +kernel⟩
abbrev st_is_term : Stmt := topS 18
abbrev N_is_term : List Str := ["thing"]
abbrev P_is_term : List Str := ["thing"]
theorem sc_is_term : FnScope N_is_term P_is_term (defScope st_is_term) := ⟨rfl, rfl, rfl, by decide +kernel, rfl, by decide +kernel, by decide +kernel⟩
abbrev st_is_sum : Stmt := topS 19
abbrev N_is_sum : List Str := ["thing", "term", "k"]
abbrev P_is_sum : List Str := ["thing"]
theorem sc_is_sum : FnScope N_is_sum P_is_sum (defScope st_is_sum) := ⟨rfl, rfl, rfl, by decide +kernel, rfl, by decide +kernel, by decide +kernel⟩
abbrev st_read_figures : Stmt := topS 26
abbrev N_read_figures : List Str := ["word", "most", "sign"]
abbrev P_read_figures : List Str := ["word", "most"]
theorem sc_read_figures : FnScope N_read_figures P_read_figures (defScope st_read_figures) := ⟨rfl, rfl, rfl, by decide +kernel, rfl, by decide +kernel, by decide +kernel⟩
abbrev st_read_whole : Stmt := topS 27
abbrev N_read_whole : List Str := ["word", "most"]
abbrev P_read_whole : List Str := ["word", "most"]
theorem sc_read_whole : FnScope N_read_whole P_read_whole (defScope st_read_whole) := ⟨rfl, rfl, rfl, by decide +kernel, rfl, by decide +kernel, by decide +kernel⟩
abbrev st_read_power : Stmt := topS 28
abbrev N_read_power : List Str := ["word", "power"]
abbrev P_read_power : List Str := ["word"]
theorem sc_read_power : FnScope N_read_power P_read_power (defScope st_read_power) := ⟨rfl, rfl, rfl, by decide +kernel, rfl, by decide +kernel, by decide +kernel⟩
abbrev st_read_ratio : Stmt := topS 29
abbrev N_read_ratio : List Str := ["word", "top", "stroke", "bottom", "number"]
abbrev P_read_ratio : List Str := ["word"]
theorem sc_read_ratio : FnScope N_read_ratio P_read_ratio (defScope st_read_ratio) := ⟨rfl, rfl, rfl, by decide +kernel, rfl, by decide +kernel, by decide +kernel⟩
abbrev st_read_term : Stmt := topS 30
abbrev N_read_term : List Str := ["word", "parts"]
abbrev P_read_term : List Str := ["word"]
theorem sc_read_term : FnScope N_read_term P_read_term (defScope st_read_term) := ⟨rfl, rfl, rfl, by decide +kernel, rfl, by decide +kernel, by decide +kernel⟩
abbrev st_read : Stmt := topS 31
abbrev N_read : List Str := ["text", "one", "word"]
abbrev P_read : List Str := ["text"]
theorem sc_read : FnScope N_read P_read (defScope st_read) := ⟨rfl, rfl, rfl, by decide +kernel, rfl, by decide +kernel, by decide +kernel⟩
abbrev st__law_purse : Stmt := topS 33
abbrev N__law_purse : List Str := ["_law_script", "_law_at", "_law_cell", "_law_far"]
abbrev P__law_purse : List Str := ["_law_script", "_law_at"]
theorem sc__law_purse : FnScope N__law_purse P__law_purse (defScope st__law_purse) := ⟨rfl, rfl, rfl, by decide +kernel, rfl, by decide +kernel, by decide +kernel⟩
abbrev st__law_take : Stmt := topS 34
abbrev N__law_take : List Str := ["_law_purse_here", "_law_many", "_law_digit", "_law_turn", "_law_one", "_law_other_here"]
abbrev P__law_take : List Str := ["_law_purse_here", "_law_many"]
theorem sc__law_take : FnScope N__law_take P__law_take (defScope st__law_take) := ⟨rfl, rfl, rfl, by decide +kernel, rfl, by decide +kernel, by decide +kernel⟩
abbrev st__law_share : Stmt := topS 35
abbrev N__law_share : List Str := ["_law_one", "_law_other_here"]
abbrev P__law_share : List Str := ["_law_one", "_law_other_here"]
theorem sc__law_share : FnScope N__law_share P__law_share (defScope st__law_share) := ⟨rfl, rfl, rfl, by decide +kernel, rfl, by decide +kernel, by decide +kernel⟩
abbrev st__law_ratio : Stmt := topS 36
abbrev N__law_ratio : List Str := ["_law_purse_here", "_law_size", "_law_top", "_law_bottom", "_law_part"]
abbrev P__law_ratio : List Str := ["_law_purse_here"]
theorem sc__law_ratio : FnScope N__law_ratio P__law_ratio (defScope st__law_ratio) := ⟨rfl, rfl, rfl, by decide +kernel, rfl, by decide +kernel, by decide +kernel⟩
abbrev st__law_sum : Stmt := topS 37
abbrev N__law_sum : List Str := ["_law_purse_here", "_law_sort", "_law_far", "_law_step", "_law_terms", "_law_k", "_law_power", "_law_often", "_law_a", "_law_b"]
abbrev P__law_sum : List Str := ["_law_purse_here"]
theorem sc__law_sum : FnScope N__law_sum P__law_sum (defScope st__law_sum) := ⟨rfl, rfl, rfl, by decide +kernel, rfl, by decide +kernel, by decide +kernel⟩
abbrev st__law_number_text : Stmt := topS 38
abbrev N__law_number_text : List Str := ["_law_number"]
abbrev P__law_number_text : List Str := ["_law_number"]
theorem sc__law_number_text : FnScope N__law_number_text P__law_number_text (defScope st__law_number_text) := ⟨rfl, rfl, rfl, by decide +kernel, rfl, by decide +kernel, by decide +kernel⟩
abbrev st__law_text : Stmt := topS 39
abbrev N__law_text : List Str := ["_law_one", "_law_a", "_law_b", "_law_number"]
abbrev P__law_text : List Str := ["_law_one"]
theorem sc__law_text : FnScope N__law_text P__law_text (defScope st__law_text) := ⟨rfl, rfl, rfl, by decide +kernel, rfl, by decide +kernel, by decide +kernel⟩
abbrev st__law_whole_of : Stmt := topS 40
abbrev N__law_whole_of : List Str := ["_law_word", "_law_most", "_law_figures", "_law_sign"]
abbrev P__law_whole_of : List Str := ["_law_word", "_law_most"]
theorem sc__law_whole_of : FnScope N__law_whole_of P__law_whole_of (defScope st__law_whole_of) := ⟨rfl, rfl, rfl, by decide +kernel, rfl, by decide +kernel, by decide +kernel⟩
abbrev st__law_number_of : Stmt := topS 41
abbrev N__law_number_of : List Str := ["_law_word", "_law_top", "_law_stroke", "_law_bottom", "_law_number"]
abbrev P__law_number_of : List Str := ["_law_word"]
theorem sc__law_number_of : FnScope N__law_number_of P__law_number_of (defScope st__law_number_of) := ⟨rfl, rfl, rfl, by decide +kernel, rfl, by decide +kernel, by decide +kernel⟩
abbrev st__law_read : Stmt := topS 42
abbrev N__law_read : List Str := ["_law_text_here", "_law_found", "_law_word", "_law_parts", "_law_number", "_law_a", "_law_b", "_law_powers"]
abbrev P__law_read : List Str := ["_law_text_here"]
theorem sc__law_read : FnScope N__law_read P__law_read (defScope st__law_read) := ⟨rfl, rfl, rfl, by decide +kernel, rfl, by decide +kernel, by decide +kernel⟩
abbrev st__law_spoilt : Stmt := topS 43
abbrev N__law_spoilt : List Str := ["_law_purse_here", "_law_text_here", "_law_sort", "_law_at", "_law_sign", "_law_changed"]
abbrev P__law_spoilt : List Str := ["_law_purse_here", "_law_text_here"]
theorem sc__law_spoilt : FnScope N__law_spoilt P__law_spoilt (defScope st__law_spoilt) := ⟨rfl, rfl, rfl, by decide +kernel, rfl, by decide +kernel, by decide +kernel⟩
abbrev st__law_alone : Stmt := topS 44
abbrev N__law_alone : List Str := ["_law_e", "_law_some"]
abbrev P__law_alone : List Str := ["_law_e"]
theorem sc__law_alone : FnScope N__law_alone P__law_alone (defScope st__law_alone) := ⟨rfl, rfl, rfl, by decide +kernel, rfl, by decide +kernel, by decide +kernel⟩
abbrev st__law_odd_word : Stmt := topS 45
abbrev N__law_odd_word : List Str := ["_law_purse_here", "_law_sort", "_law_a", "_law_b", "_law_top", "_law_some"]
abbrev P__law_odd_word : List Str := ["_law_purse_here"]
theorem sc__law_odd_word : FnScope N__law_odd_word P__law_odd_word (defScope st__law_odd_word) := ⟨rfl, rfl, rfl, by decide +kernel, rfl, by decide +kernel, by decide +kernel⟩
abbrev st__law_other : Stmt := topS 46
abbrev N__law_other : List Str := ["_law_purse_here", "_law_one", "_law_sort", "_law_at", "_law_words", "_law_size", "_law_which", "_law_k"]
abbrev P__law_other : List Str := ["_law_purse_here", "_law_one"]
theorem sc__law_other : FnScope N__law_other P__law_other (defScope st__law_other) := ⟨rfl, rfl, rfl, by decide +kernel, rfl, by decide +kernel, by decide +kernel⟩
abbrev st__law_told : Stmt := topS 47
abbrev N__law_told : List Str := ["_law_text_here", "_law_found", "_law_e"]
abbrev P__law_told : List Str := ["_law_text_here"]
theorem sc__law_told : FnScope N__law_told P__law_told (defScope st__law_told) := ⟨rfl, rfl, rfl, by decide +kernel, rfl, by decide +kernel, by decide +kernel⟩
abbrev st_law : Stmt := topS 48
abbrev N_law : List Str := ["_law_script", "_law_k", "_law_purse_here", "_law_one", "_law_text_here", "_law_turn", "_law_due"]
abbrev P_law : List Str := ["_law_script"]
theorem sc_law : FnScope N_law P_law (defScope st_law) := ⟨rfl, rfl, rfl, by decide +kernel, rfl, by decide +kernel, by decide +kernel⟩
theorem bt_ValueError : bootBuiltins "ValueError" = some (.type "ValueError") := by decide +kernel
theorem bt_abs : bootBuiltins "abs" = some (.builtin "abs") := by decide +kernel
theorem bt_all : bootBuiltins "all" = some (.builtin "all") := by decide +kernel
theorem bt_bool : bootBuiltins "bool" = some (.type "bool") := by decide +kernel
theorem bt_int : bootBuiltins "int" = some (.type "int") := by decide +kernel
theorem bt_isinstance : bootBuiltins "isinstance" = some (.builtin "isinstance") := by decide +kernel
theorem bt_len : bootBuiltins "len" = some (.builtin "len") := by decide +kernel
theorem bt_list : bootBuiltins "list" = some (.type "list") := by decide +kernel
theorem bt_max : bootBuiltins "max" = some (.builtin "max") := by decide +kernel
theorem bt_min : bootBuiltins "min" = some (.builtin "min") := by decide +kernel
theorem bt_set : bootBuiltins "set" = some (.type "set") := by decide +kernel
theorem bt_sorted : bootBuiltins "sorted" = some (.builtin "sorted") := by decide +kernel
theorem bt_str : bootBuiltins "str" = some (.type "str") := by decide +kernel
theorem bt_tuple : bootBuiltins "tuple" = some (.type "tuple") := by decide +kernel
structure Txt (K : PySem.W.Frag) (mg : Str → Option Value) where
  m_ValueError : mg "ValueError" = none
  m_abs : mg "abs" = none
  m_all : mg "all" = none
  m_bool : mg "bool" = none
  m_int : mg "int" = none
  m_isinstance : mg "isinstance" = none
  m_len : mg "len" = none
  m_list : mg "list" = none
  m_max : mg "max" = none
  m_min : mg "min" = none
  m_range : mg "range" = none
  m_set : mg "set" = none
  m_sorted : mg "sorted" = none
  m_str : mg "str" = none
  m_tuple : mg "tuple" = none
  a_NOUGHT : Addr
  mg_NOUGHT : mg "NOUGHT" = some (.ref a_NOUGHT)
  dq_NOUGHT : ∀ G : Hp, Dq K G (.ref a_NOUGHT) (.tup [(.int 0), (.int 1)])
  t_FIGURES : Tok
  mg_FIGURES : mg "FIGURES" = some (.str "0123456789" t_FIGURES)
  t_NONE : Tok
  mg_NONE : mg "NONE" = some (.str "none" t_NONE)
  t_MOST_TERMS : Tok
  mg_MOST_TERMS : mg "MOST_TERMS" = some (.int 9 t_MOST_TERMS)
  t_MOST_POWER : Tok
  mg_MOST_POWER : mg "MOST_POWER" = some (.int 6 t_MOST_POWER)
  t_MOST_FIGURES : Tok
  mg_MOST_FIGURES : mg "MOST_FIGURES" = some (.int 6 t_MOST_FIGURES)
  a_is_whole : Addr
  d_is_whole : FuncData
  F_is_whole : Fun K "is_whole" "is_whole" st_is_whole a_is_whole d_is_whole
  b_is_whole : Binds K d_is_whole P_is_whole []
  g_is_whole : mg "is_whole" = some (.ref a_is_whole)
  a_divisor : Addr
  d_divisor : FuncData
  F_divisor : Fun K "divisor" "divisor" st_divisor a_divisor d_divisor
  b_divisor : Binds K d_divisor P_divisor []
  g_divisor : mg "divisor" = some (.ref a_divisor)
  a_is_ratio : Addr
  d_is_ratio : FuncData
  F_is_ratio : Fun K "is_ratio" "is_ratio" st_is_ratio a_is_ratio d_is_ratio
  b_is_ratio : Binds K d_is_ratio P_is_ratio []
  g_is_ratio : mg "is_ratio" = some (.ref a_is_ratio)
  a_is_term : Addr
  d_is_term : FuncData
  F_is_term : Fun K "is_term" "is_term" st_is_term a_is_term d_is_term
  b_is_term : Binds K d_is_term P_is_term []
  g_is_term : mg "is_term" = some (.ref a_is_term)
  a_is_sum : Addr
  d_is_sum : FuncData
  F_is_sum : Fun K "is_sum" "is_sum" st_is_sum a_is_sum d_is_sum
  b_is_sum : Binds K d_is_sum P_is_sum []
  g_is_sum : mg "is_sum" = some (.ref a_is_sum)
  a_read_figures : Addr
  d_read_figures : FuncData
  F_read_figures : Fun K "read_figures" "read_figures" st_read_figures a_read_figures d_read_figures
  b_read_figures : Binds K d_read_figures P_read_figures []
  g_read_figures : mg "read_figures" = some (.ref a_read_figures)
  a_read_whole : Addr
  d_read_whole : FuncData
  F_read_whole : Fun K "read_whole" "read_whole" st_read_whole a_read_whole d_read_whole
  b_read_whole : Binds K d_read_whole P_read_whole []
  g_read_whole : mg "read_whole" = some (.ref a_read_whole)
  a_read_power : Addr
  d_read_power : FuncData
  F_read_power : Fun K "read_power" "read_power" st_read_power a_read_power d_read_power
  b_read_power : Binds K d_read_power P_read_power []
  g_read_power : mg "read_power" = some (.ref a_read_power)
  a_read_ratio : Addr
  d_read_ratio : FuncData
  F_read_ratio : Fun K "read_ratio" "read_ratio" st_read_ratio a_read_ratio d_read_ratio
  b_read_ratio : Binds K d_read_ratio P_read_ratio []
  g_read_ratio : mg "read_ratio" = some (.ref a_read_ratio)
  a_read_term : Addr
  d_read_term : FuncData
  F_read_term : Fun K "read_term" "read_term" st_read_term a_read_term d_read_term
  b_read_term : Binds K d_read_term P_read_term []
  g_read_term : mg "read_term" = some (.ref a_read_term)
  a_read : Addr
  d_read : FuncData
  F_read : Fun K "read" "read" st_read a_read d_read
  b_read : Binds K d_read P_read []
  g_read : mg "read" = some (.ref a_read)
  a__law_purse : Addr
  d__law_purse : FuncData
  F__law_purse : Fun K "_law_purse" "_law_purse" st__law_purse a__law_purse d__law_purse
  b__law_purse : Binds K d__law_purse P__law_purse []
  g__law_purse : mg "_law_purse" = some (.ref a__law_purse)
  a__law_take : Addr
  d__law_take : FuncData
  F__law_take : Fun K "_law_take" "_law_take" st__law_take a__law_take d__law_take
  b__law_take : Binds K d__law_take P__law_take []
  g__law_take : mg "_law_take" = some (.ref a__law_take)
  a__law_share : Addr
  d__law_share : FuncData
  F__law_share : Fun K "_law_share" "_law_share" st__law_share a__law_share d__law_share
  b__law_share : Binds K d__law_share P__law_share []
  g__law_share : mg "_law_share" = some (.ref a__law_share)
  a__law_ratio : Addr
  d__law_ratio : FuncData
  F__law_ratio : Fun K "_law_ratio" "_law_ratio" st__law_ratio a__law_ratio d__law_ratio
  b__law_ratio : Binds K d__law_ratio P__law_ratio []
  g__law_ratio : mg "_law_ratio" = some (.ref a__law_ratio)
  a__law_sum : Addr
  d__law_sum : FuncData
  F__law_sum : Fun K "_law_sum" "_law_sum" st__law_sum a__law_sum d__law_sum
  b__law_sum : Binds K d__law_sum P__law_sum []
  g__law_sum : mg "_law_sum" = some (.ref a__law_sum)
  a__law_number_text : Addr
  d__law_number_text : FuncData
  F__law_number_text : Fun K "_law_number_text" "_law_number_text" st__law_number_text a__law_number_text d__law_number_text
  b__law_number_text : Binds K d__law_number_text P__law_number_text []
  g__law_number_text : mg "_law_number_text" = some (.ref a__law_number_text)
  a__law_text : Addr
  d__law_text : FuncData
  F__law_text : Fun K "_law_text" "_law_text" st__law_text a__law_text d__law_text
  b__law_text : Binds K d__law_text P__law_text []
  g__law_text : mg "_law_text" = some (.ref a__law_text)
  a__law_whole_of : Addr
  d__law_whole_of : FuncData
  F__law_whole_of : Fun K "_law_whole_of" "_law_whole_of" st__law_whole_of a__law_whole_of d__law_whole_of
  b__law_whole_of : Binds K d__law_whole_of P__law_whole_of []
  g__law_whole_of : mg "_law_whole_of" = some (.ref a__law_whole_of)
  a__law_number_of : Addr
  d__law_number_of : FuncData
  F__law_number_of : Fun K "_law_number_of" "_law_number_of" st__law_number_of a__law_number_of d__law_number_of
  b__law_number_of : Binds K d__law_number_of P__law_number_of []
  g__law_number_of : mg "_law_number_of" = some (.ref a__law_number_of)
  a__law_read : Addr
  d__law_read : FuncData
  F__law_read : Fun K "_law_read" "_law_read" st__law_read a__law_read d__law_read
  b__law_read : Binds K d__law_read P__law_read []
  g__law_read : mg "_law_read" = some (.ref a__law_read)
  a__law_spoilt : Addr
  d__law_spoilt : FuncData
  F__law_spoilt : Fun K "_law_spoilt" "_law_spoilt" st__law_spoilt a__law_spoilt d__law_spoilt
  b__law_spoilt : Binds K d__law_spoilt P__law_spoilt []
  g__law_spoilt : mg "_law_spoilt" = some (.ref a__law_spoilt)
  a__law_alone : Addr
  d__law_alone : FuncData
  F__law_alone : Fun K "_law_alone" "_law_alone" st__law_alone a__law_alone d__law_alone
  b__law_alone : Binds K d__law_alone P__law_alone []
  g__law_alone : mg "_law_alone" = some (.ref a__law_alone)
  a__law_odd_word : Addr
  d__law_odd_word : FuncData
  F__law_odd_word : Fun K "_law_odd_word" "_law_odd_word" st__law_odd_word a__law_odd_word d__law_odd_word
  b__law_odd_word : Binds K d__law_odd_word P__law_odd_word []
  g__law_odd_word : mg "_law_odd_word" = some (.ref a__law_odd_word)
  a__law_other : Addr
  d__law_other : FuncData
  F__law_other : Fun K "_law_other" "_law_other" st__law_other a__law_other d__law_other
  b__law_other : Binds K d__law_other P__law_other []
  g__law_other : mg "_law_other" = some (.ref a__law_other)
  a__law_told : Addr
  d__law_told : FuncData
  F__law_told : Fun K "_law_told" "_law_told" st__law_told a__law_told d__law_told
  b__law_told : Binds K d__law_told P__law_told []
  g__law_told : mg "_law_told" = some (.ref a__law_told)
  a_law : Addr
  d_law : FuncData
  F_law : Fun K "law" "law" st_law a_law d_law
  b_law : Binds K d_law P_law []
  g_law : mg "law" = some (.ref a_law)
  c_MeetError : Addr
  gC_MeetError : mg "MeetError" = some (.ref c_MeetError)
  c_NoRatio : Addr
  gC_NoRatio : mg "NoRatio" = some (.ref c_NoRatio)
  c_Nought : Addr
  gC_Nought : mg "Nought" = some (.ref c_Nought)
  c_NoTable : Addr
  gC_NoTable : mg "NoTable" = some (.ref c_NoTable)
  c_NoStep : Addr
  gC_NoStep : mg "NoStep" = some (.ref c_NoStep)
  c_NoSide : Addr
  gC_NoSide : mg "NoSide" = some (.ref c_NoSide)
  c_NoPart : Addr
  gC_NoPart : mg "NoPart" = some (.ref c_NoPart)
  c_TooMuch : Addr
  gC_TooMuch : mg "TooMuch" = some (.ref c_TooMuch)
  c_CommonPart : Addr
  gC_CommonPart : mg "CommonPart" = some (.ref c_CommonPart)
  c_NoText : Addr
  gC_NoText : mg "NoText" = some (.ref c_NoText)
  c_NoName : Addr
  gC_NoName : mg "NoName" = some (.ref c_NoName)
  q_NoText : PySem.W.excIn K c_NoText [.type "ValueError", .type "Exception", .type "BaseException", .type "object"] "ValueError.__new__" = true
  kC_NoText : PySem.W.keepIn K (.ref c_NoText) = true
  r1_NoText : PySem.W.subIn K (.ref c_NoText) (.type "BaseException") = some true
  r2_NoText : PySem.W.typeIn K (.ref c_NoText) = some (.type "type")
  x1_NoText : PySem.W.findIn K (.ref c_NoText) "__getattribute__" = some (some (.builtin "BaseException.__getattribute__"))
  x2_NoText : PySem.W.findIn K (.ref c_NoText) "__getattr__" = some none
  x3_NoText : PySem.W.hasDictIn K c_NoText = true
  x4_NoText : PySem.W.findIn K (.ref c_NoText) "__class__" = some (some (.builtin "object.__class__"))
  x5_NoText : PySem.W.specialIn K (.builtin "object.__class__") "__get__" = some (some (.builtin "getset_descriptor.__get__"))
  x6_NoText : PySem.W.takesIn K (.builtin "object.__class__") = some true
  x7_NoText : PySem.W.mroIn K c_NoText (.type "object") = some true
  xm_NoText_NoText : PySem.W.exmOne K (.ref c_NoText) (.ref c_NoText) = some true
  kt_NoText_NoRatio : PySem.W.kitOne K (.ref c_NoText) (.ref c_NoRatio) = some false
  kt_NoText_Nought : PySem.W.kitOne K (.ref c_NoText) (.ref c_Nought) = some false
  kt_NoText_NoTable : PySem.W.kitOne K (.ref c_NoText) (.ref c_NoTable) = some false
  kt_NoText_NoStep : PySem.W.kitOne K (.ref c_NoText) (.ref c_NoStep) = some false
  kt_NoText_MeetError : PySem.W.kitOne K (.ref c_NoText) (.ref c_MeetError) = some true
  kt_NoText_NoSide : PySem.W.kitOne K (.ref c_NoText) (.ref c_NoSide) = some false
  kt_NoText_NoPart : PySem.W.kitOne K (.ref c_NoText) (.ref c_NoPart) = some false
  kt_NoText_TooMuch : PySem.W.kitOne K (.ref c_NoText) (.ref c_TooMuch) = some false
  kt_NoText_CommonPart : PySem.W.kitOne K (.ref c_NoText) (.ref c_CommonPart) = some false
  kt_NoText_NoText : PySem.W.kitOne K (.ref c_NoText) (.ref c_NoText) = some true
  kt_NoText_NoName : PySem.W.kitOne K (.ref c_NoText) (.ref c_NoName) = some false
  kt_NoText_ValueError : PySem.W.kitOne K (.ref c_NoText) (.type "ValueError") = some true
def clOf {K : PySem.W.Frag} {mg : Str → Option Value} (T : Txt K mg) : Nat → Addr
  | 8 => T.c_NoText
  | _ => T.c_MeetError
theorem ec_NoText {K : PySem.W.Frag} {mg : Str → Option Value} (T : Txt K mg) : ExcC K T.c_NoText := ⟨T.x1_NoText, T.x2_NoText, T.r1_NoText, T.x3_NoText, T.x4_NoText, T.x5_NoText, T.x6_NoText, T.x7_NoText⟩
theorem ctxN {cls : Value} {d : Option Addr} {oe : Obj} (hz : L2N.Zn cls d oe) (hf : ∃ vs, oe.data = .fields vs) : ∃ vs : Array Value, oe.data = .fields vs ∧ vs[2]? = some .none := by
  obtain ⟨vs, h⟩ := hf
  exact ⟨vs, h, hz.2.2 vs h⟩
section
variable {P : Program} {w : World} {K : PySem.W.Frag} {mg : Str → Option Value} {base : Heap}
theorem ok_is_whole (T : Txt K mg) : FnOk P w K mg base CX0 1 T.a_is_whole T.d_is_whole P_is_whole (spD K [false] ev_is_whole) :=
  ok_def (N := N_is_whole) (k := 0) (b := b_is_whole) T.F_is_whole sc_is_whole rfl fun cdv A outer s H E hr => ⟨_,
    (pss_one (ps_ret (pe_and (pe_callB call_isi (by rfl) T.m_isinstance bt_isinstance (pa_cons (pv 0) (pa_cons (pe_bltn (v := .ty "int") (by rfl) T.m_int bt_int rfl) pa_nil))) (pe_one (pe_not (pe_callB call_isi (by rfl) T.m_isinstance bt_isinstance (pa_cons (pv 0) (pa_cons (pe_bltn (v := .ty "bool") (by rfl) T.m_bool bt_bool rfl) pa_nil)))))))),
    (ss_ret (snd_and (snd_isi (snd_var 0)) (snd_not (snd_isi (snd_var 0)))))⟩
theorem ok_divisor (T : Txt K mg) : FnOk P w K mg base CX0 1 T.a_divisor T.d_divisor P_divisor (spD K [false, false] ev_divisor) :=
  ok_def (N := N_divisor) (k := 0) (b := b_divisor) T.F_divisor sc_divisor rfl fun cdv A outer s H E hr => ⟨_,
    (pss_cons (ps_par (by rfl) sc_divisor.nd (i := 0) (j := 1) rfl rfl (by decide) rfl rfl (pa_cons (pe_callB call_abs (by rfl) T.m_abs bt_abs (pa_cons (pv 0) pa_nil)) (pa_cons (pe_callB call_abs (by rfl) T.m_abs bt_abs (pa_cons (pv 1) pa_nil)) pa_nil)) (by rfl))
      (pss_cons (ps_while PassesOwn.never (pt_cmpR op_gt (pv 1) pe_int (nomark _)) (pss_one (ps_par (by rfl) sc_divisor.nd (i := 0) (j := 1) rfl rfl (by decide) rfl rfl (pa_cons (pv 1) (pa_cons (pe_op o_mod (pv 0) (pv 1)) pa_nil)) (by rfl))))
      (pss_one (ps_ret (pv 0))))),
    (ss_seq (ss_par (sa_cons (snd_b (sa_cons (snd_var 0) sa_nil) cg_abs) (sa_cons (snd_b (sa_cons (snd_var 1) sa_nil) cg_abs) sa_nil)))
      (ss_seq (ss_while (st_test (snd_2 (snd_var 1) (snd_int _) q_gt)) (ss_par (sa_cons (snd_var 1) (sa_cons (snd_2 (snd_var 0) (snd_var 1) q_mod) sa_nil))))
      (ss_ret (snd_var 0))))⟩
theorem ok_is_ratio (T : Txt K mg) : FnOk P w K mg base CX0 2 T.a_is_ratio T.d_is_ratio P_is_ratio (spD K [false] ev_is_ratio) :=
  ok_def (N := N_is_ratio) (k := 1) (b := b_is_ratio) T.F_is_ratio sc_is_ratio rfl fun cdv A outer s H E hr => ⟨_,
    (pss_cons (ps_if (PW.pt (pw_or (pt_not (pt_val (pe_callB call_isi (by rfl) T.m_isinstance bt_isinstance (pa_cons (pv 0) (pa_cons (pe_bltn (v := .ty "tuple") (by rfl) T.m_tuple bt_tuple rfl) pa_nil))))) (pw_or (pt_cmpR (op_neD hr.units) (pe_callB call_len_seq (by rfl) T.m_len bt_len (pa_cons (pv 0) pa_nil)) pe_int (nomark _)) (pw_or (pt_not (pt_val (pe_call (ok_is_whole T) (hr.mono (by decide)) (by rfl) T.g_is_whole T.F_is_whole.kp T.b_is_whole .nil pass0 (pa_cons (pe_ix ix_seq (pv 0) pe_int (fun _ _ => rfl)) pa_nil)))) (pw_or1 (pt_not (pt_val (pe_call (ok_is_whole T) (hr.mono (by decide)) (by rfl) T.g_is_whole T.F_is_whole.kp T.b_is_whole .nil pass0 (pa_cons (pe_ix ix_seq (pv 0) pe_int (fun _ _ => rfl)) pa_nil))))))))) (pss_one (ps_ret pe_bl)) pss_nil)
      (pss_one (ps_ret (pe_and (pe_cmpR op_gt (pe_ix ix_seq (pv 0) pe_int (fun _ _ => rfl)) pe_int (nomark _)) (pe_one (pe_cmpR (op_eqD hr.units) (pe_call (ok_divisor T) (hr.mono (by decide)) (by rfl) T.g_divisor T.F_divisor.kp T.b_divisor .nil pass0 (pa_cons (pe_ix ix_seq (pv 0) pe_int (fun _ _ => rfl)) (pa_cons (pe_ix ix_seq (pv 0) pe_int (fun _ _ => rfl)) pa_nil))) pe_int (nomark _))))))),
    (ss_seq (ss_if (st_or (st_not (st_B (snd_isi (snd_var 0)))) (st_or (st_test (snd_2 (snd_b (sa_cons (snd_var 0) sa_nil) cg_len) (snd_int _) op2_ne)) (st_or (st_not (st_B (snd_call (sa_cons (snd_2 (snd_var 0) (snd_int _) op2_ix) sa_nil)))) (st_not (st_B (snd_call (sa_cons (snd_2 (snd_var 0) (snd_int _) op2_ix) sa_nil))))))) (ss_ret (snd_bl _)) ss_next)
      (ss_ret (snd_and (snd_2 (snd_2 (snd_var 0) (snd_int _) op2_ix) (snd_int _) q_gt) (snd_2 (snd_call (sa_cons (snd_2 (snd_var 0) (snd_int _) op2_ix) (sa_cons (snd_2 (snd_var 0) (snd_int _) op2_ix) sa_nil))) (snd_int _) op2_eq))))⟩
theorem ok_is_term (T : Txt K mg) : FnOk P w K mg base CX0 3 T.a_is_term T.d_is_term P_is_term (spD K [false] ev_is_term) :=
  ok_def (N := N_is_term) (k := 2) (b := b_is_term) T.F_is_term sc_is_term rfl fun cdv A outer s H E hr => ⟨_,
    (pss_cons (ps_if (PW.pt (pw_or (pt_not (pt_val (pe_callB call_isi (by rfl) T.m_isinstance bt_isinstance (pa_cons (pv 0) (pa_cons (pe_bltn (v := .ty "tuple") (by rfl) T.m_tuple bt_tuple rfl) pa_nil))))) (pw_or (pt_cmpR (op_neD hr.units) (pe_callB call_len_seq (by rfl) T.m_len bt_len (pa_cons (pv 0) pa_nil)) pe_int (nomark _)) (pw_or (pt_not (pt_val (pe_call (ok_is_whole T) (hr.mono (by decide)) (by rfl) T.g_is_whole T.F_is_whole.kp T.b_is_whole .nil pass0 (pa_cons (pe_ix ix_seq (pv 0) pe_int (fun _ _ => rfl)) pa_nil)))) (pw_or1 (pt_not (pt_val (pe_call (ok_is_whole T) (hr.mono (by decide)) (by rfl) T.g_is_whole T.F_is_whole.kp T.b_is_whole .nil pass0 (pa_cons (pe_ix ix_seq (pv 0) pe_int (fun _ _ => rfl)) pa_nil))))))))) (pss_one (ps_ret pe_bl)) pss_nil)
      (pss_one (ps_ret (pe_and (pe_call (ok_is_ratio T) (hr.mono (by decide)) (by rfl) T.g_is_ratio T.F_is_ratio.kp T.b_is_ratio .nil pass0 (pa_cons (pe_ix ix_seq (pv 0) pe_int (fun _ _ => rfl)) pa_nil)) (pe_one (pe_cmpR (op_neD hr.units) (pe_ix ix_seq (pv 0) pe_int (fun _ _ => rfl)) (pe_glob (v := .ref T.a_NOUGHT) rfl T.mg_NOUGHT rfl) (nomark _))))))),
    (ss_seq (ss_if (st_or (st_not (st_B (snd_isi (snd_var 0)))) (st_or (st_test (snd_2 (snd_b (sa_cons (snd_var 0) sa_nil) cg_len) (snd_int _) op2_ne)) (st_or (st_not (st_B (snd_call (sa_cons (snd_2 (snd_var 0) (snd_int _) op2_ix) sa_nil)))) (st_not (st_B (snd_call (sa_cons (snd_2 (snd_var 0) (snd_int _) op2_ix) sa_nil))))))) (ss_ret (snd_bl _)) ss_next)
      (ss_ret (snd_and (snd_call (sa_cons (snd_2 (snd_var 0) (snd_int _) op2_ix) sa_nil)) (snd_2 (snd_2 (snd_var 0) (snd_int _) op2_ix) (snd_c T.dq_NOUGHT) op2_ne))))⟩
theorem ok_is_sum (T : Txt K mg) : FnOk P w K mg base CX0 4 T.a_is_sum T.d_is_sum P_is_sum (spD K [false] ev_is_sum) :=
  ok_def (N := N_is_sum) (k := 3) (b := b_is_sum) T.F_is_sum sc_is_sum rfl fun cdv A outer s H E hr => ⟨_,
    (pss_cons (ps_if (PW.pt (pw_or (pt_not (pt_val (pe_callB call_isi (by rfl) T.m_isinstance bt_isinstance (pa_cons (pv 0) (pa_cons (pe_bltn (v := .ty "list") (by rfl) T.m_list bt_list rfl) pa_nil))))) (pw_or1 (pt_not (pt_val (pe_callB (cr_all rfl) (by rfl) T.m_all bt_all (pa_cons (pe_lc (own := [("term", 1)]) rfl sc_is_sum.nd (pi_list (pv 0)) (blkOk_by (own := [("term", 1)]) (N := N_is_sum) (sc := defScope st_is_sum) (by decide +kernel)) (fun _ _ _ _ _ => (pg_name (i := 1) sc_is_sum.nd rfl (.inl rfl))) (fun _ _ _ _ _ => pts_nil) (fun _ _ _ _ _ => (pe_call (ok_is_term T) (hr.mono (by decide)) (by rfl) T.g_is_term T.F_is_term.kp T.b_is_term .nil pass0 (pa_cons (pv 1) pa_nil)))) pa_nil))))))) (pss_one (ps_ret pe_bl)) pss_nil)
      (pss_one (ps_ret (pe_callB (cr_all rfl) (by rfl) T.m_all bt_all (pa_cons (pe_lc (own := [("k", 2)]) rfl sc_is_sum.nd (pi_range1 rfl T.m_range (pa_cons (pe_op o_sub (pe_callB call_len_seq (by rfl) T.m_len bt_len (pa_cons (pv 0) pa_nil)) pe_int) pa_nil)) (blkOk_by (own := [("k", 2)]) (N := N_is_sum) (sc := defScope st_is_sum) (by decide +kernel)) (fun _ _ _ _ _ => (pg_name (i := 2) sc_is_sum.nd rfl (.inl rfl))) (fun _ _ _ _ _ => pts_nil) (fun _ _ _ _ _ => (pe_cmpR (op_ltT (Nat.lt_of_le_of_lt (Nat.le_add_right _ 64) hr.units)) (pe_slice sl_tupA (pe_ix ix_seq (pv 0) (pv 2) (fun _ _ => rfl)) po_none (po_some pe_int)) (pe_slice sl_tupA (pe_ix ix_seq (pv 0) (pe_op o_add (pv 2) pe_int) (fun _ _ => rfl)) po_none (po_some pe_int)) (nomark _)))) pa_nil))))),
    (ss_seq (ss_if (st_or (st_not (st_B (snd_isi (snd_var 0)))) (st_not (st_B (snd_b (sa_cons (snd_lc (vs := [1]) (si_list (snd_var 0)) (sw_name 1 (by decide)) st_yes (snd_call (sa_cons (snd_var 1) sa_nil))) sa_nil) cg_all)))) (ss_ret (snd_bl _)) ss_next)
      (ss_ret (snd_b (sa_cons (snd_lc (vs := [2]) (si_range1 (sa_cons (snd_2 (snd_b (sa_cons (snd_var 0) sa_nil) cg_len) (snd_int _) q_sub) sa_nil)) (sw_name 2 (by decide)) st_yes (snd_2 (snd_sl (snd_2 (snd_var 0) (snd_var 2) op2_ix) so_none (so_some (snd_int _)) os_tup) (snd_sl (snd_2 (snd_var 0) (snd_2 (snd_var 2) (snd_int _) q_add) op2_ix) so_none (so_some (snd_int _)) os_tup) op2_ltP)) sa_nil) cg_all)))⟩
theorem okx_read_figures (T : Txt K mg) : FnOk P w K mg base (L2N.CX P w) 1 T.a_read_figures T.d_read_figures P_read_figures (spX K (clOf T) [false, false] evx_read_figures) :=
  ok_defX (cl := clOf T) (N := N_read_figures) (k := 0) (b := bx_read_figures) T.F_read_figures sc_read_figures rfl fun cdv A outer s H E hr tk => ⟨_,
    (pss_cons (ps_if (PW.pt (pw_or (pt_not (pt_chain op_le op_le pe_int (pe_callB call_len_str (by rfl) T.m_len bt_len (pa_cons (pv 0) pa_nil)) (pv 1))) (pw_or1 (PW.pt (pw_and (pt_cmpR op_eq (pe_ix ix_seq (pv 0) pe_int (fun _ _ => rfl)) pe_str (nomark _)) (pw_and1 (pt_cmpR op_gt (pe_callB call_len_str (by rfl) T.m_len bt_len (pa_cons (pv 0) pa_nil)) pe_int (nomark _)))))))) (pss_one (ps_raiseK rfl tk T.q_NoText T.gC_NoText T.kC_NoText T.r1_NoText T.r2_NoText (by rfl))) pss_nil)
      (pss_cons (ps_for PassesOwn.leaving rfl (pi_str (pv 0)) (pg_name (i := 2) sc_read_figures.nd rfl (.inl rfl)) (pss_one (ps_if (pt_cmpR op_notIn_sign (pv 2) (pe_glob (v := .str "0123456789") rfl T.mg_FIGURES ⟨_, rfl⟩) (by rfl)) (pss_one (ps_raiseK rfl tk T.q_NoText T.gC_NoText T.kC_NoText T.r1_NoText T.r2_NoText (by rfl))) pss_nil)))
      (PSs.nox (pss_one (ps_ret (pe_callTy call_int_str (by rfl) T.m_int bt_int (pa_cons (pv 0) pa_nil))))))),
    (ss_seq (ss_if (st_or (st_not (st_test (snd_chn (snd_int _) (snd_b (sa_cons (snd_var 0) sa_nil) cg_lenS) (snd_var 1)))) (st_and (st_test (snd_2 (snd_2 (snd_var 0) (snd_int _) op2_ix) (snd_str _) op2_eqS)) (st_test (snd_2 (snd_b (sa_cons (snd_var 0) sa_nil) cg_lenS) (snd_int _) q_gt)))) (ss_raise (n := 8)) ss_next)
      (ss_seq (ss_for (si_str (snd_var 0)) (sg_name 2) (ss_if (st_test (snd_2 (snd_var 2) (snd_str _) op2_notInSig)) (ss_raise (n := 8)) ss_next))
      (ss_ret (snd_b (sa_cons (snd_var 0) sa_nil) cg_intS))))⟩
theorem okx_read_whole (T : Txt K mg) : FnOk P w K mg base (L2N.CX P w) 2 T.a_read_whole T.d_read_whole P_read_whole (spX K (clOf T) [false, false] evx_read_whole) :=
  ok_defX (cl := clOf T) (N := N_read_whole) (k := 1) (b := bx_read_whole) T.F_read_whole sc_read_whole rfl fun cdv A outer s H E hr tk => ⟨_,
    (pss_cons (ps_if (pt_cmpR op_ne (pe_slice sl_str (pv 0) po_none (po_some pe_int)) pe_str (nomark _)) (pss_one (ps_ret (pe_callS (okx_read_figures T) (hr.mono (by decide)) (by rfl) T.g_read_figures T.F_read_figures.kp T.b_read_figures (fun σ => L2N.passAt tk σ) (pa_cons (pv 0) (pa_cons (pv 1) pa_nil))))) pss_nil)
      (pss_cons (ps_if (pt_cmpR op_eq (pv 0) pe_str (nomark _)) (pss_one (ps_raiseK rfl tk T.q_NoText T.gC_NoText T.kC_NoText T.r1_NoText T.r2_NoText (by rfl))) pss_nil)
      (pss_one (ps_ret (pe_op o_sub pe_int (pe_callS (okx_read_figures T) (hr.mono (by decide)) (by rfl) T.g_read_figures T.F_read_figures.kp T.b_read_figures (fun σ => L2N.passAt tk σ) (pa_cons (pe_slice sl_str (pv 0) (po_some pe_int) po_none) (pa_cons (pv 1) pa_nil)))))))),
    (ss_seq (ss_if (st_test (snd_2 (snd_sl (snd_var 0) so_none (so_some (snd_int _)) os_str) (snd_str _) op2_neS)) (ss_retX (sndX_call (sa_cons (snd_var 0) (sa_cons (snd_var 1) sa_nil)))) ss_next)
      (ss_seq (ss_if (st_test (snd_2 (snd_var 0) (snd_str _) op2_eqS)) (ss_raise (n := 8)) ss_next)
      (ss_retX (sndX_2r (snd_int _) (sndX_call (sa_cons (snd_sl (snd_var 0) (so_some (snd_int _)) so_none os_str) (sa_cons (snd_var 1) sa_nil))) q_sub))))⟩
theorem okx_read_power (T : Txt K mg) : FnOk P w K mg base (L2N.CX P w) 3 T.a_read_power T.d_read_power P_read_power (spX K (clOf T) [false] evx_read_power) :=
  ok_defX (cl := clOf T) (N := N_read_power) (k := 2) (b := bx_read_power) T.F_read_power sc_read_power rfl fun cdv A outer s H E hr tk => ⟨_,
    (pss_cons (ps_set (i := 1) sc_read_power.nd rfl (.inl rfl) (pe_callS (okx_read_whole T) (hr.mono (by decide)) (by rfl) T.g_read_whole T.F_read_whole.kp T.b_read_whole (fun σ => L2N.passAt tk σ) (pa_cons (pv 0) (pa_cons pe_int pa_nil))))
      (pss_cons (ps_if (pt_not (pt_chain op_le op_le (pe_op o_sub pe_int (pe_glob (v := .int 6) rfl T.mg_MOST_POWER ⟨_, rfl⟩)) (pv 1) (pe_glob (v := .int 6) rfl T.mg_MOST_POWER ⟨_, rfl⟩))) (pss_one (ps_raiseK rfl tk T.q_NoText T.gC_NoText T.kC_NoText T.r1_NoText T.r2_NoText (by rfl))) pss_nil)
      (PSs.nox (pss_one (ps_ret (pv 1)))))),
    (ss_seq (ss_asgX (sndX_call (sa_cons (snd_var 0) (sa_cons (snd_int _) sa_nil))) (sg_name 1))
      (ss_seq (ss_if (st_not (st_test (snd_chn (snd_2 (snd_int _) (snd_int _) q_sub) (snd_var 1) (snd_int _)))) (ss_raise (n := 8)) ss_next)
      (ss_ret (snd_var 1))))⟩
theorem okx_read_ratio (T : Txt K mg) : FnOk P w K mg base (L2N.CX P w) 3 T.a_read_ratio T.d_read_ratio P_read_ratio (spX K (clOf T) [false] evx_read_ratio) :=
  ok_defX (cl := clOf T) (N := N_read_ratio) (k := 2) (b := bx_read_ratio) T.F_read_ratio sc_read_ratio rfl fun cdv A outer s H E hr tk => ⟨_,
    (pss_cons (ps_asg (pe_partition (pv 0) pe_str) (pg_tup rfl (pgs_cons (pg_name (i := 1) sc_read_ratio.nd rfl (.inl rfl)) (pgs_cons (pg_name (i := 2) sc_read_ratio.nd rfl (.inl rfl)) (pgs_cons (pg_name (i := 3) sc_read_ratio.nd rfl (.inl rfl)) pgs_nil)))))
      (pss_cons (ps_if (pt_cmpR op_eq (pv 2) pe_str (nomark _)) (pss_one (ps_ret (pe_tup (pa_cons (pe_callS (okx_read_whole T) (hr.mono (by decide)) (by rfl) T.g_read_whole T.F_read_whole.kp T.b_read_whole (fun σ => L2N.passAt tk σ) (pa_cons (pv 1) (pa_cons (pe_glob (v := .int 6) rfl T.mg_MOST_FIGURES ⟨_, rfl⟩) pa_nil))) (pa_cons pe_int pa_nil))))) pss_nil)
      (pss_cons (ps_set (i := 4) sc_read_ratio.nd rfl (.inl rfl) (pe_tup (pa_cons (pe_callS (okx_read_whole T) (hr.mono (by decide)) (by rfl) T.g_read_whole T.F_read_whole.kp T.b_read_whole (fun σ => L2N.passAt tk σ) (pa_cons (pv 1) (pa_cons (pe_glob (v := .int 6) rfl T.mg_MOST_FIGURES ⟨_, rfl⟩) pa_nil))) (pa_cons (pe_callS (okx_read_figures T) (hr.mono (by decide)) (by rfl) T.g_read_figures T.F_read_figures.kp T.b_read_figures (fun σ => L2N.passAt tk σ) (pa_cons (pv 3) (pa_cons (pe_glob (v := .int 6) rfl T.mg_MOST_FIGURES ⟨_, rfl⟩) pa_nil))) pa_nil))))
      (pss_cons (ps_if (pt_cmpR (op_eqD hr.units) (pe_ix ix_seq (pv 4) pe_int (fun _ _ => rfl)) pe_int (nomark _)) (pss_one (ps_raiseK rfl tk T.q_NoText T.gC_NoText T.kC_NoText T.r1_NoText T.r2_NoText (by rfl))) pss_nil)
      (PSs.nox (pss_one (ps_ret (pv 4)))))))),
    (ss_seq (ss_asg (snd_s1 (snd_var 0) (snd_str _) op2_part) (sg_tup (sgs_cons (sg_name 1) (sgs_cons (sg_name 2) (sgs_cons (sg_name 3) sgs_nil)))))
      (ss_seq (ss_if (st_test (snd_2 (snd_var 2) (snd_str _) op2_eqS)) (ss_retX (sndX_tup (sax_consX (sndX_call (sa_cons (snd_var 1) (sa_cons (snd_int _) sa_nil))) (sax_consP (snd_int _) sax_nil)))) ss_next)
      (ss_seq (ss_asgX (sndX_tup (sax_consX (sndX_call (sa_cons (snd_var 1) (sa_cons (snd_int _) sa_nil))) (sax_consX (sndX_call (sa_cons (snd_var 3) (sa_cons (snd_int _) sa_nil))) sax_nil))) (sg_name 4))
      (ss_seq (ss_if (st_test (snd_2 (snd_2 (snd_var 4) (snd_int _) op2_ix) (snd_int _) op2_eq)) (ss_raise (n := 8)) ss_next)
      (ss_ret (snd_var 4))))))⟩
theorem okx_read_term (T : Txt K mg) : FnOk P w K mg base (L2N.CX P w) 4 T.a_read_term T.d_read_term P_read_term (spX K (clOf T) [false] evx_read_term) :=
  ok_defX (cl := clOf T) (N := N_read_term) (k := 3) (b := bx_read_term) T.F_read_term sc_read_term rfl fun cdv A outer s H E hr tk => ⟨_,
    (pss_cons (ps_set (i := 1) sc_read_term.nd rfl (.inl rfl) (pe_split (pv 0) pe_str))
      (pss_cons (ps_if (pt_cmpR (op_neD hr.units) (pe_callB call_len_seq (by rfl) T.m_len bt_len (pa_cons (pv 1) pa_nil)) pe_int (nomark _)) (pss_one (ps_raiseK rfl tk T.q_NoText T.gC_NoText T.kC_NoText T.r1_NoText T.r2_NoText (by rfl))) pss_nil)
      (pss_one (ps_ret (pe_tup (pa_cons (pe_callS (okx_read_power T) (hr.mono (by decide)) (by rfl) T.g_read_power T.F_read_power.kp T.b_read_power (fun σ => L2N.passAt tk σ) (pa_cons (pe_ix ix_seq (pv 1) pe_int (fun _ _ => rfl)) pa_nil)) (pa_cons (pe_callS (okx_read_power T) (hr.mono (by decide)) (by rfl) T.g_read_power T.F_read_power.kp T.b_read_power (fun σ => L2N.passAt tk σ) (pa_cons (pe_ix ix_seq (pv 1) pe_int (fun _ _ => rfl)) pa_nil)) (pa_cons (pe_callS (okx_read_ratio T) (hr.mono (by decide)) (by rfl) T.g_read_ratio T.F_read_ratio.kp T.b_read_ratio (fun σ => L2N.passAt tk σ) (pa_cons (pe_ix ix_seq (pv 1) pe_int (fun _ _ => rfl)) pa_nil)) pa_nil)))))))),
    (ss_seq (ss_asg (snd_s1 (snd_var 0) (snd_str _) op2_split) (sg_name 1))
      (ss_seq (ss_if (st_test (snd_2 (snd_b (sa_cons (snd_var 1) sa_nil) cg_len) (snd_int _) op2_ne)) (ss_raise (n := 8)) ss_next)
      (ss_retX (sndX_tup (sax_consX (sndX_call (sa_cons (snd_2 (snd_var 1) (snd_int _) op2_ix) sa_nil)) (sax_consX (sndX_call (sa_cons (snd_2 (snd_var 1) (snd_int _) op2_ix) sa_nil)) (sax_consX (sndX_call (sa_cons (snd_2 (snd_var 1) (snd_int _) op2_ix) sa_nil)) sax_nil)))))))⟩
theorem okx_read (T : Txt K mg) : FnOk P w K mg base (L2N.CX P w) 5 T.a_read T.d_read P_read (spX K (clOf T) [false] evx_read) :=
  ok_defX (cl := clOf T) (N := N_read) (k := 4) (b := bx_read) T.F_read sc_read rfl fun cdv A outer s H E hr tk => ⟨_,
    (pss_cons (ps_if (pt_not (pt_val (pe_callB call_isi (by rfl) T.m_isinstance bt_isinstance (pa_cons (pv 0) (pa_cons (pe_bltn (v := .ty "str") (by rfl) T.m_str bt_str rfl) pa_nil))))) (pss_one (ps_raiseK rfl tk T.q_NoText T.gC_NoText T.kC_NoText T.r1_NoText T.r2_NoText (by rfl))) pss_nil)
      (pss_cons (ps_if (pt_cmpR op_eq (pv 0) (pe_glob (v := .str "none") rfl T.mg_NONE ⟨_, rfl⟩) (nomark _)) (pss_one (ps_ret (pe_lst pa_nil))) pss_nil)
      (pss_cons (ps_setLcX (i := 1) (own := [("word", 2)]) tk (fun _ _ _ _ _ h => h) rfl rfl rfl sc_read.nd rfl rfl (sw_true rfl rfl rfl (by decide +kernel)) (pi_list (pe_split (pv 0) pe_str)) (blkOk_by (own := [("word", 2)]) (N := N_read) (sc := defScope st_read) (by decide +kernel)) (fun _ _ _ _ _ => (pg_name (i := 2) sc_read.nd rfl (.inl rfl))) (fun _ _ _ _ _ => pts_nil) (fun _ _ _ _ _ _ pa => (pe_callS (okx_read_term T) (hr.mono (by decide)) (by rfl) T.g_read_term T.F_read_term.kp T.b_read_term pa (pa_cons (pv 2) pa_nil))))
      (pss_cons (ps_if (PW.pt (pw_or (pt_cmpR op_gt (pe_callB call_len_seq (by rfl) T.m_len bt_len (pa_cons (pv 1) pa_nil)) (pe_glob (v := .int 9) rfl T.mg_MOST_TERMS ⟨_, rfl⟩) (nomark _)) (pw_or1 (pt_not (pt_val (pe_call (ok_is_sum T) (hr.mono (by decide)) (by rfl) T.g_is_sum T.F_is_sum.kp T.b_is_sum .nil pass0 (pa_cons (pv 1) pa_nil))))))) (pss_one (ps_raiseK rfl tk T.q_NoText T.gC_NoText T.kC_NoText T.r1_NoText T.r2_NoText (by rfl))) pss_nil)
      (PSs.nox (pss_one (ps_ret (pv 1)))))))),
    (ss_seq (ss_if (st_not (st_B (snd_isi (snd_var 0)))) (ss_raise (n := 8)) ss_next)
      (ss_seq (ss_if (st_test (snd_2 (snd_var 0) (snd_str _) op2_eqS)) (ss_ret (snd_lst sa_nil)) ss_next)
      (ss_seq (ss_asgX (sndX_lc (vs := [2]) (fun _ _ _ _ h => h) (si_list (snd_s1 (snd_var 0) (snd_str _) op2_split)) (sw_name 2 (by decide)) st_yes (sndX_call (sa_cons (snd_var 2) sa_nil))) (sg_name 1))
      (ss_seq (ss_if (st_or (st_test (snd_2 (snd_b (sa_cons (snd_var 1) sa_nil) cg_len) (snd_int _) q_gt)) (st_not (st_B (snd_call (sa_cons (snd_var 1) sa_nil))))) (ss_raise (n := 8)) ss_next)
      (ss_ret (snd_var 1))))))⟩
theorem ok__law_purse (T : Txt K mg) : FnOk P w K mg base CX0 1 T.a__law_purse T.d__law_purse P__law_purse (spD K [false, false] ev__law_purse) :=
  ok_def (N := N__law_purse) (k := 0) (b := b__law_purse) T.F__law_purse sc__law_purse rfl fun cdv A outer s H E hr => ⟨_,
    (pss_cons (ps_set (i := 2) sc__law_purse.nd rfl (.inl rfl) pe_int)
      (pss_cons (ps_if (pt_cmpR op_lt (pv 1) (pe_callB call_len_seq (by rfl) T.m_len bt_len (pa_cons (pv 0) pa_nil)) (nomark _)) (pss_one (ps_set (i := 2) sc__law_purse.nd rfl (.inl rfl) (pe_ix ix_seq (pv 0) (pv 1) (fun _ _ => rfl)))) pss_nil)
      (pss_cons (ps_set (i := 3) sc__law_purse.nd rfl (.inl rfl) (pe_callB call_abs (by rfl) T.m_abs bt_abs (pa_cons (pv 2) pa_nil)))
      (pss_one (ps_ret (pe_lst (pa_cons (pe_op o_mul (pv 3) (pe_callTy call_int1 (by rfl) T.m_int bt_int (pa_cons (pe_cmpR op_ge (pv 3) (pe_op o_pow pe_int pe_int) (nomark _)) pa_nil))) (pa_cons (pe_op o_mod (pe_op o_add (pe_op o_add (pe_op o_mod (pv 2) pe_int) (pe_op o_mul pe_int (pv 1))) pe_int) pe_int) (pa_cons pe_int pa_nil))))))))),
    (ss_seq (ss_asg (snd_int _) (sg_name 2))
      (ss_cut (ss_seq (ss_if (st_test (snd_2 (snd_var 1) (snd_b (sa_cons (snd_var 0) sa_nil) cg_len) q_lt)) (ss_asg (snd_2 (snd_var 0) (snd_var 1) op2_ix) (sg_name 2)) ss_next)
      (ss_seq (ss_asg (snd_b (sa_cons (snd_var 2) sa_nil) cg_abs) (sg_name 3))
      (ss_ret (snd_lst (sa_cons (snd_2 (snd_var 3) (snd_b (sa_cons (snd_2 (snd_var 3) (snd_2 (snd_int _) (snd_int _) q_pow) q_ge) sa_nil) cg_int) q_mul) (sa_cons (snd_2 (snd_2 (snd_2 (snd_2 (snd_var 2) (snd_int _) q_mod) (snd_2 (snd_int _) (snd_var 1) q_mul) q_add) (snd_int _) q_add) (snd_int _) q_mod) (sa_cons (snd_int _) sa_nil)))))))))⟩
theorem ok__law_take (T : Txt K mg) : FnOk P w K mg base CX0 1 T.a__law_take T.d__law_take P__law_take (spD K [true, false] ev__law_take) :=
  ok_def (N := N__law_take) (k := 0) (b := b__law_take) T.F__law_take sc__law_take rfl fun cdv A outer s H E hr => ⟨_,
    (pss_cons (ps_if (pt_cmpR op_gt (pe_ix ix_seq (pv 0) pe_int (fun _ _ => rfl)) pe_int (nomark _)) (pss_cons (ps_set (i := 2) sc__law_take.nd rfl (.inl rfl) (pe_op o_mod (pe_ix ix_seq (pv 0) pe_int (fun _ _ => rfl)) (pv 1)))
      (pss_cons (ps_asg (pe_op o_div (pe_ix ix_seq (pv 0) pe_int (fun _ _ => rfl)) (pv 1)) (pg_sub (pv 0) pe_int set_list))
      (pss_one (ps_ret (pv 2))))) pss_nil)
      (pss_cons (ps_asg (pe_op o_add (pe_ix ix_seq (pv 0) pe_int (fun _ _ => rfl)) pe_int) (pg_sub (pv 0) pe_int set_list))
      (pss_cons (ps_set (i := 3) sc__law_take.nd rfl (.inl rfl) (pe_ix ix_seq (pv 0) pe_int (fun _ _ => rfl)))
      (pss_cons (ps_set (i := 4) sc__law_take.nd rfl (.inl rfl) (pe_op o_mod (pe_op o_pow (pe_op o_add (pe_op o_add (pe_ix ix_seq (pv 0) pe_int (fun _ _ => rfl)) (pe_op o_mul (pe_op o_mul pe_int (pv 3)) (pv 3))) pe_int) pe_int) pe_int))
      (pss_cons (ps_set (i := 5) sc__law_take.nd rfl (.inl rfl) (pe_op o_mod (pe_op o_pow (pe_op o_add (pe_op o_mul (pv 4) (pe_op o_add (pe_op o_mul pe_int (pv 3)) pe_int)) (pv 3)) pe_int) pe_int))
      (pss_one (ps_ret (pe_op o_mod (pe_op o_div (pe_op o_add (pe_op o_mul (pv 4) pe_int) (pv 5)) pe_int) (pv 1))))))))),
    (ss_seq (ss_if (st_test (snd_2 (snd_2 (snd_var 0) (snd_int _) op2_ix) (snd_int _) q_gt)) (ss_seq (ss_asg (snd_2 (snd_2 (snd_var 0) (snd_int _) op2_ix) (snd_var 1) q_mod) (sg_name 2))
      (ss_seq (ss_setI (snd_2 (snd_2 (snd_var 0) (snd_int _) op2_ix) (snd_var 1) q_div) (snd_int _))
      (ss_ret (snd_var 2)))) ss_next)
      (ss_seq (ss_setI (snd_2 (snd_2 (snd_var 0) (snd_int _) op2_ix) (snd_int _) q_add) (snd_int _))
      (ss_seq (ss_asg (snd_2 (snd_var 0) (snd_int _) op2_ix) (sg_name 3))
      (ss_seq (ss_asg (snd_2 (snd_2 (snd_2 (snd_2 (snd_2 (snd_var 0) (snd_int _) op2_ix) (snd_2 (snd_2 (snd_int _) (snd_var 3) q_mul) (snd_var 3) q_mul) q_add) (snd_int _) q_add) (snd_int _) q_pow) (snd_int _) q_mod) (sg_name 4))
      (ss_seq (ss_asg (snd_2 (snd_2 (snd_2 (snd_2 (snd_var 4) (snd_2 (snd_2 (snd_int _) (snd_var 3) q_mul) (snd_int _) q_add) q_mul) (snd_var 3) q_add) (snd_int _) q_pow) (snd_int _) q_mod) (sg_name 5))
      (ss_ret (snd_2 (snd_2 (snd_2 (snd_2 (snd_var 4) (snd_int _) q_mul) (snd_var 5) q_add) (snd_int _) q_div) (snd_var 1) q_mod)))))))⟩
theorem ok__law_share (T : Txt K mg) : FnOk P w K mg base CX0 1 T.a__law_share T.d__law_share P__law_share (spD K [false, false] ev__law_share) :=
  ok_def (N := N__law_share) (k := 0) (b := b__law_share) T.F__law_share sc__law_share rfl fun cdv A outer s H E hr => ⟨_,
    (pss_cons (ps_par (by rfl) sc__law_share.nd (i := 0) (j := 1) rfl rfl (by decide) rfl rfl (pa_cons (pe_callB call_abs (by rfl) T.m_abs bt_abs (pa_cons (pv 0) pa_nil)) (pa_cons (pe_callB call_abs (by rfl) T.m_abs bt_abs (pa_cons (pv 1) pa_nil)) pa_nil)) (by rfl))
      (pss_cons (ps_while PassesOwn.never (pt_cmpR op_gt (pv 1) pe_int (nomark _)) (pss_one (ps_par (by rfl) sc__law_share.nd (i := 0) (j := 1) rfl rfl (by decide) rfl rfl (pa_cons (pv 1) (pa_cons (pe_op o_mod (pv 0) (pv 1)) pa_nil)) (by rfl))))
      (pss_one (ps_ret (pv 0))))),
    (ss_seq (ss_par (sa_cons (snd_b (sa_cons (snd_var 0) sa_nil) cg_abs) (sa_cons (snd_b (sa_cons (snd_var 1) sa_nil) cg_abs) sa_nil)))
      (ss_seq (ss_while (st_test (snd_2 (snd_var 1) (snd_int _) q_gt)) (ss_par (sa_cons (snd_var 1) (sa_cons (snd_2 (snd_var 0) (snd_var 1) q_mod) sa_nil))))
      (ss_ret (snd_var 0))))⟩
theorem ok__law_ratio (T : Txt K mg) : FnOk P w K mg base CX0 2 T.a__law_ratio T.d__law_ratio P__law_ratio (spD K [true] ev__law_ratio) :=
  ok_def (N := N__law_ratio) (k := 1) (b := b__law_ratio) T.F__law_ratio sc__law_ratio rfl fun cdv A outer s H E hr => ⟨_,
    (pss_cons (ps_set (i := 1) sc__law_ratio.nd rfl (.inl rfl) (pe_ix ix_seq (pe_lst (pa_cons pe_int (pa_cons pe_int (pa_cons pe_int (pa_cons pe_int pa_nil))))) (pe_call (ok__law_take T) (hr.mono (by decide)) (by rfl) T.g__law_take T.F__law_take.kp T.b__law_take .nil pass0 (pa_cons (pv 0) (pa_cons pe_int pa_nil))) (fun _ _ => rfl)))
      (pss_cons (ps_set (i := 2) sc__law_ratio.nd rfl (.inl rfl) (pe_op o_add pe_int (pe_call (ok__law_take T) (hr.mono (by decide)) (by rfl) T.g__law_take T.F__law_take.kp T.b__law_take .nil pass0 (pa_cons (pv 0) (pa_cons (pv 1) pa_nil)))))
      (pss_cons (ps_set (i := 3) sc__law_ratio.nd rfl (.inl rfl) (pe_op o_add pe_int (pe_call (ok__law_take T) (hr.mono (by decide)) (by rfl) T.g__law_take T.F__law_take.kp T.b__law_take .nil pass0 (pa_cons (pv 0) (pa_cons (pe_ix ix_seq (pe_lst (pa_cons pe_int (pa_cons pe_int (pa_cons (pv 1) pa_nil)))) (pe_call (ok__law_take T) (hr.mono (by decide)) (by rfl) T.g__law_take T.F__law_take.kp T.b__law_take .nil pass0 (pa_cons (pv 0) (pa_cons pe_int pa_nil))) (fun _ _ => rfl)) pa_nil)))))
      (pss_cons (ps_set (i := 4) sc__law_ratio.nd rfl (.inl rfl) (pe_call (ok__law_share T) (hr.mono (by decide)) (by rfl) T.g__law_share T.F__law_share.kp T.b__law_share .nil pass0 (pa_cons (pv 2) (pa_cons (pv 3) pa_nil))))
      (pss_one (ps_ret (pe_tup (pa_cons (pe_op o_div (pe_ix ix_seq (pe_lst (pa_cons (pv 2) (pa_cons (pe_op o_sub pe_int (pv 2)) pa_nil))) (pe_call (ok__law_take T) (hr.mono (by decide)) (by rfl) T.g__law_take T.F__law_take.kp T.b__law_take .nil pass0 (pa_cons (pv 0) (pa_cons pe_int pa_nil))) (fun _ _ => rfl)) (pv 4)) (pa_cons (pe_op o_div (pv 3) (pv 4)) pa_nil))))))))),
    (ss_seq (ss_asg (snd_2 (snd_lst (sa_cons (snd_int _) (sa_cons (snd_int _) (sa_cons (snd_int _) (sa_cons (snd_int _) sa_nil))))) (snd_call (sa_cons (snd_var 0) (sa_cons (snd_int _) sa_nil))) op2_ix) (sg_name 1))
      (ss_seq (ss_asg (snd_2 (snd_int _) (snd_call (sa_cons (snd_var 0) (sa_cons (snd_var 1) sa_nil))) q_add) (sg_name 2))
      (ss_seq (ss_asg (snd_2 (snd_int _) (snd_call (sa_cons (snd_var 0) (sa_cons (snd_2 (snd_lst (sa_cons (snd_int _) (sa_cons (snd_int _) (sa_cons (snd_var 1) sa_nil)))) (snd_call (sa_cons (snd_var 0) (sa_cons (snd_int _) sa_nil))) op2_ix) sa_nil))) q_add) (sg_name 3))
      (ss_seq (ss_asg (snd_call (sa_cons (snd_var 2) (sa_cons (snd_var 3) sa_nil))) (sg_name 4))
      (ss_ret (snd_tup (sa_cons (snd_2 (snd_2 (snd_lst (sa_cons (snd_var 2) (sa_cons (snd_2 (snd_int _) (snd_var 2) q_sub) sa_nil))) (snd_call (sa_cons (snd_var 0) (sa_cons (snd_int _) sa_nil))) op2_ix) (snd_var 4) q_div) (sa_cons (snd_2 (snd_var 3) (snd_var 4) q_div) sa_nil))))))))⟩
theorem ok__law_sum (T : Txt K mg) : FnOk P w K mg base CX0 3 T.a__law_sum T.d__law_sum P__law_sum (spD K [true] ev__law_sum) :=
  ok_def (N := N__law_sum) (k := 2) (b := b__law_sum) T.F__law_sum sc__law_sum rfl fun cdv A outer s H E hr => ⟨_,
    (pss_cons (ps_set (i := 1) sc__law_sum.nd rfl (.inl rfl) (pe_call (ok__law_take T) (hr.mono (by decide)) (by rfl) T.g__law_take T.F__law_take.kp T.b__law_take .nil pass0 (pa_cons (pv 0) (pa_cons pe_int pa_nil))))
      (pss_cons (ps_set (i := 2) sc__law_sum.nd rfl (.inl rfl) (pe_ix ix_seq (pe_lst (pa_cons pe_int (pa_cons pe_int (pa_cons pe_int (pa_cons pe_int pa_nil))))) (pe_call (ok__law_take T) (hr.mono (by decide)) (by rfl) T.g__law_take T.F__law_take.kp T.b__law_take .nil pass0 (pa_cons (pv 0) (pa_cons pe_int pa_nil))) (fun _ _ => rfl)))
      (pss_cons (ps_set (i := 3) sc__law_sum.nd rfl (.inl rfl) (pe_tup (pa_cons (pe_op o_sub (pe_call (ok__law_take T) (hr.mono (by decide)) (by rfl) T.g__law_take T.F__law_take.kp T.b__law_take .nil pass0 (pa_cons (pv 0) (pa_cons pe_int pa_nil))) pe_int) (pa_cons (pe_op o_sub (pe_call (ok__law_take T) (hr.mono (by decide)) (by rfl) T.g__law_take T.F__law_take.kp T.b__law_take .nil pass0 (pa_cons (pv 0) (pa_cons pe_int pa_nil))) pe_int) pa_nil))))
      (pss_cons (ps_set (i := 4) sc__law_sum.nd rfl (.inr rfl) pe_dnewT)
      (pss_cons (ps_for PassesOwn.never rfl (pi_range1 rfl T.m_range (pa_cons (pe_op o_add pe_int (pe_call (ok__law_take T) (hr.mono (by decide)) (by rfl) T.g__law_take T.F__law_take.kp T.b__law_take .nil pass0 (pa_cons (pv 0) (pa_cons pe_int pa_nil)))) pa_nil)) (pg_name (i := 5) sc__law_sum.nd rfl (.inl rfl)) (pss_cons (ps_set (i := 6) sc__law_sum.nd rfl (.inl rfl) (pe_tup (pa_cons (pe_op o_sub (pe_call (ok__law_take T) (hr.mono (by decide)) (by rfl) T.g__law_take T.F__law_take.kp T.b__law_take .nil pass0 (pa_cons (pv 0) (pa_cons (pe_op o_add (pe_op o_mul pe_int (pv 2)) pe_int) pa_nil))) (pv 2)) (pa_cons (pe_op o_sub (pe_call (ok__law_take T) (hr.mono (by decide)) (by rfl) T.g__law_take T.F__law_take.kp T.b__law_take .nil pass0 (pa_cons (pv 0) (pa_cons (pe_op o_add (pe_op o_mul pe_int (pv 2)) pe_int) pa_nil))) (pv 2)) pa_nil))))
      (pss_cons (ps_if (pt_cmpR (op_eqD hr.units) (pv 1) pe_int (nomark _)) (pss_cons (ps_set (i := 7) sc__law_sum.nd rfl (.inl rfl) (pe_op o_sub (pe_call (ok__law_take T) (hr.mono (by decide)) (by rfl) T.g__law_take T.F__law_take.kp T.b__law_take .nil pass0 (pa_cons (pv 0) (pa_cons pe_int pa_nil))) pe_int))
      (pss_one (ps_set (i := 6) sc__law_sum.nd rfl (.inl rfl) (pe_tup (pa_cons (pe_op o_mul (pv 7) (pe_ix ix_seq (pv 3) pe_int (fun _ _ => rfl))) (pa_cons (pe_op o_mul (pv 7) (pe_ix ix_seq (pv 3) pe_int (fun _ _ => rfl))) pa_nil)))))) pss_nil)
      (pss_one (ps_asg (pe_call (ok__law_ratio T) (hr.mono (by decide)) (by rfl) T.g__law_ratio T.F__law_ratio.kp T.b__law_ratio .nil pass0 (pa_cons (pv 0) pa_nil)) (pg_sub (pv 4) (pv 6) (set_dict (hu1 hr.units))))))))
      (pss_one (ps_ret (pe_lc (own := [("_law_a", 8), ("_law_b", 9)]) rfl sc__law_sum.nd (pi_list (pe_callB (Big.cr_sortedDT rfl) (by rfl) T.m_sorted bt_sorted (pa_cons (pv 4) pa_nil))) (blkOk_by (own := [("_law_a", 8), ("_law_b", 9)]) (N := N__law_sum) (sc := defScope st__law_sum) (by decide +kernel)) (fun _ _ _ _ _ => (pg_tup rfl (pgs_cons (pg_name (i := 8) sc__law_sum.nd rfl (.inl rfl)) (pgs_cons (pg_name (i := 9) sc__law_sum.nd rfl (.inl rfl)) pgs_nil)))) (fun _ _ _ _ _ => pts_nil) (fun _ _ _ _ _ => (pe_tup (pa_cons (pv 8) (pa_cons (pv 9) (pa_cons (pe_dget (hu1 hr.units) (pv 4) (pe_tup (pa_cons (pv 8) (pa_cons (pv 9) pa_nil))) (fun _ _ => rfl)) pa_nil))))))))))))),
    (ss_seq (ss_asg (snd_call (sa_cons (snd_var 0) (sa_cons (snd_int _) sa_nil))) (sg_name 1))
      (ss_seq (ss_asg (snd_2 (snd_lst (sa_cons (snd_int _) (sa_cons (snd_int _) (sa_cons (snd_int _) (sa_cons (snd_int _) sa_nil))))) (snd_call (sa_cons (snd_var 0) (sa_cons (snd_int _) sa_nil))) op2_ix) (sg_name 2))
      (ss_seq (ss_asg (snd_tup (sa_cons (snd_2 (snd_call (sa_cons (snd_var 0) (sa_cons (snd_int _) sa_nil))) (snd_int _) q_sub) (sa_cons (snd_2 (snd_call (sa_cons (snd_var 0) (sa_cons (snd_int _) sa_nil))) (snd_int _) q_sub) sa_nil))) (sg_name 3))
      (ss_seq ss_dnew
      (ss_seq (ss_for (si_range1 (sa_cons (snd_2 (snd_int _) (snd_call (sa_cons (snd_var 0) (sa_cons (snd_int _) sa_nil))) q_add) sa_nil)) (sg_name 5) (ss_seq (ss_asg (snd_tupN (sa_cons (snd_2 (snd_call (sa_cons (snd_var 0) (sa_cons (snd_2 (snd_2 (snd_int _) (snd_var 2) q_mul) (snd_int _) q_add) sa_nil))) (snd_var 2) q_sub) (sa_cons (snd_2 (snd_call (sa_cons (snd_var 0) (sa_cons (snd_2 (snd_2 (snd_int _) (snd_var 2) q_mul) (snd_int _) q_add) sa_nil))) (snd_var 2) q_sub) sa_nil))) (sg_name 6))
      (ss_cut (ss_seq (ss_if (st_test (snd_2 (snd_var 1) (snd_int _) op2_eq)) (ss_seq (ss_asg (snd_2 (snd_call (sa_cons (snd_var 0) (sa_cons (snd_int _) sa_nil))) (snd_int _) q_sub) (sg_name 7))
      (ss_asg (snd_tupN (sa_cons (snd_2 (snd_var 7) (snd_2 (snd_var 3) (snd_int _) op2_ix) q_mul) (sa_cons (snd_2 (snd_var 7) (snd_2 (snd_var 3) (snd_int _) op2_ix) q_mul) sa_nil))) (sg_name 6))) ss_next)
      (ss_dput (snd_call (sa_cons (snd_var 0) sa_nil)) (snd_var 6))))))
      (ss_ret (snd_lc (vs := [8, 9]) (si_list snd_dsort) (sw_tup (sws_cons (sw_name 8 (by decide)) (sws_cons (sw_name 9 (by decide)) sws_nil))) st_yes (snd_tup (sa_cons (snd_var 8) (sa_cons (snd_var 9) (sa_cons (snd_dix (snd_tupN (sa_cons (snd_var 8) (sa_cons (snd_var 9) sa_nil)))) sa_nil)))))))))))⟩
theorem ok__law_number_text (T : Txt K mg) : FnOk P w K mg base CX0 1 T.a__law_number_text T.d__law_number_text P__law_number_text (spD K [false] ev__law_number_text) :=
  ok_def (N := N__law_number_text) (k := 0) (b := b__law_number_text) T.F__law_number_text sc__law_number_text rfl fun cdv A outer s H E hr => ⟨_,
    (pss_cons (ps_if (pt_cmpR (op_eqD hr.units) (pe_ix ix_seq (pv 0) pe_int (fun _ _ => rfl)) pe_int (nomark _)) (pss_one (ps_ret (pe_callTy call_str_int (by rfl) T.m_str bt_str (pa_cons (pe_ix ix_seq (pv 0) pe_int (fun _ _ => rfl)) pa_nil)))) pss_nil)
      (pss_one (ps_ret (pe_op op_add_str (pe_op op_add_str (pe_callTy call_str_int (by rfl) T.m_str bt_str (pa_cons (pe_ix ix_seq (pv 0) pe_int (fun _ _ => rfl)) pa_nil)) pe_str) (pe_callTy call_str_int (by rfl) T.m_str bt_str (pa_cons (pe_ix ix_seq (pv 0) pe_int (fun _ _ => rfl)) pa_nil)))))),
    (ss_seq (ss_if (st_test (snd_2 (snd_2 (snd_var 0) (snd_int _) op2_ix) (snd_int _) op2_eq)) (ss_ret (snd_b (sa_cons (snd_2 (snd_var 0) (snd_int _) op2_ix) sa_nil) cg_str)) ss_next)
      (ss_ret (snd_2 (snd_2 (snd_b (sa_cons (snd_2 (snd_var 0) (snd_int _) op2_ix) sa_nil) cg_str) (snd_str _) op2_addS) (snd_b (sa_cons (snd_2 (snd_var 0) (snd_int _) op2_ix) sa_nil) cg_str) op2_addS)))⟩
theorem ok__law_text (T : Txt K mg) : FnOk P w K mg base CX0 2 T.a__law_text T.d__law_text P__law_text (spD K [false] ev__law_text) :=
  ok_def (N := N__law_text) (k := 1) (b := b__law_text) T.F__law_text sc__law_text rfl fun cdv A outer s H E hr => ⟨_,
    (pss_cons (ps_if (pt_cmpR (op_eqD hr.units) (pv 0) (pe_lst pa_nil) (nomark _)) (pss_one (ps_ret pe_str)) pss_nil)
      (pss_one (ps_ret (pe_join pe_str (pe_lc (own := [("_law_a", 1), ("_law_b", 2), ("_law_number", 3)]) rfl sc__law_text.nd (pi_list (pv 0)) (blkOk_by (own := [("_law_a", 1), ("_law_b", 2), ("_law_number", 3)]) (N := N__law_text) (sc := defScope st__law_text) (by decide +kernel)) (fun _ _ _ _ _ => (pg_tup rfl (pgs_cons (pg_name (i := 1) sc__law_text.nd rfl (.inl rfl)) (pgs_cons (pg_name (i := 2) sc__law_text.nd rfl (.inl rfl)) (pgs_cons (pg_name (i := 3) sc__law_text.nd rfl (.inl rfl)) pgs_nil))))) (fun _ _ _ _ _ => pts_nil) (fun _ _ _ _ _ => (pe_op op_add_str (pe_op op_add_str (pe_op op_add_str (pe_op op_add_str (pe_call (ok__law_number_text T) (hr.mono (by decide)) (by rfl) T.g__law_number_text T.F__law_number_text.kp T.b__law_number_text .nil pass0 (pa_cons (pv 3) pa_nil)) pe_str) (pe_callTy call_str_int (by rfl) T.m_str bt_str (pa_cons (pv 1) pa_nil))) pe_str) (pe_callTy call_str_int (by rfl) T.m_str bt_str (pa_cons (pv 2) pa_nil))))))))),
    (ss_seq (ss_if (st_test (snd_2 (snd_var 0) (snd_lst sa_nil) op2_eq)) (ss_ret (snd_str _)) ss_next)
      (ss_ret (snd_s1 (snd_str _) (snd_lc (vs := [1, 2, 3]) (si_list (snd_var 0)) (sw_tup (sws_cons (sw_name 1 (by decide)) (sws_cons (sw_name 2 (by decide)) (sws_cons (sw_name 3 (by decide)) sws_nil)))) st_yes (snd_2 (snd_2 (snd_2 (snd_2 (snd_call (sa_cons (snd_var 3) sa_nil)) (snd_str _) op2_addS) (snd_b (sa_cons (snd_var 1) sa_nil) cg_str) op2_addS) (snd_str _) op2_addS) (snd_b (sa_cons (snd_var 2) sa_nil) cg_str) op2_addS)) op2_join)))⟩
theorem ok__law_whole_of (T : Txt K mg) : FnOk P w K mg base CX0 1 T.a__law_whole_of T.d__law_whole_of P__law_whole_of (spD K [false, false] ev__law_whole_of) :=
  ok_def (N := N__law_whole_of) (k := 0) (b := b__law_whole_of) T.F__law_whole_of sc__law_whole_of rfl fun cdv A outer s H E hr => ⟨_,
    (pss_cons (ps_set (i := 2) sc__law_whole_of.nd rfl (.inl rfl) (pv 0))
      (pss_cons (ps_if (pt_cmpR op_eq (pe_slice sl_str (pv 0) po_none (po_some pe_int)) pe_str (nomark _)) (pss_one (ps_set (i := 2) sc__law_whole_of.nd rfl (.inl rfl) (pe_slice sl_str (pv 0) (po_some pe_int) po_none))) pss_nil)
      (pss_cons (ps_if (PW.pt (pw_or (pt_cmpR op_eq (pv 2) pe_str (nomark _)) (pw_or (pt_cmpR op_gt (pe_callB call_len_str (by rfl) T.m_len bt_len (pa_cons (pv 2) pa_nil)) pe_int (nomark _)) (pw_or1 (pt_cmpR (op_neD hr.units) (pe_lc (own := [("_law_sign", 3)]) rfl sc__law_whole_of.nd (pi_str (pv 2)) (blkOk_by (own := [("_law_sign", 3)]) (N := N__law_whole_of) (sc := defScope st__law_whole_of) (by decide +kernel)) (fun _ _ _ _ _ => (pg_name (i := 3) sc__law_whole_of.nd rfl (.inl rfl))) (fun _ _ _ _ _ => (pts_one (pt_cmpR op_notIn_sign (pv 3) pe_str (by rfl)))) (fun _ _ _ _ _ => (pv 3))) (pe_lst pa_nil) (nomark _)))))) (pss_one (ps_ret pe_non)) pss_nil)
      (pss_cons (ps_if (PW.pt (pw_or (PW.pt (pw_and (pt_cmpR op_eq (pe_ix ix_seq (pv 2) pe_int (fun _ _ => rfl)) pe_str (nomark _)) (pw_and1 (pt_cmpR op_ne (pv 0) pe_str (nomark _))))) (pw_or1 (pt_cmpR op_gt (pe_callTy call_int_str (by rfl) T.m_int bt_int (pa_cons (pv 2) pa_nil)) (pv 1) (nomark _))))) (pss_one (ps_ret pe_non)) pss_nil)
      (pss_one (ps_ret (pe_callTy call_int_str (by rfl) T.m_int bt_int (pa_cons (pv 0) pa_nil)))))))),
    (ss_seq (ss_asg (snd_var 0) (sg_name 2))
      (ss_cut (ss_seq (ss_if (st_test (snd_2 (snd_sl (snd_var 0) so_none (so_some (snd_int _)) os_str) (snd_str _) op2_eqS)) (ss_asg (snd_sl (snd_var 0) (so_some (snd_int _)) so_none os_str) (sg_name 2)) ss_next)
      (ss_seq (ss_if (st_or (st_test (snd_2 (snd_var 2) (snd_str _) op2_eqS)) (st_or (st_test (snd_2 (snd_b (sa_cons (snd_var 2) sa_nil) cg_lenS) (snd_int _) q_gt)) (st_test (snd_2 (snd_lc (vs := [3]) (si_str (snd_var 2)) (sw_name 3 (by decide)) (st_test (snd_2 (snd_var 3) (snd_str _) op2_notInSig)) (snd_var 3)) (snd_lst sa_nil) op2_ne)))) (ss_ret snd_non) ss_next)
      (ss_seq (ss_if (st_or (st_and (st_test (snd_2 (snd_2 (snd_var 2) (snd_int _) op2_ix) (snd_str _) op2_eqS)) (st_test (snd_2 (snd_var 0) (snd_str _) op2_neS))) (st_test (snd_2 (snd_b (sa_cons (snd_var 2) sa_nil) cg_intS) (snd_var 1) q_gt))) (ss_ret snd_non) ss_next)
      (ss_ret (snd_b (sa_cons (snd_var 0) sa_nil) cg_intS)))))))⟩
theorem ok__law_number_of (T : Txt K mg) : FnOk P w K mg base CX0 2 T.a__law_number_of T.d__law_number_of P__law_number_of (spD K [false] ev__law_number_of) :=
  ok_def (N := N__law_number_of) (k := 1) (b := b__law_number_of) T.F__law_number_of sc__law_number_of rfl fun cdv A outer s H E hr => ⟨_,
    (pss_cons (ps_asg (pe_partition (pv 0) pe_str) (pg_tup rfl (pgs_cons (pg_name (i := 1) sc__law_number_of.nd rfl (.inl rfl)) (pgs_cons (pg_name (i := 2) sc__law_number_of.nd rfl (.inl rfl)) (pgs_cons (pg_name (i := 3) sc__law_number_of.nd rfl (.inl rfl)) pgs_nil)))))
      (pss_cons (ps_set (i := 4) sc__law_number_of.nd rfl (.inl rfl) (pe_tup (pa_cons (pe_call (ok__law_whole_of T) (hr.mono (by decide)) (by rfl) T.g__law_whole_of T.F__law_whole_of.kp T.b__law_whole_of .nil pass0 (pa_cons (pv 1) (pa_cons pe_int pa_nil))) (pa_cons pe_int pa_nil))))
      (pss_cons (ps_if (pt_cmpR op_eq (pv 2) pe_str (nomark _)) (pss_one (ps_set (i := 4) sc__law_number_of.nd rfl (.inl rfl) (pe_tup (pa_cons (pe_ix ix_seq (pv 4) pe_int (fun _ _ => rfl)) (pa_cons (pe_call (ok__law_whole_of T) (hr.mono (by decide)) (by rfl) T.g__law_whole_of T.F__law_whole_of.kp T.b__law_whole_of .nil pass0 (pa_cons (pv 3) (pa_cons pe_int pa_nil))) pa_nil))))) pss_nil)
      (pss_cons (ps_if (PW.pt (pw_or (pt_cmpR (op_inTD hr.u65) pe_non (pv 4) (by rfl)) (pw_or (pt_cmpR (op_eqD hr.units) (pe_ix ix_seq (pv 4) pe_int (fun _ _ => rfl)) pe_int (nomark _)) (pw_or (pt_cmpR op_lt (pe_ix ix_seq (pv 4) pe_int (fun _ _ => rfl)) pe_int (nomark _)) (pw_or1 (PW.pt (pw_and (pt_cmpR op_eq (pv 2) pe_str (nomark _)) (pw_and1 (pt_cmpR (op_eqD hr.units) (pe_ix ix_seq (pv 4) pe_int (fun _ _ => rfl)) pe_int (nomark _)))))))))) (pss_one (ps_ret pe_non)) pss_nil)
      (pss_cons (ps_if (pt_cmpR (op_neD hr.units) (pe_call (ok__law_share T) (hr.mono (by decide)) (by rfl) T.g__law_share T.F__law_share.kp T.b__law_share .nil pass0 (pa_cons (pe_ix ix_seq (pv 4) pe_int (fun _ _ => rfl)) (pa_cons (pe_ix ix_seq (pv 4) pe_int (fun _ _ => rfl)) pa_nil))) pe_int (nomark _)) (pss_one (ps_ret pe_non)) pss_nil)
      (pss_one (ps_ret (pv 4)))))))),
    (ss_seq (ss_asg (snd_s1 (snd_var 0) (snd_str _) op2_part) (sg_tup (sgs_cons (sg_name 1) (sgs_cons (sg_name 2) (sgs_cons (sg_name 3) sgs_nil)))))
      (ss_seq (ss_asg (snd_tup (sa_cons (snd_call (sa_cons (snd_var 1) (sa_cons (snd_int _) sa_nil))) (sa_cons (snd_int _) sa_nil))) (sg_name 4))
      (ss_cut (ss_seq (ss_if (st_test (snd_2 (snd_var 2) (snd_str _) op2_eqS)) (ss_asg (snd_tup (sa_cons (snd_2 (snd_var 4) (snd_int _) op2_ix) (sa_cons (snd_call (sa_cons (snd_var 3) (sa_cons (snd_int _) sa_nil))) sa_nil))) (sg_name 4)) ss_next)
      (ss_seq (ss_if (st_or (st_test (snd_2 snd_non (snd_var 4) op2_inTD)) (st_or (st_test (snd_2 (snd_2 (snd_var 4) (snd_int _) op2_ix) (snd_int _) op2_eq)) (st_or (st_test (snd_2 (snd_2 (snd_var 4) (snd_int _) op2_ix) (snd_int _) q_lt)) (st_and (st_test (snd_2 (snd_var 2) (snd_str _) op2_eqS)) (st_test (snd_2 (snd_2 (snd_var 4) (snd_int _) op2_ix) (snd_int _) op2_eq)))))) (ss_ret snd_non) ss_next)
      (ss_seq (ss_if (st_test (snd_2 (snd_call (sa_cons (snd_2 (snd_var 4) (snd_int _) op2_ix) (sa_cons (snd_2 (snd_var 4) (snd_int _) op2_ix) sa_nil))) (snd_int _) op2_ne)) (ss_ret snd_non) ss_next)
      (ss_ret (snd_var 4))))))))⟩
theorem ok__law_read (T : Txt K mg) : FnOk P w K mg base CX0 3 T.a__law_read T.d__law_read P__law_read (spD K [false] ev__law_read) :=
  ok_def (N := N__law_read) (k := 2) (b := b__law_read) T.F__law_read sc__law_read rfl fun cdv A outer s H E hr => ⟨_,
    (pss_cons (ps_if (pt_cmpR op_eq (pv 0) pe_str (nomark _)) (pss_one (ps_ret (pe_lst pa_nil))) pss_nil)
      (pss_cons (ps_set (i := 1) sc__law_read.nd rfl (.inl rfl) (pe_lst pa_nil))
      (pss_cons (ps_for PassesOwn.never rfl (pi_list (pe_split (pv 0) pe_str)) (pg_name (i := 2) sc__law_read.nd rfl (.inl rfl)) (pss_cons (ps_set (i := 3) sc__law_read.nd rfl (.inl rfl) (pe_split (pv 2) pe_str))
      (pss_cons (ps_if (pt_cmpR (op_neD hr.units) (pe_callB call_len_seq (by rfl) T.m_len bt_len (pa_cons (pv 3) pa_nil)) pe_int (nomark _)) (pss_one (ps_ret pe_non)) pss_nil)
      (pss_cons (ps_set (i := 4) sc__law_read.nd rfl (.inl rfl) (pe_call (ok__law_number_of T) (hr.mono (by decide)) (by rfl) T.g__law_number_of T.F__law_number_of.kp T.b__law_number_of .nil pass0 (pa_cons (pe_ix ix_seq (pv 3) pe_int (fun _ _ => rfl)) pa_nil)))
      (pss_cons (ps_set (i := 5) sc__law_read.nd rfl (.inl rfl) (pe_call (ok__law_whole_of T) (hr.mono (by decide)) (by rfl) T.g__law_whole_of T.F__law_whole_of.kp T.b__law_whole_of .nil pass0 (pa_cons (pe_ix ix_seq (pv 3) pe_int (fun _ _ => rfl)) (pa_cons pe_int pa_nil))))
      (pss_cons (ps_set (i := 6) sc__law_read.nd rfl (.inl rfl) (pe_call (ok__law_whole_of T) (hr.mono (by decide)) (by rfl) T.g__law_whole_of T.F__law_whole_of.kp T.b__law_whole_of .nil pass0 (pa_cons (pe_ix ix_seq (pv 3) pe_int (fun _ _ => rfl)) (pa_cons pe_int pa_nil))))
      (pss_cons (ps_if (PW.pt (pw_or (pt_cmpR o_is (pv 4) pe_non (nomark _)) (pw_or (pt_cmpR o_is (pv 5) pe_non (nomark _)) (pw_or1 (pt_cmpR o_is (pv 6) pe_non (nomark _)))))) (pss_one (ps_ret pe_non)) pss_nil)
      (pss_one (ps_expr (pe_bm PySem.F.plainAttrs_list PySem.F.slot_list_append PySem.F.type_list_append mt_append (pv 1) (pa_cons (pe_tup (pa_cons (pv 5) (pa_cons (pv 6) (pa_cons (pv 4) pa_nil)))) pa_nil)))))))))))
      (pss_cons (ps_setLc (i := 7) (own := [("_law_a", 5), ("_law_b", 6), ("_law_number", 4)]) rfl sc__law_read.nd rfl rfl (sw_true rfl rfl rfl (by decide +kernel)) (pi_list (pv 1)) (blkOk_by (own := [("_law_a", 5), ("_law_b", 6), ("_law_number", 4)]) (N := N__law_read) (sc := defScope st__law_read) (by decide +kernel)) (fun _ _ _ _ _ => (pg_tup rfl (pgs_cons (pg_name (i := 5) sc__law_read.nd rfl (.inl rfl)) (pgs_cons (pg_name (i := 6) sc__law_read.nd rfl (.inl rfl)) (pgs_cons (pg_name (i := 4) sc__law_read.nd rfl (.inl rfl)) pgs_nil))))) (fun _ _ _ _ _ => pts_nil) (fun _ _ _ _ _ => (pe_tup (pa_cons (pv 5) (pa_cons (pv 6) pa_nil)))))
      (pss_cons (ps_if (PW.pt (pw_or (pt_cmpR op_gt (pe_callB call_len_seq (by rfl) T.m_len bt_len (pa_cons (pv 1) pa_nil)) pe_int (nomark _)) (pw_or1 (pt_cmpR (op_neD hr.units) (pv 7) (pe_callB (Big.cr_sortedB rfl) (by rfl) T.m_sorted bt_sorted (pa_cons (pe_callTy (Big.cr_setB rfl hr.units) (by rfl) T.m_set bt_set (pa_cons (pv 7) pa_nil)) pa_nil)) (nomark _))))) (pss_one (ps_ret pe_non)) pss_nil)
      (pss_one (ps_ret (pv 1)))))))),
    (ss_seq (ss_if (st_test (snd_2 (snd_var 0) (snd_str _) op2_eqS)) (ss_ret (snd_lst sa_nil)) ss_next)
      (ss_seq (ss_own (snd_lst sa_nil))
      (ss_seq (ss_for (si_list (snd_s1 (snd_var 0) (snd_str _) op2_split)) (sg_name 2) (ss_seq (ss_asg (snd_s1 (snd_var 2) (snd_str _) op2_split) (sg_name 3))
      (ss_seq (ss_if (st_test (snd_2 (snd_b (sa_cons (snd_var 3) sa_nil) cg_len) (snd_int _) op2_ne)) (ss_ret snd_non) ss_next)
      (ss_seq (ss_asg (snd_call (sa_cons (snd_2 (snd_var 3) (snd_int _) op2_ix) sa_nil)) (sg_name 4))
      (ss_seq (ss_asg (snd_call (sa_cons (snd_2 (snd_var 3) (snd_int _) op2_ix) (sa_cons (snd_int _) sa_nil))) (sg_name 5))
      (ss_seq (ss_asg (snd_call (sa_cons (snd_2 (snd_var 3) (snd_int _) op2_ix) (sa_cons (snd_int _) sa_nil))) (sg_name 6))
      (ss_seq (ss_if (st_or (st_test (snd_2 (snd_var 4) snd_non q_is)) (st_or (st_test (snd_2 (snd_var 5) snd_non q_is)) (st_test (snd_2 (snd_var 6) snd_non q_is)))) (ss_ret snd_non) ss_next)
      (ss_drop (snd_append (snd_tup (sa_cons (snd_var 5) (sa_cons (snd_var 6) (sa_cons (snd_var 4) sa_nil)))))))))))))
      (ss_seq (ss_asg (snd_lend (i := 1) (snd_lc (vs := [5, 6, 4]) (si_list (snd_var 1)) (sw_tup (sws_cons (sw_name 5 (by decide)) (sws_cons (sw_name 6 (by decide)) (sws_cons (sw_name 4 (by decide)) sws_nil)))) st_yes (snd_tup (sa_cons (snd_var 5) (sa_cons (snd_var 6) sa_nil))))) (sg_name 7))
      (ss_seq (ss_if (st_or (st_test (snd_2 (snd_b (sa_cons (snd_var 1) sa_nil) cg_len) (snd_int _) q_gt)) (st_test (snd_2 (snd_var 7) (snd_sortSet (sa_cons (snd_var 7) sa_nil)) op2_ne))) (ss_ret snd_non) ss_next)
      (ss_ret (snd_var 1)))))))⟩
theorem ok__law_spoilt (T : Txt K mg) : FnOk P w K mg base CX0 2 T.a__law_spoilt T.d__law_spoilt P__law_spoilt (spD K [true, false] ev__law_spoilt) :=
  ok_def (N := N__law_spoilt) (k := 1) (b := b__law_spoilt) T.F__law_spoilt sc__law_spoilt rfl fun cdv A outer s H E hr => ⟨_,
    (pss_cons (ps_set (i := 2) sc__law_spoilt.nd rfl (.inl rfl) (pe_call (ok__law_take T) (hr.mono (by decide)) (by rfl) T.g__law_take T.F__law_take.kp T.b__law_take .nil pass0 (pa_cons (pv 0) (pa_cons pe_int pa_nil))))
      (pss_cons (ps_set (i := 3) sc__law_spoilt.nd rfl (.inl rfl) (pe_call (ok__law_take T) (hr.mono (by decide)) (by rfl) T.g__law_take T.F__law_take.kp T.b__law_take .nil pass0 (pa_cons (pv 0) (pa_cons (pe_op o_add (pe_callB call_len_str (by rfl) T.m_len bt_len (pa_cons (pv 1) pa_nil)) pe_int) pa_nil))))
      (pss_cons (ps_set (i := 4) sc__law_spoilt.nd rfl (.inl rfl) (pe_ix ix_seq pe_str (pe_call (ok__law_take T) (hr.mono (by decide)) (by rfl) T.g__law_take T.F__law_take.kp T.b__law_take .nil pass0 (pa_cons (pv 0) (pa_cons pe_int pa_nil))) (fun _ _ => rfl)))
      (pss_cons (ps_if (pt_cmpR (op_eqD hr.units) (pv 2) pe_int (nomark _)) (pss_one (ps_ret (pe_op op_add_str (pe_op op_add_str (pe_slice sl_str (pv 1) po_none (po_some (pv 3))) (pv 4)) (pe_slice sl_str (pv 1) (po_some (pe_op o_add (pv 3) pe_int)) po_none)))) pss_nil)
      (pss_cons (ps_if (pt_cmpR (op_eqD hr.units) (pv 2) pe_int (nomark _)) (pss_one (ps_ret (pe_op op_add_str (pe_op op_add_str (pe_slice sl_str (pv 1) po_none (po_some (pv 3))) (pv 4)) (pe_slice sl_str (pv 1) (po_some (pv 3)) po_none)))) pss_nil)
      (pss_cons (ps_if (pt_cmpR (op_eqD hr.units) (pv 2) pe_int (nomark _)) (pss_one (ps_ret (pe_op op_add_str (pe_slice sl_str (pv 1) po_none (po_some (pv 3))) (pe_slice sl_str (pv 1) (po_some (pe_op o_add (pv 3) pe_int)) po_none)))) pss_nil)
      (pss_cons (ps_if (pt_cmpR (op_eqD hr.units) (pv 2) pe_int (nomark _)) (pss_cons (ps_set (i := 5) sc__law_spoilt.nd rfl (.inl rfl) (pe_op op_add_str (pe_slice sl_str (pv 1) (po_some (pe_op o_add (pv 3) pe_int)) (po_some (pe_op o_add (pv 3) pe_int))) (pe_slice sl_str (pv 1) (po_some (pv 3)) (po_some (pe_op o_add (pv 3) pe_int)))))
      (pss_one (ps_ret (pe_op op_add_str (pe_op op_add_str (pe_slice sl_str (pv 1) po_none (po_some (pv 3))) (pv 5)) (pe_slice sl_str (pv 1) (po_some (pe_op o_add (pv 3) pe_int)) po_none))))) pss_nil)
      (pss_one (ps_ret (pe_op op_add_str (pe_op op_add_str (pe_slice sl_str (pv 1) po_none (po_some (pv 3))) (pe_slice sl_str (pv 1) (po_some (pv 3)) (po_some (pe_op o_add (pv 3) pe_int)))) (pe_slice sl_str (pv 1) (po_some (pv 3)) po_none))))))))))),
    (ss_seq (ss_asg (snd_call (sa_cons (snd_var 0) (sa_cons (snd_int _) sa_nil))) (sg_name 2))
      (ss_seq (ss_asg (snd_call (sa_cons (snd_var 0) (sa_cons (snd_2 (snd_b (sa_cons (snd_var 1) sa_nil) cg_lenS) (snd_int _) q_add) sa_nil))) (sg_name 3))
      (ss_seq (ss_asg (snd_2 (snd_str _) (snd_call (sa_cons (snd_var 0) (sa_cons (snd_int _) sa_nil))) op2_ix) (sg_name 4))
      (ss_seq (ss_if (st_test (snd_2 (snd_var 2) (snd_int _) op2_eq)) (ss_ret (snd_2 (snd_2 (snd_sl (snd_var 1) so_none (so_some (snd_var 3)) os_str) (snd_var 4) op2_addS) (snd_sl (snd_var 1) (so_some (snd_2 (snd_var 3) (snd_int _) q_add)) so_none os_str) op2_addS)) ss_next)
      (ss_seq (ss_if (st_test (snd_2 (snd_var 2) (snd_int _) op2_eq)) (ss_ret (snd_2 (snd_2 (snd_sl (snd_var 1) so_none (so_some (snd_var 3)) os_str) (snd_var 4) op2_addS) (snd_sl (snd_var 1) (so_some (snd_var 3)) so_none os_str) op2_addS)) ss_next)
      (ss_seq (ss_if (st_test (snd_2 (snd_var 2) (snd_int _) op2_eq)) (ss_ret (snd_2 (snd_sl (snd_var 1) so_none (so_some (snd_var 3)) os_str) (snd_sl (snd_var 1) (so_some (snd_2 (snd_var 3) (snd_int _) q_add)) so_none os_str) op2_addS)) ss_next)
      (ss_seq (ss_if (st_test (snd_2 (snd_var 2) (snd_int _) op2_eq)) (ss_seq (ss_asg (snd_2 (snd_sl (snd_var 1) (so_some (snd_2 (snd_var 3) (snd_int _) q_add)) (so_some (snd_2 (snd_var 3) (snd_int _) q_add)) os_str) (snd_sl (snd_var 1) (so_some (snd_var 3)) (so_some (snd_2 (snd_var 3) (snd_int _) q_add)) os_str) op2_addS) (sg_name 5))
      (ss_ret (snd_2 (snd_2 (snd_sl (snd_var 1) so_none (so_some (snd_var 3)) os_str) (snd_var 5) op2_addS) (snd_sl (snd_var 1) (so_some (snd_2 (snd_var 3) (snd_int _) q_add)) so_none os_str) op2_addS))) ss_next)
      (ss_ret (snd_2 (snd_2 (snd_sl (snd_var 1) so_none (so_some (snd_var 3)) os_str) (snd_sl (snd_var 1) (so_some (snd_var 3)) (so_some (snd_2 (snd_var 3) (snd_int _) q_add)) os_str) op2_addS) (snd_sl (snd_var 1) (so_some (snd_var 3)) so_none os_str) op2_addS)))))))))⟩
theorem at__law_alone_NoText (T : Txt K mg) {a : Addr} {oe : Obj} (hz : L2N.Zn (.ref T.c_NoText) none oe) (hf : ∃ vs, oe.data = .fields vs) : FnAt P w K mg base 1 T.a__law_alone T.d__law_alone P__law_alone (a, oe) (fun vs H Q _ => vs = [.ref a] ∧ ∀ H', Same H H' → Q (.bl (kc_law_alone 8)) H') :=
  fnAt_of (N := N__law_alone) (k := 0) T.F__law_alone sc__law_alone (fun vs H Q E h => by rw [h.1]; rfl) fun cdv A outer s H vs Q E hot hr h => ⟨_,
    (pss_cons (ps_set (i := 1) sc__law_alone.nd rfl (.inl rfl) (pe_lst (pa_cons (pe_callB (call_isAt (ec_NoText T) (List.mem_cons_self) hz.zc hf) (by rfl) T.m_isinstance bt_isinstance (pa_cons (pv 0) (pa_cons (pe_glob (v := .ref T.c_NoRatio) rfl T.gC_NoRatio rfl) pa_nil))) (pa_cons (pe_callB (call_isAt (ec_NoText T) (List.mem_cons_self) hz.zc hf) (by rfl) T.m_isinstance bt_isinstance (pa_cons (pv 0) (pa_cons (pe_glob (v := .ref T.c_Nought) rfl T.gC_Nought rfl) pa_nil))) (pa_cons (pe_callB (call_isAt (ec_NoText T) (List.mem_cons_self) hz.zc hf) (by rfl) T.m_isinstance bt_isinstance (pa_cons (pv 0) (pa_cons (pe_glob (v := .ref T.c_NoTable) rfl T.gC_NoTable rfl) pa_nil))) (pa_cons (pe_callB (call_isAt (ec_NoText T) (List.mem_cons_self) hz.zc hf) (by rfl) T.m_isinstance bt_isinstance (pa_cons (pv 0) (pa_cons (pe_glob (v := .ref T.c_NoStep) rfl T.gC_NoStep rfl) pa_nil))) pa_nil))))))
      (pss_cons (ps_set (i := 1) sc__law_alone.nd rfl (.inl rfl) (pe_op o_add (pv 1) (pe_lst (pa_cons (pe_callB (call_isAt (ec_NoText T) (List.mem_cons_self) hz.zc hf) (by rfl) T.m_isinstance bt_isinstance (pa_cons (pv 0) (pa_cons (pe_glob (v := .ref T.c_NoSide) rfl T.gC_NoSide rfl) pa_nil))) (pa_cons (pe_callB (call_isAt (ec_NoText T) (List.mem_cons_self) hz.zc hf) (by rfl) T.m_isinstance bt_isinstance (pa_cons (pv 0) (pa_cons (pe_glob (v := .ref T.c_NoPart) rfl T.gC_NoPart rfl) pa_nil))) (pa_cons (pe_callB (call_isAt (ec_NoText T) (List.mem_cons_self) hz.zc hf) (by rfl) T.m_isinstance bt_isinstance (pa_cons (pv 0) (pa_cons (pe_glob (v := .ref T.c_TooMuch) rfl T.gC_TooMuch rfl) pa_nil))) (pa_cons (pe_callB (call_isAt (ec_NoText T) (List.mem_cons_self) hz.zc hf) (by rfl) T.m_isinstance bt_isinstance (pa_cons (pv 0) (pa_cons (pe_glob (v := .ref T.c_CommonPart) rfl T.gC_CommonPart rfl) pa_nil))) pa_nil)))))))
      (pss_cons (ps_set (i := 1) sc__law_alone.nd rfl (.inl rfl) (pe_op o_add (pv 1) (pe_lst (pa_cons (pe_callB (call_isAt (ec_NoText T) (List.mem_cons_self) hz.zc hf) (by rfl) T.m_isinstance bt_isinstance (pa_cons (pv 0) (pa_cons (pe_glob (v := .ref T.c_NoText) rfl T.gC_NoText rfl) pa_nil))) (pa_cons (pe_callB (call_isAt (ec_NoText T) (List.mem_cons_self) hz.zc hf) (by rfl) T.m_isinstance bt_isinstance (pa_cons (pv 0) (pa_cons (pe_glob (v := .ref T.c_NoName) rfl T.gC_NoName rfl) pa_nil))) pa_nil)))))
      (pss_one (ps_ret (pe_and (pe_cmpR (op_eqD hr.units) (pe_bm PySem.F.plainAttrs_list PySem.F.slot_list_count PySem.F.type_list_count (mt_countD hr.u65) (pv 1) (pa_cons pe_bl pa_nil)) pe_int (nomark _)) (pe_and (pe_callB (call_isAt (ec_NoText T) (List.mem_cons_self) hz.zc hf) (by rfl) T.m_isinstance bt_isinstance (pa_cons (pv 0) (pa_cons (pe_glob (v := .ref T.c_MeetError) rfl T.gC_MeetError rfl) pa_nil))) (pe_one (pe_callB (call_isAt (ec_NoText T) (List.mem_cons_self) hz.zc hf) (by rfl) T.m_isinstance bt_isinstance (pa_cons (pv 0) (pa_cons (pe_bltn (v := .ty "ValueError") (by rfl) T.m_ValueError bt_ValueError rfl) pa_nil))))))))))),
    by
      obtain ⟨rfl, q⟩ := h
      obtain ⟨e, he⟩ := ek__law_alone_NoText a
      exact adr_body (n := 1) rfl
        (ss_seq (ss_asg (snd_lst (sa_cons (snd_isE (fun u r => by cases r; rfl) T.kt_NoText_NoRatio) (sa_cons (snd_isE (fun u r => by cases r; rfl) T.kt_NoText_Nought) (sa_cons (snd_isE (fun u r => by cases r; rfl) T.kt_NoText_NoTable) (sa_cons (snd_isE (fun u r => by cases r; rfl) T.kt_NoText_NoStep) sa_nil))))) (sg_name 1))
      (ss_seq (ss_asg (snd_2 (snd_var 1) (snd_lst (sa_cons (snd_isE (fun u r => by cases r; rfl) T.kt_NoText_NoSide) (sa_cons (snd_isE (fun u r => by cases r; rfl) T.kt_NoText_NoPart) (sa_cons (snd_isE (fun u r => by cases r; rfl) T.kt_NoText_TooMuch) (sa_cons (snd_isE (fun u r => by cases r; rfl) T.kt_NoText_CommonPart) sa_nil))))) q_add) (sg_name 1))
      (ss_seq (ss_asg (snd_2 (snd_var 1) (snd_lst (sa_cons (snd_isE (fun u r => by cases r; rfl) T.kt_NoText_NoText) (sa_cons (snd_isE (fun u r => by cases r; rfl) T.kt_NoText_NoName) sa_nil))) q_add) (sg_name 1))
      (ss_ret (snd_and (snd_2 (snd_m1 op2_count (fun x y H Q h => ⟨y, rfl, h⟩) (snd_bl _)) (snd_int _) op2_eq) (snd_and (snd_isE (fun u r => by cases r; rfl) T.kt_NoText_MeetError) (snd_isE (fun u r => by cases r; rfl) T.kt_NoText_ValueError)))))))
        he dq_bl q⟩
theorem ok__law_odd_word (T : Txt K mg) : FnOk P w K mg base CX0 2 T.a__law_odd_word T.d__law_odd_word P__law_odd_word (spD K [true] ev__law_odd_word) :=
  ok_def (N := N__law_odd_word) (k := 1) (b := b__law_odd_word) T.F__law_odd_word sc__law_odd_word rfl fun cdv A outer s H E hr => ⟨_,
    (pss_cons (ps_set (i := 1) sc__law_odd_word.nd rfl (.inl rfl) (pe_call (ok__law_take T) (hr.mono (by decide)) (by rfl) T.g__law_take T.F__law_take.kp T.b__law_take .nil pass0 (pa_cons (pv 0) (pa_cons pe_int pa_nil))))
      (pss_cons (ps_set (i := 2) sc__law_odd_word.nd rfl (.inl rfl) (pe_op o_sub (pe_call (ok__law_take T) (hr.mono (by decide)) (by rfl) T.g__law_take T.F__law_take.kp T.b__law_take .nil pass0 (pa_cons (pv 0) (pa_cons pe_int pa_nil))) pe_int))
      (pss_cons (ps_set (i := 3) sc__law_odd_word.nd rfl (.inl rfl) (pe_op o_sub (pe_call (ok__law_take T) (hr.mono (by decide)) (by rfl) T.g__law_take T.F__law_take.kp T.b__law_take .nil pass0 (pa_cons (pv 0) (pa_cons pe_int pa_nil))) pe_int))
      (pss_cons (ps_set (i := 4) sc__law_odd_word.nd rfl (.inl rfl) (pe_call (ok__law_take T) (hr.mono (by decide)) (by rfl) T.g__law_take T.F__law_take.kp T.b__law_take .nil pass0 (pa_cons (pv 0) (pa_cons (pe_op o_pow pe_int pe_int) pa_nil))))
      (pss_cons (ps_set (i := 5) sc__law_odd_word.nd rfl (.inl rfl) (pe_lst (pa_cons pe_str (pa_cons pe_str (pa_cons pe_str (pa_cons pe_str (pa_cons pe_str (pa_cons pe_str (pa_cons (pe_callTy call_str_int (by rfl) T.m_str bt_str (pa_cons (pv 4) pa_nil)) (pa_cons (pe_op op_add_str pe_str (pe_callTy call_str_int (by rfl) T.m_str bt_str (pa_cons (pv 4) pa_nil))) (pa_cons pe_str (pa_cons pe_str pa_nil))))))))))))
      (pss_cons (ps_set (i := 5) sc__law_odd_word.nd rfl (.inl rfl) (pe_op o_add (pv 5) (pe_lst (pa_cons pe_str (pa_cons pe_str (pa_cons pe_str (pa_cons pe_str pa_nil)))))))
      (pss_one (ps_ret (pe_op op_add_str (pe_op op_add_str (pe_op op_add_str (pe_op op_add_str (pe_ix ix_seq (pv 5) (pv 1) (fun _ _ => rfl)) pe_str) (pe_callTy call_str_int (by rfl) T.m_str bt_str (pa_cons (pv 2) pa_nil))) pe_str) (pe_callTy call_str_int (by rfl) T.m_str bt_str (pa_cons (pv 3) pa_nil))))))))))),
    (ss_seq (ss_asg (snd_call (sa_cons (snd_var 0) (sa_cons (snd_int _) sa_nil))) (sg_name 1))
      (ss_seq (ss_asg (snd_2 (snd_call (sa_cons (snd_var 0) (sa_cons (snd_int _) sa_nil))) (snd_int _) q_sub) (sg_name 2))
      (ss_seq (ss_asg (snd_2 (snd_call (sa_cons (snd_var 0) (sa_cons (snd_int _) sa_nil))) (snd_int _) q_sub) (sg_name 3))
      (ss_seq (ss_asg (snd_call (sa_cons (snd_var 0) (sa_cons (snd_2 (snd_int _) (snd_int _) q_pow) sa_nil))) (sg_name 4))
      (ss_seq (ss_asg (snd_lst (sa_cons (snd_str _) (sa_cons (snd_str _) (sa_cons (snd_str _) (sa_cons (snd_str _) (sa_cons (snd_str _) (sa_cons (snd_str _) (sa_cons (snd_b (sa_cons (snd_var 4) sa_nil) cg_str) (sa_cons (snd_2 (snd_str _) (snd_b (sa_cons (snd_var 4) sa_nil) cg_str) op2_addS) (sa_cons (snd_str _) (sa_cons (snd_str _) sa_nil))))))))))) (sg_name 5))
      (ss_seq (ss_asg (snd_2 (snd_var 5) (snd_lst (sa_cons (snd_str _) (sa_cons (snd_str _) (sa_cons (snd_str _) (sa_cons (snd_str _) sa_nil))))) q_add) (sg_name 5))
      (ss_ret (snd_2 (snd_2 (snd_2 (snd_2 (snd_2 (snd_var 5) (snd_var 1) op2_ix) (snd_str _) op2_addS) (snd_b (sa_cons (snd_var 2) sa_nil) cg_str) op2_addS) (snd_str _) op2_addS) (snd_b (sa_cons (snd_var 3) sa_nil) cg_str) op2_addS))))))))⟩
theorem ok__law_other (T : Txt K mg) : FnOk P w K mg base CX0 3 T.a__law_other T.d__law_other P__law_other (spD K [true, false] ev__law_other) :=
  ok_def (N := N__law_other) (k := 2) (b := b__law_other) T.F__law_other sc__law_other rfl fun cdv A outer s H E hr => ⟨_,
    (pss_cons (ps_set (i := 2) sc__law_other.nd rfl (.inl rfl) (pe_call (ok__law_take T) (hr.mono (by decide)) (by rfl) T.g__law_take T.F__law_take.kp T.b__law_take .nil pass0 (pa_cons (pv 0) (pa_cons pe_int pa_nil))))
      (pss_cons (ps_set (i := 3) sc__law_other.nd rfl (.inl rfl) (pe_call (ok__law_take T) (hr.mono (by decide)) (by rfl) T.g__law_take T.F__law_take.kp T.b__law_take .nil pass0 (pa_cons (pv 0) (pa_cons (pe_callB call_len_seq (by rfl) T.m_len bt_len (pa_cons (pv 1) pa_nil)) pa_nil))))
      (pss_cons (ps_set (i := 4) sc__law_other.nd rfl (.inl rfl) (pe_split (pe_call (ok__law_text T) (hr.mono (by decide)) (by rfl) T.g__law_text T.F__law_text.kp T.b__law_text .nil pass0 (pa_cons (pv 1) pa_nil)) pe_str))
      (pss_cons (ps_if (pt_cmpR (op_eqD hr.units) (pv 2) pe_int (nomark _)) (pss_one (ps_expr (pe_bm0 PySem.F.plainAttrs_list PySem.F.slot_list_reverse PySem.F.type_list_reverse mt_reverse (pv 4)))) (pss_one (ps_if (pt_cmpR (op_eqD hr.units) (pv 2) pe_int (nomark _)) (pss_one (ps_expr (pe_bm PySem.F.plainAttrs_list PySem.F.slot_list_insert PySem.F.type_list_insert mt_insertR (pv 4) (pa_cons (pv 3) (pa_cons (pe_ix ix_seq (pv 4) (pv 3) (fun _ _ => rfl)) pa_nil))))) (pss_one (ps_if (pt_cmpR (op_eqD hr.units) (pv 2) pe_int (nomark _)) (pss_one (ps_asg (pe_call (ok__law_odd_word T) (hr.mono (by decide)) (by rfl) T.g__law_odd_word T.F__law_odd_word.kp T.b__law_odd_word .nil pass0 (pa_cons (pv 0) pa_nil)) (pg_sub (pv 4) (pv 3) set_list))) (pss_one (ps_if (pt_cmpR (op_eqD hr.units) (pv 2) pe_int (nomark _)) (pss_one (ps_set (i := 4) sc__law_other.nd rfl (.inl rfl) (pe_lst (pa_cons (pe_call (ok__law_odd_word T) (hr.mono (by decide)) (by rfl) T.g__law_odd_word T.F__law_odd_word.kp T.b__law_odd_word .nil pass0 (pa_cons (pv 0) pa_nil)) pa_nil)))) (pss_one (ps_if (pt_cmpR (op_eqD hr.units) (pv 2) pe_int (nomark _)) (pss_cons (ps_set (i := 5) sc__law_other.nd rfl (.inl rfl) (pe_op o_add pe_int (pe_call (ok__law_take T) (hr.mono (by decide)) (by rfl) T.g__law_take T.F__law_take.kp T.b__law_take .nil pass0 (pa_cons (pv 0) (pa_cons pe_int pa_nil)))))
      (pss_one (ps_setLc (i := 4) (own := [("_law_k", 7)]) rfl sc__law_other.nd rfl rfl (sw_true rfl rfl rfl (by decide +kernel)) (pi_range1 rfl T.m_range (pa_cons (pv 5) pa_nil)) (blkOk_by (own := [("_law_k", 7)]) (N := N__law_other) (sc := defScope st__law_other) (by decide +kernel)) (fun _ _ _ _ _ => (pg_name (i := 7) sc__law_other.nd rfl (.inl rfl))) (fun _ _ _ _ _ => pts_nil) (fun _ _ _ _ _ => (pe_op op_add_str (pe_op op_add_str (pe_op op_add_str pe_str (pe_callTy call_str_int (by rfl) T.m_str bt_str (pa_cons (pe_op o_sub (pe_op o_div (pv 7) pe_int) pe_int) pa_nil))) pe_str) (pe_callTy call_str_int (by rfl) T.m_str bt_str (pa_cons (pe_op o_mod (pv 7) pe_int) pa_nil))))))) (pss_cons (ps_set (i := 6) sc__law_other.nd rfl (.inl rfl) (pe_call (ok__law_take T) (hr.mono (by decide)) (by rfl) T.g__law_take T.F__law_take.kp T.b__law_take .nil pass0 (pa_cons (pv 0) (pa_cons pe_int pa_nil))))
      (pss_one (ps_ret (pe_ix ix_seq (pe_lst (pa_cons pe_str (pa_cons pe_str (pa_cons pe_str (pa_cons pe_str (pa_cons pe_non (pa_cons pe_int (pa_cons (pe_lst pa_nil) (pa_cons (pe_lst (pa_cons (pe_tup (pa_cons pe_int (pa_cons pe_int (pa_cons (pe_tup (pa_cons pe_int (pa_cons pe_int pa_nil))) pa_nil)))) pa_nil)) (pa_cons pe_bl (pa_cons (pe_tup (pa_cons pe_str pa_nil)) pa_nil))))))))))) (pv 6) (fun _ _ => rfl))))))))))))))
      (pss_one (ps_ret (pe_join pe_str (pv 4)))))))),
    (ss_seq (ss_asg (snd_call (sa_cons (snd_var 0) (sa_cons (snd_int _) sa_nil))) (sg_name 2))
      (ss_seq (ss_asg (snd_call (sa_cons (snd_var 0) (sa_cons (snd_b (sa_cons (snd_var 1) sa_nil) cg_len) sa_nil))) (sg_name 3))
      (ss_seq (ss_own (snd_s1 (snd_call (sa_cons (snd_var 1) sa_nil)) (snd_str _) op2_split))
      (ss_cut (ss_seq (ss_if (st_test (snd_2 (snd_var 2) (snd_int _) op2_eq)) (ss_drop snd_reverse) (ss_if (st_test (snd_2 (snd_var 2) (snd_int _) op2_eq)) (ss_drop (snd_ins (i := 4) (j := 3) (snd_2 (snd_var 4) (snd_var 3) op2_ix))) (ss_if (st_test (snd_2 (snd_var 2) (snd_int _) op2_eq)) (ss_setI (snd_call (sa_cons (snd_var 0) sa_nil)) (snd_var 3)) (ss_if (st_test (snd_2 (snd_var 2) (snd_int _) op2_eq)) (ss_own (snd_lst (sa_cons (snd_call (sa_cons (snd_var 0) sa_nil)) sa_nil))) (ss_if (st_test (snd_2 (snd_var 2) (snd_int _) op2_eq)) (ss_seq (ss_asg (snd_2 (snd_int _) (snd_call (sa_cons (snd_var 0) (sa_cons (snd_int _) sa_nil))) q_add) (sg_name 5))
      (ss_own (snd_lc (vs := [7]) (si_range1 (sa_cons (snd_var 5) sa_nil)) (sw_name 7 (by decide)) st_yes (snd_2 (snd_2 (snd_2 (snd_str _) (snd_b (sa_cons (snd_2 (snd_2 (snd_var 7) (snd_int _) q_div) (snd_int _) q_sub) sa_nil) cg_str) op2_addS) (snd_str _) op2_addS) (snd_b (sa_cons (snd_2 (snd_var 7) (snd_int _) q_mod) sa_nil) cg_str) op2_addS)))) (ss_seq (ss_asg (snd_call (sa_cons (snd_var 0) (sa_cons (snd_int _) sa_nil))) (sg_name 6))
      (ss_ret (snd_2 (snd_lst (sa_cons (snd_str _) (sa_cons (snd_str _) (sa_cons (snd_str _) (sa_cons (snd_str _) (sa_cons snd_non (sa_cons (snd_int _) (sa_cons (snd_lst sa_nil) (sa_cons (snd_lst (sa_cons (snd_tup (sa_cons (snd_int _) (sa_cons (snd_int _) (sa_cons (snd_tup (sa_cons (snd_int _) (sa_cons (snd_int _) sa_nil))) sa_nil)))) sa_nil)) (sa_cons (snd_bl _) (sa_cons (snd_tup (sa_cons (snd_str _) sa_nil)) sa_nil))))))))))) (snd_var 6) op2_ix))))))))
      (ss_ret (snd_s1 (snd_str _) (snd_var 4) op2_join)))))))⟩
theorem ok__law_told (T : Txt K mg) : FnOk P w K mg base CX0 6 T.a__law_told T.d__law_told P__law_told (spD K [false] ev__law_told) :=
  ok_def (N := N__law_told) (k := 5) (b := b__law_told) T.F__law_told sc__law_told rfl fun cdv A outer s H E hr => ⟨_,
    (pss_cons (ps_try_most (l := [(.ref T.c_NoText, 2, tsOf (clOf T) [8] (fun a n => (tOp (rIx K) (tLst (tCons (tC (.str "other")) (tCons (tC .non) tNil))) (tCB rInt1 (tCons (tKd 2 a (.bl (kc_law_alone n))) tNil)))))]) rfl rfl sc__law_told.nd (fun W pn xe tk po => (pss_one (ps_set (i := 1) sc__law_told.nd rfl (.inl rfl) (pe_callS (okx_read T) (hr.mono (by decide)) (by rfl) T.g_read T.F_read.kp T.b_read (fun σ => L2N.passAt tk σ) (pa_cons (pv 0) pa_nil))))) (HdsAs.cons (i := 2) rfl rfl ⟨by rfl, by decide, .inl T.gC_NoText⟩ (fun a oe cls d pn hz hf => pss_tsOf (List.forall_mem_cons.mpr ⟨(fun e1 e2 => by subst e1 e2; exact pss_one (ps_ret (pe_ix ix_seq (pe_lst (pa_cons pe_str (pa_cons pe_non pa_nil))) (pe_callTy call_int1 (by rfl) T.m_int bt_int (pa_cons (pe_callAt (i := 2) (at__law_alone_NoText T hz hf) (hr.mono (by decide)) (ctxN hz hf) (by rfl) T.g__law_alone T.F__law_alone.kp T.b__law_alone (pv 2)) pa_nil)) (fun _ _ => rfl)))), (fun _ h => nomatch h)⟩)) HdsAs.rest))
      (pss_one (ps_ret (pv 1)))),
    (ss_seq (ss_try_most (cl := clOf T) (i := 2) (tx := fun a n => (tOp (rIx K) (tLst (tCons (tC (.str "other")) (tCons (tC .non) tNil))) (tCB rInt1 (tCons (tKd 2 a (.bl (kc_law_alone n))) tNil)))) (fun WX => (ss_asgX (sndX_call (sa_cons (snd_var 0) sa_nil)) (sg_name 1))) (List.forall_mem_cons.mpr ⟨(Or.inl ⟨T.xm_NoText_NoText, rfl, fun a D σ H z => ⟨8, by decide, rfl, rfl, z⟩⟩), (fun _ h => nomatch h)⟩) (List.forall_mem_cons.mpr ⟨(fun a σ hσ => (sndAt_2 (Snd.at (snd_lst (sa_cons (snd_str _) (sa_cons snd_non sa_nil)))) (sndAt_b1 (sndAt_kd (fun _ => .bl _) hσ) cg_int) op2_ix)), (fun _ h => nomatch h)⟩))
      (ss_ret (snd_var 1)))⟩
theorem ok_law (T : Txt K mg) : FnOk P w K mg base CX0 7 T.a_law T.d_law P_law (spD K [false] ev_law) :=
  ok_def (N := N_law) (k := 6) (b := b_law) T.F_law sc_law rfl fun cdv A outer s H E hr => ⟨_,
    (pss_cons (ps_for PassesOwn.never rfl (pi_range1 rfl T.m_range (pa_cons (pe_callB (call_max2 rfl) (by rfl) T.m_max bt_max (pa_cons pe_int (pa_cons (pe_callB (call_min2 rfl) (by rfl) T.m_min bt_min (pa_cons (pe_callB call_len_seq (by rfl) T.m_len bt_len (pa_cons (pv 0) pa_nil)) (pa_cons pe_int pa_nil))) pa_nil))) pa_nil)) (pg_name (i := 1) sc_law.nd rfl (.inl rfl)) (pss_cons (ps_set (i := 2) sc_law.nd rfl (.inl rfl) (pe_call (ok__law_purse T) (hr.mono (by decide)) (by rfl) T.g__law_purse T.F__law_purse.kp T.b__law_purse .nil pass0 (pa_cons (pv 0) (pa_cons (pv 1) pa_nil))))
      (pss_cons (ps_set (i := 3) sc_law.nd rfl (.inl rfl) (pe_call (ok__law_sum T) (hr.mono (by decide)) (by rfl) T.g__law_sum T.F__law_sum.kp T.b__law_sum .nil pass0 (pa_cons (pv 2) pa_nil)))
      (pss_cons (ps_set (i := 4) sc_law.nd rfl (.inl rfl) (pe_call (ok__law_text T) (hr.mono (by decide)) (by rfl) T.g__law_text T.F__law_text.kp T.b__law_text .nil pass0 (pa_cons (pv 3) pa_nil)))
      (pss_cons (ps_if (pt_cmpR (op_eqD hr.units) (pe_call (ok__law_take T) (hr.mono (by decide)) (by rfl) T.g__law_take T.F__law_take.kp T.b__law_take .nil pass0 (pa_cons (pv 2) (pa_cons pe_int pa_nil))) pe_int (nomark _)) (pss_one (ps_set (i := 4) sc_law.nd rfl (.inl rfl) (pe_call (ok__law_other T) (hr.mono (by decide)) (by rfl) T.g__law_other T.F__law_other.kp T.b__law_other .nil pass0 (pa_cons (pv 2) (pa_cons (pv 3) pa_nil))))) (pss_one (ps_for PassesOwn.never rfl (pi_range1 rfl T.m_range (pa_cons (pe_op o_add pe_int (pe_call (ok__law_take T) (hr.mono (by decide)) (by rfl) T.g__law_take T.F__law_take.kp T.b__law_take .nil pass0 (pa_cons (pv 2) (pa_cons pe_int pa_nil)))) pa_nil)) (pg_name (i := 5) sc_law.nd rfl (.inl rfl)) (pss_one (ps_set (i := 4) sc_law.nd rfl (.inl rfl) (pe_call (ok__law_spoilt T) (hr.mono (by decide)) (by rfl) T.g__law_spoilt T.F__law_spoilt.kp T.b__law_spoilt .nil pass0 (pa_cons (pv 2) (pa_cons (pv 4) pa_nil))))))))
      (pss_cons (ps_set (i := 6) sc_law.nd rfl (.inl rfl) pe_non)
      (pss_cons (ps_if (pt_val (pe_callB call_isi (by rfl) T.m_isinstance bt_isinstance (pa_cons (pv 4) (pa_cons (pe_bltn (v := .ty "str") (by rfl) T.m_str bt_str rfl) pa_nil)))) (pss_one (ps_set (i := 6) sc_law.nd rfl (.inl rfl) (pe_call (ok__law_read T) (hr.mono (by decide)) (by rfl) T.g__law_read T.F__law_read.kp T.b__law_read .nil pass0 (pa_cons (pv 4) pa_nil)))) pss_nil)
      (pss_one (ps_if (pt_cmpR (op_neD hr.units) (pe_call (ok__law_told T) (hr.mono (by decide)) (by rfl) T.g__law_told T.F__law_told.kp T.b__law_told .nil pass0 (pa_cons (pv 4) pa_nil)) (pv 6) (nomark _)) (pss_one (ps_ret pe_bl)) pss_nil)))))))))
      (pss_one (ps_ret pe_bl))),
    (ss_seq (ss_for (si_range1 (sa_cons (snd_b (sa_cons (snd_int _) (sa_cons (snd_b (sa_cons (snd_b (sa_cons (snd_var 0) sa_nil) cg_len) (sa_cons (snd_int _) sa_nil)) cg_min2) sa_nil)) cg_max2) sa_nil)) (sg_name 1) (ss_seq (ss_own (snd_call (sa_cons (snd_var 0) (sa_cons (snd_var 1) sa_nil))))
      (ss_seq (ss_asg (snd_call (sa_cons (snd_var 2) sa_nil)) (sg_name 3))
      (ss_seq (ss_asg (snd_call (sa_cons (snd_var 3) sa_nil)) (sg_name 4))
      (ss_cut (ss_seq (ss_if (st_test (snd_2 (snd_call (sa_cons (snd_var 2) (sa_cons (snd_int _) sa_nil))) (snd_int _) op2_eq)) (ss_asg (snd_call (sa_cons (snd_var 2) (sa_cons (snd_var 3) sa_nil))) (sg_name 4)) (ss_for (si_range1 (sa_cons (snd_2 (snd_int _) (snd_call (sa_cons (snd_var 2) (sa_cons (snd_int _) sa_nil))) q_add) sa_nil)) (sg_name 5) (ss_asg (snd_call (sa_cons (snd_var 2) (sa_cons (snd_var 4) sa_nil))) (sg_name 4))))
      (ss_seq (ss_asg snd_non (sg_name 6))
      (ss_cut (ss_seq (ss_if (st_B (snd_isi (snd_var 4))) (ss_asg (snd_call (sa_cons (snd_var 4) sa_nil)) (sg_name 6)) ss_next)
      (ss_if (st_test (snd_2 (snd_call (sa_cons (snd_var 4) sa_nil)) (snd_var 6) op2_ne)) (ss_ret (snd_bl _)) ss_next))))))))))
      (ss_ret (snd_bl _)))⟩
end
def mk {K : PySem.W.Frag} {h : Heap} {mg : Str → Option Value} (X : K.In h) (G : h.Ns mainGlobals mg)
    {q_NOUGHT : Addr} {od_NOUGHT : Option Addr} {n_NOUGHT : Nat} {sl_NOUGHT : Array (Option Value)} {t_NOUGHT u_NOUGHT : Tok}
    {t_FIGURES : Tok}
    {t_NONE : Tok}
    {t_MOST_TERMS : Tok}
    {t_MOST_POWER : Tok}
    {t_MOST_FIGURES : Tok}
    {cc_MeetError : Addr}
    {cc_NoRatio : Addr}
    {cc_Nought : Addr}
    {cc_NoTable : Addr}
    {cc_NoStep : Addr}
    {cc_NoSide : Addr}
    {cc_NoPart : Addr}
    {cc_TooMuch : Addr}
    {cc_CommonPart : Addr}
    {cc_NoText : Addr}
    {cc_NoName : Addr}
    {f_is_whole : Addr} {od_is_whole an_is_whole : Option Addr} {sl_is_whole : Array (Option Value)} {oc_is_whole kV_is_whole dc_is_whole pm_is_whole cd_is_whole ct_is_whole : Value}
    {f_divisor : Addr} {od_divisor an_divisor : Option Addr} {sl_divisor : Array (Option Value)} {oc_divisor kV_divisor dc_divisor pm_divisor cd_divisor ct_divisor : Value}
    {f_is_ratio : Addr} {od_is_ratio an_is_ratio : Option Addr} {sl_is_ratio : Array (Option Value)} {oc_is_ratio kV_is_ratio dc_is_ratio pm_is_ratio cd_is_ratio ct_is_ratio : Value}
    {f_is_term : Addr} {od_is_term an_is_term : Option Addr} {sl_is_term : Array (Option Value)} {oc_is_term kV_is_term dc_is_term pm_is_term cd_is_term ct_is_term : Value}
    {f_is_sum : Addr} {od_is_sum an_is_sum : Option Addr} {sl_is_sum : Array (Option Value)} {oc_is_sum kV_is_sum dc_is_sum pm_is_sum cd_is_sum ct_is_sum : Value}
    {f_read_figures : Addr} {od_read_figures an_read_figures : Option Addr} {sl_read_figures : Array (Option Value)} {oc_read_figures kV_read_figures dc_read_figures pm_read_figures cd_read_figures ct_read_figures : Value}
    {f_read_whole : Addr} {od_read_whole an_read_whole : Option Addr} {sl_read_whole : Array (Option Value)} {oc_read_whole kV_read_whole dc_read_whole pm_read_whole cd_read_whole ct_read_whole : Value}
    {f_read_power : Addr} {od_read_power an_read_power : Option Addr} {sl_read_power : Array (Option Value)} {oc_read_power kV_read_power dc_read_power pm_read_power cd_read_power ct_read_power : Value}
    {f_read_ratio : Addr} {od_read_ratio an_read_ratio : Option Addr} {sl_read_ratio : Array (Option Value)} {oc_read_ratio kV_read_ratio dc_read_ratio pm_read_ratio cd_read_ratio ct_read_ratio : Value}
    {f_read_term : Addr} {od_read_term an_read_term : Option Addr} {sl_read_term : Array (Option Value)} {oc_read_term kV_read_term dc_read_term pm_read_term cd_read_term ct_read_term : Value}
    {f_read : Addr} {od_read an_read : Option Addr} {sl_read : Array (Option Value)} {oc_read kV_read dc_read pm_read cd_read ct_read : Value}
    {f__law_purse : Addr} {od__law_purse an__law_purse : Option Addr} {sl__law_purse : Array (Option Value)} {oc__law_purse kV__law_purse dc__law_purse pm__law_purse cd__law_purse ct__law_purse : Value}
    {f__law_take : Addr} {od__law_take an__law_take : Option Addr} {sl__law_take : Array (Option Value)} {oc__law_take kV__law_take dc__law_take pm__law_take cd__law_take ct__law_take : Value}
    {f__law_share : Addr} {od__law_share an__law_share : Option Addr} {sl__law_share : Array (Option Value)} {oc__law_share kV__law_share dc__law_share pm__law_share cd__law_share ct__law_share : Value}
    {f__law_ratio : Addr} {od__law_ratio an__law_ratio : Option Addr} {sl__law_ratio : Array (Option Value)} {oc__law_ratio kV__law_ratio dc__law_ratio pm__law_ratio cd__law_ratio ct__law_ratio : Value}
    {f__law_sum : Addr} {od__law_sum an__law_sum : Option Addr} {sl__law_sum : Array (Option Value)} {oc__law_sum kV__law_sum dc__law_sum pm__law_sum cd__law_sum ct__law_sum : Value}
    {f__law_number_text : Addr} {od__law_number_text an__law_number_text : Option Addr} {sl__law_number_text : Array (Option Value)} {oc__law_number_text kV__law_number_text dc__law_number_text pm__law_number_text cd__law_number_text ct__law_number_text : Value}
    {f__law_text : Addr} {od__law_text an__law_text : Option Addr} {sl__law_text : Array (Option Value)} {oc__law_text kV__law_text dc__law_text pm__law_text cd__law_text ct__law_text : Value}
    {f__law_whole_of : Addr} {od__law_whole_of an__law_whole_of : Option Addr} {sl__law_whole_of : Array (Option Value)} {oc__law_whole_of kV__law_whole_of dc__law_whole_of pm__law_whole_of cd__law_whole_of ct__law_whole_of : Value}
    {f__law_number_of : Addr} {od__law_number_of an__law_number_of : Option Addr} {sl__law_number_of : Array (Option Value)} {oc__law_number_of kV__law_number_of dc__law_number_of pm__law_number_of cd__law_number_of ct__law_number_of : Value}
    {f__law_read : Addr} {od__law_read an__law_read : Option Addr} {sl__law_read : Array (Option Value)} {oc__law_read kV__law_read dc__law_read pm__law_read cd__law_read ct__law_read : Value}
    {f__law_spoilt : Addr} {od__law_spoilt an__law_spoilt : Option Addr} {sl__law_spoilt : Array (Option Value)} {oc__law_spoilt kV__law_spoilt dc__law_spoilt pm__law_spoilt cd__law_spoilt ct__law_spoilt : Value}
    {f__law_alone : Addr} {od__law_alone an__law_alone : Option Addr} {sl__law_alone : Array (Option Value)} {oc__law_alone kV__law_alone dc__law_alone pm__law_alone cd__law_alone ct__law_alone : Value}
    {f__law_odd_word : Addr} {od__law_odd_word an__law_odd_word : Option Addr} {sl__law_odd_word : Array (Option Value)} {oc__law_odd_word kV__law_odd_word dc__law_odd_word pm__law_odd_word cd__law_odd_word ct__law_odd_word : Value}
    {f__law_other : Addr} {od__law_other an__law_other : Option Addr} {sl__law_other : Array (Option Value)} {oc__law_other kV__law_other dc__law_other pm__law_other cd__law_other ct__law_other : Value}
    {f__law_told : Addr} {od__law_told an__law_told : Option Addr} {sl__law_told : Array (Option Value)} {oc__law_told kV__law_told dc__law_told pm__law_told cd__law_told ct__law_told : Value}
    {f_law : Addr} {od_law an_law : Option Addr} {sl_law : Array (Option Value)} {oc_law kV_law dc_law pm_law cd_law ct_law : Value}
    (z_ValueError : PySem.W.nsIn K mainGlobals "ValueError" = some none)
    (z_abs : PySem.W.nsIn K mainGlobals "abs" = some none)
    (z_all : PySem.W.nsIn K mainGlobals "all" = some none)
    (z_bool : PySem.W.nsIn K mainGlobals "bool" = some none)
    (z_int : PySem.W.nsIn K mainGlobals "int" = some none)
    (z_isinstance : PySem.W.nsIn K mainGlobals "isinstance" = some none)
    (z_len : PySem.W.nsIn K mainGlobals "len" = some none)
    (z_list : PySem.W.nsIn K mainGlobals "list" = some none)
    (z_max : PySem.W.nsIn K mainGlobals "max" = some none)
    (z_min : PySem.W.nsIn K mainGlobals "min" = some none)
    (z_range : PySem.W.nsIn K mainGlobals "range" = some none)
    (z_set : PySem.W.nsIn K mainGlobals "set" = some none)
    (z_sorted : PySem.W.nsIn K mainGlobals "sorted" = some none)
    (z_str : PySem.W.nsIn K mainGlobals "str" = some none)
    (z_tuple : PySem.W.nsIn K mainGlobals "tuple" = some none)
    (c1_NOUGHT : PySem.W.nsIn K mainGlobals "NOUGHT" = some (some (.ref q_NOUGHT)))
    (c2_NOUGHT : K.lookup q_NOUGHT = some ⟨.type "tuple", od_NOUGHT, .seq #[.int 0 t_NOUGHT, .int 1 u_NOUGHT] n_NOUGHT, sl_NOUGHT⟩)
    (c1_FIGURES : PySem.W.nsIn K mainGlobals "FIGURES" = some (some (.str "0123456789" t_FIGURES)))
    (c1_NONE : PySem.W.nsIn K mainGlobals "NONE" = some (some (.str "none" t_NONE)))
    (c1_MOST_TERMS : PySem.W.nsIn K mainGlobals "MOST_TERMS" = some (some (.int 9 t_MOST_TERMS)))
    (c1_MOST_POWER : PySem.W.nsIn K mainGlobals "MOST_POWER" = some (some (.int 6 t_MOST_POWER)))
    (c1_MOST_FIGURES : PySem.W.nsIn K mainGlobals "MOST_FIGURES" = some (some (.int 6 t_MOST_FIGURES)))
    (cg_MeetError : PySem.W.nsIn K mainGlobals "MeetError" = some (some (.ref cc_MeetError)))
    (cg_NoRatio : PySem.W.nsIn K mainGlobals "NoRatio" = some (some (.ref cc_NoRatio)))
    (cg_Nought : PySem.W.nsIn K mainGlobals "Nought" = some (some (.ref cc_Nought)))
    (cg_NoTable : PySem.W.nsIn K mainGlobals "NoTable" = some (some (.ref cc_NoTable)))
    (cg_NoStep : PySem.W.nsIn K mainGlobals "NoStep" = some (some (.ref cc_NoStep)))
    (cg_NoSide : PySem.W.nsIn K mainGlobals "NoSide" = some (some (.ref cc_NoSide)))
    (cg_NoPart : PySem.W.nsIn K mainGlobals "NoPart" = some (some (.ref cc_NoPart)))
    (cg_TooMuch : PySem.W.nsIn K mainGlobals "TooMuch" = some (some (.ref cc_TooMuch)))
    (cg_CommonPart : PySem.W.nsIn K mainGlobals "CommonPart" = some (some (.ref cc_CommonPart)))
    (cg_NoText : PySem.W.nsIn K mainGlobals "NoText" = some (some (.ref cc_NoText)))
    (cg_NoName : PySem.W.nsIn K mainGlobals "NoName" = some (some (.ref cc_NoName)))
    (hd_NoRatio : PySem.W.hasDictIn K cc_NoRatio = true)
    (ht_NoRatio : PySem.W.typeIn K (.ref cc_NoRatio) = some (.type "type"))
    (hd_Nought : PySem.W.hasDictIn K cc_Nought = true)
    (ht_Nought : PySem.W.typeIn K (.ref cc_Nought) = some (.type "type"))
    (hd_NoTable : PySem.W.hasDictIn K cc_NoTable = true)
    (ht_NoTable : PySem.W.typeIn K (.ref cc_NoTable) = some (.type "type"))
    (hd_NoStep : PySem.W.hasDictIn K cc_NoStep = true)
    (ht_NoStep : PySem.W.typeIn K (.ref cc_NoStep) = some (.type "type"))
    (hd_MeetError : PySem.W.hasDictIn K cc_MeetError = true)
    (ht_MeetError : PySem.W.typeIn K (.ref cc_MeetError) = some (.type "type"))
    (hd_NoSide : PySem.W.hasDictIn K cc_NoSide = true)
    (ht_NoSide : PySem.W.typeIn K (.ref cc_NoSide) = some (.type "type"))
    (hd_NoPart : PySem.W.hasDictIn K cc_NoPart = true)
    (ht_NoPart : PySem.W.typeIn K (.ref cc_NoPart) = some (.type "type"))
    (hd_TooMuch : PySem.W.hasDictIn K cc_TooMuch = true)
    (ht_TooMuch : PySem.W.typeIn K (.ref cc_TooMuch) = some (.type "type"))
    (hd_CommonPart : PySem.W.hasDictIn K cc_CommonPart = true)
    (ht_CommonPart : PySem.W.typeIn K (.ref cc_CommonPart) = some (.type "type"))
    (hd_NoText : PySem.W.hasDictIn K cc_NoText = true)
    (ht_NoText : PySem.W.typeIn K (.ref cc_NoText) = some (.type "type"))
    (hd_NoName : PySem.W.hasDictIn K cc_NoName = true)
    (ht_NoName : PySem.W.typeIn K (.ref cc_NoName) = some (.type "type"))
    (hb_NoText : PySem.W.subIn K (.ref cc_NoText) (.type "BaseException") = some true)
    (sb_NoText_NoRatio : PySem.W.subIn K (.ref cc_NoText) (.ref cc_NoRatio) = some false)
    (sb_NoText_Nought : PySem.W.subIn K (.ref cc_NoText) (.ref cc_Nought) = some false)
    (sb_NoText_NoTable : PySem.W.subIn K (.ref cc_NoText) (.ref cc_NoTable) = some false)
    (sb_NoText_NoStep : PySem.W.subIn K (.ref cc_NoText) (.ref cc_NoStep) = some false)
    (sb_NoText_MeetError : PySem.W.subIn K (.ref cc_NoText) (.ref cc_MeetError) = some true)
    (sb_NoText_NoSide : PySem.W.subIn K (.ref cc_NoText) (.ref cc_NoSide) = some false)
    (sb_NoText_NoPart : PySem.W.subIn K (.ref cc_NoText) (.ref cc_NoPart) = some false)
    (sb_NoText_TooMuch : PySem.W.subIn K (.ref cc_NoText) (.ref cc_TooMuch) = some false)
    (sb_NoText_CommonPart : PySem.W.subIn K (.ref cc_NoText) (.ref cc_CommonPart) = some false)
    (sb_NoText_NoText : PySem.W.subIn K (.ref cc_NoText) (.ref cc_NoText) = some true)
    (sb_NoText_NoName : PySem.W.subIn K (.ref cc_NoText) (.ref cc_NoName) = some false)
    (sv_NoText : PySem.W.subIn K (.ref cc_NoText) (.type "ValueError") = some true)
    (yq_NoText : PySem.W.excIn K cc_NoText [.type "ValueError", .type "Exception", .type "BaseException", .type "object"] "ValueError.__new__" = true)
    (ykC_NoText : PySem.W.keepIn K (.ref cc_NoText) = true)
    (yr1_NoText : PySem.W.subIn K (.ref cc_NoText) (.type "BaseException") = some true)
    (yr2_NoText : PySem.W.typeIn K (.ref cc_NoText) = some (.type "type"))
    (yx1_NoText : PySem.W.findIn K (.ref cc_NoText) "__getattribute__" = some (some (.builtin "BaseException.__getattribute__")))
    (yx2_NoText : PySem.W.findIn K (.ref cc_NoText) "__getattr__" = some none)
    (yx3_NoText : PySem.W.hasDictIn K cc_NoText = true)
    (yx4_NoText : PySem.W.findIn K (.ref cc_NoText) "__class__" = some (some (.builtin "object.__class__")))
    (yx5_NoText : PySem.W.specialIn K (.builtin "object.__class__") "__get__" = some (some (.builtin "getset_descriptor.__get__")))
    (yx6_NoText : PySem.W.takesIn K (.builtin "object.__class__") = some true)
    (yx7_NoText : PySem.W.mroIn K cc_NoText (.type "object") = some true)
    (a_is_whole : PySem.W.nsIn K mainGlobals "is_whole" = some (some (.ref f_is_whole)))
    (l_is_whole : K.lookup f_is_whole = some ⟨oc_is_whole, od_is_whole, .func (PySem.W.fnOf "is_whole" "is_whole" (defArgs st_is_whole) (defBody st_is_whole) (defScope st_is_whole) .none kV_is_whole dc_is_whole pm_is_whole an_is_whole cd_is_whole ct_is_whole), sl_is_whole⟩)
    (c_is_whole : PySem.W.codeIn K cd_is_whole "is_whole" = true)
    (k_is_whole : PySem.W.keepIn K (.ref f_is_whole) = true)
    (a_divisor : PySem.W.nsIn K mainGlobals "divisor" = some (some (.ref f_divisor)))
    (l_divisor : K.lookup f_divisor = some ⟨oc_divisor, od_divisor, .func (PySem.W.fnOf "divisor" "divisor" (defArgs st_divisor) (defBody st_divisor) (defScope st_divisor) .none kV_divisor dc_divisor pm_divisor an_divisor cd_divisor ct_divisor), sl_divisor⟩)
    (c_divisor : PySem.W.codeIn K cd_divisor "divisor" = true)
    (k_divisor : PySem.W.keepIn K (.ref f_divisor) = true)
    (a_is_ratio : PySem.W.nsIn K mainGlobals "is_ratio" = some (some (.ref f_is_ratio)))
    (l_is_ratio : K.lookup f_is_ratio = some ⟨oc_is_ratio, od_is_ratio, .func (PySem.W.fnOf "is_ratio" "is_ratio" (defArgs st_is_ratio) (defBody st_is_ratio) (defScope st_is_ratio) .none kV_is_ratio dc_is_ratio pm_is_ratio an_is_ratio cd_is_ratio ct_is_ratio), sl_is_ratio⟩)
    (c_is_ratio : PySem.W.codeIn K cd_is_ratio "is_ratio" = true)
    (k_is_ratio : PySem.W.keepIn K (.ref f_is_ratio) = true)
    (a_is_term : PySem.W.nsIn K mainGlobals "is_term" = some (some (.ref f_is_term)))
    (l_is_term : K.lookup f_is_term = some ⟨oc_is_term, od_is_term, .func (PySem.W.fnOf "is_term" "is_term" (defArgs st_is_term) (defBody st_is_term) (defScope st_is_term) .none kV_is_term dc_is_term pm_is_term an_is_term cd_is_term ct_is_term), sl_is_term⟩)
    (c_is_term : PySem.W.codeIn K cd_is_term "is_term" = true)
    (k_is_term : PySem.W.keepIn K (.ref f_is_term) = true)
    (a_is_sum : PySem.W.nsIn K mainGlobals "is_sum" = some (some (.ref f_is_sum)))
    (l_is_sum : K.lookup f_is_sum = some ⟨oc_is_sum, od_is_sum, .func (PySem.W.fnOf "is_sum" "is_sum" (defArgs st_is_sum) (defBody st_is_sum) (defScope st_is_sum) .none kV_is_sum dc_is_sum pm_is_sum an_is_sum cd_is_sum ct_is_sum), sl_is_sum⟩)
    (c_is_sum : PySem.W.codeIn K cd_is_sum "is_sum" = true)
    (k_is_sum : PySem.W.keepIn K (.ref f_is_sum) = true)
    (a_read_figures : PySem.W.nsIn K mainGlobals "read_figures" = some (some (.ref f_read_figures)))
    (l_read_figures : K.lookup f_read_figures = some ⟨oc_read_figures, od_read_figures, .func (PySem.W.fnOf "read_figures" "read_figures" (defArgs st_read_figures) (defBody st_read_figures) (defScope st_read_figures) .none kV_read_figures dc_read_figures pm_read_figures an_read_figures cd_read_figures ct_read_figures), sl_read_figures⟩)
    (c_read_figures : PySem.W.codeIn K cd_read_figures "read_figures" = true)
    (k_read_figures : PySem.W.keepIn K (.ref f_read_figures) = true)
    (a_read_whole : PySem.W.nsIn K mainGlobals "read_whole" = some (some (.ref f_read_whole)))
    (l_read_whole : K.lookup f_read_whole = some ⟨oc_read_whole, od_read_whole, .func (PySem.W.fnOf "read_whole" "read_whole" (defArgs st_read_whole) (defBody st_read_whole) (defScope st_read_whole) .none kV_read_whole dc_read_whole pm_read_whole an_read_whole cd_read_whole ct_read_whole), sl_read_whole⟩)
    (c_read_whole : PySem.W.codeIn K cd_read_whole "read_whole" = true)
    (k_read_whole : PySem.W.keepIn K (.ref f_read_whole) = true)
    (a_read_power : PySem.W.nsIn K mainGlobals "read_power" = some (some (.ref f_read_power)))
    (l_read_power : K.lookup f_read_power = some ⟨oc_read_power, od_read_power, .func (PySem.W.fnOf "read_power" "read_power" (defArgs st_read_power) (defBody st_read_power) (defScope st_read_power) .none kV_read_power dc_read_power pm_read_power an_read_power cd_read_power ct_read_power), sl_read_power⟩)
    (c_read_power : PySem.W.codeIn K cd_read_power "read_power" = true)
    (k_read_power : PySem.W.keepIn K (.ref f_read_power) = true)
    (a_read_ratio : PySem.W.nsIn K mainGlobals "read_ratio" = some (some (.ref f_read_ratio)))
    (l_read_ratio : K.lookup f_read_ratio = some ⟨oc_read_ratio, od_read_ratio, .func (PySem.W.fnOf "read_ratio" "read_ratio" (defArgs st_read_ratio) (defBody st_read_ratio) (defScope st_read_ratio) .none kV_read_ratio dc_read_ratio pm_read_ratio an_read_ratio cd_read_ratio ct_read_ratio), sl_read_ratio⟩)
    (c_read_ratio : PySem.W.codeIn K cd_read_ratio "read_ratio" = true)
    (k_read_ratio : PySem.W.keepIn K (.ref f_read_ratio) = true)
    (a_read_term : PySem.W.nsIn K mainGlobals "read_term" = some (some (.ref f_read_term)))
    (l_read_term : K.lookup f_read_term = some ⟨oc_read_term, od_read_term, .func (PySem.W.fnOf "read_term" "read_term" (defArgs st_read_term) (defBody st_read_term) (defScope st_read_term) .none kV_read_term dc_read_term pm_read_term an_read_term cd_read_term ct_read_term), sl_read_term⟩)
    (c_read_term : PySem.W.codeIn K cd_read_term "read_term" = true)
    (k_read_term : PySem.W.keepIn K (.ref f_read_term) = true)
    (a_read : PySem.W.nsIn K mainGlobals "read" = some (some (.ref f_read)))
    (l_read : K.lookup f_read = some ⟨oc_read, od_read, .func (PySem.W.fnOf "read" "read" (defArgs st_read) (defBody st_read) (defScope st_read) .none kV_read dc_read pm_read an_read cd_read ct_read), sl_read⟩)
    (c_read : PySem.W.codeIn K cd_read "read" = true)
    (k_read : PySem.W.keepIn K (.ref f_read) = true)
    (a__law_purse : PySem.W.nsIn K mainGlobals "_law_purse" = some (some (.ref f__law_purse)))
    (l__law_purse : K.lookup f__law_purse = some ⟨oc__law_purse, od__law_purse, .func (PySem.W.fnOf "_law_purse" "_law_purse" (defArgs st__law_purse) (defBody st__law_purse) (defScope st__law_purse) .none kV__law_purse dc__law_purse pm__law_purse an__law_purse cd__law_purse ct__law_purse), sl__law_purse⟩)
    (c__law_purse : PySem.W.codeIn K cd__law_purse "_law_purse" = true)
    (k__law_purse : PySem.W.keepIn K (.ref f__law_purse) = true)
    (a__law_take : PySem.W.nsIn K mainGlobals "_law_take" = some (some (.ref f__law_take)))
    (l__law_take : K.lookup f__law_take = some ⟨oc__law_take, od__law_take, .func (PySem.W.fnOf "_law_take" "_law_take" (defArgs st__law_take) (defBody st__law_take) (defScope st__law_take) .none kV__law_take dc__law_take pm__law_take an__law_take cd__law_take ct__law_take), sl__law_take⟩)
    (c__law_take : PySem.W.codeIn K cd__law_take "_law_take" = true)
    (k__law_take : PySem.W.keepIn K (.ref f__law_take) = true)
    (a__law_share : PySem.W.nsIn K mainGlobals "_law_share" = some (some (.ref f__law_share)))
    (l__law_share : K.lookup f__law_share = some ⟨oc__law_share, od__law_share, .func (PySem.W.fnOf "_law_share" "_law_share" (defArgs st__law_share) (defBody st__law_share) (defScope st__law_share) .none kV__law_share dc__law_share pm__law_share an__law_share cd__law_share ct__law_share), sl__law_share⟩)
    (c__law_share : PySem.W.codeIn K cd__law_share "_law_share" = true)
    (k__law_share : PySem.W.keepIn K (.ref f__law_share) = true)
    (a__law_ratio : PySem.W.nsIn K mainGlobals "_law_ratio" = some (some (.ref f__law_ratio)))
    (l__law_ratio : K.lookup f__law_ratio = some ⟨oc__law_ratio, od__law_ratio, .func (PySem.W.fnOf "_law_ratio" "_law_ratio" (defArgs st__law_ratio) (defBody st__law_ratio) (defScope st__law_ratio) .none kV__law_ratio dc__law_ratio pm__law_ratio an__law_ratio cd__law_ratio ct__law_ratio), sl__law_ratio⟩)
    (c__law_ratio : PySem.W.codeIn K cd__law_ratio "_law_ratio" = true)
    (k__law_ratio : PySem.W.keepIn K (.ref f__law_ratio) = true)
    (a__law_sum : PySem.W.nsIn K mainGlobals "_law_sum" = some (some (.ref f__law_sum)))
    (l__law_sum : K.lookup f__law_sum = some ⟨oc__law_sum, od__law_sum, .func (PySem.W.fnOf "_law_sum" "_law_sum" (defArgs st__law_sum) (defBody st__law_sum) (defScope st__law_sum) .none kV__law_sum dc__law_sum pm__law_sum an__law_sum cd__law_sum ct__law_sum), sl__law_sum⟩)
    (c__law_sum : PySem.W.codeIn K cd__law_sum "_law_sum" = true)
    (k__law_sum : PySem.W.keepIn K (.ref f__law_sum) = true)
    (a__law_number_text : PySem.W.nsIn K mainGlobals "_law_number_text" = some (some (.ref f__law_number_text)))
    (l__law_number_text : K.lookup f__law_number_text = some ⟨oc__law_number_text, od__law_number_text, .func (PySem.W.fnOf "_law_number_text" "_law_number_text" (defArgs st__law_number_text) (defBody st__law_number_text) (defScope st__law_number_text) .none kV__law_number_text dc__law_number_text pm__law_number_text an__law_number_text cd__law_number_text ct__law_number_text), sl__law_number_text⟩)
    (c__law_number_text : PySem.W.codeIn K cd__law_number_text "_law_number_text" = true)
    (k__law_number_text : PySem.W.keepIn K (.ref f__law_number_text) = true)
    (a__law_text : PySem.W.nsIn K mainGlobals "_law_text" = some (some (.ref f__law_text)))
    (l__law_text : K.lookup f__law_text = some ⟨oc__law_text, od__law_text, .func (PySem.W.fnOf "_law_text" "_law_text" (defArgs st__law_text) (defBody st__law_text) (defScope st__law_text) .none kV__law_text dc__law_text pm__law_text an__law_text cd__law_text ct__law_text), sl__law_text⟩)
    (c__law_text : PySem.W.codeIn K cd__law_text "_law_text" = true)
    (k__law_text : PySem.W.keepIn K (.ref f__law_text) = true)
    (a__law_whole_of : PySem.W.nsIn K mainGlobals "_law_whole_of" = some (some (.ref f__law_whole_of)))
    (l__law_whole_of : K.lookup f__law_whole_of = some ⟨oc__law_whole_of, od__law_whole_of, .func (PySem.W.fnOf "_law_whole_of" "_law_whole_of" (defArgs st__law_whole_of) (defBody st__law_whole_of) (defScope st__law_whole_of) .none kV__law_whole_of dc__law_whole_of pm__law_whole_of an__law_whole_of cd__law_whole_of ct__law_whole_of), sl__law_whole_of⟩)
    (c__law_whole_of : PySem.W.codeIn K cd__law_whole_of "_law_whole_of" = true)
    (k__law_whole_of : PySem.W.keepIn K (.ref f__law_whole_of) = true)
    (a__law_number_of : PySem.W.nsIn K mainGlobals "_law_number_of" = some (some (.ref f__law_number_of)))
    (l__law_number_of : K.lookup f__law_number_of = some ⟨oc__law_number_of, od__law_number_of, .func (PySem.W.fnOf "_law_number_of" "_law_number_of" (defArgs st__law_number_of) (defBody st__law_number_of) (defScope st__law_number_of) .none kV__law_number_of dc__law_number_of pm__law_number_of an__law_number_of cd__law_number_of ct__law_number_of), sl__law_number_of⟩)
    (c__law_number_of : PySem.W.codeIn K cd__law_number_of "_law_number_of" = true)
    (k__law_number_of : PySem.W.keepIn K (.ref f__law_number_of) = true)
    (a__law_read : PySem.W.nsIn K mainGlobals "_law_read" = some (some (.ref f__law_read)))
    (l__law_read : K.lookup f__law_read = some ⟨oc__law_read, od__law_read, .func (PySem.W.fnOf "_law_read" "_law_read" (defArgs st__law_read) (defBody st__law_read) (defScope st__law_read) .none kV__law_read dc__law_read pm__law_read an__law_read cd__law_read ct__law_read), sl__law_read⟩)
    (c__law_read : PySem.W.codeIn K cd__law_read "_law_read" = true)
    (k__law_read : PySem.W.keepIn K (.ref f__law_read) = true)
    (a__law_spoilt : PySem.W.nsIn K mainGlobals "_law_spoilt" = some (some (.ref f__law_spoilt)))
    (l__law_spoilt : K.lookup f__law_spoilt = some ⟨oc__law_spoilt, od__law_spoilt, .func (PySem.W.fnOf "_law_spoilt" "_law_spoilt" (defArgs st__law_spoilt) (defBody st__law_spoilt) (defScope st__law_spoilt) .none kV__law_spoilt dc__law_spoilt pm__law_spoilt an__law_spoilt cd__law_spoilt ct__law_spoilt), sl__law_spoilt⟩)
    (c__law_spoilt : PySem.W.codeIn K cd__law_spoilt "_law_spoilt" = true)
    (k__law_spoilt : PySem.W.keepIn K (.ref f__law_spoilt) = true)
    (a__law_alone : PySem.W.nsIn K mainGlobals "_law_alone" = some (some (.ref f__law_alone)))
    (l__law_alone : K.lookup f__law_alone = some ⟨oc__law_alone, od__law_alone, .func (PySem.W.fnOf "_law_alone" "_law_alone" (defArgs st__law_alone) (defBody st__law_alone) (defScope st__law_alone) .none kV__law_alone dc__law_alone pm__law_alone an__law_alone cd__law_alone ct__law_alone), sl__law_alone⟩)
    (c__law_alone : PySem.W.codeIn K cd__law_alone "_law_alone" = true)
    (k__law_alone : PySem.W.keepIn K (.ref f__law_alone) = true)
    (a__law_odd_word : PySem.W.nsIn K mainGlobals "_law_odd_word" = some (some (.ref f__law_odd_word)))
    (l__law_odd_word : K.lookup f__law_odd_word = some ⟨oc__law_odd_word, od__law_odd_word, .func (PySem.W.fnOf "_law_odd_word" "_law_odd_word" (defArgs st__law_odd_word) (defBody st__law_odd_word) (defScope st__law_odd_word) .none kV__law_odd_word dc__law_odd_word pm__law_odd_word an__law_odd_word cd__law_odd_word ct__law_odd_word), sl__law_odd_word⟩)
    (c__law_odd_word : PySem.W.codeIn K cd__law_odd_word "_law_odd_word" = true)
    (k__law_odd_word : PySem.W.keepIn K (.ref f__law_odd_word) = true)
    (a__law_other : PySem.W.nsIn K mainGlobals "_law_other" = some (some (.ref f__law_other)))
    (l__law_other : K.lookup f__law_other = some ⟨oc__law_other, od__law_other, .func (PySem.W.fnOf "_law_other" "_law_other" (defArgs st__law_other) (defBody st__law_other) (defScope st__law_other) .none kV__law_other dc__law_other pm__law_other an__law_other cd__law_other ct__law_other), sl__law_other⟩)
    (c__law_other : PySem.W.codeIn K cd__law_other "_law_other" = true)
    (k__law_other : PySem.W.keepIn K (.ref f__law_other) = true)
    (a__law_told : PySem.W.nsIn K mainGlobals "_law_told" = some (some (.ref f__law_told)))
    (l__law_told : K.lookup f__law_told = some ⟨oc__law_told, od__law_told, .func (PySem.W.fnOf "_law_told" "_law_told" (defArgs st__law_told) (defBody st__law_told) (defScope st__law_told) .none kV__law_told dc__law_told pm__law_told an__law_told cd__law_told ct__law_told), sl__law_told⟩)
    (c__law_told : PySem.W.codeIn K cd__law_told "_law_told" = true)
    (k__law_told : PySem.W.keepIn K (.ref f__law_told) = true)
    (a_law : PySem.W.nsIn K mainGlobals "law" = some (some (.ref f_law)))
    (l_law : K.lookup f_law = some ⟨oc_law, od_law, .func (PySem.W.fnOf "law" "law" (defArgs st_law) (defBody st_law) (defScope st_law) .none kV_law dc_law pm_law an_law cd_law ct_law), sl_law⟩)
    (c_law : PySem.W.codeIn K cd_law "law" = true)
    (k_law : PySem.W.keepIn K (.ref f_law) = true)
    : Txt K mg where
  m_ValueError := PySem.W.mg_none_of X G z_ValueError
  m_abs := PySem.W.mg_none_of X G z_abs
  m_all := PySem.W.mg_none_of X G z_all
  m_bool := PySem.W.mg_none_of X G z_bool
  m_int := PySem.W.mg_none_of X G z_int
  m_isinstance := PySem.W.mg_none_of X G z_isinstance
  m_len := PySem.W.mg_none_of X G z_len
  m_list := PySem.W.mg_none_of X G z_list
  m_max := PySem.W.mg_none_of X G z_max
  m_min := PySem.W.mg_none_of X G z_min
  m_range := PySem.W.mg_none_of X G z_range
  m_set := PySem.W.mg_none_of X G z_set
  m_sorted := PySem.W.mg_none_of X G z_sorted
  m_str := PySem.W.mg_none_of X G z_str
  m_tuple := PySem.W.mg_none_of X G z_tuple
  a_NOUGHT := q_NOUGHT
  mg_NOUGHT := PySem.W.mg_of X G c1_NOUGHT
  dq_NOUGHT := dq_pair c2_NOUGHT
  t_FIGURES := t_FIGURES
  mg_FIGURES := PySem.W.mg_of X G c1_FIGURES
  t_NONE := t_NONE
  mg_NONE := PySem.W.mg_of X G c1_NONE
  t_MOST_TERMS := t_MOST_TERMS
  mg_MOST_TERMS := PySem.W.mg_of X G c1_MOST_TERMS
  t_MOST_POWER := t_MOST_POWER
  mg_MOST_POWER := PySem.W.mg_of X G c1_MOST_POWER
  t_MOST_FIGURES := t_MOST_FIGURES
  mg_MOST_FIGURES := PySem.W.mg_of X G c1_MOST_FIGURES
  c_MeetError := cc_MeetError
  gC_MeetError := PySem.W.mg_of X G cg_MeetError
  c_NoRatio := cc_NoRatio
  gC_NoRatio := PySem.W.mg_of X G cg_NoRatio
  c_Nought := cc_Nought
  gC_Nought := PySem.W.mg_of X G cg_Nought
  c_NoTable := cc_NoTable
  gC_NoTable := PySem.W.mg_of X G cg_NoTable
  c_NoStep := cc_NoStep
  gC_NoStep := PySem.W.mg_of X G cg_NoStep
  c_NoSide := cc_NoSide
  gC_NoSide := PySem.W.mg_of X G cg_NoSide
  c_NoPart := cc_NoPart
  gC_NoPart := PySem.W.mg_of X G cg_NoPart
  c_TooMuch := cc_TooMuch
  gC_TooMuch := PySem.W.mg_of X G cg_TooMuch
  c_CommonPart := cc_CommonPart
  gC_CommonPart := PySem.W.mg_of X G cg_CommonPart
  c_NoText := cc_NoText
  gC_NoText := PySem.W.mg_of X G cg_NoText
  c_NoName := cc_NoName
  gC_NoName := PySem.W.mg_of X G cg_NoName
  q_NoText := yq_NoText
  kC_NoText := ykC_NoText
  r1_NoText := yr1_NoText
  r2_NoText := yr2_NoText
  x1_NoText := yx1_NoText
  x2_NoText := yx2_NoText
  x3_NoText := yx3_NoText
  x4_NoText := yx4_NoText
  x5_NoText := yx5_NoText
  x6_NoText := yx6_NoText
  x7_NoText := yx7_NoText
  xm_NoText_NoText := PySem.W.exm_ref hb_NoText hd_NoText ht_NoText sb_NoText_NoText
  kt_NoText_NoRatio := kit_no sb_NoText_NoRatio sb_NoText_NoText hd_NoRatio ht_NoRatio
  kt_NoText_Nought := kit_no sb_NoText_Nought sb_NoText_NoText hd_Nought ht_Nought
  kt_NoText_NoTable := kit_no sb_NoText_NoTable sb_NoText_NoText hd_NoTable ht_NoTable
  kt_NoText_NoStep := kit_no sb_NoText_NoStep sb_NoText_NoText hd_NoStep ht_NoStep
  kt_NoText_MeetError := kit_yes sb_NoText_MeetError hd_MeetError ht_MeetError
  kt_NoText_NoSide := kit_no sb_NoText_NoSide sb_NoText_NoText hd_NoSide ht_NoSide
  kt_NoText_NoPart := kit_no sb_NoText_NoPart sb_NoText_NoText hd_NoPart ht_NoPart
  kt_NoText_TooMuch := kit_no sb_NoText_TooMuch sb_NoText_NoText hd_TooMuch ht_TooMuch
  kt_NoText_CommonPart := kit_no sb_NoText_CommonPart sb_NoText_NoText hd_CommonPart ht_CommonPart
  kt_NoText_NoText := kit_self
  kt_NoText_NoName := kit_no sb_NoText_NoName sb_NoText_NoText hd_NoName ht_NoName
  kt_NoText_ValueError := kit_ve sv_NoText
  a_is_whole := f_is_whole
  d_is_whole := (PySem.W.fnOf "is_whole" "is_whole" (defArgs st_is_whole) (defBody st_is_whole) (defScope st_is_whole) .none kV_is_whole dc_is_whole pm_is_whole an_is_whole cd_is_whole ct_is_whole)
  F_is_whole := fun_mk (st := st_is_whole) l_is_whole c_is_whole k_is_whole
  b_is_whole := (fun_mk (st := st_is_whole) l_is_whole c_is_whole k_is_whole).binds (ps := P_is_whole) (fun _ _ _ _ _ _ us hl => match us, hl with | [_], _ => rfl)
  g_is_whole := PySem.W.mg_of X G a_is_whole
  a_divisor := f_divisor
  d_divisor := (PySem.W.fnOf "divisor" "divisor" (defArgs st_divisor) (defBody st_divisor) (defScope st_divisor) .none kV_divisor dc_divisor pm_divisor an_divisor cd_divisor ct_divisor)
  F_divisor := fun_mk (st := st_divisor) l_divisor c_divisor k_divisor
  b_divisor := (fun_mk (st := st_divisor) l_divisor c_divisor k_divisor).binds (ps := P_divisor) (fun _ _ _ _ _ _ us hl => match us, hl with | [_, _], _ => rfl)
  g_divisor := PySem.W.mg_of X G a_divisor
  a_is_ratio := f_is_ratio
  d_is_ratio := (PySem.W.fnOf "is_ratio" "is_ratio" (defArgs st_is_ratio) (defBody st_is_ratio) (defScope st_is_ratio) .none kV_is_ratio dc_is_ratio pm_is_ratio an_is_ratio cd_is_ratio ct_is_ratio)
  F_is_ratio := fun_mk (st := st_is_ratio) l_is_ratio c_is_ratio k_is_ratio
  b_is_ratio := (fun_mk (st := st_is_ratio) l_is_ratio c_is_ratio k_is_ratio).binds (ps := P_is_ratio) (fun _ _ _ _ _ _ us hl => match us, hl with | [_], _ => rfl)
  g_is_ratio := PySem.W.mg_of X G a_is_ratio
  a_is_term := f_is_term
  d_is_term := (PySem.W.fnOf "is_term" "is_term" (defArgs st_is_term) (defBody st_is_term) (defScope st_is_term) .none kV_is_term dc_is_term pm_is_term an_is_term cd_is_term ct_is_term)
  F_is_term := fun_mk (st := st_is_term) l_is_term c_is_term k_is_term
  b_is_term := (fun_mk (st := st_is_term) l_is_term c_is_term k_is_term).binds (ps := P_is_term) (fun _ _ _ _ _ _ us hl => match us, hl with | [_], _ => rfl)
  g_is_term := PySem.W.mg_of X G a_is_term
  a_is_sum := f_is_sum
  d_is_sum := (PySem.W.fnOf "is_sum" "is_sum" (defArgs st_is_sum) (defBody st_is_sum) (defScope st_is_sum) .none kV_is_sum dc_is_sum pm_is_sum an_is_sum cd_is_sum ct_is_sum)
  F_is_sum := fun_mk (st := st_is_sum) l_is_sum c_is_sum k_is_sum
  b_is_sum := (fun_mk (st := st_is_sum) l_is_sum c_is_sum k_is_sum).binds (ps := P_is_sum) (fun _ _ _ _ _ _ us hl => match us, hl with | [_], _ => rfl)
  g_is_sum := PySem.W.mg_of X G a_is_sum
  a_read_figures := f_read_figures
  d_read_figures := (PySem.W.fnOf "read_figures" "read_figures" (defArgs st_read_figures) (defBody st_read_figures) (defScope st_read_figures) .none kV_read_figures dc_read_figures pm_read_figures an_read_figures cd_read_figures ct_read_figures)
  F_read_figures := fun_mk (st := st_read_figures) l_read_figures c_read_figures k_read_figures
  b_read_figures := (fun_mk (st := st_read_figures) l_read_figures c_read_figures k_read_figures).binds (ps := P_read_figures) (fun _ _ _ _ _ _ us hl => match us, hl with | [_, _], _ => rfl)
  g_read_figures := PySem.W.mg_of X G a_read_figures
  a_read_whole := f_read_whole
  d_read_whole := (PySem.W.fnOf "read_whole" "read_whole" (defArgs st_read_whole) (defBody st_read_whole) (defScope st_read_whole) .none kV_read_whole dc_read_whole pm_read_whole an_read_whole cd_read_whole ct_read_whole)
  F_read_whole := fun_mk (st := st_read_whole) l_read_whole c_read_whole k_read_whole
  b_read_whole := (fun_mk (st := st_read_whole) l_read_whole c_read_whole k_read_whole).binds (ps := P_read_whole) (fun _ _ _ _ _ _ us hl => match us, hl with | [_, _], _ => rfl)
  g_read_whole := PySem.W.mg_of X G a_read_whole
  a_read_power := f_read_power
  d_read_power := (PySem.W.fnOf "read_power" "read_power" (defArgs st_read_power) (defBody st_read_power) (defScope st_read_power) .none kV_read_power dc_read_power pm_read_power an_read_power cd_read_power ct_read_power)
  F_read_power := fun_mk (st := st_read_power) l_read_power c_read_power k_read_power
  b_read_power := (fun_mk (st := st_read_power) l_read_power c_read_power k_read_power).binds (ps := P_read_power) (fun _ _ _ _ _ _ us hl => match us, hl with | [_], _ => rfl)
  g_read_power := PySem.W.mg_of X G a_read_power
  a_read_ratio := f_read_ratio
  d_read_ratio := (PySem.W.fnOf "read_ratio" "read_ratio" (defArgs st_read_ratio) (defBody st_read_ratio) (defScope st_read_ratio) .none kV_read_ratio dc_read_ratio pm_read_ratio an_read_ratio cd_read_ratio ct_read_ratio)
  F_read_ratio := fun_mk (st := st_read_ratio) l_read_ratio c_read_ratio k_read_ratio
  b_read_ratio := (fun_mk (st := st_read_ratio) l_read_ratio c_read_ratio k_read_ratio).binds (ps := P_read_ratio) (fun _ _ _ _ _ _ us hl => match us, hl with | [_], _ => rfl)
  g_read_ratio := PySem.W.mg_of X G a_read_ratio
  a_read_term := f_read_term
  d_read_term := (PySem.W.fnOf "read_term" "read_term" (defArgs st_read_term) (defBody st_read_term) (defScope st_read_term) .none kV_read_term dc_read_term pm_read_term an_read_term cd_read_term ct_read_term)
  F_read_term := fun_mk (st := st_read_term) l_read_term c_read_term k_read_term
  b_read_term := (fun_mk (st := st_read_term) l_read_term c_read_term k_read_term).binds (ps := P_read_term) (fun _ _ _ _ _ _ us hl => match us, hl with | [_], _ => rfl)
  g_read_term := PySem.W.mg_of X G a_read_term
  a_read := f_read
  d_read := (PySem.W.fnOf "read" "read" (defArgs st_read) (defBody st_read) (defScope st_read) .none kV_read dc_read pm_read an_read cd_read ct_read)
  F_read := fun_mk (st := st_read) l_read c_read k_read
  b_read := (fun_mk (st := st_read) l_read c_read k_read).binds (ps := P_read) (fun _ _ _ _ _ _ us hl => match us, hl with | [_], _ => rfl)
  g_read := PySem.W.mg_of X G a_read
  a__law_purse := f__law_purse
  d__law_purse := (PySem.W.fnOf "_law_purse" "_law_purse" (defArgs st__law_purse) (defBody st__law_purse) (defScope st__law_purse) .none kV__law_purse dc__law_purse pm__law_purse an__law_purse cd__law_purse ct__law_purse)
  F__law_purse := fun_mk (st := st__law_purse) l__law_purse c__law_purse k__law_purse
  b__law_purse := (fun_mk (st := st__law_purse) l__law_purse c__law_purse k__law_purse).binds (ps := P__law_purse) (fun _ _ _ _ _ _ us hl => match us, hl with | [_, _], _ => rfl)
  g__law_purse := PySem.W.mg_of X G a__law_purse
  a__law_take := f__law_take
  d__law_take := (PySem.W.fnOf "_law_take" "_law_take" (defArgs st__law_take) (defBody st__law_take) (defScope st__law_take) .none kV__law_take dc__law_take pm__law_take an__law_take cd__law_take ct__law_take)
  F__law_take := fun_mk (st := st__law_take) l__law_take c__law_take k__law_take
  b__law_take := (fun_mk (st := st__law_take) l__law_take c__law_take k__law_take).binds (ps := P__law_take) (fun _ _ _ _ _ _ us hl => match us, hl with | [_, _], _ => rfl)
  g__law_take := PySem.W.mg_of X G a__law_take
  a__law_share := f__law_share
  d__law_share := (PySem.W.fnOf "_law_share" "_law_share" (defArgs st__law_share) (defBody st__law_share) (defScope st__law_share) .none kV__law_share dc__law_share pm__law_share an__law_share cd__law_share ct__law_share)
  F__law_share := fun_mk (st := st__law_share) l__law_share c__law_share k__law_share
  b__law_share := (fun_mk (st := st__law_share) l__law_share c__law_share k__law_share).binds (ps := P__law_share) (fun _ _ _ _ _ _ us hl => match us, hl with | [_, _], _ => rfl)
  g__law_share := PySem.W.mg_of X G a__law_share
  a__law_ratio := f__law_ratio
  d__law_ratio := (PySem.W.fnOf "_law_ratio" "_law_ratio" (defArgs st__law_ratio) (defBody st__law_ratio) (defScope st__law_ratio) .none kV__law_ratio dc__law_ratio pm__law_ratio an__law_ratio cd__law_ratio ct__law_ratio)
  F__law_ratio := fun_mk (st := st__law_ratio) l__law_ratio c__law_ratio k__law_ratio
  b__law_ratio := (fun_mk (st := st__law_ratio) l__law_ratio c__law_ratio k__law_ratio).binds (ps := P__law_ratio) (fun _ _ _ _ _ _ us hl => match us, hl with | [_], _ => rfl)
  g__law_ratio := PySem.W.mg_of X G a__law_ratio
  a__law_sum := f__law_sum
  d__law_sum := (PySem.W.fnOf "_law_sum" "_law_sum" (defArgs st__law_sum) (defBody st__law_sum) (defScope st__law_sum) .none kV__law_sum dc__law_sum pm__law_sum an__law_sum cd__law_sum ct__law_sum)
  F__law_sum := fun_mk (st := st__law_sum) l__law_sum c__law_sum k__law_sum
  b__law_sum := (fun_mk (st := st__law_sum) l__law_sum c__law_sum k__law_sum).binds (ps := P__law_sum) (fun _ _ _ _ _ _ us hl => match us, hl with | [_], _ => rfl)
  g__law_sum := PySem.W.mg_of X G a__law_sum
  a__law_number_text := f__law_number_text
  d__law_number_text := (PySem.W.fnOf "_law_number_text" "_law_number_text" (defArgs st__law_number_text) (defBody st__law_number_text) (defScope st__law_number_text) .none kV__law_number_text dc__law_number_text pm__law_number_text an__law_number_text cd__law_number_text ct__law_number_text)
  F__law_number_text := fun_mk (st := st__law_number_text) l__law_number_text c__law_number_text k__law_number_text
  b__law_number_text := (fun_mk (st := st__law_number_text) l__law_number_text c__law_number_text k__law_number_text).binds (ps := P__law_number_text) (fun _ _ _ _ _ _ us hl => match us, hl with | [_], _ => rfl)
  g__law_number_text := PySem.W.mg_of X G a__law_number_text
  a__law_text := f__law_text
  d__law_text := (PySem.W.fnOf "_law_text" "_law_text" (defArgs st__law_text) (defBody st__law_text) (defScope st__law_text) .none kV__law_text dc__law_text pm__law_text an__law_text cd__law_text ct__law_text)
  F__law_text := fun_mk (st := st__law_text) l__law_text c__law_text k__law_text
  b__law_text := (fun_mk (st := st__law_text) l__law_text c__law_text k__law_text).binds (ps := P__law_text) (fun _ _ _ _ _ _ us hl => match us, hl with | [_], _ => rfl)
  g__law_text := PySem.W.mg_of X G a__law_text
  a__law_whole_of := f__law_whole_of
  d__law_whole_of := (PySem.W.fnOf "_law_whole_of" "_law_whole_of" (defArgs st__law_whole_of) (defBody st__law_whole_of) (defScope st__law_whole_of) .none kV__law_whole_of dc__law_whole_of pm__law_whole_of an__law_whole_of cd__law_whole_of ct__law_whole_of)
  F__law_whole_of := fun_mk (st := st__law_whole_of) l__law_whole_of c__law_whole_of k__law_whole_of
  b__law_whole_of := (fun_mk (st := st__law_whole_of) l__law_whole_of c__law_whole_of k__law_whole_of).binds (ps := P__law_whole_of) (fun _ _ _ _ _ _ us hl => match us, hl with | [_, _], _ => rfl)
  g__law_whole_of := PySem.W.mg_of X G a__law_whole_of
  a__law_number_of := f__law_number_of
  d__law_number_of := (PySem.W.fnOf "_law_number_of" "_law_number_of" (defArgs st__law_number_of) (defBody st__law_number_of) (defScope st__law_number_of) .none kV__law_number_of dc__law_number_of pm__law_number_of an__law_number_of cd__law_number_of ct__law_number_of)
  F__law_number_of := fun_mk (st := st__law_number_of) l__law_number_of c__law_number_of k__law_number_of
  b__law_number_of := (fun_mk (st := st__law_number_of) l__law_number_of c__law_number_of k__law_number_of).binds (ps := P__law_number_of) (fun _ _ _ _ _ _ us hl => match us, hl with | [_], _ => rfl)
  g__law_number_of := PySem.W.mg_of X G a__law_number_of
  a__law_read := f__law_read
  d__law_read := (PySem.W.fnOf "_law_read" "_law_read" (defArgs st__law_read) (defBody st__law_read) (defScope st__law_read) .none kV__law_read dc__law_read pm__law_read an__law_read cd__law_read ct__law_read)
  F__law_read := fun_mk (st := st__law_read) l__law_read c__law_read k__law_read
  b__law_read := (fun_mk (st := st__law_read) l__law_read c__law_read k__law_read).binds (ps := P__law_read) (fun _ _ _ _ _ _ us hl => match us, hl with | [_], _ => rfl)
  g__law_read := PySem.W.mg_of X G a__law_read
  a__law_spoilt := f__law_spoilt
  d__law_spoilt := (PySem.W.fnOf "_law_spoilt" "_law_spoilt" (defArgs st__law_spoilt) (defBody st__law_spoilt) (defScope st__law_spoilt) .none kV__law_spoilt dc__law_spoilt pm__law_spoilt an__law_spoilt cd__law_spoilt ct__law_spoilt)
  F__law_spoilt := fun_mk (st := st__law_spoilt) l__law_spoilt c__law_spoilt k__law_spoilt
  b__law_spoilt := (fun_mk (st := st__law_spoilt) l__law_spoilt c__law_spoilt k__law_spoilt).binds (ps := P__law_spoilt) (fun _ _ _ _ _ _ us hl => match us, hl with | [_, _], _ => rfl)
  g__law_spoilt := PySem.W.mg_of X G a__law_spoilt
  a__law_alone := f__law_alone
  d__law_alone := (PySem.W.fnOf "_law_alone" "_law_alone" (defArgs st__law_alone) (defBody st__law_alone) (defScope st__law_alone) .none kV__law_alone dc__law_alone pm__law_alone an__law_alone cd__law_alone ct__law_alone)
  F__law_alone := fun_mk (st := st__law_alone) l__law_alone c__law_alone k__law_alone
  b__law_alone := (fun_mk (st := st__law_alone) l__law_alone c__law_alone k__law_alone).binds (ps := P__law_alone) (fun _ _ _ _ _ _ us hl => match us, hl with | [_], _ => rfl)
  g__law_alone := PySem.W.mg_of X G a__law_alone
  a__law_odd_word := f__law_odd_word
  d__law_odd_word := (PySem.W.fnOf "_law_odd_word" "_law_odd_word" (defArgs st__law_odd_word) (defBody st__law_odd_word) (defScope st__law_odd_word) .none kV__law_odd_word dc__law_odd_word pm__law_odd_word an__law_odd_word cd__law_odd_word ct__law_odd_word)
  F__law_odd_word := fun_mk (st := st__law_odd_word) l__law_odd_word c__law_odd_word k__law_odd_word
  b__law_odd_word := (fun_mk (st := st__law_odd_word) l__law_odd_word c__law_odd_word k__law_odd_word).binds (ps := P__law_odd_word) (fun _ _ _ _ _ _ us hl => match us, hl with | [_], _ => rfl)
  g__law_odd_word := PySem.W.mg_of X G a__law_odd_word
  a__law_other := f__law_other
  d__law_other := (PySem.W.fnOf "_law_other" "_law_other" (defArgs st__law_other) (defBody st__law_other) (defScope st__law_other) .none kV__law_other dc__law_other pm__law_other an__law_other cd__law_other ct__law_other)
  F__law_other := fun_mk (st := st__law_other) l__law_other c__law_other k__law_other
  b__law_other := (fun_mk (st := st__law_other) l__law_other c__law_other k__law_other).binds (ps := P__law_other) (fun _ _ _ _ _ _ us hl => match us, hl with | [_, _], _ => rfl)
  g__law_other := PySem.W.mg_of X G a__law_other
  a__law_told := f__law_told
  d__law_told := (PySem.W.fnOf "_law_told" "_law_told" (defArgs st__law_told) (defBody st__law_told) (defScope st__law_told) .none kV__law_told dc__law_told pm__law_told an__law_told cd__law_told ct__law_told)
  F__law_told := fun_mk (st := st__law_told) l__law_told c__law_told k__law_told
  b__law_told := (fun_mk (st := st__law_told) l__law_told c__law_told k__law_told).binds (ps := P__law_told) (fun _ _ _ _ _ _ us hl => match us, hl with | [_], _ => rfl)
  g__law_told := PySem.W.mg_of X G a__law_told
  a_law := f_law
  d_law := (PySem.W.fnOf "law" "law" (defArgs st_law) (defBody st_law) (defScope st_law) .none kV_law dc_law pm_law an_law cd_law ct_law)
  F_law := fun_mk (st := st_law) l_law c_law k_law
  b_law := (fun_mk (st := st_law) l_law c_law k_law).binds (ps := P_law) (fun _ _ _ _ _ _ us hl => match us, hl with | [_], _ => rfl)
  g_law := PySem.W.mg_of X G a_law
theorem all_mk {l : PySem.W.OpenLaw} {w : World} {K : PySem.W.Frag} {h : Heap} {mg : Str → Option Value} {fa : Addr} (X : K.In h) (G : h.Ns mainGlobals mg) (hfa : mg "law" = some (.ref fa))
    {q_NOUGHT : Addr} {od_NOUGHT : Option Addr} {n_NOUGHT : Nat} {sl_NOUGHT : Array (Option Value)} {t_NOUGHT u_NOUGHT : Tok}
    {t_FIGURES : Tok}
    {t_NONE : Tok}
    {t_MOST_TERMS : Tok}
    {t_MOST_POWER : Tok}
    {t_MOST_FIGURES : Tok}
    {cc_MeetError : Addr}
    {cc_NoRatio : Addr}
    {cc_Nought : Addr}
    {cc_NoTable : Addr}
    {cc_NoStep : Addr}
    {cc_NoSide : Addr}
    {cc_NoPart : Addr}
    {cc_TooMuch : Addr}
    {cc_CommonPart : Addr}
    {cc_NoText : Addr}
    {cc_NoName : Addr}
    {f_is_whole : Addr} {od_is_whole an_is_whole : Option Addr} {sl_is_whole : Array (Option Value)} {oc_is_whole kV_is_whole dc_is_whole pm_is_whole cd_is_whole ct_is_whole : Value}
    {f_divisor : Addr} {od_divisor an_divisor : Option Addr} {sl_divisor : Array (Option Value)} {oc_divisor kV_divisor dc_divisor pm_divisor cd_divisor ct_divisor : Value}
    {f_is_ratio : Addr} {od_is_ratio an_is_ratio : Option Addr} {sl_is_ratio : Array (Option Value)} {oc_is_ratio kV_is_ratio dc_is_ratio pm_is_ratio cd_is_ratio ct_is_ratio : Value}
    {f_is_term : Addr} {od_is_term an_is_term : Option Addr} {sl_is_term : Array (Option Value)} {oc_is_term kV_is_term dc_is_term pm_is_term cd_is_term ct_is_term : Value}
    {f_is_sum : Addr} {od_is_sum an_is_sum : Option Addr} {sl_is_sum : Array (Option Value)} {oc_is_sum kV_is_sum dc_is_sum pm_is_sum cd_is_sum ct_is_sum : Value}
    {f_read_figures : Addr} {od_read_figures an_read_figures : Option Addr} {sl_read_figures : Array (Option Value)} {oc_read_figures kV_read_figures dc_read_figures pm_read_figures cd_read_figures ct_read_figures : Value}
    {f_read_whole : Addr} {od_read_whole an_read_whole : Option Addr} {sl_read_whole : Array (Option Value)} {oc_read_whole kV_read_whole dc_read_whole pm_read_whole cd_read_whole ct_read_whole : Value}
    {f_read_power : Addr} {od_read_power an_read_power : Option Addr} {sl_read_power : Array (Option Value)} {oc_read_power kV_read_power dc_read_power pm_read_power cd_read_power ct_read_power : Value}
    {f_read_ratio : Addr} {od_read_ratio an_read_ratio : Option Addr} {sl_read_ratio : Array (Option Value)} {oc_read_ratio kV_read_ratio dc_read_ratio pm_read_ratio cd_read_ratio ct_read_ratio : Value}
    {f_read_term : Addr} {od_read_term an_read_term : Option Addr} {sl_read_term : Array (Option Value)} {oc_read_term kV_read_term dc_read_term pm_read_term cd_read_term ct_read_term : Value}
    {f_read : Addr} {od_read an_read : Option Addr} {sl_read : Array (Option Value)} {oc_read kV_read dc_read pm_read cd_read ct_read : Value}
    {f__law_purse : Addr} {od__law_purse an__law_purse : Option Addr} {sl__law_purse : Array (Option Value)} {oc__law_purse kV__law_purse dc__law_purse pm__law_purse cd__law_purse ct__law_purse : Value}
    {f__law_take : Addr} {od__law_take an__law_take : Option Addr} {sl__law_take : Array (Option Value)} {oc__law_take kV__law_take dc__law_take pm__law_take cd__law_take ct__law_take : Value}
    {f__law_share : Addr} {od__law_share an__law_share : Option Addr} {sl__law_share : Array (Option Value)} {oc__law_share kV__law_share dc__law_share pm__law_share cd__law_share ct__law_share : Value}
    {f__law_ratio : Addr} {od__law_ratio an__law_ratio : Option Addr} {sl__law_ratio : Array (Option Value)} {oc__law_ratio kV__law_ratio dc__law_ratio pm__law_ratio cd__law_ratio ct__law_ratio : Value}
    {f__law_sum : Addr} {od__law_sum an__law_sum : Option Addr} {sl__law_sum : Array (Option Value)} {oc__law_sum kV__law_sum dc__law_sum pm__law_sum cd__law_sum ct__law_sum : Value}
    {f__law_number_text : Addr} {od__law_number_text an__law_number_text : Option Addr} {sl__law_number_text : Array (Option Value)} {oc__law_number_text kV__law_number_text dc__law_number_text pm__law_number_text cd__law_number_text ct__law_number_text : Value}
    {f__law_text : Addr} {od__law_text an__law_text : Option Addr} {sl__law_text : Array (Option Value)} {oc__law_text kV__law_text dc__law_text pm__law_text cd__law_text ct__law_text : Value}
    {f__law_whole_of : Addr} {od__law_whole_of an__law_whole_of : Option Addr} {sl__law_whole_of : Array (Option Value)} {oc__law_whole_of kV__law_whole_of dc__law_whole_of pm__law_whole_of cd__law_whole_of ct__law_whole_of : Value}
    {f__law_number_of : Addr} {od__law_number_of an__law_number_of : Option Addr} {sl__law_number_of : Array (Option Value)} {oc__law_number_of kV__law_number_of dc__law_number_of pm__law_number_of cd__law_number_of ct__law_number_of : Value}
    {f__law_read : Addr} {od__law_read an__law_read : Option Addr} {sl__law_read : Array (Option Value)} {oc__law_read kV__law_read dc__law_read pm__law_read cd__law_read ct__law_read : Value}
    {f__law_spoilt : Addr} {od__law_spoilt an__law_spoilt : Option Addr} {sl__law_spoilt : Array (Option Value)} {oc__law_spoilt kV__law_spoilt dc__law_spoilt pm__law_spoilt cd__law_spoilt ct__law_spoilt : Value}
    {f__law_alone : Addr} {od__law_alone an__law_alone : Option Addr} {sl__law_alone : Array (Option Value)} {oc__law_alone kV__law_alone dc__law_alone pm__law_alone cd__law_alone ct__law_alone : Value}
    {f__law_odd_word : Addr} {od__law_odd_word an__law_odd_word : Option Addr} {sl__law_odd_word : Array (Option Value)} {oc__law_odd_word kV__law_odd_word dc__law_odd_word pm__law_odd_word cd__law_odd_word ct__law_odd_word : Value}
    {f__law_other : Addr} {od__law_other an__law_other : Option Addr} {sl__law_other : Array (Option Value)} {oc__law_other kV__law_other dc__law_other pm__law_other cd__law_other ct__law_other : Value}
    {f__law_told : Addr} {od__law_told an__law_told : Option Addr} {sl__law_told : Array (Option Value)} {oc__law_told kV__law_told dc__law_told pm__law_told cd__law_told ct__law_told : Value}
    {f_law : Addr} {od_law an_law : Option Addr} {sl_law : Array (Option Value)} {oc_law kV_law dc_law pm_law cd_law ct_law : Value}
    (z_ValueError : PySem.W.nsIn K mainGlobals "ValueError" = some none)
    (z_abs : PySem.W.nsIn K mainGlobals "abs" = some none)
    (z_all : PySem.W.nsIn K mainGlobals "all" = some none)
    (z_bool : PySem.W.nsIn K mainGlobals "bool" = some none)
    (z_int : PySem.W.nsIn K mainGlobals "int" = some none)
    (z_isinstance : PySem.W.nsIn K mainGlobals "isinstance" = some none)
    (z_len : PySem.W.nsIn K mainGlobals "len" = some none)
    (z_list : PySem.W.nsIn K mainGlobals "list" = some none)
    (z_max : PySem.W.nsIn K mainGlobals "max" = some none)
    (z_min : PySem.W.nsIn K mainGlobals "min" = some none)
    (z_range : PySem.W.nsIn K mainGlobals "range" = some none)
    (z_set : PySem.W.nsIn K mainGlobals "set" = some none)
    (z_sorted : PySem.W.nsIn K mainGlobals "sorted" = some none)
    (z_str : PySem.W.nsIn K mainGlobals "str" = some none)
    (z_tuple : PySem.W.nsIn K mainGlobals "tuple" = some none)
    (c1_NOUGHT : PySem.W.nsIn K mainGlobals "NOUGHT" = some (some (.ref q_NOUGHT)))
    (c2_NOUGHT : K.lookup q_NOUGHT = some ⟨.type "tuple", od_NOUGHT, .seq #[.int 0 t_NOUGHT, .int 1 u_NOUGHT] n_NOUGHT, sl_NOUGHT⟩)
    (c1_FIGURES : PySem.W.nsIn K mainGlobals "FIGURES" = some (some (.str "0123456789" t_FIGURES)))
    (c1_NONE : PySem.W.nsIn K mainGlobals "NONE" = some (some (.str "none" t_NONE)))
    (c1_MOST_TERMS : PySem.W.nsIn K mainGlobals "MOST_TERMS" = some (some (.int 9 t_MOST_TERMS)))
    (c1_MOST_POWER : PySem.W.nsIn K mainGlobals "MOST_POWER" = some (some (.int 6 t_MOST_POWER)))
    (c1_MOST_FIGURES : PySem.W.nsIn K mainGlobals "MOST_FIGURES" = some (some (.int 6 t_MOST_FIGURES)))
    (cg_MeetError : PySem.W.nsIn K mainGlobals "MeetError" = some (some (.ref cc_MeetError)))
    (cg_NoRatio : PySem.W.nsIn K mainGlobals "NoRatio" = some (some (.ref cc_NoRatio)))
    (cg_Nought : PySem.W.nsIn K mainGlobals "Nought" = some (some (.ref cc_Nought)))
    (cg_NoTable : PySem.W.nsIn K mainGlobals "NoTable" = some (some (.ref cc_NoTable)))
    (cg_NoStep : PySem.W.nsIn K mainGlobals "NoStep" = some (some (.ref cc_NoStep)))
    (cg_NoSide : PySem.W.nsIn K mainGlobals "NoSide" = some (some (.ref cc_NoSide)))
    (cg_NoPart : PySem.W.nsIn K mainGlobals "NoPart" = some (some (.ref cc_NoPart)))
    (cg_TooMuch : PySem.W.nsIn K mainGlobals "TooMuch" = some (some (.ref cc_TooMuch)))
    (cg_CommonPart : PySem.W.nsIn K mainGlobals "CommonPart" = some (some (.ref cc_CommonPart)))
    (cg_NoText : PySem.W.nsIn K mainGlobals "NoText" = some (some (.ref cc_NoText)))
    (cg_NoName : PySem.W.nsIn K mainGlobals "NoName" = some (some (.ref cc_NoName)))
    (hd_NoRatio : PySem.W.hasDictIn K cc_NoRatio = true)
    (ht_NoRatio : PySem.W.typeIn K (.ref cc_NoRatio) = some (.type "type"))
    (hd_Nought : PySem.W.hasDictIn K cc_Nought = true)
    (ht_Nought : PySem.W.typeIn K (.ref cc_Nought) = some (.type "type"))
    (hd_NoTable : PySem.W.hasDictIn K cc_NoTable = true)
    (ht_NoTable : PySem.W.typeIn K (.ref cc_NoTable) = some (.type "type"))
    (hd_NoStep : PySem.W.hasDictIn K cc_NoStep = true)
    (ht_NoStep : PySem.W.typeIn K (.ref cc_NoStep) = some (.type "type"))
    (hd_MeetError : PySem.W.hasDictIn K cc_MeetError = true)
    (ht_MeetError : PySem.W.typeIn K (.ref cc_MeetError) = some (.type "type"))
    (hd_NoSide : PySem.W.hasDictIn K cc_NoSide = true)
    (ht_NoSide : PySem.W.typeIn K (.ref cc_NoSide) = some (.type "type"))
    (hd_NoPart : PySem.W.hasDictIn K cc_NoPart = true)
    (ht_NoPart : PySem.W.typeIn K (.ref cc_NoPart) = some (.type "type"))
    (hd_TooMuch : PySem.W.hasDictIn K cc_TooMuch = true)
    (ht_TooMuch : PySem.W.typeIn K (.ref cc_TooMuch) = some (.type "type"))
    (hd_CommonPart : PySem.W.hasDictIn K cc_CommonPart = true)
    (ht_CommonPart : PySem.W.typeIn K (.ref cc_CommonPart) = some (.type "type"))
    (hd_NoText : PySem.W.hasDictIn K cc_NoText = true)
    (ht_NoText : PySem.W.typeIn K (.ref cc_NoText) = some (.type "type"))
    (hd_NoName : PySem.W.hasDictIn K cc_NoName = true)
    (ht_NoName : PySem.W.typeIn K (.ref cc_NoName) = some (.type "type"))
    (hb_NoText : PySem.W.subIn K (.ref cc_NoText) (.type "BaseException") = some true)
    (sb_NoText_NoRatio : PySem.W.subIn K (.ref cc_NoText) (.ref cc_NoRatio) = some false)
    (sb_NoText_Nought : PySem.W.subIn K (.ref cc_NoText) (.ref cc_Nought) = some false)
    (sb_NoText_NoTable : PySem.W.subIn K (.ref cc_NoText) (.ref cc_NoTable) = some false)
    (sb_NoText_NoStep : PySem.W.subIn K (.ref cc_NoText) (.ref cc_NoStep) = some false)
    (sb_NoText_MeetError : PySem.W.subIn K (.ref cc_NoText) (.ref cc_MeetError) = some true)
    (sb_NoText_NoSide : PySem.W.subIn K (.ref cc_NoText) (.ref cc_NoSide) = some false)
    (sb_NoText_NoPart : PySem.W.subIn K (.ref cc_NoText) (.ref cc_NoPart) = some false)
    (sb_NoText_TooMuch : PySem.W.subIn K (.ref cc_NoText) (.ref cc_TooMuch) = some false)
    (sb_NoText_CommonPart : PySem.W.subIn K (.ref cc_NoText) (.ref cc_CommonPart) = some false)
    (sb_NoText_NoText : PySem.W.subIn K (.ref cc_NoText) (.ref cc_NoText) = some true)
    (sb_NoText_NoName : PySem.W.subIn K (.ref cc_NoText) (.ref cc_NoName) = some false)
    (sv_NoText : PySem.W.subIn K (.ref cc_NoText) (.type "ValueError") = some true)
    (yq_NoText : PySem.W.excIn K cc_NoText [.type "ValueError", .type "Exception", .type "BaseException", .type "object"] "ValueError.__new__" = true)
    (ykC_NoText : PySem.W.keepIn K (.ref cc_NoText) = true)
    (yr1_NoText : PySem.W.subIn K (.ref cc_NoText) (.type "BaseException") = some true)
    (yr2_NoText : PySem.W.typeIn K (.ref cc_NoText) = some (.type "type"))
    (yx1_NoText : PySem.W.findIn K (.ref cc_NoText) "__getattribute__" = some (some (.builtin "BaseException.__getattribute__")))
    (yx2_NoText : PySem.W.findIn K (.ref cc_NoText) "__getattr__" = some none)
    (yx3_NoText : PySem.W.hasDictIn K cc_NoText = true)
    (yx4_NoText : PySem.W.findIn K (.ref cc_NoText) "__class__" = some (some (.builtin "object.__class__")))
    (yx5_NoText : PySem.W.specialIn K (.builtin "object.__class__") "__get__" = some (some (.builtin "getset_descriptor.__get__")))
    (yx6_NoText : PySem.W.takesIn K (.builtin "object.__class__") = some true)
    (yx7_NoText : PySem.W.mroIn K cc_NoText (.type "object") = some true)
    (a_is_whole : PySem.W.nsIn K mainGlobals "is_whole" = some (some (.ref f_is_whole)))
    (l_is_whole : K.lookup f_is_whole = some ⟨oc_is_whole, od_is_whole, .func (PySem.W.fnOf "is_whole" "is_whole" (defArgs st_is_whole) (defBody st_is_whole) (defScope st_is_whole) .none kV_is_whole dc_is_whole pm_is_whole an_is_whole cd_is_whole ct_is_whole), sl_is_whole⟩)
    (c_is_whole : PySem.W.codeIn K cd_is_whole "is_whole" = true)
    (k_is_whole : PySem.W.keepIn K (.ref f_is_whole) = true)
    (a_divisor : PySem.W.nsIn K mainGlobals "divisor" = some (some (.ref f_divisor)))
    (l_divisor : K.lookup f_divisor = some ⟨oc_divisor, od_divisor, .func (PySem.W.fnOf "divisor" "divisor" (defArgs st_divisor) (defBody st_divisor) (defScope st_divisor) .none kV_divisor dc_divisor pm_divisor an_divisor cd_divisor ct_divisor), sl_divisor⟩)
    (c_divisor : PySem.W.codeIn K cd_divisor "divisor" = true)
    (k_divisor : PySem.W.keepIn K (.ref f_divisor) = true)
    (a_is_ratio : PySem.W.nsIn K mainGlobals "is_ratio" = some (some (.ref f_is_ratio)))
    (l_is_ratio : K.lookup f_is_ratio = some ⟨oc_is_ratio, od_is_ratio, .func (PySem.W.fnOf "is_ratio" "is_ratio" (defArgs st_is_ratio) (defBody st_is_ratio) (defScope st_is_ratio) .none kV_is_ratio dc_is_ratio pm_is_ratio an_is_ratio cd_is_ratio ct_is_ratio), sl_is_ratio⟩)
    (c_is_ratio : PySem.W.codeIn K cd_is_ratio "is_ratio" = true)
    (k_is_ratio : PySem.W.keepIn K (.ref f_is_ratio) = true)
    (a_is_term : PySem.W.nsIn K mainGlobals "is_term" = some (some (.ref f_is_term)))
    (l_is_term : K.lookup f_is_term = some ⟨oc_is_term, od_is_term, .func (PySem.W.fnOf "is_term" "is_term" (defArgs st_is_term) (defBody st_is_term) (defScope st_is_term) .none kV_is_term dc_is_term pm_is_term an_is_term cd_is_term ct_is_term), sl_is_term⟩)
    (c_is_term : PySem.W.codeIn K cd_is_term "is_term" = true)
    (k_is_term : PySem.W.keepIn K (.ref f_is_term) = true)
    (a_is_sum : PySem.W.nsIn K mainGlobals "is_sum" = some (some (.ref f_is_sum)))
    (l_is_sum : K.lookup f_is_sum = some ⟨oc_is_sum, od_is_sum, .func (PySem.W.fnOf "is_sum" "is_sum" (defArgs st_is_sum) (defBody st_is_sum) (defScope st_is_sum) .none kV_is_sum dc_is_sum pm_is_sum an_is_sum cd_is_sum ct_is_sum), sl_is_sum⟩)
    (c_is_sum : PySem.W.codeIn K cd_is_sum "is_sum" = true)
    (k_is_sum : PySem.W.keepIn K (.ref f_is_sum) = true)
    (a_read_figures : PySem.W.nsIn K mainGlobals "read_figures" = some (some (.ref f_read_figures)))
    (l_read_figures : K.lookup f_read_figures = some ⟨oc_read_figures, od_read_figures, .func (PySem.W.fnOf "read_figures" "read_figures" (defArgs st_read_figures) (defBody st_read_figures) (defScope st_read_figures) .none kV_read_figures dc_read_figures pm_read_figures an_read_figures cd_read_figures ct_read_figures), sl_read_figures⟩)
    (c_read_figures : PySem.W.codeIn K cd_read_figures "read_figures" = true)
    (k_read_figures : PySem.W.keepIn K (.ref f_read_figures) = true)
    (a_read_whole : PySem.W.nsIn K mainGlobals "read_whole" = some (some (.ref f_read_whole)))
    (l_read_whole : K.lookup f_read_whole = some ⟨oc_read_whole, od_read_whole, .func (PySem.W.fnOf "read_whole" "read_whole" (defArgs st_read_whole) (defBody st_read_whole) (defScope st_read_whole) .none kV_read_whole dc_read_whole pm_read_whole an_read_whole cd_read_whole ct_read_whole), sl_read_whole⟩)
    (c_read_whole : PySem.W.codeIn K cd_read_whole "read_whole" = true)
    (k_read_whole : PySem.W.keepIn K (.ref f_read_whole) = true)
    (a_read_power : PySem.W.nsIn K mainGlobals "read_power" = some (some (.ref f_read_power)))
    (l_read_power : K.lookup f_read_power = some ⟨oc_read_power, od_read_power, .func (PySem.W.fnOf "read_power" "read_power" (defArgs st_read_power) (defBody st_read_power) (defScope st_read_power) .none kV_read_power dc_read_power pm_read_power an_read_power cd_read_power ct_read_power), sl_read_power⟩)
    (c_read_power : PySem.W.codeIn K cd_read_power "read_power" = true)
    (k_read_power : PySem.W.keepIn K (.ref f_read_power) = true)
    (a_read_ratio : PySem.W.nsIn K mainGlobals "read_ratio" = some (some (.ref f_read_ratio)))
    (l_read_ratio : K.lookup f_read_ratio = some ⟨oc_read_ratio, od_read_ratio, .func (PySem.W.fnOf "read_ratio" "read_ratio" (defArgs st_read_ratio) (defBody st_read_ratio) (defScope st_read_ratio) .none kV_read_ratio dc_read_ratio pm_read_ratio an_read_ratio cd_read_ratio ct_read_ratio), sl_read_ratio⟩)
    (c_read_ratio : PySem.W.codeIn K cd_read_ratio "read_ratio" = true)
    (k_read_ratio : PySem.W.keepIn K (.ref f_read_ratio) = true)
    (a_read_term : PySem.W.nsIn K mainGlobals "read_term" = some (some (.ref f_read_term)))
    (l_read_term : K.lookup f_read_term = some ⟨oc_read_term, od_read_term, .func (PySem.W.fnOf "read_term" "read_term" (defArgs st_read_term) (defBody st_read_term) (defScope st_read_term) .none kV_read_term dc_read_term pm_read_term an_read_term cd_read_term ct_read_term), sl_read_term⟩)
    (c_read_term : PySem.W.codeIn K cd_read_term "read_term" = true)
    (k_read_term : PySem.W.keepIn K (.ref f_read_term) = true)
    (a_read : PySem.W.nsIn K mainGlobals "read" = some (some (.ref f_read)))
    (l_read : K.lookup f_read = some ⟨oc_read, od_read, .func (PySem.W.fnOf "read" "read" (defArgs st_read) (defBody st_read) (defScope st_read) .none kV_read dc_read pm_read an_read cd_read ct_read), sl_read⟩)
    (c_read : PySem.W.codeIn K cd_read "read" = true)
    (k_read : PySem.W.keepIn K (.ref f_read) = true)
    (a__law_purse : PySem.W.nsIn K mainGlobals "_law_purse" = some (some (.ref f__law_purse)))
    (l__law_purse : K.lookup f__law_purse = some ⟨oc__law_purse, od__law_purse, .func (PySem.W.fnOf "_law_purse" "_law_purse" (defArgs st__law_purse) (defBody st__law_purse) (defScope st__law_purse) .none kV__law_purse dc__law_purse pm__law_purse an__law_purse cd__law_purse ct__law_purse), sl__law_purse⟩)
    (c__law_purse : PySem.W.codeIn K cd__law_purse "_law_purse" = true)
    (k__law_purse : PySem.W.keepIn K (.ref f__law_purse) = true)
    (a__law_take : PySem.W.nsIn K mainGlobals "_law_take" = some (some (.ref f__law_take)))
    (l__law_take : K.lookup f__law_take = some ⟨oc__law_take, od__law_take, .func (PySem.W.fnOf "_law_take" "_law_take" (defArgs st__law_take) (defBody st__law_take) (defScope st__law_take) .none kV__law_take dc__law_take pm__law_take an__law_take cd__law_take ct__law_take), sl__law_take⟩)
    (c__law_take : PySem.W.codeIn K cd__law_take "_law_take" = true)
    (k__law_take : PySem.W.keepIn K (.ref f__law_take) = true)
    (a__law_share : PySem.W.nsIn K mainGlobals "_law_share" = some (some (.ref f__law_share)))
    (l__law_share : K.lookup f__law_share = some ⟨oc__law_share, od__law_share, .func (PySem.W.fnOf "_law_share" "_law_share" (defArgs st__law_share) (defBody st__law_share) (defScope st__law_share) .none kV__law_share dc__law_share pm__law_share an__law_share cd__law_share ct__law_share), sl__law_share⟩)
    (c__law_share : PySem.W.codeIn K cd__law_share "_law_share" = true)
    (k__law_share : PySem.W.keepIn K (.ref f__law_share) = true)
    (a__law_ratio : PySem.W.nsIn K mainGlobals "_law_ratio" = some (some (.ref f__law_ratio)))
    (l__law_ratio : K.lookup f__law_ratio = some ⟨oc__law_ratio, od__law_ratio, .func (PySem.W.fnOf "_law_ratio" "_law_ratio" (defArgs st__law_ratio) (defBody st__law_ratio) (defScope st__law_ratio) .none kV__law_ratio dc__law_ratio pm__law_ratio an__law_ratio cd__law_ratio ct__law_ratio), sl__law_ratio⟩)
    (c__law_ratio : PySem.W.codeIn K cd__law_ratio "_law_ratio" = true)
    (k__law_ratio : PySem.W.keepIn K (.ref f__law_ratio) = true)
    (a__law_sum : PySem.W.nsIn K mainGlobals "_law_sum" = some (some (.ref f__law_sum)))
    (l__law_sum : K.lookup f__law_sum = some ⟨oc__law_sum, od__law_sum, .func (PySem.W.fnOf "_law_sum" "_law_sum" (defArgs st__law_sum) (defBody st__law_sum) (defScope st__law_sum) .none kV__law_sum dc__law_sum pm__law_sum an__law_sum cd__law_sum ct__law_sum), sl__law_sum⟩)
    (c__law_sum : PySem.W.codeIn K cd__law_sum "_law_sum" = true)
    (k__law_sum : PySem.W.keepIn K (.ref f__law_sum) = true)
    (a__law_number_text : PySem.W.nsIn K mainGlobals "_law_number_text" = some (some (.ref f__law_number_text)))
    (l__law_number_text : K.lookup f__law_number_text = some ⟨oc__law_number_text, od__law_number_text, .func (PySem.W.fnOf "_law_number_text" "_law_number_text" (defArgs st__law_number_text) (defBody st__law_number_text) (defScope st__law_number_text) .none kV__law_number_text dc__law_number_text pm__law_number_text an__law_number_text cd__law_number_text ct__law_number_text), sl__law_number_text⟩)
    (c__law_number_text : PySem.W.codeIn K cd__law_number_text "_law_number_text" = true)
    (k__law_number_text : PySem.W.keepIn K (.ref f__law_number_text) = true)
    (a__law_text : PySem.W.nsIn K mainGlobals "_law_text" = some (some (.ref f__law_text)))
    (l__law_text : K.lookup f__law_text = some ⟨oc__law_text, od__law_text, .func (PySem.W.fnOf "_law_text" "_law_text" (defArgs st__law_text) (defBody st__law_text) (defScope st__law_text) .none kV__law_text dc__law_text pm__law_text an__law_text cd__law_text ct__law_text), sl__law_text⟩)
    (c__law_text : PySem.W.codeIn K cd__law_text "_law_text" = true)
    (k__law_text : PySem.W.keepIn K (.ref f__law_text) = true)
    (a__law_whole_of : PySem.W.nsIn K mainGlobals "_law_whole_of" = some (some (.ref f__law_whole_of)))
    (l__law_whole_of : K.lookup f__law_whole_of = some ⟨oc__law_whole_of, od__law_whole_of, .func (PySem.W.fnOf "_law_whole_of" "_law_whole_of" (defArgs st__law_whole_of) (defBody st__law_whole_of) (defScope st__law_whole_of) .none kV__law_whole_of dc__law_whole_of pm__law_whole_of an__law_whole_of cd__law_whole_of ct__law_whole_of), sl__law_whole_of⟩)
    (c__law_whole_of : PySem.W.codeIn K cd__law_whole_of "_law_whole_of" = true)
    (k__law_whole_of : PySem.W.keepIn K (.ref f__law_whole_of) = true)
    (a__law_number_of : PySem.W.nsIn K mainGlobals "_law_number_of" = some (some (.ref f__law_number_of)))
    (l__law_number_of : K.lookup f__law_number_of = some ⟨oc__law_number_of, od__law_number_of, .func (PySem.W.fnOf "_law_number_of" "_law_number_of" (defArgs st__law_number_of) (defBody st__law_number_of) (defScope st__law_number_of) .none kV__law_number_of dc__law_number_of pm__law_number_of an__law_number_of cd__law_number_of ct__law_number_of), sl__law_number_of⟩)
    (c__law_number_of : PySem.W.codeIn K cd__law_number_of "_law_number_of" = true)
    (k__law_number_of : PySem.W.keepIn K (.ref f__law_number_of) = true)
    (a__law_read : PySem.W.nsIn K mainGlobals "_law_read" = some (some (.ref f__law_read)))
    (l__law_read : K.lookup f__law_read = some ⟨oc__law_read, od__law_read, .func (PySem.W.fnOf "_law_read" "_law_read" (defArgs st__law_read) (defBody st__law_read) (defScope st__law_read) .none kV__law_read dc__law_read pm__law_read an__law_read cd__law_read ct__law_read), sl__law_read⟩)
    (c__law_read : PySem.W.codeIn K cd__law_read "_law_read" = true)
    (k__law_read : PySem.W.keepIn K (.ref f__law_read) = true)
    (a__law_spoilt : PySem.W.nsIn K mainGlobals "_law_spoilt" = some (some (.ref f__law_spoilt)))
    (l__law_spoilt : K.lookup f__law_spoilt = some ⟨oc__law_spoilt, od__law_spoilt, .func (PySem.W.fnOf "_law_spoilt" "_law_spoilt" (defArgs st__law_spoilt) (defBody st__law_spoilt) (defScope st__law_spoilt) .none kV__law_spoilt dc__law_spoilt pm__law_spoilt an__law_spoilt cd__law_spoilt ct__law_spoilt), sl__law_spoilt⟩)
    (c__law_spoilt : PySem.W.codeIn K cd__law_spoilt "_law_spoilt" = true)
    (k__law_spoilt : PySem.W.keepIn K (.ref f__law_spoilt) = true)
    (a__law_alone : PySem.W.nsIn K mainGlobals "_law_alone" = some (some (.ref f__law_alone)))
    (l__law_alone : K.lookup f__law_alone = some ⟨oc__law_alone, od__law_alone, .func (PySem.W.fnOf "_law_alone" "_law_alone" (defArgs st__law_alone) (defBody st__law_alone) (defScope st__law_alone) .none kV__law_alone dc__law_alone pm__law_alone an__law_alone cd__law_alone ct__law_alone), sl__law_alone⟩)
    (c__law_alone : PySem.W.codeIn K cd__law_alone "_law_alone" = true)
    (k__law_alone : PySem.W.keepIn K (.ref f__law_alone) = true)
    (a__law_odd_word : PySem.W.nsIn K mainGlobals "_law_odd_word" = some (some (.ref f__law_odd_word)))
    (l__law_odd_word : K.lookup f__law_odd_word = some ⟨oc__law_odd_word, od__law_odd_word, .func (PySem.W.fnOf "_law_odd_word" "_law_odd_word" (defArgs st__law_odd_word) (defBody st__law_odd_word) (defScope st__law_odd_word) .none kV__law_odd_word dc__law_odd_word pm__law_odd_word an__law_odd_word cd__law_odd_word ct__law_odd_word), sl__law_odd_word⟩)
    (c__law_odd_word : PySem.W.codeIn K cd__law_odd_word "_law_odd_word" = true)
    (k__law_odd_word : PySem.W.keepIn K (.ref f__law_odd_word) = true)
    (a__law_other : PySem.W.nsIn K mainGlobals "_law_other" = some (some (.ref f__law_other)))
    (l__law_other : K.lookup f__law_other = some ⟨oc__law_other, od__law_other, .func (PySem.W.fnOf "_law_other" "_law_other" (defArgs st__law_other) (defBody st__law_other) (defScope st__law_other) .none kV__law_other dc__law_other pm__law_other an__law_other cd__law_other ct__law_other), sl__law_other⟩)
    (c__law_other : PySem.W.codeIn K cd__law_other "_law_other" = true)
    (k__law_other : PySem.W.keepIn K (.ref f__law_other) = true)
    (a__law_told : PySem.W.nsIn K mainGlobals "_law_told" = some (some (.ref f__law_told)))
    (l__law_told : K.lookup f__law_told = some ⟨oc__law_told, od__law_told, .func (PySem.W.fnOf "_law_told" "_law_told" (defArgs st__law_told) (defBody st__law_told) (defScope st__law_told) .none kV__law_told dc__law_told pm__law_told an__law_told cd__law_told ct__law_told), sl__law_told⟩)
    (c__law_told : PySem.W.codeIn K cd__law_told "_law_told" = true)
    (k__law_told : PySem.W.keepIn K (.ref f__law_told) = true)
    (a_law : PySem.W.nsIn K mainGlobals "law" = some (some (.ref f_law)))
    (l_law : K.lookup f_law = some ⟨oc_law, od_law, .func (PySem.W.fnOf "law" "law" (defArgs st_law) (defBody st_law) (defScope st_law) .none kV_law dc_law pm_law an_law cd_law ct_law), sl_law⟩)
    (c_law : PySem.W.codeIn K cd_law "law" = true)
    (k_law : PySem.W.keepIn K (.ref f_law) = true)
    : ∃ fd : FuncData, (∀ (s : Shared) (v : Value), BindsTo s fd ⟨[v], []⟩ [("_law_script", v)]) ∧ ∀ base : Heap, K.In base → base.Ns mainGlobals mg → FnOk l.prog w K mg base CX0 7 fa fd P_law (spD K [false] ev_law) := by
  have e := hfa.symm.trans (PySem.W.mg_of X G a_law)
  cases e
  exact ⟨_, fun s v => .of_eq rfl, fun base _ _ => ok_law (mk X G z_ValueError z_abs z_all z_bool z_int z_isinstance z_len z_list z_max z_min z_range z_set z_sorted z_str z_tuple c1_NOUGHT c2_NOUGHT c1_FIGURES c1_NONE c1_MOST_TERMS c1_MOST_POWER c1_MOST_FIGURES cg_MeetError cg_NoRatio cg_Nought cg_NoTable cg_NoStep cg_NoSide cg_NoPart cg_TooMuch cg_CommonPart cg_NoText cg_NoName hd_NoRatio ht_NoRatio hd_Nought ht_Nought hd_NoTable ht_NoTable hd_NoStep ht_NoStep hd_MeetError ht_MeetError hd_NoSide ht_NoSide hd_NoPart ht_NoPart hd_TooMuch ht_TooMuch hd_CommonPart ht_CommonPart hd_NoText ht_NoText hd_NoName ht_NoName hb_NoText sb_NoText_NoRatio sb_NoText_Nought sb_NoText_NoTable sb_NoText_NoStep sb_NoText_MeetError sb_NoText_NoSide sb_NoText_NoPart sb_NoText_TooMuch sb_NoText_CommonPart sb_NoText_NoText sb_NoText_NoName sv_NoText yq_NoText ykC_NoText yr1_NoText yr2_NoText yx1_NoText yx2_NoText yx3_NoText yx4_NoText yx5_NoText yx6_NoText yx7_NoText a_is_whole l_is_whole c_is_whole k_is_whole a_divisor l_divisor c_divisor k_divisor a_is_ratio l_is_ratio c_is_ratio k_is_ratio a_is_term l_is_term c_is_term k_is_term a_is_sum l_is_sum c_is_sum k_is_sum a_read_figures l_read_figures c_read_figures k_read_figures a_read_whole l_read_whole c_read_whole k_read_whole a_read_power l_read_power c_read_power k_read_power a_read_ratio l_read_ratio c_read_ratio k_read_ratio a_read_term l_read_term c_read_term k_read_term a_read l_read c_read k_read a__law_purse l__law_purse c__law_purse k__law_purse a__law_take l__law_take c__law_take k__law_take a__law_share l__law_share c__law_share k__law_share a__law_ratio l__law_ratio c__law_ratio k__law_ratio a__law_sum l__law_sum c__law_sum k__law_sum a__law_number_text l__law_number_text c__law_number_text k__law_number_text a__law_text l__law_text c__law_text k__law_text a__law_whole_of l__law_whole_of c__law_whole_of k__law_whole_of a__law_number_of l__law_number_of c__law_number_of k__law_number_of a__law_read l__law_read c__law_read k__law_read a__law_spoilt l__law_spoilt c__law_spoilt k__law_spoilt a__law_alone l__law_alone c__law_alone k__law_alone a__law_odd_word l__law_odd_word c__law_odd_word k__law_odd_word a__law_other l__law_other c__law_other k__law_other a__law_told l__law_told c__law_told k__law_told a_law l_law c_law k_law)⟩
end Lw
open PySem PySem.W PyProof.Rows
set_option maxHeartbeats 0 in
theorem PySem.Challenge.cw_mixedmeets_k75_no_sums_written_holds : PySem.Challenge.rw_mixedmeets_k75_no_sums_written.Holds := by
  w_on; o_law; k_head; (case hw => w_witness2)
  k_fill
  refine L2.walk_ofB (l := PySem.Challenge.rw_mixedmeets_k75_no_sums_written) (n := 63) (k := 7) (x := "_law_script") (CX := fun _ => L2.CX0) (sp := fun w => Dv.spD _ [false] Lw.ev_law) rfl (by decide) rfl ⟨rfl, by decide, by decide⟩ (fun w h Y => PySem.W.kIn_of Y) ?F (fun _ _ a ns hl hb _ hS => Dv.law_sp (Lw.law_true ns hl fun z hz => Dv.bits_of (hb z hz)) hS) (fun _ _ _ _ _ h => h)
  case F =>
    intro w mg fa h KX G hmg
    refine' Lw.all_mk KX G hmg ?z_ValueError ?z_abs ?z_all ?z_bool ?z_int ?z_isinstance ?z_len ?z_list ?z_max ?z_min ?z_range ?z_set ?z_sorted ?z_str ?z_tuple ?c1_NOUGHT ?c2_NOUGHT ?c1_FIGURES ?c1_NONE ?c1_MOST_TERMS ?c1_MOST_POWER ?c1_MOST_FIGURES ?cg_MeetError ?cg_NoRatio ?cg_Nought ?cg_NoTable ?cg_NoStep ?cg_NoSide ?cg_NoPart ?cg_TooMuch ?cg_CommonPart ?cg_NoText ?cg_NoName ?hd_NoRatio ?ht_NoRatio ?hd_Nought ?ht_Nought ?hd_NoTable ?ht_NoTable ?hd_NoStep ?ht_NoStep ?hd_MeetError ?ht_MeetError ?hd_NoSide ?ht_NoSide ?hd_NoPart ?ht_NoPart ?hd_TooMuch ?ht_TooMuch ?hd_CommonPart ?ht_CommonPart ?hd_NoText ?ht_NoText ?hd_NoName ?ht_NoName ?hb_NoText ?sb_NoText_NoRatio ?sb_NoText_Nought ?sb_NoText_NoTable ?sb_NoText_NoStep ?sb_NoText_MeetError ?sb_NoText_NoSide ?sb_NoText_NoPart ?sb_NoText_TooMuch ?sb_NoText_CommonPart ?sb_NoText_NoText ?sb_NoText_NoName ?sv_NoText ?yq_NoText ?ykC_NoText ?yr1_NoText ?yr2_NoText ?yx1_NoText ?yx2_NoText ?yx3_NoText ?yx4_NoText ?yx5_NoText ?yx6_NoText ?yx7_NoText ?a_is_whole ?l_is_whole ?c_is_whole ?k_is_whole ?a_divisor ?l_divisor ?c_divisor ?k_divisor ?a_is_ratio ?l_is_ratio ?c_is_ratio ?k_is_ratio ?a_is_term ?l_is_term ?c_is_term ?k_is_term ?a_is_sum ?l_is_sum ?c_is_sum ?k_is_sum ?a_read_figures ?l_read_figures ?c_read_figures ?k_read_figures ?a_read_whole ?l_read_whole ?c_read_whole ?k_read_whole ?a_read_power ?l_read_power ?c_read_power ?k_read_power ?a_read_ratio ?l_read_ratio ?c_read_ratio ?k_read_ratio ?a_read_term ?l_read_term ?c_read_term ?k_read_term ?a_read ?l_read ?c_read ?k_read ?a__law_purse ?l__law_purse ?c__law_purse ?k__law_purse ?a__law_take ?l__law_take ?c__law_take ?k__law_take ?a__law_share ?l__law_share ?c__law_share ?k__law_share ?a__law_ratio ?l__law_ratio ?c__law_ratio ?k__law_ratio ?a__law_sum ?l__law_sum ?c__law_sum ?k__law_sum ?a__law_number_text ?l__law_number_text ?c__law_number_text ?k__law_number_text ?a__law_text ?l__law_text ?c__law_text ?k__law_text ?a__law_whole_of ?l__law_whole_of ?c__law_whole_of ?k__law_whole_of ?a__law_number_of ?l__law_number_of ?c__law_number_of ?k__law_number_of ?a__law_read ?l__law_read ?c__law_read ?k__law_read ?a__law_spoilt ?l__law_spoilt ?c__law_spoilt ?k__law_spoilt ?a__law_alone ?l__law_alone ?c__law_alone ?k__law_alone ?a__law_odd_word ?l__law_odd_word ?c__law_odd_word ?k__law_odd_word ?a__law_other ?l__law_other ?c__law_other ?k__law_other ?a__law_told ?l__law_told ?c__law_told ?k__law_told ?a_law ?l_law ?c_law ?k_law
    (case z_ValueError => k_is); (case z_abs => k_is); (case z_all => k_is); (case z_bool => k_is); (case z_int => k_is); (case z_isinstance => k_is); (case z_len => k_is); (case z_list => k_is); (case z_max => k_is); (case z_min => k_is); (case z_range => k_is); (case z_set => k_is); (case z_sorted => k_is); (case z_str => k_is); (case z_tuple => k_is); (case c1_NOUGHT => k_is); (case c2_NOUGHT => k_is); (case c1_FIGURES => k_is); (case c1_NONE => k_is); (case c1_MOST_TERMS => k_is); (case c1_MOST_POWER => k_is); (case c1_MOST_FIGURES => k_is); (case cg_MeetError => k_is); (case cg_NoRatio => k_is); (case cg_Nought => k_is); (case cg_NoTable => k_is); (case cg_NoStep => k_is); (case cg_NoSide => k_is); (case cg_NoPart => k_is); (case cg_TooMuch => k_is); (case cg_CommonPart => k_is); (case cg_NoText => k_is); (case cg_NoName => k_is); (case hd_NoRatio => k_is); (case ht_NoRatio => k_is); (case hd_Nought => k_is); (case ht_Nought => k_is); (case hd_NoTable => k_is); (case ht_NoTable => k_is); (case hd_NoStep => k_is); (case ht_NoStep => k_is); (case hd_MeetError => k_is); (case ht_MeetError => k_is); (case hd_NoSide => k_is); (case ht_NoSide => k_is); (case hd_NoPart => k_is); (case ht_NoPart => k_is); (case hd_TooMuch => k_is); (case ht_TooMuch => k_is); (case hd_CommonPart => k_is); (case ht_CommonPart => k_is); (case hd_NoText => k_is); (case ht_NoText => k_is); (case hd_NoName => k_is); (case ht_NoName => k_is); (case hb_NoText => k_is); (case sb_NoText_NoRatio => k_is); (case sb_NoText_Nought => k_is); (case sb_NoText_NoTable => k_is); (case sb_NoText_NoStep => k_is); (case sb_NoText_MeetError => k_is); (case sb_NoText_NoSide => k_is); (case sb_NoText_NoPart => k_is); (case sb_NoText_TooMuch => k_is); (case sb_NoText_CommonPart => k_is); (case sb_NoText_NoText => k_is); (case sb_NoText_NoName => k_is); (case sv_NoText => k_is); (case yq_NoText => k_exc); (case ykC_NoText => k_is); (case yr1_NoText => k_is); (case yr2_NoText => k_is); (case yx1_NoText => k_is); (case yx2_NoText => k_is); (case yx3_NoText => k_is); (case yx4_NoText => k_is); (case yx5_NoText => k_is); (case yx6_NoText => k_is); (case yx7_NoText => k_is); (case a_is_whole => k_is); (case l_is_whole => k_is); (case c_is_whole => k_is); (case k_is_whole => k_is); (case a_divisor => k_is); (case l_divisor => k_is); (case c_divisor => k_is); (case k_divisor => k_is); (case a_is_ratio => k_is); (case l_is_ratio => k_is); (case c_is_ratio => k_is); (case k_is_ratio => k_is); (case a_is_term => k_is); (case l_is_term => k_is); (case c_is_term => k_is); (case k_is_term => k_is); (case a_is_sum => k_is); (case l_is_sum => k_is); (case c_is_sum => k_is); (case k_is_sum => k_is); (case a_read_figures => k_is); (case l_read_figures => k_is); (case c_read_figures => k_is); (case k_read_figures => k_is); (case a_read_whole => k_is); (case l_read_whole => k_is); (case c_read_whole => k_is); (case k_read_whole => k_is); (case a_read_power => k_is); (case l_read_power => k_is); (case c_read_power => k_is); (case k_read_power => k_is); (case a_read_ratio => k_is); (case l_read_ratio => k_is); (case c_read_ratio => k_is); (case k_read_ratio => k_is); (case a_read_term => k_is); (case l_read_term => k_is); (case c_read_term => k_is); (case k_read_term => k_is); (case a_read => k_is); (case l_read => k_is); (case c_read => k_is); (case k_read => k_is); (case a__law_purse => k_is); (case l__law_purse => k_is); (case c__law_purse => k_is); (case k__law_purse => k_is); (case a__law_take => k_is); (case l__law_take => k_is); (case c__law_take => k_is); (case k__law_take => k_is); (case a__law_share => k_is); (case l__law_share => k_is); (case c__law_share => k_is); (case k__law_share => k_is); (case a__law_ratio => k_is); (case l__law_ratio => k_is); (case c__law_ratio => k_is); (case k__law_ratio => k_is); (case a__law_sum => k_is); (case l__law_sum => k_is); (case c__law_sum => k_is); (case k__law_sum => k_is); (case a__law_number_text => k_is); (case l__law_number_text => k_is); (case c__law_number_text => k_is); (case k__law_number_text => k_is); (case a__law_text => k_is); (case l__law_text => k_is); (case c__law_text => k_is); (case k__law_text => k_is); (case a__law_whole_of => k_is); (case l__law_whole_of => k_is); (case c__law_whole_of => k_is); (case k__law_whole_of => k_is); (case a__law_number_of => k_is); (case l__law_number_of => k_is); (case c__law_number_of => k_is); (case k__law_number_of => k_is); (case a__law_read => k_is); (case l__law_read => k_is); (case c__law_read => k_is); (case k__law_read => k_is); (case a__law_spoilt => k_is); (case l__law_spoilt => k_is); (case c__law_spoilt => k_is); (case k__law_spoilt => k_is); (case a__law_alone => k_is); (case l__law_alone => k_is); (case c__law_alone => k_is); (case k__law_alone => k_is); (case a__law_odd_word => k_is); (case l__law_odd_word => k_is); (case c__law_odd_word => k_is); (case k__law_odd_word => k_is); (case a__law_other => k_is); (case l__law_other => k_is); (case c__law_other => k_is); (case k__law_other => k_is); (case a__law_told => k_is); (case l__law_told => k_is); (case c__law_told => k_is); (case k__law_told => k_is); (case a_law => k_is); (case l_law => k_is); (case c_law => k_is); (case k_law => k_is)
