import PyProof.Rows.All
import Wide.All
import OpenK.AllK
import Wide.FinOn
import HandS.TupSets
import HandS.SortRule
import HandS.SortInts
import HandS.ForMost
import HandS.Wide
import HandS.IsInst
import HandS.TupLe
import HandS.ExcCtx
import HandS.ExcIs
import HandS.ExcOwn
import HandS.WordsExc
import HandS.HotCalls
import HandS.TryOnly
import KE.KDictKeyed
import HandS.Deep
import HandS.TupAny
import HandS.Style
import HandS.Small
import HandS.Conv
import HandS.More
import KE.KDictSum
import KE.SortData
import HandS.DictEq
import PyProof.DictFindH
import PyProof.DictRoadsH
import HandS.Zip
import KE.KDictZip
import PyProof.ListNew
import PyProof.CollectWalk
import PyProof.AttrMiss
import KE.DataMinMax
import HandS.EndBits
import KE.DatumIndex
import PySem.Challenge.RW_mixedmeets_k98_whole_heights_of_known_po
set_option Elab.async false
set_option linter.all false
set_option maxRecDepth 100000
set_option maxHeartbeats 4000000
namespace Big
open PySem PySem.Spec PyProof.Rows L2
def X5 : Nat → Nat
  | 0 => 0
  | n + 1 => 5 * X5 n + 1
theorem X5_add (a : Nat) : ∀ n, X5 (a + n) = 5 ^ n * X5 a + X5 n
  | 0 => by simp [X5]
  | n + 1 => by
    show 5 * X5 (a + n) + 1 = 5 ^ (n + 1) * X5 a + (5 * X5 n + 1)
    rw [X5_add a n, Nat.pow_succ, Nat.mul_add]
    have : 5 * (5 ^ n * X5 a) = 5 ^ n * 5 * X5 a := by rw [← Nat.mul_assoc, Nat.mul_comm 5]
    omega
theorem five4 : ∀ n, ∃ d, 5 ^ n = 4 * d + 1
  | 0 => ⟨0, rfl⟩
  | n + 1 => by
    obtain ⟨d, h⟩ := five4 n
    exact ⟨5 * d + 1, by rw [Nat.pow_succ, h]; omega⟩
theorem odd_mul (c d : Nat) : (2 * c + 1) * (2 * d + 1) = 2 * (2 * c * d + c + d) + 1 := by
  rw [Nat.mul_add, Nat.add_mul, Nat.mul_one]
  have : 2 * c * (2 * d) = 2 * (2 * c * d) := by rw [Nat.mul_left_comm]
  omega
theorem X5_two : ∀ k, ∃ c, X5 (2 ^ k) = 2 ^ k * (2 * c + 1)
  | 0 => ⟨0, rfl⟩
  | k + 1 => by
    obtain ⟨c, h⟩ := X5_two k
    obtain ⟨d, h5⟩ := five4 (2 ^ k)
    refine ⟨2 * c * d + c + d, ?_⟩
    rw [← odd_mul, Nat.pow_succ, Nat.mul_two, X5_add, h, h5]
    have e : (4 * d + 1) * (2 ^ k * (2 * c + 1)) + 2 ^ k * (2 * c + 1) = (2 ^ k * (2 * c + 1)) * (4 * d + 1 + 1) := by rw [Nat.mul_add (2 ^ k * (2 * c + 1)) (4 * d + 1) 1, Nat.mul_one, Nat.mul_comm (4 * d + 1)]
    rw [e, show 4 * d + 1 + 1 = 2 * (2 * d + 1) by omega, ← Nat.mul_two, Nat.mul_assoc, Nat.mul_assoc, Nat.mul_left_comm (2 * c + 1) 2]
theorem X5_onto : ∀ k j, j < 2 ^ k → ∃ n, n < 2 ^ k ∧ X5 n % 2 ^ k = j
  | 0, j, h => ⟨0, by decide, by simp at h; simp [h, X5]⟩
  | k + 1, j, h => by
    have hp : 0 < 2 ^ k := Nat.pow_pos (by decide)
    rw [Nat.pow_succ] at h ⊢
    obtain ⟨n, hn, e⟩ := X5_onto k (j % 2 ^ k) (Nat.mod_lt _ hp)
    obtain ⟨c, hc⟩ := X5_two k
    generalize hN : 2 ^ k = N at *
    have ex : ∀ y, y < N * 2 → y % N = j % N → y = j ∨ (y + N) % (N * 2) = j := fun y hy hm => by
      rcases Nat.lt_or_ge y N with y1 | y1 <;> rcases Nat.lt_or_ge j N with j1 | j1
      · rw [Nat.mod_eq_of_lt y1, Nat.mod_eq_of_lt j1] at hm
        exact .inl hm
      · rw [Nat.mod_eq_of_lt y1, Nat.mod_eq_sub_mod j1, Nat.mod_eq_of_lt (by omega)] at hm
        exact .inr (by rw [Nat.mod_eq_of_lt (by omega)]; omega)
      · rw [Nat.mod_eq_of_lt j1, Nat.mod_eq_sub_mod y1, Nat.mod_eq_of_lt (by omega)] at hm
        exact .inr (by rw [Nat.mod_eq_sub_mod (by omega), Nat.mod_eq_of_lt (by omega)]; omega)
      · rw [Nat.mod_eq_sub_mod y1, Nat.mod_eq_of_lt (by omega), Nat.mod_eq_sub_mod j1, Nat.mod_eq_of_lt (by omega)] at hm
        exact .inl (by omega)
    have hy : X5 n % (N * 2) < N * 2 := Nat.mod_lt _ (by omega)
    rcases ex (X5 n % (N * 2)) hy (by rw [Nat.mod_mul_right_mod]; exact e) with z | z
    · exact ⟨n, by omega, z⟩
    · refine ⟨N + n, by omega, ?_⟩
      obtain ⟨d, h5⟩ := five4 n
      have h5' : 5 ^ n = 2 * (2 * d) + 1 := by omega
      rw [X5_add, hc, h5', Nat.mul_left_comm, odd_mul, Nat.mul_add, Nat.mul_one]
      have e2 : N * (2 * (2 * (2 * d) * c + 2 * d + c)) + N + X5 n = (X5 n + N) + N * 2 * (2 * (2 * d) * c + 2 * d + c) := by
        rw [← Nat.mul_assoc N 2]
        omega
      rw [e2, Nat.add_mul_mod_self_left, ← z, Nat.mod_add_mod]
theorem lcg_X5 (m : Nat) : ∀ n, lcgN m n = X5 n % (m + 1)
  | 0 => rfl
  | n + 1 => by
    show (lcgN m n * 5 + 1) % (m + 1) = (5 * X5 n + 1) % (m + 1)
    rw [lcg_X5 m n, Nat.mul_comm 5, Nat.add_mod, Nat.mul_mod, Nat.mod_mod, ← Nat.mul_mod, ← Nat.add_mod]
/-- the masks that come -/
def MkOk (m : Nat) : Prop := ∃ k, m + 1 = 2 ^ k ∧ 3 ≤ k ∧ k ≤ 17
theorem MkOk.le {m : Nat} (h : MkOk m) : 7 ≤ m ∧ m ≤ 131071 := by
  obtain ⟨k, e, h1, h2⟩ := h
  have a := Nat.pow_le_pow_right (n := 2) (by decide) h1
  have b := Nat.pow_le_pow_right (n := 2) (by decide) h2
  omega
theorem MkOk.odd {m : Nat} (h : MkOk m) : m % 2 = 1 := by
  obtain ⟨k, e, h1, h2⟩ := h
  obtain ⟨j, rfl⟩ : ∃ j, k = j + 1 := ⟨k - 1, by omega⟩
  rw [Nat.pow_succ] at e
  omega
theorem mk_all {m : Nat} (hm : MkOk m) {j : Nat} (hj : j ≤ m) : ∃ b, b ≤ m ∧ lcgN m b = j := by
  obtain ⟨k, e, _, _⟩ := hm
  obtain ⟨n, hn, h⟩ := X5_onto k j (by omega)
  exact ⟨n, by omega, by rw [lcg_X5, e]; exact h⟩
theorem mk_round {m : Nat} (hm : MkOk m) (n : Nat) : lcgN m (m + 1 + n) = lcgN m n := by
  obtain ⟨k, e, _, _⟩ := hm
  obtain ⟨c, hc⟩ := X5_two k
  rw [lcg_X5, lcg_X5, e, X5_add, hc, Nat.mul_left_comm, Nat.add_comm, Nat.add_mul_mod_self_left]
theorem mk_any {m : Nat} (hm : MkOk m) {i j : Nat} (hi : i ≤ m) (hj : j ≤ m) : ∃ k, k ≤ m ∧ lcgI m i k = j := by
  obtain ⟨x, hx, rfl⟩ := mk_all hm hi
  obtain ⟨y, hy, rfl⟩ := mk_all hm hj
  rcases Nat.lt_or_ge y x with c | c
  · exact ⟨m + 1 + y - x, by omega, by rw [lcgN_add, show x + (m + 1 + y - x) = m + 1 + y by omega, mk_round hm]⟩
  · exact ⟨y - x, by omega, by rw [lcgN_add, show x + (y - x) = y by omega]⟩
theorem mk_run {m : Nat} (hm : MkOk m) (h : Int) {j : Nat} (hj : j ≤ m) : ∃ n, n ≤ m + 12 ∧ runI m (SetTable.bits h) n = j := by
  obtain ⟨k, hk, e⟩ := mk_any hm (runI_le m (SetTable.bits h) 12) hj
  exact ⟨12 + k, by omega, by rw [runI_tail (bits_lt h), e]⟩
theorem in_table {m : Nat} (h : Int) (k : Nat) : way m h k ≤ m := by
  have hi : SetTable.bits h % (m + 1) ≤ m := Nat.lt_succ_iff.mp (Nat.mod_lt _ (Nat.succ_pos m))
  have r := runEnd_bd hi
  have := nth_in (m := m) k (runAt m (SetTable.bits h % (m + 1)) (SetTable.bits h)) (by
    unfold runAt
    dsimp only
    omega)
  unfold way
  omega
theorem nat_sub : ∀ {l m : List Nat}, l.Nodup → (∀ x, x ∈ l → x ∈ m) → l.length ≤ m.length
  | [], m, _, _ => Nat.zero_le _
  | x :: l, m, h, hm => by
    obtain ⟨h1, h2⟩ := List.nodup_cons.mp h
    have := nat_sub (l := l) (m := m.erase x) h2 fun y hy => (List.mem_erase_of_ne (fun z : y = x => h1 (by rw [← z]; exact hy))).mpr (hm y (List.mem_cons_of_mem _ hy))
    rw [List.length_erase_of_mem (hm x List.mem_cons_self)] at this
    have := List.length_pos_of_mem (hm x List.mem_cons_self)
    simp only [List.length_cons]
    omega
theorem lcg_inj {m i a b : Nat} (hm : MkOk m) (hi : i ≤ m) (hab : a < b) (hb : b ≤ m) : lcgI m i a ≠ lcgI m i b := fun z => by
  have ln : (((List.range (m + 1)).filter fun x => x != b).map (lcgI m i)).length < m + 1 := by
    rw [List.length_map]
    have h1 : ((List.range (m + 1)).filter fun x => x != b).length < (List.range (m + 1)).length := by
      refine Nat.lt_of_le_of_ne (List.length_filter_le _ _) fun c => ?_
      have := (List.length_filter_eq_length_iff.mp c) b (List.mem_range.mpr (by omega))
      simp at this
    rw [List.length_range] at h1
    exact h1
  obtain ⟨j, j1, j2⟩ := st_missing _ _ ln
  obtain ⟨k, k1, k2⟩ := mk_any hm hi (Nat.lt_succ_iff.mp j1)
  refine j2 (List.mem_map.mpr ?_)
  by_cases c : k = b
  · exact ⟨a, List.mem_filter.mpr ⟨List.mem_range.mpr (by omega), by simp; omega⟩, by rw [z, ← c]; exact k2⟩
  · exact ⟨k, List.mem_filter.mpr ⟨List.mem_range.mpr (by omega), by simpa using c⟩, k2⟩
structure Tab (t : SetTable) (hs : List Int) : Prop where
  up : Ris t.place.toList
  nod : t.dummies = #[]
  len : t.place.toList.length = hs.length
  msk : MkOk t.mask
  low : ∀ x, x ∈ t.place.toList → x ≤ t.mask
  met : ∀ (i : Nat) (h : Int) (j : Nat), hs[i]? = some h → t.place.toList[i]? = some j → ∃ k, way t.mask h k = j ∧ ∀ q, q < k → way t.mask h q ∈ t.place.toList
section
variable {t : SetTable} {hs : List Int}
/-- the way meets an empty slot, soon -/
theorem Tab.hole (T : Tab t hs) (hl : hs.length ≤ t.mask) (h : Int) : ∃ K, K < 10 * SetTable.turns t.mask ∧ K < 10 * (hs.length + 13) ∧ way t.mask h K ∉ t.place.toList ∧ ∀ q, q < K → way t.mask h q ∈ t.place.toList := by
  have e0 : runI t.mask (SetTable.bits h) 12 ≤ t.mask := runI_le t.mask (SetTable.bits h) 12
  obtain ⟨k, k1, k2⟩ : ∃ k, k ≤ hs.length ∧ lcgI t.mask (runI t.mask (SetTable.bits h) 12) k ∉ t.place.toList := by
    refine Classical.byContradiction fun c => ?_
    have all : ∀ k, k ≤ hs.length → lcgI t.mask (runI t.mask (SetTable.bits h) 12) k ∈ t.place.toList := fun k hk => Classical.byContradiction fun z => c ⟨k, hk, z⟩
    have nd : ((List.range (hs.length + 1)).map (lcgI t.mask (runI t.mask (SetTable.bits h) 12))).Nodup := by
      refine List.pairwise_map.mpr (List.Pairwise.imp_of_mem (fun {x y} hx hy hxy => ?_) (List.pairwise_lt_range (n := hs.length + 1)))
      have := List.mem_range.mp hy
      exact lcg_inj T.msk e0 hxy (by omega)
    have := nat_sub nd (m := t.place.toList) fun x hx => by
      obtain ⟨k, hk, rfl⟩ := List.mem_map.mp hx
      exact all k (by have := List.mem_range.mp hk; omega)
    rw [List.length_map, List.length_range, T.len] at this
    omega
  obtain ⟨k', hk', e2⟩ := run_nth t.mask (SetTable.bits h) (12 + k)
  have at_k : way t.mask h k' ∉ t.place.toList := by
    unfold way
    rw [e2]
    show runI t.mask (SetTable.bits h) (12 + k) ∉ _
    rw [runI_tail (bits_lt h)]
    exact k2
  obtain ⟨K, h1, h2, h3⟩ := st_least (p := fun q => way t.mask h q ∉ t.place.toList) k' at_k
  exact ⟨K, by unfold SetTable.turns; omega, by omega, h2, fun q hq => Classical.byContradiction fun z => h3 q hq z⟩
/-- what has this hash stands ahead of that slot -/
theorem Tab.ahead (T : Tab t hs) {h : Int} {K i j : Nat} (hK : way t.mask h K ∉ t.place.toList) (hi : hs[i]? = some h) (hj : t.place.toList[i]? = some j) : ∃ k, k < K ∧ way t.mask h k = j := by
  obtain ⟨k, e, hb⟩ := T.met i h j hi hj
  refine ⟨k, Nat.lt_of_not_le fun c => ?_, e⟩
  rcases Nat.lt_or_eq_of_le c with c | c
  · exact hK (hb K c)
  · exact hK (by rw [c, e]; exact List.mem_of_getElem? hj)
/-- a slot more -/
theorem Tab.add (T : Tab t hs) {h : Int} {K p : Nat} (hK : way t.mask h K ∉ t.place.toList) (hb : ∀ q, q < K → way t.mask h q ∈ t.place.toList) (hp : SetTable.below t.place (way t.mask h K) = p) :
    p ≤ hs.length ∧ Tab (t.put (way t.mask h K)).1 (hs.take p ++ h :: hs.drop p) := by
  have cut := below_cut T.up (way t.mask h K)
  have pl : p ≤ t.place.toList.length := by rw [← hp, Array.length_toList]; exact cut.1
  have ph : p ≤ hs.length := by rw [← T.len]; exact pl
  have new : t.place[SetTable.below t.place (way t.mask h K)]? ≠ some (way t.mask h K) := fun e => hK (List.mem_of_getElem? (by rw [Array.getElem?_toList]; exact e))
  have e1 : (t.put (way t.mask h K)).1.place.toList = t.place.toList.take p ++ way t.mask h K :: t.place.toList.drop p := by rw [put_place, hp]
  have old : ∀ x, x ∈ t.place.toList → x ∈ (t.put (way t.mask h K)).1.place.toList := fun x hx => by
    rw [e1]
    exact mem_ins.mpr (.inr hx)
  refine ⟨ph, ris_insert T.up new, put_dm T.nod _, ?_, T.msk, fun x hx => ?_, fun i g j h1 h2 => ?_⟩
  · rw [e1, len_ins _ pl, len_ins _ ph, T.len]
  · rw [e1] at hx
    rcases mem_ins.mp hx with z | z
    · rw [z]
      exact in_table h K
    · exact T.low x z
  · rw [tins_get _ ph] at h1
    rw [e1, tins_get _ pl] at h2
    have go : ∀ i, hs[i]? = some g → t.place.toList[i]? = some j → ∃ k, way t.mask g k = j ∧ ∀ q, q < k → way t.mask g q ∈ (t.put (way t.mask h K)).1.place.toList := fun i a b => by
      obtain ⟨k, e, z⟩ := T.met i g j a b
      exact ⟨k, e, fun q hq => old _ (z q hq)⟩
    rcases Nat.lt_trichotomy i p with c | c | c
    · rw [if_pos c] at h1 h2
      exact go i h1 h2
    · rw [if_neg (by omega), if_pos c] at h1 h2
      cases h1
      cases h2
      exact ⟨K, rfl, fun q hq => old _ (hb q hq)⟩
    · rw [if_neg (by omega), if_neg (by omega)] at h1 h2
      exact go (i - 1) h1 h2
theorem put_fill (T : Tab t hs) {h : Int} {K : Nat} (hK : way t.mask h K ∉ t.place.toList) : (t.put (way t.mask h K)).1.fill = hs.length + 1 := by
  have pl : SetTable.below t.place (way t.mask h K) ≤ t.place.toList.length := by rw [Array.length_toList]; exact (below_cut T.up _).1
  have e := len_ins t.place.toList pl (way t.mask h K)
  rw [← put_place, T.len, Array.length_toList] at e
  unfold SetTable.fill
  rw [e, put_dm T.nod]
  rfl
end
theorem seat {m : Nat} (hm : MkOk m) (owner : Array (Option Nat)) (h : Int) {j : Nat} (hj : j ≤ m) (hf : oAt owner j = none) :
    ∃ K, SetTable.layClean.free m owner (SetTable.turns m) (SetTable.bits h % (m + 1)) (SetTable.bits h) = some (way m h K) ∧ oAt owner (way m h K) = none ∧ ∀ q, q < K → oAt owner (way m h q) ≠ none := by
  obtain ⟨n, n1, n2⟩ := mk_run hm h hj
  have at_j : way m h (off m (SetTable.bits h % (m + 1)) (SetTable.bits h) n) = j := by
    unfold way
    rw [nth_off, itL_run]
    exact n2
  obtain ⟨K, k1, k2, k3⟩ := st_least (p := fun q => oAt owner (way m h q) = none) _ (show oAt owner (way m h (off m (SetTable.bits h % (m + 1)) (SetTable.bits h) n)) = none by rw [at_j]; exact hf)
  refine ⟨K, free_spec m owner _ n _ _ K (by unfold SetTable.turns; omega) k1 (fun q hq => ?_) (Option.isNone_iff_eq_none.mpr k2), k2, k3⟩
  exact Bool.eq_false_iff.mpr fun z => k3 q hq (Option.isNone_iff_eq_none.mp z)
theorem seated {m : Nat} (hm : MkOk m) {done : List Int} {owner : Array (Option Nat)} (W : Own m done owner) (hl : done.length ≤ m) (h : Int) :
    ∃ j, SetTable.layClean.free m owner (SetTable.turns m) (SetTable.bits h % (m + 1)) (SetTable.bits h) = some j ∧ Own m (done ++ [h]) (owner.setIfInBounds j (some done.length)) := by
  obtain ⟨ps, l1, l2⟩ := W.ps
  obtain ⟨j0, a1, a2⟩ := st_missing ps (m + 1) (by omega)
  have free0 : oAt owner j0 = none := Classical.byContradiction fun z => a2 (l2 j0 (by omega) z)
  obtain ⟨K, e1, e2, e3⟩ := seat hm owner h (Nat.lt_succ_iff.mp a1) free0
  generalize hw : way m h K = j at e1 e2
  have jm : j ≤ m := hw ▸ in_table h K
  have here := oAt_set_self (some done.length) (show j < owner.size by rw [W.sz]; omega)
  have other : ∀ i, i ≠ j → oAt (owner.setIfInBounds j (some done.length)) i = oAt owner i := fun i hi => oAt_set_ne _ hi
  have still : ∀ i, oAt owner i ≠ none → oAt (owner.setIfInBounds j (some done.length)) i ≠ none := fun i hi => by
    by_cases c : i = j
    · rw [c, here]
      simp
    · rw [other i c]
      exact hi
  refine ⟨j, e1, by rw [Array.size_setIfInBounds, W.sz], fun i k hi e => ?_, fun k hk => ?_, ⟨j :: ps, by simp [l1], fun i hi e => ?_⟩⟩
  · by_cases c : i = j
    · rw [c, here] at e
      cases e
      exact ⟨h, K, by simp, by rw [hw, c], fun q hq => still _ (e3 q hq)⟩
    · rw [other i c] at e
      obtain ⟨g, G, b1, b2, b3⟩ := W.at_ i k hi e
      exact ⟨g, G, by rw [List.getElem?_append_left (List.getElem?_eq_some_iff.mp b1).1]; exact b1, b2, fun q hq => still _ (b3 q hq)⟩
  · by_cases c : k = done.length
    · exact ⟨j, jm, by rw [here, c]⟩
    · obtain ⟨i, b1, b2⟩ := W.all k (by simp at hk; omega)
      exact ⟨i, b1, by rw [other i (fun z => by rw [z, e2] at b2; cases b2)]; exact b2⟩
  · by_cases c : i = j
    · exact c ▸ List.mem_cons_self
    · rw [other i c] at e
      exact List.mem_cons_of_mem _ (l2 i hi e)
theorem seats {m : Nat} (hm : MkOk m) : ∀ (rest done : List Int) (owner : Array (Option Nat)), Own m done owner → done.length + rest.length ≤ m →
    ∃ o2, rest.foldl (stepF m) (some (owner, done.length)) = some (o2, done.length + rest.length) ∧ Own m (done ++ rest) o2
  | [], done, owner, W, _ => ⟨owner, rfl, by simpa using W⟩
  | h :: rest, done, owner, W, hl => by
    simp only [List.length_cons] at hl
    obtain ⟨j, e, W1⟩ := seated hm W (by omega) h
    obtain ⟨o2, f, W2⟩ := seats hm rest (done ++ [h]) _ W1 (by simp; omega)
    refine ⟨o2, ?_, by simpa using W2⟩
    rw [List.foldl_cons, stepF_some e]
    simp only [List.length_append, List.length_cons, List.length_nil] at f
    simp only [List.length_cons]
    rw [f]
    congr 2
    omega
theorem laid {m : Nat} (hm : MkOk m) {hs : Array Int} (hn : hs.size ≤ m) : ∃ owner, SetTable.layClean m hs = some owner ∧ Own m hs.toList owner := by
  obtain ⟨o, f, W⟩ := seats hm hs.toList [] _ (Own.init m) (by simpa using hn)
  exact ⟨o, by rw [layClean_eq]; simp only [List.length_nil] at f; rw [f]; rfl, W⟩
theorem relaid {t : SetTable} {hs : Array Int} {wanted M : Nat} (hw : SetTable.sizeAbove wanted - 1 = M) (hM : MkOk M) (hn : hs.size ≤ M) :
    ∃ t' order, t.relaid hs wanted = some (t', order) ∧ order.toList.Perm (List.range hs.size) ∧ Tab t' (order.toList.map fun i => hs.getD i 0) ∧ t'.mask = M ∧ t'.led = t.led ∧ t'.plain = t.plain := by
  obtain ⟨owner, e, W⟩ := laid hM hn
  subst hw
  have hr := relaid_eq t hs wanted
  rw [e] at hr
  generalize SetTable.sizeAbove wanted - 1 = M at *
  have ris := ris_live (fun j => owner.getD j none) (List.range (M + 1)) (by
    unfold Ris
    first | exact List.pairwise_lt_range | exact List.pairwise_lt_range _)
  have r1 : Ris ((liveOf M owner).map (·.1)) := ris.1
  have once : ((liveOf M owner).map (·.1)).Nodup := r1.imp fun h => Nat.ne_of_lt h
  have seatOf : ∀ k, k < hs.size → k ∈ (liveOf M owner).map (·.2) := fun k hk => by
    obtain ⟨j, b1, b2⟩ := W.all k (by simpa using hk)
    exact List.mem_map.mpr ⟨(j, k), (mem_live W.sz).mpr ⟨b1, b2⟩, rfl⟩
  have many : (liveOf M owner).length = hs.size := by
    obtain ⟨ps, l1, l2⟩ := W.ps
    have a := nat_nodup_len _ ps once fun x hx => by
      obtain ⟨⟨y, k⟩, hq, rfl⟩ := List.mem_map.mp hx
      have := (mem_live W.sz).mp hq
      exact l2 y this.1 (by rw [this.2]; simp)
    have b := nat_nodup_len (List.range hs.size) ((liveOf M owner).map (·.2)) List.nodup_range fun k hk => seatOf k (List.mem_range.mp hk)
    simp at a b l1
    omega
  refine ⟨_, _, hr, perm_range _ _ (by simpa using many) (fun k hk => by simpa using seatOf k hk), ⟨r1, rfl, by simp [tabOf], hM, fun x hx => ?_, fun i h j h1 h2 => ?_⟩, rfl, rfl, rfl⟩
  · have hx : x ∈ (liveOf M owner).map (·.1) := hx
    obtain ⟨⟨y, k⟩, hq, rfl⟩ := List.mem_map.mp hx
    exact ((mem_live W.sz).mp hq).1
  · have h1 : (((liveOf M owner).map (·.2)).map fun i => hs.getD i 0)[i]? = some h := h1
    have h2 : ((liveOf M owner).map (·.1))[i]? = some j := h2
    rw [List.map_map, List.getElem?_map] at h1
    rw [List.getElem?_map] at h2
    obtain ⟨⟨y, k⟩, hq, rfl⟩ := Option.map_eq_some_iff.mp h2
    rw [hq] at h1
    have h1 : hs.getD k 0 = h := Option.some.inj h1
    obtain ⟨b1, b2⟩ := (mem_live W.sz).mp (List.mem_of_getElem? hq)
    obtain ⟨g, K, c1, c2, c3⟩ := W.at_ y k b1 b2
    have eg : g = h := by
      rw [← h1, Array.getD_eq_getD_getElem?, ← Array.getElem?_toList, c1]
      rfl
    subst eg
    refine ⟨K, c2, fun q hq => ?_⟩
    show way M g q ∈ (liveOf M owner).map (·.1)
    cases z : oAt owner (way M g q) with
    | none => exact absurd z (c3 q hq)
    | some k2 => exact List.mem_map.mpr ⟨(way M g q, k2), (mem_live W.sz).mpr ⟨in_table g q, z⟩, rfl⟩
end Big
namespace Big
open PySem PySem.Spec PyProof.Rows L2
section
variable {P : Program} {w : World} {A : Around} {E : Value → Shared → Prop} {s : Shared} {a : Addr} {L : List (Addr × List Int)} {es : Array (Int × Value)} {ep : Nat} {t : SetTable}
abbrev hsh (P : Program) (w : World) (L : List (Addr × List Int)) : List Int := L.map fun p => thash P w p.2
/-- the set at a has the tuples L -/
structure SetB (P : Program) (w : World) (h : Heap) (a : Addr) (L : List (Addr × List Int)) (es : Array (Int × Value)) (ep : Nat) (t : SetTable) : Prop where
  stands : ∃ o, h.get? a = some o ∧ o.ExactSet ∧ o.data = .set es ep t
  ent : es.toList = rowsOf P w L
  tb : Tab t (hsh P w L)
  one : (L.map (·.2)).Nodup
  tp : ∀ p, p ∈ L → IsT P w h p.2 p.1
  pln : t.plain = true
  ld : w.params.followText "set-order" = true ∨ t.led = true
  rm : L.length * 5 < t.mask * 3
theorem ent_len (h : es.toList = rowsOf P w L) : es.size = L.length := by
  have := congrArg List.length h
  simpa [rowsOf] using this
theorem ent_at (h : es.toList = rowsOf P w L) {i : Nat} {p : Addr × List Int} (hp : L[i]? = some p) : es[i]? = some (thash P w p.2, Value.ref p.1) := by
  rw [← Array.getElem?_toList, h]
  simp [rowsOf, hp]
theorem fits_of (h1 : t.dummies = #[]) (h2 : t.place.toList.length = L.length) (h3 : es.size = L.length) (h4 : L.length ≤ t.mask) : t.fits es.size = true := by
  rw [Array.length_toList] at h2
  simp [SetTable.fits, SetTable.fill, h1, h2, h3, h4]
theorem SetB.fits (R : SetB P w s.heap a L es ep t) : t.fits es.size = true := by
  have h2 := R.tb.len
  rw [List.length_map] at h2
  exact fits_of R.tb.nod h2 (ent_len R.ent) (by have := R.rm; omega)
/-- the c-th step of the way of a hash -/
abbrev stp (t : SetTable) (g : Int) (c : Nat) : SetTable.Probe := nth t.mask (runAt t.mask (SetTable.bits g % (t.mask + 1)) (SetTable.bits g)) c
theorem stp_more (t : SetTable) (g : Int) (c q : Nat) : nth t.mask (stp t g c) q = stp t g (c + q) := (nth_add t.mask c _ q).symm
theorem stp_dummy (t : SetTable) (g : Int) (c : Nat) : (stp t g c).dummy = none := by
  unfold stp
  induction c with
  | zero => rfl
  | succ c ih =>
    rw [nth_succ]
    unfold adv
    split <;> exact ih
/-- the search, from the c-th step on -/
theorem look_from (R : SetB P w s.heap a L es ep t) {x : Addr} {k : List Int} {g : Int} (hg : g = thash P w k) (hx : IsT P w s.heap k x) (hu : A.units < cLine) {K : Nat} (hf : K < 10 * SetTable.turns t.mask)
    (hK : way t.mask g K ∉ t.place.toList) (hB : ∀ c, c < K → way t.mask g c ∈ t.place.toList) {Q : SetFound → Shared → Prop} (yes : k ∈ L.map (·.2) → Q (.there none) s) (no : k ∉ L.map (·.2) → Q (.free (way t.mask g K) false) s) :
    ∀ (f c : Nat) (st : Option SetTable.Probe), st.getD (t.probeStart g) = stp t g c → c ≤ K → K - c < f →
      (∀ (i : Nat) (p : Addr × List Int), L[i]? = some p → p.2 = k → ∃ c', c ≤ c' ∧ c' < K ∧ t.place.toList[i]? = some (way t.mask g c')) →
      wpAny (model P w) A (setSearchFrom a (.ref x) g true f st) Q E s := by
  obtain ⟨o, ho, _, hd⟩ := R.stands
  intro f
  induction f with
  | zero => intro c st _ _ h _; omega
  | succ f ih =>
    intro c st hst hc hfu left
    have hsh : ∀ (i : Nat) (p : Addr × List Int), L[i]? = some p → (es[i]?.map (·.1)).getD 0 = thash P w p.2 := fun i p hp => by
      rw [ent_at R.ent hp]
      rfl
    rw [setSearchFrom_succ]
    refine wpAny_bind (wpAny_setState_of ho hd R.fits ?_)
    dsimp only
    refine wp_if_neg (show ¬ t.gaveWay = true by unfold SetTable.gaveWay; rw [R.tb.msk.odd]; decide) ?_
    try refine wpAny_bind (wpAny_pure ?_)
    have met := go_spec t R.tb.up R.tb.nod (fun i => (es[i]?.map (·.1)).getD 0) g (10 * SetTable.turns t.mask) (K - c) (stp t g c) (stp_dummy t g c) (by omega) (fun q hq => by rw [stp_more]; exact hB (c + q) (by omega)) (by rw [stp_more, Nat.add_sub_cancel' hc]; exact hK)
    have pr : t.probe (fun i => (es[i]?.map (·.1)).getD 0) g (st.getD (t.probeStart g)) = SetTable.probe.go t (fun i => (es[i]?.map (·.1)).getD 0) g (10 * SetTable.turns t.mask) (stp t g c) := by rw [hst]; rfl
    simp only [stp_more] at met
    rcases met with ⟨q, i, hq, hi, hh, fresh, e⟩ | ⟨fresh, e⟩
    · rw [pr, e]
      dsimp only
      have il : i < L.length := by
        have := (List.getElem?_eq_some_iff.mp hi).1
        rw [R.tb.len, List.length_map] at this
        exact this
      obtain ⟨p, hp⟩ : ∃ p, L[i]? = some p := ⟨_, List.getElem?_eq_getElem il⟩
      have pm : p ∈ L := List.mem_of_getElem? hp
      have live : t.slot (way t.mask g (c + q)) = .live i := slot_live R.tb.up hi
      have go : wpAny (model P w) A (searchRest a (.ref x) g true f es t (stp t g (c + q)).j i (stp t g (c + (q + 1)))) Q E s := by
        unfold searchRest
        rw [ent_at R.ent hp]
        dsimp only
        refine wpAny_bind (wpAny_holding (wpAny_eqBool_tuple hu (R.tp p pm) hx (wpAny_bind (wpAny_setState_of ho hd R.fits ?_))))
        dsimp only
        by_cases ek : p.2 = k
        · exact wp_if_pos (by simp [ek]) (wpAny_pure (yes (List.mem_map.mpr ⟨p, pm, ek⟩)))
        · refine wp_if_neg (by simp [ek]) ?_
          try refine wpAny_bind (wpAny_pure ?_)
          rw [sameMem]
          dsimp only
          have live2 : t.slot (stp t g (c + q)).j = .live i := live
          simp only [if_true, live2, ent_at R.ent hp]
          refine wpAny_bind (wpAny_isSame_ref_self (wpAny_bind (wpAny_pure ?_)))
          simp only [if_true]
          refine wp_if_neg (by simp [ek]) (ih (c + (q + 1)) _ rfl (by omega) (by omega) fun i0 p0 h0 k0 => ?_)
          obtain ⟨c', l1, l2, l3⟩ := left i0 p0 h0 k0
          refine ⟨c', Nat.le_of_not_lt fun z => ?_, l2, l3⟩
          rcases Nat.lt_or_eq_of_le (show c' ≤ c + q by omega) with z | z
          · refine fresh (c' - c) i0 (by omega) (by rw [Nat.add_sub_cancel' l1]; exact l3) ?_
            rw [hsh i0 p0 h0, k0, hg]
          · rw [z] at l3
            have l4 := slot_live R.tb.up l3
            rw [live] at l4
            cases l4
            rw [hp] at h0
            cases h0
            exact ek k0
      by_cases led : t.led = true
      · refine wp_if_neg (by simp [led]) ?_
        try refine wpAny_bind (wpAny_pure ?_)
        exact go
      · refine wp_if_pos (by simp [led]) (wpAny_bind (seen_tup hx (fun y hy => ?_) ?_))
        · obtain ⟨e, he, rfl⟩ := List.mem_map.mp hy
          have he2 : e ∈ es.toList := by
            have : e ∈ es ∧ e.1 = g := by simpa using he
            simpa using this.1
          rw [R.ent] at he2
          obtain ⟨p2, hp2, rfl⟩ := List.mem_map.mp he2
          exact ⟨p2.2, p2.1, rfl, R.tp p2 hp2⟩
        · refine wp_if_neg (by decide) ?_
          try refine wpAny_bind (wpAny_pure ?_)
          exact go
    · rw [pr, e]
      dsimp only
      have eK : (stp t g (c + (K - c))).j = way t.mask g K := by rw [Nat.add_sub_cancel' hc]
      rw [eK]
      refine wpAny_pure (no fun hm => ?_)
      obtain ⟨p0, m0, k0⟩ := List.mem_map.mp hm
      obtain ⟨i0, l0, e0⟩ := List.getElem_of_mem m0
      have h0 : L[i0]? = some p0 := by rw [List.getElem?_eq_getElem l0, e0]
      obtain ⟨c', l1, l2, l3⟩ := left i0 p0 h0 k0
      refine fresh (c' - c) i0 (by omega) (by rw [Nat.add_sub_cancel' l1]; exact l3) ?_
      rw [hsh i0 p0 h0, k0, hg]
theorem look (R : SetB P w s.heap a L es ep t) (ml : L.length ≤ 9900) {x : Addr} {k : List Int} (hx : IsT P w s.heap k x) (hu : A.units < cLine) {Q : SetFound → Shared → Prop} (yes : k ∈ L.map (·.2) → Q (.there none) s)
    (no : ∀ K, k ∉ L.map (·.2) → way t.mask (thash P w k) K ∉ t.place.toList → (∀ c, c < K → way t.mask (thash P w k) c ∈ t.place.toList) → Q (.free (way t.mask (thash P w k) K) false) s) :
    wpAny (model P w) A (setSearch a (.ref x) (thash P w k) true) Q E s := by
  obtain ⟨K, b, b2, hK, hB⟩ := R.tb.hole (by have := R.rm; rw [List.length_map]; omega) (thash P w k)
  have big := R.tb.msk.le
  unfold setSearch
  refine look_from R rfl hx hu b hK hB yes (fun z => no K z hK hB) 100000 0 none rfl (Nat.zero_le _) (by rw [List.length_map] at b2; omega) fun i p hp hk => ?_
  have hi : (hsh P w L)[i]? = some (thash P w k) := by simp [hp, hk]
  have il : i < t.place.toList.length := by
    rw [R.tb.len, List.length_map]
    exact (List.getElem?_eq_some_iff.mp hp).1
  obtain ⟨c, c1, c2⟩ := R.tb.ahead hK hi (List.getElem?_eq_getElem il)
  exact ⟨c, Nat.zero_le _, c1, by rw [List.getElem?_eq_getElem il, c2]⟩
theorem size_go (n : Nat) : ∀ (f j : Nat), n < 2 ^ (j + f) → ∃ k, j ≤ k ∧ SetTable.sizeAbove.go n f (2 ^ j) = 2 ^ k ∧ n < 2 ^ k ∧ (k = j ∨ 2 ^ k ≤ 2 * n)
  | 0, j, h => ⟨j, Nat.le_refl _, rfl, h, .inl rfl⟩
  | f + 1, j, h => by
    unfold SetTable.sizeAbove.go
    by_cases c : 2 ^ j ≤ n
    · rw [if_pos c, ← Nat.pow_succ]
      obtain ⟨k, h1, h2, h3, h4⟩ := size_go n f (j + 1) (by rw [show j + 1 + f = j + (f + 1) by omega]; exact h)
      refine ⟨k, by omega, h2, h3, .inr ?_⟩
      rcases h4 with rfl | h4
      · rw [Nat.pow_succ]
        omega
      · exact h4
    · rw [if_neg c]
      exact ⟨j, Nat.le_refl _, rfl, by omega, .inl rfl⟩
theorem size_next {m n : Nat} (hm : MkOk m) (h1 : n * 5 < m * 3) (h2 : (n + 1) * 5 ≥ m * 3) (h3 : n + 1 ≤ 20000) : ∃ M, SetTable.sizeAbove (SetTable.grown (n + 1)) = M + 1 ∧ MkOk M ∧ (n + 1) * 5 < M * 3 := by
  obtain ⟨j, e, j1, j2⟩ := hm
  have hj : j ≤ 15 := by
    apply Classical.byContradiction
    intro c
    have := Nat.pow_le_pow_right (n := 2) (by decide) (show 16 ≤ j by omega)
    omega
  have big := Nat.pow_le_pow_right (n := 2) (by decide) j1
  have g : SetTable.grown (n + 1) = (n + 1) * 4 := by unfold SetTable.grown; rw [if_neg (by omega)]
  obtain ⟨k, k1, k2, k3, k4⟩ := size_go ((n + 1) * 4) 64 3 (Nat.lt_of_lt_of_le (show (n + 1) * 4 < 2 ^ 17 by omega) (Nat.pow_le_pow_right (by decide) (by decide)))
  have ek : k = j + 2 := by
    have a : 2 ^ (j + 2) = 2 ^ j * 4 := by rw [Nat.pow_add]
    have b : 2 ^ (j + 1) = 2 ^ j * 2 := by rw [Nat.pow_succ]
    rcases Nat.lt_trichotomy k (j + 2) with c | c | c
    · have := Nat.pow_le_pow_right (n := 2) (by decide) (show k ≤ j + 1 by omega)
      omega
    · exact c
    · have q := Nat.pow_le_pow_right (n := 2) (by decide) (show j + 3 ≤ k by omega)
      have b3 : 2 ^ (j + 3) = 2 ^ j * 8 := by rw [Nat.pow_add]
      rcases k4 with rfl | k4 <;> omega
  have a : 2 ^ (j + 2) = 2 ^ j * 4 := by rw [Nat.pow_add]
  refine ⟨2 ^ k - 1, ?_, ⟨k, by omega, by omega, by omega⟩, by rw [ek]; omega⟩
  rw [g]
  show SetTable.sizeAbove.go ((n + 1) * 4) 64 8 = _
  have : SetTable.sizeAbove.go ((n + 1) * 4) 64 (2 ^ 3) = 2 ^ k := k2
  rw [show (8 : Nat) = 2 ^ 3 from rfl, this]
  omega
end
end Big
namespace Big
open PySem PySem.Spec PyProof.Rows L2
/-- so many at most -/
abbrev mostB : Nat := 9900
section
variable {P : Program} {w : World} {A : Around} {E : Value → Shared → Prop} {s : Shared} {a : Addr} {L : List (Addr × List Int)} {es : Array (Int × Value)} {ep : Nat} {t : SetTable}
/-- a larger table -/
theorem larger {o : Obj} (g0 : s.heap.get? a = some o) (g1 : o.ExactSet) (g2 : o.data = .set es ep t) (g3 : es.toList = rowsOf P w L) (g4 : t.place.toList.length = L.length) (g5 : t.dummies = #[]) (g6 : L.length ≤ t.mask)
    (g7 : (L.map (·.2)).Nodup) (g8 : ∀ p, p ∈ L → IsT P w s.heap p.2 p.1) (g9 : t.plain = true) (g10 : w.params.followText "set-order" = true ∨ t.led = true) {wanted M : Nat}
    (m1 : SetTable.sizeAbove wanted = M + 1) (m2 : MkOk M) (m3 : L.length * 5 < M * 3) {Q : Unit → Shared → Prop}
    (out : ∀ h2 L2 es2 ep2 t2, Heap.SameBut a s.heap h2 → SetB P w h2 a L2 es2 ep2 t2 → L2.Perm L → Q () { s with heap := h2 }) : wpAny (model P w) A (setRelay a wanted) Q E s := by
  have n0 := ent_len g3
  have mb := m2.le
  obtain ⟨t2, order, e, hp, T, em, el, epl⟩ := relaid (t := t) (hs := es.map (·.1)) (wanted := wanted) (M := M) (by omega) m2 (by rw [Array.size_map, n0]; omega)
  rw [Array.size_map, n0] at hp
  obtain ⟨N, r1, r2, r3⟩ := order_rows L es order g3 hp
  rw [← r3] at T
  have n1 : (order.filterMap (es[·]?)).size = es.size := by
    have q := ent_len r1
    rw [q, r2.length_eq, n0]
  rw [setRelay_eq]
  refine wpAny_bind (wpAny_setState_of g0 g2 (fits_of g5 g4 n0 g6) ?_)
  dsimp only
  refine wp_if_neg (by rw [sizeLine_eq]; omega) ?_
  try refine wpAny_bind (wpAny_pure ?_)
  rw [e]
  dsimp only
  refine wpAny_bind ?_
  refine wp_if_neg (by rw [n1]; simp) ?_
  try refine wpAny_bind (wpAny_pure ?_)
  refine wpAny_pure ?_
  dsimp only
  refine wpAny_storeSet_of g0 g2 ?_ (by rw [n1, n0, sizeLine_eq]; omega)
  have sb : Heap.SameBut a s.heap (s.heap.update a (Obj.putSet (order.filterMap (es[·]?)) t2)) := Heap.SameBut.update ..
  refine out _ N (order.filterMap (es[·]?)) (ep + 1) t2 sb ⟨⟨_, store_at g0 g2, ⟨g1.1, g1.2.1, g1.2.2⟩, rfl⟩, r1, T, (r2.map (·.2)).nodup_iff.mpr g7, fun p hp => isT_same (g8 p (r2.mem_iff.mp hp)) g0 g2 sb, by rw [epl]; exact g9, by rw [el]; exact g10, by rw [r2.length_eq, em]; exact m3⟩ r2
/-- one more -/
theorem put_in (R : SetB P w s.heap a L es ep t) {x : Addr} {k : List Int} (hx : IsT P w s.heap k x) (hu : A.units < cLine) (most : L.length + 1 ≤ mostB) {Q : Bool → Shared → Prop}
    (out : ∀ b h2 L2 es2 ep2 t2, Heap.SameBut a s.heap h2 → SetB P w h2 a L2 es2 ep2 t2 → (k ∈ L.map (·.2) → L2 = L) → (k ∉ L.map (·.2) → L2.Perm ((x, k) :: L)) → Q b { s with heap := h2 }) :
    wpAny (model P w) A (setAddHashed a (.ref x) (thash P w k)) Q E s := by
  obtain ⟨o, g0, g1, g2⟩ := R.stands
  have n0 := ent_len R.ent
  have rm := R.rm
  unfold setAddHashed
  refine wpAny_holding ?_
  rw [show (100000 : Nat) = 99999 + 1 from rfl, setAddHashedIn_succ]
  refine wpAny_bind (wpAny_setState_of g0 g2 R.fits ?_)
  dsimp only
  refine wp_if_neg (by simp [byScan, Value.scannable]) ?_
  try refine wpAny_bind (wpAny_pure ?_)
  refine wpAny_bind (look R (by unfold mostB at most; omega) hx hu (fun hm => ?_) fun K hm hK hb => ?_)
  · dsimp only
    exact wpAny_pure (out false s.heap L es ep t (Heap.SameBut.refl a s.heap) R (fun _ => rfl) fun z => absurd hm z)
  · dsimp only
    refine wpAny_bind (wpAny_setState_of g0 g2 R.fits ?_)
    dsimp only
    have fl := put_fill R.tb hK
    have T := R.tb.add hK hb rfl
    rw [List.length_map] at fl
    have pl : (t.put (way t.mask (thash P w k) K)).1.plain = true := R.pln
    have ld : w.params.followText "set-order" = true ∨ (t.put (way t.mask (thash P w k) K)).1.led = true := R.ld
    have mk : (t.put (way t.mask (thash P w k) K)).1.mask = t.mask := rfl
    have pp : (t.put (way t.mask (thash P w k) K)).2 = SetTable.below t.place (way t.mask (thash P w k) K) := rfl
    obtain ⟨T1, T2⟩ := T
    generalize hpt : t.put (way t.mask (thash P w k) K) = pt at fl T2 pl ld mk pp ⊢
    obtain ⟨t1, p⟩ := pt
    dsimp only at fl T2 pl ld mk pp ⊢
    rw [← pp] at T2 T1
    first
      | (refine wpAny_bind ?_; refine wp_if_pos pl ?_; refine hashBy_tup hx ?_)
      | refine wp_if_pos pl (wpAny_bind (hashBy_tup hx ?_))
    simp only [if_true]
    have ent : (SetTable.insertAt es p (thash P w k, Value.ref x)).toList = rowsOf P w (L.take p ++ (x, k) :: L.drop p) := by rw [SetTable.toList_insertAt, rows_put, R.ent]
    have pm := put_perm L p (x, k)
    have ln : (L.take p ++ (x, k) :: L.drop p).length = L.length + 1 := pm.length_eq
    have hs2 : (hsh P w L).take p ++ thash P w k :: (hsh P w L).drop p = hsh P w (L.take p ++ (x, k) :: L.drop p) := by simp [hsh]
    rw [hs2] at T2
    have one : ((L.take p ++ (x, k) :: L.drop p).map (·.2)).Nodup := by
      refine (pm.map (·.2)).nodup_iff.mpr ?_
      rw [List.map_cons]
      exact List.nodup_cons.mpr ⟨hm, R.one⟩
    generalize SetTable.insertAt es p (thash P w k, Value.ref x) = es1 at ent ⊢
    generalize L.take p ++ (x, k) :: L.drop p = L1 at pm ln T2 one ent
    have n1 := ent_len ent
    have mb := R.tb.msk.le
    refine wpAny_bind (wpAny_storeSet_of g0 g2 ?_ (by rw [n1, ln, sizeLine_eq]; omega))
    have sb : Heap.SameBut a s.heap (s.heap.update a (Obj.putSet es1 t1)) := Heap.SameBut.update ..
    have at1 := store_at (es' := es1) (t' := t1) g0 g2
    generalize s.heap.update a (Obj.putSet es1 t1) = h1 at sb at1 ⊢
    have tp1 : ∀ p, p ∈ L1 → IsT P w h1 p.2 p.1 := fun p hp => by
      rcases List.mem_cons.mp (pm.mem_iff.mp hp) with e | hp
      · rw [e]
        exact isT_same hx g0 g2 sb
      · exact isT_same (R.tp p hp) g0 g2 sb
    have tl := T2.len
    rw [List.length_map] at tl
    by_cases hf : t1.tooFull = true
    · first
        | (refine wpAny_bind ?_; refine wp_if_pos (by simp [hf]) ?_)
        | (refine wp_if_pos (by simp [hf]) ?_; refine wpAny_bind ?_)
      have full : (L.length + 1) * 5 ≥ t.mask * 3 := by
        have q := hf
        unfold SetTable.tooFull at q
        rw [decide_eq_true_eq, fl, mk] at q
        exact q
      rw [n0]
      obtain ⟨M, m1, m2, m3⟩ := size_next R.tb.msk rm full (by unfold mostB at most; omega)
      refine larger (s := { s with heap := h1 }) (t := t1) at1 ⟨g1.1, g1.2.1, g1.2.2⟩ rfl ent tl T2.nod (by rw [ln, mk]; omega) one tp1 pl ld m1 m2 (by rw [ln]; exact m3) ?_
      intro h2 L2 es2 ep2 t2 sb2 R2 pm2
      exact wpAny_pure (out true h2 L2 es2 ep2 t2 (sb.trans sb2) R2 (fun z => absurd z hm) fun _ => pm2.trans pm)
    · first
        | refine wp_if_neg (by simp [hf]) ?_
        | (refine wpAny_bind ?_; refine wp_if_neg (by simp [hf]) ?_; refine wpAny_pure ?_)
      refine wpAny_pure (out true h1 L1 es1 (ep + 1) t1 sb ⟨⟨_, at1, ⟨g1.1, g1.2.1, g1.2.2⟩, rfl⟩, ent, T2, one, tp1, pl, ld, ?_⟩ (fun z => absurd z hm) fun _ => pm)
      have q := hf
      unfold SetTable.tooFull at q
      rw [decide_eq_true_eq, fl] at q
      rw [ln]
      omega
theorem SetB.stay {h h2 : Heap} (R : SetB P w h a L es ep t) (ha : ∀ o, h.get? a = some o → h2.get? a = some o) (ht : ∀ p, p ∈ L → IsT P w h2 p.2 p.1) : SetB P w h2 a L es ep t := by
  obtain ⟨o, ho, r⟩ := R.stands
  exact ⟨⟨o, ha o ho, r⟩, R.ent, R.tb, R.one, ht, R.pln, R.ld, R.rm⟩
theorem set_new {h : Heap} (ho : h.get? a = some { cls := .type "set", dict := none, data := .set #[] 0 (.fresh 0 0 (!w.params.followText "set-order")) }) : SetB P w h a [] #[] 0 (.fresh 0 0 (!w.params.followText "set-order")) := by
  refine ⟨⟨_, ho, ⟨rfl, rfl, rfl⟩, rfl⟩, rfl, ⟨List.Pairwise.nil, rfl, rfl, ⟨3, rfl, by decide, by decide⟩, fun x hx => (by cases hx), fun i h j hi => (by simp at hi)⟩, List.nodup_nil, fun p hp => (by cases hp), rfl, ?_, by show 0 * 5 < 7 * 3; decide⟩
  show _ ∨ (!w.params.followText "set-order") = true
  cases w.params.followText "set-order"
  · exact .inr rfl
  · exact .inl rfl
/-- the loop of set.update -/
theorem fill_up {I : Addr} {fp wr : List Addr} {G : Array GenState → Array GenState → Prop} {n : Nat} {Pv : Nat → Value → Prop} {St : Nat → Shared → Prop} {R : Result → Shared → Prop}
    (W : WalksS P w A.in1 I fp wr G n Pv St) (S : Addr) (hSf : S ∉ fp) (ks : List (Addr × List Int)) (hn : n = ks.length) (most : ks.length ≤ mostB) (hv : ∀ i v, Pv i v → ∃ p, ks[i]? = some p ∧ v = .ref p.1)
    (b0 : Heap) (hk : ∀ p, p ∈ ks → IsT P w b0 p.2 p.1) (hS0 : b0.get? S = none) (hw0 : ∀ b, b ∈ wr → b0.get? b = none) (hu : A.in1.units < cLine) :
    ∀ (j i : Nat) (s : Shared), n - i = j → i ≤ n → St i s → (∀ b o, b0.get? b = some o → s.heap.get? b = some o) → (∃ L es ep t, SetB P w s.heap S L es ep t ∧ Got ks i L) →
      (∀ s' L es ep t, Moved (S :: wr) G s s' → SetB P w s'.heap S L es ep t → Got ks n L → (∀ b o, b0.get? b = some o → s'.heap.get? b = some o) → R (.ok (.ret .none)) s') →
      codeAny (model P w) A (.builtin "set.update.loop" ⟨[.ref S, .ref I], []⟩) R s := by
  have hSw : S ∉ wr := fun z => hSf (W.sub _ z)
  have more : ∀ b, b ∈ wr → b ∈ S :: wr := fun b hb => List.mem_cons_of_mem _ hb
  have stays : ∀ {s s' : Shared}, Moved wr G s s' → (∀ b o, b0.get? b = some o → s.heap.get? b = some o) → ∀ b o, b0.get? b = some o → s'.heap.get? b = some o := fun hm q b o e =>
    hm.heap b o (fun hb => by rw [hw0 b hb] at e; cases e) (q b o e)
  intro j
  induction j with
  | zero =>
    intro i s hj hi hst q ⟨L, es, ep, t, hS, g⟩ hR
    obtain rfl : i = n := by omega
    refine codeAny_builtin F.entry_set_update_loop ?_
    rw [Around.under_plainId F.plain_set_update_loop _]
    show wpAny _ A.in1 (pyNext (.ref I) >>= _) _ _ s
    refine wpAny_bind (W.done s _ _ hst fun s' hm => ?_)
    show wpAny _ A.in1 (ret Value.none) _ _ s'
    have q2 := stays hm q
    exact wpAny_pure (hR s' L es ep t (hm.mono more) (hS.stay (fun o e => hm.heap S o hSw e) fun p hp => isT_keep (hk p (List.mem_of_mem_take (g.sub p hp))) q2) g q2)
  | succ j ih =>
    intro i s hj hi hst q ⟨L, es, ep, t, hS, g⟩ hR
    have lt : i < n := by omega
    refine codeAny_builtin F.entry_set_update_loop ?_
    rw [Around.under_plainId F.plain_set_update_loop _]
    show wpAny _ A.in1 (pyNext (.ref I) >>= _) _ _ s
    refine wpAny_bind (W.item i s _ _ lt hst fun v s' hP hst2 hm => ?_)
    obtain ⟨p, hp, rfl⟩ := hv i v hP
    have q2 := stays hm q
    have hS2 : SetB P w s'.heap S L es ep t := hS.stay (fun o e => hm.heap S o hSw e) fun r hr => isT_keep (hk r (List.mem_of_mem_take (g.sub r hr))) q2
    have hx : IsT P w s'.heap p.2 p.1 := isT_keep (hk p (List.mem_of_getElem? hp)) q2
    show wpAny _ A.in1 (holding [Value.ref p.1] (setAdd S (.ref p.1)) >>= _) _ _ s'
    refine wpAny_bind (wpAny_holding ?_)
    unfold setAdd
    refine wpAny_holding ?_
    refine wpAny_bind (wpAny_pyHash_tuple hu hx ?_)
    refine put_in (s := { s' with toks := s'.toks + (p.2.length + 1) }) hS2 hx hu (by have := g.len; unfold mostB at most ⊢; omega) fun b h3 L3 es3 ep3 t3 sb hS3 c1 c2 => ?_
    have g3 : Got ks (i + 1) L3 := by
      rcases Classical.em (p.2 ∈ L.map (·.2)) with c | c
      · rw [c1 c]
        exact g.same hp c
      · exact g.more hp (c2 c)
    have q3 : ∀ b o, b0.get? b = some o → h3.get? b = some o := fun b o e => (sb.2 b (fun z => by rw [z, hS0] at e; cases e)).trans (q2 b o e)
    refine wpAny_pure ⟨plainId_quiet F.plain_set_update_loop _, ih (i + 1) _ (by omega) lt (W.frame _ s' _ _ hst2 (Nat.le_add_right _ _) fun b hb o e => ?_) q3 ⟨L3, es3, ep3, t3, hS3, g3⟩ fun s4 L4 es4 ep4 t4 hm4 hS4 g4 q4 => ?_⟩
    · rw [sb.2 b (fun z : b = S => hSf (by rw [← z]; exact hb))]
      exact e
    · refine hR s4 L4 es4 ep4 t4 (Moved.trans W.gtrans ((hm.mono more).then_heap (Nat.le_add_right _ _) fun b o hb e => ?_) hm4) hS4 g4 q4
      rw [sb.2 b (fun z : b = S => hb (by rw [z]; exact List.mem_cons_self))]
      exact e
abbrev noneSet (w : World) : Obj := { cls := .type "set", dict := none, data := .set #[] 0 (.fresh 0 0 (!w.params.followText "set-order")) }
/-- set(xs) -/
theorem set_of {l : Addr} {items : Array Value} (ks : List (Addr × List Int)) {Q : Value → Shared → Prop} (hh : A.handled = none) (hl : s.heap.IsList l items) (hit : items.toList = ks.map fun p => Value.ref p.1)
    (hk : ∀ p, p ∈ ks → IsT P w s.heap p.2 p.1) (most : ks.length ≤ mostB) (hu : A.units + 3 < cLine)
    (out : ∀ (h2 : Heap) (tk : Nat) L es ep t, SetB P w h2 s.heap.objs.size L es ep t → Got ks ks.length L → (∀ b o, s.heap.get? b = some o → h2.get? b = some o) → Q (.ref s.heap.objs.size) { s with heap := h2, toks := tk }) :
    wpAny (model P w) A (call (.type "set") [.ref l]) Q E s := by
  have isz : items.size = ks.length := by
    have q := congrArg List.length hit
    rw [Array.length_toList, List.length_map] at q
    exact q
  obtain ⟨c, tl, hmro⟩ := F.called_set.mro
  have hmade := F.called_set.made
  have hsub := F.called_set.sub
  refine wpAny_call (codeAny_of_tree ?_)
  show wpAny _ _ (callAny (.type "set") _) _ _ _
  refine wpAny_pure ⟨Code.quiet_builtin _ (by decide +kernel), codeAny_builtin F.entry_type_call ?_⟩
  rw [Around.under_plain (weight_type_call_type "set" [.ref l] []) rfl]
  have z1 := F.called_set.notType
  have z2 := F.called_set.canCreate
  have z3 := F.typeCall_set_1 (.ref l)
  repeat (any_goals (first | assumption | wp_step))
  refine codeAny_mono (code_set_led1 (.ref l) (E := E) (Q₁ := fun obj s1 => obj = .ref s.heap.objs.size ∧ s1 = { s with heap := s.heap.push (noneSet w) }) ⟨rfl, rfl⟩) fun r s1 hr => ?_
  cases r with
  | error e => exact hr
  | ok fl =>
    cases fl with
    | ret obj =>
      obtain ⟨rfl, rfl⟩ := hr
      have hS : (s.heap.push (noneSet w)).get? s.heap.objs.size = some (noneSet w) := Heap.get?_push_size _ rfl
      have hT : Shared.TypeIs { s with heap := s.heap.push (noneSet w) } (.ref s.heap.objs.size) "set" := ⟨_, hS, rfl⟩
      have y1 := F.called_set.init.lookup
      have y2 := F.called_set.init.bind (.ref s.heap.objs.size)
      repeat (any_goals (first | assumption | wp_step))
      refine codeAny_mono (codeAny_call_builtin (R := wants (fun r s2 => r = .none ∧ ∃ h2 tk L es ep t, s2 = { s with heap := h2, toks := tk } ∧ SetB P w h2 s.heap.objs.size L es ep t ∧ Got ks ks.length L ∧
          (∀ b o, s.heap.get? b = some o → h2.get? b = some o)) E) F.called_set.init.plain F.entry_set_init (check_set_init_1 hT ?_)) fun r2 s2 hr2 => ?_
      · obtain ⟨ol, hol, hcl, nl, hdl⟩ := hl
        obtain ⟨ocls, odict, odata, oslots⟩ := ol
        simp only at hcl hdl
        subst hcl
        subst hdl
        have hol2 : (s.heap.push (noneSet w)).get? l = some { cls := .type "list", dict := odict, data := .seq items nl, slots := oslots } := Heap.get?_push_of_some _ hol
        have x1 := F.sub_list_set
        have x2 := F.sub_list_frozenset
        have x3 : (Value.type "list" == Value.type "dict") = false := by decide
        have hl1 : (s.heap.push (noneSet w)).IsList l items := ⟨_, hol2, rfl, nl, rfl⟩
        unfold Builtin.«set.__init__» noKeywords Builtin.Frozenset.updateFrom
        generalize hPI : pyIter = PI
        wp_walk
        subst hPI
        refine wpAny_pyIter_list hl1 ?_
        refine wpAny_bind (wpAny_runValue ?_)
        have lS : l < s.heap.objs.size := Heap.lt_size hol
        have h3 : A.in1.in1.in1.handled = none := by simp [hh]
        have nI : l ≠ (s.heap.push (noneSet w)).objs.size := by
          rw [Heap.size_push]
          exact Nat.ne_of_lt (Nat.lt_succ_of_lt lS)
        have hSf : s.heap.objs.size ∉ [(s.heap.push (noneSet w)).objs.size, l] := by
          rw [Heap.size_push]
          simp only [List.mem_cons, List.mem_singleton, List.not_mem_nil, or_false, not_or]
          exact ⟨Nat.ne_of_lt (Nat.lt_succ_self _), Nat.ne_of_gt lS⟩
        have hv : ∀ (i : Nat) (v : Value), items[i]? = some v → ∃ p, ks[i]? = some p ∧ v = .ref p.1 := fun i v hv => by
          have q : items.toList[i]? = some v := by rw [Array.getElem?_toList]; exact hv
          rw [hit, List.getElem?_map] at q
          obtain ⟨p, hp, e⟩ := Option.map_eq_some_iff.mp q
          exact ⟨p, hp, e.symm⟩
        have no : ∀ b, s.heap.objs.size ≤ b → s.heap.get? b = none := fun b hb => by
          cases q : s.heap.get? b with
          | none => rfl
          | some o => exact absurd (Nat.lt_of_lt_of_le (Heap.lt_size q) hb) (Nat.lt_irrefl _)
        have hget : ((s.heap.push (noneSet w)).push { cls := .type "list_iterator", data := .fields #[.ref l, .int 0 0] }).get? s.heap.objs.size = some (noneSet w) := Heap.get?_push_of_some _ hS
        refine fill_up ((Walks.list h3 _ l nI items).toS) s.heap.objs.size hSf ks isz most hv s.heap hk (no _ (Nat.le_refl _)) (fun b hb => no b (by
            rw [List.mem_singleton.mp hb, Heap.size_push]
            exact Nat.le_succ _)) hu (items.size - 0) 0 _ (by omega) (Nat.zero_le _)
          ⟨⟨_, Heap.get?_push_size _ rfl, rfl, rfl⟩, (hl1.push _)⟩ (fun b o e => Heap.get?_push_of_some _ (Heap.get?_push_of_some _ e)) ⟨[], #[], 0, _, set_new hget, Got.zero ks⟩ ?_
        intro s' L es ep t hm hS' g' q
        obtain ⟨h2, g2, d2, tk2, os2⟩ := s'
        have eg : g2 = s.gens := hm.gens
        have ed : d2 = s.drawn := hm.drawn
        have eo : os2 = s.os := hm.os
        subst eg
        subst ed
        subst eo
        show wpAny _ _ _ _ _ _
        refine wpAny_pure ?_
        show wpAny _ _ (ret Value.none) _ _ _
        rw [isz] at g'
        exact wpAny_pure ⟨rfl, h2, tk2, L, es, ep, t, rfl, hS', g', q⟩
      · cases r2 with
        | error e => exact hr2
        | ok fl2 =>
          cases fl2 with
          | ret r =>
            obtain ⟨rfl, h2, tk, L, es, ep, t, rfl, q1, q2, q3⟩ := hr2
            repeat (any_goals (first | assumption | wp_step))
            exact out _ _ _ _ _ _ q1 q2 q3
          | _ => exact hr2.elim
    | _ => exact hr.elim
end
end Big
namespace Dv
open PySem L2
inductive D where
  | non | bl (b : Bool) | int (i : Int) | str (x : Str) | lst (xs : List D) | tup (xs : List D) | scr (ns : List Int)
  /-- just this place: a refusal that is handled -/
  | adr (a : Addr)
  /-- a tuple that was made on the way: it can be a dict's key -/
  | nt (xs : List D)
  /-- a dict that stays: its keys (tuples of whole numbers), its things -/
  | dct (ks : List (List Int)) (xs : List D)
mutual
inductive Dq (K : PySem.W.Frag) (G : Hp) : V → D → Prop
  | non : Dq K G .non .non
  | bl (b : Bool) : Dq K G (.bl b) (.bl b)
  | int (i : Int) : Dq K G (.int i) (.int i)
  | str (x : Str) : Dq K G (.str x) (.str x)
  | lst {a : Addr} {xs : List V} {ds : List D} : G a = some (.lst xs) → DqA K G xs ds → Dq K G (.ref a) (.lst ds)
  | tup {a : Addr} {xs : List V} {ds : List D} : SqT K G a xs → DqA K G xs ds → Dq K G (.ref a) (.tup ds)
  | scr {a : Addr} {ns : List Int} : SqL K G a (ns.map V.int) → Dq K G (.ref a) (.scr ns)
  | adr (a : Addr) : Dq K G (.ref a) (.adr a)
  | nt {a : Addr} {xs : List V} {ds : List D} : G a = some (.tup xs) → DqA K G xs ds → Dq K G (.ref a) (.nt ds)
  | dct {a : Addr} {kl : List (List L2.Key × V)} {ks : List (List Int)} {ds : List D} : Rd G a (.dT kl) → kl.map (·.1) = ks.map (fun k => k.map Sum.inl) → DqA K G (kl.map (·.2)) ds → Dq K G (.ref a) (.dct ks ds)
inductive DqA (K : PySem.W.Frag) (G : Hp) : List V → List D → Prop
  | nil : DqA K G [] []
  | cons {v : V} {vs : List V} {d : D} {ds : List D} : Dq K G v d → DqA K G vs ds → DqA K G (v :: vs) (d :: ds)
end
section
variable {K : PySem.W.Frag} {G G' : Hp}
theorem rd_mono {a : Addr} {u : HO} (e : Same G G') (h : Rd G a u) : Rd G' a u := by
  rcases h with h | ⟨o, h⟩
  · exact .inl (e _ _ h)
  · exact .inr ⟨o, e _ _ h⟩
theorem sqT_mono {a : Addr} {xs : List V} (e : Same G G') (h : SqT K G a xs) : SqT K G' a xs := by
  rcases h with (h | ⟨o, h⟩) | h
  · exact .inl (.inl (e _ _ h))
  · exact .inl (.inr ⟨o, e _ _ h⟩)
  · exact .inr h
mutual
theorem Dq.mono (e : Same G G') : ∀ (d : D) (v : V), Dq K G v d → Dq K G' v d
  | .non, _, h => by cases h; exact .non
  | .bl b, _, h => by cases h; exact .bl b
  | .int i, _, h => by cases h; exact .int i
  | .str x, _, h => by cases h; exact .str x
  | .lst ds, _, h => by
    cases h with
    | lst h1 h2 => exact .lst (e _ _ h1) (DqA.mono e ds _ h2)
  | .tup ds, _, h => by
    cases h with
    | tup h1 h2 => exact .tup (sqT_mono e h1) (DqA.mono e ds _ h2)
  | .scr ns, _, h => by
    cases h with
    | scr h1 => exact .scr (e.seq h1)
  | .adr a, _, h => by cases h; exact .adr a
  | .nt ds, _, h => by
    cases h with
    | nt h1 h2 => exact .nt (e _ _ h1) (DqA.mono e ds _ h2)
  | .dct ks ds, _, h => by
    cases h with
    | dct h1 h2 h3 => exact .dct (rd_mono e h1) h2 (DqA.mono e ds _ h3)
theorem DqA.mono (e : Same G G') : ∀ (ds : List D) (vs : List V), DqA K G vs ds → DqA K G' vs ds
  | [], _, h => by cases h; exact .nil
  | d :: ds, _, h => by
    cases h with
    | cons h1 h2 => exact .cons (Dq.mono e d _ h1) (DqA.mono e ds _ h2)
end
theorem DqA.length : ∀ {vs : List V} {ds : List D}, DqA K G vs ds → vs.length = ds.length
  | [], _, h => by cases h; rfl
  | v :: vs, _, h => by
    cases h with
    | cons h1 h2 => simp [DqA.length h2]
theorem DqA.get : ∀ {vs : List V} {ds : List D} {i : Nat} {d : D}, DqA K G vs ds → ds[i]? = some d → ∃ v, vs[i]? = some v ∧ Dq K G v d
  | [], _, _, _, h, e => by cases h; simp at e
  | v :: vs, _, i, d, h, e => by
    cases h with
    | cons h1 h2 =>
      cases i with
      | zero => simp at e; subst e; exact ⟨v, rfl, h1⟩
      | succ i =>
        obtain ⟨w, a, b⟩ := DqA.get (i := i) (d := d) h2 (by simpa using e)
        exact ⟨w, by simpa using a, b⟩
theorem DqA.append : ∀ {vs ws : List V} {ds es : List D}, DqA K G vs ds → DqA K G ws es → DqA K G (vs ++ ws) (ds ++ es)
  | [], _, _, _, h, k => by cases h; exact k
  | v :: vs, _, _, _, h, k => by
    cases h with
    | cons h1 h2 => exact .cons h1 (DqA.append h2 k)
theorem DqA.take : ∀ (n : Nat) {vs : List V} {ds : List D}, DqA K G vs ds → DqA K G (vs.take n) (ds.take n)
  | 0, _, _, _ => by simp; exact .nil
  | n + 1, [], _, h => by cases h; exact .nil
  | n + 1, v :: vs, _, h => by
    cases h with
    | cons h1 h2 => exact .cons h1 (DqA.take n h2)
theorem DqA.drop : ∀ (n : Nat) {vs : List V} {ds : List D}, DqA K G vs ds → DqA K G (vs.drop n) (ds.drop n)
  | 0, _, _, h => by simpa using h
  | n + 1, [], _, h => by cases h; exact .nil
  | n + 1, v :: vs, _, h => by
    cases h with
    | cons h1 h2 => simpa using DqA.drop n h2
theorem DqA.set : ∀ (n : Nat) {vs : List V} {ds : List D} {v : V} {d : D}, DqA K G vs ds → Dq K G v d → DqA K G (vs.set n v) (ds.set n d)
  | _, [], _, _, _, h, _ => by cases h; exact .nil
  | 0, v :: vs, _, _, _, h, k => by
    cases h with
    | cons h1 h2 => exact .cons k h2
  | n + 1, v :: vs, _, _, _, h, k => by
    cases h with
    | cons h1 h2 => exact .cons h1 (DqA.set n h2 k)
theorem DqA.reverse : ∀ {vs : List V} {ds : List D}, DqA K G vs ds → DqA K G vs.reverse ds.reverse
  | [], _, h => by cases h; exact .nil
  | v :: vs, _, h => by
    cases h with
    | cons h1 h2 =>
      rw [List.reverse_cons, List.reverse_cons]
      exact DqA.append (DqA.reverse h2) (.cons h1 .nil)
theorem DqA.isInts : ∀ {vs : List V} {ns : List Int}, DqA K G vs (ns.map D.int) → vs = ns.map V.int
  | [], [], _ => rfl
  | [], n :: ns, h => by cases h
  | v :: vs, [], h => by cases h
  | v :: vs, n :: ns, h => by
    cases h with
    | cons h1 h2 =>
      cases h1
      rw [DqA.isInts h2]
      rfl
end
def mi (H : Hp) (O : List Addr) : Hp := fun a => if a ∈ O then none else H a
section
variable {H H' : Hp} {O O' : List Addr} {p : Addr} {o : HO}
theorem mi_in (h : p ∈ O) : mi H O p = none := if_pos h
theorem mi_out (h : p ∉ O) : mi H O p = H p := if_neg h
theorem mi_some {a : Addr} (h : mi H O a = some o) : a ∉ O ∧ H a = some o := by
  unfold mi at h
  split at h
  · cases h
  · exact ⟨by assumption, h⟩
theorem mi_of {a : Addr} (h : a ∉ O) (e : H a = some o) : mi H O a = some o := by rw [mi_out h]; exact e
theorem mi_same : Same (mi H O) H := fun a o h => (mi_some h).2
theorem mi_mono (e : Same H H') : Same (mi H O) (mi H' O) := fun a o h => by
  obtain ⟨h1, h2⟩ := mi_some h
  exact mi_of h1 (e _ _ h2)
theorem mi_sub (s : ∀ a, a ∈ O → a ∈ O') : Same (mi H O') (mi H O) := fun a o h => by
  obtain ⟨h1, h2⟩ := mi_some h
  exact mi_of (fun z => h1 (s a z)) h2
theorem mi_upd_in (h : p ∈ O) : mi (upd H p o) O = mi H O := by
  funext a
  unfold mi
  split
  · rfl
  · rw [upd_ne]
    intro e
    subst e
    contradiction
theorem same_new (h : H p = none) : Same H (upd H p o) := fun a u e => by
  rw [upd_ne (ne_of_none e h)]
  exact e
theorem mi_one_new (h : H p = none) : mi (upd H p o) [p] = H := by
  funext a
  unfold mi
  by_cases e : a = p
  · subst e
    rw [if_pos (List.mem_singleton.mpr rfl), h]
  · rw [if_neg (fun z => e (List.mem_singleton.mp z)), upd_ne e]
end
mutual
def nkNum : NestedKey → Bool
  | .num _ => true
  | .tup ks => nkNums ks
  | _ => false
def nkNums : List NestedKey → Bool
  | [] => true
  | k :: ks => nkNum k && nkNums ks
end
mutual
def nh : NestedKey → Int
  | .num i => hashInt i
  | .tup ks => reduceHash (Builtin.Tuple.tupleHashOf (nhs ks))
  | _ => 0
def nhs : List NestedKey → List Int
  | [] => []
  | k :: ks => nh k :: nhs ks
end
mutual
def nkD : NestedKey → D
  | .num i => .int i
  | .tup ks => .tup (nkDs ks)
  | _ => .non
def nkDs : List NestedKey → List D
  | [] => []
  | k :: ks => nkD k :: nkDs ks
end
def entN (y : NestedKey × Addr × Value) : DictEntry := ⟨nh y.1, .ref y.2.1, y.2.2⟩
abbrev PairN : List (NestedKey × Addr × V) → List (NestedKey × Addr × Value) → Prop := Paired fun p q => p.1 = q.1 ∧ p.2.1 = q.2.1 ∧ RelV p.2.2 q.2.2
/-- at p stands a dict with these entries: key, the key's own tuple, thing -/
def DNp (p : Addr) (xs : List (NestedKey × Addr × V)) (h : Heap) : Prop := (p == sysModules) = false ∧ xs.length ≤ sizeLine ∧
  ∃ ys : List (NestedKey × Addr × Value), PairN xs ys ∧ ∃ o es ep, h.get? p = some o ∧ o.ExactDict ∧ o.data = .dict es ep ∧ es.toList = ys.map entN ∧ (ys.map (·.1)).Nodup
abbrev DNo (p : Addr) (xs : List (NestedKey × Addr × V)) : HO := .ext (DNp p xs)
def okN : NestedKey → Bool
  | .tup ks => nkNums ks && decide ((NestedKey.tup ks).depth ≤ 8)
  | _ => false
/-- own things: a dict whose keys are tuples of ints; a list of own lists -/
inductive OV where
  | dct (kvs : List (List Int × D)) | ls2 (dss : List (List D))
  /-- a dict whose keys are whole numbers -/
  | dcI (kvs : List (Int × D))
  /-- a dict whose keys are tuples of tuples of whole numbers -/
  | dcN (kvs : List (NestedKey × D))
def DqN (K : PySem.W.Frag) (G : Hp) : List (NestedKey × Addr × V) → List (NestedKey × D) → Prop
  | [], [] => True
  | p :: r, q :: s => (p.1 = q.1 ∧ okN q.1 = true ∧ Dq K G (.ref p.2.1) (nkD q.1)) ∧ Dq K G p.2.2 q.2 ∧ DqN K G r s
  | _, _ => False
def DqK (K : PySem.W.Frag) (G : Hp) : List (List L2.Key × V) → List (List Int × D) → Prop
  | [], [] => True
  | p :: r, q :: s => p.1 = q.1.map Sum.inl ∧ Dq K G p.2 q.2 ∧ DqK K G r s
  | _, _ => False
def DqI (K : PySem.W.Frag) (G : Hp) : List (L2.Key × V) → List (Int × D) → Prop
  | [], [] => True
  | p :: r, q :: s => p.1 = Sum.inl q.1 ∧ Dq K G p.2 q.2 ∧ DqI K G r s
  | _, _ => False
def LsOk (K : PySem.W.Frag) (G H : Hp) : List Addr → List (List D) → Prop
  | [], [] => True
  | q :: qs, ds :: dss => (∃ xs, H q = some (.lst xs) ∧ DqA K G xs ds) ∧ LsOk K G H qs dss
  | _, _ => False
def refV : V → Option Addr
  | .ref a => some a
  | _ => none
/-- the places that an own thing is made of -/
def adsOf (H : Hp) (p : Addr) : OV → List Addr
  | .dct _ => [p]
  | .dcI _ => [p]
  | .dcN _ => [p]
  | .ls2 _ => match H p with
    | some (.lst xs) => p :: xs.filterMap refV
    | _ => [p]
def Real (K : PySem.W.Frag) (G H : Hp) (p : Addr) : OV → Prop
  | .dct kvs => ∃ ks, H p = some (.dT ks) ∧ DqK K G ks kvs
  | .ls2 dss => ∃ qs, H p = some (.lst (qs.map V.ref)) ∧ LsOk K G H qs dss
  | .dcI kvs => ∃ ks, H p = some (.dK ks) ∧ DqI K G ks kvs
  | .dcN kvs => ∃ ks, H p = some (DNo p ks) ∧ DqN K G ks kvs
theorem DqK.mono {K : PySem.W.Frag} {G G' : Hp} (e : Same G G') : ∀ {ks : List (List L2.Key × V)} {kvs : List (List Int × D)}, DqK K G ks kvs → DqK K G' ks kvs
  | [], [], _ => trivial
  | [], _ :: _, h => h.elim
  | _ :: _, [], h => h.elim
  | _ :: _, _ :: _, h => ⟨h.1, Dq.mono e _ _ h.2.1, DqK.mono e h.2.2⟩
theorem DqI.mono {K : PySem.W.Frag} {G G' : Hp} (e : Same G G') : ∀ {ks : List (L2.Key × V)} {kvs : List (Int × D)}, DqI K G ks kvs → DqI K G' ks kvs
  | [], [], _ => trivial
  | [], _ :: _, h => h.elim
  | _ :: _, [], h => h.elim
  | _ :: _, _ :: _, h => ⟨h.1, Dq.mono e _ _ h.2.1, DqI.mono e h.2.2⟩
theorem DqN.mono {K : PySem.W.Frag} {G G' : Hp} (e : Same G G') : ∀ {ks : List (NestedKey × Addr × V)} {kvs : List (NestedKey × D)}, DqN K G ks kvs → DqN K G' ks kvs
  | [], [], _ => trivial
  | [], _ :: _, h => h.elim
  | _ :: _, [], h => h.elim
  | _ :: _, _ :: _, h => ⟨⟨h.1.1, h.1.2.1, Dq.mono e _ _ h.1.2.2⟩, Dq.mono e _ _ h.2.1, DqN.mono e h.2.2⟩
theorem LsOk.mono {K : PySem.W.Frag} {G G' H H' : Hp} (e : Same G G') : ∀ {qs : List Addr} {dss : List (List D)}, (∀ q, q ∈ qs → H' q = H q) → LsOk K G H qs dss → LsOk K G' H' qs dss
  | [], [], _, _ => trivial
  | [], _ :: _, _, h => h.elim
  | _ :: _, [], _, h => h.elim
  | q :: _, _ :: _, k, h => by
    obtain ⟨⟨xs, h1, h2⟩, h3⟩ := h
    exact ⟨⟨xs, by rw [k q List.mem_cons_self]; exact h1, DqA.mono e _ _ h2⟩, LsOk.mono e (fun q' hq => k q' (List.mem_cons_of_mem _ hq)) h3⟩
theorem refV_map : ∀ qs : List Addr, (qs.map V.ref).filterMap refV = qs
  | [] => rfl
  | q :: qs => by
    show q :: (qs.map V.ref).filterMap refV = _
    rw [refV_map qs]
theorem adsOf_self {H : Hp} {p : Addr} {w : OV} : p ∈ adsOf H p w := by
  cases w with
  | ls2 dss =>
    show p ∈ (match H p with | some (.lst xs) => p :: xs.filterMap refV | _ => [p])
    split <;> exact List.mem_cons_self
  | dct kvs => exact List.mem_cons_self
  | dcI kvs => exact List.mem_cons_self
  | dcN kvs => exact List.mem_cons_self
theorem adsOf_eq {H H' : Hp} {p : Addr} {w : OV} (h : H' p = H p) : adsOf H' p w = adsOf H p w := by
  unfold adsOf
  rw [h]
theorem Real.mono {K : PySem.W.Frag} {G G' H H' : Hp} {p : Addr} {w : OV} (e : Same G G') (k : ∀ a, a ∈ adsOf H p w → H' a = H a) (h : Real K G H p w) : Real K G' H' p w := by
  have k0 := k p adsOf_self
  cases w with
  | dct kvs =>
    obtain ⟨ks, h1, h2⟩ := h
    exact ⟨ks, by rw [k0]; exact h1, h2.mono e⟩
  | dcI kvs =>
    obtain ⟨ks, h1, h2⟩ := h
    exact ⟨ks, by rw [k0]; exact h1, h2.mono e⟩
  | dcN kvs =>
    obtain ⟨ks, h1, h2⟩ := h
    exact ⟨ks, by rw [k0]; exact h1, h2.mono e⟩
  | ls2 dss =>
    obtain ⟨qs, h1, h2⟩ := h
    refine ⟨qs, by rw [k0]; exact h1, h2.mono e fun q hq => k q ?_⟩
    unfold adsOf
    rw [h1]
    show q ∈ p :: (qs.map V.ref).filterMap refV
    rw [refV_map]
    exact List.mem_cons_of_mem _ hq
inductive SV where
  /-- nothing known | a thing that stays | an own list | an own list of the caller -/
  | no | fz (d : D) | o1 (ds : List D) | io (ds : List D)
  /-- an own thing of another make -/
  | nw (w : OV)
inductive RV where
  /-- a thing that stays | what the i-th name owns | a new list that nobody has yet -/
  | val (d : D) | slot (i : Nat) | new (ds : List D)
  /-- no thing: a refusal, by its number -/
  | ex (n : Nat)
  /-- a new tuple of new lists -/
  | tw (dss : List (List D))
abbrev Env := List SV
def OwnAt (env : Env) (i : Nat) (ds : List D) : Prop := env[i]? = some (.o1 ds) ∨ env[i]? = some (.io ds)
/-- the own things of other makes -/
def NwOk (K : PySem.W.Frag) (B : Hp) (O : List Addr) (σ : L2.St) (H : Hp) (env : Env) : Prop := ∀ (i : Nat) (w : OV), env[i]? = some (SV.nw w) → ∃ p, σ[i]? = some (some (.ref p)) ∧ Real K (mi H O) H p w ∧ (adsOf H p w).Nodup ∧
  (∀ a, a ∈ adsOf H p w → a ∈ O ∧ B a = none) ∧ (∀ (j : Nat) (ds : List D) (a : Addr), OwnAt env j ds → σ[j]? = some (some (.ref a)) → a ∉ adsOf H p w) ∧
  ∀ (j : Nat) (w' : OV) (q : Addr), j ≠ i → env[j]? = some (SV.nw w') → σ[j]? = some (some (.ref q)) → ∀ a, a ∈ adsOf H p w → a ∉ adsOf H q w'
theorem NwOk.go {K : PySem.W.Frag} {B B' : Hp} {O O' : List Addr} {σ σ' : L2.St} {H H' : Hp} {env env' : Env} (h : NwOk K B O σ H env)
    (sl : ∀ (i : Nat) (w : OV), env'[i]? = some (SV.nw w) → env[i]? = some (SV.nw w) ∧ σ'[i]? = σ[i]?)
    (ol : ∀ (j : Nat) (ds : List D) (a : Addr), OwnAt env' j ds → σ'[j]? = some (some (.ref a)) → (∃ ds', OwnAt env j ds' ∧ σ[j]? = some (some (.ref a))) ∨ a ∉ O)
    (hp : ∀ a, a ∈ O → B a = none → (∃ o, H a = some o) → (∀ (j : Nat) (ds : List D), OwnAt env j ds → σ[j]? ≠ some (some (.ref a))) → a ∈ O' ∧ B' a = none ∧ H' a = H a)
    (sm : Same (mi H O) (mi H' O')) (dom : ∀ a, a ∈ O → ∃ o, H a = some o) : NwOk K B' O' σ' H' env' := by
  intro i w hi
  obtain ⟨h1, h2⟩ := sl i w hi
  obtain ⟨p, a1, a2, a3, a4, a5, a6⟩ := h i w h1
  have on : ∀ a, a ∈ adsOf H p w → a ∈ O' ∧ B' a = none ∧ H' a = H a := fun a ha => hp a (a4 a ha).1 (a4 a ha).2 (dom a (a4 a ha).1) fun j ds hj e => a5 j ds a hj e ha
  have e0 : adsOf H' p w = adsOf H p w := adsOf_eq (on p adsOf_self).2.2
  refine ⟨p, by rw [h2]; exact a1, a2.mono sm fun a ha => (on a ha).2.2, by rw [e0]; exact a3, fun a ha => ?_, fun j ds a hj e => ?_, fun j w' q hj hw e a ha => ?_⟩
  · rw [e0] at ha
    exact ⟨(on a ha).1, (on a ha).2.1⟩
  · rw [e0]
    rcases ol j ds a hj e with ⟨ds', k1, k2⟩ | k
    · exact a5 j ds' a k1 k2
    · exact fun z => k (a4 a z).1
  · rw [e0] at ha
    obtain ⟨c1, c2⟩ := sl j w' hw
    rw [c2] at e
    obtain ⟨q', b1, _, _, b4, b5, _⟩ := h j w' c1
    rw [e] at b1
    cases b1
    have e1 : adsOf H' q w' = adsOf H q w' := adsOf_eq (hp q (b4 q adsOf_self).1 (b4 q adsOf_self).2 (dom q (b4 q adsOf_self).1) fun j ds hj e => b5 j ds q hj e adsOf_self).2.2
    rw [e1]
    exact a6 j w' q hj c1 e a ha
theorem NwOk.none {K : PySem.W.Frag} {B : Hp} {O : List Addr} {σ : L2.St} {H : Hp} {env : Env} (h : ∀ (i : Nat) (w : OV), env[i]? ≠ some (SV.nw w)) : NwOk K B O σ H env := fun i w hi => absurd hi (h i w)
structure Sta (K : PySem.W.Frag) (B : Hp) (O : List Addr) (I : List (Nat × Addr)) (σ : L2.St) (H : Hp) (env : Env) : Prop where
  len : σ.length = env.length
  fz : ∀ (i : Nat) (d : D), env[i]? = some (SV.fz d) → ∃ v, σ[i]? = some (some v) ∧ Dq K (mi H O) v d
  ow : ∀ (i : Nat) (ds : List D), OwnAt env i ds → ∃ p xs, σ[i]? = some (some (.ref p)) ∧ p ∈ O ∧ H p = some (.lst xs) ∧ DqA K (mi H O) xs ds ∧ B p = none
  sep : ∀ (i j : Nat) (ds es : List D) (p : Addr), OwnAt env i ds → OwnAt env j es → σ[i]? = some (some (.ref p)) → σ[j]? = some (some (.ref p)) → i = j
  base : Same B H
  dom : ∀ p, p ∈ O → ∃ o, H p = some o
  pin : ∀ (j : Nat) (p : Addr), (j, p) ∈ I → σ[j]? = some (some (.ref p)) ∧ ∃ ds, env[j]? = some (SV.io ds)
  nw : NwOk K B O σ H env
  /-- no tuple is owned -/
  nt : ∀ (p : Addr) (xs : List V), p ∈ O → H p ≠ some (.tup xs)
theorem Sta.ntS {K : PySem.W.Frag} {B : Hp} {O : List Addr} {I : List (Nat × Addr)} {σ : L2.St} {H H' : Hp} {env : Env} (S : Sta K B O I σ H env) {p : Addr} (hp : p ∈ O) (h : ∀ o, H p = some o → H' p = some o) (xs : List V) : H' p ≠ some (.tup xs) := fun z => by
  obtain ⟨o, e⟩ := S.dom p hp
  have := h o e
  rw [z] at this
  cases this
  exact S.nt p xs hp e
def Post (K : PySem.W.Frag) (B : Hp) (O : List Addr) (I : List (Nat × Addr)) (σ : L2.St) (H : Hp) (env : Env) (v : V) : RV → Prop
  | .val d => Sta K B O I σ H env ∧ Dq K (mi H O) v d
  | .slot i => Sta K B O I σ H env ∧ σ[i]? = some (some v)
  | .new ds => ∃ p xs, v = .ref p ∧ H p = some (.lst xs) ∧ B p = none ∧ p ∉ O ∧ Sta K B O I σ (mi H [p]) env ∧ DqA K (mi (mi H [p]) O) xs ds
  | .ex _ => False
  | .tw dss => ∃ p qs, v = .ref p ∧ H p = some (.tup (qs.map V.ref)) ∧ qs.Nodup ∧ (∀ q, q ∈ qs → B q = none ∧ q ∉ O) ∧ Sta K B O I σ (mi H qs) env ∧ LsOk K (mi H (qs ++ O)) H qs dss
def deref (env : Env) : RV → Option D
  | .val d => some d
  | .new ds => some (.lst ds)
  | .slot i => match env[i]? with
    | some (.o1 ds) => some (.lst ds)
    | some (.io ds) => some (.lst ds)
    | _ => none
  | .ex _ => none
  | .tw dss => some (.tup (dss.map D.lst))
def frz : RV → RV
  | .new ds => .val (.lst ds)
  | .tw dss => .val (.tup (dss.map D.lst))
  | .val d => .val d
  | .slot i => .slot i
  | .ex n => .ex n
theorem LsOk.domA {K : PySem.W.Frag} {G H : Hp} : ∀ {qs : List Addr} {dss : List (List D)}, LsOk K G H qs dss → ∀ q, q ∈ qs → ∃ xs, H q = some (.lst xs)
  | [], [], _, q, hq => by cases hq
  | [], _ :: _, h, _, _ => h.elim
  | _ :: _, [], h, _, _ => h.elim
  | a :: qs, ds :: dss, h, q, hq => by
    obtain ⟨⟨xs, h1, _⟩, h2⟩ := h
    rcases List.mem_cons.mp hq with z | z
    · rw [z]
      exact ⟨xs, h1⟩
    · exact LsOk.domA h2 q z
theorem LsOk.dqa2 {K : PySem.W.Frag} {H : Hp} {X O : List Addr} (hs : ∀ a, a ∈ O → a ∈ X) : ∀ {qs : List Addr} {dss : List (List D)}, (∀ q, q ∈ qs → q ∉ O) → LsOk K (mi H X) H qs dss → DqA K (mi H O) (qs.map V.ref) (dss.map D.lst)
  | [], [], _, _ => .nil
  | [], _ :: _, _, k => k.elim
  | _ :: _, [], _, k => k.elim
  | q :: qs, ds :: dss, hq, k => by
    obtain ⟨⟨xs, h1, h2⟩, h3⟩ := k
    exact .cons (.lst (mi_of (hq q List.mem_cons_self) h1) (DqA.mono (mi_sub hs) _ _ h2)) (LsOk.dqa2 hs (fun a ha => hq a (List.mem_cons_of_mem _ ha)) h3)
section
variable {K : PySem.W.Frag} {B B' : Hp} {O O' : List Addr} {I : List (Nat × Addr)} {σ : L2.St} {H H' : Hp} {env : Env} {v : V}
theorem Sta.weak (S : Sta K B' O I σ H env) (e : Same B B') : Sta K B O I σ H env :=
  ⟨S.len, S.fz, fun i ds h => by
    obtain ⟨p, xs, h1, h2, h3, h4, h5⟩ := S.ow i ds h
    exact ⟨p, xs, h1, h2, h3, h4, e.free h5⟩, S.sep, e.trans S.base, S.dom, S.pin, NwOk.go S.nw (fun _ _ h => ⟨h, rfl⟩) (fun j ds a h e => .inl ⟨ds, h, e⟩) (fun a h1 h2 _ _ => ⟨h1, e.free h2, rfl⟩) (Same.refl _) S.dom, S.nt⟩
/-- all that stood stands -/
theorem Sta.grow (S : Sta K B O I σ H env) (e : Same H H') : Sta K B O I σ H' env :=
  ⟨S.len, fun i d h => by
    obtain ⟨v, h1, h2⟩ := S.fz i d h
    exact ⟨v, h1, Dq.mono (mi_mono e) _ _ h2⟩, fun i ds h => by
    obtain ⟨p, xs, h1, h2, h3, h4, h5⟩ := S.ow i ds h
    exact ⟨p, xs, h1, h2, e _ _ h3, DqA.mono (mi_mono e) _ _ h4, h5⟩, S.sep, S.base.trans e, fun p hp => by
    obtain ⟨o, h⟩ := S.dom p hp
    exact ⟨o, e _ _ h⟩, S.pin, NwOk.go S.nw (fun _ _ h => ⟨h, rfl⟩) (fun j ds a h e => .inl ⟨ds, h, e⟩) (fun a h1 h2 ⟨o, h3⟩ _ => ⟨h1, h2, by rw [h3]; exact e _ _ h3⟩) (mi_mono e) S.dom, fun p xs hp => S.ntS hp (fun o => e _ _) xs⟩
/-- what is neither owned nor will change: H without what names own -/
def Owns (σ : L2.St) (env : Env) (H : Hp) (a : Addr) : Prop := (∃ i ds, OwnAt env i ds ∧ σ[i]? = some (some (.ref a))) ∨ ∃ (i : Nat) (w : OV) (p : Addr), env[i]? = some (SV.nw w) ∧ σ[i]? = some (some (.ref p)) ∧ a ∈ adsOf H p w
open Classical in
noncomputable def keepH (σ : L2.St) (env : Env) (H : Hp) : Hp := fun a => if Owns σ env H a then none else H a
theorem keepH_own {a : Addr} (h : Owns σ env H a) : keepH σ env H a = none := if_pos h
theorem keepH_not {a : Addr} (h : ¬ Owns σ env H a) : keepH σ env H a = H a := if_neg h
theorem keepH_same : Same (keepH σ env H) H := fun a o h => by
  unfold keepH at h
  split at h
  · cases h
  · exact h
theorem Sta.strong (S : Sta K B O I σ H env) : Sta K (keepH σ env H) O I σ H env :=
  ⟨S.len, S.fz, fun i ds h => by
    obtain ⟨p, xs, h1, h2, h3, h4, h5⟩ := S.ow i ds h
    exact ⟨p, xs, h1, h2, h3, h4, keepH_own (.inl ⟨i, ds, h, h1⟩)⟩, S.sep, keepH_same, S.dom, S.pin, fun i w hi => by
    obtain ⟨p, a1, a2, a3, a4, a5⟩ := S.nw i w hi
    exact ⟨p, a1, a2, a3, fun a ha => ⟨(a4 a ha).1, keepH_own (.inr ⟨i, w, p, hi, a1, ha⟩)⟩, a5⟩, S.nt⟩
theorem Sta.owns_free (S : Sta K B O I σ H env) {a : Addr} (h : Owns σ env H a) : a ∈ O ∧ B a = none := by
  rcases h with ⟨i, ds, h1, h2⟩ | ⟨i, w, q, h1, h2, h3⟩
  · obtain ⟨p, xs, k1, k2, k3, k4, k5⟩ := S.ow i ds h1
    rw [h2] at k1
    cases k1
    exact ⟨k2, k5⟩
  · obtain ⟨p, a1, _, _, a4, _⟩ := S.nw i w h1
    rw [h2] at a1
    cases a1
    exact a4 a h3
theorem Sta.base_keep (S : Sta K B O I σ H env) : Same B (keepH σ env H) := fun a o h => by
  rw [keepH_not]
  · exact S.base _ _ h
  · intro z
    have k5 := (S.owns_free z).2
    rw [h] at k5
    cases k5
theorem Sta.owns_in (S : Sta K B O I σ H env) {a : Addr} (h : Owns σ env H a) : a ∈ O := (S.owns_free h).1
/-- what stays, stays -/
theorem Sta.stay (S : Sta K B O I σ H env) {env' : Env} (S' : Sta K (keepH σ env H) O I σ H' env') : Same (mi H O) (mi H' O) := fun a o h => by
  obtain ⟨h1, h2⟩ := mi_some h
  refine mi_of h1 (S'.base a o ?_)
  rw [keepH_not (fun z => h1 (S.owns_in z))]
  exact h2
theorem Sta.full (S : Sta K B O I σ H env) {d : D} (h : Dq K (mi H O) v d) : Dq K H v d := Dq.mono mi_same _ _ h
/-- an own list, by its name -/
theorem Sta.own (S : Sta K B O I σ H env) {i : Nat} {ds : List D} (h : OwnAt env i ds) (hv : σ[i]? = some (some v)) :
    ∃ p xs, v = .ref p ∧ p ∈ O ∧ H p = some (.lst xs) ∧ DqA K (mi H O) xs ds ∧ B p = none := by
  obtain ⟨p, xs, h1, h2, h3, h4, h5⟩ := S.ow i ds h
  rw [hv] at h1
  cases h1
  exact ⟨p, xs, rfl, h2, h3, h4, h5⟩
theorem ownAt_of {i : Nat} {d : D} (h : deref env (.slot i) = some d) : ∃ ds, d = .lst ds ∧ OwnAt env i ds := by
  unfold deref at h
  dsimp only at h
  split at h
  · cases h; exact ⟨_, rfl, .inl (by assumption)⟩
  · cases h; exact ⟨_, rfl, .inr (by assumption)⟩
  · cases h
/-- a new list is let go: it stays from now on -/
theorem Post.frz {r : RV} (h : Post K B O I σ H env v r) : Post K B O I σ H env v (frz r) := by
  cases r with
  | ex n => exact False.elim h
  | val d => exact h
  | slot i => exact h
  | new ds =>
    obtain ⟨p, xs, rfl, h1, h2, h3, S, h4⟩ := h
    have e : Same (mi H [p]) H := mi_same
    refine ⟨S.grow e, .lst (mi_of h3 h1) (DqA.mono (mi_mono e) _ _ h4)⟩
  | tw dss =>
    obtain ⟨p, qs, rfl, h1, h2, h3, S, h4⟩ := h
    have pq : p ∉ qs := fun z => by
      obtain ⟨xs, e⟩ := LsOk.domA h4 p z
      rw [e] at h1
      cases h1
    have pO : p ∉ O := fun z => S.nt p _ z (mi_of pq h1)
    exact ⟨S.grow mi_same, .tup (.inl (.inl (mi_of pO h1))) (LsOk.dqa2 (fun a ha => List.mem_append_right _ ha) (fun q hq => (h3 q hq).2) h4)⟩
theorem Post.sta {r : RV} (h : Post K B O I σ H env v r) : Sta K B O I σ H env := by
  have := h.frz
  cases r with
  | ex n => exact False.elim h
  | val d => exact h.1
  | slot i => exact h.1
  | new ds => exact this.1
  | tw dss => exact this.1
/-- what is read of a value: the whole thing in the heap as it stands -/
theorem Post.read {r : RV} {d : D} (h : Post K B O I σ H env v r) (e : deref env r = some d) : Dq K H v d := by
  cases r with
  | ex n => exact False.elim h
  | val d' => cases e; exact h.1.full h.2
  | slot i =>
    obtain ⟨ds, rfl, ho⟩ := ownAt_of e
    obtain ⟨p, xs, rfl, _, h3, h4, _⟩ := h.1.own ho h.2
    exact .lst h3 (DqA.mono mi_same _ _ h4)
  | new ds =>
    cases e
    have := h.frz
    exact this.1.full this.2
  | tw dss =>
    cases e
    have := h.frz
    exact this.1.full this.2
/-- a list's items stay -/
theorem Post.items {r : RV} {ds : List D} (h : Post K B O I σ H env v r) (e : deref env r = some (.lst ds)) : ∃ p xs, v = .ref p ∧ H p = some (.lst xs) ∧ DqA K (mi H O) xs ds := by
  cases r with
  | ex n => exact False.elim h
  | val d' =>
    cases e
    obtain ⟨S, h⟩ := h
    cases h with
    | lst h1 h2 => exact ⟨_, _, rfl, (mi_some h1).2, h2⟩
  | slot i =>
    obtain ⟨es, e1, ho⟩ := ownAt_of e
    cases e1
    obtain ⟨p, xs, rfl, _, h3, h4, _⟩ := h.1.own ho h.2
    exact ⟨p, xs, rfl, h3, h4⟩
  | new es =>
    cases e
    obtain ⟨p, xs, rfl, h1, h2, h3, S, h4⟩ := h
    exact ⟨p, xs, rfl, h1, DqA.mono (mi_mono mi_same) _ _ h4⟩
  | tw dss => cases e
theorem Post.tuple {r : RV} {ds : List D} (h : Post K B O I σ H env v r) (e : deref env r = some (.tup ds)) : ∃ p xs, v = .ref p ∧ SqT K H p xs ∧ DqA K (mi H O) xs ds := by
  cases r with
  | ex n => exact False.elim h
  | val d' =>
    cases e
    obtain ⟨S, h⟩ := h
    cases h with
    | tup h1 h2 => exact ⟨_, _, rfl, sqT_mono mi_same h1, h2⟩
  | slot i =>
    obtain ⟨es, e1, ho⟩ := ownAt_of e
    cases e1
  | new es => cases e
  | tw dss =>
    cases e
    have h' : Post K B O I σ H env v (.val (.tup (dss.map D.lst))) := h.frz
    obtain ⟨S, h'⟩ := h'
    cases h' with
    | tup h1 h2 => exact ⟨_, _, rfl, sqT_mono mi_same h1, h2⟩
theorem Post.ntup {r : RV} {ds : List D} (h : Post K B O I σ H env v r) (e : deref env r = some (.nt ds)) : ∃ p xs, v = .ref p ∧ SqT K H p xs ∧ DqA K (mi H O) xs ds := by
  cases r with
  | ex n => exact False.elim h
  | val d' =>
    cases e
    obtain ⟨S, h⟩ := h
    cases h with
    | nt h1 h2 => exact ⟨_, _, rfl, .inl (.inl (mi_some h1).2), h2⟩
  | slot i =>
    obtain ⟨es, e1, ho⟩ := ownAt_of e
    cases e1
  | new es => cases e
  | tw dss => cases e
/-- a value that stays beside what comes later -/
theorem Post.later {r : RV} {env' : Env} (h : Post K B O I σ H env v (Dv.frz r)) (S' : Sta K (keepH σ env H) O I σ H' env') : Post K B O I σ H' env' v (Dv.frz r) := by
  have Sb : Sta K B O I σ H' env' := S'.weak h.sta.base_keep
  cases r with
  | ex n => exact False.elim h
  | val d => exact ⟨Sb, Dq.mono (h.1.stay S') _ _ h.2⟩
  | slot i => exact ⟨Sb, h.2⟩
  | new ds => exact ⟨Sb, Dq.mono (h.1.stay S') _ _ h.2⟩
  | tw dss => exact ⟨Sb, Dq.mono (h.1.stay S') _ _ h.2⟩
end
abbrev EF := Env → Option (RV × Env)
def Snd (K : PySem.W.Frag) (t : TE) (f : EF) : Prop := ∀ B O I σ H env rv env', Sta K B O I σ H env → f env = some (rv, env') →
  ∀ Q : VK, (∀ v H', Post K B O I σ H' env' v rv → Q v H') → t σ H Q
abbrev TF := Env → Option (Bool × Env)
def SndT (K : PySem.W.Frag) (t : TT) (f : TF) : Prop := ∀ B O I σ H env b env', Sta K B O I σ H env → f env = some (b, env') →
  ∀ Q : Bool → Hp → Prop, (∀ H', Sta K B O I σ H' env' → Q b H') → t σ H Q
abbrev AF := Env → Option (List RV × Env)
/-- arguments: each stays while the next is asked for -/
inductive PostA (K : PySem.W.Frag) (B : Hp) (O : List Addr) (I : List (Nat × Addr)) (σ : L2.St) (H : Hp) (env : Env) : List V → List RV → Prop
  | nil : PostA K B O I σ H env [] []
  | cons {v : V} {r : RV} {vs : List V} {rs : List RV} : Post K B O I σ H env v (frz r) → PostA K B O I σ H env vs rs → PostA K B O I σ H env (v :: vs) (frz r :: rs)
def SndA (K : PySem.W.Frag) (t : TA) (f : AF) : Prop := ∀ B O I σ H env rs env', Sta K B O I σ H env → f env = some (rs, env') →
  ∀ Q : List V → Hp → Prop, (∀ vs H', Sta K B O I σ H' env' → PostA K B O I σ H' env' vs rs → Q vs H') → t σ H Q
def fVar (i : Nat) : EF := fun env => match env[i]? with
  | some (.fz d) => some (.val d, env)
  | some (.o1 _) => some (.slot i, env)
  | some (.io _) => some (.slot i, env)
  | _ => none
def fC (d : D) : EF := fun env => some (.val d, env)
def fNil : AF := fun env => some ([], env)
def fCons (fa : EF) (fr : AF) : AF := fun env => do
  let (r, e1) ← fa env
  let (rs, e2) ← fr e1
  some (frz r :: rs, e2)
section
variable {K : PySem.W.Frag} {t ta tb : TE} {f fa fb : EF}
theorem snd_var (i : Nat) : Snd K (tVar i) (fVar i) := by
  intro B O I σ H env rv env' S e Q q
  unfold fVar at e
  split at e
  · cases e
    obtain ⟨v, h1, h2⟩ := S.fz i _ (by assumption)
    exact ⟨v, h1, q v H ⟨S, h2⟩⟩
  · cases e
    obtain ⟨p, xs, h1, _⟩ := S.ow i _ (.inl (by assumption))
    exact ⟨_, h1, q _ H ⟨S, h1⟩⟩
  · cases e
    obtain ⟨p, xs, h1, _⟩ := S.ow i _ (.inr (by assumption))
    exact ⟨_, h1, q _ H ⟨S, h1⟩⟩
  · cases e
/-- a written thing, a constant of the module -/
theorem snd_c {v : V} {d : D} (h : ∀ G, Dq K G v d) : Snd K (tC v) (fC d) := by
  intro B O I σ H env rv env' S e Q q
  cases e
  exact q v H ⟨S, h _⟩
theorem snd_int (i : Int) : Snd K (tC (.int i)) (fC (.int i)) := snd_c fun _ => .int i
theorem snd_bl (b : Bool) : Snd K (tC (.bl b)) (fC (.bl b)) := snd_c fun _ => .bl b
theorem snd_non : Snd K (tC .non) (fC .non) := snd_c fun _ => .non
theorem sa_nil : SndA K tNil fNil := by
  intro B O I σ H env rv env' S e Q q
  cases e
  exact q [] H S .nil
theorem PostA.later {B : Hp} {O : List Addr} {I : List (Nat × Addr)} {σ : L2.St} {H H' : Hp} {env env' : Env} (S : Sta K B O I σ H env) (S' : Sta K (keepH σ env H) O I σ H' env') :
    ∀ {vs : List V} {rs : List RV}, PostA K B O I σ H env vs rs → PostA K B O I σ H' env' vs rs
  | _, _, .nil => .nil
  | _, _, .cons h t => .cons (h.later S') (PostA.later S S' t)
theorem PostA.weak {B B' : Hp} {O : List Addr} {I : List (Nat × Addr)} {σ : L2.St} {H : Hp} {env : Env} (e : Same B B') :
    ∀ {vs : List V} {rs : List RV}, PostA K B' O I σ H env vs rs → PostA K B O I σ H env vs rs
  | _, _, .nil => .nil
  | _, _, @PostA.cons _ _ _ _ _ _ _ v r vs rs h t => .cons (by
      cases r with
      | ex n => exact False.elim h
      | val d => exact ⟨h.1.weak e, h.2⟩
      | slot i => exact ⟨h.1.weak e, h.2⟩
      | new ds => exact ⟨h.1.weak e, h.2⟩
      | tw dss => exact ⟨h.1.weak e, h.2⟩) (PostA.weak e t)
theorem sa_cons {te : TE} {t : TA} {fe : EF} {fr : AF} (h1 : Snd K te fe) (h2 : SndA K t fr) : SndA K (tCons te t) (fCons fe fr) := by
  intro B O I σ H env rv env' S e Q q
  unfold fCons at e
  cases e1 : fe env with
  | none => simp [e1] at e
  | some p1 =>
    obtain ⟨r1, env1⟩ := p1
    simp only [e1, Option.bind_eq_bind, Option.bind_some] at e
    cases e2 : fr env1 with
    | none => simp [e2] at e
    | some p2 =>
      obtain ⟨rs, env2⟩ := p2
      simp only [e2, Option.bind_some, Option.some.injEq, Prod.mk.injEq] at e
      obtain ⟨rfl, rfl⟩ := e
      refine h1 B O I σ H env r1 env1 S e1 _ fun v H1 P1 => ?_
      have P1' := P1.frz
      have S1 := P1'.sta
      refine h2 _ O I σ H1 env1 rs env2 S1.strong e2 _ fun vs H2 S2 P2 => ?_
      exact q (v :: vs) H2 (S2.weak S1.base_keep) (.cons (P1'.later S2) (PostA.weak S1.base_keep P2))
end
end Dv
namespace Dv
open PySem L2
theorem bnd {α β : Type} {o : Option α} {k : α → Option β} {z : β} (h : o.bind k = some z) : ∃ x, o = some x ∧ k x = some z := Option.bind_eq_some_iff.mp h
abbrev G2 := D → D → Option RV
def f2 (g : G2) (fa fb : EF) : EF := fun env => (fa env).bind fun a => (fb a.2).bind fun b => (deref b.2 (frz a.1)).bind fun x => (deref b.2 b.1).bind fun y => (g x y).bind fun z => some (z, b.2)
def Op2 (K : PySem.W.Frag) (r : R2) (g : G2) : Prop := ∀ B O I σ H env x y ra rb d e z, Post K B O I σ H env x ra → Post K B O I σ H env y rb → deref env ra = some d → deref env rb = some e → g d e = some z →
  ∀ Q : VK, (∀ v H', Post K B O I σ H' env v z → Q v H') → r x y H Q
section
variable {K : PySem.W.Frag} {B : Hp} {O : List Addr} {I : List (Nat × Addr)} {σ : L2.St} {H H' : Hp} {env env' : Env} {v : V} {t ta tb : TE} {f fa fb : EF}
theorem Post.weak {B' : Hp} {r : RV} (h : Post K B' O I σ H env v (Dv.frz r)) (e : Same B B') : Post K B O I σ H env v (Dv.frz r) := by
  cases r with
  | ex n => exact False.elim h
  | val d => exact ⟨h.1.weak e, h.2⟩
  | slot i => exact ⟨h.1.weak e, h.2⟩
  | new ds => exact ⟨h.1.weak e, h.2⟩
  | tw dss => exact ⟨h.1.weak e, h.2⟩
theorem Post.weakN {B' : Hp} {r : RV} (h : Post K B' O I σ H env v r) (e : Same B B') : Post K B O I σ H env v r := by
  cases r with
  | ex n => exact False.elim h
  | val d => exact ⟨h.1.weak e, h.2⟩
  | slot i => exact ⟨h.1.weak e, h.2⟩
  | new ds =>
    obtain ⟨p, xs, h0, h1, h2, h3, S, h4⟩ := h
    exact ⟨p, xs, h0, h1, e.free h2, h3, S.weak e, h4⟩
  | tw dss =>
    obtain ⟨p, qs, h0, h1, h2, h3, S, h4⟩ := h
    exact ⟨p, qs, h0, h1, h2, fun q hq => ⟨e.free (h3 q hq).1, (h3 q hq).2⟩, S.weak e, h4⟩
theorem snd_2 {r : R2} {g : G2} (h1 : Snd K ta fa) (h2 : Snd K tb fb) (ho : Op2 K r g) : Snd K (tOp r ta tb) (f2 g fa fb) := by
  intro B O I σ H env rv env' S e Q q
  obtain ⟨⟨r1, env1⟩, e1, e⟩ := bnd e
  obtain ⟨⟨r2, env2⟩, e2, e⟩ := bnd e
  obtain ⟨x, ex, e⟩ := bnd e
  obtain ⟨y, ey, e⟩ := bnd e
  obtain ⟨z, ez, e⟩ := bnd e
  cases e
  refine h1 B O I σ H env r1 env1 S e1 _ fun v H1 P1 => ?_
  have P1' := P1.frz
  have S1 := P1'.sta
  refine h2 _ O I σ H1 env1 r2 env2 S1.strong e2 _ fun w H2 P2 => ?_
  exact ho B O I σ H2 env2 v w _ r2 x y _ (P1'.later P2.sta) (P2.weakN S1.base_keep) ex ey ez Q q
theorem Op2.or {r s : R2} {g h : G2} (h1 : Op2 K r g) (h2 : Op2 K s h) : Op2 K (fun x y H Q => r x y H Q ∨ s x y H Q) (fun d e => (g d e).or (h d e)) := by
  intro B O I σ H env x y ra rb d e z P1 P2 e1 e2 ez Q q
  dsimp only at ez
  cases c : g d e with
  | some z' =>
    rw [c] at ez
    cases ez
    exact .inl (h1 B O I σ H env x y ra rb d e _ P1 P2 e1 e2 c Q q)
  | none =>
    rw [c] at ez
    exact .inr (h2 B O I σ H env x y ra rb d e z P1 P2 e1 e2 ez Q q)
theorem OpR.or {X : Cx} {f : Value → Value → Sem Value} {r s : R2} (h1 : OpR X f r) (h2 : OpR X f s) : OpR X f (fun x y H Q => r x y H Q ∨ s x y H Q) := by
  intro pins st σ H x y v u Q I rx ry h
  rcases h with h | h
  · exact h1 pins st σ H x y v u Q I rx ry h
  · exact h2 pins st σ H x y v u Q I rx ry h
/-- ints -/
def gI (C : Int → Int → Bool) (g : Int → Int → Int) : G2
  | .int i, .int j => if C i j then some (.val (.int (g i j))) else none
  | _, _ => none
def gI0 (g : Int → Int → Int) : G2
  | .int i, .int j => some (.val (.int (g i j)))
  | _, _ => none
def gIB (g : Int → Int → Bool) : G2
  | .int i, .int j => some (.val (.bl (g i j)))
  | _, _ => none
theorem op2_I {P : Int → Int → Prop} {C : Int → Int → Bool} {g : Int → Int → Int} (hc : ∀ i j, C i j = true → P i j) : Op2 K (rI P fun i j => .int (g i j)) (gI C g) := by
  intro B O I σ H env x y ra rb d e z P1 P2 e1 e2 ez Q q
  have d1 := P1.read e1
  have d2 := P2.read e2
  unfold gI at ez
  split at ez
  · cases d1
    cases d2
    split at ez
    · cases ez
      exact ⟨_, _, rfl, rfl, hc _ _ (by assumption), q _ H ⟨P1.sta, .int _⟩⟩
    · cases ez
  · cases ez
theorem op2_I0 {g : Int → Int → Int} : Op2 K (rI0 fun i j => .int (g i j)) (gI0 g) := by
  intro B O I σ H env x y ra rb d e z P1 P2 e1 e2 ez Q q
  have d1 := P1.read e1
  have d2 := P2.read e2
  unfold gI0 at ez
  split at ez
  · cases d1
    cases d2
    cases ez
    exact ⟨_, _, rfl, rfl, q _ H ⟨P1.sta, .int _⟩⟩
  · cases ez
theorem op2_IB {g : Int → Int → Bool} : Op2 K (rI0 fun i j => .bl (g i j)) (gIB g) := by
  intro B O I σ H env x y ra rb d e z P1 P2 e1 e2 ez Q q
  have d1 := P1.read e1
  have d2 := P2.read e2
  unfold gIB at ez
  split at ez
  · cases d1
    cases d2
    cases ez
    exact ⟨_, _, rfl, rfl, q _ H ⟨P1.sta, .bl _⟩⟩
  · cases ez
/-- a new list of things that stay -/
theorem post_new {p : Addr} {xs : List V} {ds : List D} (S : Sta K B O I σ H env) (hp : H p = none) (h : DqA K (mi H O) xs ds) : Post K B O I σ (upd H p (.lst xs)) env (.ref p) (.new ds) := by
  have hO : p ∉ O := fun z => by
    obtain ⟨o, e⟩ := S.dom p z
    rw [hp] at e
    cases e
  refine ⟨p, xs, rfl, upd_same, S.base.free hp, hO, ?_, ?_⟩
  · rw [mi_one_new hp]
    exact S
  · rw [mi_one_new hp]
    exact h
/-- a new tuple of things that stay -/
theorem post_tup {p : Addr} {xs : List V} {ds : List D} (S : Sta K B O I σ H env) (hp : H p = none) (h : DqA K (mi H O) xs ds) : Post K B O I σ (upd H p (.tup xs)) env (.ref p) (.val (.tup ds)) := by
  have hO : p ∉ O := fun z => by
    obtain ⟨o, e⟩ := S.dom p z
    rw [hp] at e
    cases e
  have e : Same H (upd H p (.tup xs)) := same_new hp
  exact ⟨S.grow e, .tup (.inl (.inl (mi_of hO upd_same))) (DqA.mono (mi_mono e) _ _ h)⟩
/-- + of lists -/
def gCat : G2
  | .lst a, .lst b => if a.length + b.length ≤ 10000000 then some (.new (a ++ b)) else none
  | _, _ => none
theorem line_of {n : Nat} (h : n ≤ 10000000) : n ≤ sizeLine := Nat.le_trans h (by decide)
theorem line_lt {n : Nat} (h : n ≤ 10000000) : n < sizeLine := Nat.lt_of_le_of_lt h (by decide)
theorem op2_cat : Op2 K rCat gCat := by
  intro B O I σ H env x y ra rb d e z P1 P2 e1 e2 ez Q q
  unfold gCat at ez
  split at ez
  · obtain ⟨p1, xs, rfl, h1, k1⟩ := P1.items e1
    obtain ⟨p2, ys, rfl, h2, k2⟩ := P2.items e2
    split at ez
    · cases ez
      rename_i hl
      refine ⟨p1, p2, xs, ys, rfl, rfl, h1, h2, ?_, fun p hp => q _ _ (post_new P1.sta hp (k1.append k2))⟩
      rw [k1.length, k2.length]
      exact line_of hl
    · cases ez
  · cases ez
/-- xs * k -/
def gRep : G2
  | .lst a, .int k => if a.length * k.toNat ≤ 10000000 ∧ -1000000000 ≤ k ∧ k ≤ 1000000000 then some (.new (List.replicate k.toNat a).flatten) else none
  | _, _ => none
theorem DqA.rep {G : Hp} {xs : List V} {ds : List D} (h : DqA K G xs ds) : ∀ n : Nat, DqA K G (List.replicate n xs).flatten (List.replicate n ds).flatten
  | 0 => .nil
  | n + 1 => by
    rw [List.replicate_succ, List.replicate_succ, List.flatten_cons, List.flatten_cons]
    exact h.append (DqA.rep h n)
theorem op2_rep : Op2 K rRep gRep := by
  intro B O I σ H env x y ra rb d e z P1 P2 e1 e2 ez Q q
  unfold gRep at ez
  split at ez
  · obtain ⟨p1, xs, rfl, h1, k1⟩ := P1.items e1
    have d2 := P2.read e2
    cases d2
    split at ez
    · cases ez
      rename_i hl
      refine ⟨p1, _, xs, rfl, rfl, h1, by omega, by omega, ?_, fun p hp => q _ _ (post_new P1.sta hp (k1.rep _))⟩
      rw [k1.length]
      exact line_of hl.1
    · cases ez
  · cases ez
mutual
def toPy : D → PyData
  | .non => .none
  | .bl b => .bool b
  | .int i => .int i
  | .str x => .str x
  | .lst xs => .list (toPys xs)
  | .tup xs => .tuple (toPys xs)
  | .scr _ => .dict []
  | .adr _ => .dict []
  | .nt xs => .tuple (toPys xs)
  | .dct _ _ => .dict []
def toPys : List D → List PyData
  | [] => []
  | d :: ds => toPy d :: toPys ds
end
mutual
theorem Dq.py {G : Hp} : ∀ (d : D) (v : V), Dq K G v d → PyData.canLay0 (toPy d) = true → Dp K G v (toPy d)
  | .non, _, h, _ => by cases h; simp only [toPy]; exact .non
  | .bl b, _, h, _ => by cases h; simp only [toPy]; exact .bl b
  | .int i, _, h, _ => by cases h; simp only [toPy]; exact .int i
  | .str x, _, h, _ => by cases h; simp only [toPy]; exact .str x
  | .lst ds, _, h, k => by
    cases h with
    | lst h1 h2 =>
      simp only [toPy] at k ⊢
      simp only [PyData.canLay0] at k
      exact .lst (.inl (.inl h1)) (DqA.py ds _ h2 k)
  | .tup ds, _, h, k => by
    cases h with
    | tup h1 h2 =>
      simp only [toPy] at k ⊢
      simp only [PyData.canLay0] at k
      exact .tup h1 (DqA.py ds _ h2 k)
  | .scr ns, _, h, k => by
    simp only [toPy, PyData.canLay0] at k
    cases k
  | .adr a, _, h, k => by
    simp only [toPy, PyData.canLay0] at k
    cases k
  | .nt ds, _, h, k => by
    cases h with
    | nt h1 h2 =>
      simp only [toPy] at k ⊢
      simp only [PyData.canLay0] at k
      exact .tup (.inl (.inl h1)) (DqA.py ds _ h2 k)
  | .dct _ _, _, h, k => by
    simp only [toPy, PyData.canLay0] at k
    cases k
theorem DqA.py {G : Hp} : ∀ (ds : List D) (vs : List V), DqA K G vs ds → PyData.canLayAll0 (toPys ds) = true → DpAll K G vs (toPys ds)
  | [], _, h, _ => by cases h; simp only [toPys]; exact .nil
  | d :: ds, _, h, k => by
    cases h with
    | cons h1 h2 =>
      simp only [toPys, PyData.canLayAll0, Bool.and_eq_true] at k ⊢
      exact .cons (Dq.py d _ h1 k.1) (DqA.py ds _ h2 k.2)
end
def shp (d : D) : Bool := SeqAt.shaped (toPy d)
def eqD (d e : D) : Bool := PyData.eqv (toPy d) (toPy e)
def gEq : G2 := fun d e => if shp d && shp e then some (.val (.bl (eqD d e))) else none
def gNe : G2 := fun d e => if shp d && shp e then some (.val (.bl (!eqD d e))) else none
theorem op2_eq : Op2 K (rEqD K) gEq := by
  intro B O I σ H env x y ra rb d e z P1 P2 e1 e2 ez Q q
  unfold gEq at ez
  split at ez
  · rename_i h
    cases ez
    rw [Bool.and_eq_true] at h
    have d1 := P1.read e1
    have d2 := P2.read e2
    exact ⟨_, _, Dq.py _ _ d1 (SeqAt.canLay_of_shaped h.1), Dq.py _ _ d2 (SeqAt.canLay_of_shaped h.2), h.1, h.2, q _ H ⟨P1.sta, .bl _⟩⟩
  · cases ez
theorem op2_ne : Op2 K (rNeD K) gNe := by
  intro B O I σ H env x y ra rb d e z P1 P2 e1 e2 ez Q q
  unfold gNe at ez
  split at ez
  · rename_i h
    cases ez
    rw [Bool.and_eq_true] at h
    have d1 := P1.read e1
    have d2 := P2.read e2
    exact ⟨_, _, Dq.py _ _ d1 (SeqAt.canLay_of_shaped h.1), Dq.py _ _ d2 (SeqAt.canLay_of_shaped h.2), h.1, h.2, q _ H ⟨P1.sta, .bl _⟩⟩
  · cases ez
theorem DqA.atI {G : Hp} {vs : List V} {ds : List D} {i : Int} {d : D} (h : DqA K G vs ds) (e : L2.atI ds i = some d) : ∃ v, L2.atI vs i = some v ∧ Dq K G v d := by
  unfold L2.atI at e ⊢
  obtain ⟨j, e1, e2⟩ := bnd e
  rw [h.length, e1]
  exact h.get e2
theorem atI_map {α β : Type} {f : α → β} {xs : List α} {i : Int} {d : α} (h : L2.atI xs i = some d) : L2.atI (xs.map f) i = some (f d) := by
  unfold L2.atI at h ⊢
  obtain ⟨j, j1, j2⟩ := bnd h
  rw [List.length_map, j1]
  show (List.map f xs)[j]? = _
  rw [List.getElem?_map, j2]
  rfl
def gIx : G2
  | .lst ds, .int i => (L2.atI ds i).bind fun d => some (.val d)
  | .tup ds, .int i => (L2.atI ds i).bind fun d => some (.val d)
  | .scr ns, .int i => (L2.atI ns i).bind fun n => some (.val (.int n))
  | .str z, .int i => if z.length ≤ 10000000 then (L2.atI z.cps.toList i).bind fun c => some (.val (.str ⟨#[c]⟩)) else none
  | .nt ds, .int i => (L2.atI ds i).bind fun d => some (.val d)
  | _, _ => none
theorem op2_ix : Op2 K (rIx K) gIx := by
  intro B O I σ H env x y ra rb d e z P1 P2 e1 e2 ez Q q
  unfold gIx at ez
  have d2 := P2.read e2
  split at ez
  · obtain ⟨p1, xs, rfl, h1, k1⟩ := P1.items e1
    cases d2
    obtain ⟨d, e3, e4⟩ := bnd ez
    cases e4
    obtain ⟨v, e5, k⟩ := k1.atI e3
    exact .inl ⟨p1, xs, _, v, rfl, rfl, .inl (.inl h1), e5, q v H ⟨P1.sta, k⟩⟩
  · obtain ⟨p1, xs, rfl, h1, k1⟩ := P1.tuple e1
    cases d2
    obtain ⟨d, e3, e4⟩ := bnd ez
    cases e4
    obtain ⟨v, e5, k⟩ := k1.atI e3
    exact .inr (.inl ⟨p1, xs, _, v, rfl, rfl, h1, e5, q v H ⟨P1.sta, k⟩⟩)
  · have d1 := P1.read e1
    cases d1 with
    | scr h =>
      cases d2
      obtain ⟨d, e3, e4⟩ := bnd ez
      cases e4
      exact .inl ⟨_, _, _, _, rfl, rfl, h, atI_map e3, q _ H ⟨P1.sta, .int _⟩⟩
  · have d1 := P1.read e1
    cases d1
    cases d2
    split at ez
    · obtain ⟨d, e3, e4⟩ := bnd ez
      cases e4
      exact .inr (.inr ⟨_, _, _, rfl, rfl, line_of (by assumption), e3, q _ H ⟨P1.sta, .str _⟩⟩)
    · cases ez
  · obtain ⟨p1, xs, rfl, h1, k1⟩ := P1.ntup e1
    cases d2
    obtain ⟨d, e3, e4⟩ := bnd ez
    cases e4
    obtain ⟨v, e5, k⟩ := k1.atI e3
    exact .inr (.inl ⟨p1, xs, _, v, rfl, rfl, h1, e5, q v H ⟨P1.sta, k⟩⟩)
  · cases ez
abbrev G1 := D → Option RV
def f1 (g : G1) (fa : EF) : EF := fun env => (fa env).bind fun a => (deref a.2 a.1).bind fun x => (g x).bind fun z => some (z, a.2)
def Op1 (K : PySem.W.Frag) (r : V → Hp → VK → Prop) (g : G1) : Prop := ∀ B O I σ H env x ra d z, Post K B O I σ H env x ra → deref env ra = some d → g d = some z →
  ∀ Q : VK, (∀ v H', Post K B O I σ H' env v z → Q v H') → r x H Q
theorem snd_1 {r : V → Hp → VK → Prop} {g : G1} (h1 : Snd K ta fa) (ho : Op1 K r g) : Snd K (tUn r ta) (f1 g fa) := by
  intro B O I σ H env rv env' S e Q q
  obtain ⟨⟨r1, env1⟩, e1, e⟩ := bnd e
  obtain ⟨x, ex, e⟩ := bnd e
  obtain ⟨z, ez, e⟩ := bnd e
  cases e
  exact h1 B O I σ H env r1 env1 S e1 _ fun v H1 P1 => ho B O I σ H1 env1 v r1 x _ P1 ex ez Q q
def gNeg : G1
  | .int i => some (.val (.int (-i)))
  | _ => none
theorem op1_neg : Op1 K (rU fun i => .int (-i)) gNeg := by
  intro B O I σ H env x ra d z P1 e1 ez Q q
  have d1 := P1.read e1
  unfold gNeg at ez
  split at ez
  · cases d1
    cases ez
    exact ⟨_, rfl, q _ H ⟨P1.sta, .int _⟩⟩
  · cases ez
def derefs (env : Env) : List RV → Option (List D)
  | [] => some []
  | r :: rs => (deref env r).bind fun d => (derefs env rs).bind fun ds => some (d :: ds)
abbrev GB := List D → Option RV
def fB (g : GB) (fa : AF) : EF := fun env => (fa env).bind fun a => (derefs a.2 a.1).bind fun xs => (g xs).bind fun z => some (z, a.2)
def CallG (K : PySem.W.Frag) (r : List V → Hp → VK → Prop) (g : GB) : Prop := ∀ B O I σ H env vs rs ds z, Sta K B O I σ H env → PostA K B O I σ H env vs rs → derefs env rs = some ds → g ds = some z →
  ∀ Q : VK, (∀ v H', Post K B O I σ H' env v z → Q v H') → r vs H Q
theorem snd_b {r : List V → Hp → VK → Prop} {g : GB} {t : TA} {fa : AF} (h1 : SndA K t fa) (ho : CallG K r g) : Snd K (tCB r t) (fB g fa) := by
  intro B O I σ H env rv env' S e Q q
  obtain ⟨⟨r1, env1⟩, e1, e⟩ := bnd e
  obtain ⟨x, ex, e⟩ := bnd e
  obtain ⟨z, ez, e⟩ := bnd e
  cases e
  exact h1 B O I σ H env r1 env1 S e1 _ fun v H1 S1 P1 => ho B O I σ H1 env1 v r1 x _ S1 P1 ex ez Q q
theorem one_of {vs : List V} {rs : List RV} {d : D} (P : PostA K B O I σ H env vs rs) (e : derefs env rs = some [d]) : ∃ v r, vs = [v] ∧ Post K B O I σ H env v r ∧ deref env r = some d := by
  cases P with
  | nil => cases e
  | @cons v r vs rs h t =>
    obtain ⟨x, e1, e⟩ := bnd e
    obtain ⟨y, e2, e⟩ := bnd e
    cases e
    cases t with
    | nil => exact ⟨v, _, rfl, h, e1⟩
    | cons h t =>
      obtain ⟨x, e1, e⟩ := bnd e2
      obtain ⟨y, e2, e⟩ := bnd e
      cases e
theorem two_of {vs : List V} {rs : List RV} {d e : D} (P : PostA K B O I σ H env vs rs) (h : derefs env rs = some [d, e]) :
    ∃ v w r s, vs = [v, w] ∧ Post K B O I σ H env v r ∧ deref env r = some d ∧ Post K B O I σ H env w s ∧ deref env s = some e := by
  cases P with
  | nil => cases h
  | @cons v r vs rs h1 t =>
    obtain ⟨x, e1, h⟩ := bnd h
    obtain ⟨y, e2, h⟩ := bnd h
    cases h
    obtain ⟨w, s, rfl, k1, k2⟩ := one_of t e2
    exact ⟨v, w, _, s, rfl, h1, e1, k1, k2⟩
def gLen : GB
  | [.lst ds] => some (.val (.int ds.length))
  | [.tup ds] => some (.val (.int ds.length))
  | [.scr ns] => some (.val (.int ns.length))
  | [.nt ds] => some (.val (.int ds.length))
  | _ => none
theorem cg_len : CallG K (fun xs H Q => ∃ p ys, xs = [.ref p] ∧ (SqL K H p ys ∨ SqT K H p ys) ∧ Q (.int ys.length) H) gLen := by
  intro B O I σ H env vs rs ds z S P e ez Q q
  unfold gLen at ez
  split at ez
  · obtain ⟨v, r, rfl, P1, e1⟩ := one_of P e
    obtain ⟨p1, xs, rfl, h1, k1⟩ := P1.items e1
    cases ez
    exact ⟨p1, xs, rfl, .inl (.inl (.inl h1)), by rw [k1.length]; exact q _ H ⟨S, .int _⟩⟩
  · obtain ⟨v, r, rfl, P1, e1⟩ := one_of P e
    obtain ⟨p1, xs, rfl, h1, k1⟩ := P1.tuple e1
    cases ez
    exact ⟨p1, xs, rfl, .inr h1, by rw [k1.length]; exact q _ H ⟨S, .int _⟩⟩
  · obtain ⟨v, r, rfl, P1, e1⟩ := one_of P e
    have d1 := P1.read e1
    cases d1 with
    | scr h =>
      cases ez
      exact ⟨_, _, rfl, .inl h, by rw [List.length_map]; exact q _ H ⟨S, .int _⟩⟩
  · obtain ⟨v, r, rfl, P1, e1⟩ := one_of P e
    obtain ⟨p1, xs, rfl, h1, k1⟩ := P1.ntup e1
    cases ez
    exact ⟨p1, xs, rfl, .inr h1, by rw [k1.length]; exact q _ H ⟨S, .int _⟩⟩
  · cases ez
def gAbs : GB
  | [.int i] => some (.val (.int (if i < 0 then -i else i)))
  | _ => none
theorem cg_abs : CallG K (fun xs H Q => ∃ i, xs = [.int i] ∧ Q (.int (if i < 0 then -i else i)) H) gAbs := by
  intro B O I σ H env vs rs ds z S P e ez Q q
  unfold gAbs at ez
  split at ez
  · obtain ⟨v, r, rfl, P1, e1⟩ := one_of P e
    have d1 := P1.read e1
    cases d1
    cases ez
    exact ⟨_, rfl, q _ H ⟨S, .int _⟩⟩
  · cases ez
def gMax2 : GB
  | [.int i, .int j] => some (.val (.int (if j > i then j else i)))
  | _ => none
def gMin2 : GB
  | [.int i, .int j] => some (.val (.int (if j < i then j else i)))
  | _ => none
theorem cg_max2 : CallG K (fun xs H Q => ∃ i j, xs = [.int i, .int j] ∧ Q (.int (if j > i then j else i)) H) gMax2 := by
  intro B O I σ H env vs rs ds z S P e ez Q q
  unfold gMax2 at ez
  split at ez
  · obtain ⟨v, w, r, s, rfl, P1, e1, P2, e2⟩ := two_of P e
    have d1 := P1.read e1
    have d2 := P2.read e2
    cases d1
    cases d2
    cases ez
    exact ⟨_, _, rfl, q _ H ⟨S, .int _⟩⟩
  · cases ez
theorem cg_min2 : CallG K (fun xs H Q => ∃ i j, xs = [.int i, .int j] ∧ Q (.int (if j < i then j else i)) H) gMin2 := by
  intro B O I σ H env vs rs ds z S P e ez Q q
  unfold gMin2 at ez
  split at ez
  · obtain ⟨v, w, r, s, rfl, P1, e1, P2, e2⟩ := two_of P e
    have d1 := P1.read e1
    have d2 := P2.read e2
    cases d1
    cases d2
    cases ez
    exact ⟨_, _, rfl, q _ H ⟨S, .int _⟩⟩
  · cases ez
def gInt : GB
  | [.int i] => some (.val (.int i))
  | [.bl b] => some (.val (.int (if b then 1 else 0)))
  | _ => none
theorem cg_int : CallG K (fun xs H Q => (∃ i, xs = [.int i] ∧ Q (.int i) H) ∨ ∃ k, xs = [.bl k] ∧ Q (.int (if k then 1 else 0)) H) gInt := by
  intro B O I σ H env vs rs ds z S P e ez Q q
  unfold gInt at ez
  split at ez
  · obtain ⟨v, r, rfl, P1, e1⟩ := one_of P e
    have d1 := P1.read e1
    cases d1
    cases ez
    exact .inl ⟨_, rfl, q _ H ⟨S, .int _⟩⟩
  · obtain ⟨v, r, rfl, P1, e1⟩ := one_of P e
    have d1 := P1.read e1
    cases d1
    cases ez
    exact .inr ⟨_, rfl, q _ H ⟨S, .int _⟩⟩
  · cases ez
/-- list(x) of a list, a tuple -/
def gList : GB
  | [.lst ds] => some (.new ds)
  | [.tup ds] => some (.new ds)
  | _ => none
def allInts : List D → Option (List Int)
  | [] => some []
  | .int b :: r => (allInts r).bind fun bs => some (b :: bs)
  | _ => none
theorem allInts_eq : ∀ {ds : List D} {bs : List Int}, allInts ds = some bs → ds = bs.map D.int
  | [], _, h => by cases h; rfl
  | d :: ds, bs, h => by
    cases d with
    | int b =>
      obtain ⟨x, e1, e2⟩ := bnd h
      cases e2
      rw [allInts_eq e1]
      rfl
    | _ => cases h
theorem allInts_map : ∀ ns : List Int, allInts (ns.map D.int) = some ns
  | [] => rfl
  | n :: ns => by simp [allInts, allInts_map ns]
def gSum : GB
  | [.lst ds] => (allInts ds).bind fun bs => some (.val (.int bs.sum))
  | _ => none
theorem cg_sum : CallG K (rSum K) gSum := by
  intro B O I σ H env vs rs ds z S P e ez Q q
  unfold gSum at ez
  split at ez
  · obtain ⟨v, r, rfl, P1, e1⟩ := one_of P e
    obtain ⟨p1, xs, rfl, h1, k1⟩ := P1.items e1
    obtain ⟨bs, e2, e3⟩ := bnd ez
    cases e3
    rw [allInts_eq e2] at k1
    rw [k1.isInts] at h1
    exact ⟨p1, bs, rfl, .inl (.inl h1), q _ H ⟨S, .int _⟩⟩
  · cases ez
def allVal : List RV → Option (List D)
  | [] => some []
  | .val d :: r => (allVal r).bind fun ds => some (d :: ds)
  | _ => none
theorem post_vals : ∀ {vs : List V} {rs : List RV} {ds : List D}, PostA K B O I σ H env vs rs → allVal rs = some ds → DqA K (mi H O) vs ds
  | _, _, _, .nil, e => by cases e; exact .nil
  | _, _, _, @PostA.cons _ _ _ _ _ _ _ v r vs rs h t, e => by
    cases r with
    | ex n => exact False.elim h
    | val d =>
      obtain ⟨x, e1, e2⟩ := bnd e
      cases e2
      exact .cons h.2 (post_vals t e1)
    | slot i => cases e
    | new es =>
      obtain ⟨x, e1, e2⟩ := bnd e
      cases e2
      exact .cons h.2 (post_vals t e1)
    | tw dss =>
      obtain ⟨x, e1, e2⟩ := bnd e
      cases e2
      exact .cons h.2 (post_vals t e1)
def fTup (fa : AF) : EF := fun env => (fa env).bind fun a => (allVal a.1).bind fun ds => if ds.length ≤ 10000000 then some (.val (.tup ds), a.2) else none
def fLst (fa : AF) : EF := fun env => (fa env).bind fun a => (allVal a.1).bind fun ds => if ds.length ≤ 10000000 then some (.new ds, a.2) else none
theorem snd_tup {t : TA} {fa : AF} (h1 : SndA K t fa) : Snd K (tTup t) (fTup fa) := by
  intro B O I σ H env rv env' S e Q q
  obtain ⟨⟨r1, env1⟩, e1, e⟩ := bnd e
  obtain ⟨ds, e2, e⟩ := bnd e
  dsimp only at e2 e
  split at e
  · cases e
    refine h1 B O I σ H env r1 _ S e1 _ fun vs H1 S1 P1 => ?_
    have k := post_vals P1 e2
    refine ⟨by rw [k.length]; exact line_of (by assumption), fun p hp => q _ _ (post_tup S1 hp k)⟩
  · cases e
theorem snd_lst {t : TA} {fa : AF} (h1 : SndA K t fa) : Snd K (tLst t) (fLst fa) := by
  intro B O I σ H env rv env' S e Q q
  obtain ⟨⟨r1, env1⟩, e1, e⟩ := bnd e
  obtain ⟨ds, e2, e⟩ := bnd e
  dsimp only at e2 e
  split at e
  · cases e
    refine h1 B O I σ H env r1 _ S e1 _ fun vs H1 S1 P1 => ?_
    have k := post_vals P1 e2
    refine ⟨by rw [k.length]; exact line_of (by assumption), fun p hp => q _ _ (post_new S1 hp k)⟩
  · cases e
def fT (f : EF) : TF := fun env => (f env).bind fun a => match a.1 with
  | .val (.bl b) => some (b, a.2)
  | _ => none
theorem fT_of {f : EF} {env env' : Env} {b : Bool} (e : fT f env = some (b, env')) : f env = some (.val (.bl b), env') := by
  obtain ⟨⟨r1, env1⟩, e1, e⟩ := bnd e
  dsimp only at e
  split at e
  · cases e
    rw [e1]
  · cases e
theorem st_test (h : Snd K t f) : SndT K (tTest t) (fT f) := by
  intro B O I σ H env b env' S e Q q
  refine h B O I σ H env _ _ S (fT_of e) _ fun v H1 P1 => ?_
  obtain ⟨S1, d1⟩ := P1
  cases d1
  exact ⟨b, rfl, q _ S1⟩
theorem st_B (h : Snd K t f) : SndT K (tB t) (fT f) := by
  intro B O I σ H env b env' S e Q q
  refine h B O I σ H env _ _ S (fT_of e) _ fun v H1 P1 => ?_
  obtain ⟨S1, d1⟩ := P1
  cases d1
  exact ⟨b, rfl, q _ S1⟩
def fAnd (a b : TF) : TF := fun env => (a env).bind fun x => if x.1 then b x.2 else some (false, x.2)
def fOr (a b : TF) : TF := fun env => (a env).bind fun x => if x.1 then some (true, x.2) else b x.2
def fNot (a : TF) : TF := fun env => (a env).bind fun x => some (!x.1, x.2)
section
variable {t u : TT} {f g : TF}
theorem st_and (h1 : SndT K t f) (h2 : SndT K u g) : SndT K (tAnd t u) (fAnd f g) := by
  intro B O I σ H env b env' S e Q q
  obtain ⟨⟨b1, env1⟩, e1, e⟩ := bnd e
  refine h1 B O I σ H env b1 env1 S e1 _ fun H1 S1 => ?_
  cases b1 with
  | true =>
    rw [if_pos rfl]
    exact h2 B O I σ H1 env1 b env' S1 e Q q
  | false =>
    rw [if_neg Bool.false_ne_true]
    cases e
    exact q H1 S1
theorem st_or (h1 : SndT K t f) (h2 : SndT K u g) : SndT K (tOr t u) (fOr f g) := by
  intro B O I σ H env b env' S e Q q
  obtain ⟨⟨b1, env1⟩, e1, e⟩ := bnd e
  refine h1 B O I σ H env b1 env1 S e1 _ fun H1 S1 => ?_
  cases b1 with
  | true =>
    rw [if_pos rfl]
    cases e
    exact q H1 S1
  | false =>
    rw [if_neg Bool.false_ne_true]
    exact h2 B O I σ H1 env1 b env' S1 e Q q
end
def fAndV (a b : EF) : EF := fun env => (fT a env).bind fun x => if x.1 then b x.2 else some (.val (.bl false), x.2)
def fOrV (a b : EF) : EF := fun env => (fT a env).bind fun x => if x.1 then some (.val (.bl true), x.2) else b x.2
def fNotV (a : EF) : EF := fun env => (fT a env).bind fun x => some (.val (.bl (!x.1)), x.2)
def fIfE (c : TF) (a b : EF) : EF := fun env => (c env).bind fun x => if x.1 then a x.2 else b x.2
end
end Dv
namespace Dv
open PySem L2
inductive Out where
  | nx (env : Env) | rt (r : RV) (env : Env) | bk (env : Env) | ct (env : Env)
abbrev SFn := Env → Option Out
def Sub (B : Hp) (I : List (Nat × Addr)) (O O' : List Addr) : Prop := (∀ a, a ∈ O → (B a ≠ none ∨ a ∈ I.map (·.2)) → a ∈ O') ∧ ∀ a, a ∈ O' → a ∈ O ∨ B a = none
theorem Sub.refl {B : Hp} {I : List (Nat × Addr)} {O : List Addr} : Sub B I O O := ⟨fun _ h _ => h, fun _ h => .inl h⟩
theorem Sub.trans {B : Hp} {I : List (Nat × Addr)} {O O1 O2 : List Addr} (h : Sub B I O O1) (k : Sub B I O1 O2) : Sub B I O O2 :=
  ⟨fun a z y => k.1 a (h.1 a z y) y, fun a z => (k.2 a z).elim (fun y => h.2 a y) .inr⟩
theorem Sub.weak {B B' : Hp} {I : List (Nat × Addr)} {O O' : List Addr} (h : Sub B' I O O') (e : Same B B') : Sub B I O O' := ⟨fun a z y => h.1 a z (y.imp (fun n q => n (e.free q)) id), fun a z => (h.2 a z).imp id e.free⟩
/-- what is wished of a refusal -/
abbrev WN := Nat → L2.St → Hp → Prop
def OutOk (K : PySem.W.Frag) (W : WN) (B : Hp) (O : List Addr) (I : List (Nat × Addr)) (D : Ends) : Out → Prop
  | .nx env => ∀ O' σ' H', Sub B I O O' → Sta K B O' I σ' H' env → D.nx σ' H'
  | .rt (.ex n) env => ∀ O' σ' H', Sub B I O O' → Sta K B O' I σ' H' env → W n σ' H'
  | .rt r env => ∀ O' σ' H' v, Sub B I O O' → Post K B O' I σ' H' env v r → D.rt v H'
  | .bk env => ∀ O' σ' H', Sub B I O O' → Sta K B O' I σ' H' env → D.bk σ' H'
  | .ct env => ∀ O' σ' H', Sub B I O O' → Sta K B O' I σ' H' env → D.ct σ' H'
def SndS (K : PySem.W.Frag) (W : WN) (t : TS) (g : SFn) : Prop := ∀ B O I σ H env o, Sta K B O I σ H env → g env = some o → ∀ D, OutOk K W B O I D o → t D σ H
section
variable {K : PySem.W.Frag} {B : Hp} {O : List Addr} {I : List (Nat × Addr)} {σ : L2.St} {H H' : Hp} {env env' : Env} {v : V} {t ta tb te : TE} {f fa fb fe : EF} {W : WN}
theorem OutOk.sub {O' : List Addr} {D : Ends} {o : Out} (s : Sub B I O O') (h : OutOk K W B O I D o) : OutOk K W B O' I D o := by
  cases o with
  | nx e => exact fun O2 σ2 H2 k S => h O2 σ2 H2 (s.trans k) S
  | rt r e =>
    cases r with
    | ex n => exact fun O2 σ2 H2 k S => h O2 σ2 H2 (s.trans k) S
    | val d => exact fun O2 σ2 H2 v k S => h O2 σ2 H2 v (s.trans k) S
    | slot i => exact fun O2 σ2 H2 v k S => h O2 σ2 H2 v (s.trans k) S
    | new ds => exact fun O2 σ2 H2 v k S => h O2 σ2 H2 v (s.trans k) S
    | tw ds => exact fun O2 σ2 H2 v k S => h O2 σ2 H2 v (s.trans k) S
  | bk e => exact fun O2 σ2 H2 k S => h O2 σ2 H2 (s.trans k) S
  | ct e => exact fun O2 σ2 H2 k S => h O2 σ2 H2 (s.trans k) S
theorem OutOk.strong {B' : Hp} {D : Ends} {o : Out} (e : Same B B') (h : OutOk K W B O I D o) : OutOk K W B' O I D o := by
  cases o with
  | nx _ => exact fun O2 σ2 H2 k S => h O2 σ2 H2 (k.weak e) (S.weak e)
  | rt r _ =>
    cases r with
    | ex n => exact fun O2 σ2 H2 k S => h O2 σ2 H2 (k.weak e) (S.weak e)
    | val d => exact fun O2 σ2 H2 v k S => h O2 σ2 H2 v (k.weak e) (Post.weakN (r := .val d) S e)
    | slot i => exact fun O2 σ2 H2 v k S => h O2 σ2 H2 v (k.weak e) (Post.weakN (r := .slot i) S e)
    | new ds => exact fun O2 σ2 H2 v k S => h O2 σ2 H2 v (k.weak e) (Post.weakN (r := .new ds) S e)
    | tw ds => exact fun O2 σ2 H2 v k S => h O2 σ2 H2 v (k.weak e) (Post.weakN (r := .tw ds) S e)
  | bk _ => exact fun O2 σ2 H2 k S => h O2 σ2 H2 (k.weak e) (S.weak e)
  | ct _ => exact fun O2 σ2 H2 k S => h O2 σ2 H2 (k.weak e) (S.weak e)
theorem OutOk.rt {D : Ends} {r : RV} {e : Env} (h : OutOk K W B O I D (.rt r e)) {O' : List Addr} {σ' : L2.St} {H' : Hp} {v : V} (s : Sub B I O O') (P : Post K B O' I σ' H' e v r) : D.rt v H' := by
  cases r with
  | ex n => exact False.elim P
  | val d => exact h O' σ' H' v s P
  | slot i => exact h O' σ' H' v s P
  | new ds => exact h O' σ' H' v s P
  | tw ds => exact h O' σ' H' v s P
theorem OutOk.ret {D D' : Ends} {r : RV} {e : Env} (h : OutOk K W B O I D (.rt r e)) (q : ∀ v H, D.rt v H → D'.rt v H) : OutOk K W B O I D' (.rt r e) := by
  cases r with
  | ex n => exact h
  | val d => exact fun O' σ' H' v s P => q _ _ (h O' σ' H' v s P)
  | slot i => exact fun O' σ' H' v s P => q _ _ (h O' σ' H' v s P)
  | new ds => exact fun O' σ' H' v s P => q _ _ (h O' σ' H' v s P)
  | tw ds => exact fun O' σ' H' v s P => q _ _ (h O' σ' H' v s P)
def isIo (env : Env) (i : Nat) : Bool := match env[i]? with
  | some (.io _) => true
  | _ => false
theorem isIo_of {i : Nat} {ds : List D} (h : env[i]? = some (.io ds)) : isIo env i = true := by
  unfold isIo
  rw [h]
def putS (i : Nat) (s : SV) (env : Env) : Option Env := if isIo env i = true ∨ env.length ≤ i then none else some (env.set i s)
theorem putS_of {i : Nat} {s : SV} (h : putS i s env = some env') : isIo env i = false ∧ i < env.length ∧ env' = env.set i s := by
  unfold putS at h
  split at h
  · cases h
  · rename_i n
    cases h
    refine ⟨?_, ?_, rfl⟩
    · cases c : isIo env i with
      | true => exact absurd (.inl c) n
      | false => rfl
    · exact Nat.lt_of_not_le fun z => n (.inr z)
theorem own_set {i j : Nat} {s : SV} {ds : List D} (hj : j ≠ i) : OwnAt (env.set i s) j ds ↔ OwnAt env j ds := by
  unfold OwnAt
  rw [List.getElem?_set_ne (Ne.symm hj)]
theorem nw_set {i j : Nat} {s : SV} {w : OV} (hl : i < env.length) (hs : ∀ w, s ≠ .nw w) (h : (env.set i s)[j]? = some (.nw w)) : j ≠ i ∧ env[j]? = some (.nw w) := by
  by_cases c : j = i
  · subst c
    rw [List.getElem?_set_self hl] at h
    cases h
    exact absurd rfl (hs w)
  · rw [List.getElem?_set_ne (Ne.symm c)] at h
    exact ⟨c, h⟩
theorem own_fz {i : Nat} {d : D} {ds : List D} (hi : i < env.length) : ¬ OwnAt (env.set i (.fz d)) i ds := by
  unfold OwnAt
  rw [List.getElem?_set_self hi]
  rintro (h | h) <;> cases h
theorem own_no {i : Nat} {ds : List D} (hi : i < env.length) : ¬ OwnAt (env.set i .no) i ds := by
  unfold OwnAt
  rw [List.getElem?_set_self hi]
  rintro (h | h) <;> cases h
/-- a name gets a thing that stays -/
theorem Sta.put {i : Nat} {d : D} (S : Sta K B O I σ H env) (h : Dq K (mi H O) v d) (e : putS i (.fz d) env = some env') : Sta K B O I (σ.set i (some v)) H env' := by
  obtain ⟨h1, h2, rfl⟩ := putS_of e
  have hs : i < σ.length := by rw [S.len]; exact h2
  have ne : ∀ j ds, OwnAt (env.set i (.fz d)) j ds → j ≠ i := fun j ds z y => by
    subst y
    exact own_fz h2 z
  refine ⟨by simp [S.len], fun j e hj => ?_, fun j ds hj => ?_, fun j k ds es p hj hk e1 e2 => ?_, S.base, S.dom, fun j p hj => ?_, ?_, S.nt⟩
  · by_cases c : j = i
    · subst c
      rw [List.getElem?_set_self h2] at hj
      cases hj
      exact ⟨v, List.getElem?_set_self hs, h⟩
    · rw [List.getElem?_set_ne (Ne.symm c)] at hj ⊢
      exact S.fz j e hj
  · have c := ne j ds hj
    obtain ⟨p, xs, k1, k2⟩ := S.ow j ds ((own_set c).mp hj)
    exact ⟨p, xs, by rw [List.getElem?_set_ne (Ne.symm c)]; exact k1, k2⟩
  · have c := ne j ds hj
    have c' := ne k es hk
    rw [List.getElem?_set_ne (Ne.symm c)] at e1
    rw [List.getElem?_set_ne (Ne.symm c')] at e2
    exact S.sep j k ds es p ((own_set c).mp hj) ((own_set c').mp hk) e1 e2
  · obtain ⟨k1, ds, k2⟩ := S.pin j p hj
    have c : j ≠ i := fun z => by
      subst z
      rw [isIo_of k2] at h1
      cases h1
    rw [List.getElem?_set_ne (Ne.symm c), List.getElem?_set_ne (Ne.symm c)]
    exact ⟨k1, ds, k2⟩
  · refine NwOk.go S.nw (fun j w hj => ?_) (fun j ds a hj e => ?_) (fun a h1 h2 _ _ => ⟨h1, h2, rfl⟩) (Same.refl _) S.dom
    · obtain ⟨c, k⟩ := nw_set h2 (by intro w z; cases z) hj
      exact ⟨k, List.getElem?_set_ne (Ne.symm c)⟩
    · have c := ne j ds hj
      rw [List.getElem?_set_ne (Ne.symm c)] at e
      exact .inl ⟨ds, (own_set c).mp hj, e⟩
/-- a name is forgotten (its value may be anything) -/
theorem Sta.drop {i : Nat} {w : Option V} (S : Sta K B O I σ H env) (e : putS i .no env = some env') : Sta K B O I (σ.set i w) H env' := by
  obtain ⟨h1, h2, rfl⟩ := putS_of e
  have ne : ∀ j ds, OwnAt (env.set i .no) j ds → j ≠ i := fun j ds z y => by
    subst y
    exact own_no h2 z
  refine ⟨by simp [S.len], fun j e hj => ?_, fun j ds hj => ?_, fun j k ds es p hj hk e1 e2 => ?_, S.base, S.dom, fun j p hj => ?_, ?_, S.nt⟩
  · by_cases c : j = i
    · subst c
      rw [List.getElem?_set_self h2] at hj
      cases hj
    · rw [List.getElem?_set_ne (Ne.symm c)] at hj ⊢
      exact S.fz j e hj
  · have c := ne j ds hj
    obtain ⟨p, xs, k1, k2⟩ := S.ow j ds ((own_set c).mp hj)
    exact ⟨p, xs, by rw [List.getElem?_set_ne (Ne.symm c)]; exact k1, k2⟩
  · have c := ne j ds hj
    have c' := ne k es hk
    rw [List.getElem?_set_ne (Ne.symm c)] at e1
    rw [List.getElem?_set_ne (Ne.symm c')] at e2
    exact S.sep j k ds es p ((own_set c).mp hj) ((own_set c').mp hk) e1 e2
  · obtain ⟨k1, ds, k2⟩ := S.pin j p hj
    have c : j ≠ i := fun z => by
      subst z
      rw [isIo_of k2] at h1
      cases h1
    rw [List.getElem?_set_ne (Ne.symm c), List.getElem?_set_ne (Ne.symm c)]
    exact ⟨k1, ds, k2⟩
  · refine NwOk.go S.nw (fun j w hj => ?_) (fun j ds a hj e => ?_) (fun a h1 h2 _ _ => ⟨h1, h2, rfl⟩) (Same.refl _) S.dom
    · obtain ⟨c, k⟩ := nw_set h2 (by intro w z; cases z) hj
      exact ⟨k, List.getElem?_set_ne (Ne.symm c)⟩
    · have c := ne j ds hj
      rw [List.getElem?_set_ne (Ne.symm c)] at e
      exact .inl ⟨ds, (own_set c).mp hj, e⟩
theorem mi_mi {p : Addr} : mi (mi H [p]) O = mi H (p :: O) := by
  funext a
  unfold mi
  by_cases h1 : a ∈ O
  · rw [if_pos h1, if_pos (List.mem_cons_of_mem _ h1)]
  · rw [if_neg h1]
    by_cases h2 : a = p
    · subst h2
      rw [if_pos (List.mem_singleton.mpr rfl), if_pos List.mem_cons_self]
    · rw [if_neg (fun z => h2 (List.mem_singleton.mp z)), if_neg (fun z => (List.mem_cons.mp z).elim h2 h1)]
/-- a name gets a new list as its own -/
theorem Sta.owned {i : Nat} {ds : List D} (P : Post K B O I σ H env v (.new ds)) (e : putS i (.o1 ds) env = some env') : ∃ O', Sub B I O O' ∧ Sta K B O' I (σ.set i (some v)) H env' := by
  obtain ⟨p, xs, rfl, hp, hB, hO, S, hx⟩ := P
  obtain ⟨h1, h2, rfl⟩ := putS_of e
  have hs : i < σ.length := by rw [S.len]; exact h2
  have low : ∀ q ys, mi H [p] q = some ys → q ≠ p ∧ H q = some ys := fun q ys z => by
    obtain ⟨z1, z2⟩ := mi_some z
    exact ⟨fun y => z1 (List.mem_singleton.mpr y), z2⟩
  refine ⟨p :: O, ⟨fun a h _ => List.mem_cons_of_mem _ h, fun a h => (List.mem_cons.mp h).elim (fun z => .inr (z ▸ hB)) .inl⟩, ?_⟩
  refine ⟨by simp [S.len], fun j e hj => ?_, fun j es hj => ?_, fun j k es gs q hj hk e1 e2 => ?_, S.base.trans mi_same, fun q hq => ?_, fun j q hj => ?_, ?_, fun q xs hq => ?_⟩
  · by_cases c : j = i
    · subst c
      rw [List.getElem?_set_self h2] at hj
      cases hj
    · rw [List.getElem?_set_ne (Ne.symm c)] at hj ⊢
      obtain ⟨w, k1, k2⟩ := S.fz j e hj
      rw [mi_mi] at k2
      exact ⟨w, k1, k2⟩
  · by_cases c : j = i
    · subst c
      have ee : es = ds := by
        unfold OwnAt at hj
        rw [List.getElem?_set_self h2] at hj
        rcases hj with h | h <;> cases h
        rfl
      subst ee
      rw [mi_mi] at hx
      exact ⟨p, xs, List.getElem?_set_self hs, List.mem_cons_self, hp, hx, hB⟩
    · obtain ⟨q, ys, k1, k2, k3, k4, k5⟩ := S.ow j es ((own_set c).mp hj)
      rw [mi_mi] at k4
      exact ⟨q, ys, by rw [List.getElem?_set_ne (Ne.symm c)]; exact k1, List.mem_cons_of_mem _ k2, (low _ _ k3).2, k4, k5⟩
  · have key : ∀ j es q, j ≠ i → OwnAt (env.set i (.o1 ds)) j es → (σ.set i (some (V.ref p)))[j]? = some (some (.ref q)) → q ≠ p := fun j es q c z y => by
      obtain ⟨q', ys, k1, k2, k3, k4, k5⟩ := S.ow j es ((own_set c).mp z)
      rw [List.getElem?_set_ne (Ne.symm c), k1] at y
      cases y
      exact (low _ _ k3).1
    by_cases c : j = i
    · by_cases c' : k = i
      · rw [c, c']
      · subst c
        rw [List.getElem?_set_self hs] at e1
        cases e1
        exact absurd rfl (key k gs _ c' hk e2)
    · by_cases c' : k = i
      · subst c'
        rw [List.getElem?_set_self hs] at e2
        cases e2
        exact absurd rfl (key j es _ c hj e1)
      · rw [List.getElem?_set_ne (Ne.symm c)] at e1
        rw [List.getElem?_set_ne (Ne.symm c')] at e2
        exact S.sep j k es gs q ((own_set c).mp hj) ((own_set c').mp hk) e1 e2
  · rcases List.mem_cons.mp hq with rfl | hq
    · exact ⟨_, hp⟩
    · obtain ⟨o, z⟩ := S.dom q hq
      exact ⟨o, (low _ _ z).2⟩
  · obtain ⟨k1, es, k2⟩ := S.pin j q hj
    have c : j ≠ i := fun z => by
      subst z
      rw [isIo_of k2] at h1
      cases h1
    rw [List.getElem?_set_ne (Ne.symm c), List.getElem?_set_ne (Ne.symm c)]
    exact ⟨k1, es, k2⟩
  · have e0 : Same (mi (mi H [p]) O) (mi H (p :: O)) := by
      rw [mi_mi]
      exact Same.refl _
    refine NwOk.go S.nw (fun j w hj => ?_) (fun j es a hj e => ?_) (fun a h1 h2 ⟨o, h3⟩ _ => ⟨List.mem_cons_of_mem _ h1, h2, by rw [h3]; exact (low _ _ h3).2⟩) e0 S.dom
    · obtain ⟨c, k⟩ := nw_set h2 (by intro w z; cases z) hj
      exact ⟨k, List.getElem?_set_ne (Ne.symm c)⟩
    · by_cases c : j = i
      · subst c
        rw [List.getElem?_set_self hs] at e
        cases e
        exact .inr hO
      · rw [List.getElem?_set_ne (Ne.symm c)] at e
        exact .inl ⟨es, (own_set c).mp hj, e⟩
  · rcases List.mem_cons.mp hq with rfl | hq
    · rw [hp]
      exact fun z => by cases z
    · exact S.ntS hq (fun o z => (low _ _ z).2) xs
/-- an own list is changed in its place -/
def upO (i : Nat) (h : List D → Option (List D)) (env : Env) : Option Env := match env[i]? with
  | some (.o1 ds) => (h ds).bind fun es => some (env.set i (.o1 es))
  | some (.io ds) => (h ds).bind fun es => some (env.set i (.io es))
  | _ => none
theorem upO_of {i : Nat} {h : List D → Option (List D)} (e : upO i h env = some env') : ∃ ds es k, OwnAt env i ds ∧ h ds = some es ∧ (k = SV.o1 ∨ k = SV.io) ∧ env[i]? = some (k ds) ∧ env' = env.set i (k es) := by
  unfold upO at e
  split at e
  · obtain ⟨es, e1, e2⟩ := bnd e
    cases e2
    exact ⟨_, es, .o1, .inl (by assumption), e1, .inl rfl, by assumption, rfl⟩
  · obtain ⟨es, e1, e2⟩ := bnd e
    cases e2
    exact ⟨_, es, .io, .inr (by assumption), e1, .inr rfl, by assumption, rfl⟩
  · cases e
theorem Sta.up {i : Nat} {h : List D → Option (List D)} (S : Sta K B O I σ H env) (e : upO i h env = some env') :
    ∃ p xs ds es, σ[i]? = some (some (.ref p)) ∧ H p = some (.lst xs) ∧ DqA K (mi H O) xs ds ∧ OwnAt env i ds ∧ h ds = some es ∧ ∀ ys, DqA K (mi H O) ys es → Sta K B O I σ (upd H p (.lst ys)) env' := by
  obtain ⟨ds, es, k, h1, h2, hk, h3, rfl⟩ := upO_of e
  obtain ⟨p, xs, s1, s2, s3, s4, s5⟩ := S.ow i ds h1
  have hi : i < env.length := (List.getElem?_eq_some_iff.mp h3).1
  refine ⟨p, xs, ds, es, s1, s3, s4, h1, h2, fun ys hy => ?_⟩
  have hm : mi (upd H p (.lst ys)) O = mi H O := mi_upd_in s2
  have own' : ∀ j gs, OwnAt (env.set i (k es)) j gs → ∃ gs', OwnAt env j gs' ∧ (j ≠ i → gs' = gs) ∧ (j = i → gs = es) := fun j gs z => by
    by_cases c : j = i
    · subst c
      refine ⟨ds, h1, fun z => absurd rfl z, fun _ => ?_⟩
      unfold OwnAt at z
      rw [List.getElem?_set_self hi] at z
      rcases hk with rfl | rfl <;> rcases z with z | z <;> cases z <;> rfl
    · exact ⟨gs, (own_set c).mp z, fun _ => rfl, fun z => absurd z c⟩
  refine ⟨by simp [S.len], fun j e hj => ?_, fun j gs hj => ?_, fun j l gs fs q hj hl e1 e2 => ?_, fun a o ha => ?_, fun q hq => ?_, fun j q hj => ?_, ?_, fun q xs hq => ?_⟩
  · rw [hm]
    by_cases c : j = i
    · subst c
      rw [List.getElem?_set_self hi] at hj
      rcases hk with rfl | rfl <;> cases hj
    · rw [List.getElem?_set_ne (Ne.symm c)] at hj
      exact S.fz j e hj
  · rw [hm]
    obtain ⟨gs', o1, o2, o3⟩ := own' j gs hj
    by_cases c : j = i
    · subst c
      rw [o3 rfl]
      exact ⟨p, ys, s1, s2, upd_same, hy, s5⟩
    · rw [← o2 c]
      obtain ⟨q, zs, k1, k2, k3, k4, k5⟩ := S.ow j gs' o1
      have nq : q ≠ p := fun z => by
        subst z
        exact c (S.sep j i gs' ds q o1 h1 k1 s1)
      exact ⟨q, zs, k1, k2, by rw [upd_ne nq]; exact k3, k4, k5⟩
  · obtain ⟨gs', o1, _⟩ := own' j gs hj
    obtain ⟨fs', o2, _⟩ := own' l fs hl
    exact S.sep j l gs' fs' q o1 o2 e1 e2
  · have na : a ≠ p := fun z => by
      subst z
      rw [ha] at s5
      cases s5
    rw [upd_ne na]
    exact S.base a o ha
  · by_cases c : q = p
    · subst c
      exact ⟨_, upd_same⟩
    · rw [upd_ne c]
      exact S.dom q hq
  · obtain ⟨k1, gs, k2⟩ := S.pin j q hj
    by_cases c : j = i
    · subst c
      rw [h3] at k2
      rcases hk with rfl | rfl
      · cases k2
      · exact ⟨k1, es, List.getElem?_set_self hi⟩
    · rw [List.getElem?_set_ne (Ne.symm c)]
      exact ⟨k1, gs, k2⟩
  · refine NwOk.go S.nw (fun j w hj => ?_) (fun j gs a hj e => ?_) (fun a g1 g2 _ g4 => ⟨g1, g2, ?_⟩) (by rw [hm]; exact Same.refl _) S.dom
    · exact ⟨(nw_set hi (fun w z => by rcases hk with rfl | rfl <;> cases z) hj).2, rfl⟩
    · obtain ⟨gs', o1, _⟩ := own' j gs hj
      exact .inl ⟨gs', o1, e⟩
    · rw [upd_ne]
      intro z
      subst z
      exact g4 i ds h1 s1
  · by_cases c : q = p
    · subst c
      rw [upd_same]
      exact fun z => by cases z
    · rw [upd_ne c]
      exact S.nt q xs hq
abbrev GF := D → Env → Option Env
def SndG (K : PySem.W.Frag) (g : TG) (h : GF) : Prop := ∀ B O I σ H env v d env', Sta K B O I σ H env → Dq K (mi H O) v d → h d env = some env' →
  ∀ Q : L2.St → Hp → Prop, (∀ σ', Sta K B O I σ' H env' → Q σ' H) → g v σ H Q
def SndGs (K : PySem.W.Frag) (g : TGs) (h : List D → Env → Option Env) : Prop := ∀ B O I σ H env vs ds env', Sta K B O I σ H env → DqA K (mi H O) vs ds → h ds env = some env' →
  ∀ Q : L2.St → Hp → Prop, (∀ σ', Sta K B O I σ' H env' → Q σ' H) → g vs σ H Q
def gfName (i : Nat) : GF := fun d env => putS i (.fz d) env
def gfTup (n : Nat) (h : List D → Env → Option Env) : GF := fun d env => match d with
  | .tup ds => if ds.length = n then h ds env else none
  | .nt ds => if ds.length = n then h ds env else none
  | _ => none
def gfNil : List D → Env → Option Env := fun ds env => match ds with
  | [] => some env
  | _ => none
def gfCons (g : GF) (h : List D → Env → Option Env) : List D → Env → Option Env := fun ds env => match ds with
  | d :: r => (g d env).bind fun e => h r e
  | _ => none
theorem sg_name (i : Nat) : SndG K (gName i) (gfName i) := by
  intro B O I σ H env v d env' S hd e Q q
  exact q _ (S.put hd e)
theorem sgs_nil : SndGs K gNil gfNil := by
  intro B O I σ H env v d env' S hd e Q q
  unfold gfNil at e
  split at e
  · cases e
    cases hd
    exact ⟨rfl, q _ S⟩
  · cases e
theorem sgs_cons {g : TG} {gs : TGs} {h : GF} {hs : List D → Env → Option Env} (h1 : SndG K g h) (h2 : SndGs K gs hs) : SndGs K (gCons g gs) (gfCons h hs) := by
  intro B O I σ H env v d env' S hd e Q q
  unfold gfCons at e
  split at e
  · cases hd with
    | cons d1 d2 =>
      obtain ⟨e1, e2, e3⟩ := bnd e
      exact ⟨_, _, rfl, h1 B O I σ H env _ _ e1 S d1 e2 _ fun σ1 S1 => h2 B O I σ1 H e1 _ _ env' S1 d2 e3 Q q⟩
  · cases e
theorem sg_tup {gs : TGs} {hs : List D → Env → Option Env} {n : Nat} (h2 : SndGs K gs hs) : SndG K (gTup K n gs) (gfTup n hs) := by
  intro B O I σ H env v d env' S hd e Q q
  unfold gfTup at e
  split at e
  · split at e
    · cases hd with
      | tup h1 h3 => exact ⟨_, _, rfl, sqT_mono mi_same h1, by rw [h3.length]; assumption, h2 B O I σ H env _ _ env' S h3 e Q q⟩
    · cases e
  · split at e
    · cases hd with
      | nt h1 h3 => exact ⟨_, _, rfl, .inl (.inl (mi_some h1).2), by rw [h3.length]; assumption, h2 B O I σ H env _ _ env' S h3 e Q q⟩
    · cases e
  · cases e
def fAsg (f : EF) (g : GF) : SFn := fun env => (f env).bind fun a => match frz a.1 with
  | .val d => (g d a.2).bind fun e => some (.nx e)
  | _ => none
theorem ss_asg {g : TG} {h : GF} (h1 : Snd K te fe) (h2 : SndG K g h) : SndS K W (tAsg te g) (fAsg fe h) := by
  intro B O I σ H env o S e D k
  obtain ⟨⟨r1, env1⟩, e1, e⟩ := bnd e
  dsimp only at e
  split at e
  · rename_i d hd
    obtain ⟨env2, e2, e⟩ := bnd e
    cases e
    refine h1 B O I σ H env r1 env1 S e1 _ fun v H1 P1 => ?_
    have P1' := P1.frz
    rw [hd] at P1'
    exact h2 B O I σ H1 env1 v d env2 P1'.1 P1'.2 e2 _ fun σ2 S2 => k O σ2 H1 .refl S2
  · cases e
def fOwn (i : Nat) (f : EF) : SFn := fun env => (f env).bind fun a => match a.1 with
  | .new ds => (putS i (.o1 ds) a.2).bind fun e => some (.nx e)
  | _ => none
theorem ss_own {i : Nat} (h1 : Snd K te fe) : SndS K W (tAsg te (gName i)) (fOwn i fe) := by
  intro B O I σ H env o S e D k
  obtain ⟨⟨r1, env1⟩, e1, e⟩ := bnd e
  dsimp only at e
  split at e
  · obtain ⟨env2, e2, e⟩ := bnd e
    cases e
    refine h1 B O I σ H env _ env1 S e1 _ fun v H1 P1 => ?_
    obtain ⟨O', s, S2⟩ := Sta.owned P1 e2
    exact k O' _ H1 s S2
  · cases e
def fPar (i j : Nat) (fa : AF) : SFn := fun env => (fa env).bind fun a => (allVal a.1).bind fun ds => match ds with
  | [d, e] => (putS i (.fz d) a.2).bind fun e1 => (putS j (.fz e) e1).bind fun e2 => some (.nx e2)
  | _ => none
theorem ss_par {i j : Nat} {t : TA} {fa : AF} (h1 : SndA K t fa) : SndS K W (tPar i j t) (fPar i j fa) := by
  intro B O I σ H env o S e D k
  obtain ⟨⟨r1, env1⟩, e1, e⟩ := bnd e
  obtain ⟨ds, e2, e⟩ := bnd e
  dsimp only at e2 e
  split at e
  · obtain ⟨env2, e3, e⟩ := bnd e
    obtain ⟨env3, e4, e⟩ := bnd e
    cases e
    refine h1 B O I σ H env r1 env1 S e1 _ fun vs H1 S1 P1 => ?_
    have q := post_vals P1 e2
    cases q with
    | cons q1 q2 =>
      cases q2 with
      | cons q2 q3 =>
        cases q3
        exact ⟨_, _, rfl, k O _ H1 .refl ((S1.put q1 e3).put q2 e4)⟩
  · cases e
def fDrop (f : EF) : SFn := fun env => (f env).bind fun a => some (.nx a.2)
theorem ss_drop (h1 : Snd K te fe) : SndS K W (tDrop te) (fDrop fe) := by
  intro B O I σ H env o S e D k
  obtain ⟨⟨r1, env1⟩, e1, e⟩ := bnd e
  cases e
  exact h1 B O I σ H env r1 env1 S e1 _ fun v H1 P1 => k O σ H1 .refl P1.sta
def fRet (f : EF) : SFn := fun env => (f env).bind fun a => some (.rt a.1 a.2)
theorem ss_ret (h1 : Snd K te fe) : SndS K W (tRet te) (fRet fe) := by
  intro B O I σ H env o S e D k
  obtain ⟨⟨r1, env1⟩, e1, e⟩ := bnd e
  cases e
  exact h1 B O I σ H env r1 env1 S e1 _ fun v H1 P1 => k.rt .refl P1
def fNext : SFn := fun env => some (.nx env)
theorem ss_next : SndS K W tNext fNext := by
  intro B O I σ H env o S e D k
  cases e
  exact k O σ H .refl S
def fSeq (g h : SFn) : SFn := fun env => (g env).bind fun o => match o with
  | .nx e => h e
  | o => some o
theorem ss_seq {t u : TS} {g h : SFn} (h1 : SndS K W t g) (h2 : SndS K W u h) : SndS K W (tSeq t u) (fSeq g h) := by
  intro B O I σ H env o S e D k
  obtain ⟨o1, e1, e⟩ := bnd e
  refine h1 B O I σ H env o1 S e1 _ ?_
  cases o1 with
  | nx e2 => exact fun O2 σ2 H2 s S2 => h2 B O2 I σ2 H2 e2 o S2 e D (k.sub s)
  | rt r e2 => cases e; exact k.ret fun _ _ z => z
  | bk e2 => cases e; exact k
  | ct e2 => cases e; exact k
def fIf (c : TF) (g h : SFn) : SFn := fun env => (c env).bind fun b => if b.1 then g b.2 else h b.2
theorem ss_if {c : TT} {fc : TF} {t u : TS} {g h : SFn} (hc : SndT K c fc) (h1 : SndS K W t g) (h2 : SndS K W u h) : SndS K W (tIfS c t u) (fIf fc g h) := by
  intro B O I σ H env o S e D k
  obtain ⟨⟨b, env1⟩, e1, e⟩ := bnd e
  refine hc B O I σ H env b env1 S e1 _ fun H1 S1 => ?_
  cases b with
  | true =>
    rw [if_pos rfl]
    exact h1 B O I σ H1 env1 o S1 e D k
  | false =>
    rw [if_neg Bool.false_ne_true]
    exact h2 B O I σ H1 env1 o S1 e D k
def whileN (c : TF) (b : SFn) : Nat → SFn
  | 0, _ => none
  | n + 1, env => (c env).bind fun p => if p.1 then (b p.2).bind fun o => match o with
      | .nx e => whileN c b n e
      | .ct e => whileN c b n e
      | .bk e => some (.nx e)
      | .rt r e => some (.rt r e)
    else some (.nx p.2)
def fWhile (fuel : Env → Nat) (c : TF) (b : SFn) : SFn := fun env => whileN c b (fuel env) env
theorem ss_while {c : TT} {fc : TF} {t : TS} {g : SFn} {fuel : Env → Nat} (hc : SndT K c fc) (h1 : SndS K W t g) : SndS K W (tWhile c t) (fWhile fuel fc g) := by
  intro B O I σ H env o S e D k
  refine ⟨fun m σ H => ∃ O' env, Sub B I O O' ∧ Sta K B O' I σ H env ∧ whileN fc g m env = some o, ⟨_, O, env, .refl, S, e⟩, fun m σ H ⟨O1, env1, s1, S1, e1⟩ => ?_⟩
  cases m with
  | zero => cases e1
  | succ n =>
    obtain ⟨⟨b, env2⟩, e2, e3⟩ := bnd e1
    refine hc B O1 I σ H env1 b env2 S1 e2 _ fun H2 S2 => ?_
    cases b with
    | false =>
      rw [if_neg Bool.false_ne_true]
      cases e3
      exact k O1 σ H2 s1 S2
    | true =>
      rw [if_pos rfl]
      obtain ⟨o2, e4, e5⟩ := bnd e3
      refine ⟨fun σ' H' => ∃ O' env, Sub B I O O' ∧ Sta K B O' I σ' H' env ∧ whileN fc g n env = some o, fun σ' H' z => ⟨n, Nat.lt_succ_self n, z⟩, ?_⟩
      refine h1 B O1 I σ H2 env2 o2 S2 e4 _ ?_
      cases o2 with
      | nx e6 => exact fun O3 σ3 H3 s3 S3 => ⟨O3, e6, s1.trans s3, S3, e5⟩
      | ct e6 => exact fun O3 σ3 H3 s3 S3 => ⟨O3, e6, s1.trans s3, S3, e5⟩
      | bk e6 => cases e5; exact k.sub s1
      | rt r e6 => cases e5; exact OutOk.ret (OutOk.sub s1 k) fun _ _ z => z
end
end Dv
namespace Dv
open PySem L2
def IterOk (K : PySem.W.Frag) (G0 : Hp) (J : It) (items : List D) : Prop := ∀ (H : Hp) (O : List Addr), Same G0 (mi H O) → (∀ p, p ∈ O → ∃ o, H p = some o) →
  (∀ i, i < items.length → J.go i H) ∧ J.stop items.length H ∧ ∀ i d x H', items[i]? = some d → J.yld i H x H' → Same H H' ∧ Dq K (mi H' O) x d
abbrev IF := Env → Option (List D × Env)
def SndI (K : PySem.W.Frag) (wi : TI) (f : IF) : Prop := ∀ B O I σ H env items env', Sta K B O I σ H env → f env = some (items, env') →
  ∀ R : It → Hp → Prop, (∀ J H', Sta K B O I σ H' env' → IterOk K (mi H' O) J items → R J H') → wi σ H R
section
variable {K : PySem.W.Frag} {B : Hp} {O : List Addr} {I : List (Nat × Addr)} {σ : L2.St} {H H' : Hp} {env env' : Env} {v : V} {t ta tb te : TE} {f fa fb fe : EF} {W : WN}
theorem not_dom {p : Addr} (hd : ∀ p, p ∈ O → ∃ o, H p = some o) (hp : H p = none) : p ∉ O := fun z => by
  obtain ⟨o, e⟩ := hd p z
  rw [hp] at e
  cases e
/-- range -/
def rangeD (lo : Int) (n : Nat) : List D := (List.range n).map fun k => D.int (lo + (k : Nat))
def rangeC (lo c : Int) (n : Nat) : List D := (List.range n).map fun k => D.int (lo + (k : Nat) * c)
theorem iter_range {lo : Int} {n : Nat} {G : Hp} : IterOk K G (Itr lo n) (rangeD lo n) := by
  intro H O _ _
  have hl : (rangeD lo n).length = n := by simp [rangeD]
  refine ⟨fun i h => by rw [hl] at h; exact h, by rw [hl]; exact Nat.le_refl n, fun i d x H' hi hy => ?_⟩
  obtain ⟨rfl, rfl⟩ := hy
  refine ⟨Same.refl _, ?_⟩
  unfold rangeD at hi
  rw [List.getElem?_map] at hi
  obtain ⟨k, h1, h2⟩ := Option.map_eq_some_iff.mp hi
  rw [List.getElem?_range] at h1
  · cases h1
    rw [← h2]
    exact .int _
  · apply Classical.byContradiction
    intro z
    rw [List.getElem?_eq_none (by simpa using z)] at h1
    cases h1
def fRange1 (fa : AF) : IF := fun env => (fa env).bind fun a => (allVal a.1).bind fun ds => match ds with
  | [.int j] => if -1000000000000 ≤ j ∧ j ≤ 1000000000000 then some (rangeD 0 j.toNat, a.2) else none
  | _ => none
def fRange2 (fa : AF) : IF := fun env => (fa env).bind fun a => (allVal a.1).bind fun ds => match ds with
  | [.int i, .int j] => if -1000000000000 ≤ i ∧ i ≤ 1000000000000 ∧ -1000000000000 ≤ j ∧ j ≤ 1000000000000 then some (rangeD i (j - i).toNat, a.2) else none
  | _ => none
def fRange3 (fa : AF) : IF := fun env => (fa env).bind fun a => (allVal a.1).bind fun ds => match ds with
  | [.int i, .int j, .int c] => if c ≠ 0 ∧ c.natAbs < 1073741824 ∧ Builtin.Range.small i j c = true ∧ 0 ≤ Builtin.Range.rangeSize i j c then some (rangeC i c (Builtin.Range.rangeSize i j c).toNat, a.2) else none
  | _ => none
theorem si_range1 {t : TA} {fa : AF} (h : SndA K t fa) : SndI K (iRng1 t) (fRange1 fa) := by
  intro B O I σ H env items env' S e R q
  obtain ⟨⟨r1, env1⟩, e1, e⟩ := bnd e
  obtain ⟨ds, e2, e⟩ := bnd e
  dsimp only at e2 e
  split at e
  · split at e
    · cases e
      refine h B O I σ H env r1 _ S e1 _ fun vs H1 S1 P1 => ?_
      have k := post_vals P1 e2
      cases k with
      | cons k1 k2 =>
        cases k1
        cases k2
        exact ⟨_, rfl, by omega, by omega, q _ H1 S1 iter_range⟩
    · cases e
  · cases e
theorem si_range2 {t : TA} {fa : AF} (h : SndA K t fa) : SndI K (iRng2 t) (fRange2 fa) := by
  intro B O I σ H env items env' S e R q
  obtain ⟨⟨r1, env1⟩, e1, e⟩ := bnd e
  obtain ⟨ds, e2, e⟩ := bnd e
  dsimp only at e2 e
  split at e
  · split at e
    · cases e
      refine h B O I σ H env r1 _ S e1 _ fun vs H1 S1 P1 => ?_
      have k := post_vals P1 e2
      cases k with
      | cons k1 k2 =>
        cases k1
        cases k2 with
        | cons k2 k3 =>
          cases k2
          cases k3
          exact ⟨_, _, rfl, ⟨by omega, by omega, by omega, by omega⟩, q _ H1 S1 iter_range⟩
    · cases e
  · cases e
def fIterL (f : EF) : IF := fun env => (f env).bind fun a => match frz a.1 with
  | .val (.lst ds) => some (ds, a.2)
  | _ => none
def fIterT (f : EF) : IF := fun env => (f env).bind fun a => match frz a.1 with
  | .val (.tup ds) => some (ds, a.2)
  | .val (.nt ds) => some (ds, a.2)
  | _ => none
theorem iter_list {G : Hp} {a : Addr} {xs : List V} {ds : List D} (h : G a = some (.lst xs)) (k : DqA K G xs ds) : IterOk K G (Itl K a) ds := by
  intro H O s hd
  have hs : SqL K H a xs := .inl (.inl (mi_same _ _ (s _ _ h)))
  refine ⟨fun i hi => ?_, ⟨xs, hs, by rw [k.length]; exact Nat.le_refl _⟩, fun i d x H' hi hy => ?_⟩
  · obtain ⟨v, h1, _⟩ := k.get (List.getElem?_eq_getElem hi)
    exact ⟨xs, v, hs, h1⟩
  · obtain ⟨rfl, hx⟩ := hy
    obtain ⟨v, h1, h2⟩ := k.get hi
    have := hx xs hs
    rw [h1] at this
    cases this
    exact ⟨Same.refl _, Dq.mono s _ _ h2⟩
theorem si_list (h : Snd K t f) : SndI K (iList K t) (fIterL f) := by
  intro B O I σ H env items env' S e R q
  obtain ⟨⟨r1, env1⟩, e1, e⟩ := bnd e
  dsimp only at e
  split at e
  · cases e
    rename_i hr
    refine h B O I σ H env r1 _ S e1 _ fun v H1 P1 => ?_
    have P := P1.frz
    rw [hr] at P
    obtain ⟨S1, d1⟩ := P
    cases d1 with
    | lst h1 h2 => exact ⟨_, rfl, ⟨_, .inl (.inl (mi_some h1).2)⟩, q _ H1 S1 (iter_list h1 h2)⟩
  · cases e
/-- enumerate, zip, reversed of lists that stay -/
def enumD : Nat → List D → List D
  | _, [] => []
  | k, d :: ds => .tup [.int (k : Nat), d] :: enumD (k + 1) ds
theorem enumD_get : ∀ (ds : List D) (k i : Nat) (e : D), (enumD k ds)[i]? = some e → ∃ d, ds[i]? = some d ∧ e = .tup [.int ((k + i : Nat) : Int), d]
  | [], _, _, _, h => by simp [enumD] at h
  | d :: ds, k, 0, e, h => by
    simp [enumD] at h
    exact ⟨d, rfl, h.symm⟩
  | d :: ds, k, i + 1, e, h => by
    obtain ⟨d', h1, h2⟩ := enumD_get ds (k + 1) i e (by simpa [enumD] using h)
    exact ⟨d', by simpa using h1, by rw [h2]; congr 4; omega⟩
theorem enumD_len : ∀ (ds : List D) (k : Nat), (enumD k ds).length = ds.length
  | [], _ => rfl
  | d :: ds, k => by simp [enumD, enumD_len ds]
def zipD : List D → List D → List D
  | a :: as, b :: bs => .tup [a, b] :: zipD as bs
  | _, _ => []
theorem zipD_get : ∀ (as bs : List D) (i : Nat) (e : D), (zipD as bs)[i]? = some e → ∃ a b, as[i]? = some a ∧ bs[i]? = some b ∧ e = .tup [a, b]
  | [], _, _, _, h => by simp [zipD] at h
  | _ :: _, [], _, _, h => by simp [zipD] at h
  | a :: as, b :: bs, 0, e, h => by
    simp [zipD] at h
    exact ⟨a, b, rfl, rfl, h.symm⟩
  | a :: as, b :: bs, i + 1, e, h => by
    obtain ⟨x, y, h1, h2, h3⟩ := zipD_get as bs i e (by simpa [zipD] using h)
    exact ⟨x, y, by simpa using h1, by simpa using h2, h3⟩
theorem zipD_len : ∀ (as bs : List D), (zipD as bs).length = min as.length bs.length
  | [], _ => by simp [zipD]
  | _ :: _, [] => by simp [zipD]
  | a :: as, b :: bs => by
    simp only [zipD, List.length_cons, zipD_len as bs]
    omega
theorem iter_enum {G : Hp} {a : Addr} {xs : List V} {ds : List D} (h : G a = some (.lst xs)) (k : DqA K G xs ds) : IterOk K G (Ite K a) (enumD 0 ds) := by
  intro H O s hd
  have hs : SqL K H a xs := .inl (.inl (mi_same _ _ (s _ _ h)))
  rw [enumD_len]
  refine ⟨fun i hi => ?_, ⟨xs, hs, by rw [k.length]; exact Nat.le_refl _⟩, fun i d x H' hi hy => ?_⟩
  · obtain ⟨v, h1, _⟩ := k.get (List.getElem?_eq_getElem hi)
    exact ⟨xs, v, hs, h1⟩
  · obtain ⟨T, y, rfl, hT, rfl, hx⟩ := hy
    obtain ⟨d', g1, g2⟩ := enumD_get ds 0 i d hi
    obtain ⟨v, h1, h2⟩ := k.get g1
    have := hx xs hs
    rw [h1] at this
    cases this
    have sm : Same H (upd H T (.tup [.int (i : Nat), y])) := same_new hT
    refine ⟨sm, ?_⟩
    subst g2
    rw [Nat.zero_add]
    exact .tup (.inl (.inl (mi_of (not_dom hd hT) upd_same))) (.cons (.int _) (.cons (Dq.mono (mi_mono sm) _ _ (Dq.mono s _ _ h2)) .nil))
theorem iter_zip {G : Hp} {a b : Addr} {xs ys : List V} {ds es : List D} (h : G a = some (.lst xs)) (k : DqA K G xs ds) (h' : G b = some (.lst ys)) (k' : DqA K G ys es) : IterOk K G (Itz K a b) (zipD ds es) := by
  intro H O s hd
  have hs : SqL K H a xs := .inl (.inl (mi_same _ _ (s _ _ h)))
  have hs' : SqL K H b ys := .inl (.inl (mi_same _ _ (s _ _ h')))
  rw [zipD_len]
  refine ⟨fun i hi => ?_, ⟨xs, ys, hs, hs', by rw [k.length, k'.length]; omega⟩, fun i d x H' hi hy => ?_⟩
  · obtain ⟨v, h1, _⟩ := k.get (List.getElem?_eq_getElem (show i < ds.length by omega))
    obtain ⟨w, h2, _⟩ := k'.get (List.getElem?_eq_getElem (show i < es.length by omega))
    exact ⟨xs, ys, v, w, hs, hs', h1, h2⟩
  · obtain ⟨T, y, z, rfl, hT, rfl, hx, hz⟩ := hy
    obtain ⟨d1, d2, g1, g2, g3⟩ := zipD_get ds es i d hi
    obtain ⟨v, h1, h2⟩ := k.get g1
    obtain ⟨w, h3, h4⟩ := k'.get g2
    have q1 := hx xs hs
    have q2 := hz ys hs'
    rw [h1] at q1
    rw [h3] at q2
    cases q1
    cases q2
    have sm : Same H (upd H T (.tup [y, z])) := same_new hT
    refine ⟨sm, ?_⟩
    subst g3
    exact .tup (.inl (.inl (mi_of (not_dom hd hT) upd_same))) (.cons (Dq.mono (mi_mono sm) _ _ (Dq.mono s _ _ h2)) (.cons (Dq.mono (mi_mono sm) _ _ (Dq.mono s _ _ h4)) .nil))
def fEnum (fa : AF) : IF := fun env => (fa env).bind fun a => (allVal a.1).bind fun ds => match ds with
  | [.lst ds] => some (enumD 0 ds, a.2)
  | _ => none
def fZip (fa : AF) : IF := fun env => (fa env).bind fun a => (allVal a.1).bind fun ds => match ds with
  | [.lst ds, .lst es] => some (zipD ds es, a.2)
  | _ => none
def fRev (fa : AF) : IF := fun env => (fa env).bind fun a => (allVal a.1).bind fun ds => match ds with
  | [.lst ds] => some (ds.reverse, a.2)
  | _ => none
theorem si_enum {t : TA} {fa : AF} (h : SndA K t fa) : SndI K (iEnum K t) (fEnum fa) := by
  intro B O I σ H env items env' S e R q
  obtain ⟨⟨r1, env1⟩, e1, e⟩ := bnd e
  obtain ⟨ds, e2, e⟩ := bnd e
  dsimp only at e2 e
  split at e
  · cases e
    refine h B O I σ H env r1 _ S e1 _ fun vs H1 S1 P1 => ?_
    have k := post_vals P1 e2
    cases k with
    | cons k1 k2 =>
      cases k2
      cases k1 with
      | lst g1 g2 => exact ⟨_, _, rfl, .inl (.inl (mi_some g1).2), q _ H1 S1 (iter_enum g1 g2)⟩
  · cases e
theorem si_zip {t : TA} {fa : AF} (h : SndA K t fa) : SndI K (iZip K t) (fZip fa) := by
  intro B O I σ H env items env' S e R q
  obtain ⟨⟨r1, env1⟩, e1, e⟩ := bnd e
  obtain ⟨ds, e2, e⟩ := bnd e
  dsimp only at e2 e
  split at e
  · cases e
    refine h B O I σ H env r1 _ S e1 _ fun vs H1 S1 P1 => ?_
    have k := post_vals P1 e2
    cases k with
    | cons k1 k2 =>
      cases k2 with
      | cons k2 k3 =>
        cases k3
        cases k1 with
        | lst g1 g2 =>
          cases k2 with
          | lst g3 g4 => exact ⟨_, _, _, _, rfl, .inl (.inl (mi_some g1).2), .inl (.inl (mi_some g3).2), q _ H1 S1 (iter_zip g1 g2 g3 g4)⟩
  · cases e
def loopN (g : GF) (b : SFn) : List D → SFn
  | [], env => some (.nx env)
  | d :: ds, env => (g d env).bind fun e => (b e).bind fun o => match o with
    | .nx e => loopN g b ds e
    | .ct e => loopN g b ds e
    | .bk e => some (.nx e)
    | .rt r e => some (.rt r e)
def fFor (fi : IF) (g : GF) (b : SFn) : SFn := fun env => (fi env).bind fun a => loopN g b a.1 a.2
/-- what stayed at the start stays behind what a turn does -/
theorem stays {O' : List Addr} {σ' : L2.St} {env2 : Env} (S : Sta K B O I σ H env) (s : Sub (keepH σ env H) I O O') (S' : Sta K (keepH σ env H) O' I σ' H' env2) : Same (mi H O) (mi H' O') := fun a o h => by
  obtain ⟨h1, h2⟩ := mi_some h
  have hb : keepH σ env H a = some o := by
    rw [keepH_not (fun z => h1 (S.owns_in z))]
    exact h2
  refine mi_of (fun z => ?_) (S'.base a o hb)
  rcases s.2 a z with y | y
  · exact h1 y
  · rw [hb] at y
    cases y
theorem ss_for {wi : TI} {fi : IF} {g : TG} {h : GF} {tb : TS} {b : SFn} (hi : SndI K wi fi) (hg : SndG K g h) (hb : SndS K W tb b) : SndS K W (tFor wi g tb) (fFor fi h b) := by
  intro B O I σ H env o S e D k
  obtain ⟨⟨items, env1⟩, e1, e⟩ := bnd e
  refine hi B O I σ H env items env1 S e1 _ fun J H1 S1 it => ?_
  have k2 : OutOk K W (keepH σ env1 H1) O I D o := k.strong S1.base_keep
  refine ⟨fun i m σ' H' => ∃ O' env', Sub (keepH σ env1 H1) I O O' ∧ Sta K (keepH σ env1 H1) O' I σ' H' env' ∧ i + m = items.length ∧ loopN h b (items.drop i) env' = some o,
    ⟨items.length, O, env1, .refl, S1.strong, by omega, by simpa using e⟩, fun i m σ' H' ⟨O', env2, s2, S2, em, e2⟩ => ?_⟩
  have fz := stays S1 s2 S2
  obtain ⟨i1, i2, i3⟩ := it H' O' fz S2.dom
  cases m with
  | zero =>
    have ei : i = items.length := by omega
    subst ei
    rw [List.drop_length] at e2
    cases e2
    exact .inl ⟨i2, k2 O' σ' H' s2 S2⟩
  | succ m =>
    have hi : i < items.length := by omega
    rw [List.drop_eq_getElem_cons hi] at e2
    obtain ⟨env3, e3, e4⟩ := bnd e2
    obtain ⟨o2, e5, e6⟩ := bnd e4
    refine .inr ⟨i1 i hi, fun σ3 H3 => ∃ O3 env3, Sub (keepH σ env1 H1) I O O3 ∧ Sta K (keepH σ env1 H1) O3 I σ3 H3 env3 ∧ loopN h b (items.drop (i + 1)) env3 = some o, fun σ3 H3 ⟨O3, env3, s3, S3, q3⟩ => ⟨m, by omega, O3, env3, s3, S3, by omega, q3⟩, fun x H3 hy => ?_⟩
    obtain ⟨sm, dx⟩ := i3 i _ x H3 (List.getElem?_eq_getElem hi) hy
    refine hg _ O' I σ' H3 env2 x _ env3 (S2.grow sm) dx e3 _ fun σ4 S4 => ?_
    refine hb _ O' I σ4 H3 env3 o2 S4 e5 _ ?_
    cases o2 with
    | nx e7 => exact fun O5 σ5 H5 s5 S5 => ⟨O5, e7, s2.trans s5, S5, e6⟩
    | ct e7 => exact fun O5 σ5 H5 s5 S5 => ⟨O5, e7, s2.trans s5, S5, e6⟩
    | bk e7 => cases e6; exact k2.sub s2
    | rt r e7 => cases e6; exact OutOk.ret (OutOk.sub s2 k2) fun _ _ z => z
end
end Dv
namespace Dv
open PySem L2
section
variable {K : PySem.W.Frag} {B : Hp} {O : List Addr} {I : List (Nat × Addr)} {σ : L2.St} {H H' : Hp} {env env' : Env} {v : V} {t ta tb te : TE} {f fa fb fe : EF} {W : WN}
theorem wipe_get {i : Nat} : ∀ {vs : List Nat}, i ∉ vs → (wipe σ vs)[i]? = σ[i]?
  | [], _ => rfl
  | v :: vs, h => by
    unfold wipe
    have h1 : v ≠ i := fun e => h (by rw [e]; exact List.mem_cons_self)
    rw [List.getElem?_set_ne h1]
    exact wipe_get fun z => h (List.mem_cons_of_mem _ z)
theorem wipe_in {i : Nat} : ∀ {vs : List Nat}, i ∈ vs → i < σ.length → (wipe σ vs)[i]? = some none
  | [], h, _ => by cases h
  | v :: vs, h, hl => by
    unfold wipe
    by_cases c : v = i
    · subst c
      rw [List.getElem?_set_self (by rw [wipe_length]; exact hl)]
    · rw [List.getElem?_set_ne c]
      exact wipe_in ((List.mem_cons.mp h).resolve_left (Ne.symm c)) hl
theorem wipe_ext {σ σ' : L2.St} {vs : List Nat} (hl : σ.length = σ'.length) (h : ∀ i, i ∉ vs → σ[i]? = σ'[i]?) : wipe σ vs = wipe σ' vs := by
  apply List.ext_getElem?
  intro i
  by_cases c : i ∈ vs
  · by_cases d : i < σ.length
    · rw [wipe_in c d, wipe_in c (hl ▸ d)]
    · rw [List.getElem?_eq_none (by rw [wipe_length]; omega), List.getElem?_eq_none (by rw [wipe_length]; omega)]
  · rw [wipe_get c, wipe_get c, h i c]
theorem wipe_idem {vs : List Nat} : wipe (wipe σ vs) vs = wipe σ vs := wipe_ext (wipe_length σ vs) fun i h => wipe_get h
theorem wipe_set {i : Nat} {x : Option V} {vs : List Nat} (h : i ∈ vs) : wipe (σ.set i x) vs = wipe σ vs :=
  wipe_ext (by simp) fun j hj => by
    rw [List.getElem?_set_ne]
    intro e
    subst e
    exact hj h
def wipeO : List Nat → Env → Option Env
  | [], env => some env
  | v :: vs, env => (wipeO vs env).bind fun e => putS v .no e
theorem Sta.wipe : ∀ {vs : List Nat} {env env' : Env}, Sta K B O I σ H env → wipeO vs env = some env' → Sta K B O I (L2.wipe σ vs) H env'
  | [], _, _, S, e => by cases e; exact S
  | v :: vs, env, env', S, e => by
    obtain ⟨e1, h1, h2⟩ := bnd e
    exact (Sta.wipe (vs := vs) S h1).drop h2
def keepFz : Option SV → SV
  | some (.fz d) => .fz d
  | _ => .no
def restE (e0 : Env) : List Nat → Env → Env
  | [], e => e
  | v :: vs, e => (restE e0 vs e).set v (keepFz e0[v]?)
theorem restE_len {e0 : Env} : ∀ {vs : List Nat} {e : Env}, (restE e0 vs e).length = e.length
  | [], _ => rfl
  | v :: vs, e => by unfold restE; rw [List.length_set, restE_len]
theorem restE_not {e0 e : Env} {i : Nat} : ∀ {vs : List Nat}, i ∉ vs → (restE e0 vs e)[i]? = e[i]?
  | [], _ => rfl
  | v :: vs, h => by
    unfold restE
    have h1 : v ≠ i := fun z => h (by rw [z]; exact List.mem_cons_self)
    rw [List.getElem?_set_ne h1]
    exact restE_not fun z => h (List.mem_cons_of_mem _ z)
theorem restE_in {e0 e : Env} {i : Nat} : ∀ {vs : List Nat}, i ∈ vs → i < e.length → (restE e0 vs e)[i]? = some (keepFz e0[i]?)
  | [], h, _ => by cases h
  | v :: vs, h, hl => by
    unfold restE
    by_cases c : v = i
    · subst c
      rw [List.getElem?_set_self (by rw [restE_len]; exact hl)]
    · rw [List.getElem?_set_ne c]
      exact restE_in ((List.mem_cons.mp h).resolve_left (Ne.symm c)) hl
theorem Sta.rest {vs : List Nat} {B' : Hp} {H1 : Hp} {e1 : Env} (S1 : Sta K B' O I σ H1 e1) (S : Sta K B O I (L2.wipe σ vs) H env) (fz : Same (mi H1 O) (mi H O)) : Sta K B O I σ H (restE e1 vs env) := by
  have own' : ∀ j ds, OwnAt (restE e1 vs env) j ds → j ∉ vs ∧ OwnAt env j ds := fun j ds z => by
    by_cases c : j ∈ vs
    · by_cases d : j < env.length
      · unfold OwnAt at z
        rw [restE_in c d] at z
        unfold keepFz at z
        rcases z with z | z <;> split at z <;> cases z
      · unfold OwnAt at z
        rw [List.getElem?_eq_none (by rw [restE_len]; omega)] at z
        rcases z with z | z <;> cases z
    · unfold OwnAt at z ⊢
      rw [restE_not c] at z
      exact ⟨c, z⟩
  refine ⟨by rw [restE_len, ← S.len, wipe_length], fun j d hj => ?_, fun j ds hj => ?_, fun j k ds es p hj hk a b => ?_, S.base, S.dom, fun j p hj => ?_, ?_, S.nt⟩
  · by_cases c : j ∈ vs
    · by_cases d : j < env.length
      · rw [restE_in c d] at hj
        unfold keepFz at hj
        split at hj
        · cases hj
          obtain ⟨v, h1, h2⟩ := S1.fz j _ (by assumption)
          exact ⟨v, h1, Dq.mono fz _ _ h2⟩
        · cases hj
      · rw [List.getElem?_eq_none (by rw [restE_len]; omega)] at hj
        cases hj
    · rw [restE_not c] at hj
      obtain ⟨v, h1, h2⟩ := S.fz j d hj
      rw [wipe_get c] at h1
      exact ⟨v, h1, h2⟩
  · obtain ⟨c, z⟩ := own' j ds hj
    obtain ⟨p, xs, h1, h2⟩ := S.ow j ds z
    rw [wipe_get c] at h1
    exact ⟨p, xs, h1, h2⟩
  · obtain ⟨c, z⟩ := own' j ds hj
    obtain ⟨c', z'⟩ := own' k es hk
    exact S.sep j k ds es p z z' (by rw [wipe_get c]; exact a) (by rw [wipe_get c']; exact b)
  · obtain ⟨h1, ds, h2⟩ := S.pin j p hj
    obtain ⟨h3, c⟩ := wipe_some h1
    exact ⟨h3, ds, by rw [restE_not c]; exact h2⟩
  · refine NwOk.go S.nw (fun j w hj => ?_) (fun j ds a hj e => ?_) (fun a h1 h2 _ _ => ⟨h1, h2, rfl⟩) (Same.refl _) S.dom
    · by_cases c : j ∈ vs
      · by_cases d : j < env.length
        · rw [restE_in c d] at hj
          unfold keepFz at hj
          split at hj <;> cases hj
        · rw [List.getElem?_eq_none (by rw [restE_len]; omega)] at hj
          cases hj
      · rw [restE_not c] at hj
        exact ⟨hj, (wipe_get c).symm⟩
    · obtain ⟨c, z⟩ := own' j ds hj
      exact .inl ⟨ds, z, by rw [wipe_get c]; exact e⟩
/-- targets that set only some places -/
def SndW (K : PySem.W.Frag) (vs : List Nat) (g : TG) (h : GF) : Prop := ∀ B O I σ H env v d env', Sta K B O I σ H env → Dq K (mi H O) v d → h d env = some env' →
  ∀ Q : L2.St → Hp → Prop, (∀ σ', L2.wipe σ' vs = L2.wipe σ vs → Sta K B O I σ' H env' → Q σ' H) → g v σ H Q
def SndWs (K : PySem.W.Frag) (vs : List Nat) (g : TGs) (h : List D → Env → Option Env) : Prop := ∀ B O I σ H env us ds env', Sta K B O I σ H env → DqA K (mi H O) us ds → h ds env = some env' →
  ∀ Q : L2.St → Hp → Prop, (∀ σ', L2.wipe σ' vs = L2.wipe σ vs → Sta K B O I σ' H env' → Q σ' H) → g us σ H Q
theorem sw_name {vs : List Nat} (i : Nat) (hi : i ∈ vs) : SndW K vs (gName i) (gfName i) := by
  intro B O I σ H env v d env' S hd e Q q
  exact q _ (wipe_set hi) (S.put hd e)
theorem sws_nil {vs : List Nat} : SndWs K vs gNil gfNil := by
  intro B O I σ H env v d env' S hd e Q q
  unfold gfNil at e
  split at e
  · cases e
    cases hd
    exact ⟨rfl, q _ rfl S⟩
  · cases e
theorem sws_cons {vs : List Nat} {g : TG} {gs : TGs} {h : GF} {hs : List D → Env → Option Env} (h1 : SndW K vs g h) (h2 : SndWs K vs gs hs) : SndWs K vs (gCons g gs) (gfCons h hs) := by
  intro B O I σ H env v d env' S hd e Q q
  unfold gfCons at e
  split at e
  · cases hd with
    | cons d1 d2 =>
      obtain ⟨e1, e2, e3⟩ := bnd e
      exact ⟨_, _, rfl, h1 B O I σ H env _ _ e1 S d1 e2 _ fun σ1 w1 S1 => h2 B O I σ1 H e1 _ _ env' S1 d2 e3 Q fun σ2 w2 S2 => q σ2 (w2.trans w1) S2⟩
  · cases e
theorem sw_tup {vs : List Nat} {gs : TGs} {hs : List D → Env → Option Env} {n : Nat} (h2 : SndWs K vs gs hs) : SndW K vs (gTup K n gs) (gfTup n hs) := by
  intro B O I σ H env v d env' S hd e Q q
  unfold gfTup at e
  split at e
  · split at e
    · cases hd with
      | tup h1 h3 => exact ⟨_, _, rfl, sqT_mono mi_same h1, by rw [h3.length]; assumption, h2 B O I σ H env _ _ env' S h3 e Q q⟩
    · cases e
  · split at e
    · cases hd with
      | nt h1 h3 => exact ⟨_, _, rfl, .inl (.inl (mi_some h1).2), by rw [h3.length]; assumption, h2 B O I σ H env _ _ env' S h3 e Q q⟩
    · cases e
  · cases e
def fYes : TF := fun env => some (true, env)
theorem st_yes : SndT K tYes fYes := by
  intro B O I σ H env b env' S e Q q
  cases e
  exact q H S
def lcN (g : GF) (tt : TF) (fe : EF) (vs : List Nat) : List D → Env → Option (List D × Env)
  | [], env => some ([], env)
  | d :: ds, env => (g d env).bind fun e1 => (tt e1).bind fun b => if b.1 then (fe b.2).bind fun a => match frz a.1 with
      | .val y => (wipeO vs a.2).bind fun w => (lcN g tt fe vs ds w).bind fun r => some (y :: r.1, r.2)
      | _ => none
    else (wipeO vs b.2).bind fun w => lcN g tt fe vs ds w
def fLc (fi : IF) (g : GF) (tt : TF) (fe : EF) (vs : List Nat) : EF := fun env => (fi env).bind fun a => (wipeO vs a.2).bind fun w => (lcN g tt fe vs a.1 w).bind fun r =>
  if r.1.length ≤ 10000000 then some (.new r.1, restE a.2 vs r.2) else none
/-- a list D that nobody names is hidden, and shown -/
theorem Sta.hide {D : Addr} {o : HO} (S : Sta K (upd B D o) (D :: O) I σ H env) (hD : D ∉ O) (hB : B D = none) : Sta K B O I σ (mi H [D]) env := by
  have nd : ∀ q, upd B D o q = none → q ≠ D ∧ B q = none := fun q z => by
    have c : q ≠ D := fun y => by
      subst y
      rw [upd_same] at z
      cases z
    rw [upd_ne c] at z
    exact ⟨c, z⟩
  have out : ∀ q u, q ≠ D → H q = some u → mi H [D] q = some u := fun q u c z => mi_of (fun y => c (List.mem_singleton.mp y)) z
  refine ⟨S.len, fun i d h => by rw [mi_mi]; exact S.fz i d h, fun i ds h => ?_, S.sep, fun a u h => ?_, fun p hp => ?_, S.pin, ?_, fun p xs hp z => S.nt p xs (List.mem_cons_of_mem _ hp) (mi_some z).2⟩
  · obtain ⟨p, xs, h1, h2, h3, h4, h5⟩ := S.ow i ds h
    obtain ⟨c, h6⟩ := nd p h5
    exact ⟨p, xs, h1, (List.mem_cons.mp h2).resolve_left c, out _ _ c h3, by rw [mi_mi]; exact h4, h6⟩
  · have c : a ≠ D := fun y => by
      subst y
      rw [hB] at h
      cases h
    exact out _ _ c (S.base a u (by rw [upd_ne c]; exact h))
  · have c : p ≠ D := fun y => hD (y ▸ hp)
    obtain ⟨u, z⟩ := S.dom p (List.mem_cons_of_mem _ hp)
    exact ⟨u, out _ _ c z⟩
  · refine NwOk.go S.nw (fun j w hj => ⟨hj, rfl⟩) (fun j ds a hj e => .inl ⟨ds, hj, e⟩) (fun a h1 h2 ⟨o, h3⟩ _ => ?_) (by rw [mi_mi]; exact Same.refl _) S.dom
    obtain ⟨c, h6⟩ := nd a h2
    exact ⟨(List.mem_cons.mp h1).resolve_left c, h6, by rw [h3]; exact out _ _ c h3⟩
theorem Sta.show {D : Addr} {o : HO} (S : Sta K B O I σ (mi H [D]) env) (hD : H D = some o) (ho : ∀ xs, o ≠ .tup xs := by intro xs z; cases z) : Sta K (upd B D o) (D :: O) I σ H env := by
  have low : ∀ q ys, mi H [D] q = some ys → q ≠ D ∧ H q = some ys := fun q ys z => by
    obtain ⟨z1, z2⟩ := mi_some z
    exact ⟨fun y => z1 (List.mem_singleton.mpr y), z2⟩
  refine ⟨S.len, fun i d h => by rw [← mi_mi]; exact S.fz i d h, fun i ds h => ?_, S.sep, fun a u h => ?_, fun p hp => ?_, S.pin, ?_, fun p xs hp => ?_⟩
  · obtain ⟨p, xs, h1, h2, h3, h4, h5⟩ := S.ow i ds h
    obtain ⟨c, h6⟩ := low _ _ h3
    exact ⟨p, xs, h1, List.mem_cons_of_mem _ h2, h6, by rw [← mi_mi]; exact h4, by rw [upd_ne c]; exact h5⟩
  · by_cases c : a = D
    · subst c
      rw [upd_same] at h
      cases h
      exact hD
    · rw [upd_ne c] at h
      exact (low _ _ (S.base a u h)).2
  · rcases List.mem_cons.mp hp with rfl | hp
    · exact ⟨_, hD⟩
    · obtain ⟨u, z⟩ := S.dom p hp
      exact ⟨u, (low _ _ z).2⟩
  · refine NwOk.go S.nw (fun j w hj => ⟨hj, rfl⟩) (fun j ds a hj e => .inl ⟨ds, hj, e⟩) (fun a h1 h2 ⟨o, h3⟩ _ => ?_) (by rw [mi_mi]; exact Same.refl _) S.dom
    obtain ⟨c, h6⟩ := low _ _ h3
    exact ⟨List.mem_cons_of_mem _ h1, by rw [upd_ne c]; exact h2, by rw [h3]; exact h6⟩
  · rcases List.mem_cons.mp hp with rfl | hp
    · rw [hD]
      exact fun z => ho xs (Option.some.inj z)
    · exact S.ntS hp (fun o z => (low _ _ z).2) xs
theorem Sta.not_own {D : Addr} {o : HO} (S : Sta K B O I σ H env) (h : B D = some o) : keepH σ env H D = some o := by
  rw [keepH_not]
  · exact S.base _ _ h
  · intro z
    have k5 := (S.owns_free z).2
    rw [h] at k5
    cases k5
theorem snd_lc {wi : TI} {fi : IF} {g : TG} {h : GF} {tt : TT} {ft : TF} {vs : List Nat} (hi : SndI K wi fi) (hg : SndW K vs g h) (ht : SndT K tt ft) (he : Snd K te fe) : Snd K (tLc wi g tt te vs) (fLc fi h ft fe vs) := by
  intro B O I σ H env rv env' S e Q q
  obtain ⟨⟨items, env1⟩, e1, e⟩ := bnd e
  obtain ⟨w0, ew, e⟩ := bnd e
  obtain ⟨⟨all, envE⟩, e2, e⟩ := bnd e
  dsimp only at ew e2 e
  split at e
  · rename_i hall
    cases e
    refine hi B O I σ H env items env1 S e1 _ fun J H1 S1 it => fun L hL => ?_
    have hLO : L ∉ O := not_dom S1.dom hL
    have hLB : keepH σ env1 H1 L = none := (keepH_same (σ := σ) (env := env1) (H := H1)).free hL
    have S0 : Sta K (keepH σ env1 H1) O I (L2.wipe σ vs) H1 w0 := S1.strong.wipe ew
    refine ⟨fun i m H => ∃ env acc done rest, Sta K (keepH σ env1 H1) O I (L2.wipe σ vs) (mi H [L]) env ∧ H L = some (.lst acc) ∧ DqA K (mi (mi H [L]) O) acc done ∧ i + m = items.length ∧ lcN h ft fe vs (items.drop i) env = some (rest, envE) ∧ done ++ rest = all,
      ⟨items.length, w0, [], [], all, by rw [mi_one_new hL]; exact S0, upd_same, .nil, by omega, by simpa using e2, rfl⟩, fun i m H ⟨env2, acc, done, rest, S2, hA, hD, em, e3, ed⟩ => ?_⟩
    have fz0 : Same (mi H1 O) (mi H (L :: O)) := fun a o z => by
      obtain ⟨z1, z2⟩ := mi_some z
      rw [← mi_mi]
      refine mi_of z1 (S2.base a o ?_)
      rw [keepH_not (fun y => z1 (S1.owns_in y))]
      exact z2
    have S3 := S2.show hA
    obtain ⟨i1, i2, i3⟩ := it H (L :: O) fz0 S3.dom
    cases m with
    | zero =>
      have ei : i = items.length := by omega
      subst ei
      rw [List.drop_length] at e3
      cases e3
      rw [List.append_nil] at ed
      subst ed
      refine .inl ⟨i2, q _ _ ⟨L, acc, rfl, hA, S1.base.free hL, hLO, ?_, hD⟩⟩
      exact (Sta.rest S1 S2 (by rw [mi_mi]; exact fz0)).weak S1.base_keep
    | succ m =>
      have hi : i < items.length := by omega
      rw [List.drop_eq_getElem_cons hi] at e3
      obtain ⟨env3, e4, e5⟩ := bnd e3
      obtain ⟨⟨b, env4⟩, e6, e7⟩ := bnd e5
      refine .inr ⟨i1 i hi, fun H' => ∃ env acc done rest, Sta K (keepH σ env1 H1) O I (L2.wipe σ vs) (mi H' [L]) env ∧ H' L = some (.lst acc) ∧ DqA K (mi (mi H' [L]) O) acc done ∧ lcN h ft fe vs (items.drop (i + 1)) env = some (rest, envE) ∧ done ++ rest = all,
        fun H' ⟨a1, a2, a3, a4, a5, a6, a7, a8, a9⟩ => ⟨m, by omega, a1, a2, a3, a4, a5, a6, a7, by omega, a8, a9⟩, fun x H3 hy => ?_⟩
      obtain ⟨sm, dx⟩ := i3 i _ x H3 (List.getElem?_eq_getElem hi) hy
      have S4 := S3.grow sm
      have hL3 : keepH (L2.wipe σ vs) env2 H3 L = some (.lst acc) := S4.not_own (o := .lst acc) upd_same
      have base3 : Same (upd (keepH σ env1 H1) L (.lst acc)) (keepH (L2.wipe σ vs) env2 H3) := S4.base_keep
      refine hg _ _ I _ H3 env2 x _ env3 S4.strong dx e4 _ fun σ4 w4 S5 => ⟨by rw [w4, wipe_idem], ?_⟩
      refine ht _ _ I σ4 H3 env3 b env4 S5 e6 _ fun H5 S6 => ?_
      -- what stays
      have st : ∀ {H6 : Hp} {σ6 : L2.St} {env6 : Env}, Sta K (keepH (L2.wipe σ vs) env2 H3) (L :: O) I σ6 H6 env6 → Same (mi H (L :: O)) (mi H6 (L :: O)) := fun {H6 σ6 env6} Z => by
        have z1 : Same (mi H3 (L :: O)) (mi H6 (L :: O)) := stays S4 .refl Z
        exact (mi_mono sm).trans z1
      cases b with
      | false =>
        rw [if_neg Bool.false_ne_true]
        obtain ⟨w5, e8, e9⟩ := bnd e7
        have S7 := ((S6.wipe e8).weak base3).hide hLO hLB
        rw [w4, wipe_idem] at S7
        refine ⟨w5, acc, done, rest, S7, S6.base _ _ hL3, ?_, e9, ed⟩
        rw [mi_mi] at hD ⊢
        exact DqA.mono (st S6) _ _ hD
      | true =>
        rw [if_pos rfl]
        obtain ⟨⟨r6, env6⟩, e8, e9⟩ := bnd e7
        dsimp only at e9
        split at e9
        · rename_i y hy6
          obtain ⟨w5, f1, f2⟩ := bnd e9
          obtain ⟨⟨rest', env7⟩, f3, f4⟩ := bnd f2
          cases f4
          refine he _ _ I σ4 H5 env4 r6 env6 S6 e8 _ fun vy H6 P6 => ?_
          have P6' := P6.frz
          rw [hy6] at P6'
          obtain ⟨S7, dy⟩ := P6'
          have hA6 := S7.base _ _ hL3
          have ll : acc.length < sizeLine := by
            rw [hD.length]
            refine line_lt ?_
            rw [← ed, List.length_append] at hall
            omega
          refine ⟨acc, hA6, ll, w5, acc ++ [vy], done ++ [y], rest', ?_, upd_same, ?_, f3, by rw [← ed]; simp⟩
          · have S8 := ((S7.wipe f1).weak base3).hide hLO hLB
            rw [w4, wipe_idem] at S8
            rw [mi_upd_in (List.mem_singleton.mpr rfl)]
            exact S8
          · rw [mi_upd_in (List.mem_singleton.mpr rfl)]
            rw [mi_mi] at hD ⊢
            exact (DqA.mono (st S7) _ _ hD).append (.cons dy .nil)
        · cases e9
  · cases e
end
end Dv
namespace Dv
open PySem L2
section
variable {K : PySem.W.Frag} {B : Hp} {O : List Addr} {I : List (Nat × Addr)} {σ : L2.St} {H H' : Hp} {env env' : Env} {v : V} {t ta tb te : TE} {f fa fb fe : EF} {W : WN}
def isOwn (env : Env) (i : Nat) : Bool := match env[i]? with
  | some (.o1 _) => true
  | some (.io _) => true
  | _ => false
theorem isOwn_of {i : Nat} (h : isOwn env i = true) : ∃ ds, OwnAt env i ds := by
  unfold isOwn at h
  split at h
  · exact ⟨_, .inl (by assumption)⟩
  · exact ⟨_, .inr (by assumption)⟩
  · cases h
/-- xs.m(e), xs a name: h from the list and the argument -/
def fOM (i : Nat) (h : D → List D → Option (List D)) (f : EF) : EF := fun env => if isOwn env i then (f env).bind fun a => match frz a.1 with
  | .val d => (upO i (h d) a.2).bind fun e => some (.val .non, e)
  | _ => none
  else none
def hApp : D → List D → Option (List D) := fun d ds => if ds.length ≤ 10000000 then some (ds ++ [d]) else none
theorem tyL {p : Addr} {xs : List V} (h : H p = some (.lst xs)) : tyV K "list" (.ref p) H := .inl ⟨rfl, _, .inl (.inl h)⟩
theorem snd_om {i : Nat} {r : V → List V → Hp → VK → Prop} {h : D → List D → Option (List D)} (he : Snd K te fe)
    (hr : ∀ (H : Hp) (O : List Addr) (p : Addr) (xs : List V) (ds es : List D) (x : V) (d : D), H p = some (.lst xs) → DqA K (mi H O) xs ds → Dq K (mi H O) x d → p ∈ O → h d ds = some es →
      ∀ Q : VK, (∀ ys, DqA K (mi H O) ys es → Q .non (upd H p (.lst ys))) → r (.ref p) [x] H Q) : Snd K (tBM K "list" r (tVar i) (tCons te tNil)) (fOM i h fe) := by
  intro B O I σ H env rv env' S e Q q
  unfold fOM at e
  split at e
  · rename_i ho
    obtain ⟨ds0, o0⟩ := isOwn_of ho
    obtain ⟨p0, xs0, s0, p0O, hp0, _, _⟩ := S.ow i ds0 o0
    obtain ⟨⟨r1, env1⟩, e1, e⟩ := bnd e
    dsimp only at e
    split at e
    · rename_i d hd
      obtain ⟨env2, e2, e⟩ := bnd e
      cases e
      refine ⟨_, s0, tyL hp0, ?_⟩
      refine he B O I σ H env r1 env1 S e1 _ fun x H1 P1 => ?_
      have P := P1.frz
      rw [hd] at P
      obtain ⟨S1, dx⟩ := P
      obtain ⟨p, xs, ds, es, s1, hp, hx, _, eh, up⟩ := S1.up e2
      rw [s0] at s1
      cases s1
      exact hr H1 O p0 xs ds es x d hp hx dx p0O eh _ fun ys hy => q _ _ ⟨up ys hy, .non⟩
    · cases e
  · cases e
theorem snd_append {i : Nat} (he : Snd K te fe) : Snd K (tBM K "list" rAppend (tVar i) (tCons te tNil)) (fOM i hApp fe) :=
  snd_om he fun H O p xs ds es x d hp hx dx _ eh Q q => by
    unfold hApp at eh
    split at eh
    · cases eh
      rename_i hl
      refine ⟨p, xs, x, rfl, rfl, hp, ?_, q _ (hx.append (.cons dx .nil))⟩
      rw [hx.length]
      exact line_lt hl
    · cases eh
def hExt : D → List D → Option (List D) := fun d ds => match d with
  | .lst es => if ds.length + es.length ≤ 10000000 then some (ds ++ es) else none
  | _ => none
theorem snd_extend {i : Nat} (he : Snd K te fe) : Snd K (tBM K "list" rExtend (tVar i) (tCons te tNil)) (fOM i hExt fe) :=
  snd_om he fun H O p xs ds es x d hp hx dx _ eh Q q => by
    unfold hExt at eh
    split at eh
    · split at eh
      · cases eh
        rename_i hl
        cases dx with
        | lst g1 g2 =>
          refine ⟨p, _, xs, _, rfl, rfl, hp, (mi_some g1).2, ?_, q _ (hx.append g2)⟩
          rw [hx.length, g2.length]
          exact line_of hl
      · cases eh
    · cases eh
/-- xs.m() -/
def fOM0 (i : Nat) (h : List D → Option (List D)) : EF := fun env => (upO i h env).bind fun e => some (.val .non, e)
/-- xs.pop() -/
def fPop (i : Nat) : EF := fun env => match deref env (.slot i) with
  | some (.lst ds) => (ds[ds.length - 1]?).bind fun d => (upO i (fun ds => some ds.dropLast) env).bind fun e => some (.val d, e)
  | _ => none
theorem dropLast_take {α : Type} (xs : List α) : xs.dropLast = xs.take (xs.length - 1) := List.dropLast_eq_take
theorem snd_pop {i : Nat} : Snd K (tBM0 K "list" rPop (tVar i)) (fPop i) := by
  intro B O I σ H env rv env' S e Q q
  unfold fPop at e
  split at e
  · rename_i ds0 hd0
    obtain ⟨d, e1, e⟩ := bnd e
    obtain ⟨env2, e2, e⟩ := bnd e
    cases e
    obtain ⟨ds1, e3, o0⟩ := ownAt_of hd0
    cases e3
    obtain ⟨p, xs, ds, es, s1, hp, hx, o1, eh, up⟩ := S.up e2
    cases eh
    have ed : ds = ds0 := by
      rcases o0 with z | z <;> rcases o1 with y | y <;> rw [z] at y <;> cases y <;> rfl
    subst ed
    obtain ⟨x, g1, g2⟩ := hx.get e1
    rw [← hx.length] at g1
    have hy : DqA K (mi H O) xs.dropLast ds.dropLast := by
      rw [dropLast_take, dropLast_take, hx.length]
      exact hx.take _
    have hpO : p ∈ O := by
      obtain ⟨p', xs', s2, k2, _⟩ := S.ow i ds o1
      rw [s1] at s2
      cases s2
      exact k2
    refine ⟨_, s1, tyL hp, p, xs, x, rfl, rfl, hp, g1, q _ _ ⟨up _ hy, ?_⟩⟩
    rw [mi_upd_in hpO]
    exact g2
  · cases e
/-- xs[k] = e -/
def fSetI (i : Nat) (fk fe : EF) : SFn := fun env => (fe env).bind fun a => if isOwn a.2 i then (fk a.2).bind fun b => match frz a.1, b.1 with
  | .val d, .val (.int k) => (upO i (fun ds => (ixN ds.length k).bind fun j => some (ds.set j d)) b.2).bind fun e => some (.nx e)
  | _, _ => none
  else none
theorem ss_setI {i : Nat} {tk : TE} {fk : EF} (he : Snd K te fe) (hk : Snd K tk fk) : SndS K W (tAsg te (gSub (tVar i) tk rSetL)) (fSetI i fk fe) := by
  intro B O I σ H env o S e D k
  obtain ⟨⟨r1, env1⟩, e1, e⟩ := bnd e
  dsimp only at e
  split at e
  · rename_i ho
    obtain ⟨⟨r2, env2⟩, e2, e⟩ := bnd e
    dsimp only at e
    split at e
    · rename_i d k' hd
      obtain ⟨env3, e3, e⟩ := bnd e
      cases e
      refine he B O I σ H env r1 env1 S e1 _ fun x H1 P1 => ?_
      have P1' := P1.frz
      have S1 := P1'.sta
      obtain ⟨ds0, o0⟩ := isOwn_of ho
      obtain ⟨p0, xs0, s0, p0O, hp0, _, _⟩ := S1.ow i ds0 o0
      refine ⟨_, s0, ?_⟩
      refine hk _ O I σ H1 env1 _ env2 S1.strong e2 _ fun y H2 P2 => ?_
      have P3 := P1'.later P2.1
      rw [hd] at P3
      obtain ⟨S3, dx⟩ := P3
      have dy := P2.2
      cases dy
      obtain ⟨p, xs, ds, es, s1, hp, hx, _, eh, up⟩ := S3.up e3
      rw [s0] at s1
      cases s1
      obtain ⟨j, ej, eh⟩ := bnd eh
      cases eh
      refine ⟨p0, xs, k', j, rfl, rfl, hp, by rw [hx.length]; exact ej, ?_⟩
      exact k O σ _ .refl (up _ (hx.set j dx))
    · cases e
  · cases e
abbrev OF := Env → Option (Option Int × Env)
def SndO (K : PySem.W.Frag) (t : TO) (f : OF) : Prop := ∀ B O I σ H env r env', Sta K B O I σ H env → f env = some (r, env') →
  ∀ Q : Option Int → Hp → Prop, (∀ H', Sta K B O I σ H' env' → Q r H') → t σ H Q
def fNoP : OF := fun env => some (none, env)
def fPt (f : EF) : OF := fun env => (f env).bind fun a => match a.1 with
  | .val (.int i) => some (some i, a.2)
  | _ => none
theorem so_none : SndO K tNoPart fNoP := by
  intro B O I σ H env r env' S e Q q
  cases e
  exact q H S
theorem so_some (h : Snd K t f) : SndO K (tPart t) (fPt f) := by
  intro B O I σ H env r env' S e Q q
  obtain ⟨⟨r1, env1⟩, e1, e⟩ := bnd e
  dsimp only at e
  split at e
  · cases e
    refine h B O I σ H env _ _ S e1 _ fun v H1 P1 => ?_
    obtain ⟨S1, d1⟩ := P1
    cases d1
    exact ⟨_, rfl, q _ S1⟩
  · cases e
def cutD {α : Type} (xs : List α) (lo hi : Option Int) : List α := (xs.drop (HT.sIx xs.length 0 lo)).take (HT.sIx xs.length xs.length hi - HT.sIx xs.length 0 lo)
theorem DqA.cut {G : Hp} {xs : List V} {ds : List D} {lo hi : Option Int} (h : DqA K G xs ds) : DqA K G (cutV xs lo hi) (cutD ds lo hi) := by
  unfold cutV cutD
  rw [h.length]
  exact (h.drop _).take _
abbrev GS := D → Option Int → Option Int → Option RV
def fSl (g : GS) (fe : EF) (fl fh : OF) : EF := fun env => (fe env).bind fun a => (fl a.2).bind fun b => (fh b.2).bind fun c => (deref c.2 (frz a.1)).bind fun x => (g x b.1 c.1).bind fun z => some (z, c.2)
def OpS (K : PySem.W.Frag) (r : V → Option Int → Option Int → Hp → VK → Prop) (g : GS) : Prop := ∀ B O I σ H env x ra d lo hi z, Post K B O I σ H env x ra → deref env ra = some d → g d lo hi = some z →
  ∀ Q : VK, (∀ v H', Post K B O I σ H' env v z → Q v H') → r x lo hi H Q
theorem snd_sl {r : V → Option Int → Option Int → Hp → VK → Prop} {g : GS} {tl th : TO} {fl fh : OF} (h : Snd K te fe) (hl : SndO K tl fl) (hh : SndO K th fh) (ho : OpS K r g) : Snd K (tSl r te tl th) (fSl g fe fl fh) := by
  intro B O I σ H env rv env' S e Q q
  obtain ⟨⟨r1, env1⟩, e1, e⟩ := bnd e
  obtain ⟨⟨b, env2⟩, e2, e⟩ := bnd e
  obtain ⟨⟨c, env3⟩, e3, e⟩ := bnd e
  obtain ⟨x, ex, e⟩ := bnd e
  obtain ⟨z, ez, e⟩ := bnd e
  cases e
  refine h B O I σ H env r1 env1 S e1 _ fun v H1 P1 => ?_
  have P1' := P1.frz
  have S1 := P1'.sta
  refine hl _ O I σ H1 env1 b env2 S1.strong e2 _ fun H2 S2 => ?_
  have P2 := P1'.later S2
  have S2' := P2.sta
  refine hh _ O I σ H2 env2 c env3 S2'.strong e3 _ fun H3 S3 => ?_
  have P3 := P2.later S3
  exact ho B O I σ H3 env3 v _ x b c _ P3 ex ez Q q
def gSlL : GS := fun d lo hi => match d with
  | .lst ds => some (.new (cutD ds lo hi))
  | _ => none
theorem os_list : OpS K (rSlL K) gSlL := by
  intro B O I σ H env x ra d lo hi z P e ez Q q
  unfold gSlL at ez
  split at ez
  · cases ez
    obtain ⟨p, xs, rfl, h1, k1⟩ := P.items e
    exact ⟨p, xs, rfl, .inl (.inl h1), fun l hl => q _ _ (post_new P.sta hl k1.cut)⟩
  · cases ez
def tyD : D → String
  | .non => "NoneType"
  | .bl _ => "bool"
  | .int _ => "int"
  | .str _ => "str"
  | .lst _ => "list"
  | .scr _ => "list"
  | .tup _ => "tuple"
  | .adr _ => ""
  | .nt _ => "tuple"
  | .dct _ _ => "dict"
def kitD (d : D) (T : String) : Option Bool := match d with
  | .adr _ => none
  | .dct _ _ => none
  | d => kitB (tyD d) T
def fIsi (T : String) (f : EF) : EF := fun env => (f env).bind fun a => (deref a.2 a.1).bind fun d => (kitD d T).bind fun b => some (.val (.bl b), a.2)
end
end Dv
namespace Dv
open PySem L2
inductive ArgsOk (K : PySem.W.Frag) (O : List Addr) (H : Hp) : List Bool → List V → List D → Prop
  | nil : ArgsOk K O H [] [] []
  | val {v : V} {d : D} {bs : List Bool} {vs : List V} {ds : List D} : Dq K (mi H O) v d → ArgsOk K O H bs vs ds → ArgsOk K O H (false :: bs) (v :: vs) (d :: ds)
  | io {p : Addr} {xs : List V} {es : List D} {bs : List Bool} {vs : List V} {ds : List D} : p ∈ O → H p = some (.lst xs) → DqA K (mi H O) xs es → ArgsOk K O H bs vs ds → ArgsOk K O H (true :: bs) (.ref p :: vs) (.lst es :: ds)
def pinsOf : Nat → List Bool → List V → List (Nat × Addr)
  | k, true :: bs, .ref p :: vs => (k, p) :: pinsOf (k + 1) bs vs
  | k, _ :: bs, _ :: vs => pinsOf (k + 1) bs vs
  | _, _, _ => []
def ioA (bs : List Bool) (vs : List V) : List Addr := (pinsOf 0 bs vs).map (·.2)
def OutsOk (K : PySem.W.Frag) (O : List Addr) (H : Hp) : List Addr → List (List D) → Prop
  | [], [] => True
  | p :: ps, ds :: dss => (∃ xs, H p = some (.lst xs) ∧ DqA K (mi H O) xs ds) ∧ OutsOk K O H ps dss
  | _, _ => False
abbrev FF := List D → Option (D × Bool × List (List D))
def isTp : D → Bool
  | .tup _ => true
  | _ => false
structure ResOk (K : PySem.W.Frag) (O : List Addr) (H : Hp) (ps : List Addr) (v : V) (H' : Hp) (r : D) (fr : Bool) (outs : List (List D)) : Prop where
  frame : ∀ a o, H a = some o → a ∉ ps → H' a = some o
  old : fr = false → OutsOk K O H' ps outs ∧ Dq K (mi H' O) v r
  new : fr = true → isTp r = false → ∃ p xs rs, v = .ref p ∧ r = .lst rs ∧ H p = none ∧ H' p = some (.lst xs) ∧ DqA K (mi (mi H' [p]) O) xs rs ∧ OutsOk K O (mi H' [p]) ps outs
  tw : fr = true → isTp r = true → ∃ p qs dss, v = .ref p ∧ r = .tup (dss.map D.lst) ∧ H' p = some (.tup (qs.map V.ref)) ∧ qs.Nodup ∧ (∀ q, q ∈ qs → H q = none) ∧ LsOk K (mi H' (qs ++ O)) H' qs dss ∧ OutsOk K O (mi H' qs) ps outs
def spD (K : PySem.W.Frag) (io : List Bool) (g : FF) : Sp := fun vs H Q _ => ∃ O ds r fr outs, ArgsOk K O H io vs ds ∧ (ioA io vs).Nodup ∧ (∀ p, p ∈ O → ∃ o, H p = some o) ∧ (∀ p xs, p ∈ O → H p ≠ some (.tup xs)) ∧ g ds = some (r, fr, outs) ∧
  ∀ v H', ResOk K O H (ioA io vs) v H' r fr outs → Q v H'
def argS : List Bool → List D → Option Env
  | [], [] => some []
  | true :: bs, .lst ds :: r => (argS bs r).bind fun e => some (.io ds :: e)
  | false :: bs, d :: r => (argS bs r).bind fun e => some (.fz d :: e)
  | _, _ => none
def ioIx : Nat → List Bool → List Nat
  | _, [] => []
  | k, true :: bs => k :: ioIx (k + 1) bs
  | k, false :: bs => ioIx (k + 1) bs
def outE (env : Env) : List Nat → Option (List (List D))
  | [] => some []
  | j :: js => match env[j]? with
    | some (.io ds) => (outE env js).bind fun r => some (ds :: r)
    | _ => none
def fDef (m : Nat) (io : List Bool) (b : SFn) : FF := fun ds => (argS io ds).bind fun e => (b (e ++ List.replicate m .no)).bind fun o => match o with
  | .nx env => (outE env (ioIx 0 io)).bind fun outs => some (.non, false, outs)
  | .rt (.val d) env => (outE env (ioIx 0 io)).bind fun outs => some (d, false, outs)
  | .rt (.new es) env => (outE env (ioIx 0 io)).bind fun outs => some (.lst es, true, outs)
  | .rt (.tw dss) env => (outE env (ioIx 0 io)).bind fun outs => some (.tup (dss.map D.lst), true, outs)
  | .rt (.slot i) env => match env[i]? with
    | some (.o1 es) => (outE env (ioIx 0 io)).bind fun outs => some (.lst es, true, outs)
    | _ => none
  | _ => none
section
variable {K : PySem.W.Frag} {B : Hp} {O : List Addr} {I : List (Nat × Addr)} {σ : L2.St} {H H' : Hp} {env env' : Env} {v : V} {t ta tb te : TE} {f fa fb fe : EF} {W : WN}
theorem ArgsOk.len {bs : List Bool} {vs : List V} {ds : List D} (h : ArgsOk K O H bs vs ds) : vs.length = bs.length := by
  induction h with
  | nil => rfl
  | val _ _ ih => simp [ih]
  | io _ _ _ _ ih => simp [ih]
theorem ArgsOk.elen {bs : List Bool} {vs : List V} {ds : List D} (h : ArgsOk K O H bs vs ds) : ∀ {e : Env}, argS bs ds = some e → e.length = vs.length := by
  induction h with
  | nil => intro e he; cases he; rfl
  | val _ _ ih =>
    intro e he
    obtain ⟨e', h1, h2⟩ := bnd he
    cases h2
    simp [ih h1]
  | io _ _ _ _ ih =>
    intro e he
    obtain ⟨e', h1, h2⟩ := bnd he
    cases h2
    simp [ih h1]
theorem ArgsOk.fz {bs : List Bool} {vs : List V} {ds : List D} (h : ArgsOk K O H bs vs ds) : ∀ {e : Env} {i : Nat} {d : D}, argS bs ds = some e → e[i]? = some (.fz d) → ∃ v, vs[i]? = some v ∧ Dq K (mi H O) v d := by
  induction h with
  | nil => intro e i d he hi; cases he; simp at hi
  | val hd _ ih =>
    intro e i d he hi
    obtain ⟨e', h1, h2⟩ := bnd he
    cases h2
    cases i with
    | zero => simp at hi; subst hi; exact ⟨_, rfl, hd⟩
    | succ i =>
      obtain ⟨v, g1, g2⟩ := ih h1 (by simpa using hi)
      exact ⟨v, by simpa using g1, g2⟩
  | io _ _ _ _ ih =>
    intro e i d he hi
    obtain ⟨e', h1, h2⟩ := bnd he
    cases h2
    cases i with
    | zero => simp at hi
    | succ i =>
      obtain ⟨v, g1, g2⟩ := ih h1 (by simpa using hi)
      exact ⟨v, by simpa using g1, g2⟩
theorem ArgsOk.own {bs : List Bool} {vs : List V} {ds : List D} (h : ArgsOk K O H bs vs ds) : ∀ {e : Env} {i k : Nat} {es : List D}, argS bs ds = some e → OwnAt e i es → ∃ p xs, vs[i]? = some (.ref p) ∧ p ∈ O ∧ H p = some (.lst xs) ∧ DqA K (mi H O) xs es ∧ (k + i, p) ∈ pinsOf k bs vs := by
  induction h with
  | nil => intro e i k es he hi; cases he; rcases hi with hi | hi <;> simp at hi
  | val hd _ ih =>
    intro e i k es he hi
    obtain ⟨e', h1, h2⟩ := bnd he
    cases h2
    cases i with
    | zero => rcases hi with hi | hi <;> simp at hi
    | succ i =>
      obtain ⟨p, xs, g1, g2, g3, g4, g5⟩ := ih (i := i) (k := k + 1) h1 (by unfold OwnAt at hi ⊢; simpa using hi)
      refine ⟨p, xs, by simpa using g1, g2, g3, g4, ?_⟩
      have : k + (i + 1) = k + 1 + i := by omega
      rw [this]
      unfold pinsOf
      exact g5
  | @io q0 xs0 es0 bs0 vs0 ds0 hp hx hd _ ih =>
    intro e i k es he hi
    obtain ⟨e', h1, h2⟩ := bnd he
    cases h2
    cases i with
    | zero =>
      have : es = es0 := by
        rcases hi with hi | hi
        · simp at hi
        · simp at hi
          exact hi.symm
      subst this
      exact ⟨_, _, rfl, hp, hx, hd, List.mem_cons_self⟩
    | succ i =>
      obtain ⟨p, xs, g1, g2, g3, g4, g5⟩ := ih (i := i) (k := k + 1) h1 (by unfold OwnAt at hi ⊢; simpa using hi)
      refine ⟨p, xs, by simpa using g1, g2, g3, g4, ?_⟩
      have : k + (i + 1) = k + 1 + i := by omega
      rw [this]
      exact List.mem_cons_of_mem _ g5
theorem pins_ge : ∀ {bs : List Bool} {vs : List V} {k j : Nat} {p : Addr}, (j, p) ∈ pinsOf k bs vs → k ≤ j
  | [], _, _, _, _, h => by simp [pinsOf] at h
  | b :: bs, [], _, _, _, h => by cases b <;> simp [pinsOf] at h
  | b :: bs, v :: vs, k, j, p, h => by
    unfold pinsOf at h
    split at h
    · rename_i e1 e2
      cases e1
      cases e2
      rcases List.mem_cons.mp h with h | h
      · cases h; exact Nat.le_refl _
      · exact Nat.le_of_succ_le (pins_ge h)
    · rename_i e1 e2
      cases e1
      cases e2
      exact Nat.le_of_succ_le (pins_ge h)
    · cases h
theorem ArgsOk.pins {bs : List Bool} {vs : List V} {ds : List D} (h : ArgsOk K O H bs vs ds) : ∀ {e : Env} {k j : Nat} {p : Addr}, argS bs ds = some e → (j, p) ∈ pinsOf k bs vs → ∃ es, vs[j - k]? = some (.ref p) ∧ e[j - k]? = some (.io es) := by
  induction h with
  | nil => intro e k j p he hj; simp [pinsOf] at hj
  | @val v d bs vs ds hd _ ih =>
    intro e k j p he hj
    obtain ⟨e', h1, h2⟩ := bnd he
    cases h2
    have hj' : (j, p) ∈ pinsOf (k + 1) bs vs := by
      unfold pinsOf at hj
      exact hj
    have ge := pins_ge hj'
    obtain ⟨es, g1, g2⟩ := ih h1 hj'
    have ej : j - k = (j - (k + 1)) + 1 := by omega
    rw [ej]
    exact ⟨es, by simpa using g1, by simpa using g2⟩
  | @io q xs es bs vs ds hp hx hd _ ih =>
    intro e k j p he hj
    obtain ⟨e', h1, h2⟩ := bnd he
    cases h2
    rcases List.mem_cons.mp hj with hj | hj
    · cases hj
      exact ⟨_, by simp, by simp; rfl⟩
    · have ge := pins_ge hj
      obtain ⟨es, g1, g2⟩ := ih h1 hj
      have ej : j - k = (j - (k + 1)) + 1 := by omega
      rw [ej]
      exact ⟨es, by simpa using g1, by simpa using g2⟩
theorem nodup_key : ∀ {l : List (Nat × Addr)} {i j : Nat} {p : Addr}, (l.map (·.2)).Nodup → (i, p) ∈ l → (j, p) ∈ l → i = j
  | [], _, _, _, _, h, _ => by cases h
  | x :: l, i, j, p, hn, h1, h2 => by
    rw [List.map_cons, List.nodup_cons] at hn
    rcases List.mem_cons.mp h1 with e1 | e1 <;> rcases List.mem_cons.mp h2 with e2 | e2
    · rw [← e1] at e2
      cases e2
      rfl
    · exact absurd (List.mem_map.mpr ⟨(j, p), e2, by rw [← e1]⟩) hn.1
    · exact absurd (List.mem_map.mpr ⟨(i, p), e1, by rw [← e2]⟩) hn.1
    · exact nodup_key hn.2 e1 e2
theorem get_app {α : Type} {xs ys : List α} {i : Nat} {x : α} (h : (xs ++ ys)[i]? = some x) : xs[i]? = some x ∨ (xs.length ≤ i ∧ ys[i - xs.length]? = some x) := by
  by_cases c : i < xs.length
  · rw [List.getElem?_append_left c] at h
    exact .inl h
  · rw [List.getElem?_append_right (by omega)] at h
    exact .inr ⟨by omega, h⟩
theorem app_get {α : Type} {xs ys : List α} {i : Nat} {x : α} (h : xs[i]? = some x) : (xs ++ ys)[i]? = some x := by
  rw [List.getElem?_append_left (List.getElem?_eq_some_iff.mp h).1]
  exact h
theorem rep_no {m i : Nat} {s : SV} (h : (List.replicate m SV.no)[i]? = some s) : s = .no := by
  obtain ⟨h1, h2⟩ := List.getElem?_eq_some_iff.mp h
  rw [List.getElem_replicate] at h2
  exact h2.symm
/-- the def's state at its entry -/
theorem entry {N : List Str} {bs : List Bool} {vs : List V} {ds : List D} {e : Env} {m : Nat} (h : ArgsOk K O H bs vs ds) (hn : (ioA bs vs).Nodup) (hd : ∀ p, p ∈ O → ∃ o, H p = some o) (ht : ∀ p xs, p ∈ O → H p ≠ some (.tup xs)) (he : argS bs ds = some e) (hm : m = N.length - vs.length) :
    Sta K (mi H (ioA bs vs)) O (pinsOf 0 bs vs) (L2.start N vs) H (e ++ List.replicate m .no) := by
  have el := h.elen he
  have val : ∀ i v, vs[i]? = some v → (L2.start N vs)[i]? = some (some v) := fun i v z => by
    unfold L2.start
    refine app_get ?_
    rw [List.getElem?_map, z]
    rfl
  have own' : ∀ i es, OwnAt (e ++ List.replicate m .no) i es → OwnAt e i es := fun i es z => by
    rcases z with z | z
    · rcases get_app z with y | ⟨_, y⟩
      · exact .inl y
      · cases rep_no y
    · rcases get_app z with y | ⟨_, y⟩
      · exact .inr y
      · cases rep_no y
  have non : ∀ {bs : List Bool} {ds : List D} {e : Env} {i : Nat} {w : OV}, argS bs ds = some e → e[i]? ≠ some (SV.nw w) := by
    intro bs
    induction bs with
    | nil =>
      intro ds e i w h z
      cases ds with
      | nil => cases h; simp at z
      | cons d r => cases h
    | cons b bs ih =>
      intro ds e i w h z
      cases ds with
      | nil => cases b <;> cases h
      | cons d r =>
        cases b with
        | true =>
          cases d with
          | lst gs =>
            obtain ⟨e', g1, g2⟩ := bnd h
            cases g2
            cases i with
            | zero => simp at z
            | succ i => exact ih g1 (by simpa using z)
          | _ => cases h
        | false =>
          have h : (argS bs r).bind (fun e => some (SV.fz d :: e)) = some e := by
            cases d <;> exact h
          obtain ⟨e', g1, g2⟩ := bnd h
          cases g2
          cases i with
          | zero => simp at z
          | succ i => exact ih g1 (by simpa using z)
  refine ⟨?_, fun i d hi => ?_, fun i es hi => ?_, fun i j es gs p hi hj a b => ?_, mi_same, hd, fun j p hj => ?_, NwOk.none fun i w z => ?_, ht⟩
  · unfold L2.start
    rw [List.length_append, List.length_append, List.length_map, List.length_replicate, List.length_replicate, el, hm]
  · rcases get_app hi with y | ⟨_, y⟩
    · obtain ⟨v, g1, g2⟩ := h.fz he y
      exact ⟨v, val i v g1, g2⟩
    · cases rep_no y
  · obtain ⟨p, xs, g1, g2, g3, g4, g5⟩ := h.own (k := 0) he (own' i es hi)
    exact ⟨p, xs, val _ _ g1, g2, g3, g4, mi_in (List.mem_map.mpr ⟨_, g5, rfl⟩)⟩
  · obtain ⟨p1, xs1, g1, _, _, _, g5⟩ := h.own (k := 0) he (own' i es hi)
    obtain ⟨p2, xs2, k1, _, _, _, k5⟩ := h.own (k := 0) he (own' j gs hj)
    rw [val _ _ g1] at a
    rw [val _ _ k1] at b
    cases a
    cases b
    have := nodup_key hn g5 k5
    omega
  · obtain ⟨es, g1, g2⟩ := h.pins he hj
    exact ⟨val _ _ g1, es, app_get g2⟩
  · rcases get_app z with y | ⟨_, y⟩
    · exact non he y
    · cases rep_no y
theorem outs_of {O' : List Addr} {σ' : L2.St} (S : Sta K B O' I σ' H env) (so : ∀ a, a ∈ O → a ∈ O') : ∀ {l : List (Nat × Addr)} {outs : List (List D)}, (∀ x, x ∈ l → x ∈ I) → outE env (l.map (·.1)) = some outs → OutsOk K O H (l.map (·.2)) outs
  | [], outs, _, e => by cases e; trivial
  | (j, p) :: l, outs, hl, e => by
    obtain ⟨s1, ds, e1⟩ := S.pin j p (hl _ List.mem_cons_self)
    rw [List.map_cons] at e
    unfold outE at e
    dsimp only at e
    rw [e1] at e
    obtain ⟨r, e2, e3⟩ := bnd e
    cases e3
    obtain ⟨q, xs, k1, k2, k3, k4, k5⟩ := S.ow j ds (.inr e1)
    rw [s1] at k1
    cases k1
    exact ⟨⟨xs, k3, DqA.mono (mi_sub so) _ _ k4⟩, outs_of S so (fun x hx => hl x (List.mem_cons_of_mem _ hx)) e2⟩
theorem pins_ix : ∀ {bs : List Bool} {vs : List V} {ds : List D} {k : Nat}, ArgsOk K O H bs vs ds → (pinsOf k bs vs).map (·.1) = ioIx k bs
  | _, _, _, _, .nil => rfl
  | _, _, _, k, @ArgsOk.val _ _ _ v d bs vs ds h1 h2 => by
    have := pins_ix (k := k + 1) h2
    unfold ioIx
    rw [← this]
    cases v <;> rfl
  | _, _, _, k, @ArgsOk.io _ _ _ p xs es bs vs ds h1 h2 h3 h4 => by
    have := pins_ix (k := k + 1) h4
    unfold ioIx pinsOf
    rw [List.map_cons, this]
/-- a def keeps its promise, by its body -/
theorem body_ok {N : List Str} {bs : List Bool} {m : Nat} {b : SFn} {t : TS} {vs : List V} {Q : VK} {E : XK} (hb : SndS K W t b) (hm : m = N.length - bs.length) (h : spD K bs (fDef m bs b) vs H Q E) : t { nx := fun _ H' => Q .non H', rt := Q } (L2.start N vs) H := by
  obtain ⟨O, ds, r, fr, outs, ha, hn, hd, ht, eg, q⟩ := h
  obtain ⟨e, ee, eg⟩ := bnd eg
  obtain ⟨o, eo, eg⟩ := bnd eg
  have S := entry (N := N) (m := m) ha hn hd ht ee (by rw [ha.len]; exact hm)
  refine hb _ O _ _ H _ o S eo _ ?_
  have inc : ∀ {O' : List Addr}, Sub (mi H (ioA bs vs)) (pinsOf 0 bs vs) O O' → ∀ a, a ∈ O → a ∈ O' := fun s a z => s.1 a z (by
    by_cases c : a ∈ ioA bs vs
    · exact .inr c
    · obtain ⟨o, h⟩ := hd a z
      exact .inl fun q => by rw [mi_out c, h] at q; cases q)
  have fr1 : ∀ {O' : List Addr} {σ' : L2.St} {H' : Hp} {env' : Env}, Sta K (mi H (ioA bs vs)) O' (pinsOf 0 bs vs) σ' H' env' → ∀ a o, H a = some o → a ∉ ioA bs vs → H' a = some o := fun S' a o z y => S'.base a o (mi_of y z)
  have ix : (pinsOf 0 bs vs).map (·.1) = ioIx 0 bs := pins_ix ha
  have newp : ∀ {O' : List Addr} {σ' : L2.St} {H' : Hp} {env' : Env} {p : Addr}, Sta K (mi H (ioA bs vs)) O' (pinsOf 0 bs vs) σ' H' env' → mi H (ioA bs vs) p = none → H' p = none → H p = none := fun {O' σ' H' env' p} S' z y => by
    by_cases c : p ∈ ioA bs vs
    · obtain ⟨⟨j, p'⟩, c1, c2⟩ := List.mem_map.mp c
      cases c2
      obtain ⟨s1, gs, e1⟩ := S'.pin j _ c1
      obtain ⟨q, xs, k1, k2, k3, _⟩ := S'.ow j gs (.inr e1)
      rw [s1] at k1
      cases k1
      rw [y] at k3
      cases k3
    · rw [mi_out c] at z
      exact z
  cases o with
  | nx env1 =>
    obtain ⟨outs', e1, e2⟩ := bnd eg
    cases e2
    intro O' σ' H' s S'
    rw [← ix] at e1
    exact q _ _ ⟨fr1 S', fun _ => ⟨outs_of S' (inc s) (fun _ z => z) e1, .non⟩, (fun z => nomatch z), (fun z => nomatch z)⟩
  | bk env1 => cases eg
  | ct env1 => cases eg
  | rt rv env1 =>
    cases rv with
    | ex n => cases eg
    | val d =>
      obtain ⟨outs', e1, e2⟩ := bnd eg
      cases e2
      intro O' σ' H' v s ⟨S', dv⟩
      rw [← ix] at e1
      exact q _ _ ⟨fr1 S', fun _ => ⟨outs_of S' (inc s) (fun _ z => z) e1, Dq.mono (mi_sub (inc s)) _ _ dv⟩, (fun z => nomatch z), (fun z => nomatch z)⟩
    | tw dss =>
      obtain ⟨outs', e1, e2⟩ := bnd eg
      cases e2
      intro O' σ' H' v s ⟨p, qs, hv, hp, hnd, hfr, S', hl⟩
      rw [← ix] at e1
      refine q _ _ ⟨fun a o z y => mi_same _ _ (fr1 S' a o z y), (fun z => nomatch z), (fun _ z => nomatch z), fun _ _ => ⟨p, qs, dss, hv, rfl, hp, hnd, fun a ha => newp S' (hfr a ha).1 (mi_in ha), LsOk.mono (mi_sub fun a ha => ?_) (fun _ _ => rfl) hl, outs_of S' (inc s) (fun _ z => z) e1⟩⟩
      rcases List.mem_append.mp ha with z | z
      · exact List.mem_append_left _ z
      · exact List.mem_append_right _ (inc s a z)
    | new es =>
      obtain ⟨outs', e1, e2⟩ := bnd eg
      cases e2
      intro O' σ' H' v s ⟨p, xs, hv, hp, hB, hO, S', dx⟩
      rw [← ix] at e1
      have hpn : H p = none := newp S' hB (mi_in (List.mem_singleton.mpr rfl))
      refine q _ _ ⟨fun a o z y => mi_same _ _ (fr1 S' a o z y), (fun z => nomatch z), (fun _ _ => ⟨p, xs, es, hv, rfl, hpn, hp, DqA.mono (mi_sub (inc s)) _ _ dx, outs_of S' (inc s) (fun _ z => z) e1⟩), (fun _ z => nomatch z)⟩
    | slot i =>
      dsimp only at eg
      split at eg
      · rename_i gs hgs
        obtain ⟨outs', e1, e2⟩ := bnd eg
        cases e2
        intro O' σ' H' v s ⟨S', hv⟩
        rw [← ix] at e1
        obtain ⟨p, xs, rfl, k2, k3, k4, k5⟩ := S'.own (.inl hgs) hv
        have hpn : H p = none := by
          by_cases c : p ∈ ioA bs vs
          · obtain ⟨⟨j, p'⟩, c1, c2⟩ := List.mem_map.mp c
            cases c2
            obtain ⟨s1, hs, e1⟩ := S'.pin j _ c1
            have := S'.sep i j gs hs _ (.inl hgs) (.inr e1) hv s1
            subst this
            rw [hgs] at e1
            cases e1
          · rw [mi_out c] at k5
            exact k5
        have sm : Same (mi H' O') (mi (mi H' [p]) O) := fun a o z => by
          obtain ⟨z1, z2⟩ := mi_some z
          refine mi_of (fun y => z1 (inc s a y)) (mi_of (fun y => ?_) z2)
          rw [List.mem_singleton] at y
          subst y
          exact z1 k2
        have outs2 : OutsOk K O (mi H' [p]) (ioA bs vs) outs := by
          have key : ∀ {l : List (Nat × Addr)} {outs : List (List D)}, (∀ x, x ∈ l → x ∈ pinsOf 0 bs vs) → outE env1 (l.map (·.1)) = some outs → OutsOk K O (mi H' [p]) (l.map (·.2)) outs := by
            intro l
            induction l with
            | nil => intro outs _ e; cases e; trivial
            | cons x l ih =>
              intro outs hl e
              obtain ⟨j, p1⟩ := x
              obtain ⟨s1, hs, e1⟩ := S'.pin j p1 (hl _ List.mem_cons_self)
              rw [List.map_cons] at e
              unfold outE at e
              dsimp only at e
              rw [e1] at e
              obtain ⟨r, e2, e3⟩ := bnd e
              cases e3
              obtain ⟨q, ys, g1, g2, g3, g4, g5⟩ := S'.ow j hs (.inr e1)
              rw [s1] at g1
              cases g1
              have c : p1 ≠ p := fun y => by
                subst y
                have := S'.sep i j gs hs _ (.inl hgs) (.inr e1) hv s1
                subst this
                rw [hgs] at e1
                cases e1
              exact ⟨⟨ys, mi_of (fun y => c (List.mem_singleton.mp y)) g3, DqA.mono sm _ _ g4⟩, ih (fun x hx => hl x (List.mem_cons_of_mem _ hx)) e2⟩
          exact key (fun _ z => z) e1
        exact q _ _ ⟨fr1 S', (fun z => nomatch z), (fun _ _ => ⟨p, xs, gs, rfl, rfl, hpn, k3, DqA.mono sm _ _ k4, outs2⟩), (fun _ z => nomatch z)⟩
      · cases eg
end
end Dv
namespace Dv
open PySem L2
mutual
def noL : D → Bool
  | .lst _ => false
  | .scr _ => false
  | .tup ds => noLs ds
  | .non => true
  | .bl _ => true
  | .int _ => true
  | .str _ => true
  | .adr _ => true
  | .nt ds => noLs ds
  | .dct _ ds => noLs ds
def noLs : List D → Bool
  | [] => true
  | d :: ds => noL d && noLs ds
end
/-- the arguments' things, the own lists handed over, the own lists lent -/
def argD (env : Env) : List Bool → List RV → Option (List D × List Nat × List Nat)
  | [], [] => some ([], [], [])
  | true :: bs, .slot i :: rs => (deref env (.slot i)).bind fun d => (argD env bs rs).bind fun x => some (d :: x.1, i :: x.2.1, x.2.2)
  | false :: bs, .val d :: rs => (argD env bs rs).bind fun x => some (d :: x.1, x.2.1, x.2.2)
  | false :: bs, .slot i :: rs => (deref env (.slot i)).bind fun d => (argD env bs rs).bind fun x => some (d :: x.1, x.2.1, i :: x.2.2)
  | _, _ => none
def putOuts : List Nat → List (List D) → Env → Option Env
  | [], [], env => some env
  | i :: is, ds :: dss, env => (upO i (fun _ => some ds) env).bind fun e => putOuts is dss e
  | _, _, _ => none
def lsOf : List D → Option (List (List D))
  | [] => some []
  | .lst ds :: r => (lsOf r).bind fun x => some (ds :: x)
  | _ => none
theorem lsOf_map : ∀ dss : List (List D), lsOf (dss.map D.lst) = some dss
  | [] => rfl
  | ds :: r => by
    show (lsOf (r.map D.lst)).bind _ = _
    rw [lsOf_map r]
    rfl
def resR (r : D × Bool × List (List D)) : Option RV := match r.2.1, r.1 with
  | true, .lst ds => some (.new ds)
  | true, .tup ds => (lsOf ds).bind fun x => some (.tw x)
  | false, d => some (.val d)
  | _, _ => none
def lentOk (bor : List Nat) : RV → Bool
  | .val d => bor.isEmpty || noL d
  | .new ds => bor.isEmpty || noLs ds
  | .slot _ => false
  | .ex _ => false
  | .tw _ => bor.isEmpty
theorem resR_tw {dss : List (List D)} {outs : List (List D)} {rv : RV} (h : resR (.tup (dss.map D.lst), true, outs) = some rv) : rv = .tw dss := by
  have e : resR (.tup (dss.map D.lst), true, outs) = (lsOf (dss.map D.lst)).bind fun x => some (.tw x) := rfl
  rw [e, lsOf_map] at h
  cases h
  rfl
def fCall (io : List Bool) (g : FF) (fa : AF) : EF := fun env => (fa env).bind fun a => (argD a.2 io a.1).bind fun x => if decide x.2.1.Nodup && decide (∀ i, i ∈ x.2.1 → i ∉ x.2.2) then (g x.1).bind fun r => (putOuts x.2.1 r.2.2 a.2).bind fun e => (resR r).bind fun z => if lentOk x.2.2 z && r.2.2.all (fun ds => x.2.2.isEmpty || noLs ds) then some (z, e) else none else none
section
variable {K : PySem.W.Frag} {B : Hp} {O : List Addr} {I : List (Nat × Addr)} {σ : L2.St} {H H' : Hp} {env env' : Env} {v : V} {t ta tb te : TE} {f fa fb fe : EF} {W : WN}
mutual
/-- a thing without lists does not hang on any list -/
theorem Dq.less {O' : List Addr} (hl : ∀ a, a ∈ O' → a ∈ O ∨ ∃ xs, H a = some (.lst xs)) : ∀ (d : D) (v : V), noL d = true → Dq K (mi H O) v d → Dq K (mi H O') v d
  | .non, _, _, h => by cases h; exact .non
  | .bl b, _, _, h => by cases h; exact .bl b
  | .int i, _, _, h => by cases h; exact .int i
  | .str x, _, _, h => by cases h; exact .str x
  | .lst ds, _, n, h => by simp only [noL] at n; cases n
  | .scr ds, _, n, h => by simp only [noL] at n; cases n
  | .adr a, _, _, h => by cases h; exact .adr a
  | .nt ds, _, n, h => by
    simp only [noL] at n
    cases h with
    | nt h1 h2 =>
      obtain ⟨z1, z2⟩ := mi_some h1
      refine .nt (mi_of (fun y => ?_) z2) (DqA.less hl ds _ n h2)
      rcases hl _ y with y | ⟨xs, y⟩
      · exact z1 y
      · rw [z2] at y
        cases y
  | .dct _ ds, _, n, h => by
    simp only [noL] at n
    cases h with
    | dct h1 h3 h2 =>
      refine .dct ?_ h3 (DqA.less hl ds _ n h2)
      rcases h1 with h1 | ⟨od, h1⟩
      · obtain ⟨z1, z2⟩ := mi_some h1
        refine .inl (mi_of (fun y => ?_) z2)
        rcases hl _ y with y | ⟨xs, y⟩
        · exact z1 y
        · rw [z2] at y
          cases y
      · obtain ⟨z1, z2⟩ := mi_some h1
        refine .inr ⟨od, mi_of (fun y => ?_) z2⟩
        rcases hl _ y with y | ⟨xs, y⟩
        · exact z1 y
        · rw [z2] at y
          cases y
  | .tup ds, _, n, h => by
    simp only [noL] at n
    cases h with
    | tup h1 h2 =>
      refine .tup ?_ (DqA.less hl ds _ n h2)
      rcases h1 with (h | ⟨o, h⟩) | h
      · obtain ⟨z1, z2⟩ := mi_some h
        refine .inl (.inl (mi_of (fun y => ?_) z2))
        rcases hl _ y with y | ⟨xs, y⟩
        · exact z1 y
        · rw [z2] at y
          cases y
      · obtain ⟨z1, z2⟩ := mi_some h
        refine .inl (.inr ⟨o, mi_of (fun y => ?_) z2⟩)
        rcases hl _ y with y | ⟨xs, y⟩
        · exact z1 y
        · rw [z2] at y
          cases y
      · exact .inr h
theorem DqA.less {O' : List Addr} (hl : ∀ a, a ∈ O' → a ∈ O ∨ ∃ xs, H a = some (.lst xs)) : ∀ (ds : List D) (vs : List V), noLs ds = true → DqA K (mi H O) vs ds → DqA K (mi H O') vs ds
  | [], _, _, h => by cases h; exact .nil
  | d :: ds, _, n, h => by
    simp only [noLs, Bool.and_eq_true] at n
    cases h with
    | cons h1 h2 => exact .cons (Dq.less hl d _ n.1 h1) (DqA.less hl ds _ n.2 h2)
end
/-- the places of some names -/
def addrs (σ : L2.St) : List Nat → List Addr
  | [] => []
  | i :: is => match σ[i]? with
    | some (some (.ref p)) => p :: addrs σ is
    | _ => addrs σ is
theorem addrs_mem {p : Addr} : ∀ {l : List Nat}, p ∈ addrs σ l → ∃ i, i ∈ l ∧ σ[i]? = some (some (.ref p))
  | [], h => by cases h
  | i :: l, h => by
    unfold addrs at h
    split at h
    · rename_i q hq
      rcases List.mem_cons.mp h with rfl | h
      · exact ⟨i, List.mem_cons_self, hq⟩
      · obtain ⟨j, h1, h2⟩ := addrs_mem h
        exact ⟨j, List.mem_cons_of_mem _ h1, h2⟩
    · obtain ⟨j, h1, h2⟩ := addrs_mem h
      exact ⟨j, List.mem_cons_of_mem _ h1, h2⟩
theorem mem_addrs {p : Addr} {i : Nat} : ∀ {l : List Nat}, i ∈ l → σ[i]? = some (some (.ref p)) → p ∈ addrs σ l
  | [], h, _ => by cases h
  | j :: l, h, e => by
    unfold addrs
    rcases List.mem_cons.mp h with rfl | h
    · rw [e]
      exact List.mem_cons_self
    · split
      · exact List.mem_cons_of_mem _ (mem_addrs h e)
      · exact mem_addrs h e
theorem args_ok (S : Sta K B O I σ H env) {bor : List Nat} : ∀ {bs : List Bool} {vs : List V} {rs : List RV} {x : List D × List Nat × List Nat} {k : Nat}, PostA K B O I σ H env vs rs → argD env bs rs = some x → (∀ i, i ∈ x.2.2 → i ∈ bor) → (∀ i, i ∈ x.2.1 → i ∉ bor) →
    (∀ i, i ∈ bor → ∃ ds, OwnAt env i ds) →
    ArgsOk K (O.filter fun a => decide (a ∉ addrs σ bor)) H bs vs x.1 ∧ (pinsOf k bs vs).map (·.2) = addrs σ x.2.1 ∧ (∀ i, i ∈ x.2.1 → ∃ ds p, OwnAt env i ds ∧ σ[i]? = some (some (.ref p)))
  | bs, _, _, x, k, .nil, e, hb, hi, ho => by
    cases bs with
    | nil => cases e; exact ⟨.nil, rfl, fun _ z => nomatch z⟩
    | cons b bs => cases b <;> cases e
  | bs, _, _, x, k, @PostA.cons _ _ _ _ _ _ _ v r vs rs P t, e, hb, hi, ho => by
    have sub : ∀ a, a ∈ O.filter (fun a => decide (a ∉ addrs σ bor)) → a ∈ O := fun a z => (List.mem_filter.mp z).1
    cases bs with
    | nil => cases e
    | cons b bs =>
      cases b with
      | true =>
        cases r with
        | ex n => cases e
        | val d => cases e
        | new ds => cases e
        | tw ds => cases e
        | slot i =>
          obtain ⟨d, e1, e⟩ := bnd e
          obtain ⟨y, e2, e⟩ := bnd e
          cases e
          obtain ⟨ds, rfl, ow⟩ := ownAt_of e1
          obtain ⟨p, xs, rfl, k2, k3, k4, k5⟩ := S.own ow P.2
          obtain ⟨g1, g2, g3⟩ := args_ok S (k := k + 1) t e2 (fun j z => hb j z) (fun j z => hi j (List.mem_cons_of_mem _ z)) ho
          have hpf : p ∈ O.filter fun a => decide (a ∉ addrs σ bor) := by
            refine List.mem_filter.mpr ⟨k2, decide_eq_true fun z => ?_⟩
            obtain ⟨j, z1, z2⟩ := addrs_mem z
            obtain ⟨es, z3⟩ := ho j z1
            have := S.sep i j ds es p ow z3 P.2 z2
            subst this
            exact hi i List.mem_cons_self z1
          refine ⟨.io hpf k3 (DqA.mono (mi_sub sub) _ _ k4) g1, ?_, fun j z => ?_⟩
          · unfold pinsOf addrs
            rw [P.2, List.map_cons, g2]
          · rcases List.mem_cons.mp z with rfl | z
            · exact ⟨ds, p, ow, P.2⟩
            · exact g3 j z
      | false =>
        have pin : ∀ (v : V), (pinsOf k (false :: bs) (v :: vs)) = pinsOf (k + 1) bs vs := fun v => by cases v <;> rfl
        cases r with
        | ex n => cases e
        | val d =>
          obtain ⟨y, e2, e⟩ := bnd e
          cases e
          obtain ⟨g1, g2, g3⟩ := args_ok S (k := k + 1) t e2 (fun j z => hb j z) (fun j z => hi j z) ho
          exact ⟨.val (Dq.mono (mi_sub sub) _ _ P.2) g1, by rw [pin]; exact g2, g3⟩
        | new ds =>
          obtain ⟨y, e2, e⟩ := bnd e
          cases e
          obtain ⟨g1, g2, g3⟩ := args_ok S (k := k + 1) t e2 (fun j z => hb j z) (fun j z => hi j z) ho
          exact ⟨.val (Dq.mono (mi_sub sub) _ _ P.2) g1, by rw [pin]; exact g2, g3⟩
        | tw ds =>
          obtain ⟨y, e2, e⟩ := bnd e
          cases e
          obtain ⟨g1, g2, g3⟩ := args_ok S (k := k + 1) t e2 (fun j z => hb j z) (fun j z => hi j z) ho
          exact ⟨.val (Dq.mono (mi_sub sub) _ _ P.2) g1, by rw [pin]; exact g2, g3⟩
        | slot i =>
          obtain ⟨d, e1, e⟩ := bnd e
          obtain ⟨y, e2, e⟩ := bnd e
          cases e
          obtain ⟨ds, rfl, ow⟩ := ownAt_of e1
          obtain ⟨p, xs, rfl, k2, k3, k4, k5⟩ := S.own ow P.2
          obtain ⟨g1, g2, g3⟩ := args_ok S (k := k + 1) t e2 (fun j z => hb j (List.mem_cons_of_mem _ z)) (fun j z => hi j z) ho
          have hpf : p ∉ O.filter fun a => decide (a ∉ addrs σ bor) := fun z => of_decide_eq_true (List.mem_filter.mp z).2 (mem_addrs (hb i List.mem_cons_self) P.2)
          exact ⟨.val (.lst (mi_of hpf k3) (DqA.mono (mi_sub sub) _ _ k4)) g1, by rw [pin]; exact g2, g3⟩
theorem lent_own {bs : List Bool} : ∀ {rs : List RV} {bs : List Bool} {x : List D × List Nat × List Nat}, argD env bs rs = some x → ∀ i, i ∈ x.2.2 → ∃ ds, OwnAt env i ds
  | [], bs, x, e, i, h => by
    cases bs with
    | nil => cases e; cases h
    | cons b bs => cases b <;> cases e
  | r :: rs, bs, x, e, i, h => by
    cases bs with
    | nil => cases e
    | cons b bs =>
      cases b with
      | true =>
        cases r with
        | ex n => cases e
        | val d => cases e
        | new ds => cases e
        | tw ds => cases e
        | slot j =>
          obtain ⟨d, e1, e⟩ := bnd e
          obtain ⟨y, e2, e⟩ := bnd e
          cases e
          exact lent_own (bs := bs) e2 i h
      | false =>
        cases r with
        | ex n => cases e
        | val d =>
          obtain ⟨y, e2, e⟩ := bnd e
          cases e
          exact lent_own (bs := bs) e2 i h
        | new ds => cases e
        | tw ds => cases e
        | slot j =>
          obtain ⟨d, e1, e⟩ := bnd e
          obtain ⟨y, e2, e⟩ := bnd e
          cases e
          rcases List.mem_cons.mp h with rfl | h
          · obtain ⟨ds, _, ow⟩ := ownAt_of e1
            exact ⟨ds, ow⟩
          · exact lent_own (bs := bs) e2 i h
/-- a state but for what some names own -/
structure StaX (K : PySem.W.Frag) (B : Hp) (O : List Addr) (I : List (Nat × Addr)) (σ : L2.St) (H : Hp) (env : Env) (X : List Nat) : Prop where
  len : σ.length = env.length
  fz : ∀ (i : Nat) (d : D), env[i]? = some (SV.fz d) → ∃ v, σ[i]? = some (some v) ∧ Dq K (mi H O) v d
  ow : ∀ (i : Nat) (ds : List D), OwnAt env i ds → ∃ p, σ[i]? = some (some (.ref p)) ∧ p ∈ O ∧ B p = none ∧ (i ∉ X → ∃ xs, H p = some (.lst xs) ∧ DqA K (mi H O) xs ds)
  sep : ∀ (i j : Nat) (ds es : List D) (p : Addr), OwnAt env i ds → OwnAt env j es → σ[i]? = some (some (.ref p)) → σ[j]? = some (some (.ref p)) → i = j
  base : Same B H
  dom : ∀ p, p ∈ O → ∃ o, H p = some o
  pin : ∀ (j : Nat) (p : Addr), (j, p) ∈ I → σ[j]? = some (some (.ref p)) ∧ ∃ ds, env[j]? = some (SV.io ds)
  nw : NwOk K B O σ H env
  nt : ∀ (p : Addr) (xs : List V), p ∈ O → H p ≠ some (.tup xs)
theorem StaX.done (S : StaX K B O I σ H env []) : Sta K B O I σ H env :=
  ⟨S.len, S.fz, fun i ds h => by
    obtain ⟨p, h1, h2, h3, h4⟩ := S.ow i ds h
    obtain ⟨xs, h5, h6⟩ := h4 (by simp)
    exact ⟨p, xs, h1, h2, h5, h6, h3⟩, S.sep, S.base, S.dom, S.pin, S.nw, S.nt⟩
theorem StaX.step {i : Nat} {X : List Nat} {p : Addr} {xs : List V} {es : List D} (S : StaX K B O I σ H env (i :: X)) (hi : i ∉ X) (hs : σ[i]? = some (some (.ref p))) (hp : H p = some (.lst xs)) (hx : DqA K (mi H O) xs es)
    (e : upO i (fun _ => some es) env = some env') : StaX K B O I σ H env' X := by
  obtain ⟨ds, es', k, h1, h2, hk, h3, rfl⟩ := upO_of e
  cases h2
  have hl : i < env.length := (List.getElem?_eq_some_iff.mp h3).1
  have own' : ∀ j gs, OwnAt (env.set i (k es)) j gs → ∃ gs', OwnAt env j gs' ∧ (j ≠ i → gs' = gs) ∧ (j = i → gs = es) := fun j gs z => by
    by_cases c : j = i
    · subst c
      refine ⟨ds, h1, fun z => absurd rfl z, fun _ => ?_⟩
      unfold OwnAt at z
      rw [List.getElem?_set_self hl] at z
      rcases hk with rfl | rfl <;> rcases z with z | z <;> cases z <;> rfl
    · exact ⟨gs, (own_set c).mp z, fun _ => rfl, fun z => absurd z c⟩
  refine ⟨by simp [S.len], fun j d hj => ?_, fun j gs hj => ?_, fun j l gs fs q hj hl' e1 e2 => ?_, S.base, S.dom, fun j q hj => ?_, ?_, S.nt⟩
  · by_cases c : j = i
    · subst c
      rw [List.getElem?_set_self hl] at hj
      rcases hk with rfl | rfl <;> cases hj
    · rw [List.getElem?_set_ne (Ne.symm c)] at hj
      exact S.fz j d hj
  · obtain ⟨gs', o1, o2, o3⟩ := own' j gs hj
    obtain ⟨q, k1, k2, k3, k4⟩ := S.ow j gs' o1
    refine ⟨q, k1, k2, k3, fun hX => ?_⟩
    by_cases c : j = i
    · subst c
      rw [o3 rfl]
      rw [hs] at k1
      cases k1
      exact ⟨xs, hp, hx⟩
    · rw [← o2 c]
      exact k4 (fun z => (List.mem_cons.mp z).elim c hX)
  · obtain ⟨gs', o1, _⟩ := own' j gs hj
    obtain ⟨fs', o2, _⟩ := own' l fs hl'
    exact S.sep j l gs' fs' q o1 o2 e1 e2
  · obtain ⟨k1, gs, k2⟩ := S.pin j q hj
    by_cases c : j = i
    · subst c
      rw [h3] at k2
      rcases hk with rfl | rfl
      · cases k2
      · exact ⟨k1, es, List.getElem?_set_self hl⟩
    · rw [List.getElem?_set_ne (Ne.symm c)]
      exact ⟨k1, gs, k2⟩
  · refine NwOk.go S.nw (fun j w hj => ⟨(nw_set hl (fun w z => by rcases hk with rfl | rfl <;> cases z) hj).2, rfl⟩) (fun j gs a hj e => ?_) (fun a g1 g2 _ _ => ⟨g1, g2, rfl⟩) (Same.refl _) S.dom
    obtain ⟨gs', o1, _⟩ := own' j gs hj
    exact .inl ⟨gs', o1, e⟩
theorem StaX.all {Oc : List Addr} {ok : List D → Bool} (less : ∀ (ds : List D) (xs : List V), ok ds = true → DqA K (mi H Oc) xs ds → DqA K (mi H O) xs ds) : ∀ {X : List Nat} {env : Env} {outs : List (List D)}, StaX K B O I σ H env X → outs.all ok = true → X.Nodup → (∀ i, i ∈ X → ∃ p, σ[i]? = some (some (.ref p))) → OutsOk K Oc H (addrs σ X) outs → putOuts X outs env = some env' → Sta K B O I σ H env'
  | [], env, outs, S, _, _, _, ho, e => by
    cases outs with
    | nil => cases e; exact S.done
    | cons a b => cases e
  | i :: X, env, outs, S, ha, hn, hp, ho, e => by
    cases outs with
    | nil => cases e
    | cons ds dss =>
      obtain ⟨e1, h1, h2⟩ := bnd e
      obtain ⟨p, hs⟩ := hp i List.mem_cons_self
      unfold addrs at ho
      rw [hs] at ho
      obtain ⟨⟨xs, g1, g2⟩, g3⟩ := ho
      rw [List.nodup_cons] at hn
      rw [List.all_cons, Bool.and_eq_true] at ha
      exact StaX.all less (S.step hn.1 hs g1 (less _ _ ha.1 g2) h1) ha.2 hn.2 (fun j z => hp j (List.mem_cons_of_mem _ z)) g3 h2
theorem addrs_nodup (S : Sta K B O I σ H env) : ∀ {X : List Nat}, X.Nodup → (∀ i, i ∈ X → ∃ ds p, OwnAt env i ds ∧ σ[i]? = some (some (.ref p))) → (addrs σ X).Nodup
  | [], _, _ => List.nodup_nil
  | i :: X, hn, ho => by
    rw [List.nodup_cons] at hn
    obtain ⟨ds, p, h1, h2⟩ := ho i List.mem_cons_self
    unfold addrs
    rw [h2]
    refine List.nodup_cons.mpr ⟨fun z => ?_, addrs_nodup S hn.2 fun j z => ho j (List.mem_cons_of_mem _ z)⟩
    obtain ⟨j, z1, z2⟩ := addrs_mem z
    obtain ⟨es, q, k1, k2⟩ := ho j (List.mem_cons_of_mem _ z1)
    have := S.sep i j ds es p h1 k1 h2 z2
    subst this
    exact hn.1 z1
theorem outs_dom {Oc : List Addr} {p : Addr} : ∀ {ps : List Addr} {outs : List (List D)}, OutsOk K Oc H ps outs → p ∈ ps → ∃ xs, H p = some (.lst xs)
  | [], outs, _, h => by cases h
  | q :: ps, outs, ho, h => by
    cases outs with
    | nil => cases ho
    | cons ds dss =>
      obtain ⟨⟨xs, g1, g2⟩, g3⟩ := ho
      rcases List.mem_cons.mp h with rfl | h
      · exact ⟨xs, g1⟩
      · exact outs_dom g3 h
/-- the state behind a call -/
theorem called {ios bor : List Nat} {outs : List (List D)} (S : Sta K B O I σ H env) (hn : ios.Nodup) (hio : ∀ i, i ∈ ios → ∃ ds p, OwnAt env i ds ∧ σ[i]? = some (some (.ref p))) (hdis : ∀ i, i ∈ ios → i ∉ bor) (hbo : ∀ i, i ∈ bor → ∃ ds, OwnAt env i ds)
    (frame : ∀ a o, H a = some o → a ∉ addrs σ ios → H' a = some o) (ho : OutsOk K (O.filter fun a => decide (a ∉ addrs σ bor)) H' (addrs σ ios) outs) (hl : outs.all (fun ds => bor.isEmpty || noLs ds) = true) (e : putOuts ios outs env = some env') :
    Sta K B O I σ H' env' ∧ (∀ d v, (bor.isEmpty || noL d) = true → Dq K (mi H' (O.filter fun a => decide (a ∉ addrs σ bor))) v d → Dq K (mi H' O) v d) ∧
      (∀ ds vs, (bor.isEmpty || noLs ds) = true → DqA K (mi H' (O.filter fun a => decide (a ∉ addrs σ bor))) vs ds → DqA K (mi H' O) vs ds) := by
  have hps : ∀ a, a ∈ addrs σ ios → ∃ i ds, i ∈ ios ∧ OwnAt env i ds ∧ σ[i]? = some (some (.ref a)) := fun a z => by
    obtain ⟨i, z1, z2⟩ := addrs_mem z
    obtain ⟨ds, p, z3, z4⟩ := hio i z1
    exact ⟨i, ds, z1, z3, z2⟩
  have psO : ∀ a, a ∈ addrs σ ios → a ∈ O ∧ B a = none := fun a z => by
    obtain ⟨i, ds, z1, z2, z3⟩ := hps a z
    obtain ⟨p, xs, k1, k2, k3, k4, k5⟩ := S.ow i ds z2
    rw [z3] at k1
    cases k1
    exact ⟨k2, k5⟩
  have hl' : ∀ a, a ∈ O → a ∈ (O.filter fun a => decide (a ∉ addrs σ bor)) ∨ ∃ xs, H' a = some (.lst xs) := fun a z => by
    by_cases c : a ∈ addrs σ bor
    · obtain ⟨i, z1, z2⟩ := addrs_mem c
      obtain ⟨ds, z3⟩ := hbo i z1
      obtain ⟨p, xs, k1, k2, k3, k4, k5⟩ := S.ow i ds z3
      rw [z2] at k1
      cases k1
      refine .inr ⟨xs, frame _ _ k3 fun y => ?_⟩
      obtain ⟨j, es, y1, y2, y3⟩ := hps _ y
      have := S.sep i j ds es _ z3 y2 z2 y3
      subst this
      exact hdis i y1 z1
    · exact .inl (List.mem_filter.mpr ⟨z, decide_eq_true c⟩)
  have e0 : bor.isEmpty = true → (O.filter fun a => decide (a ∉ addrs σ bor)) = O := fun z => by
    have : bor = [] := List.isEmpty_iff.mp z
    subst this
    refine List.filter_eq_self.mpr fun a _ => decide_eq_true fun y => ?_
    cases y
  have less1 : ∀ d v, (bor.isEmpty || noL d) = true → Dq K (mi H' (O.filter fun a => decide (a ∉ addrs σ bor))) v d → Dq K (mi H' O) v d := fun d v z h => by
    rcases Bool.or_eq_true _ _ |>.mp z with z | z
    · rw [e0 z] at h
      exact h
    · exact Dq.less hl' d v z h
  have less2 : ∀ ds vs, (bor.isEmpty || noLs ds) = true → DqA K (mi H' (O.filter fun a => decide (a ∉ addrs σ bor))) vs ds → DqA K (mi H' O) vs ds := fun ds vs z h => by
    rcases Bool.or_eq_true _ _ |>.mp z with z | z
    · rw [e0 z] at h
      exact h
    · exact DqA.less hl' ds vs z h
  refine ⟨?_, less1, less2⟩
  have sm : Same (mi H O) (mi H' O) := fun a o z => by
    obtain ⟨z1, z2⟩ := mi_some z
    exact mi_of z1 (frame _ _ z2 fun y => z1 (psO a y).1)
  have X : StaX K B O I σ H' env ios := by
    refine ⟨S.len, fun i d h => ?_, fun i ds h => ?_, S.sep, fun a o h => ?_, fun p hp => ?_, S.pin, ?_, fun p xs hp => ?_⟩
    · obtain ⟨v, h1, h2⟩ := S.fz i d h
      exact ⟨v, h1, Dq.mono sm _ _ h2⟩
    · obtain ⟨p, xs, k1, k2, k3, k4, k5⟩ := S.ow i ds h
      refine ⟨p, k1, k2, k5, fun hX => ⟨xs, frame _ _ k3 fun y => ?_, DqA.mono sm _ _ k4⟩⟩
      obtain ⟨j, es, y1, y2, y3⟩ := hps _ y
      have := S.sep i j ds es _ h y2 k1 y3
      subst this
      exact hX y1
    · refine frame _ _ (S.base a o h) fun y => ?_
      rw [(psO a y).2] at h
      cases h
    · by_cases c : p ∈ addrs σ ios
      · obtain ⟨xs, z⟩ := outs_dom ho c
        exact ⟨_, z⟩
      · obtain ⟨o, z⟩ := S.dom p hp
        exact ⟨o, frame _ _ z c⟩
    · refine NwOk.go S.nw (fun j w hj => ⟨hj, rfl⟩) (fun j ds a hj e => .inl ⟨ds, hj, e⟩) (fun a g1 g2 ⟨o, g3⟩ g4 => ⟨g1, g2, ?_⟩) sm S.dom
      rw [g3]
      refine frame _ _ g3 fun y => ?_
      obtain ⟨j, es, y1, y2, y3⟩ := hps _ y
      exact g4 j es y2 y3
    · by_cases c : p ∈ addrs σ ios
      · obtain ⟨ys, z⟩ := outs_dom ho c
        rw [z]
        exact fun z => by cases z
      · exact S.ntS hp (fun o z => frame _ _ z c) xs
  exact StaX.all (ok := fun ds => bor.isEmpty || noLs ds) (fun ds xs z h => less2 ds xs z h) X hl hn (fun i z => by
    obtain ⟨ds, p, z1, z2⟩ := hio i z
    exact ⟨p, z2⟩) ho e
theorem snd_call {io : List Bool} {g : FF} {E : XK} {t : TA} {fa : AF} (h : SndA K t fa) : Snd K (tCall (spD K io g) [] E t) (fCall io g fa) := by
  intro B O I σ H env rv env' S e Q q
  obtain ⟨⟨rs, env1⟩, e1, e⟩ := bnd e
  obtain ⟨⟨ds, ios, bor⟩, e2, e⟩ := bnd e
  dsimp only at e2 e
  split at e
  · rename_i hc
    rw [Bool.and_eq_true] at hc
    have hn : ios.Nodup := of_decide_eq_true hc.1
    have hdis : ∀ i, i ∈ ios → i ∉ bor := of_decide_eq_true hc.2
    obtain ⟨⟨r, fr, outs⟩, e3, e⟩ := bnd e
    obtain ⟨env2, e4, e⟩ := bnd e
    obtain ⟨z, e5, e⟩ := bnd e
    dsimp only at e4 e
    split at e
    · rename_i hl
      cases e
      rw [Bool.and_eq_true] at hl
      refine h B O I σ H env rs env1 S e1 _ fun vs H1 S1 P1 => ?_
      have hbo := lent_own (bs := io) e2
      obtain ⟨g1, g2, g3⟩ := args_ok S1 (bor := bor) (k := 0) P1 e2 (fun _ y => y) hdis hbo
      have g2' : ioA io vs = addrs σ ios := g2
      rw [List.append_nil]
      refine ⟨_, ds, r, fr, outs, g1, by rw [g2']; exact addrs_nodup S1 hn g3, fun p hp => S1.dom p (List.mem_filter.mp hp).1, fun p xs hp => S1.nt p xs (List.mem_filter.mp hp).1, e3, fun v H' R => ?_⟩
      rw [g2'] at R
      cases fr with
      | false =>
        obtain ⟨o1, o2⟩ := R.old rfl
        obtain ⟨S2, l1, l2⟩ := called S1 hn g3 hdis hbo R.frame o1 hl.2 e4
        have ez : rv = RV.val r := by
          unfold resR at e5
          cases r <;> cases e5 <;> rfl
        subst ez
        exact q _ _ ⟨S2, l1 _ _ hl.1 o2⟩
      | true =>
        by_cases tp : isTp r = true
        · obtain ⟨p, qs, dss, rfl, rfl, hp', hnd, hfr, hls, o1⟩ := R.tw rfl tp
          have fr2 : ∀ a o, H1 a = some o → a ∉ addrs σ ios → mi H' qs a = some o := fun a o y1 y2 => mi_of (fun y => by
            rw [hfr a y] at y1
            cases y1) (R.frame a o y1 y2)
          obtain ⟨S2, l1, l2⟩ := called S1 hn g3 hdis hbo fr2 o1 hl.2 e4
          have ez := resR_tw e5
          subst ez
          have be : bor = [] := List.isEmpty_iff.mp hl.1
          subst be
          have eO : (O.filter fun a => decide (a ∉ addrs σ [])) = O := List.filter_eq_self.mpr fun a _ => decide_eq_true fun y => by cases y
          rw [eO] at hls
          exact q _ _ ⟨p, qs, rfl, hp', hnd, fun a ha => ⟨S1.base.free (hfr a ha), not_dom S1.dom (hfr a ha)⟩, S2, hls⟩
        obtain ⟨p, xs, rs', rfl, rfl, hp, hp', hx, o1⟩ := R.new rfl (Bool.eq_false_iff.mpr tp)
        have fr2 : ∀ a o, H1 a = some o → a ∉ addrs σ ios → mi H' [p] a = some o := fun a o y1 y2 => mi_of (fun y => by
          rw [List.mem_singleton] at y
          subst y
          rw [hp] at y1
          cases y1) (R.frame a o y1 y2)
        obtain ⟨S2, l1, l2⟩ := called S1 hn g3 hdis hbo fr2 o1 hl.2 e4
        cases e5
        exact q _ _ ⟨p, xs, rfl, hp', S1.base.free hp, not_dom S1.dom hp, S2, l2 _ _ hl.1 hx⟩
    · cases e
  · cases e
def SndM (K : PySem.W.Frag) (t : TE) (f : EF) : Prop := ∀ B O I σ H env rv env', Sta K B O I σ H env → f env = some (rv, env') →
  ∀ Q : VK, (∀ O' v H', Sub B I O O' → Post K B O' I σ H' env' v rv → Q v H') → t σ H Q
def dropAll : List Nat → Env → Option Env
  | [], env => some env
  | i :: is, env => (dropAll is env).bind fun e => putS i .no e
theorem drop_get {i : Nat} {s : SV} : ∀ {l : List Nat} {env env' : Env}, dropAll l env = some env' → env'[i]? = some s → s ≠ .no → i ∉ l ∧ env[i]? = some s
  | [], _, _, e, h, _ => by cases e; exact ⟨by simp, h⟩
  | j :: l, env, env', e, h, n => by
    obtain ⟨e1, h1, h2⟩ := bnd e
    obtain ⟨k1, k2, rfl⟩ := putS_of h2
    by_cases c : i = j
    · subst c
      rw [List.getElem?_set_self k2] at h
      cases h
      exact absurd rfl n
    · rw [List.getElem?_set_ne (Ne.symm c)] at h
      obtain ⟨g1, g2⟩ := drop_get h1 h n
      exact ⟨fun z => (List.mem_cons.mp z).elim c g1, g2⟩
theorem drop_keep {i : Nat} : ∀ {l : List Nat} {env env' : Env}, dropAll l env = some env' → i ∉ l → env'[i]? = env[i]?
  | [], _, _, e, _ => by cases e; rfl
  | j :: l, env, env', e, h => by
    obtain ⟨e1, h1, h2⟩ := bnd e
    obtain ⟨k1, k2, rfl⟩ := putS_of h2
    have c : j ≠ i := fun z => h (by rw [z]; exact List.mem_cons_self)
    rw [List.getElem?_set_ne c]
    exact drop_keep h1 fun z => h (List.mem_cons_of_mem _ z)
theorem drop_len : ∀ {l : List Nat} {env env' : Env}, dropAll l env = some env' → env'.length = env.length
  | [], _, _, e => by cases e; rfl
  | j :: l, env, env', e => by
    obtain ⟨e1, h1, h2⟩ := bnd e
    obtain ⟨k1, k2, rfl⟩ := putS_of h2
    rw [List.length_set, drop_len h1]
theorem drop_io {i : Nat} {ds : List D} : ∀ {l : List Nat} {env env' : Env}, dropAll l env = some env' → env[i]? = some (.io ds) → i ∉ l
  | [], _, _, _, _ => by simp
  | j :: l, env, env', e, h => by
    obtain ⟨e1, h1, h2⟩ := bnd e
    obtain ⟨k1, k2, rfl⟩ := putS_of h2
    have g := drop_io h1 h
    intro z
    rcases List.mem_cons.mp z with rfl | z
    · rw [← drop_keep h1 g] at h
      rw [isIo_of h] at k1
      cases k1
    · exact g z
theorem Sta.shrink {bor : List Nat} (S : Sta K B O I σ H env) (hb : ∀ i, i ∈ bor → ∃ ds, OwnAt env i ds) (e : dropAll bor env = some env') :
    Sub B I O (O.filter fun a => decide (a ∉ addrs σ bor)) ∧ Sta K B (O.filter fun a => decide (a ∉ addrs σ bor)) I σ H env' := by
  have sub : ∀ a, a ∈ O.filter (fun a => decide (a ∉ addrs σ bor)) → a ∈ O := fun a z => (List.mem_filter.mp z).1
  have own' : ∀ i ds, OwnAt env' i ds → i ∉ bor ∧ OwnAt env i ds := fun i ds z => by
    rcases z with z | z
    · obtain ⟨g1, g2⟩ := drop_get e z (by simp)
      exact ⟨g1, .inl g2⟩
    · obtain ⟨g1, g2⟩ := drop_get e z (by simp)
      exact ⟨g1, .inr g2⟩
  refine ⟨⟨fun a z y => List.mem_filter.mpr ⟨z, decide_eq_true fun w => ?_⟩, fun a z => .inl (sub a z)⟩, ?_⟩
  · obtain ⟨i, w1, w2⟩ := addrs_mem w
    obtain ⟨ds, w3⟩ := hb i w1
    obtain ⟨p, xs, k1, k2, k3, k4, k5⟩ := S.ow i ds w3
    rw [w2] at k1
    cases k1
    rcases y with y | y
    · exact y k5
    · obtain ⟨⟨j, p'⟩, y1, y2⟩ := List.mem_map.mp y
      cases y2
      obtain ⟨q1, es, q2⟩ := S.pin j _ y1
      have := S.sep i j ds es _ w3 (.inr q2) w2 q1
      subst this
      exact drop_io e q2 w1
  · refine ⟨by rw [drop_len e]; exact S.len, fun i d h => ?_, fun i ds h => ?_, fun i j ds es p hi hj a b => ?_, S.base, fun p hp => S.dom p (sub p hp), fun j p hj => ?_, ?_, fun p xs hp => S.nt p xs (sub p hp)⟩
    · obtain ⟨g1, g2⟩ := drop_get e h (by simp)
      obtain ⟨v, h1, h2⟩ := S.fz i d g2
      exact ⟨v, h1, Dq.mono (mi_sub sub) _ _ h2⟩
    · obtain ⟨g1, g2⟩ := own' i ds h
      obtain ⟨p, xs, k1, k2, k3, k4, k5⟩ := S.ow i ds g2
      refine ⟨p, xs, k1, List.mem_filter.mpr ⟨k2, decide_eq_true fun w => ?_⟩, k3, DqA.mono (mi_sub sub) _ _ k4, k5⟩
      obtain ⟨j, w1, w2⟩ := addrs_mem w
      obtain ⟨es, w3⟩ := hb j w1
      have := S.sep i j ds es p g2 w3 k1 w2
      subst this
      exact g1 w1
    · exact S.sep i j ds es p (own' i ds hi).2 (own' j es hj).2 a b
    · obtain ⟨q1, ds, q2⟩ := S.pin j p hj
      exact ⟨q1, ds, by rw [drop_keep e (drop_io e q2)]; exact q2⟩
    · refine NwOk.go S.nw (fun j w hj => ⟨(drop_get e hj (fun z => nomatch z)).2, rfl⟩) (fun j ds a hj e => .inl ⟨ds, (own' j ds hj).2, e⟩) (fun a g1 g2 _ g4 => ⟨List.mem_filter.mpr ⟨g1, decide_eq_true fun w => ?_⟩, g2, rfl⟩) (mi_sub sub) S.dom
      obtain ⟨j, w1, w2⟩ := addrs_mem w
      obtain ⟨es, w3⟩ := hb j w1
      exact g4 j es w3 w2
def fCallM (io : List Bool) (g : FF) (fa : AF) : EF := fun env => (fa env).bind fun a => (argD a.2 io a.1).bind fun x => if decide x.2.1.Nodup && decide (∀ i, i ∈ x.2.1 → i ∉ x.2.2) then (g x.1).bind fun r => (putOuts x.2.1 r.2.2 a.2).bind fun e => (resR r).bind fun z => if r.2.2.all (fun ds => x.2.2.isEmpty || noLs ds) then (dropAll x.2.2 e).bind fun e2 => some (z, e2) else none else none
theorem putOuts_own : ∀ {is : List Nat} {outs : List (List D)} {env env' : Env} {i : Nat} {ds : List D}, putOuts is outs env = some env' → OwnAt env i ds → ∃ es, OwnAt env' i es
  | [], outs, env, env', i, ds, e, h => by
    cases outs with
    | nil => cases e; exact ⟨ds, h⟩
    | cons a b => cases e
  | j :: is, outs, env, env', i, ds, e, h => by
    cases outs with
    | nil => cases e
    | cons a b =>
      obtain ⟨e1, h1, h2⟩ := bnd e
      obtain ⟨ds', es, k, o1, _, hk, o3, rfl⟩ := upO_of h1
      have hl : j < env.length := (List.getElem?_eq_some_iff.mp o3).1
      by_cases c : i = j
      · subst c
        refine putOuts_own (ds := es) h2 ?_
        unfold OwnAt
        rw [List.getElem?_set_self hl]
        rcases hk with rfl | rfl
        · exact .inl rfl
        · exact .inr rfl
      · exact putOuts_own h2 ((own_set c).mpr h)
theorem sndM_call {io : List Bool} {g : FF} {E : XK} {t : TA} {fa : AF} (h : SndA K t fa) : SndM K (tCall (spD K io g) [] E t) (fCallM io g fa) := by
  intro B O I σ H env rv env' S e Q q
  obtain ⟨⟨rs, env1⟩, e1, e⟩ := bnd e
  obtain ⟨⟨ds, ios, bor⟩, e2, e⟩ := bnd e
  dsimp only at e2 e
  split at e
  · rename_i hc
    rw [Bool.and_eq_true] at hc
    have hn : ios.Nodup := of_decide_eq_true hc.1
    have hdis : ∀ i, i ∈ ios → i ∉ bor := of_decide_eq_true hc.2
    obtain ⟨⟨r, fr, outs⟩, e3, e⟩ := bnd e
    obtain ⟨env2, e4, e⟩ := bnd e
    obtain ⟨z, e5, e⟩ := bnd e
    dsimp only at e4 e
    split at e
    · rename_i hl
      obtain ⟨env3, e6, e⟩ := bnd e
      cases e
      refine h B O I σ H env rs env1 S e1 _ fun vs H1 S1 P1 => ?_
      have hbo := lent_own (bs := io) e2
      obtain ⟨g1, g2, g3⟩ := args_ok S1 (bor := bor) (k := 0) P1 e2 (fun _ y => y) hdis hbo
      have g2' : ioA io vs = addrs σ ios := g2
      rw [List.append_nil]
      refine ⟨_, ds, r, fr, outs, g1, by rw [g2']; exact addrs_nodup S1 hn g3, fun p hp => S1.dom p (List.mem_filter.mp hp).1, fun p xs hp => S1.nt p xs (List.mem_filter.mp hp).1, e3, fun v H' R => ?_⟩
      rw [g2'] at R
      have hbo2 : ∀ i, i ∈ bor → ∃ ds, OwnAt env2 i ds := fun i y => by
        obtain ⟨ds, y1⟩ := hbo i y
        exact putOuts_own e4 y1
      cases fr with
      | false =>
        obtain ⟨o1, o2⟩ := R.old rfl
        obtain ⟨S2, l1, l2⟩ := called S1 hn g3 hdis hbo R.frame o1 hl e4
        have ez : rv = RV.val r := by
          unfold resR at e5
          cases r <;> cases e5 <;> rfl
        subst ez
        obtain ⟨s3, S3⟩ := S2.shrink hbo2 e6
        exact q _ _ _ s3 ⟨S3, o2⟩
      | true =>
        by_cases tp : isTp r = true
        · obtain ⟨p, qs, dss, rfl, rfl, hp', hnd, hfr, hls, o1⟩ := R.tw rfl tp
          have fr2 : ∀ a o, H1 a = some o → a ∉ addrs σ ios → mi H' qs a = some o := fun a o y1 y2 => mi_of (fun y => by
            rw [hfr a y] at y1
            cases y1) (R.frame a o y1 y2)
          obtain ⟨S2, l1, l2⟩ := called S1 hn g3 hdis hbo fr2 o1 hl e4
          have ez := resR_tw e5
          subst ez
          obtain ⟨s3, S3⟩ := S2.shrink hbo2 e6
          exact q _ _ _ s3 ⟨p, qs, rfl, hp', hnd, fun a ha => ⟨S1.base.free (hfr a ha), fun y => not_dom S1.dom (hfr a ha) (List.mem_filter.mp y).1⟩, S3, hls⟩
        obtain ⟨p, xs, rs', rfl, rfl, hp, hp', hx, o1⟩ := R.new rfl (Bool.eq_false_iff.mpr tp)
        have fr2 : ∀ a o, H1 a = some o → a ∉ addrs σ ios → mi H' [p] a = some o := fun a o y1 y2 => mi_of (fun y => by
          rw [List.mem_singleton] at y
          subst y
          rw [hp] at y1
          cases y1) (R.frame a o y1 y2)
        obtain ⟨S2, l1, l2⟩ := called S1 hn g3 hdis hbo fr2 o1 hl e4
        cases e5
        obtain ⟨s3, S3⟩ := S2.shrink hbo2 e6
        exact q _ _ _ s3 ⟨p, xs, rfl, hp', S1.base.free hp, fun y => not_dom S1.dom hp (List.mem_filter.mp y).1, S3, hx⟩
    · cases e
  · cases e
theorem ss_retM (h1 : SndM K te fe) : SndS K W (tRet te) (fRet fe) := by
  intro B O I σ H env o S e D k
  obtain ⟨⟨r1, env1⟩, e1, e⟩ := bnd e
  cases e
  exact h1 B O I σ H env r1 env1 S e1 _ fun O' v H1 s P1 => k.rt s P1
/-- a name that is given away -/
def fMv (i : Nat) : EF := fun env => match env[i]? with
  | some (.o1 ds) => (dropAll [i] env).bind fun e => some (.val (.lst ds), e)
  | _ => none
end
end Dv
namespace Dv
open PySem L2 PyProof.Rows
def mulB (i j : Int) : Bool := decide (i.natAbs.log2 + j.natAbs.log2 ≤ 134000000)
def divB (_ j : Int) : Bool := decide (j ≠ 0) && decide (j.natAbs.log2 < 9000)
def modB (_ j : Int) : Bool := decide (j ≠ 0)
def powB (i j : Int) : Bool := decide (0 ≤ j) && decide (((i.natAbs.log2 + 1 : Nat) : Int) * j ≤ 134217728)
theorem bits_le (x : Int) : Builtin.Int.intBits x ≤ x.natAbs.log2 + 1 := by
  unfold Builtin.Int.intBits
  split <;> omega
theorem mulB_ok {i j : Int} (h : mulB i j = true) : IntMulOk i j := by
  have h1 := bits_le i
  have h2 := bits_le j
  have h3 : i.natAbs.log2 + j.natAbs.log2 ≤ 134000000 := of_decide_eq_true h
  have e : bitsLine = 134217728 := by decide
  unfold IntMulOk
  intro z
  rw [Bool.and_eq_true] at z
  have z2 := z.2
  unfold Builtin.Int.intTooBig at z2
  have z3 := of_decide_eq_true z2
  rw [e] at z3
  omega
theorem powB_ok {i j : Int} (h : powB i j = true) : 0 ≤ j ∧ (Builtin.Int.intBits i : Int) * j ≤ 2 ^ 27 := by
  unfold powB at h
  rw [Bool.and_eq_true] at h
  have h1 := of_decide_eq_true h.1
  have h2 := of_decide_eq_true h.2
  refine ⟨h1, Int.le_trans (Int.mul_le_mul_of_nonneg_right ?_ h1) h2⟩
  exact Int.ofNat_le.mpr (bits_le i)
section
variable {X : Cx} {K : PySem.W.Frag}
def rMulI : R2 := rI IntMulOk fun i j => .int (i * j)
theorem opMulI : OpR X (binaryOp .Mult) rMulI := opI fun _ _ _ _ _ _ _ hc q => mul_int q hc
def rMulX : R2 := fun x y H Q => rMulI x y H Q ∨ rRep x y H Q
theorem o_mul : OpR X (binaryOp .Mult) rMulX := OpR.or opMulI op_rep
def gMul : G2 := fun d e => (gI mulB (fun i j => i * j) d e).or (gRep d e)
theorem q_mul : Op2 K rMulX gMul := Op2.or (op2_I fun _ _ h => mulB_ok h) op2_rep
/-- + : ints, lists, texts -/
def rCatS : R2 := fun x y H Q => ∃ i j, x = .str i ∧ y = .str j ∧ i.length + j.length ≤ sizeLine ∧ Q (.str (i ++ j)) H
def gCatS : G2
  | .str x, .str y => if x.length + y.length ≤ 10000000 then some (.val (.str (x ++ y))) else none
  | _, _ => none
theorem op2_catS : Op2 K rCatS gCatS := by
  intro B O I σ H env x y ra rb d e z P1 P2 e1 e2 ez Q q
  have d1 := P1.read e1
  have d2 := P2.read e2
  unfold gCatS at ez
  split at ez
  · cases d1
    cases d2
    split at ez
    · cases ez
      exact ⟨_, _, rfl, rfl, line_of (by assumption), q _ H ⟨P1.sta, .str _⟩⟩
    · cases ez
  · cases ez
def rAddI : R2 := rI0 fun i j => .int (i + j)
def rPlus : R2 := fun x y H Q => rAddI x y H Q ∨ (rCat x y H Q ∨ rCatS x y H Q)
theorem o_add : OpR X (binaryOp .Add) rPlus := OpR.or op_add (OpR.or op_cat op_add_str)
def gAdd : G2 := fun d e => (gI0 (fun i j => i + j) d e).or ((gCat d e).or (gCatS d e))
theorem q_add : Op2 K rPlus gAdd := Op2.or op2_I0 (Op2.or op2_cat op2_catS)
def gSub : G2 := gI0 fun i j => i - j
theorem o_sub : OpR X (binaryOp .Sub) (rI0 fun i j => .int (i - j)) := op_sub
theorem q_sub : Op2 K (rI0 fun i j => .int (i - j)) gSub := op2_I0
def rDivX : R2 := rI (fun _ j => j ≠ 0 ∧ j.natAbs.log2 < 9000) fun i j => .int (i.fdiv j)
theorem o_div : OpR X (binaryOp .FloorDiv) rDivX := opI fun _ _ _ _ _ _ _ hc q => floordiv_int hc.1 q (.inl (PyProof.noPylong_of_log2 hc.2))
def gDiv : G2 := gI divB fun i j => i.fdiv j
theorem q_div : Op2 K rDivX gDiv := op2_I fun i j h => by
  unfold divB at h
  rw [Bool.and_eq_true] at h
  exact ⟨of_decide_eq_true h.1, of_decide_eq_true h.2⟩
def gMod : G2 := gI modB fun i j => i.fmod j
theorem o_mod : OpR X (binaryOp .Mod) (rI (fun _ j => j ≠ 0) fun i j => .int (i.fmod j)) := op_modN
theorem q_mod : Op2 K (rI (fun _ j => j ≠ 0) fun i j => .int (i.fmod j)) gMod := op2_I fun i j h => of_decide_eq_true h
def rPowX : R2 := rI (fun i j => 0 ≤ j ∧ (Builtin.Int.intBits i : Int) * j ≤ 2 ^ 27) fun i j => .int (i ^ j.toNat)
theorem o_pow : OpR X (binaryOp .Pow) rPowX := opI fun _ _ _ _ _ _ _ hc q => pow_int hc.1 hc.2 q
def gPow : G2 := gI powB fun i j => i ^ j.toNat
theorem q_pow : Op2 K rPowX gPow := op2_I fun i j h => powB_ok h
/-- comparisons -/
def gLt : G2 := gIB fun i j => decide (i < j)
def gLe : G2 := gIB fun i j => decide (i ≤ j)
def gGt : G2 := gIB fun i j => decide (j < i)
def gGe : G2 := gIB fun i j => decide (j ≤ i)
theorem q_lt : Op2 K (rI0 fun i j => .bl (decide (i < j))) gLt := op2_IB
theorem q_le : Op2 K (rI0 fun i j => .bl (decide (i ≤ j))) gLe := op2_IB
theorem q_gt : Op2 K (rI0 fun i j => .bl (decide (j < i))) gGt := op2_IB
end
section
variable {X : Cx} {K : PySem.W.Frag}
def rIsBl : R2 := fun x y H Q => ∃ a b, x = .bl a ∧ y = .bl b ∧ Q (.bl (decide (a = b))) H
def rIsNo : R2 := fun x y H Q => y = .non ∧ Q (.bl (decide (x = .non))) H
def rNotBl : R2 := fun x y H Q => ∃ a b, x = .bl a ∧ y = .bl b ∧ Q (.bl (!decide (a = b))) H
def rNotNo : R2 := fun x y H Q => y = .non ∧ Q (.bl (!decide (x = .non))) H
def isNon : D → Bool
  | .non => true
  | _ => false
def gIsBl : G2
  | .bl a, .bl b => some (.val (.bl (decide (a = b))))
  | _, _ => none
def gIsNo : G2 := fun d e => match e with
  | .non => some (.val (.bl (isNon d)))
  | _ => none
def gNotBl : G2
  | .bl a, .bl b => some (.val (.bl (!decide (a = b))))
  | _, _ => none
def gNotNo : G2 := fun d e => match e with
  | .non => some (.val (.bl (!isNon d)))
  | _ => none
theorem isNon_v {H : Hp} {v : V} {d : D} (h : Dq K H v d) : decide (v = .non) = isNon d := by
  cases h <;> rfl
theorem q_isBl : Op2 K rIsBl gIsBl := by
  intro B O I σ H env x y ra rb d e z P1 P2 e1 e2 ez Q q
  have d1 := P1.read e1
  have d2 := P2.read e2
  unfold gIsBl at ez
  split at ez
  · cases d1
    cases d2
    cases ez
    exact ⟨_, _, rfl, rfl, q _ H ⟨P1.sta, .bl _⟩⟩
  · cases ez
theorem q_notBl : Op2 K rNotBl gNotBl := by
  intro B O I σ H env x y ra rb d e z P1 P2 e1 e2 ez Q q
  have d1 := P1.read e1
  have d2 := P2.read e2
  unfold gNotBl at ez
  split at ez
  · cases d1
    cases d2
    cases ez
    exact ⟨_, _, rfl, rfl, q _ H ⟨P1.sta, .bl _⟩⟩
  · cases ez
theorem q_isNo : Op2 K rIsNo gIsNo := by
  intro B O I σ H env x y ra rb d e z P1 P2 e1 e2 ez Q q
  have d1 := P1.read e1
  have d2 := P2.read e2
  unfold gIsNo at ez
  split at ez
  · cases d2
    cases ez
    exact ⟨rfl, by rw [isNon_v d1]; exact q _ H ⟨P1.sta, .bl _⟩⟩
  · cases ez
theorem q_notNo : Op2 K rNotNo gNotNo := by
  intro B O I σ H env x y ra rb d e z P1 P2 e1 e2 ez Q q
  have d1 := P1.read e1
  have d2 := P2.read e2
  unfold gNotNo at ez
  split at ez
  · cases d2
    cases ez
    exact ⟨rfl, by rw [isNon_v d1]; exact q _ H ⟨P1.sta, .bl _⟩⟩
  · cases ez
def rIs : R2 := fun x y H Q => rIsBl x y H Q ∨ rIsNo x y H Q
def rIsnt : R2 := fun x y H Q => rNotBl x y H Q ∨ rNotNo x y H Q
theorem o_is : OpR X (compareOp .Is) rIs := OpR.or op_is_bl op_isN
theorem o_isnt : OpR X (compareOp .IsNot) rIsnt := OpR.or op_isnot_bl op_notN
def gIs : G2 := fun d e => (gIsBl d e).or (gIsNo d e)
def gIsnt : G2 := fun d e => (gNotBl d e).or (gNotNo d e)
theorem q_is : Op2 K rIs gIs := Op2.or q_isBl q_isNo
theorem q_isnt : Op2 K rIsnt gIsnt := Op2.or q_notBl q_notNo
end
/-- turns enough for most loops -/
def sizeS : SV → Nat
  | .fz (.int i) => i.natAbs
  | .fz (.lst ds) => ds.length
  | .o1 ds => ds.length
  | .io ds => ds.length
  | _ => 0
def fuelE (env : Env) : Nat := (env.map sizeS).sum + 1
/-- a place where ways meet -/
def fCut (g : SFn) : SFn := g
theorem ss_cut {K : PySem.W.Frag} {W : WN} {t : TS} {g : SFn} (h : SndS K W t g) : SndS K W t (fCut g) := h
/-- what is never reached -/
def fNever : SFn := fun _ => none
theorem ss_never {K : PySem.W.Frag} {W : WN} : SndS K W tNever fNever := fun _ _ _ _ _ _ _ _ e => nomatch e
theorem mi_nil {H : Hp} : mi H [] = H := by
  funext a
  exact mi_out (by simp)
/-- a law that gives True at every script keeps its promise -/
theorem law_sp {K : PySem.W.Frag} {g : FF} {H : Hp} {a : Addr} {ns : List Int} {E : XK} (hg : g [.scr ns] = some (.bl true, false, [])) (hS : SqL K H a (ns.map V.int)) : spD K [false] g [.ref a] H (fun v _ => v = .bl true) E := by
  refine ⟨[], [.scr ns], .bl true, false, [], .val (.scr (by rw [mi_nil]; exact hS)) .nil, List.nodup_nil, (fun p h => nomatch h), (fun p xs h => nomatch h), hg, fun v H' R => ?_⟩
  have d := (R.old rfl).2
  cases d
  rfl
/-- a written tuple of two ints -/
theorem dq_pair {K : PySem.W.Frag} {a : Addr} {od : Option Addr} {n : Nat} {sl : Array (Option Value)} {i j : Int} {t u : Tok} (h : K.lookup a = some ⟨.type "tuple", od, .seq #[.int i t, .int j u] n, sl⟩) (G : Hp) : Dq K G (.ref a) (.tup [.int i, .int j]) :=
  .tup (xs := [.int i, .int j]) (.inr ⟨_, _, _, h, rfl, rfl, by show 2 ≤ sizeLine; decide, .cons ⟨t, rfl⟩ (.cons ⟨u, rfl⟩ .nil)⟩) (.cons (.int i) (.cons (.int j) .nil))
/-- nothing is refused -/
def W0 : WN := fun _ _ _ => False
/-- a def of the text keeps its promise, by its body -/
theorem ok_def {P : Program} {w : World} {K : PySem.W.Frag} {mg : Str → Option Value} {base : Heap} {x qual : Str} {st : Stmt} {f : Addr} {fd : FuncData} {N ps : List Str} {k : Nat} {io : List Bool} {b : SFn} (F : Fun K x qual st f fd) (S : FnScope N ps (defScope st)) (hl : io.length = ps.length)
    (hb : ∀ (cdv : Value) (A : Around) (outer : List PySem.Env) (s : Shared) (H : Hp) (E : XK), Room k (A.deeper (envOfC qual (defScope st) s.heap.objs.size f cdv)) →
      ∃ t, PSs (cxOf CX0 P w K mg base N qual (defScope st) f cdv A outer s H E).nox (defBody st) t ∧ SndS K W0 t b) : FnOk P w K mg base CX0 (k + 1) f fd ps (spD K io (fDef (N.length - io.length) io b)) := by
  refine F.ok S (fun vs H Q E h => ?_) (fun cdv A outer s H vs Q E hr h => ?_)
  · obtain ⟨O, ds, r, fr, outs, ha, _⟩ := h
    rw [ha.len, hl]
  · obtain ⟨t, h1, h2⟩ := hb cdv A outer s H E hr
    exact ⟨t, h1, body_ok h2 rfl h⟩
end Dv
namespace Dv
open PySem L2 PyProof.Rows
abbrev FX := List D → Option (Except Nat (D × Bool × List (List D)))
abbrev noIo (io : List Bool) : Prop := io.all (fun b => !b) = true
/-- the wish about refusals, by numbers -/
def wn (cl : Nat → Addr) (WX : L2.WX) : WN := fun n σ H => WX (.ref (cl n)) none σ H
section
variable {K : PySem.W.Frag} {B : Hp} {O : List Addr} {I : List (Nat × Addr)} {σ : L2.St} {H H' : Hp} {env env' : Env} {v : V} {t ta tb te : TE} {f fa fb fe : EF} {W : WN} {cl : Nat → Addr}
def SndX (K : PySem.W.Frag) (W : WN) (t : TE) (f : EF) : Prop := ∀ B O I σ H env rv env', Sta K B O I σ H env → f env = some (rv, env') →
  ∀ Q : VK, (∀ v H', Post K B O I σ H' env' v rv → Q v H') → (∀ n, rv = .ex n → ∀ H', Sta K B O I σ H' env' → W n σ H') → t σ H Q
def fCallX (io : List Bool) (g : FX) (fa : AF) : EF := fun env => (fa env).bind fun a => (argD a.2 io a.1).bind fun x => if x.2.1.isEmpty && io.all (fun b => !b) then (g x.1).bind fun r => match r with
  | .error n => some (.ex n, a.2)
  | .ok r => if r.2.2.isEmpty then (resR r).bind fun z => if lentOk x.2.2 z then some (z, a.2) else none else none
  else none
theorem SndX.of (h : Snd K t f) (hx : ∀ env n e, f env ≠ some (.ex n, e)) : SndX K W t f := fun B O I σ H env rv env' S e Q q _ => h B O I σ H env rv env' S e Q q
def fDropX (f : EF) : SFn := fun env => (f env).bind fun a => match a.1 with
  | .ex n => some (.rt (.ex n) a.2)
  | _ => some (.nx a.2)
def fAsgX (f : EF) (g : GF) : SFn := fun env => (f env).bind fun a => match a.1 with
  | .ex n => some (.rt (.ex n) a.2)
  | .val d => (g d a.2).bind fun e => some (.nx e)
  | .new ds => (g (.lst ds) a.2).bind fun e => some (.nx e)
  | _ => none
def fRaise (n : Nat) : SFn := fun env => some (.rt (.ex n) env)
def SndAt (K : PySem.W.Frag) (σ : L2.St) (t : TE) (f : EF) : Prop := ∀ B O I H env rv env', Sta K B O I σ H env → f env = some (rv, env') →
  ∀ Q : VK, (∀ v H', Post K B O I σ H' env' v rv → Q v H') → t σ H Q
theorem Snd.at (h : Snd K t f) : SndAt K σ t f := fun B O I H env rv env' => h B O I σ H env rv env'
def fTry (i : Nat) (ks : List Nat) (g : SFn) (h : Nat → EF) : SFn := fun env => (g env).bind fun o => match o with
  | .rt (.ex n) e => if n ∈ ks then (putS i .no e).bind fun e1 => (h n e1).bind fun a => match a.1 with
      | .ex _ => none
      | r => some (.rt r a.2)
    else none
  | o => some o
end
end Dv
namespace Dv
open PySem PySem.Spec PyProof.Rows L2 L2H HotX
end Dv
namespace Dv
open PySem PySem.Spec PyProof.Rows L2
section
variable {K : PySem.W.Frag} {Dc a : Addr}
/-- it is of the classes as told -/
def KitAll (K : PySem.W.Frag) (Dc : Addr) : List Addr → List Bool → Prop
  | [], [] => True
  | c :: cs, b :: bs => PySem.W.kitOne K (.ref Dc) (.ref c) = some b ∧ KitAll K Dc cs bs
  | _, _ => False
theorem KitAll.len : ∀ {cs : List Addr} {bs : List Bool}, KitAll K Dc cs bs → cs.length = bs.length
  | [], [], _ => rfl
  | c :: cs, b :: bs, h => by simp [KitAll.len h.2]
  | [], _ :: _, h => h.elim
  | _ :: _, [], h => h.elim
def pick : List Bool → List Str → List Str
  | b :: bs, w :: ws => if b then w :: pick bs ws else pick bs ws
  | _, _ => []
end
end Dv
theorem L2H.RoomH.units {k : Nat} {A : PySem.Around} (r : L2H.RoomH k A) : A.units + 64 < PySem.cLine := by have := r.un; omega
namespace Dv
open PySem PySem.Spec PyProof.Rows L2
section
variable {K : PySem.W.Frag} {B : Hp} {O : List Addr} {I : List (Nat × Addr)} {σ : L2.St} {H H' : Hp} {env env' : Env} {v : V} {t ta tb te : TE} {f fa fb fe : EF} {W : WN}
/-- isinstance of the refusal itself -/
def fIsE (i : Nat) (a : Addr) (b : Bool) : EF := fun env => match env[i]? with
  | some (.fz (.adr x)) => if x = a then some (.val (.bl b), env) else none
  | _ => none
/-- x.m(y), x a list, both stay -/
def isLst : D → Bool
  | .lst _ => true
  | _ => false
def fM1 (g : G2) (i : Nat) (fa : EF) : EF := fun env => (fVar i env).bind fun a => (deref a.2 a.1).bind fun w => if isLst w then (fa a.2).bind fun b => (deref b.2 a.1).bind fun x => (deref b.2 b.1).bind fun y => (g x y).bind fun z => some (z, b.2) else none
end
end Dv
namespace Big
open PySem PySem.Spec PyProof.Rows L2
abbrev kv (l : List Int) : Int × Int := (l.getD 0 0, l.getD 1 0)
section
variable {P : Program} {w : World} {A : Around} {E : Value → Shared → Prop} {s : Shared} {a : Addr} {L : List (Addr × List Int)} {es : Array (Int × Value)} {ep : Nat} {t : SetTable}
def rowAt (L : List (Addr × List Int)) : Value → Addr × List Int
  | .ref b => (L.find? fun p => p.1 == b).getD (b, [])
  | _ => (0, [])
theorem rowAt_of (one : ∀ q, q ∈ L → ∀ r, r ∈ L → q.1 = r.1 → q = r) {p : Addr × List Int} (hp : p ∈ L) : rowAt L (.ref p.1) = p := by
  unfold rowAt
  dsimp only
  cases h : L.find? (fun q => q.1 == p.1) with
  | none =>
    rw [List.find?_eq_none] at h
    exact absurd (h p hp) (by simp)
  | some q =>
    have h1 := List.find?_some h
    have h2 := List.mem_of_find?_eq_some h
    exact one q h2 p hp (by simpa using h1)
/-- iter(set) of a set that keeps its own order: no bound on its size -/
theorem iter_plain {Q : Value → Shared → Prop} (sa : SetAt s.heap a es ep t) (ft : t.fits es.size = true) (up : Ris t.place.toList) (pl : t.plain = true) (ld : w.params.followText "set-order" = true ∨ t.led = true)
    (go : ∀ s2 I, SetIt P w s a es s2 I → Q (.ref I) s2) : wpAny (model P w) A (pyIter (.ref a)) Q E s := by
  obtain ⟨ob, g0, g1, g2⟩ := id sa
  have ty : s.TypeIs (.ref a) "set" := ⟨ob, g0, g1⟩
  have ne : a ≠ s.heap.objs.size := Nat.ne_of_lt (Heap.lt_size g0)
  have two : ∀ b, b ∈ [s.heap.objs.size, a] → b = a ∨ s.heap.objs.size ≤ b := fun b hb => by
    rcases List.mem_cons.mp hb with z | z
    · exact Or.inr (by rw [z]; exact Nat.le_refl _)
    · exact Or.inl (List.mem_singleton.mp z)
  have nodraw : (!t.plain && decide (es.size > 1)) = false := by rw [pl]; rfl
  refine wpAny_pyIter_slot ty F.slot_set_iter (wpAny_call_entry F.slot_set_iter ty entry_s_iter ?_ (F.args_set_iter_1 _))
  unfold Builtin.«frozenset.__iter__»
  refine wpAny_bind (m := Builtin.Frozenset.slot0 "__iter__" _) (wpAny_of_eq (a := a) (by rfl) (wpAny_bind (m := Builtin.Frozenset.sizeOf a) ?_))
  unfold Builtin.Frozenset.sizeOf
  refine wpAny_bind (wpAny_setEntries_of g0 g2 ft (wpAny_pure ?_))
  first
    | refine wpAny_bind (setDrawn_at sa ft ?_)
    | refine wpAny_bind (wpAny_bind (setDrawn_at sa ft ?_))
  rw [nodraw, Bool.and_false]
  refine wp_if_neg (by simp) ?_
  first
    | refine wpAny_bind (wpAny_pure ?_)
    | refine wpAny_pure ?_
  refine wpAny_bind (wpAny_setEpoch_of g0 g2 ft (wpAny_bind (wpAny_newObj_type (wpAny_pure ⟨_, rfl, "set_iterator", _, ⟨_, Heap.get?_push_size _ rfl, rfl⟩, slot_si_next.lookup, ?_⟩))))
  cases tx : w.params.followText "set-order" with
  | true =>
    have pm := pick_perm (w.params.setOrder a ep) es
    refine go _ _ (SetIt.of (fun A1 h1 => walks_text (P := P) (ep := ep) h1 ne ft tx) (out := (pickOrder (w.params.setOrder a ep) es).toList.map (·.2)) (by rw [List.length_map, Array.length_toList]) (fun b o e => Heap.get?_push_of_some _ e) rfl rfl rfl (Nat.le_refl _) two (pm.map _) (fun j x q => by rw [List.getElem?_map, Array.getElem?_toList]; exact q)
      ⟨⟨_, Heap.get?_push_size _ rfl, rfl, rfl⟩, sa.at fun o e => Heap.get?_push_of_some _ e⟩)
  | false =>
    have led : t.led = true := ld.resolve_left (fun z => by rw [tx] at z; cases z)
    refine go _ _ (SetIt.of (fun A1 h1 => walks_led (P := P) (ep := ep) h1 ne ft up tx nodraw led) (out := es.toList.map (·.2)) (by rw [List.length_map, Array.length_toList]) (fun b o e => Heap.get?_push_of_some _ e) rfl rfl rfl (Nat.le_refl _) two (List.Perm.refl _) (fun j x q => by rw [List.getElem?_map, Array.getElem?_toList]; exact q)
      ⟨⟨_, Heap.get?_push_size _ rfl, rfl, rfl⟩, sa.at fun o e => Heap.get?_push_of_some _ e⟩)
abbrev noneList : Obj := { cls := .type "list", data := .seq ([] : List Value).toArray }
/-- its things as a list -/
theorem collect_plain {Q : List Value → Shared → Prop} (nh : A.handled = none) (sa : SetAt s.heap a es ep t) (ft : t.fits es.size = true) (most : es.size ≤ sizeLine) (up : Ris t.place.toList) (pl : t.plain = true) (ld : w.params.followText "set-order" = true ∨ t.led = true)
    (go : ∀ s2 out, (∀ b o, s.heap.get? b = some o → s2.heap.get? b = some o) → s.heap.objs.size ≤ s2.heap.objs.size → s2.gens = s.gens → s2.os = s.os → out.Perm (es.toList.map (·.2)) → Q out s2) : wpAny (model P w) A (collect (.ref a)) Q E s := by
  obtain ⟨ob, g0, g1, g2⟩ := id sa
  have nL : s.heap.objs.size ≠ a := Nat.ne_of_gt (Heap.lt_size g0)
  unfold collect
  refine wpAny_bind (wpAny_runValue (codeAny_builtin F.entry_proto_collect ?_))
  rw [Around.under_plainId F.plain_proto_collect _]
  show wpAny _ A.in1 (newList [] >>= _) _ _ s
  refine wpAny_bind (wpAny_newObj_type (wpAny_pure ⟨plainId_quiet F.plain_list_iadd _, codeAny_builtin F.entry_list_iadd ?_⟩))
  rw [Around.under_plainId F.plain_list_iadd _]
  have hL : (s.heap.push noneList).get? s.heap.objs.size = some noneList := Heap.get?_push_size _ rfl
  have sa1 : SetAt (s.heap.push noneList) a es ep t := sa.at fun o e => Heap.get?_push_of_some _ e
  have sz1 : (s.heap.push noneList).objs.size = s.heap.objs.size + 1 := size_push' _ _
  show wpAny _ A.in1 (Builtin.List.listExtendWith (.ref s.heap.objs.size) (.ref a) (.ref s.heap.objs.size)) _ _ { s with heap := s.heap.push noneList }
  unfold Builtin.List.listExtendWith
  refine wpAny_bind (wpAny_typeOf (T := "set") ⟨ob, Heap.get?_push_of_some _ g0, g1⟩ ?_)
  simp only [show Builtin.List.listSameRef (.ref s.heap.objs.size) (.ref a) = false by simp [Builtin.List.listSameRef, nL], show (Value.type "set" == Value.type "list") = false by decide, show (Value.type "set" == Value.type "tuple") = false by decide, Bool.or_false, Bool.false_eq_true, if_false]
  refine wpAny_bind (iter_plain (s := { s with heap := s.heap.push noneList }) sa1 ft up pl ld fun s2 I it => ?_)
  obtain ⟨fp, St, out, Pv, k2, q1, q2, q3, hI, hfp, pm, hW, hPv, st0⟩ := it
  have notf : s.heap.objs.size ∉ fp := fun m => by
    rcases hfp _ m with z | z
    · exact nL z
    · have z' : (s.heap.push noneList).objs.size ≤ s.heap.objs.size := z
      rw [sz1] at z'
      omega
  have ty2 : s2.TypeIs (.ref a) "set" := ⟨ob, k2 a ob (Heap.get?_push_of_some _ g0), g1⟩
  refine wpAny_bind (wpAny_holding ?_)
  unfold Builtin.List.listLengthHint
  refine wpAny_bind (wpAny_specialOf ty2 F.slot_set_len.lookup ?_)
  generalize hid : ("set.__len__" : String) = nm
  wp_delta
  rw [show splitId nm = some ("set", "__len__") from by subst hid; decide +kernel]
  subst hid
  refine wpAny_bind (wpAny_isInstance (b := true) ty2 sub_set_self ?_)
  show wpAny _ A.in1 (typeOf (.ref a) >>= _) _ _ s2
  refine wpAny_bind (wpAny_typeOf ty2 (wpAny_pure ?_))
  show wpAny _ A.in1 (rule "list.extend.makes-room" >>= _) _ _ s2
  refine wpAny_bind (wpAny_rule (wpAny_bind ?_))
  have hL2 := k2 _ _ hL
  show wpAny _ A.in1 (updateSeq s.heap.objs.size (·.push .none) >>= _) _ _ s2
  have hL3 := Heap.get?_update_self (Obj.mapSeq (·.push Value.none)) hL2 rfl
  have hL4 := Heap.get?_update_self (Obj.mapSeq (·.pop)) hL3 rfl
  refine wpAny_bind (wpAny_updateSeq hL2 rfl (wpAny_updateSeq hL3 rfl ?_))
  have rest : ∀ b o, b ≠ s.heap.objs.size → s2.heap.get? b = some o → ((s2.heap.update s.heap.objs.size (Obj.mapSeq (·.push Value.none))).update s.heap.objs.size (Obj.mapSeq (·.pop))).get? b = some o := fun b o nb e => by
    rw [Heap.get?_update_other _ _ (Ne.symm nb), Heap.get?_update_other _ _ (Ne.symm nb)]
    exact e
  have ln : out.length ≤ sizeLine := by rw [pm.length_eq, List.length_map, Array.length_toList]; exact most
  have Wk := hW A.in1 nh
  have st1 : St 0 ((s2.heap.update s.heap.objs.size (Obj.mapSeq (·.push Value.none))).update s.heap.objs.size (Obj.mapSeq (·.pop))) := Wk.frame 0 _ _ st0 fun b hb o e => rest b o (fun z => notf (z ▸ hb)) e
  refine wpAny_pure ⟨plainId_quiet F.plain_extend_loop _, codeAny_extend_loopS Wk.toS ln _ notf _ out.length 0 _ _ _ rfl (Nat.zero_le _) st1 hL4 (ItemsOf.nil Pv) fun s3 acc c mv hL5 hacc => ?_⟩
  show wpAny _ A (load s.heap.objs.size >>= _) _ _ s3
  refine wpAny_bind (wpAny_load hL5 ?_)
  have eo := items_out hacc hPv
  refine wpAny_pure (show Q acc.toList s3 from ?_)
  rw [eo]
  refine go s3 out (fun b o e => ?_) (Nat.le_of_lt (Heap.lt_size hL5)) (mv.gens.trans q1) (mv.os.trans q2) pm
  have lt : b < s.heap.objs.size := Heap.lt_size e
  have hI2 : s.heap.objs.size + 1 ≤ I := by rw [← sz1]; exact hI
  refine mv.heap b o (fun m => ?_) (rest b o (Nat.ne_of_lt lt) (k2 b o (Heap.get?_push_of_some _ e)))
  have m2 : b = s.heap.objs.size ∨ b = I := by
    rcases List.mem_cons.mp m with z | z
    · first
        | exact Or.inl z
        | exact Or.inr z
    · first
        | exact Or.inl (List.mem_singleton.mp z)
        | exact Or.inr (List.mem_singleton.mp z)
  have lt' : (b : Nat) < s.heap.objs.size := lt
  rcases m2 with z | z
  · rw [z] at lt'
    exact Nat.lt_irrefl _ lt'
  · rw [z] at lt'
    exact Nat.lt_irrefl _ (Nat.lt_of_lt_of_le lt' (Nat.le_of_succ_le hI2))
theorem sorted_set {Q : Value → Shared → Prop} (R : SetB P w s.heap a L es ep t) (most : L.length ≤ mostB) (hh : A.handled = none) (pr : ∀ p, p ∈ L → ∃ x y, p.2 = [x, y])
    (out : ∀ s' q (vs : List Value) (c : Nat) (N : List (Addr × List Int)), (∀ b o, s.heap.get? b = some o → s'.heap.get? b = some o) → s'.gens = s.gens → s'.os = s.os → s.heap.objs.size ≤ q →
      s'.heap.get? q = some (seqObj "list" vs.toArray c) → vs = N.map (fun r => Value.ref r.1) → N.Perm L → N.Pairwise (fun p r => SrtO.lexB (kv r.2) (kv p.2) = false) → Q (.ref q) s') :
    wpAny (model P w) A (call (.builtin "sorted") [.ref a]) Q E s := by
  obtain ⟨o, g0, g1, g2⟩ := R.stands
  have n0 := ent_len R.ent
  refine Calls.call_function_entry kind_sorted plain_sorted entry_sorted (args_sorted1 _) ?_
  unfold Builtin.«sorted»
  refine wpAny_bind (m := checkCount "sorted" 1 1 _) (wpAny_pure ?_)
  refine wpAny_bind (collect_plain (A := A.in1) hh ⟨o, g0, g1.1, g2⟩ R.fits (by rw [sizeLine_eq]; unfold mostB at most; omega) R.tb.up R.pln R.ld fun s1 vs k1 hz e1 e2 pm => ?_)
  have er : es.toList.map (·.2) = L.map fun q => Value.ref q.1 := by
    rw [R.ent]
    unfold rowsOf
    rw [List.map_map]
    rfl
  rw [er] at pm
  have one : ∀ q, q ∈ L → ∀ r, r ∈ L → q.1 = r.1 → q = r := fun q hq r hr e => by
    have a1 := R.tp q hq
    have a2 := R.tp r hr
    rw [e] at a1
    exact Prod.ext e (a1.inj a2)
  have lv : vs.length = L.length := by rw [pm.length_eq, List.length_map]
  have lz : vs.length ≤ sizeLine := by rw [sizeLine_eq]; unfold mostB at most; omega
  refine wpAny_bind (wpAny_newList ?_ lz)
  have hoL : (s1.heap.push (seqObj "list" vs.toArray 0)).get? s1.heap.objs.size = some (seqObj "list" vs.toArray 0) := Heap.get?_push_size _ rfl
  have pairs : ∀ v ∈ vs, Srt.IsPair (s1.heap.push (seqObj "list" vs.toArray 0)) v (kv (rowAt L v).2).1 (kv (rowAt L v).2).2 := fun v hv => by
    obtain ⟨q, hq, rfl⟩ := List.mem_map.mp (pm.mem_iff.mp hv)
    rw [rowAt_of one hq]
    obtain ⟨x, y, exy⟩ := pr q hq
    obtain ⟨u, items, n, b1, b2, b3, b4⟩ := R.tp q hq
    rw [exy] at b4 ⊢
    have b5 := Heap.get?_push_of_some (seqObj "list" vs.toArray 0) (k1 _ _ b1)
    have b6 := ints_of_items b4
    have : ∃ t1 t2, items = #[.int x t1, .int y t2] := by
      obtain ⟨l⟩ := items
      cases b6 with
      | cons i t1 b7 =>
        cases b7 with
        | cons j t2 b8 =>
          cases b8
          exact ⟨t1, t2, rfl⟩
    obtain ⟨t1, t2, rfl⟩ := this
    exact ⟨q.1, u, t1, t2, n, rfl, b5, b2, b3⟩
  refine wpAny_bind (wpAny_holding (wpAny_call_entry slot_list_sort ⟨_, hoL, rfl⟩ entry_list_sort (SrtO.list_sort_ord (s := { s1 with heap := s1.heap.push (seqObj "list" vs.toArray 0) }) (SrtO.swo_lex fun v => kv (rowAt L v).2) hoL lz (fun h2 => SrtO.pairs_sortableO (by omega) pairs fun o ho c => ?_) fun res r1 r2 => ⟨_, rfl, ?_⟩) (args_list_sort _)))
  · have e' : some o = some (seqObj "list" vs.toArray 0) := ho.symm.trans hoL
    cases e'
    exact absurd (Value.type.inj c) (by decide)
  · obtain ⟨c, hc⟩ := sortedHeap_at (vs := vs) (out := res.toArray) hoL
    have back : ∀ v ∈ res, Value.ref (rowAt L v).1 = v := fun v hv => by
      obtain ⟨q, hq, rfl⟩ := List.mem_map.mp (pm.mem_iff.mp (r2.perm.mem_iff.mp hv))
      rw [rowAt_of one hq]
    have e3 : res = (res.map (rowAt L)).map fun r => Value.ref r.1 := by
      rw [List.map_map]
      exact ((List.map_congr_left (g := id) back).trans (List.map_id res)).symm
    have e4 : (L.map fun q => Value.ref q.1).map (rowAt L) = L := by
      rw [List.map_map]
      exact (List.map_congr_left fun q hq => rowAt_of one hq).trans (List.map_id L)
    refine wpAny_pure ⟨_, rfl, out _ s1.heap.objs.size res c (res.map (rowAt L)) (fun b u e => ?_) e1 e2 hz hc e3 ?_ (List.pairwise_map.mpr r1)⟩
    · have q := k1 b u e
      have lt := Heap.lt_size q
      show (sortedHeap (s1.heap.push (seqObj "list" vs.toArray 0)) s1.heap.objs.size vs res.toArray).get? b = some u
      rw [sortedHeap_old (Nat.ne_of_lt lt) (by rw [size_push']; exact Nat.lt_succ_of_lt lt)]
      exact Heap.get?_push_of_some _ q
    · have := (r2.perm.trans pm).map (rowAt L)
      rw [e4] at this
      exact this
end
/-- the set at a, without what is in it -/
def SetB0 (P : Program) (w : World) (h : Heap) (a : Addr) (L : List (Addr × List Int)) : Prop := ∃ (es : Array (Int × Value)) (ep : Nat) (t : SetTable), (∃ o, h.get? a = some o ∧ o.ExactSet ∧ o.data = .set es ep t) ∧ es.toList = rowsOf P w L ∧ Tab t (hsh P w L) ∧ (L.map (·.2)).Nodup ∧ t.plain = true ∧
    (w.params.followText "set-order" = true ∨ t.led = true) ∧ L.length * 5 < t.mask * 3 ∧ L.length ≤ mostB
def SetBO (P : Program) (w : World) (a : Addr) (L : List (Addr × List Int)) : HO := .ext fun h => SetB0 P w h a L
theorem setBO_new {P : Program} {w : World} {H : Hp} {h : Heap} {a : Addr} {L : List (Addr × List Int)} (R : SetB0 P w h a L) : ObjOk P w H h a (SetBO P w a L) := by
  obtain ⟨es, ep, t, ⟨o, ho, r⟩, q⟩ := id R
  refine ⟨R, ⟨o, ho⟩, fun h1 h2 p k => ?_⟩
  obtain ⟨es', ep', t', ⟨o', ho', r'⟩, q'⟩ := (show SetB0 P w h1 a L from p)
  exact ⟨es', ep', t', ⟨o', k o' ho', r'⟩, q'⟩
section
variable {X : Cx}
def rSetB (K : PySem.W.Frag) (P : Program) (w : World) : List V → Hp → VK → Prop := fun xs H Q => ∃ (l : Addr) (ks : List (Addr × List Int)), xs = [V.ref l] ∧ SqL K H l (ks.map fun p => V.ref p.1) ∧ (∀ p, p ∈ ks → SqT K H p.1 (p.2.map V.int)) ∧ ks.length ≤ mostB ∧
  ∀ a L, H a = none → (∀ p, p ∈ L → p ∈ ks) → (∀ p, p ∈ ks → p.2 ∈ L.map (·.2)) → Q (.ref a) (upd H a (SetBO P w a L))
theorem cr_setB (hc : X.calm = true) (hu : X.A.units + 64 < cLine) : CallR X (.type "set") (rSetB X.K X.prog X.w) := by
  intro pins s σ H xs us Q I r h
  obtain ⟨l, ks, rfl, hl, hk, most, q⟩ := h
  rw [Vals.ref1 r]
  obtain ⟨its, rv, pl, hz⟩ := I.list hl
  have hn : H s.heap.objs.size = none := I.hok.fresh (Nat.le_refl _)
  refine set_of (P := X.prog) (w := X.w) ks (I.ok.hd hc) pl.isList (by simpa using refs_of_vals rv) (fun p hp => I.isT (hk p hp)) most (by omega) fun h2 tk L es ep t R g k => ?_
  refine ⟨.ref s.heap.objs.size, upd H s.heap.objs.size (SetBO X.prog X.w s.heap.objs.size L), I.laid (t' := tk) k (Nat.le_refl _) (setBO_new ⟨es, ep, t, R.stands, R.ent, R.tb, R.one, R.pln, R.ld, R.rm, Nat.le_trans g.len most⟩), rfl, q _ L hn (fun p hp => ?_) fun p hp => ?_⟩
  · exact List.mem_of_mem_take (g.sub p hp)
  · exact g.all p (by rw [List.take_length]; exact hp)
def rSortedB (K : PySem.W.Frag) (P : Program) (w : World) : List V → Hp → VK → Prop := fun vs H Q => ∃ (a : Addr) (L : List (Addr × List Int)), vs = [V.ref a] ∧ H a = some (SetBO P w a L) ∧ (∀ p, p ∈ L → SqT K H p.1 (p.2.map V.int)) ∧ (∀ p, p ∈ L → ∃ x y, p.2 = [x, y]) ∧
  ∀ (N : List (Addr × List Int)) (p : Addr), N.Perm L → (N.map (·.2)).Nodup → N.Pairwise (fun p r => SrtO.lexB (kv r.2) (kv p.2) = false) → H p = none → Q (.ref p) (upd H p (.lst (N.map fun q => V.ref q.1)))
theorem cr_sortedB (hc : X.calm = true) : CallR X (.builtin "sorted") (rSortedB X.K X.prog X.w) := by
  intro pins s σ H vs us Q I r h
  obtain ⟨a, L, rfl, ha, hk, pr, q⟩ := h
  obtain ⟨es, ep, t, y1, y2, y3, y4, y5, y6, y7, y8⟩ := (show SetB0 X.prog X.w s.heap a L from (I.hok a _ ha).1)
  have R : SetB X.prog X.w s.heap a L es ep t := ⟨y1, y2, y3, y4, fun p hp => I.isT (hk p hp), y5, y6, y7⟩
  rw [Vals.ref1 r]
  refine sorted_set R y8 (I.ok.hd hc) pr fun s' p vs c N k g o hp hg hout pm pw => ?_
  have hlen : (N.map fun q => V.ref q.1).length ≤ sizeLine := by
    rw [List.length_map, sizeLine_eq, pm.length_eq]
    unfold mostB at y8
    omega
  have hn : H p = none := I.hok.fresh hp
  have hv : Vals (N.map fun q => V.ref q.1) vs := by rw [hout]; exact vals_of_refs N
  have J : Inv X pins σ (upd H p (.lst (N.map fun q => V.ref q.1))) { s with heap := s'.heap, gens := s'.gens, drawn := s'.drawn, toks := s'.toks } :=
    I.call (ch := []) (Un.laid k hp hn) (I.hok.laid k hp ⟨hlen, vs, c, hv, hg⟩) (by rw [g]; exact I.bare) (fun _ z => nomatch z)
  have e : s' = { s with heap := s'.heap, gens := s'.gens, drawn := s'.drawn, toks := s'.toks } := by
    cases s'
    cases s
    cases o
    rfl
  rw [e]
  exact ⟨.ref p, _, J, rfl, q N p pm ((pm.map (·.2)).nodup_iff.mpr R.one) pw hn⟩
end
end Big
namespace Dv
open PySem L2
abbrev ltP2 (p q : Int × Int) : Prop := p.1 < q.1 ∨ (p.1 = q.1 ∧ p.2 < q.2)
instance (p q : Int × Int) : Decidable (ltP2 p q) := by unfold ltP2; infer_instance
def insP (p : Int × Int) : List (Int × Int) → List (Int × Int)
  | [] => [p]
  | q :: l => if p = q then q :: l else if ltP2 p q then p :: q :: l else q :: insP p l
def srtP (l : List (Int × Int)) : List (Int × Int) := l.foldr insP []
theorem mem_insP {p x : Int × Int} : ∀ {l : List (Int × Int)}, x ∈ insP p l ↔ x = p ∨ x ∈ l
  | [] => by simp [insP]
  | q :: l => by
    unfold insP
    split
    · rename_i h
      subst h
      simp
    · split
      · simp
      · rw [List.mem_cons, mem_insP, List.mem_cons]
        constructor
        · rintro (h | h | h)
          · exact .inr (.inl h)
          · exact .inl h
          · exact .inr (.inr h)
        · rintro (h | h | h)
          · exact .inr (.inl h)
          · exact .inl h
          · exact .inr (.inr h)
theorem mem_srtP {x : Int × Int} : ∀ {l : List (Int × Int)}, x ∈ srtP l ↔ x ∈ l
  | [] => by simp [srtP]
  | p :: l => by
    show x ∈ insP p (srtP l) ↔ _
    rw [mem_insP, mem_srtP, List.mem_cons]
theorem ltP2_tri {p q : Int × Int} (h1 : p ≠ q) (h2 : ¬ ltP2 p q) : ltP2 q p := by
  have : ¬ (p.1 = q.1 ∧ p.2 = q.2) := fun z => h1 (Prod.ext z.1 z.2)
  unfold ltP2 at *
  omega
theorem ltP2_trans {p q r : Int × Int} (h1 : ltP2 p q) (h2 : ltP2 q r) : ltP2 p r := by
  unfold ltP2 at *
  omega
theorem ltP2_irr {p : Int × Int} : ¬ ltP2 p p := by
  unfold ltP2
  omega
abbrev StrP (l : List (Int × Int)) : Prop := l.Pairwise ltP2
theorem str_insP {p : Int × Int} : ∀ {l : List (Int × Int)}, StrP l → StrP (insP p l)
  | [], _ => List.pairwise_singleton _ _
  | q :: l, h => by
    have h0 := List.pairwise_cons.mp h
    unfold insP
    split
    · exact h
    · rename_i h1
      split
      · rename_i h2
        refine List.pairwise_cons.mpr ⟨fun x hx => ?_, h⟩
        rcases List.mem_cons.mp hx with z | z
        · rw [z]
          exact h2
        · exact ltP2_trans h2 (h0.1 x z)
      · rename_i h2
        refine List.pairwise_cons.mpr ⟨fun x hx => ?_, str_insP h0.2⟩
        rcases mem_insP.mp hx with z | z
        · rw [z]
          exact ltP2_tri h1 h2
        · exact h0.1 x z
theorem str_srtP : ∀ (l : List (Int × Int)), StrP (srtP l)
  | [] => List.Pairwise.nil
  | p :: l => str_insP (str_srtP l)
/-- two such lists with the same things in them are one -/
theorem str_uniq : ∀ {l m : List (Int × Int)}, StrP l → StrP m → (∀ x, x ∈ l ↔ x ∈ m) → l = m
  | [], [], _, _, _ => rfl
  | [], q :: m, _, _, h => absurd ((h q).mpr List.mem_cons_self) (by simp)
  | p :: l, [], _, _, h => absurd ((h p).mp List.mem_cons_self) (by simp)
  | p :: l, q :: m, h1, h2, h => by
    have a1 := List.pairwise_cons.mp h1
    have a2 := List.pairwise_cons.mp h2
    have e : p = q := by
      rcases List.mem_cons.mp ((h p).mp List.mem_cons_self) with z | z
      · exact z
      · rcases List.mem_cons.mp ((h q).mpr List.mem_cons_self) with y | y
        · exact y.symm
        · exact absurd (ltP2_trans (a2.1 p z) (a1.1 q y)) ltP2_irr
    subst e
    rw [str_uniq a1.2 a2.2 fun x => ⟨fun hx => ?_, fun hx => ?_⟩]
    · rcases List.mem_cons.mp ((h x).mp (List.mem_cons_of_mem _ hx)) with z | z
      · exact absurd (z ▸ a1.1 x hx) ltP2_irr
      · exact z
    · rcases List.mem_cons.mp ((h x).mpr (List.mem_cons_of_mem _ hx)) with z | z
      · exact absurd (z ▸ a2.1 x hx) ltP2_irr
      · exact z
def pD (p : Int × Int) : D := .tup [.int p.1, .int p.2]
def pairsD : List D → Option (List (Int × Int))
  | [] => some []
  | .tup [.int x, .int y] :: r => (pairsD r).bind fun ps => some ((x, y) :: ps)
  | _ => none
theorem pairsD_map : ∀ ps : List (Int × Int), pairsD (ps.map pD) = some ps
  | [] => rfl
  | p :: ps => by
    show (pairsD (ps.map pD)).bind _ = _
    rw [pairsD_map ps]
    rfl
theorem pairsD_eq : ∀ {ds : List D} {ps : List (Int × Int)}, pairsD ds = some ps → ds = ps.map pD
  | [], _, h => by cases h; rfl
  | d :: ds, ps, h => by
    unfold pairsD at h
    split at h
    · cases h
      contradiction
    · rename_i r hr
      cases hr
      obtain ⟨qs, e1, e2⟩ := bnd h
      cases e2
      rw [pairsD_eq e1]
      rfl
    · cases h
def gSortSet : GB
  | [.lst ds] => (pairsD ds).bind fun ps => if ps.length ≤ 9900 then some (.new ((srtP ps).map pD)) else none
  | _ => none
section
variable {K : PySem.W.Frag} {B : Hp} {O : List Addr} {I : List (Nat × Addr)} {σ : L2.St} {H H' G : Hp} {env env' : Env} {v : V}
theorem rows_of : ∀ {ps : List (Int × Int)} {xs : List V}, DqA K G xs (ps.map pD) → ∃ ks : List (Addr × List Int), xs = ks.map (fun p => V.ref p.1) ∧ (∀ p, p ∈ ks → SqT K G p.1 (p.2.map V.int)) ∧ ks.map (·.2) = ps.map fun p => [p.1, p.2]
  | [], xs, h => by
    cases h
    exact ⟨[], rfl, (fun p hp => nomatch hp), rfl⟩
  | p :: ps, xs, h => by
    cases h with
    | cons h1 h2 =>
      obtain ⟨ks, e1, e2, e3⟩ := rows_of h2
      unfold pD at h1
      cases h1 with
      | @tup a us _ h3 h4 =>
        have h5 : us = [V.int p.1, V.int p.2] := DqA.isInts (ns := [p.1, p.2]) h4
        subst h5
        refine ⟨(a, [p.1, p.2]) :: ks, by rw [e1]; rfl, fun q hq => ?_, by rw [List.map_cons, e3]; rfl⟩
        rcases List.mem_cons.mp hq with z | z
        · rw [z]
          exact h3
        · exact e2 q z
theorem dqa_rows : ∀ {N : List (Addr × List Int)} {qs : List (Int × Int)}, (∀ p, p ∈ N → SqT K G p.1 (p.2.map V.int)) → N.map (·.2) = qs.map (fun p => [p.1, p.2]) → DqA K G (N.map fun p => V.ref p.1) (qs.map pD)
  | [], [], _, _ => .nil
  | [], q :: qs, _, h => by cases h
  | p :: N, [], _, h => by cases h
  | p :: N, q :: qs, h, e => by
    rw [List.map_cons, List.map_cons, List.cons.injEq] at e
    have h0 := h p List.mem_cons_self
    rw [e.1] at h0
    exact .cons (.tup h0 (.cons (.int _) (.cons (.int _) .nil))) (dqa_rows (fun r hr => h r (List.mem_cons_of_mem _ hr)) e.2)
theorem snd_sortSet {P : Program} {w : World} {t : TA} {fa : AF} (h1 : SndA K t fa) : Snd K (tCB (Big.rSortedB K P w) (tCons (tCB (Big.rSetB K P w) t) tNil)) (fB gSortSet fa) := by
  intro B O I σ H env rv env' S e Q q
  obtain ⟨⟨r1, env1⟩, e1, e⟩ := bnd e
  obtain ⟨x, ex, e⟩ := bnd e
  obtain ⟨z, ez, e⟩ := bnd e
  cases e
  refine h1 B O I σ H env r1 env1 S e1 _ fun vs H1 S1 P1 => ?_
  unfold gSortSet at ez
  split at ez
  · obtain ⟨v, r, rfl, P2, e2⟩ := one_of P1 ex
    obtain ⟨p1, xs, rfl, h3, k1⟩ := P2.items e2
    obtain ⟨ps, e3, e4⟩ := bnd ez
    split at e4
    · rename_i most
      cases e4
      rw [pairsD_eq e3] at k1
      obtain ⟨ks, f1, f2, f3⟩ := rows_of k1
      subst f1
      have lk : ks.length = ps.length := by
        have := congrArg List.length f3
        simpa using this
      have pr : ∀ p, p ∈ ks → ∃ x y, p.2 = [x, y] := fun p hp => by
        have m : p.2 ∈ ks.map (·.2) := List.mem_map.mpr ⟨p, hp, rfl⟩
        rw [f3] at m
        obtain ⟨r, _, e⟩ := List.mem_map.mp m
        exact ⟨_, _, e.symm⟩
      refine ⟨p1, ks, rfl, .inl (.inl h3), fun p hp => sqT_mono mi_same (f2 p hp), by rw [lk]; exact most, fun a L hn sub all => ?_⟩
      refine ⟨a, L, rfl, upd_same, fun p hp => sqT_mono (same_new hn) (sqT_mono mi_same (f2 p (sub p hp))), fun p hp => pr p (sub p hp), fun N b pm nd pw hb => ?_⟩
      have hb1 : H1 b = none := (same_new hn).free hb
      refine q _ _ ⟨b, _, rfl, upd_same, S1.base.free hb1, fun z => ?_, by rw [mi_one_new hb]; exact S1.grow (same_new hn), ?_⟩
      · obtain ⟨o, ho⟩ := S1.dom b z
        rw [hb1] at ho
        cases ho
      · rw [mi_one_new hb]
        refine dqa_rows (fun p hp => sqT_mono (mi_mono (same_new hn)) (f2 p (sub p (pm.mem_iff.mp hp)))) ?_
        have prN : ∀ p, p ∈ N → p.2 = [(Big.kv p.2).1, (Big.kv p.2).2] := fun p hp => by
          obtain ⟨x, y, e⟩ := pr p (sub p (pm.mem_iff.mp hp))
          rw [e]
          rfl
        have f4 : N.map (fun p => Big.kv p.2) = srtP ps := by
          refine str_uniq ?_ (str_srtP ps) fun x => ?_
          · refine List.pairwise_map.mpr ?_
            have nd2 : N.Pairwise fun p r => p.2 ≠ r.2 := List.pairwise_map.mp nd
            refine List.Pairwise.imp_of_mem (fun {p r} hp hr h => ?_) (nd2.and pw)
            have := SrtO.lexB_no.mp h.2
            have ne : Big.kv p.2 ≠ Big.kv r.2 := fun z => h.1 (by rw [prN p hp, prN r hr, z])
            refine Classical.byContradiction fun y => this ?_
            exact ltP2_tri ne y
          · rw [mem_srtP, List.mem_map]
            constructor
            · rintro ⟨p, hp, rfl⟩
              have m : p.2 ∈ ks.map (·.2) := List.mem_map.mpr ⟨p, sub p (pm.mem_iff.mp hp), rfl⟩
              rw [f3] at m
              obtain ⟨r, hr, e⟩ := List.mem_map.mp m
              rw [← e]
              exact hr
            · intro hx
              have m : [x.1, x.2] ∈ ks.map (·.2) := by
                rw [f3]
                exact List.mem_map.mpr ⟨x, hx, rfl⟩
              obtain ⟨p, hp, e⟩ := List.mem_map.mp m
              obtain ⟨r, hr, e5⟩ := List.mem_map.mp (all p hp)
              exact ⟨r, pm.mem_iff.mpr hr, by rw [e5, e]; rfl⟩
        rw [← f4, List.map_map]
        exact List.map_congr_left prN
    · cases e4
  · cases ez
end
theorem gSortSet_L (xs : List (Int × Int)) : gSortSet [.lst (xs.map fun p => D.tup [.int p.1, .int p.2])] = if xs.length ≤ 9900 then some (.new ((srtP xs).map fun p => D.tup [.int p.1, .int p.2])) else none := by
  show (pairsD (xs.map pD)).bind _ = _
  rw [pairsD_map]
  rfl
end Dv
namespace Dv
open PySem L2
section
variable {K : PySem.W.Frag} {te ta : TE} {fe fa : EF}
def gSlT : GS := fun d lo hi => match d with
  | .tup ds => some (.val (.tup (cutD ds lo hi)))
  | _ => none
theorem os_tup : OpS K (rSlA K) gSlT := by
  intro B O I σ H env x ra d lo hi z P e ez Q q
  unfold gSlT at ez
  split at ez
  · cases ez
    obtain ⟨p, xs, rfl, h1, k1⟩ := P.tuple e
    refine ⟨p, xs, rfl, h1, fun hw => ?_, fun _ l hl => q _ _ (post_tup P.sta hl k1.cut)⟩
    rename_i ds
    have e2 : cutD ds lo hi = ds := by
      have := k1.length
      unfold cutD
      rw [← this, hw.1, hw.2, List.drop_zero, Nat.sub_zero, this, List.take_length]
    rw [e2] at q
    cases ra with
    | ex n => exact False.elim P
    | val d' =>
      cases e
      exact q _ _ P
    | slot i =>
      obtain ⟨es, e1, _⟩ := ownAt_of e
      cases e1
    | new es => cases e
    | tw dss =>
      cases e
      exact q _ _ P.frz
  · cases ez
def gRevL : G1
  | .lst ds => some (.new ds.reverse)
  | _ => none
def rRevL (K : PySem.W.Frag) : V → Hp → VK → Prop := fun x H1 Q => ∃ a xs, x = .ref a ∧ SqL K H1 a xs ∧ ∀ p, H1 p = none → Q (.ref p) (upd H1 p (.lst xs.reverse))
theorem op1_revL : Op1 K (rRevL K) gRevL := by
  intro B O I σ H env x ra d z P e ez Q q
  unfold gRevL at ez
  split at ez
  · cases ez
    obtain ⟨p, xs, rfl, h1, k1⟩ := P.items e
    exact ⟨p, xs, rfl, .inl (.inl h1), fun l hl => q _ _ (post_new P.sta hl k1.reverse)⟩
  · cases ez
theorem snd_revL (h : Snd K ta fa) : Snd K (tRevL K ta) (f1 gRevL fa) := snd_1 (r := rRevL K) h op1_revL
def maxL : List Int → Option Int
  | [] => none
  | n :: r => some (r.foldl max n)
/-- f(new), f changes it -/
def fCallN (g : FF) (fe : EF) : EF := fun env => (fe env).bind fun a => match a.1 with
  | .new ds => (g [.lst ds]).bind fun r => (resR r).bind fun z => some (z, a.2)
  | _ => none
def fOwnV (i : Nat) (f : EF) : SFn := fun env => (f env).bind fun a => match a.1 with
  | .new ds => (putS i (.o1 ds) a.2).bind fun e => some (.nx e)
  | .val d => (gfName i d a.2).bind fun e => some (.nx e)
  | _ => none
def mergeS : SV → SV → SV
  | .o1 _, .o1 b => .o1 b
  | .io _, .io b => .io b
  | .nw _, .nw b => .nw b
  | .nw _, _ => .no
  | .o1 _, _ => .no
  | .io _, _ => .no
  | a, _ => a
def ownNoL : SV → Bool
  | .o1 ds => noLs ds
  | .io ds => noLs ds
  | .nw _ => false
  | _ => true
def noR : RV → Bool
  | .val d => noL d
  | .new ds => noLs ds
  | .tw dss => dss.all noLs
  | _ => false
def fLend (i : Nat) (f : EF) : EF := fun env => match env[i]? with
  | some (.o1 ds) => (f (env.set i (.fz (.lst ds)))).bind fun a => if a.2.all ownNoL && noR a.1 then some (a.1, (List.zipWith mergeS env a.2).set i (.o1 ds)) else none
  | _ => none
end
end Dv
namespace Dv
open PySem L2
def kVal (kvs : List (List Int × D)) (k : List Int) : Option D := (kvs.find? fun kv => decide (kv.1 = k)).map (·.2)
def kPut (kvs : List (List Int × D)) (k : List Int) (d : D) : List (List Int × D) := if (kvs.any fun kv => decide (kv.1 = k)) = true then kvs.map (fun kv => if kv.1 = k then (kv.1, d) else kv) else kvs ++ [(k, d)]
abbrev keyI (k : List Int) : List L2.Key := k.map Sum.inl
theorem keyI_inj : ∀ {a b : List Int}, keyI a = keyI b → a = b
  | [], [], _ => rfl
  | [], _ :: _, h => by cases h
  | _ :: _, [], h => by cases h
  | x :: a, y :: b, h => by
    have h' : Sum.inl x :: keyI a = (Sum.inl y :: keyI b : List L2.Key) := h
    injection h' with h1 h2
    injection h1 with h1
    rw [h1, keyI_inj h2]
theorem keyI_kV : ∀ k : List Int, (keyI k).map kV = k.map V.int
  | [] => rfl
  | x :: k => by
    show kV (Sum.inl x) :: (keyI k).map kV = _
    rw [keyI_kV k]
    rfl
section
variable {K : PySem.W.Frag} {G : Hp}
theorem DqK.val : ∀ {ks : List (List L2.Key × V)} {kvs : List (List Int × D)} (k : List Int), DqK K G ks kvs → (valV ks (keyI k) = none ∧ kVal kvs k = none) ∨ ∃ v d, valV ks (keyI k) = some v ∧ kVal kvs k = some d ∧ Dq K G v d
  | [], [], k, _ => .inl ⟨rfl, rfl⟩
  | [], _ :: _, _, h => h.elim
  | _ :: _, [], _, h => h.elim
  | p :: ks, q :: kvs, k, h => by
    obtain ⟨h1, h2, h3⟩ := h
    by_cases c : q.1 = k
    · refine .inr ⟨p.2, q.2, ?_, ?_, h2⟩
      · exact valV_pos (by rw [h1, c])
      · unfold kVal
        rw [List.find?_cons_of_pos (by simpa using c)]
        rfl
    · have e1 : valV (p :: ks) (keyI k) = valV ks (keyI k) := valV_neg (fun z => c (keyI_inj (by rw [← z, h1])))
      have e2 : kVal (q :: kvs) k = kVal kvs k := by
        unfold kVal
        rw [List.find?_cons_of_neg (by simpa using c)]
      rw [e1, e2]
      exact DqK.val k h3
theorem DqK.any : ∀ {ks : List (List L2.Key × V)} {kvs : List (List Int × D)} (k : List Int), DqK K G ks kvs → (ks.any fun kv => decide (kv.1 = keyI k)) = kvs.any fun kv => decide (kv.1 = k)
  | [], [], k, _ => rfl
  | [], _ :: _, _, h => h.elim
  | _ :: _, [], _, h => h.elim
  | p :: ks, q :: kvs, k, h => by
    obtain ⟨h1, h2, h3⟩ := h
    rw [List.any_cons, List.any_cons, DqK.any k h3, h1]
    congr 1
    by_cases c : q.1 = k
    · rw [decide_eq_true c, decide_eq_true (by rw [c])]
    · rw [decide_eq_false c, decide_eq_false (fun z => c (keyI_inj z))]
theorem DqK.maps {v : V} {d : D} (hv : Dq K G v d) : ∀ {ks : List (List L2.Key × V)} {kvs : List (List Int × D)} (k : List Int), DqK K G ks kvs → DqK K G (ks.map fun kv => if kv.1 = keyI k then (kv.1, v) else kv) (kvs.map fun kv => if kv.1 = k then (kv.1, d) else kv)
  | [], [], k, _ => trivial
  | [], _ :: _, _, h => h.elim
  | _ :: _, [], _, h => h.elim
  | p :: ks, q :: kvs, k, h => by
    obtain ⟨h1, h2, h3⟩ := h
    rw [List.map_cons, List.map_cons]
    have t := DqK.maps hv k h3
    by_cases c : q.1 = k
    · rw [if_pos c, if_pos (by rw [h1, c])]
      exact ⟨h1, hv, t⟩
    · rw [if_neg c, if_neg (fun z => c (keyI_inj (by rw [← z, h1])))]
      exact ⟨h1, h2, t⟩
theorem DqK.snoc {v : V} {d : D} (hv : Dq K G v d) (k : List Int) : ∀ {ks : List (List L2.Key × V)} {kvs : List (List Int × D)}, DqK K G ks kvs → DqK K G (ks ++ [(keyI k, v)]) (kvs ++ [(k, d)])
  | [], [], _ => ⟨rfl, hv, trivial⟩
  | [], _ :: _, h => h.elim
  | _ :: _, [], h => h.elim
  | p :: ks, q :: kvs, h => ⟨h.1, h.2.1, DqK.snoc hv k h.2.2⟩
theorem DqK.put {v : V} {d : D} {ks : List (List L2.Key × V)} {kvs : List (List Int × D)} (k : List Int) (h : DqK K G ks kvs) (hv : Dq K G v d) : DqK K G (putK ks (keyI k) v) (kPut kvs k d) := by
  unfold putK kPut
  rw [h.any k]
  split
  · exact DqK.maps hv k h
  · exact DqK.snoc hv k h
theorem DqK.len : ∀ {ks : List (List L2.Key × V)} {kvs : List (List Int × D)}, DqK K G ks kvs → ks.length = kvs.length
  | [], [], _ => rfl
  | [], _ :: _, h => h.elim
  | _ :: _, [], h => h.elim
  | _ :: _, _ :: _, h => by
    rw [List.length_cons, List.length_cons, DqK.len h.2.2]
end
/-- what can be a key -/
def keyD : D → Option (List Int)
  | .nt ds => allInts ds
  | _ => none
theorem keyD_of {K : PySem.W.Frag} {G : Hp} {v : V} {d : D} {k : List Int} (h : Dq K G v d) (e : keyD d = some k) : ∃ b, v = .ref b ∧ G b = some (.tup ((keyI k).map kV)) := by
  cases d with
  | nt ds =>
    cases h with
    | nt h1 h2 =>
      have e1 := allInts_eq e
      subst e1
      rw [h2.isInts] at h1
      rw [keyI_kV]
      exact ⟨_, rfl, h1⟩
  | _ => cases e
section
variable {K : PySem.W.Frag} {B : Hp} {O : List Addr} {I : List (Nat × Addr)} {σ : L2.St} {H H' : Hp} {env env' : Env} {v : V} {t ta tb te tk tx : TE} {f fa fb fe fk fx : EF} {W : WN}
/-- a dict, by its name -/
theorem Sta.dct (S : Sta K B O I σ H env) {i : Nat} {kvs : List (List Int × D)} (h : env[i]? = some (.nw (.dct kvs))) : ∃ p ks, σ[i]? = some (some (.ref p)) ∧ p ∈ O ∧ B p = none ∧ H p = some (.dT ks) ∧ DqK K (mi H O) ks kvs := by
  obtain ⟨p, a1, ⟨ks, a2, a3⟩, _, a4, _⟩ := S.nw i _ h
  have := a4 p adsOf_self
  exact ⟨p, ks, a1, this.1, this.2, a2, a3⟩
/-- a dict is changed in its place -/
theorem Sta.upD (S : Sta K B O I σ H env) {i : Nat} {kvs kvs' : List (List Int × D)} {p : Addr} {ks ks' : List (List L2.Key × V)} (h : env[i]? = some (.nw (.dct kvs))) (hs : σ[i]? = some (some (.ref p))) (hp : H p = some (.dT ks)) (hk : DqK K (mi H O) ks' kvs') :
    Sta K B O I σ (upd H p (.dT ks')) (env.set i (.nw (.dct kvs'))) := by
  obtain ⟨p', a1, a2, a3, a4, a5, a6⟩ := S.nw i _ h
  rw [hs] at a1
  cases a1
  have pO := a4 p adsOf_self
  have hi : i < env.length := (List.getElem?_eq_some_iff.mp h).1
  have hm : mi (upd H p (.dT ks')) O = mi H O := mi_upd_in pO.1
  have get : ∀ j, j ≠ i → (env.set i (SV.nw (.dct kvs')))[j]? = env[j]? := fun j c => List.getElem?_set_ne (Ne.symm c)
  have ne : ∀ j ds, OwnAt (env.set i (SV.nw (.dct kvs'))) j ds → j ≠ i ∧ OwnAt env j ds := fun j ds z => by
    by_cases c : j = i
    · subst c
      unfold OwnAt at z
      rw [List.getElem?_set_self hi] at z
      rcases z with z | z <;> cases z
    · exact ⟨c, (own_set c).mp z⟩
  refine ⟨by simp [S.len], fun j d hj => ?_, fun j ds hj => ?_, fun j l ds es q hj hl e1 e2 => S.sep j l ds es q (ne j ds hj).2 (ne l es hl).2 e1 e2, fun a o ha => ?_, fun q hq => ?_, fun j q hj => ?_, fun j w hj => ?_, fun q xs hq => ?_⟩
  · rw [hm]
    by_cases c : j = i
    · subst c
      rw [List.getElem?_set_self hi] at hj
      cases hj
    · rw [get j c] at hj
      exact S.fz j d hj
  · rw [hm]
    obtain ⟨c, z⟩ := ne j ds hj
    obtain ⟨q, xs, k1, k2, k3, k4, k5⟩ := S.ow j ds z
    refine ⟨q, xs, k1, k2, ?_, k4, k5⟩
    rw [upd_ne (fun y => by rw [y, hp] at k3; cases k3)]
    exact k3
  · rw [upd_ne (fun y => by rw [y, pO.2] at ha; cases ha)]
    exact S.base a o ha
  · by_cases c : q = p
    · subst c
      exact ⟨_, upd_same⟩
    · rw [upd_ne c]
      exact S.dom q hq
  · obtain ⟨k1, ds, k2⟩ := S.pin j q hj
    have c : j ≠ i := fun z => by
      subst z
      rw [h] at k2
      cases k2
    exact ⟨k1, ds, by rw [get j c]; exact k2⟩
  · by_cases c : j = i
    · subst c
      rw [List.getElem?_set_self hi] at hj
      cases hj
      refine ⟨p, hs, ⟨ks', upd_same, by rw [hm]; exact hk⟩, by show [p].Nodup; simp, fun a ha => ?_, fun l ds a hl e => ?_, fun l w' q hl hw e a ha => ?_⟩
      · rw [show a = p from List.mem_singleton.mp ha]
        exact pO
      · exact a5 l ds a (ne l ds hl).2 e
      · rw [get l hl] at hw
        have e0 : a = p := List.mem_singleton.mp ha
        subst e0
        obtain ⟨q', b1, _, _, b4, b5, b6⟩ := S.nw l w' hw
        rw [e] at b1
        cases b1
        have nq : q ≠ a := fun z => by
          subst z
          exact a6 l w' q hl hw e q adsOf_self adsOf_self
        rw [adsOf_eq (upd_ne nq)]
        exact a6 l w' q hl hw e a adsOf_self
    · rw [get j c] at hj
      obtain ⟨q, b1, b2, b3, b4, b5, b6⟩ := S.nw j w hj
      have np : ∀ a, a ∈ adsOf H q w → a ≠ p := fun a ha z => by
        subst z
        exact b6 i _ a (Ne.symm c) h hs a ha adsOf_self
      have e0 : adsOf (upd H p (.dT ks')) q w = adsOf H q w := adsOf_eq (upd_ne (np q adsOf_self))
      refine ⟨q, b1, b2.mono (by rw [hm]; exact Same.refl _) fun a ha => upd_ne (np a ha), by rw [e0]; exact b3, by rw [e0]; exact b4, fun l ds a hl e => ?_, fun l w' r hl hw e a ha => ?_⟩
      · rw [e0]
        exact b5 l ds a (ne l ds hl).2 e
      · rw [e0] at ha
        by_cases c' : l = i
        · subst c'
          rw [List.getElem?_set_self hi] at hw
          cases hw
          rw [hs] at e
          cases e
          exact fun z => np a ha (List.mem_singleton.mp z)
        · rw [get l c'] at hw
          obtain ⟨r', d1, _, _, d4, d5, d6⟩ := S.nw l w' hw
          rw [e] at d1
          cases d1
          have nr : r ≠ p := fun z => by
            subst z
            exact d6 i _ r (Ne.symm c') h hs r adsOf_self adsOf_self
          rw [adsOf_eq (upd_ne nr)]
          exact b6 l w' r hl hw e a ha
  · by_cases c : q = p
    · subst c
      rw [upd_same]
      exact fun z => by cases z
    · rw [upd_ne c]
      exact S.nt q xs hq
/-- a name gets a new dict -/
theorem Sta.newD {i : Nat} {p : Addr} (S : Sta K B O I σ H env) (hp : H p = none) (e : putS i (.nw (.dct [])) env = some env') : Sta K B (p :: O) I (σ.set i (some (.ref p))) (upd H p (.dT [])) env' := by
  obtain ⟨h1, h2, rfl⟩ := putS_of e
  have hs : i < σ.length := by rw [S.len]; exact h2
  have hO : p ∉ O := not_dom S.dom hp
  have up : Same H (upd H p (.dT [])) := same_new hp
  have sm : Same (mi H O) (mi (upd H p (.dT [])) (p :: O)) := fun a o ha => by
    obtain ⟨z1, z2⟩ := mi_some ha
    exact mi_of (fun y => (List.mem_cons.mp y).elim (fun y => by rw [y, hp] at z2; cases z2) z1) (up _ _ z2)
  have get : ∀ j, j ≠ i → (env.set i (SV.nw (.dct [])))[j]? = env[j]? := fun j c => List.getElem?_set_ne (Ne.symm c)
  have gets : ∀ j, j ≠ i → (σ.set i (some (V.ref p)))[j]? = σ[j]? := fun j c => List.getElem?_set_ne (Ne.symm c)
  have ne : ∀ j ds, OwnAt (env.set i (SV.nw (.dct []))) j ds → j ≠ i ∧ OwnAt env j ds := fun j ds z => by
    by_cases c : j = i
    · subst c
      unfold OwnAt at z
      rw [List.getElem?_set_self h2] at z
      rcases z with z | z <;> cases z
    · exact ⟨c, (own_set c).mp z⟩
  refine ⟨by simp [S.len], fun j d hj => ?_, fun j ds hj => ?_, fun j l ds es q hj hl e1 e2 => ?_, S.base.trans up, fun q hq => ?_, fun j q hj => ?_, fun j w hj => ?_, fun q xs hq => ?_⟩
  · by_cases c : j = i
    · subst c
      rw [List.getElem?_set_self h2] at hj
      cases hj
    · rw [get j c] at hj
      rw [gets j c]
      obtain ⟨w, k1, k2⟩ := S.fz j d hj
      exact ⟨w, k1, Dq.mono sm _ _ k2⟩
  · obtain ⟨c, z⟩ := ne j ds hj
    rw [gets j c]
    obtain ⟨q, xs, k1, k2, k3, k4, k5⟩ := S.ow j ds z
    exact ⟨q, xs, k1, List.mem_cons_of_mem _ k2, up _ _ k3, DqA.mono sm _ _ k4, k5⟩
  · obtain ⟨c, z⟩ := ne j ds hj
    obtain ⟨c', z'⟩ := ne l es hl
    rw [gets j c] at e1
    rw [gets l c'] at e2
    exact S.sep j l ds es q z z' e1 e2
  · rcases List.mem_cons.mp hq with rfl | hq
    · exact ⟨_, upd_same⟩
    · obtain ⟨o, z⟩ := S.dom q hq
      exact ⟨o, up _ _ z⟩
  · obtain ⟨k1, ds, k2⟩ := S.pin j q hj
    have c : j ≠ i := fun z => by
      subst z
      rw [isIo_of k2] at h1
      cases h1
    rw [get j c, gets j c]
    exact ⟨k1, ds, k2⟩
  · have old : ∀ {l : Nat} {w : OV}, env[l]? = some (.nw w) → ∀ {q : Addr}, σ[l]? = some (some (.ref q)) → (∀ a, a ∈ adsOf H q w → a ∈ O) ∧ adsOf (upd H p (.dT [])) q w = adsOf H q w := fun {l w} hl {q} hq => by
      obtain ⟨q', b1, _, _, b4, _⟩ := S.nw l w hl
      rw [hq] at b1
      cases b1
      refine ⟨fun a ha => (b4 a ha).1, adsOf_eq (upd_ne fun z => ?_)⟩
      subst z
      exact hO (b4 q adsOf_self).1
    by_cases c : j = i
    · subst c
      rw [List.getElem?_set_self h2] at hj
      cases hj
      refine ⟨p, List.getElem?_set_self hs, ⟨[], upd_same, trivial⟩, by show [p].Nodup; simp, fun a ha => ?_, fun l ds a hl e z => ?_, fun l w' q hl hw e a ha z => ?_⟩
      · rw [show a = p from List.mem_singleton.mp ha]
        exact ⟨List.mem_cons_self, S.base.free hp⟩
      · obtain ⟨c, y⟩ := ne l ds hl
        rw [gets l c] at e
        obtain ⟨q, xs, k1, k2, _⟩ := S.ow l ds y
        rw [e] at k1
        cases k1
        rw [show a = p from List.mem_singleton.mp z] at k2
        exact hO k2
      · rw [get l hl] at hw
        rw [gets l hl] at e
        obtain ⟨y1, y2⟩ := old hw e
        rw [y2] at z
        rw [show a = p from List.mem_singleton.mp ha] at z
        exact hO (y1 p z)
    · rw [get j c] at hj
      rw [gets j c]
      obtain ⟨q, b1, b2, b3, b4, b5, b6⟩ := S.nw j w hj
      obtain ⟨y1, y2⟩ := old hj b1
      refine ⟨q, b1, b2.mono sm fun a ha => upd_ne fun z => hO (z ▸ y1 a ha), by rw [y2]; exact b3, fun a ha => ?_, fun l ds a hl e => ?_, fun l w' r hl hw e a ha => ?_⟩
      · rw [y2] at ha
        exact ⟨List.mem_cons_of_mem _ (b4 a ha).1, (b4 a ha).2⟩
      · obtain ⟨c', y⟩ := ne l ds hl
        rw [gets l c'] at e
        rw [y2]
        exact b5 l ds a y e
      · rw [y2] at ha
        by_cases c' : l = i
        · subst c'
          rw [List.getElem?_set_self h2] at hw
          cases hw
          rw [List.getElem?_set_self hs] at e
          cases e
          exact fun z => hO (by rw [← show a = p from List.mem_singleton.mp z]; exact y1 a ha)
        · rw [get l c'] at hw
          rw [gets l c'] at e
          rw [(old hw e).2]
          exact b6 l w' r hl hw e a ha
  · rcases List.mem_cons.mp hq with rfl | hq
    · rw [upd_same]
      exact fun z => by cases z
    · exact S.ntS hq (fun o z => up _ _ z) xs
def fDNew (i : Nat) : SFn := fun env => (putS i (.nw (.dct [])) env).bind fun e => some (.nx e)
theorem ss_dnew {i : Nat} : SndS K W (tAsg tDNewT (gName i)) (fDNew i) := by
  intro B O I σ H env o S e D k
  obtain ⟨env2, e2, e⟩ := bnd e
  cases e
  intro p hp
  exact k (p :: O) _ _ ⟨fun a h _ => List.mem_cons_of_mem _ h, fun a h => (List.mem_cons.mp h).elim (fun z => .inr (z ▸ S.base.free hp)) .inl⟩ (S.newD hp e2)
/-- a tuple that is made here, as a key -/
def fTupN (fa : AF) : EF := fun env => (fa env).bind fun a => (allVal a.1).bind fun ds => if ds.length ≤ 10000000 then some (.val (.nt ds), a.2) else none
theorem snd_tupN {t : TA} {fa : AF} (h1 : SndA K t fa) : Snd K (tTup t) (fTupN fa) := by
  intro B O I σ H env rv env' S e Q q
  obtain ⟨⟨r1, env1⟩, e1, e⟩ := bnd e
  obtain ⟨ds, e2, e⟩ := bnd e
  dsimp only at e2 e
  split at e
  · cases e
    refine h1 B O I σ H env r1 _ S e1 _ fun vs H1 S1 P1 => ?_
    have k := post_vals P1 e2
    refine ⟨by rw [k.length]; exact line_of (by assumption), fun p hp => q _ _ ?_⟩
    have hO : p ∉ O := not_dom S1.dom hp
    have e : Same H1 (upd H1 p (.tup vs)) := same_new hp
    exact ⟨S1.grow e, .nt (mi_of hO upd_same) (DqA.mono (mi_mono e) _ _ k)⟩
  · cases e
/-- a name that holds such a tuple, as any thing -/
def fVarN (i : Nat) : EF := fun env => match env[i]? with
  | some (.fz (.nt ds)) => some (.val (.tup ds), env)
  | _ => none
def dctAt (env : Env) (i : Nat) : Option (List (List Int × D)) := match env[i]? with
  | some (.nw (.dct kvs)) => some kvs
  | _ => none
theorem dctAt_of {i : Nat} {kvs : List (List Int × D)} (h : dctAt env i = some kvs) : env[i]? = some (.nw (.dct kvs)) := by
  unfold dctAt at h
  split at h
  · cases h
    assumption
  · cases h
theorem DGet.own {p b : Addr} {ks : List (List L2.Key × V)} {k : List Int} (hp : H p = some (.dT ks)) (hb : mi H O b = some (.tup ((keyI k).map kV))) : DGet H p (.ref b) (valV ks (keyI k)) := .t hp (mi_some hb).2
def fDIx (i : Nat) (fk : EF) : EF := fun env => (dctAt env i).bind fun _ => (fk env).bind fun a => match a.1 with
  | .val kd => (keyD kd).bind fun k => (dctAt a.2 i).bind fun kvs => (kVal kvs k).bind fun d => some (.val d, a.2)
  | _ => none
theorem snd_dix {i : Nat} (hk : Snd K tk fk) : Snd K (tDGet (tVar i) tk) (fDIx i fk) := by
  intro B O I σ H env rv env' S e Q q
  obtain ⟨kvs0, e0, e⟩ := bnd e
  obtain ⟨⟨r1, env1⟩, e1, e⟩ := bnd e
  dsimp only at e
  split at e
  · rename_i kd
    obtain ⟨k, e2, e⟩ := bnd e
    obtain ⟨kvs, e3, e⟩ := bnd e
    obtain ⟨d, e4, e⟩ := bnd e
    cases e
    obtain ⟨p, ks, s1, _⟩ := S.dct (dctAt_of e0)
    refine ⟨_, s1, ?_⟩
    refine hk B O I σ H env _ _ S e1 _ fun y H1 P1 => ?_
    obtain ⟨S1, dy⟩ := P1
    obtain ⟨p', ks', s1', pO, _, hp, hd⟩ := S1.dct (dctAt_of e3)
    rw [s1] at s1'
    cases s1'
    obtain ⟨b, rfl, hb⟩ := keyD_of dy e2
    rcases hd.val k with ⟨_, z⟩ | ⟨v, d', z1, z2, z3⟩
    · rw [z] at e4
      cases e4
    · rw [z2] at e4
      cases e4
      exact ⟨p, v, rfl, by rw [← z1]; exact DGet.own hp hb, q v H1 ⟨S1, z3⟩⟩
  · cases e
def fDGet2 (i : Nat) (fk fx : EF) : EF := fun env => (dctAt env i).bind fun _ => (fk env).bind fun a => match a.1 with
  | .val kd => (keyD kd).bind fun k => (fx a.2).bind fun b => match frz b.1 with
    | .val x => (dctAt b.2 i).bind fun kvs => some (.val ((kVal kvs k).getD x), b.2)
    | _ => none
  | _ => none
theorem snd_dget2 {i : Nat} (hk : Snd K tk fk) (hx : Snd K tx fx) : Snd K (tDGet2 (tVar i) tk tx) (fDGet2 i fk fx) := by
  intro B O I σ H env rv env' S e Q q
  obtain ⟨kvs0, e0, e⟩ := bnd e
  obtain ⟨⟨r1, env1⟩, e1, e⟩ := bnd e
  dsimp only at e
  split at e
  · rename_i kd
    obtain ⟨k, e2, e⟩ := bnd e
    obtain ⟨⟨r2, env2⟩, e3, e⟩ := bnd e
    dsimp only at e
    split at e
    · rename_i x hx2
      obtain ⟨kvs, e4, e⟩ := bnd e
      cases e
      obtain ⟨p, ks, s1, pO0, _, hp0, _⟩ := S.dct (dctAt_of e0)
      refine ⟨_, s1, p, rfl, .inr ⟨ks, .inl hp0⟩, ?_⟩
      refine hk B O I σ H env _ _ S e1 _ fun y H1 P1 => ?_
      have S1 := P1.sta
      refine hx _ O I σ H1 _ r2 _ S1.strong e3 _ fun z H2 P2 => ?_
      have P3 := Post.later (r := .val kd) P1 P2.sta
      have P4 := (P2.weakN S1.base_keep).frz
      rw [hx2] at P4
      obtain ⟨S2, dz⟩ := P4
      obtain ⟨p', ks', s1', pO, _, hp, hd⟩ := S2.dct (dctAt_of e4)
      rw [s1] at s1'
      cases s1'
      obtain ⟨b, rfl, hb⟩ := keyD_of P3.2 e2
      refine ⟨_, DGet.own hp hb, ?_⟩
      rcases hd.val k with ⟨z1, z2⟩ | ⟨v, d', z1, z2, z3⟩
      · rw [z1]
        refine q _ _ ⟨S2, ?_⟩
        rw [z2]
        exact dz
      · rw [z1]
        refine q _ _ ⟨S2, ?_⟩
        rw [z2]
        exact z3
    · cases e
  · cases e
def fDIn (i : Nat) (neg : Bool) (fk : EF) : EF := fun env => (fk env).bind fun a => match a.1 with
  | .val kd => (keyD kd).bind fun k => (dctAt a.2 i).bind fun kvs => some (.val (.bl ((kVal kvs k).isSome != neg)), a.2)
  | _ => none
def fDPut (i : Nat) (fk fe : EF) : SFn := fun env => (fe env).bind fun a => (dctAt a.2 i).bind fun _ => (fk a.2).bind fun b => match frz a.1, b.1 with
  | .val d, .val kd => (keyD kd).bind fun k => (dctAt b.2 i).bind fun kvs => if kvs.length ≤ 1000000 then some (.nx (b.2.set i (.nw (.dct (kPut kvs k d))))) else none
  | _, _ => none
theorem ss_dput {i : Nat} (he : Snd K te fe) (hk : Snd K tk fk) : SndS K W (tAsg te (L2.gSub (tVar i) tk rSetD)) (fDPut i fk fe) := by
  intro B O I σ H env o S e D kk
  obtain ⟨⟨r1, env1⟩, e1, e⟩ := bnd e
  obtain ⟨kvs0, e0, e⟩ := bnd e
  obtain ⟨⟨r2, env2⟩, e2, e⟩ := bnd e
  dsimp only at e e0 e2
  split at e
  · rename_i d kd hd
    obtain ⟨k, e3, e⟩ := bnd e
    obtain ⟨kvs, e4, e⟩ := bnd e
    split at e
    · rename_i hl
      cases e
      refine he B O I σ H env r1 env1 S e1 _ fun x H1 P1 => ?_
      have P1' := P1.frz
      have S1 := P1'.sta
      obtain ⟨p, ks0, s1, _⟩ := S1.dct (dctAt_of e0)
      refine ⟨_, s1, ?_⟩
      refine hk _ O I σ H1 env1 _ env2 S1.strong e2 _ fun y H2 P2 => ?_
      have P3 := P1'.later P2.1
      rw [hd] at P3
      obtain ⟨S3, dx⟩ := P3
      obtain ⟨p', ks, s1', pO, _, hp, hk2⟩ := S3.dct (dctAt_of e4)
      rw [s1] at s1'
      cases s1'
      obtain ⟨b, rfl, hb⟩ := keyD_of P2.2 e3
      refine ⟨p, _, rfl, .t hp (mi_some hb).2 ?_, ?_⟩
      · rw [hk2.len]
        exact line_lt (by omega)
      · exact kk O σ _ .refl (S3.upD (dctAt_of e4) s1 hp (hk2.put k dx))
    · cases e
  · cases e
def fPar3 (i j l : Nat) (fa : AF) : SFn := fun env => (fa env).bind fun a => (allVal a.1).bind fun ds => match ds with
  | [d, e, g] => (putS i (.fz d) a.2).bind fun e1 => (putS j (.fz e) e1).bind fun e2 => (putS l (.fz g) e2).bind fun e3 => some (.nx e3)
  | _ => none
theorem ss_par3 {i j l : Nat} {t : TA} {fa : AF} (h1 : SndA K t fa) : SndS K W (tPar3 i j l t) (fPar3 i j l fa) := by
  intro B O I σ H env o S e D k
  obtain ⟨⟨r1, env1⟩, e1, e⟩ := bnd e
  obtain ⟨ds, e2, e⟩ := bnd e
  dsimp only at e2 e
  split at e
  · obtain ⟨env2, e3, e⟩ := bnd e
    obtain ⟨env3, e4, e⟩ := bnd e
    obtain ⟨env4, e5, e⟩ := bnd e
    cases e
    refine h1 B O I σ H env r1 env1 S e1 _ fun vs H1 S1 P1 => ?_
    have q := post_vals P1 e2
    cases q with
    | cons q1 q2 =>
      cases q2 with
      | cons q2 q3 =>
        cases q3 with
        | cons q3 q4 =>
          cases q4
          exact ⟨_, _, _, rfl, k O _ H1 .refl (((S1.put q1 e3).put q2 e4).put q3 e5)⟩
  · cases e
end
end Dv
namespace Big
open PySem PySem.Spec PyProof.Rows L2
abbrev keyP (p : Int × Int) : List L2.Key := [Sum.inl p.1, Sum.inl p.2]
section
variable {H : Hp}
theorem rows_paired : ∀ {kvs : List (List L2.Key × V)} {ks : List (List L2.Key × Addr × Value)} {ns : List (Int × Int)}, Paired (fun (p : List L2.Key × V) (q : List L2.Key × Addr × Value) => p.1 = q.1 ∧ H q.2.1 = some (.tup (p.1.map kV)) ∧ RelV p.2 q.2.2) kvs ks → kvs.map (·.1) = ns.map keyP →
    ∃ L : List (Addr × List Int), (ks.map fun x => Value.ref x.2.1) = L.map (fun q => Value.ref q.1) ∧ L.map (·.2) = ns.map (fun p => [p.1, p.2]) ∧ ∀ q, q ∈ L → H q.1 = some (.tup (q.2.map V.int))
  | _, _, ns, .nil, e => by
    cases ns with
    | nil => exact ⟨[], rfl, rfl, fun q hq => nomatch hq⟩
    | cons a b => cases e
  | _, _, ns, @Paired.cons _ _ _ p q ps qs h t, e => by
    cases ns with
    | nil => cases e
    | cons n ns =>
      rw [List.map_cons, List.map_cons, List.cons.injEq] at e
      obtain ⟨L, e1, e2, e3⟩ := rows_paired t e.2
      refine ⟨(q.2.1, [n.1, n.2]) :: L, by rw [List.map_cons, e1]; rfl, by rw [List.map_cons, e2]; rfl, fun r hr => ?_⟩
      rcases List.mem_cons.mp hr with z | z
      · rw [z]
        have h1 := h.2.1
        rw [e.1] at h1
        exact h1
      · exact e3 r z
end
theorem keys_paired {R : List L2.Key × V → List L2.Key × Addr × Value → Prop} (hR : ∀ p q, R p q → p.1 = q.1) : ∀ {kvs : List (List L2.Key × V)} {ks : List (List L2.Key × Addr × Value)}, Paired R kvs ks → kvs.map (·.1) = ks.map (·.1)
  | _, _, .nil => rfl
  | _, _, .cons h t => by rw [List.map_cons, List.map_cons, keys_paired hR t, hR _ _ h]
section
variable {X : Cx}
def rSortDT : List V → Hp → VK → Prop := fun xs H Q => ∃ (a : Addr) (kvs : List (List L2.Key × V)) (ns : List (Int × Int)), xs = [.ref a] ∧ Rd H a (.dT kvs) ∧ kvs.map (·.1) = ns.map keyP ∧ kvs.length ≤ 1000000 ∧
  ∀ (N : List (Addr × List Int)) (p : Addr), (N.map (·.2)).Perm (ns.map fun p => [p.1, p.2]) → (N.map (·.2)).Nodup → N.Pairwise (fun p r => SrtO.lexB (kv r.2) (kv p.2) = false) → (∀ q, q ∈ N → H q.1 = some (.tup (q.2.map V.int))) → H p = none → Q (.ref p) (upd H p (.lst (N.map fun q => V.ref q.1)))
theorem cr_sortedDT (hc : X.calm = true) : CallR X (.builtin "sorted") rSortDT := by
  intro pins s σ H xs us Q I r h
  obtain ⟨a, kvs, ns, rfl, ha, hks, most, q⟩ := h
  rw [Vals.ref1 r]
  obtain ⟨z, hs, ks, pr, o, es, ep, ho, hx, hdt, he, hn⟩ := (show ObjOk X.prog X.w H s.heap a (.dT kvs) from ha.ok I.hok)
  have l1 : es.size = ks.length := size_of_entries he
  have l2 : kvs.length = ks.length := Paired.length pr
  obtain ⟨L, f1, f2, f3⟩ := rows_paired pr hks
  have l3 : L.length = ks.length := by
    have := congrArg List.length f1
    simpa using this.symm
  refine Calls.call_function_entry kind_sorted plain_sorted entry_sorted (args_sorted1 _) ?_
  unfold Builtin.«sorted»
  refine wpAny_bind (m := checkCount "sorted" 1 1 _) (wpAny_pure ?_)
  refine wpAny_bind (PySem.W.kdu_collect (A := X.A.in1) (L2.kdl_raw hs hx hdt) (I.ok.hd hc) ho (by rw [sizeLine_eq]; omega) fun h' tk acc hk hacc => ?_)
  have al : acc.toList.length = ks.length := by rw [Array.length_toList, hacc.1, l1]
  have ea : acc.toList = L.map fun q => Value.ref q.1 := by
    rw [← f1]
    refine List.ext_getElem (by rw [al, List.length_map]) fun j h1 h2 => ?_
    obtain ⟨en, e1, e2⟩ := hacc.2 j acc.toList[j] (by rw [← Array.getElem?_toList]; exact List.getElem?_eq_getElem h1)
    have e3 := entry_at he j
    rw [e1] at e3
    have hj : j < ks.length := by rw [← al]; exact h1
    rw [List.getElem?_eq_getElem hj] at e3
    have e4 : en = entryOfKey (tupleKind (mixKind X.prog X.w)) ks[j] := Option.some.inj e3
    rw [e2, e4, List.getElem_map]
    rfl
  rw [ea]
  have I1 : Inv X pins σ H { s with heap := h', toks := tk } := I.kept hk
  have one : ∀ q, q ∈ L → ∀ r, r ∈ L → q.1 = r.1 → q = r := fun q hq r hr e => by
    have a1 := f3 q hq
    have a2 := f3 r hr
    rw [e, a2] at a1
    have a3 : r.2.map V.int = q.2.map V.int := by
      injection a1 with a1
      injection a1
    refine Prod.ext e ?_
    have inj : ∀ {x y : List Int}, x.map V.int = y.map V.int → x = y := by
      intro x
      induction x with
      | nil => intro y h; cases y with | nil => rfl | cons b c => cases h
      | cons b c ih =>
        intro y h
        cases y with
        | nil => cases h
        | cons b' c' =>
          rw [List.map_cons, List.map_cons, List.cons.injEq] at h
          injection h.1 with h1
          rw [h1, ih h.2]
    exact (inj a3).symm
  have prs : ∀ q, q ∈ L → ∃ x y, q.2 = [x, y] := fun q hq => by
    have m : q.2 ∈ L.map (·.2) := List.mem_map.mpr ⟨q, hq, rfl⟩
    rw [f2] at m
    obtain ⟨r, _, e⟩ := List.mem_map.mp m
    exact ⟨_, _, e.symm⟩
  generalize hvs : L.map (fun q => Value.ref q.1) = vs at ea
  have lv : vs.length = L.length := by rw [← hvs, List.length_map]
  have lz : vs.length ≤ sizeLine := by rw [sizeLine_eq]; omega
  refine wpAny_bind (wpAny_newList ?_ lz)
  have hoL : (h'.push (seqObj "list" vs.toArray 0)).get? h'.objs.size = some (seqObj "list" vs.toArray 0) := Heap.get?_push_size _ rfl
  have pairs : ∀ v ∈ vs, Srt.IsPair (h'.push (seqObj "list" vs.toArray 0)) v (kv (rowAt L v).2).1 (kv (rowAt L v).2).2 := fun v hv => by
    rw [← hvs] at hv
    obtain ⟨q, hq, rfl⟩ := List.mem_map.mp hv
    rw [rowAt_of one hq]
    obtain ⟨x, y, exy⟩ := prs q hq
    obtain ⟨_, its, rv, u, b1, b2, n, b3⟩ := (show ObjOk X.prog X.w H h' q.1 (.tup (q.2.map V.int)) from I1.hok _ _ (f3 q hq))
    rw [exy] at rv ⊢
    have : ∃ t1 t2, its = [.int x t1, .int y t2] := by
      cases rv with
      | cons c1 d1 =>
        cases d1 with
        | cons c2 d2 =>
          cases d2
          obtain ⟨t1, rfl⟩ := c1
          obtain ⟨t2, rfl⟩ := c2
          exact ⟨t1, t2, rfl⟩
    obtain ⟨t1, t2, rfl⟩ := this
    exact ⟨q.1, u, t1, t2, n, rfl, Heap.get?_push_of_some (seqObj "list" vs.toArray 0) b1, b2, b3⟩
  refine wpAny_bind (wpAny_holding (wpAny_call_entry slot_list_sort ⟨_, hoL, rfl⟩ entry_list_sort (SrtO.list_sort_ord (s := { s with heap := h'.push (seqObj "list" vs.toArray 0), toks := tk }) (SrtO.swo_lex fun v => kv (rowAt L v).2) hoL lz (fun h2 => SrtO.pairs_sortableO (by omega) pairs fun o ho c => ?_) fun res r1 r2 => ⟨_, rfl, ?_⟩) (args_list_sort _)))
  · have e' : some o = some (seqObj "list" vs.toArray 0) := ho.symm.trans hoL
    cases e'
    exact absurd (Value.type.inj c) (by decide)
  · obtain ⟨c, hcc⟩ := sortedHeap_at (vs := vs) (out := res.toArray) hoL
    have back : ∀ v ∈ res, Value.ref (rowAt L v).1 = v := fun v hv => by
      have m := r2.perm.mem_iff.mp hv
      rw [← hvs] at m
      obtain ⟨q, hq, rfl⟩ := List.mem_map.mp m
      rw [rowAt_of one hq]
    have e3 : res = (res.map (rowAt L)).map fun r => Value.ref r.1 := by
      rw [List.map_map]
      exact ((List.map_congr_left (g := id) back).trans (List.map_id res)).symm
    have e4 : vs.map (rowAt L) = L := by
      rw [← hvs, List.map_map]
      exact (List.map_congr_left fun q hq => rowAt_of one hq).trans (List.map_id L)
    have pm : (res.map (rowAt L)).Perm L := by
      have := r2.perm.map (rowAt L)
      rw [e4] at this
      exact this
    have hlen : ((res.map (rowAt L)).map fun q => V.ref q.1).length ≤ sizeLine := by
      rw [List.length_map, sizeLine_eq, pm.length_eq]
      omega
    have hv : Vals ((res.map (rowAt L)).map fun q => V.ref q.1) res := by
      conv => rhs; rw [e3]
      exact vals_of_refs _
    refine wpAny_pure ⟨_, rfl, .ref h'.objs.size, upd H h'.objs.size (.lst ((res.map (rowAt L)).map fun q => V.ref q.1)), I1.laid (t' := tk) (fun b u e => ?_) (Nat.le_refl _) (show ObjOk X.prog X.w _ _ _ (.lst _) from ⟨hlen, res, c, hv, hcc⟩), rfl, ?_⟩
    · have hb : b < h'.objs.size := Heap.lt_size e
      rw [sortedHeap_old (Nat.ne_of_lt hb) (by rw [size_push']; exact Nat.lt_succ_of_lt hb)]
      exact Heap.get?_push_of_some _ e
    · have nd : (L.map (·.2)).Nodup := by
        have n1 : (ns.map keyP).Nodup := by
          rw [← hks, keys_paired (fun p q h => h.1) pr]
          exact hn
        rw [f2]
        refine List.pairwise_map.mpr ((List.pairwise_map.mp n1).imp fun {x y} h z => h ?_)
        injection z with z1 z2
        injection z2 with z2
        unfold keyP
        rw [z1, z2]
      refine q _ _ ?_ ((pm.map (·.2)).nodup_iff.mpr nd) (List.pairwise_map.mpr r1) (fun r hr => f3 r (pm.mem_iff.mp hr)) (I1.hok.fresh (Nat.le_refl _))
      rw [← f2]
      exact pm.map _
end
end Big
namespace Dv
open PySem L2
/-- the keys, if they are pairs -/
def pairK : List (List Int × D) → Option (List (Int × Int))
  | [] => some []
  | ([x, y], _) :: r => (pairK r).bind fun ps => some ((x, y) :: ps)
  | _ => none
section
variable {K : PySem.W.Frag} {B : Hp} {O : List Addr} {I : List (Nat × Addr)} {σ : L2.St} {H H' G : Hp} {env env' : Env} {v : V} {W : WN}
theorem DqK.keys : ∀ {ks : List (List L2.Key × V)} {kvs : List (List Int × D)} {ns : List (Int × Int)}, DqK K G ks kvs → pairK kvs = some ns → ks.map (·.1) = ns.map Big.keyP ∧ kvs.map (·.1) = ns.map fun p => [p.1, p.2]
  | [], [], _, _, e => by cases e; exact ⟨rfl, rfl⟩
  | [], _ :: _, _, h, _ => h.elim
  | _ :: _, [], _, h, _ => h.elim
  | p :: ks, (k, d) :: kvs, ns, h, e => by
    obtain ⟨h1, h2, h3⟩ := h
    unfold pairK at e
    split at e
    · contradiction
    · rename_i x y d' r hr
      cases hr
      obtain ⟨ps, e1, e2⟩ := bnd e
      cases e2
      obtain ⟨g1, g2⟩ := DqK.keys h3 e1
      exact ⟨by rw [List.map_cons, List.map_cons, g1, h1]; rfl, by rw [List.map_cons, List.map_cons, g2]⟩
    · cases e
/-- sorted(d) -/
def fDSort (i : Nat) : EF := fun env => (dctAt env i).bind fun kvs => (pairK kvs).bind fun ps => if kvs.length ≤ 1000000 then some (.new ((srtP ps).map pD), env) else none
theorem snd_dsort {i : Nat} : Snd K (tCB Big.rSortDT (tCons (tVar i) tNil)) (fDSort i) := by
  intro B O I σ H env rv env' S e Q q
  obtain ⟨kvs, e0, e⟩ := bnd e
  obtain ⟨ps, e1, e⟩ := bnd e
  split at e
  · rename_i hl
    cases e
    obtain ⟨p, ks, s1, pO, pB, hp, hd⟩ := S.dct (dctAt_of e0)
    obtain ⟨g1, g2⟩ := hd.keys e1
    refine ⟨_, s1, p, ks, ps, rfl, .inl hp, g1, by rw [hd.len]; exact hl, fun N b pm nd pw tp hb => ?_⟩
    have hbO : b ∉ O := not_dom S.dom hb
    refine q _ _ (post_new S hb ?_)
    have prN : ∀ r, r ∈ N → r.2 = [(Big.kv r.2).1, (Big.kv r.2).2] := fun r hr => by
      have m : r.2 ∈ N.map (·.2) := List.mem_map.mpr ⟨r, hr, rfl⟩
      obtain ⟨x, _, ex⟩ := List.mem_map.mp (pm.mem_iff.mp m)
      rw [← ex]
      rfl
    refine dqa_rows (fun r hr => .inl (.inl (mi_of (fun z => S.nt _ _ z (tp r hr)) (tp r hr)))) ?_
    have f4 : N.map (fun p => Big.kv p.2) = srtP ps := by
      refine str_uniq ?_ (str_srtP ps) fun x => ?_
      · refine List.pairwise_map.mpr ?_
        have nd2 : N.Pairwise fun p r => p.2 ≠ r.2 := List.pairwise_map.mp nd
        refine List.Pairwise.imp_of_mem (fun {p r} hp hr h => ?_) (nd2.and pw)
        have := SrtO.lexB_no.mp h.2
        have ne : Big.kv p.2 ≠ Big.kv r.2 := fun z => h.1 (by rw [prN p hp, prN r hr, z])
        refine Classical.byContradiction fun y => this ?_
        exact ltP2_tri ne y
      · rw [mem_srtP, List.mem_map]
        constructor
        · rintro ⟨p, hp, rfl⟩
          have m : p.2 ∈ N.map (·.2) := List.mem_map.mpr ⟨p, hp, rfl⟩
          obtain ⟨r, hr, e⟩ := List.mem_map.mp (pm.mem_iff.mp m)
          rw [← e]
          exact hr
        · intro hx
          have m : [x.1, x.2] ∈ ps.map fun p => [p.1, p.2] := List.mem_map.mpr ⟨x, hx, rfl⟩
          obtain ⟨r, hr, e⟩ := List.mem_map.mp (pm.mem_iff.mpr m)
          exact ⟨r, hr, by rw [e]; rfl⟩
    rw [← f4, List.map_map]
    exact List.map_congr_left prN
  · cases e
end
abbrev NF := Env → Option (List (List D) × Env)
def fNilN : NF := fun env => some ([], env)
def fConsN (fa : EF) (fr : NF) : NF := fun env => (fa env).bind fun a => match a.1 with
  | .new ds => (fr a.2).bind fun r => some (ds :: r.1, r.2)
  | _ => none
section
variable {K : PySem.W.Frag} {B : Hp} {O : List Addr} {I : List (Nat × Addr)} {σ : L2.St} {H H' : Hp} {env env' : Env} {v : V} {t ta tb te : TE} {f fa fb fe : EF} {W : WN}
theorem LsOk.dom {G : Hp} : ∀ {qs : List Addr} {dss : List (List D)}, LsOk K G H qs dss → ∀ q, q ∈ qs → ∃ xs, H q = some (.lst xs)
  | [], [], _, q, hq => by cases hq
  | [], _ :: _, h, _, _ => h.elim
  | _ :: _, [], h, _, _ => h.elim
  | a :: qs, ds :: dss, h, q, hq => by
    obtain ⟨⟨xs, h1, _⟩, h2⟩ := h
    rcases List.mem_cons.mp hq with z | z
    · rw [z]
      exact ⟨xs, h1⟩
    · exact LsOk.dom h2 q z
theorem LsOk.get {G : Hp} : ∀ {qs : List Addr} {dss : List (List D)} {k : Nat} {ds : List D}, LsOk K G H qs dss → dss[k]? = some ds → ∃ q xs, qs[k]? = some q ∧ H q = some (.lst xs) ∧ DqA K G xs ds
  | [], [], _, _, _, e => by simp at e
  | [], _ :: _, _, _, h, _ => h.elim
  | _ :: _, [], _, _, h, _ => h.elim
  | a :: qs, d :: dss, k, ds, h, e => by
    obtain ⟨⟨xs, h1, h2⟩, h3⟩ := h
    cases k with
    | zero =>
      simp at e
      subst e
      exact ⟨a, xs, rfl, h1, h2⟩
    | succ k =>
      obtain ⟨q, ys, g1, g2, g3⟩ := LsOk.get h3 (k := k) (by simpa using e)
      exact ⟨q, ys, by simpa using g1, g2, g3⟩
theorem LsOk.set {G : Hp} {q : Addr} {ys : List V} {es : List D} (hy : DqA K G ys es) : ∀ {qs : List Addr} {dss : List (List D)} {k : Nat}, LsOk K G H qs dss → qs[k]? = some q → qs.Nodup → LsOk K G (upd H q (.lst ys)) qs (dss.set k es)
  | [], [], _, _, e, _ => by simp at e
  | [], _ :: _, _, h, _, _ => h.elim
  | _ :: _, [], _, h, _, _ => h.elim
  | a :: qs, d :: dss, k, h, e, nd => by
    obtain ⟨⟨xs, h1, h2⟩, h3⟩ := h
    obtain ⟨n1, n2⟩ := List.nodup_cons.mp nd
    cases k with
    | zero =>
      simp at e
      subst e
      exact ⟨⟨ys, upd_same, hy⟩, LsOk.mono (Same.refl _) (fun b hb => upd_ne (fun z => n1 (z ▸ hb))) h3⟩
    | succ k =>
      have e' : qs[k]? = some q := by simpa using e
      have ne : a ≠ q := fun z => n1 (z ▸ List.mem_of_getElem? e')
      exact ⟨⟨xs, by rw [upd_ne ne]; exact h1, h2⟩, LsOk.set hy h3 e' n2⟩
def fLs2 (i : Nat) (fn : NF) : SFn := fun env => (fn env).bind fun a => if a.1.length ≤ 1000 then (putS i (.nw (.ls2 a.1)) a.2).bind fun e => some (.nx e) else none
theorem LsOk.len {G : Hp} : ∀ {qs : List Addr} {dss : List (List D)}, LsOk K G H qs dss → qs.length = dss.length
  | [], [], _ => rfl
  | [], _ :: _, h => h.elim
  | _ :: _, [], h => h.elim
  | _ :: _, _ :: _, h => by rw [List.length_cons, List.length_cons, LsOk.len h.2]
def fO2M0 (i k : Nat) (h : List D → Option (List D)) : EF := fun env => match env[i]? with
  | some (.nw (.ls2 dss)) => (dss[k]?).bind fun ds => (h ds).bind fun es => some (.val .non, env.set i (.nw (.ls2 (dss.set k es))))
  | _ => none
theorem atI_n {α : Type} {xs : List α} {k : Nat} {x : α} (h : xs[k]? = some x) : L2.atI xs (k : Int) = some x := by
  have hk := (List.getElem?_eq_some_iff.mp h).1
  unfold L2.atI L2.ixN
  rw [if_pos (by omega), if_pos (by omega)]
  simpa using h
def notNw : SV → Bool
  | .nw _ => false
  | _ => true
def fLend2 (i : Nat) (f : EF) : EF := fun env => match env[i]? with
  | some (.nw (.ls2 dss)) => if (env.set i .no).all notNw then (f (env.set i (.fz (.lst (dss.map D.lst))))).bind fun a => if a.2.all ownNoL && noR a.1 then some (a.1, (List.zipWith mergeS env a.2).set i (.nw (.ls2 dss))) else none else none
  | _ => none
end
end Dv
namespace Dv
open PySem L2
def Ok {α : Type} (x : Option α) (P : α → Prop) : Prop := ∃ a, x = some a ∧ P a
section
variable {α β : Type} {x y : Option α} {P Q : α → Prop}
theorem ok_some {a : α} : Ok (some a) P ↔ P a := ⟨fun ⟨_, e, h⟩ => by cases e; exact h, fun h => ⟨a, rfl, h⟩⟩
theorem ok_none : Ok (none : Option α) P ↔ False := ⟨(fun ⟨_, e, _⟩ => nomatch e), False.elim⟩
theorem ok_bind {z : Option β} {k : β → Option α} : Ok (z.bind k) P ↔ Ok z (fun b => Ok (k b) P) := by
  constructor
  · rintro ⟨a, e, h⟩
    obtain ⟨b, e1, e2⟩ := bnd e
    exact ⟨b, e1, a, e2, h⟩
  · rintro ⟨b, e1, a, e2, h⟩
    exact ⟨a, by rw [e1]; exact e2, h⟩
theorem ok_guard {c : Prop} [Decidable c] : Ok (if c then x else none) P ↔ c ∧ Ok x P := by
  by_cases h : c
  · rw [if_pos h]
    exact ⟨fun z => ⟨h, z⟩, fun z => z.2⟩
  · rw [if_neg h]
    exact ⟨fun z => (ok_none.mp z).elim, fun z => absurd z.1 h⟩
theorem ok_ite {c : Prop} [Decidable c] : Ok (if c then x else y) P ↔ (c → Ok x P) ∧ (¬ c → Ok y P) := by
  by_cases h : c
  · rw [if_pos h]
    exact ⟨fun z => ⟨fun _ => z, fun n => absurd h n⟩, fun z => z.1 h⟩
  · rw [if_neg h]
    exact ⟨fun z => ⟨fun n => absurd n h, fun _ => z⟩, fun z => z.2 h⟩
theorem ok_bind_iff {z : Option β} {k : β → Option α} {K : β → Prop} (h : ∀ b, Ok (k b) P ↔ K b) : Ok (z.bind k) P ↔ Ok z K := by
  rw [ok_bind]
  exact ⟨fun ⟨b, e, p⟩ => ⟨b, e, (h b).mp p⟩, fun ⟨b, e, p⟩ => ⟨b, e, (h b).mpr p⟩⟩
theorem ok_mono (h : Ok x P) (k : ∀ a, P a → Q a) : Ok x Q := by
  obtain ⟨a, e, p⟩ := h
  exact ⟨a, e, k a p⟩
theorem ok_eq {a : α} (e : x = some a) (h : P a) : Ok x P := ⟨a, e, h⟩
end
def freeP : SV → Bool
  | .io _ => false
  | _ => true
theorem free_no : freeP .no = true := rfl
theorem free_fz {d : D} : freeP (.fz d) = true := rfl
theorem free_o1 {ds : List D} : freeP (.o1 ds) = true := rfl
theorem putS_0 {s : SV} {x : SV} {env : Env} : putS 0 s (x :: env) = if freeP x = true then some (s :: env) else none := by
  cases x <;> rfl
theorem putS_s {s : SV} {x : SV} {env : Env} {i : Nat} : putS (i + 1) s (x :: env) = (putS i s env).bind fun e => some (x :: e) := by
  have h1 : isIo (x :: env) (i + 1) = isIo env i := by
    unfold isIo
    rw [List.getElem?_cons_succ]
  unfold putS
  rw [h1, List.length_cons, List.set_cons_succ]
  by_cases h : isIo env i = true ∨ env.length ≤ i
  · rw [if_pos h, if_pos (h.imp id Nat.succ_le_succ)]
    rfl
  · rw [if_neg h, if_neg (fun z => h (z.imp id Nat.le_of_succ_le_succ))]
    rfl
theorem upO_0 {h : List D → Option (List D)} {x : SV} {env : Env} : upO 0 h (x :: env) = (match x with | .o1 ds => (h ds).bind fun es => some (.o1 es :: env) | .io ds => (h ds).bind fun es => some (.io es :: env) | _ => none) := by
  cases x <;> rfl
theorem upO_s {h : List D → Option (List D)} {x : SV} {env : Env} {i : Nat} : upO (i + 1) h (x :: env) = (upO i h env).bind fun e => some (x :: e) := by
  unfold upO
  rw [List.getElem?_cons_succ]
  cases e : env[i]? with
  | none => rfl
  | some s =>
    cases s with
    | o1 ds => cases e2 : h ds <;> simp [e2]
    | io ds => cases e2 : h ds <;> simp [e2]
    | fz d => rfl
    | nw w => rfl
    | no => rfl
theorem isOwn_0 {x : SV} {env : Env} : isOwn (x :: env) 0 = (match x with | .o1 _ => true | .io _ => true | _ => false) := by
  cases x <;> rfl
theorem isOwn_s {x : SV} {env : Env} {i : Nat} : isOwn (x :: env) (i + 1) = isOwn env i := by
  unfold isOwn
  rw [List.getElem?_cons_succ]
theorem atI_0 {α : Type} {x : α} {xs : List α} : L2.atI (x :: xs) 0 = some x := by
  unfold L2.atI L2.ixN
  simp
theorem atI_natC {α : Type} {xs : List α} {i : Nat} : L2.atI xs (i : Int) = xs[i]? := by
  unfold L2.atI L2.ixN
  by_cases h : i < xs.length
  · rw [if_pos (by omega), if_pos (by omega)]
    simp
  · rw [if_pos (by omega), if_neg (by omega), List.getElem?_eq_none (by omega)]
    rfl
section
variable {env e : Env} {P : RV × Env → Prop} {PT : Bool × Env → Prop} {PA : List RV × Env → Prop} {PO : Out → Prop} {PI : List D × Env → Prop} {PP : Option Int × Env → Prop} {f fa fb : EF} {g h : SFn} {ft gt : TF} {r : RV} {rs : List RV} {fr : AF}
theorem w_var {i : Nat} : Ok (fVar i env) P ↔ (match env[i]? with | some (.fz d) => P (.val d, env) | some (.o1 _) => P (.slot i, env) | some (.io _) => P (.slot i, env) | _ => False) := by
  unfold fVar
  split <;> simp_all [ok_some, ok_none]
theorem w_c {d : D} : Ok (fC d env) P ↔ P (.val d, env) := ok_some
/-- a result in a state -/
def KZ (e : Env) (P : RV × Env → Prop) : RV → Prop := fun z => P (z, e)
theorem k_z {z : RV} : KZ e P z ↔ P (z, e) := Iff.rfl
/-- two things at hand -/
def D2 (g : G2) (x y : Option D) (e : Env) (P : RV × Env → Prop) : Prop := match x, y with
  | some x, some y => Ok (g x y) (KZ e P)
  | _, _ => False
def K2b (g : G2) (r : RV) (P : RV × Env → Prop) : RV × Env → Prop := fun b => D2 g (deref b.2 (frz r)) (deref b.2 b.1) b.2 P
def K2 (g : G2) (fb : EF) (P : RV × Env → Prop) : RV × Env → Prop := fun a => Ok (fb a.2) (K2b g a.1 P)
theorem d_2 {g : G2} {x y : D} : D2 g (some x) (some y) e P ↔ Ok (g x y) (KZ e P) := Iff.rfl
theorem k_2b {g : G2} {r' : RV} : K2b g r P (r', e) ↔ D2 g (deref e (frz r)) (deref e r') e P := Iff.rfl
theorem k_2 {g : G2} : K2 g fb P (r, e) ↔ Ok (fb e) (K2b g r P) := Iff.rfl
theorem w_2 {g : G2} : Ok (f2 g fa fb env) P ↔ Ok (fa env) (K2 g fb P) := by
  unfold f2
  rw [ok_bind]
  constructor <;> intro z <;> refine ok_mono z fun a z => ?_
  · rw [ok_bind] at z
    refine ok_mono z fun b z => ?_
    obtain ⟨q, e, p⟩ := z
    obtain ⟨x, e1, e⟩ := bnd e
    obtain ⟨y, e2, e⟩ := bnd e
    obtain ⟨w, e3, e⟩ := bnd e
    cases e
    show D2 g _ _ _ P
    rw [e1, e2]
    exact ⟨w, e3, p⟩
  · rw [ok_bind]
    refine ok_mono z fun b z => ?_
    have z' : D2 g (deref b.2 (frz a.1)) (deref b.2 b.1) b.2 P := z
    unfold D2 at z'
    split at z'
    · rename_i x y h1 h2
      obtain ⟨w, e3, p⟩ := z'
      exact ⟨(w, b.2), by rw [h1, h2]; simp [e3], p⟩
    · exact z'.elim
def D1 (g : G1) (x : Option D) (e : Env) (P : RV × Env → Prop) : Prop := match x with
  | some x => Ok (g x) (KZ e P)
  | _ => False
def K1 (g : G1) (P : RV × Env → Prop) : RV × Env → Prop := fun a => D1 g (deref a.2 a.1) a.2 P
theorem d_1 {g : G1} {x : D} : D1 g (some x) e P ↔ Ok (g x) (KZ e P) := Iff.rfl
theorem k_1 {g : G1} : K1 g P (r, e) ↔ D1 g (deref e r) e P := Iff.rfl
theorem w_1 {g : G1} : Ok (f1 g fa env) P ↔ Ok (fa env) (K1 g P) := by
  unfold f1
  rw [ok_bind]
  constructor <;> intro z <;> refine ok_mono z fun a z => ?_
  · obtain ⟨q, e, p⟩ := z
    obtain ⟨x, e1, e⟩ := bnd e
    obtain ⟨w, e3, e⟩ := bnd e
    cases e
    show D1 g _ _ P
    rw [e1]
    exact ⟨w, e3, p⟩
  · have z' : D1 g (deref a.2 a.1) a.2 P := z
    unfold D1 at z'
    split at z'
    · rename_i x h1
      obtain ⟨w, e3, p⟩ := z'
      exact ⟨(w, a.2), by rw [h1]; simp [e3], p⟩
    · exact z'.elim
theorem w_nil : Ok (fNil env) PA ↔ PA ([], env) := ok_some
def KCb (r : RV) (PA : List RV × Env → Prop) : List RV × Env → Prop := fun b => PA (frz r :: b.1, b.2)
def KC (fr : AF) (PA : List RV × Env → Prop) : RV × Env → Prop := fun a => Ok (fr a.2) (KCb a.1 PA)
theorem k_cb : KCb r PA (rs, e) ↔ PA (frz r :: rs, e) := Iff.rfl
theorem k_c : KC fr PA (r, e) ↔ Ok (fr e) (KCb r PA) := Iff.rfl
theorem w_cons : Ok (fCons fa fr env) PA ↔ Ok (fa env) (KC fr PA) := by
  show Ok ((fa env).bind fun a => (fr a.2).bind fun b => some (frz a.1 :: b.1, b.2)) PA ↔ _
  simp only [ok_bind, ok_some]
  exact Iff.rfl
def DB (g : GB) (x : Option (List D)) (e : Env) (P : RV × Env → Prop) : Prop := match x with
  | some x => Ok (g x) (KZ e P)
  | _ => False
def KB (g : GB) (P : RV × Env → Prop) : List RV × Env → Prop := fun a => DB g (derefs a.2 a.1) a.2 P
theorem d_b {g : GB} {x : List D} : DB g (some x) e P ↔ Ok (g x) (KZ e P) := Iff.rfl
theorem k_b {g : GB} : KB g P (rs, e) ↔ DB g (derefs e rs) e P := Iff.rfl
theorem w_b {g : GB} : Ok (fB g fr env) P ↔ Ok (fr env) (KB g P) := by
  unfold fB
  rw [ok_bind]
  constructor <;> intro z <;> refine ok_mono z fun a z => ?_
  · obtain ⟨q, e, p⟩ := z
    obtain ⟨x, e1, e⟩ := bnd e
    obtain ⟨w, e3, e⟩ := bnd e
    cases e
    show DB g _ _ P
    rw [e1]
    exact ⟨w, e3, p⟩
  · have z' : DB g (derefs a.2 a.1) a.2 P := z
    unfold DB at z'
    split at z'
    · rename_i x h1
      obtain ⟨w, e3, p⟩ := z'
      exact ⟨(w, a.2), by rw [h1]; simp [e3], p⟩
    · exact z'.elim
def DV (x : Option (List D)) (Q : List D → Prop) : Prop := match x with
  | some x => Q x
  | _ => False
theorem d_v {x : List D} {Q : List D → Prop} : DV (some x) Q ↔ Q x := Iff.rfl
theorem dv_ok {x : Option (List D)} {Q : List D → Prop} : DV x Q ↔ Ok x Q := by
  cases x with
  | none => exact ok_none.symm
  | some y => exact (ok_some (P := Q)).symm
def QTup (e : Env) (P : RV × Env → Prop) : List D → Prop := fun ds => ds.length ≤ 10000000 ∧ P (.val (.tup ds), e)
def QLst (e : Env) (P : RV × Env → Prop) : List D → Prop := fun ds => ds.length ≤ 10000000 ∧ P (.new ds, e)
def KTup (P : RV × Env → Prop) : List RV × Env → Prop := fun a => DV (allVal a.1) (QTup a.2 P)
def KLst (P : RV × Env → Prop) : List RV × Env → Prop := fun a => DV (allVal a.1) (QLst a.2 P)
theorem q_tup {ds : List D} : QTup e P ds ↔ ds.length ≤ 10000000 ∧ P (.val (.tup ds), e) := Iff.rfl
theorem q_lst {ds : List D} : QLst e P ds ↔ ds.length ≤ 10000000 ∧ P (.new ds, e) := Iff.rfl
theorem k_tup : KTup P (rs, e) ↔ DV (allVal rs) (QTup e P) := Iff.rfl
theorem k_lst : KLst P (rs, e) ↔ DV (allVal rs) (QLst e P) := Iff.rfl
theorem w_tup : Ok (fTup fr env) P ↔ Ok (fr env) (KTup P) := by
  unfold fTup
  rw [ok_bind]
  simp only [ok_bind, ok_some, ok_guard]
  constructor <;> intro z <;> refine ok_mono z fun a z => ?_
  · exact dv_ok.mpr z
  · exact dv_ok.mp z
theorem w_lst : Ok (fLst fr env) P ↔ Ok (fr env) (KLst P) := by
  unfold fLst
  rw [ok_bind]
  simp only [ok_bind, ok_some, ok_guard]
  constructor <;> intro z <;> refine ok_mono z fun a z => ?_
  · exact dv_ok.mpr z
  · exact dv_ok.mp z
/-- tests -/
def KT (PT : Bool × Env → Prop) : RV × Env → Prop := fun a => match a.1 with
  | .val (.bl b) => PT (b, a.2)
  | _ => False
theorem k_t {b : Bool} : KT PT (.val (.bl b), e) ↔ PT (b, e) := Iff.rfl
theorem w_T : Ok (fT f env) PT ↔ Ok (f env) (KT PT) := by
  refine ok_bind_iff fun ⟨r, e⟩ => ?_
  cases r with
  | ex n => first | exact ok_none (P := PO) | exact ok_none (P := PT) | exact ok_none (P := PP) | exact ok_none (P := PI) | exact ok_none (P := PF) | exact ok_none (P := P) | exact ok_none | (cases r' <;> exact ok_none (P := PO))
  | val d => cases d <;> first | exact ok_some (P := PT) | exact ok_none (P := PT)
  | slot i => exact ok_none (P := PT)
  | new ds => exact ok_none (P := PT)
  | tw ds => first | (exact ok_none (P := PT)) | exact ok_none (P := PO) | exact ok_none (P := PT) | exact ok_none (P := PP) | exact ok_none (P := PI) | exact ok_none (P := PF) | exact ok_none (P := P) | exact ok_none
def KAnd (gt : TF) (PT : Bool × Env → Prop) : Bool × Env → Prop := fun x => (x.1 = true → Ok (gt x.2) PT) ∧ (x.1 = false → PT (false, x.2))
def KOr (gt : TF) (PT : Bool × Env → Prop) : Bool × Env → Prop := fun x => (x.1 = true → PT (true, x.2)) ∧ (x.1 = false → Ok (gt x.2) PT)
def KNot (PT : Bool × Env → Prop) : Bool × Env → Prop := fun x => PT (!x.1, x.2)
theorem k_and {b : Bool} : KAnd gt PT (b, e) ↔ (b = true → Ok (gt e) PT) ∧ (b = false → PT (false, e)) := Iff.rfl
theorem k_or {b : Bool} : KOr gt PT (b, e) ↔ (b = true → PT (true, e)) ∧ (b = false → Ok (gt e) PT) := Iff.rfl
theorem k_not {b : Bool} : KNot PT (b, e) ↔ PT (!b, e) := Iff.rfl
theorem w_and : Ok (fAnd ft gt env) PT ↔ Ok (ft env) (KAnd gt PT) := by
  unfold fAnd
  simp only [ok_bind, ok_ite, ok_some, Bool.not_eq_true]
  exact Iff.rfl
theorem w_or : Ok (fOr ft gt env) PT ↔ Ok (ft env) (KOr gt PT) := by
  unfold fOr
  simp only [ok_bind, ok_ite, ok_some, Bool.not_eq_true]
  exact Iff.rfl
theorem w_not : Ok (fNot ft env) PT ↔ Ok (ft env) (KNot PT) := by
  unfold fNot
  simp only [ok_bind, ok_some]
  exact Iff.rfl
theorem w_yes : Ok (fYes env) PT ↔ PT (true, env) := ok_some
def KAndV (fb : EF) (P : RV × Env → Prop) : Bool × Env → Prop := fun x => (x.1 = true → Ok (fb x.2) P) ∧ (x.1 = false → P (.val (.bl false), x.2))
def KOrV (fb : EF) (P : RV × Env → Prop) : Bool × Env → Prop := fun x => (x.1 = true → P (.val (.bl true), x.2)) ∧ (x.1 = false → Ok (fb x.2) P)
def KNotV (P : RV × Env → Prop) : Bool × Env → Prop := fun x => P (.val (.bl (!x.1)), x.2)
def KIfE (fa fb : EF) (P : RV × Env → Prop) : Bool × Env → Prop := fun x => (x.1 = true → Ok (fa x.2) P) ∧ (x.1 = false → Ok (fb x.2) P)
theorem k_andV {b : Bool} : KAndV fb P (b, e) ↔ (b = true → Ok (fb e) P) ∧ (b = false → P (.val (.bl false), e)) := Iff.rfl
theorem k_orV {b : Bool} : KOrV fb P (b, e) ↔ (b = true → P (.val (.bl true), e)) ∧ (b = false → Ok (fb e) P) := Iff.rfl
theorem k_notV {b : Bool} : KNotV P (b, e) ↔ P (.val (.bl (!b)), e) := Iff.rfl
theorem k_ifE {b : Bool} : KIfE fa fb P (b, e) ↔ (b = true → Ok (fa e) P) ∧ (b = false → Ok (fb e) P) := Iff.rfl
theorem w_andV : Ok (fAndV fa fb env) P ↔ Ok (fT fa env) (KAndV fb P) := by
  unfold fAndV
  simp only [ok_bind, ok_ite, ok_some, Bool.not_eq_true]
  exact Iff.rfl
theorem w_orV : Ok (fOrV fa fb env) P ↔ Ok (fT fa env) (KOrV fb P) := by
  unfold fOrV
  simp only [ok_bind, ok_ite, ok_some, Bool.not_eq_true]
  exact Iff.rfl
theorem w_notV : Ok (fNotV fa env) P ↔ Ok (fT fa env) (KNotV P) := by
  unfold fNotV
  simp only [ok_bind, ok_some]
  exact Iff.rfl
theorem w_ifE : Ok (fIfE ft fa fb env) P ↔ Ok (ft env) (KIfE fa fb P) := by
  unfold fIfE
  simp only [ok_bind, ok_ite, ok_some, Bool.not_eq_true]
  exact Iff.rfl
/-- statements -/
def KNx (PO : Out → Prop) : Env → Prop := fun e => PO (.nx e)
theorem k_nxt : KNx PO e ↔ PO (.nx e) := Iff.rfl
def KAsg (k : GF) (PO : Out → Prop) : RV × Env → Prop := fun a => match frz a.1 with
  | .val d => Ok (k d a.2) (KNx PO)
  | _ => False
theorem k_asg {k : GF} {d : D} : KAsg k PO (.val d, e) ↔ Ok (k d e) (KNx PO) := Iff.rfl
theorem k_asgN {k : GF} {ds : List D} : KAsg k PO (.new ds, e) ↔ Ok (k (.lst ds) e) (KNx PO) := Iff.rfl
theorem w_asg {k : GF} : Ok (fAsg f k env) PO ↔ Ok (f env) (KAsg k PO) := by
  refine ok_bind_iff fun ⟨r, e⟩ => ?_
  cases r with
  | ex n => first | exact ok_none (P := PO) | exact ok_none (P := PT) | exact ok_none (P := PP) | exact ok_none (P := PI) | exact ok_none (P := PF) | exact ok_none (P := P) | exact ok_none | (cases r' <;> exact ok_none (P := PO))
  | val d => exact ok_bind_iff (P := PO) fun e => ok_some (P := PO)
  | slot i => exact ok_none (P := PO)
  | new ds => exact ok_bind_iff (P := PO) fun e => ok_some (P := PO)
  | tw ds => first | (exact ok_bind_iff (P := PO) fun e => ok_some (P := PO)) | exact ok_none (P := PO) | exact ok_none (P := PT) | exact ok_none (P := PP) | exact ok_none (P := PI) | exact ok_none (P := PF) | exact ok_none (P := P) | exact ok_none
theorem w_name {i : Nat} {d : D} {Q : Env → Prop} : Ok (gfName i d env) Q ↔ Ok (putS i (.fz d) env) Q := Iff.rfl
def KOwn (i : Nat) (PO : Out → Prop) : RV × Env → Prop := fun a => match a.1 with
  | .new ds => Ok (putS i (.o1 ds) a.2) (KNx PO)
  | _ => False
theorem k_own {i : Nat} {ds : List D} : KOwn i PO (.new ds, e) ↔ Ok (putS i (.o1 ds) e) (KNx PO) := Iff.rfl
theorem w_own {i : Nat} : Ok (fOwn i f env) PO ↔ Ok (f env) (KOwn i PO) := by
  refine ok_bind_iff fun ⟨r, e⟩ => ?_
  cases r with
  | ex n => first | exact ok_none (P := PO) | exact ok_none (P := PT) | exact ok_none (P := PP) | exact ok_none (P := PI) | exact ok_none (P := PF) | exact ok_none (P := P) | exact ok_none | (cases r' <;> exact ok_none (P := PO))
  | val d => exact ok_none (P := PO)
  | slot i => exact ok_none (P := PO)
  | new ds => exact ok_bind_iff (P := PO) fun e => ok_some (P := PO)
  | tw ds => first | (exact ok_bind_iff (P := PO) fun e => ok_some (P := PO)) | exact ok_none (P := PO) | exact ok_none (P := PT) | exact ok_none (P := PP) | exact ok_none (P := PI) | exact ok_none (P := PF) | exact ok_none (P := P) | exact ok_none
def KPut (i : Nat) (d : D) (PO : Out → Prop) : Env → Prop := fun e => Ok (putS i (.fz d) e) (KNx PO)
theorem k_put {i : Nat} {d : D} : KPut i d PO e ↔ Ok (putS i (.fz d) e) (KNx PO) := Iff.rfl
def QPar (i j : Nat) (e : Env) (PO : Out → Prop) : List D → Prop := fun ds => match ds with
  | [d, d'] => Ok (putS i (.fz d) e) (KPut j d' PO)
  | _ => False
theorem q_par {i j : Nat} {d d' : D} : QPar i j e PO [d, d'] ↔ Ok (putS i (.fz d) e) (KPut j d' PO) := Iff.rfl
def KPar (i j : Nat) (PO : Out → Prop) : List RV × Env → Prop := fun a => DV (allVal a.1) (QPar i j a.2 PO)
theorem k_par {i j : Nat} : KPar i j PO (rs, e) ↔ DV (allVal rs) (QPar i j e PO) := Iff.rfl
theorem w_par {i j : Nat} : Ok (fPar i j fr env) PO ↔ Ok (fr env) (KPar i j PO) := by
  refine ok_bind_iff fun ⟨rs, e⟩ => ?_
  refine Iff.trans (ok_bind_iff (K := QPar i j e PO) fun ds => ?_) dv_ok.symm
  match ds with
  | [] => exact ok_none (P := PO)
  | [_] => exact ok_none (P := PO)
  | [_, _] => exact ok_bind_iff (P := PO) fun e => ok_bind_iff (P := PO) fun e => ok_some (P := PO)
  | _ :: _ :: _ :: _ => exact ok_none (P := PO)
def KDrop (PO : Out → Prop) : RV × Env → Prop := fun a => PO (.nx a.2)
def KRet (PO : Out → Prop) : RV × Env → Prop := fun a => PO (.rt a.1 a.2)
theorem k_drop : KDrop PO (r, e) ↔ PO (.nx e) := Iff.rfl
theorem k_ret : KRet PO (r, e) ↔ PO (.rt r e) := Iff.rfl
theorem w_drop : Ok (fDrop f env) PO ↔ Ok (f env) (KDrop PO) := by
  unfold fDrop
  simp only [ok_bind, ok_some]
  exact Iff.rfl
theorem w_ret : Ok (fRet f env) PO ↔ Ok (f env) (KRet PO) := by
  unfold fRet
  simp only [ok_bind, ok_some]
  exact Iff.rfl
theorem w_next : Ok (fNext env) PO ↔ PO (.nx env) := ok_some
/-- what follows a statement -/
def SeqK (h : SFn) (P : Out → Prop) : Out → Prop
  | .nx e => Ok (h e) P
  | .rt r e => P (.rt r e)
  | .bk e => P (.bk e)
  | .ct e => P (.ct e)
theorem w_seq : Ok (fSeq g h env) PO ↔ Ok (g env) (SeqK h PO) := by
  unfold fSeq
  rw [ok_bind]
  constructor <;> intro z <;> refine ok_mono z fun o z => ?_
  · cases o <;> first | exact z | exact (ok_some (P := PO)).mp z
  · cases o <;> first | exact z | exact (ok_some (P := PO)).mpr z
theorem k_nx : SeqK h PO (.nx e) ↔ Ok (h e) PO := Iff.rfl
theorem k_rt : SeqK h PO (.rt r e) ↔ PO (.rt r e) := Iff.rfl
theorem k_bk : SeqK h PO (.bk e) ↔ PO (.bk e) := Iff.rfl
theorem k_ct : SeqK h PO (.ct e) ↔ PO (.ct e) := Iff.rfl
def KIf (g h : SFn) (PO : Out → Prop) : Bool × Env → Prop := fun b => (b.1 = true → Ok (g b.2) PO) ∧ (b.1 = false → Ok (h b.2) PO)
theorem k_if {b : Bool} : KIf g h PO (b, e) ↔ (b = true → Ok (g e) PO) ∧ (b = false → Ok (h e) PO) := Iff.rfl
theorem w_if : Ok (fIf ft g h env) PO ↔ Ok (ft env) (KIf g h PO) := by
  unfold fIf
  simp only [ok_bind, ok_ite, Bool.not_eq_true]
  exact Iff.rfl
/-- xs[k] = d -/
def setF (k : Int) (d : D) : List D → Option (List D) := fun ds => (ixN ds.length k).bind fun j => some (ds.set j d)
def KSetB (i : Nat) (r : RV) (PO : Out → Prop) : RV × Env → Prop := fun b => match frz r, b.1 with
  | .val d, .val (.int k) => Ok (upO i (setF k d) b.2) (KNx PO)
  | _, _ => False
def KSet (i : Nat) (fk : EF) (PO : Out → Prop) : RV × Env → Prop := fun a => isOwn a.2 i = true ∧ Ok (fk a.2) (KSetB i a.1 PO)
theorem k_setB {i : Nat} {d : D} {k : Int} : KSetB i (.val d) PO (.val (.int k), e) ↔ Ok (upO i (setF k d) e) (KNx PO) := Iff.rfl
theorem k_set {i : Nat} {fk : EF} : KSet i fk PO (r, e) ↔ isOwn e i = true ∧ Ok (fk e) (KSetB i r PO) := Iff.rfl
theorem w_setI {i : Nat} {fk fe : EF} : Ok (fSetI i fk fe env) PO ↔ Ok (fe env) (KSet i fk PO) := by
  refine ok_bind_iff fun ⟨r, e⟩ => ?_
  rw [ok_guard]
  refine and_congr_right fun _ => ok_bind_iff fun ⟨r', e'⟩ => ?_
  cases r with
  | ex n => first | exact ok_none (P := PO) | exact ok_none (P := PT) | exact ok_none (P := PP) | exact ok_none (P := PI) | exact ok_none (P := PF) | exact ok_none (P := P) | exact ok_none | (cases r' <;> exact ok_none (P := PO))
  | val d =>
    cases r' with
    | ex n => first | exact ok_none (P := PO) | exact ok_none (P := PT) | exact ok_none (P := PP) | exact ok_none (P := PI) | exact ok_none (P := PF) | exact ok_none (P := P) | exact ok_none | (cases r' <;> exact ok_none (P := PO))
    | val k => cases k <;> first | exact ok_bind_iff (P := PO) fun e => ok_some (P := PO) | exact ok_none (P := PO)
    | slot i => exact ok_none (P := PO)
    | new ds => exact ok_none (P := PO)
    | tw ds => first | (exact ok_none (P := PO)) | exact ok_none (P := PO) | exact ok_none (P := PT) | exact ok_none (P := PP) | exact ok_none (P := PI) | exact ok_none (P := PF) | exact ok_none (P := P) | exact ok_none
  | slot i => cases r' <;> exact ok_none (P := PO)
  | new ds =>
    cases r' with
    | ex n => first | exact ok_none (P := PO) | exact ok_none (P := PT) | exact ok_none (P := PP) | exact ok_none (P := PI) | exact ok_none (P := PF) | exact ok_none (P := P) | exact ok_none | (cases r' <;> exact ok_none (P := PO))
    | val k => cases k <;> first | exact ok_bind_iff (P := PO) fun e => ok_some (P := PO) | exact ok_none (P := PO)
    | slot i => exact ok_none (P := PO)
    | new ds => exact ok_none (P := PO)
    | tw ds => first | (exact ok_none (P := PO)) | exact ok_none (P := PO) | exact ok_none (P := PT) | exact ok_none (P := PP) | exact ok_none (P := PI) | exact ok_none (P := PF) | exact ok_none (P := P) | exact ok_none
  | tw ds =>
    cases r' with
    | ex n => first | exact ok_none (P := PO) | exact ok_none (P := PT) | exact ok_none (P := PP) | exact ok_none (P := PI) | exact ok_none (P := PF) | exact ok_none (P := P) | exact ok_none | (cases r' <;> exact ok_none (P := PO))
    | val k => cases k <;> first | exact ok_bind_iff (P := PO) fun e => ok_some (P := PO) | exact ok_none (P := PO)
    | slot i => exact ok_none (P := PO)
    | new ds => exact ok_none (P := PO)
    | tw ds => first | (exact ok_none (P := PO)) | exact ok_none (P := PO) | exact ok_none (P := PT) | exact ok_none (P := PP) | exact ok_none (P := PI) | exact ok_none (P := PF) | exact ok_none (P := P) | exact ok_none
def KNon (P : RV × Env → Prop) : Env → Prop := fun e => P (.val .non, e)
theorem k_non : KNon P e ↔ P (.val .non, e) := Iff.rfl
def KOM (i : Nat) (k : D → List D → Option (List D)) (P : RV × Env → Prop) : RV × Env → Prop := fun a => match frz a.1 with
  | .val d => Ok (upO i (k d) a.2) (KNon P)
  | _ => False
theorem k_om {i : Nat} {k : D → List D → Option (List D)} {d : D} : KOM i k P (.val d, e) ↔ Ok (upO i (k d) e) (KNon P) := Iff.rfl
theorem k_omN {i : Nat} {k : D → List D → Option (List D)} {ds : List D} : KOM i k P (.new ds, e) ↔ Ok (upO i (k (.lst ds)) e) (KNon P) := Iff.rfl
theorem w_om {i : Nat} {k : D → List D → Option (List D)} : Ok (fOM i k f env) P ↔ isOwn env i = true ∧ Ok (f env) (KOM i k P) := by
  unfold fOM
  rw [ok_guard]
  refine and_congr_right fun _ => ok_bind_iff fun ⟨r, e⟩ => ?_
  cases r with
  | ex n => first | exact ok_none (P := PO) | exact ok_none (P := PT) | exact ok_none (P := PP) | exact ok_none (P := PI) | exact ok_none (P := PF) | exact ok_none (P := P) | exact ok_none | (cases r' <;> exact ok_none (P := PO))
  | val d => exact ok_bind_iff (P := P) fun e => ok_some (P := P)
  | slot i => exact ok_none (P := P)
  | new ds => exact ok_bind_iff (P := P) fun e => ok_some (P := P)
  | tw ds => first | (exact ok_bind_iff (P := P) fun e => ok_some (P := P)) | exact ok_none (P := PO) | exact ok_none (P := PT) | exact ok_none (P := PP) | exact ok_none (P := PI) | exact ok_none (P := PF) | exact ok_none (P := P) | exact ok_none
theorem w_om0 {i : Nat} {k : List D → Option (List D)} : Ok (fOM0 i k env) P ↔ Ok (upO i k env) (KNon P) := by
  unfold fOM0
  simp only [ok_bind, ok_some]
  exact Iff.rfl
/-- slices -/
def DS (g : GS) (x : Option D) (lo hi : Option Int) (e : Env) (P : RV × Env → Prop) : Prop := match x with
  | some x => Ok (g x lo hi) (KZ e P)
  | _ => False
theorem d_s {g : GS} {x : D} {lo hi : Option Int} : DS g (some x) lo hi e P ↔ Ok (g x lo hi) (KZ e P) := Iff.rfl
def KSlc (g : GS) (r : RV) (lo : Option Int) (P : RV × Env → Prop) : Option Int × Env → Prop := fun c => DS g (deref c.2 (frz r)) lo c.1 c.2 P
def KSlb (g : GS) (r : RV) (fh : OF) (P : RV × Env → Prop) : Option Int × Env → Prop := fun b => Ok (fh b.2) (KSlc g r b.1 P)
def KSl (g : GS) (fl fh : OF) (P : RV × Env → Prop) : RV × Env → Prop := fun a => Ok (fl a.2) (KSlb g a.1 fh P)
theorem k_slc {g : GS} {lo hi : Option Int} : KSlc g r lo P (hi, e) ↔ DS g (deref e (frz r)) lo hi e P := Iff.rfl
theorem k_slb {g : GS} {fh : OF} {lo : Option Int} : KSlb g r fh P (lo, e) ↔ Ok (fh e) (KSlc g r lo P) := Iff.rfl
theorem k_sl {g : GS} {fl fh : OF} : KSl g fl fh P (r, e) ↔ Ok (fl e) (KSlb g r fh P) := Iff.rfl
theorem w_sl {g : GS} {fl fh : OF} : Ok (fSl g f fl fh env) P ↔ Ok (f env) (KSl g fl fh P) := by
  unfold fSl
  rw [ok_bind]
  constructor <;> intro z <;> refine ok_mono z fun a z => ?_
  · rw [ok_bind] at z
    refine ok_mono z fun b z => ?_
    rw [ok_bind] at z
    refine ok_mono z fun c z => ?_
    obtain ⟨q, e, p⟩ := z
    obtain ⟨x, e1, e⟩ := bnd e
    obtain ⟨w, e3, e⟩ := bnd e
    cases e
    show DS g _ _ _ _ P
    rw [e1]
    exact ⟨w, e3, p⟩
  · rw [ok_bind]
    refine ok_mono z fun b z => ?_
    rw [ok_bind]
    refine ok_mono z fun c z => ?_
    have z' : DS g (deref c.2 (frz a.1)) b.1 c.1 c.2 P := z
    unfold DS at z'
    split at z'
    · rename_i x h1
      obtain ⟨w, e3, p⟩ := z'
      exact ⟨(w, c.2), by rw [h1]; simp [e3], p⟩
    · exact z'.elim
theorem w_noP : Ok (fNoP env) PP ↔ PP (none, env) := ok_some
def KPt (PP : Option Int × Env → Prop) : RV × Env → Prop := fun a => match a.1 with
  | .val (.int i) => PP (some i, a.2)
  | _ => False
theorem k_pt {i : Int} : KPt PP (.val (.int i), e) ↔ PP (some i, e) := Iff.rfl
theorem w_pt : Ok (fPt f env) PP ↔ Ok (f env) (KPt PP) := by
  refine ok_bind_iff fun ⟨r, e⟩ => ?_
  cases r with
  | ex n => first | exact ok_none (P := PO) | exact ok_none (P := PT) | exact ok_none (P := PP) | exact ok_none (P := PI) | exact ok_none (P := PF) | exact ok_none (P := P) | exact ok_none | (cases r' <;> exact ok_none (P := PO))
  | val d => cases d <;> first | exact ok_some (P := PP) | exact ok_none (P := PP)
  | slot i => exact ok_none (P := PP)
  | new ds => exact ok_none (P := PP)
  | tw ds => first | (exact ok_none (P := PP)) | exact ok_none (P := PO) | exact ok_none (P := PT) | exact ok_none (P := PP) | exact ok_none (P := PI) | exact ok_none (P := PF) | exact ok_none (P := P) | exact ok_none
def gIsi (T : String) : G1 := fun d => (kitD d T).bind fun b => some (.val (.bl b))
theorem w_isi {T : String} : Ok (fIsi T f env) P ↔ Ok (f env) (K1 (gIsi T) P) := by
  rw [← w_1]
  have : fIsi T f env = f1 (gIsi T) f env := by
    unfold fIsi f1 gIsi
    congr 1
    funext a
    congr 1
    funext x
    cases kitD x T <;> rfl
  rw [this]
/-- calls -/
def KRes (bor : List Nat) (outs : List (List D)) (r : D × Bool × List (List D)) (P : RV × Env → Prop) : Env → Prop := fun e => match resR r with
  | some z => (lentOk bor z && outs.all (fun ds => bor.isEmpty || noLs ds)) = true ∧ P (z, e)
  | none => False
def KBack (ios bor : List Nat) (e : Env) (P : RV × Env → Prop) : D × Bool × List (List D) → Prop := fun r => Ok (putOuts ios r.2.2 e) (KRes bor r.2.2 r P)
def QArg (g : FF) (e : Env) (P : RV × Env → Prop) : List D × List Nat × List Nat → Prop := fun x => (decide x.2.1.Nodup && decide (∀ i, i ∈ x.2.1 → i ∉ x.2.2)) = true ∧ Ok (g x.1) (KBack x.2.1 x.2.2 e P)
def KCall (io : List Bool) (g : FF) (P : RV × Env → Prop) : List RV × Env → Prop := fun a => Ok (argD a.2 io a.1) (QArg g a.2 P)
theorem k_call {io : List Bool} {g : FF} : KCall io g P (rs, e) ↔ Ok (argD e io rs) (QArg g e P) := Iff.rfl
theorem q_arg {g : FF} {ds : List D} {ios bor : List Nat} : QArg g e P (ds, ios, bor) ↔ (decide ios.Nodup && decide (∀ i, i ∈ ios → i ∉ bor)) = true ∧ Ok (g ds) (KBack ios bor e P) := Iff.rfl
theorem k_back {ios bor : List Nat} {d : D} {fr : Bool} {outs : List (List D)} : KBack ios bor e P (d, fr, outs) ↔ Ok (putOuts ios outs e) (KRes bor outs (d, fr, outs) P) := Iff.rfl
theorem k_resF {bor : List Nat} {outs outs' : List (List D)} {d : D} : KRes bor outs (d, false, outs') P e ↔ ((bor.isEmpty || noL d) && outs.all (fun ds => bor.isEmpty || noLs ds)) = true ∧ P (.val d, e) := by
  unfold KRes resR
  cases d <;> exact Iff.rfl
theorem k_resT {bor : List Nat} {outs outs' : List (List D)} {ds : List D} : KRes bor outs (.lst ds, true, outs') P e ↔ ((bor.isEmpty || noLs ds) && outs.all (fun ds => bor.isEmpty || noLs ds)) = true ∧ P (.new ds, e) := Iff.rfl
theorem w_call {io : List Bool} {g : FF} : Ok (fCall io g fr env) P ↔ Ok (fr env) (KCall io g P) := by
  unfold fCall
  simp only [ok_bind, ok_some, ok_guard]
  constructor <;> intro z <;> refine ok_mono z fun a z => ?_
  · refine ok_mono z fun x z => ⟨z.1, ok_mono z.2 fun r z => ok_mono z fun e z => ?_⟩
    obtain ⟨w, h, z⟩ := z
    unfold KRes
    rw [h]
    exact z
  · refine ok_mono z fun x z => ⟨z.1, ok_mono z.2 fun r z => ok_mono z fun e z => ?_⟩
    unfold KRes at z
    split at z
    · exact ⟨_, by assumption, z⟩
    · exact z.elim
/-- loops, comprehensions -/
def KLc3 (e0 : Env) (vs : List Nat) (P : RV × Env → Prop) : List D × Env → Prop := fun r => r.1.length ≤ 10000000 ∧ P (.new r.1, restE e0 vs r.2)
def KLc2 (k : GF) (tt : TF) (f : EF) (vs : List Nat) (ds : List D) (e0 : Env) (P : RV × Env → Prop) : Env → Prop := fun w => Ok (lcN k tt f vs ds w) (KLc3 e0 vs P)
def KLc (k : GF) (tt : TF) (f : EF) (vs : List Nat) (P : RV × Env → Prop) : List D × Env → Prop := fun a => Ok (wipeO vs a.2) (KLc2 k tt f vs a.1 a.2 P)
theorem k_lc {k : GF} {tt : TF} {vs : List Nat} {ds : List D} : KLc k tt f vs P (ds, e) ↔ Ok (wipeO vs e) (KLc2 k tt f vs ds e P) := Iff.rfl
theorem k_lc2 {k : GF} {tt : TF} {vs : List Nat} {ds : List D} {e0 : Env} : KLc2 k tt f vs ds e0 P e ↔ Ok (lcN k tt f vs ds e) (KLc3 e0 vs P) := Iff.rfl
theorem k_lc3 {vs : List Nat} {ds : List D} {e0 : Env} : KLc3 e0 vs P (ds, e) ↔ ds.length ≤ 10000000 ∧ P (.new ds, restE e0 vs e) := Iff.rfl
theorem w_lc {fi : IF} {k : GF} {tt : TF} {vs : List Nat} : Ok (fLc fi k tt f vs env) P ↔ Ok (fi env) (KLc k tt f vs P) := by
  unfold fLc
  simp only [ok_bind, ok_some, ok_guard]
  exact Iff.rfl
def KFor (k : GF) (g : SFn) (PO : Out → Prop) : List D × Env → Prop := fun a => Ok (loopN k g a.1 a.2) PO
theorem k_for {k : GF} {ds : List D} : KFor k g PO (ds, e) ↔ Ok (loopN k g ds e) PO := Iff.rfl
theorem w_for {fi : IF} {k : GF} : Ok (fFor fi k g env) PO ↔ Ok (fi env) (KFor k g PO) := by
  unfold fFor
  simp only [ok_bind]
  exact Iff.rfl
theorem w_while {fuel : Env → Nat} : Ok (fWhile fuel ft g env) PO ↔ Ok (whileN ft g (fuel env) env) PO := Iff.rfl
def QR1 (e : Env) (PI : List D × Env → Prop) : List D → Prop := fun ds => match ds with
  | [.int j] => (-1000000000000 ≤ j ∧ j ≤ 1000000000000) ∧ PI (rangeD 0 j.toNat, e)
  | _ => False
theorem q_r1 {j : Int} : QR1 e PI [.int j] ↔ (-1000000000000 ≤ j ∧ j ≤ 1000000000000) ∧ PI (rangeD 0 j.toNat, e) := Iff.rfl
def KR1 (PI : List D × Env → Prop) : List RV × Env → Prop := fun a => DV (allVal a.1) (QR1 a.2 PI)
theorem k_r1 : KR1 PI (rs, e) ↔ DV (allVal rs) (QR1 e PI) := Iff.rfl
theorem w_range1 : Ok (fRange1 fr env) PI ↔ Ok (fr env) (KR1 PI) := by
  refine ok_bind_iff fun ⟨rs, e⟩ => ?_
  refine Iff.trans (ok_bind_iff (K := QR1 e PI) fun ds => ?_) dv_ok.symm
  match ds with
  | [] => exact ok_none (P := PI)
  | [d] =>
    cases d with
    | int j => exact Iff.trans ok_guard (and_congr_right fun _ => ok_some (P := PI))
    | _ => exact ok_none (P := PI)
  | d :: _ :: _ => cases d <;> exact ok_none (P := PI)
def KIL (PI : List D × Env → Prop) : RV × Env → Prop := fun a => match frz a.1 with
  | .val (.lst ds) => PI (ds, a.2)
  | _ => False
theorem k_il {ds : List D} : KIL PI (.val (.lst ds), e) ↔ PI (ds, e) := Iff.rfl
theorem k_ilN {ds : List D} : KIL PI (.new ds, e) ↔ PI (ds, e) := Iff.rfl
theorem w_iterL : Ok (fIterL f env) PI ↔ Ok (f env) (KIL PI) := by
  refine ok_bind_iff fun ⟨r, e⟩ => ?_
  cases r with
  | ex n => first | exact ok_none (P := PO) | exact ok_none (P := PT) | exact ok_none (P := PP) | exact ok_none (P := PI) | exact ok_none (P := PF) | exact ok_none (P := P) | exact ok_none | (cases r' <;> exact ok_none (P := PO))
  | val d => cases d <;> first | exact ok_some (P := PI) | exact ok_none (P := PI)
  | slot i => exact ok_none (P := PI)
  | new ds => first | exact ok_some (P := PI) | exact ok_none (P := PI)
  | tw ds => first | (first | exact ok_some (P := PI) | exact ok_none (P := PI)) | exact ok_none (P := PO) | exact ok_none (P := PT) | exact ok_none (P := PP) | exact ok_none (P := PI) | exact ok_none (P := PF) | exact ok_none (P := P) | exact ok_none
def KIT (PI : List D × Env → Prop) : RV × Env → Prop := fun a => match frz a.1 with
  | .val (.tup ds) => PI (ds, a.2)
  | .val (.nt ds) => PI (ds, a.2)
  | _ => False
theorem k_itN {ds : List D} : KIT PI (.val (.nt ds), e) ↔ PI (ds, e) := Iff.rfl
theorem k_it {ds : List D} : KIT PI (.val (.tup ds), e) ↔ PI (ds, e) := Iff.rfl
theorem w_iterT : Ok (fIterT f env) PI ↔ Ok (f env) (KIT PI) := by
  refine ok_bind_iff fun ⟨r, e⟩ => ?_
  cases r with
  | ex n => first | exact ok_none (P := PO) | exact ok_none (P := PT) | exact ok_none (P := PP) | exact ok_none (P := PI) | exact ok_none (P := PF) | exact ok_none (P := P) | exact ok_none | (cases r' <;> exact ok_none (P := PO))
  | val d => cases d <;> first | exact ok_some (P := PI) | exact ok_none (P := PI)
  | slot i => exact ok_none (P := PI)
  | new ds => first | exact ok_some (P := PI) | exact ok_none (P := PI)
  | tw ds => first | (first | exact ok_some (P := PI) | exact ok_none (P := PI)) | exact ok_none (P := PO) | exact ok_none (P := PT) | exact ok_none (P := PP) | exact ok_none (P := PI) | exact ok_none (P := PF) | exact ok_none (P := P) | exact ok_none
/-- a def -/
def outF (io : List Bool) (d : D) (fr : Bool) (e : Env) (P : D × Bool × List (List D) → Prop) : Prop := match outE e (ioIx 0 io) with
  | some outs => P (d, fr, outs)
  | none => False
def KFin (io : List Bool) (P : D × Bool × List (List D) → Prop) : Out → Prop
  | .nx e => outF io .non false e P
  | .rt (.val d) e => outF io d false e P
  | .rt (.new es) e => outF io (.lst es) true e P
  | .rt (.tw dss) e => outF io (.tup (dss.map D.lst)) true e P
  | .rt (.slot i) e => match e[i]? with
    | some (.o1 es) => outF io (.lst es) true e P
    | _ => False
  | _ => False
variable {PF : D × Bool × List (List D) → Prop} {io : List Bool}
theorem k_finN : KFin io PF (.nx e) ↔ outF io .non false e PF := Iff.rfl
theorem k_finV {d : D} : KFin io PF (.rt (.val d) e) ↔ outF io d false e PF := Iff.rfl
theorem k_finW {ds : List D} : KFin io PF (.rt (.new ds) e) ↔ outF io (.lst ds) true e PF := Iff.rfl
theorem k_finT {dss : List (List D)} : KFin io PF (.rt (.tw dss) e) ↔ outF io (.tup (dss.map D.lst)) true e PF := Iff.rfl
theorem k_finS {i : Nat} : KFin io PF (.rt (.slot i) e) ↔ (match e[i]? with | some (.o1 es) => outF io (.lst es) true e PF | _ => False) := Iff.rfl
theorem out_ok {d : D} {fr : Bool} : outF io d fr e PF ↔ Ok ((outE e (ioIx 0 io)).bind fun outs => some (d, fr, outs)) PF := by
  unfold outF
  split
  · rename_i h
    rw [h]
    exact ok_some.symm
  · rename_i h
    rw [h]
    exact ok_none.symm
theorem w_def {m : Nat} {b : SFn} {ds : List D} {e0 : Env} (he : argS io ds = some e0) : Ok (fDef m io b ds) PF ↔ Ok (b (e0 ++ List.replicate m .no)) (KFin io PF) := by
  unfold fDef
  rw [he, Option.bind_some]
  refine ok_bind_iff fun o => ?_
  cases o with
  | nx e => exact out_ok.symm
  | rt r e =>
    cases r with
    | ex n => first | exact ok_none (P := PO) | exact ok_none (P := PT) | exact ok_none (P := PP) | exact ok_none (P := PI) | exact ok_none (P := PF) | exact ok_none (P := P) | exact ok_none | (cases r' <;> exact ok_none (P := PO))
    | val d => exact out_ok.symm
    | new ds => exact out_ok.symm
    | tw ds => first | (exact out_ok.symm) | exact ok_none (P := PO) | exact ok_none (P := PT) | exact ok_none (P := PP) | exact ok_none (P := PI) | exact ok_none (P := PF) | exact ok_none (P := P) | exact ok_none
    | slot i =>
      cases h : e[i]? with
      | none =>
        show Ok (match e[i]? with | some (.o1 es) => (outE e (ioIx 0 io)).bind fun outs => some (.lst es, true, outs) | _ => none) PF ↔ (match e[i]? with | some (.o1 es) => outF io (.lst es) true e PF | _ => False)
        rw [h]
        exact ok_none
      | some s =>
        show Ok (match e[i]? with | some (.o1 es) => (outE e (ioIx 0 io)).bind fun outs => some (.lst es, true, outs) | _ => none) PF ↔ (match e[i]? with | some (.o1 es) => outF io (.lst es) true e PF | _ => False)
        rw [h]
        cases s <;> first | exact out_ok.symm | exact ok_none
  | bk e => exact ok_none (P := PF)
  | ct e => exact ok_none (P := PF)
end
theorem gEq_int {i j : Int} : gEq (.int i) (.int j) = some (.val (.bl (decide (i = j)))) := by
  have h3 : eqD (.int i) (.int j) = decide (i = j) := by
    show (i == j) = decide (i = j)
    exact (Bool.beq_eq_decide_eq i j)
  show some (RV.val (D.bl (eqD (.int i) (.int j)))) = _
  rw [h3]
theorem gNe_int {i j : Int} : gNe (.int i) (.int j) = some (.val (.bl (!decide (i = j)))) := by
  have h3 : eqD (.int i) (.int j) = decide (i = j) := by
    show (i == j) = decide (i = j)
    exact (Bool.beq_eq_decide_eq i j)
  show some (RV.val (D.bl (!eqD (.int i) (.int j)))) = _
  rw [h3]
theorem gAdd_int {i j : Int} : gAdd (.int i) (.int j) = some (.val (.int (i + j))) := rfl
theorem gSub_int {i j : Int} : gSub (.int i) (.int j) = some (.val (.int (i - j))) := rfl
theorem gMul_int {i j : Int} : gMul (.int i) (.int j) = if mulB i j = true then some (.val (.int (i * j))) else none := by
  unfold gMul gI gRep
  simp only [Option.or_none]
theorem gDiv_int {i j : Int} : gDiv (.int i) (.int j) = if divB i j = true then some (.val (.int (i.fdiv j))) else none := rfl
theorem gMod_int {i j : Int} : gMod (.int i) (.int j) = if modB i j = true then some (.val (.int (i.fmod j))) else none := rfl
theorem gPow_int {i j : Int} : gPow (.int i) (.int j) = if powB i j = true then some (.val (.int (i ^ j.toNat))) else none := rfl
theorem gLt_int {i j : Int} : gLt (.int i) (.int j) = some (.val (.bl (decide (i < j)))) := rfl
theorem gLe_int {i j : Int} : gLe (.int i) (.int j) = some (.val (.bl (decide (i ≤ j)))) := rfl
theorem gGt_int {i j : Int} : gGt (.int i) (.int j) = some (.val (.bl (decide (j < i)))) := rfl
theorem gGe_int {i j : Int} : gGe (.int i) (.int j) = some (.val (.bl (decide (j ≤ i)))) := rfl
section
variable {α : Type} {x0 x1 x2 x3 x4 x5 x6 x7 : α} {r : List α}
theorem atI_1 : L2.atI (x0 :: x1 :: r) 1 = some x1 := (atI_natC (i := 1)).trans rfl
theorem atI_2 : L2.atI (x0 :: x1 :: x2 :: r) 2 = some x2 := (atI_natC (i := 2)).trans rfl
theorem atI_3 : L2.atI (x0 :: x1 :: x2 :: x3 :: r) 3 = some x3 := (atI_natC (i := 3)).trans rfl
theorem atI_4 : L2.atI (x0 :: x1 :: x2 :: x3 :: x4 :: r) 4 = some x4 := (atI_natC (i := 4)).trans rfl
theorem atI_5 : L2.atI (x0 :: x1 :: x2 :: x3 :: x4 :: x5 :: r) 5 = some x5 := (atI_natC (i := 5)).trans rfl
theorem atI_6 : L2.atI (x0 :: x1 :: x2 :: x3 :: x4 :: x5 :: x6 :: r) 6 = some x6 := (atI_natC (i := 6)).trans rfl
theorem atI_7 : L2.atI (x0 :: x1 :: x2 :: x3 :: x4 :: x5 :: x6 :: x7 :: r) 7 = some x7 := (atI_natC (i := 7)).trans rfl
theorem atI_neg {xs : List α} : L2.atI xs (-1) = xs.getLast? := by
  cases xs with
  | nil => rfl
  | cons a l =>
    unfold L2.atI L2.ixN
    rw [if_neg (by decide), if_pos (by simp only [List.length_cons]; omega), List.getLast?_eq_getElem?]
    show (a :: l)[((-1 : Int) + ((a :: l).length : Nat)).toNat]? = _
    congr 1
    simp only [List.length_cons]
    omega
end
theorem ixN20 : L2.ixN 2 0 = some 0 := rfl
theorem ixN21 : L2.ixN 2 1 = some 1 := rfl
/-- sizes -/
theorem log2_le {n k : Nat} (h : n < 2 ^ k) : n.log2 ≤ k := by
  by_cases h0 : n = 0
  · subst h0
    simp
  · exact Nat.le_of_lt ((Nat.log2_lt h0).mpr h)
theorem mulB_of {i j : Int} {a b : Nat} (hi : i.natAbs < 2 ^ a) (hj : j.natAbs < 2 ^ b) (h : a + b ≤ 134000000) : mulB i j = true := by
  have h1 := log2_le hi
  have h2 := log2_le hj
  exact decide_eq_true (by omega)
theorem modB_of {i j : Int} (h : j ≠ 0) : modB i j = true := decide_eq_true h
theorem divB_of {i j : Int} (h : j ≠ 0) (h2 : j.natAbs < 2 ^ 8999) : divB i j = true := by
  unfold divB
  rw [decide_eq_true h, decide_eq_true (Nat.lt_succ_of_le (log2_le h2))]
  rfl
theorem powB_of {i : Int} {n a : Nat} (hi : i.natAbs < 2 ^ a) (h : (a + 1) * n ≤ 134217728) : powB i (n : Int) = true := by
  unfold powB
  have h1 := log2_le hi
  rw [decide_eq_true (Int.natCast_nonneg n), decide_eq_true]
  · rfl
  · have : ((i.natAbs.log2 + 1 : Nat) : Int) * (n : Int) = (((i.natAbs.log2 + 1) * n : Nat) : Int) := by simp
    rw [this]
    have h3 : (i.natAbs.log2 + 1) * n ≤ (a + 1) * n := Nat.mul_le_mul_right n (by omega)
    omega
/-- small numbers -/
theorem p40 : (10 : Nat) ^ 40 < 2 ^ 133 := by decide +kernel
theorem nat40 {i : Int} (h1 : -(10 ^ 40) ≤ i) (h2 : i ≤ 10 ^ 40) : i.natAbs < 2 ^ 133 := Nat.lt_of_le_of_lt (by omega) p40
theorem mul40 {i j : Int} (h1 : -(10 ^ 40) ≤ i) (h2 : i ≤ 10 ^ 40) (h3 : -(10 ^ 40) ≤ j) (h4 : j ≤ 10 ^ 40) : mulB i j = true := mulB_of (nat40 h1 h2) (nat40 h3 h4) (by decide)
theorem div40 {i j : Int} (h0 : 0 < j) (h2 : j ≤ 10 ^ 40) : divB i j = true := divB_of (by omega) (Nat.lt_trans (nat40 (by omega) h2) (Nat.pow_lt_pow_right (by decide) (by decide)))
theorem fmod_nn {a b : Int} (h : 0 < b) : 0 ≤ a.fmod b ∧ a.fmod b < b := by
  rw [Int.fmod_eq_emod_of_nonneg a (Int.le_of_lt h)]
  exact ⟨Int.emod_nonneg a (by omega), Int.emod_lt_of_pos a h⟩
theorem fdiv_nn {a b : Int} (ha : 0 ≤ a) (h : 0 < b) : 0 ≤ a.fdiv b := by
  rw [Int.fdiv_eq_ediv_of_nonneg a (Int.le_of_lt h)]
  exact Int.ediv_nonneg ha (Int.le_of_lt h)
section
variable {env e : Env} {k : GF} {g : SFn} {d : D} {ds : List D} {P : Out → Prop} {r : RV}
def KTurn (k : GF) (g : SFn) (ds : List D) (P : Out → Prop) : Out → Prop
  | .nx e => Ok (loopN k g ds e) P
  | .ct e => Ok (loopN k g ds e) P
  | .bk e => P (.nx e)
  | .rt r e => P (.rt r e)
def KTgt (k : GF) (g : SFn) (ds : List D) (P : Out → Prop) : Env → Prop := fun e => Ok (g e) (KTurn k g ds P)
theorem k_tgt : KTgt k g ds P e ↔ Ok (g e) (KTurn k g ds P) := Iff.rfl
theorem k_tnx : KTurn k g ds P (.nx e) ↔ Ok (loopN k g ds e) P := Iff.rfl
theorem k_tct : KTurn k g ds P (.ct e) ↔ Ok (loopN k g ds e) P := Iff.rfl
theorem k_tbk : KTurn k g ds P (.bk e) ↔ P (.nx e) := Iff.rfl
theorem k_trt : KTurn k g ds P (.rt r e) ↔ P (.rt r e) := Iff.rfl
theorem w_loop0 : Ok (loopN k g [] env) P ↔ P (.nx env) := ok_some
theorem w_loop1 : Ok (loopN k g (d :: ds) env) P ↔ Ok (k d env) (KTgt k g ds P) := by
  show Ok ((k d env).bind _) P ↔ _
  refine ok_bind_iff fun e => ok_bind_iff fun o => ?_
  cases o with
  | nx e => exact Iff.rfl
  | ct e => exact Iff.rfl
  | bk e => exact ok_some (P := P)
  | rt r e => exact ok_some (P := P)
end
section
variable {env e : Env} {P : RV × Env → Prop} {K : Env → Prop} {x : SV} {s : SV} {i : Nat} {h : List D → Option (List D)}
def KIx (e : Env) (P : RV × Env → Prop) : D → Prop := fun d => P (.val d, e)
def KIxI (e : Env) (P : RV × Env → Prop) : Int → Prop := fun d => P (.val (.int d), e)
theorem k_ix {d : D} : KIx e P d ↔ P (.val d, e) := Iff.rfl
theorem k_ixI {d : Int} : KIxI e P d ↔ P (.val (.int d), e) := Iff.rfl
theorem w_ixL {ds : List D} {k : Int} : Ok (gIx (.lst ds) (.int k)) (KZ e P) ↔ Ok (L2.atI ds k) (KIx e P) := ok_bind_iff fun d => ok_some
theorem w_ixT {ds : List D} {k : Int} : Ok (gIx (.tup ds) (.int k)) (KZ e P) ↔ Ok (L2.atI ds k) (KIx e P) := ok_bind_iff fun d => ok_some
theorem w_ixN {ds : List D} {k : Int} : Ok (gIx (.nt ds) (.int k)) (KZ e P) ↔ Ok (L2.atI ds k) (KIx e P) := ok_bind_iff fun d => ok_some
theorem w_ixS {ds : List Int} {k : Int} : Ok (gIx (.scr ds) (.int k)) (KZ e P) ↔ Ok (L2.atI ds k) (KIxI e P) := ok_bind_iff fun d => ok_some
def KCx (x : SV) (K : Env → Prop) : Env → Prop := fun e => K (x :: e)
theorem k_cx : KCx x K e ↔ K (x :: e) := Iff.rfl
theorem w_put0 : Ok (putS 0 s (x :: env)) K ↔ freeP x = true ∧ K (s :: env) := by
  rw [putS_0, ok_guard, ok_some]
theorem w_putS : Ok (putS (i + 1) s (x :: env)) K ↔ Ok (putS i s env) (KCx x K) := by
  rw [putS_s]
  exact ok_bind_iff fun e => ok_some
def KO1 (env : Env) (K : Env → Prop) : List D → Prop := fun es => K (.o1 es :: env)
def KIo (env : Env) (K : Env → Prop) : List D → Prop := fun es => K (.io es :: env)
theorem k_o1 {es : List D} : KO1 env K es ↔ K (.o1 es :: env) := Iff.rfl
theorem k_io {es : List D} : KIo env K es ↔ K (.io es :: env) := Iff.rfl
theorem w_upo {ds : List D} : Ok (upO 0 h (.o1 ds :: env)) K ↔ Ok (h ds) (KO1 env K) := by
  rw [upO_0]
  exact ok_bind_iff fun e => ok_some
theorem w_upi {ds : List D} : Ok (upO 0 h (.io ds :: env)) K ↔ Ok (h ds) (KIo env K) := by
  rw [upO_0]
  exact ok_bind_iff fun e => ok_some
theorem w_upS : Ok (upO (i + 1) h (x :: env)) K ↔ Ok (upO i h env) (KCx x K) := by
  rw [upO_s]
  exact ok_bind_iff fun e => ok_some
/-- an own list changed at a place -/
def KSt (d : D) (ds : List D) (Q : List D → Prop) : Nat → Prop := fun j => Q (ds.set j d)
theorem k_st {d : D} {ds : List D} {Q : List D → Prop} {j : Nat} : KSt d ds Q j ↔ Q (ds.set j d) := Iff.rfl
theorem w_setF {k : Int} {d : D} {ds : List D} {Q : List D → Prop} : Ok (setF k d ds) Q ↔ Ok (L2.ixN ds.length k) (KSt d ds Q) := ok_bind_iff fun j => ok_some
theorem w_app {d : D} {ds : List D} {Q : List D → Prop} : Ok (hApp d ds) Q ↔ ds.length ≤ 10000000 ∧ Q (ds ++ [d]) := by
  unfold hApp
  rw [ok_guard, ok_some]
theorem w_ext {es : List D} {ds : List D} {Q : List D → Prop} : Ok (hExt (.lst es) ds) Q ↔ ds.length + es.length ≤ 10000000 ∧ Q (ds ++ es) := by
  unfold hExt
  dsimp only
  rw [ok_guard, ok_some]
/-- wiping -/
def KWp (v : Nat) (K : Env → Prop) : Env → Prop := fun e => Ok (putS v .no e) K
theorem k_wp {v : Nat} : KWp v K e ↔ Ok (putS v .no e) K := Iff.rfl
theorem w_wipe0 : Ok (wipeO [] env) K ↔ K env := ok_some
theorem w_wipe1 {v : Nat} {vs : List Nat} : Ok (wipeO (v :: vs) env) K ↔ Ok (wipeO vs env) (KWp v K) := ok_bind_iff fun e => Iff.rfl
/-- own lists handed back -/
def KOuts (is : List Nat) (dss : List (List D)) (K : Env → Prop) : Env → Prop := fun e => Ok (putOuts is dss e) K
theorem k_outs {is : List Nat} {dss : List (List D)} : KOuts is dss K e ↔ Ok (putOuts is dss e) K := Iff.rfl
def hCon (ds : List D) : List D → Option (List D) := fun _ => some ds
theorem w_con {ds es : List D} {Q : List D → Prop} : Ok (hCon ds es) Q ↔ Q ds := ok_some
theorem w_outs0 : Ok (putOuts [] [] env) K ↔ K env := ok_some
theorem w_outs1 {is : List Nat} {dss : List (List D)} {ds : List D} : Ok (putOuts (i :: is) (ds :: dss) env) K ↔ Ok (upO i (hCon ds) env) (KOuts is dss K) := ok_bind_iff fun e => Iff.rfl
end
section
variable {env e : Env} {P : RV × Env → Prop} {K : Env → Prop} {fr : AF} {rs : List RV}
def KDr (z : RV) (P : RV × Env → Prop) : Env → Prop := fun e => P (z, e)
theorem k_dr {z : RV} : KDr z P e ↔ P (z, e) := Iff.rfl
theorem w_drop0 : Ok (dropAll [] env) K ↔ K env := ok_some
theorem w_drop1 {v : Nat} {vs : List Nat} : Ok (dropAll (v :: vs) env) K ↔ Ok (dropAll vs env) (KWp v K) := ok_bind_iff fun e => Iff.rfl
def KResM (bor : List Nat) (outs : List (List D)) (r : D × Bool × List (List D)) (P : RV × Env → Prop) : Env → Prop := fun e => match resR r with
  | some z => outs.all (fun ds => bor.isEmpty || noLs ds) = true ∧ Ok (dropAll bor e) (KDr z P)
  | none => False
def KBackM (ios bor : List Nat) (e : Env) (P : RV × Env → Prop) : D × Bool × List (List D) → Prop := fun r => Ok (putOuts ios r.2.2 e) (KResM bor r.2.2 r P)
def QArgM (g : FF) (e : Env) (P : RV × Env → Prop) : List D × List Nat × List Nat → Prop := fun x => (decide x.2.1.Nodup && decide (∀ i, i ∈ x.2.1 → i ∉ x.2.2)) = true ∧ Ok (g x.1) (KBackM x.2.1 x.2.2 e P)
def KCallM (io : List Bool) (g : FF) (P : RV × Env → Prop) : List RV × Env → Prop := fun a => Ok (argD a.2 io a.1) (QArgM g a.2 P)
theorem k_callM {io : List Bool} {g : FF} : KCallM io g P (rs, e) ↔ Ok (argD e io rs) (QArgM g e P) := Iff.rfl
theorem q_argM {g : FF} {ds : List D} {ios bor : List Nat} : QArgM g e P (ds, ios, bor) ↔ (decide ios.Nodup && decide (∀ i, i ∈ ios → i ∉ bor)) = true ∧ Ok (g ds) (KBackM ios bor e P) := Iff.rfl
theorem k_backM {ios bor : List Nat} {d : D} {fr : Bool} {outs : List (List D)} : KBackM ios bor e P (d, fr, outs) ↔ Ok (putOuts ios outs e) (KResM bor outs (d, fr, outs) P) := Iff.rfl
theorem k_resMF {bor : List Nat} {outs outs' : List (List D)} {d : D} : KResM bor outs (d, false, outs') P e ↔ outs.all (fun ds => bor.isEmpty || noLs ds) = true ∧ Ok (dropAll bor e) (KDr (.val d) P) := by
  unfold KResM resR
  cases d <;> exact Iff.rfl
theorem k_resMT {bor : List Nat} {outs outs' : List (List D)} {ds : List D} : KResM bor outs (.lst ds, true, outs') P e ↔ outs.all (fun ds => bor.isEmpty || noLs ds) = true ∧ Ok (dropAll bor e) (KDr (.new ds) P) := Iff.rfl
theorem w_callM {io : List Bool} {g : FF} : Ok (fCallM io g fr env) P ↔ Ok (fr env) (KCallM io g P) := by
  unfold fCallM
  simp only [ok_bind, ok_some, ok_guard]
  constructor <;> intro z <;> refine ok_mono z fun a z => ?_
  · refine ok_mono z fun x z => ⟨z.1, ok_mono z.2 fun r z => ok_mono z fun e z => ?_⟩
    obtain ⟨w, h, z⟩ := z
    unfold KResM
    rw [h]
    exact z
  · refine ok_mono z fun x z => ⟨z.1, ok_mono z.2 fun r z => ok_mono z fun e z => ?_⟩
    unfold KResM at z
    split at z
    · exact ⟨_, by assumption, z⟩
    · exact z.elim
theorem w_mv {i : Nat} : Ok (fMv i env) P ↔ (match env[i]? with | some (.o1 ds) => Ok (dropAll [i] env) (KDr (.val (.lst ds)) P) | _ => False) := by
  unfold fMv
  cases env[i]? with
  | none => exact ok_none
  | some v => cases v <;> first | exact ok_none | exact ok_bind_iff fun e => ok_some
end
section
variable {env e : Env} {PI : List D × Env → Prop} {fr : AF} {rs : List RV}
def QEn (e : Env) (PI : List D × Env → Prop) : List D → Prop := fun ds => match ds with
  | [.lst ds] => PI (enumD 0 ds, e)
  | _ => False
theorem q_en {ds : List D} : QEn e PI [.lst ds] ↔ PI (enumD 0 ds, e) := Iff.rfl
def KEn (PI : List D × Env → Prop) : List RV × Env → Prop := fun a => DV (allVal a.1) (QEn a.2 PI)
theorem k_en : KEn PI (rs, e) ↔ DV (allVal rs) (QEn e PI) := Iff.rfl
theorem w_enum : Ok (fEnum fr env) PI ↔ Ok (fr env) (KEn PI) := by
  refine ok_bind_iff fun ⟨rs, e⟩ => ?_
  refine Iff.trans (ok_bind_iff (K := QEn e PI) fun ds => ?_) dv_ok.symm
  match ds with
  | [] => exact ok_none (P := PI)
  | [d] => cases d <;> first | exact ok_some (P := PI) | exact ok_none (P := PI)
  | d :: _ :: _ => cases d <;> exact ok_none (P := PI)
def QZp (e : Env) (PI : List D × Env → Prop) : List D → Prop := fun ds => match ds with
  | [.lst ds, .lst es] => PI (zipD ds es, e)
  | _ => False
theorem q_zp {ds es : List D} : QZp e PI [.lst ds, .lst es] ↔ PI (zipD ds es, e) := Iff.rfl
def KZp (PI : List D × Env → Prop) : List RV × Env → Prop := fun a => DV (allVal a.1) (QZp a.2 PI)
theorem k_zp : KZp PI (rs, e) ↔ DV (allVal rs) (QZp e PI) := Iff.rfl
theorem w_zip : Ok (fZip fr env) PI ↔ Ok (fr env) (KZp PI) := by
  refine ok_bind_iff fun ⟨rs, e⟩ => ?_
  refine Iff.trans (ok_bind_iff (K := QZp e PI) fun ds => ?_) dv_ok.symm
  match ds with
  | [] => exact ok_none (P := PI)
  | [d] => cases d <;> exact ok_none (P := PI)
  | [d, d'] => cases d <;> cases d' <;> first | exact ok_some (P := PI) | exact ok_none (P := PI)
  | d :: d' :: _ :: _ => cases d <;> cases d' <;> exact ok_none (P := PI)
def QRv (e : Env) (PI : List D × Env → Prop) : List D → Prop := fun ds => match ds with
  | [.lst ds] => PI (ds.reverse, e)
  | _ => False
theorem q_rv {ds : List D} : QRv e PI [.lst ds] ↔ PI (ds.reverse, e) := Iff.rfl
def KRv (PI : List D × Env → Prop) : List RV × Env → Prop := fun a => DV (allVal a.1) (QRv a.2 PI)
theorem k_rv : KRv PI (rs, e) ↔ DV (allVal rs) (QRv e PI) := Iff.rfl
theorem w_rev : Ok (fRev fr env) PI ↔ Ok (fr env) (KRv PI) := by
  refine ok_bind_iff fun ⟨rs, e⟩ => ?_
  refine Iff.trans (ok_bind_iff (K := QRv e PI) fun ds => ?_) dv_ok.symm
  match ds with
  | [] => exact ok_none (P := PI)
  | [d] => cases d <;> first | exact ok_some (P := PI) | exact ok_none (P := PI)
  | d :: _ :: _ => cases d <;> exact ok_none (P := PI)
def QR2 (e : Env) (PI : List D × Env → Prop) : List D → Prop := fun ds => match ds with
  | [.int i, .int j] => (-1000000000000 ≤ i ∧ i ≤ 1000000000000 ∧ -1000000000000 ≤ j ∧ j ≤ 1000000000000) ∧ PI (rangeD i (j - i).toNat, e)
  | _ => False
theorem q_r2 {i j : Int} : QR2 e PI [.int i, .int j] ↔ (-1000000000000 ≤ i ∧ i ≤ 1000000000000 ∧ -1000000000000 ≤ j ∧ j ≤ 1000000000000) ∧ PI (rangeD i (j - i).toNat, e) := Iff.rfl
def KR2 (PI : List D × Env → Prop) : List RV × Env → Prop := fun a => DV (allVal a.1) (QR2 a.2 PI)
theorem k_r2 : KR2 PI (rs, e) ↔ DV (allVal rs) (QR2 e PI) := Iff.rfl
theorem w_range2 : Ok (fRange2 fr env) PI ↔ Ok (fr env) (KR2 PI) := by
  refine ok_bind_iff fun ⟨rs, e⟩ => ?_
  refine Iff.trans (ok_bind_iff (K := QR2 e PI) fun ds => ?_) dv_ok.symm
  match ds with
  | [] => exact ok_none (P := PI)
  | [d] => cases d <;> exact ok_none (P := PI)
  | [d, d'] =>
    cases d with
    | int i =>
      cases d' with
      | int j => exact Iff.trans ok_guard (and_congr_right fun _ => ok_some (P := PI))
      | _ => exact ok_none (P := PI)
    | _ => exact ok_none (P := PI)
  | d :: d' :: _ :: _ => cases d <;> cases d' <;> exact ok_none (P := PI)
def QR3 (e : Env) (PI : List D × Env → Prop) : List D → Prop := fun ds => match ds with
  | [.int i, .int j, .int c] => (c ≠ 0 ∧ c.natAbs < 1073741824 ∧ Builtin.Range.small i j c = true ∧ 0 ≤ Builtin.Range.rangeSize i j c) ∧ PI (rangeC i c (Builtin.Range.rangeSize i j c).toNat, e)
  | _ => False
theorem q_r3 {i j c : Int} : QR3 e PI [.int i, .int j, .int c] ↔ (c ≠ 0 ∧ c.natAbs < 1073741824 ∧ Builtin.Range.small i j c = true ∧ 0 ≤ Builtin.Range.rangeSize i j c) ∧ PI (rangeC i c (Builtin.Range.rangeSize i j c).toNat, e) := Iff.rfl
def KR3 (PI : List D × Env → Prop) : List RV × Env → Prop := fun a => DV (allVal a.1) (QR3 a.2 PI)
theorem k_r3 : KR3 PI (rs, e) ↔ DV (allVal rs) (QR3 e PI) := Iff.rfl
theorem w_range3 : Ok (fRange3 fr env) PI ↔ Ok (fr env) (KR3 PI) := by
  refine ok_bind_iff fun ⟨rs, e⟩ => ?_
  refine Iff.trans (ok_bind_iff (K := QR3 e PI) fun ds => ?_) dv_ok.symm
  match ds with
  | [] => exact ok_none (P := PI)
  | [d] => cases d <;> exact ok_none (P := PI)
  | [d, d'] => cases d <;> cases d' <;> exact ok_none (P := PI)
  | [d, d', d''] =>
    cases d with
    | int i =>
      cases d' with
      | int j =>
        cases d'' with
        | int c => exact Iff.trans ok_guard (and_congr_right fun _ => ok_some (P := PI))
        | _ => exact ok_none (P := PI)
      | _ => exact ok_none (P := PI)
    | _ => exact ok_none (P := PI)
  | d :: d' :: d'' :: _ :: _ => cases d <;> cases d' <;> cases d'' <;> exact ok_none (P := PI)
/-- targets that are tuples -/
def KGC (h : List D → Env → Option Env) (r : List D) (K : Env → Prop) : Env → Prop := fun e => Ok (h r e) K
theorem k_gc {h : List D → Env → Option Env} {r : List D} {K : Env → Prop} : KGC h r K e ↔ Ok (h r e) K := Iff.rfl
theorem w_gcons {g : GF} {h : List D → Env → Option Env} {d : D} {r : List D} {K : Env → Prop} : Ok (gfCons g h (d :: r) env) K ↔ Ok (g d env) (KGC h r K) := ok_bind_iff fun e => Iff.rfl
theorem w_gnil {K : Env → Prop} : Ok (gfNil [] env) K ↔ K env := ok_some
theorem w_gtupN {n : Nat} {h : List D → Env → Option Env} {ds : List D} {K : Env → Prop} : Ok (gfTup n h (.nt ds) env) K ↔ ds.length = n ∧ Ok (h ds env) K := ok_guard
theorem w_gtup {n : Nat} {h : List D → Env → Option Env} {ds : List D} {K : Env → Prop} : Ok (gfTup n h (.tup ds) env) K ↔ ds.length = n ∧ Ok (h ds env) K := ok_guard
end
section
variable {env e : Env} {PO : Out → Prop} {g h : SFn} {J : Env → Prop} {r : RV}
theorem w_cut : Ok (fCut g env) PO ↔ Ok (g env) PO := Iff.rfl
def KJ (J : Env → Prop) (PO : Out → Prop) : Out → Prop
  | .nx e => J e
  | .rt r e => PO (.rt r e)
  | .bk e => PO (.bk e)
  | .ct e => PO (.ct e)
theorem k_jnx : KJ J PO (.nx e) ↔ J e := Iff.rfl
theorem k_jrt : KJ J PO (.rt r e) ↔ PO (.rt r e) := Iff.rfl
theorem k_jbk : KJ J PO (.bk e) ↔ PO (.bk e) := Iff.rfl
theorem k_jct : KJ J PO (.ct e) ↔ PO (.ct e) := Iff.rfl
/-- ways meet: what holds behind the if is said once -/
theorem cut_seq (J : Env → Prop) (h1 : Ok (g env) (KJ J PO)) (h2 : ∀ e, J e → Ok (h e) PO) : Ok (fCut (fSeq g h) env) PO := by
  refine w_seq.mpr (ok_mono h1 fun o ho => ?_)
  cases o with
  | nx e => exact h2 e ho
  | rt r e => exact ho
  | bk e => exact ho
  | ct e => exact ho
end
theorem gIs_bl {a b : Bool} : gIs (.bl a) (.bl b) = some (.val (.bl (decide (a = b)))) := rfl
theorem gIsnt_bl {a b : Bool} : gIsnt (.bl a) (.bl b) = some (.val (.bl (!decide (a = b)))) := rfl
theorem gIs_no {d : D} : gIs d .non = some (.val (.bl (isNon d))) := by cases d <;> rfl
theorem gIsnt_no {d : D} : gIsnt d .non = some (.val (.bl (!isNon d))) := by cases d <;> rfl
theorem gEq_bl {a b : Bool} : gEq (.bl a) (.bl b) = some (.val (.bl (decide (a = b)))) := by
  have h3 : eqD (.bl a) (.bl b) = decide (a = b) := by
    show (a == b) = decide (a = b)
    exact (Bool.beq_eq_decide_eq a b)
  show some (RV.val (D.bl (eqD (.bl a) (.bl b)))) = _
  rw [h3]
theorem gNe_bl {a b : Bool} : gNe (.bl a) (.bl b) = some (.val (.bl (!decide (a = b)))) := by
  have h3 : eqD (.bl a) (.bl b) = decide (a = b) := by
    show (a == b) = decide (a = b)
    exact (Bool.beq_eq_decide_eq a b)
  show some (RV.val (D.bl (!eqD (.bl a) (.bl b)))) = _
  rw [h3]
end Dv
namespace Dv
open PySem L2
def Shp (k : Nat) (d : D) : Prop := PyData.canLay0 (toPy d) = true ∧ PyData.depth (toPy d) ≤ k
theorem shp_of {k : Nat} {d : D} (h : Shp k d) (hk : k ≤ 64) : shp d = true := by
  unfold shp SeqAt.shaped
  rw [h.1, Bool.true_and]
  exact decide_eq_true (Nat.le_trans h.2 hk)
theorem Shp.mono {k l : Nat} {d : D} (h : Shp k d) (hk : k ≤ l) : Shp l d := ⟨h.1, Nat.le_trans h.2 hk⟩
theorem shp_int {i : Int} : Shp 0 (.int i) := ⟨rfl, Nat.le_refl 0⟩
theorem shp_all {k : Nat} : ∀ {ds : List D}, (∀ d, d ∈ ds → Shp k d) → PyData.canLayAll0 (toPys ds) = true ∧ PyData.depthAll (toPys ds) ≤ k
  | [], _ => ⟨rfl, Nat.zero_le _⟩
  | d :: ds, h => by
    obtain ⟨h1, h2⟩ := h d List.mem_cons_self
    obtain ⟨h3, h4⟩ := shp_all (ds := ds) fun e he => h e (List.mem_cons_of_mem _ he)
    simp only [toPys, PyData.canLayAll0, PyData.depthAll, h1, h3, Bool.and_self, true_and]
    exact Nat.max_le.mpr ⟨h2, h4⟩
theorem shp_lst {k : Nat} {ds : List D} (h : ∀ d, d ∈ ds → Shp k d) : Shp (k + 1) (.lst ds) := by
  obtain ⟨h1, h2⟩ := shp_all h
  unfold Shp
  simp only [toPy, PyData.canLay0, PyData.depth]
  exact ⟨h1, Nat.succ_le_succ h2⟩
theorem shp_tup {k : Nat} {ds : List D} (h : ∀ d, d ∈ ds → Shp k d) : Shp (k + 1) (.tup ds) := by
  obtain ⟨h1, h2⟩ := shp_all h
  unfold Shp
  simp only [toPy, PyData.canLay0, PyData.depth]
  exact ⟨h1, Nat.succ_le_succ h2⟩
def eqA (as bs : List D) : Bool := PyData.eqvAll (toPys as) (toPys bs)
theorem eqD_lst {as bs : List D} : eqD (.lst as) (.lst bs) = eqA as bs := by
  unfold eqD eqA
  simp only [toPy, PyData.eqv]
theorem eqD_tup {as bs : List D} : eqD (.tup as) (.tup bs) = eqA as bs := by
  unfold eqD eqA
  simp only [toPy, PyData.eqv]
theorem eqD_int {i j : Int} : eqD (.int i) (.int j) = decide (i = j) := by
  show (i == j) = decide (i = j)
  exact Bool.beq_eq_decide_eq i j
theorem eqA_nil : eqA [] [] = true := rfl
theorem eqA_cons {a b : D} {as bs : List D} : eqA (a :: as) (b :: bs) = (eqD a b && eqA as bs) := by
  unfold eqA eqD
  simp only [toPys, PyData.eqvAll]
theorem eqA_nc {a : D} {as : List D} : eqA [] (a :: as) = false := by
  unfold eqA
  simp only [toPys, PyData.eqvAll]
theorem eqA_cn {a : D} {as : List D} : eqA (a :: as) [] = false := by
  unfold eqA
  simp only [toPys, PyData.eqvAll]
theorem eqA_map {α : Type} [DecidableEq α] {f : α → D} (h : ∀ a b, eqD (f a) (f b) = decide (a = b)) : ∀ as bs : List α, eqA (as.map f) (bs.map f) = decide (as = bs)
  | [], [] => rfl
  | [], b :: bs => by rw [List.map_nil, List.map_cons, eqA_nc]; exact (decide_eq_false (by simp)).symm
  | a :: as, [] => by rw [List.map_nil, List.map_cons, eqA_cn]; exact (decide_eq_false (by simp)).symm
  | a :: as, b :: bs => by
    rw [List.map_cons, List.map_cons, eqA_cons, h, eqA_map h as bs]
    by_cases h1 : a = b <;> by_cases h2 : as = bs <;> simp [h1, h2]
theorem gEq_of {d e : D} {b : Bool} (h1 : shp d = true) (h2 : shp e = true) (h : eqD d e = b) : gEq d e = some (.val (.bl b)) := by
  unfold gEq
  rw [h1, h2, h]
  rfl
theorem gNe_of {d e : D} {b : Bool} (h1 : shp d = true) (h2 : shp e = true) (h : eqD d e = b) : gNe d e = some (.val (.bl (!b))) := by
  unfold gNe
  rw [h1, h2, h]
  rfl
abbrev R := Int × Int
def encR (p : R) : D := .tup [.int p.1, .int p.2]
def encL (xs : List R) : D := .lst (xs.map encR)
theorem shp_R (p : R) : Shp 1 (encR p) := shp_tup fun d h => by
  simp only [List.mem_cons, List.not_mem_nil, or_false] at h
  rcases h with rfl | rfl <;> exact shp_int
theorem shp_L (xs : List R) : Shp 2 (encL xs) := shp_lst fun d h => by
  obtain ⟨p, _, rfl⟩ := List.mem_map.mp h
  exact shp_R p
theorem eqD_R (p q : R) : eqD (encR p) (encR q) = decide (p = q) := by
  unfold encR
  rw [eqD_tup, eqA_cons, eqA_cons, eqD_int, eqD_int, eqA_nil]
  obtain ⟨a, b⟩ := p
  obtain ⟨c, d⟩ := q
  by_cases h1 : a = c <;> by_cases h2 : b = d <;> simp [h1, h2]
theorem eqD_L (xs ys : List R) : eqD (encL xs) (encL ys) = decide (xs = ys) := by
  unfold encL
  rw [eqD_lst]
  exact eqA_map eqD_R xs ys
theorem gEq_R (p q : R) : gEq (encR p) (encR q) = some (.val (.bl (decide (p = q)))) := gEq_of (shp_of (shp_R p) (by decide)) (shp_of (shp_R q) (by decide)) (eqD_R p q)
theorem gEq_L (xs ys : List R) : gEq (encL xs) (encL ys) = some (.val (.bl (decide (xs = ys)))) := gEq_of (shp_of (shp_L xs) (by decide)) (shp_of (shp_L ys) (by decide)) (eqD_L xs ys)
theorem gNe_L (xs ys : List R) : gNe (encL xs) (encL ys) = some (.val (.bl (!decide (xs = ys)))) := gNe_of (shp_of (shp_L xs) (by decide)) (shp_of (shp_L ys) (by decide)) (eqD_L xs ys)
theorem gEq_Lm (xs ys : List R) : gEq (.lst (xs.map encR)) (.lst (ys.map encR)) = some (.val (.bl (decide (xs = ys)))) := gEq_L xs ys
theorem gNe_Lm (xs ys : List R) : gNe (.lst (xs.map encR)) (.lst (ys.map encR)) = some (.val (.bl (!decide (xs = ys)))) := gNe_L xs ys
theorem gEq_Ln (xs : List R) : gEq (.lst (xs.map encR)) (.lst []) = some (.val (.bl (decide (xs = [])))) := gEq_L xs []
theorem gNe_Ln (xs : List R) : gNe (.lst (xs.map encR)) (.lst []) = some (.val (.bl (!decide (xs = [])))) := gNe_L xs []
theorem noLs_R (xs : List R) : noLs (xs.map encR) = true := by
  induction xs with
  | nil => rfl
  | cons x xs ih =>
    rw [List.map_cons]
    unfold noLs
    rw [ih]
    rfl
theorem cutD_to {α : Type} (xs : List α) (n : Nat) : cutD xs none (some (n : Int)) = xs.take n := by
  unfold cutD
  rw [HT.sIx_none, HT.sIx_nat]
  simp only [List.drop_zero, Nat.sub_zero]
  by_cases h : n ≤ xs.length
  · rw [Nat.min_eq_left h]
  · rw [Nat.min_eq_right (by omega), List.take_of_length_le (Nat.le_refl _), List.take_of_length_le (by omega)]
theorem cutD_last {α : Type} (xs : List α) : cutD xs none (some (-1)) = xs.dropLast := by
  unfold cutD
  rw [HT.sIx_none, List.dropLast_eq_take]
  simp only [List.drop_zero, Nat.sub_zero]
  congr 1
  unfold HT.sIx
  simp only
  rw [if_pos (by decide)]
  omega
theorem ok_atI {α : Type} {xs : List α} {i : Int} {P : α → Prop} (h0 : 0 ≤ i) (h1 : i < xs.length) (h : ∀ x, xs[i.toNat]? = some x → P x) : Ok (L2.atI xs i) P := by
  have e : i = ((i.toNat : Nat) : Int) := by omega
  have hl : i.toNat < xs.length := by omega
  have e2 : L2.atI xs i = xs[i.toNat]? := by
    conv => lhs; rw [e]
    exact atI_natC
  exact ⟨xs[i.toNat], e2.trans (List.getElem?_eq_getElem hl), h _ (List.getElem?_eq_getElem hl)⟩
def KLT (I : Env → Prop) (P : Out → Prop) : Out → Prop
  | .nx e => I e
  | .ct e => I e
  | .bk e => P (.nx e)
  | .rt r e => P (.rt r e)
def KLB (b : SFn) (I : Env → Prop) (P : Out → Prop) : Env → Prop := fun e => Ok (b e) (KLT I P)
section
variable {e : Env} {r : RV} {I : Env → Prop} {P : Out → Prop} {b : SFn}
theorem k_lnx : KLT I P (.nx e) ↔ I e := Iff.rfl
theorem k_lct : KLT I P (.ct e) ↔ I e := Iff.rfl
theorem k_lbk : KLT I P (.bk e) ↔ P (.nx e) := Iff.rfl
theorem k_lrt : KLT I P (.rt r e) ↔ P (.rt r e) := Iff.rfl
theorem k_lb : KLB b I P e ↔ Ok (b e) (KLT I P) := Iff.rfl
end
theorem loop_inv {g : GF} {b : SFn} {P : Out → Prop} (Inv : Nat → Env → Prop) : ∀ (items : List D) (n : Nat) (env : Env), Inv n env →
    (∀ (i : Nat) (d : D) (env : Env), items[i]? = some d → Inv (n + i) env → Ok (g d env) (KLB b (Inv (n + i + 1)) P)) →
    (∀ env, Inv (n + items.length) env → P (.nx env)) → Ok (loopN g b items env) P
  | [], n, env, h0, _, hf => ok_some.mpr (hf env h0)
  | d :: ds, n, env, h0, hs, hf => by
    unfold loopN
    rw [ok_bind]
    refine ok_mono (hs 0 d env rfl h0) fun e he => ?_
    rw [ok_bind]
    refine ok_mono (Q := fun o => Ok _ P) he fun o ho => ?_
    have go := fun e (he : Inv (n + 1) e) => loop_inv (g := g) (b := b) (P := P) Inv ds (n + 1) e he (fun i d env hd hi => by
      have := hs (i + 1) d env (by simpa using hd) (by rw [show n + (i + 1) = n + 1 + i by omega]; exact hi)
      rw [show n + (i + 1) = n + 1 + i by omega] at this
      exact this) (fun env h => hf env (by rw [List.length_cons, show n + (ds.length + 1) = n + 1 + ds.length by omega]; exact h))
    cases o with
    | nx e => exact go e ho
    | ct e => exact go e ho
    | bk e => exact ok_some.mpr ho
    | rt r e => exact ok_some.mpr ho
/-- a comprehension: each turn gives an item, the state keeps its word -/
def KV3 (Inv : List D → Env → Prop) (acc : List D) : Env → Prop := fun w => Inv acc w
def KV2 (vs : List Nat) (Inv : List D → Env → Prop) (acc : List D) : RV × Env → Prop := fun a => ∃ y, frz a.1 = .val y ∧ Ok (wipeO vs a.2) (KV3 Inv (acc ++ [y]))
def KV1 (fe : EF) (vs : List Nat) (Inv : List D → Env → Prop) (acc : List D) : Bool × Env → Prop := fun b => (b.1 = true → Ok (fe b.2) (KV2 vs Inv acc)) ∧ (b.1 = false → Ok (wipeO vs b.2) (KV3 Inv acc))
def KV0 (tt : TF) (fe : EF) (vs : List Nat) (Inv : List D → Env → Prop) (acc : List D) : Env → Prop := fun e => Ok (tt e) (KV1 fe vs Inv acc)
section
variable {e : Env} {vs : List Nat} {Inv : List D → Env → Prop} {acc ds : List D} {fe : EF} {tt : TF} {d : D} {b : Bool}
theorem k_v3 : KV3 Inv acc e ↔ Inv acc e := Iff.rfl
theorem k_v2 : KV2 vs Inv acc (.val d, e) ↔ Ok (wipeO vs e) (KV3 Inv (acc ++ [d])) := ⟨fun ⟨y, h1, h2⟩ => by cases h1; exact h2, fun h => ⟨d, rfl, h⟩⟩
theorem k_v2n : KV2 vs Inv acc (.new ds, e) ↔ Ok (wipeO vs e) (KV3 Inv (acc ++ [.lst ds])) := ⟨fun ⟨y, h1, h2⟩ => by cases h1; exact h2, fun h => ⟨.lst ds, rfl, h⟩⟩
theorem k_v1 : KV1 fe vs Inv acc (b, e) ↔ (b = true → Ok (fe e) (KV2 vs Inv acc)) ∧ (b = false → Ok (wipeO vs e) (KV3 Inv acc)) := Iff.rfl
theorem k_v0 : KV0 tt fe vs Inv acc e ↔ Ok (tt e) (KV1 fe vs Inv acc) := Iff.rfl
end
theorem lc_inv {g : GF} {tt : TF} {fe : EF} {vs : List Nat} {P : List D × Env → Prop} (Inv : Nat → List D → Env → Prop) : ∀ (items : List D) (n : Nat) (acc : List D) (env : Env), Inv n acc env →
    (∀ (i : Nat) (d : D) (acc : List D) (env : Env), items[i]? = some d → Inv (n + i) acc env → Ok (g d env) (KV0 tt fe vs (Inv (n + i + 1)) acc)) →
    (∀ out env, Inv (n + items.length) (acc ++ out) env → P (out, env)) → Ok (lcN g tt fe vs items env) P
  | [], n, acc, env, h0, _, hf => ok_some.mpr (hf [] env (by rw [List.append_nil]; exact h0))
  | d :: ds, n, acc, env, h0, hs, hf => by
    unfold lcN
    rw [ok_bind]
    refine ok_mono (hs 0 d acc env rfl h0) fun e he => ?_
    rw [ok_bind]
    refine ok_mono (Q := fun b => Ok _ P) he fun b hb => ?_
    rw [ok_ite]
    have go := fun (acc' : List D) (Q : List D × Env → Prop) e (he : Inv (n + 1) acc' e) hf => lc_inv (g := g) (tt := tt) (fe := fe) (vs := vs) (P := Q) Inv ds (n + 1) acc' e he (fun i d acc env hd hi => by
      have := hs (i + 1) d acc env (by simpa using hd) (by rw [show n + (i + 1) = n + 1 + i by omega]; exact hi)
      rw [show n + (i + 1) = n + 1 + i by omega] at this
      exact this) hf
    constructor
    · intro c
      rw [ok_bind]
      refine ok_mono (hb.1 c) fun a ⟨y, hy, hw⟩ => ?_
      rw [hy]
      rw [ok_bind]
      refine ok_mono (Q := fun b => Ok _ P) hw fun w hw => ?_
      rw [ok_bind]
      refine go (acc ++ [y]) _ w hw fun out env h => ok_some.mpr (hf (y :: out) env ?_)
      rw [List.length_cons, show n + (ds.length + 1) = n + 1 + ds.length by omega]
      simpa using h
    · intro c
      rw [ok_bind]
      refine ok_mono (Q := fun b => Ok _ P) (hb.2 (by simpa using c)) fun w hw => ?_
      refine go acc _ w hw fun out env h => hf out env ?_
      rw [List.length_cons, show n + (ds.length + 1) = n + 1 + ds.length by omega]
      exact h
/-- a loop that goes on while a size falls -/
def KWT (I : Env → Prop) (sz : Env → Nat) (n : Nat) (P : Out → Prop) : Out → Prop
  | .nx e => I e ∧ sz e < n
  | .ct e => I e ∧ sz e < n
  | .bk e => P (.nx e)
  | .rt r e => P (.rt r e)
def KWC (b : SFn) (I : Env → Prop) (sz : Env → Nat) (n : Nat) (P : Out → Prop) : Bool × Env → Prop := fun x => (x.1 = true → Ok (b x.2) (KWT I sz n P)) ∧ (x.1 = false → P (.nx x.2))
section
variable {e : Env} {r : RV} {I : Env → Prop} {P : Out → Prop} {g : SFn} {sz : Env → Nat} {n : Nat} {b : Bool}
theorem k_wnx : KWT I sz n P (.nx e) ↔ I e ∧ sz e < n := Iff.rfl
theorem k_wct : KWT I sz n P (.ct e) ↔ I e ∧ sz e < n := Iff.rfl
theorem k_wbk : KWT I sz n P (.bk e) ↔ P (.nx e) := Iff.rfl
theorem k_wrt : KWT I sz n P (.rt r e) ↔ P (.rt r e) := Iff.rfl
theorem k_wc : KWC g I sz n P (b, e) ↔ (b = true → Ok (g e) (KWT I sz n P)) ∧ (b = false → P (.nx e)) := Iff.rfl
end
theorem while_inv {c : TF} {b : SFn} {P : Out → Prop} (Inv : Env → Prop) (sz : Env → Nat) (hs : ∀ env, Inv env → Ok (c env) (KWC b Inv sz (sz env) P)) : ∀ (n : Nat) (env : Env), Inv env → sz env < n → Ok (whileN c b n env) P
  | 0, env, _, h => by omega
  | n + 1, env, hi, h => by
    unfold whileN
    rw [ok_bind]
    refine ok_mono (Q := fun x => Ok _ P) (hs env hi) fun x hx => ?_
    rw [ok_ite]
    constructor
    · intro q
      rw [ok_bind]
      refine ok_mono (Q := fun x => Ok _ P) (hx.1 q) fun o ho => ?_
      cases o with
      | nx e => exact while_inv Inv sz hs n e ho.1 (by have := ho.2; omega)
      | ct e => exact while_inv Inv sz hs n e ho.1 (by have := ho.2; omega)
      | bk e => exact ok_some.mpr ho
      | rt r e => exact ok_some.mpr ho
    · intro q
      exact ok_some.mpr (hx.2 (by simpa using q))
section
variable {b : Bool} {i : Int} {x : Str} {ds : List D}
theorem isi_int_non : gIsi "int" .non = some (.val (.bl false)) := by
  show (kitB "NoneType" "int").bind _ = _
  rw [show kitB "NoneType" "int" = some false from by decide +kernel]
  rfl
theorem isi_int_bl : gIsi "int" (.bl b) = some (.val (.bl true)) := by
  show (kitB "bool" "int").bind _ = _
  rw [show kitB "bool" "int" = some true from by decide +kernel]
  rfl
theorem isi_int_int : gIsi "int" (.int i) = some (.val (.bl true)) := by
  show (kitB "int" "int").bind _ = _
  rw [show kitB "int" "int" = some true from by decide +kernel]
  rfl
theorem isi_int_str : gIsi "int" (.str x) = some (.val (.bl false)) := by
  show (kitB "str" "int").bind _ = _
  rw [show kitB "str" "int" = some false from by decide +kernel]
  rfl
theorem isi_int_lst : gIsi "int" (.lst ds) = some (.val (.bl false)) := by
  show (kitB "list" "int").bind _ = _
  rw [show kitB "list" "int" = some false from by decide +kernel]
  rfl
theorem isi_int_tup : gIsi "int" (.tup ds) = some (.val (.bl false)) := by
  show (kitB "tuple" "int").bind _ = _
  rw [show kitB "tuple" "int" = some false from by decide +kernel]
  rfl
theorem isi_bool_non : gIsi "bool" .non = some (.val (.bl false)) := by
  show (kitB "NoneType" "bool").bind _ = _
  rw [show kitB "NoneType" "bool" = some false from by decide +kernel]
  rfl
theorem isi_bool_bl : gIsi "bool" (.bl b) = some (.val (.bl true)) := by
  show (kitB "bool" "bool").bind _ = _
  rw [show kitB "bool" "bool" = some true from by decide +kernel]
  rfl
theorem isi_bool_int : gIsi "bool" (.int i) = some (.val (.bl false)) := by
  show (kitB "int" "bool").bind _ = _
  rw [show kitB "int" "bool" = some false from by decide +kernel]
  rfl
theorem isi_bool_str : gIsi "bool" (.str x) = some (.val (.bl false)) := by
  show (kitB "str" "bool").bind _ = _
  rw [show kitB "str" "bool" = some false from by decide +kernel]
  rfl
theorem isi_bool_lst : gIsi "bool" (.lst ds) = some (.val (.bl false)) := by
  show (kitB "list" "bool").bind _ = _
  rw [show kitB "list" "bool" = some false from by decide +kernel]
  rfl
theorem isi_bool_tup : gIsi "bool" (.tup ds) = some (.val (.bl false)) := by
  show (kitB "tuple" "bool").bind _ = _
  rw [show kitB "tuple" "bool" = some false from by decide +kernel]
  rfl
theorem isi_tuple_non : gIsi "tuple" .non = some (.val (.bl false)) := by
  show (kitB "NoneType" "tuple").bind _ = _
  rw [show kitB "NoneType" "tuple" = some false from by decide +kernel]
  rfl
theorem isi_tuple_bl : gIsi "tuple" (.bl b) = some (.val (.bl false)) := by
  show (kitB "bool" "tuple").bind _ = _
  rw [show kitB "bool" "tuple" = some false from by decide +kernel]
  rfl
theorem isi_tuple_int : gIsi "tuple" (.int i) = some (.val (.bl false)) := by
  show (kitB "int" "tuple").bind _ = _
  rw [show kitB "int" "tuple" = some false from by decide +kernel]
  rfl
theorem isi_tuple_str : gIsi "tuple" (.str x) = some (.val (.bl false)) := by
  show (kitB "str" "tuple").bind _ = _
  rw [show kitB "str" "tuple" = some false from by decide +kernel]
  rfl
theorem isi_tuple_lst : gIsi "tuple" (.lst ds) = some (.val (.bl false)) := by
  show (kitB "list" "tuple").bind _ = _
  rw [show kitB "list" "tuple" = some false from by decide +kernel]
  rfl
theorem isi_tuple_tup : gIsi "tuple" (.tup ds) = some (.val (.bl true)) := by
  show (kitB "tuple" "tuple").bind _ = _
  rw [show kitB "tuple" "tuple" = some true from by decide +kernel]
  rfl
theorem isi_list_non : gIsi "list" .non = some (.val (.bl false)) := by
  show (kitB "NoneType" "list").bind _ = _
  rw [show kitB "NoneType" "list" = some false from by decide +kernel]
  rfl
theorem isi_list_bl : gIsi "list" (.bl b) = some (.val (.bl false)) := by
  show (kitB "bool" "list").bind _ = _
  rw [show kitB "bool" "list" = some false from by decide +kernel]
  rfl
theorem isi_list_int : gIsi "list" (.int i) = some (.val (.bl false)) := by
  show (kitB "int" "list").bind _ = _
  rw [show kitB "int" "list" = some false from by decide +kernel]
  rfl
theorem isi_list_str : gIsi "list" (.str x) = some (.val (.bl false)) := by
  show (kitB "str" "list").bind _ = _
  rw [show kitB "str" "list" = some false from by decide +kernel]
  rfl
theorem isi_list_lst : gIsi "list" (.lst ds) = some (.val (.bl true)) := by
  show (kitB "list" "list").bind _ = _
  rw [show kitB "list" "list" = some true from by decide +kernel]
  rfl
theorem isi_list_tup : gIsi "list" (.tup ds) = some (.val (.bl false)) := by
  show (kitB "tuple" "list").bind _ = _
  rw [show kitB "tuple" "list" = some false from by decide +kernel]
  rfl
theorem isi_str_non : gIsi "str" .non = some (.val (.bl false)) := by
  show (kitB "NoneType" "str").bind _ = _
  rw [show kitB "NoneType" "str" = some false from by decide +kernel]
  rfl
theorem isi_str_bl : gIsi "str" (.bl b) = some (.val (.bl false)) := by
  show (kitB "bool" "str").bind _ = _
  rw [show kitB "bool" "str" = some false from by decide +kernel]
  rfl
theorem isi_str_int : gIsi "str" (.int i) = some (.val (.bl false)) := by
  show (kitB "int" "str").bind _ = _
  rw [show kitB "int" "str" = some false from by decide +kernel]
  rfl
theorem isi_str_str : gIsi "str" (.str x) = some (.val (.bl true)) := by
  show (kitB "str" "str").bind _ = _
  rw [show kitB "str" "str" = some true from by decide +kernel]
  rfl
theorem isi_str_lst : gIsi "str" (.lst ds) = some (.val (.bl false)) := by
  show (kitB "list" "str").bind _ = _
  rw [show kitB "list" "str" = some false from by decide +kernel]
  rfl
theorem isi_str_tup : gIsi "str" (.tup ds) = some (.val (.bl false)) := by
  show (kitB "tuple" "str").bind _ = _
  rw [show kitB "tuple" "str" = some false from by decide +kernel]
  rfl
end
/-- a comprehension that gives for each item h of it, and leaves the state -/
theorem lc_map {α : Type} {g : GF} {tt : TF} {fe : EF} {vs : List Nat} {P : List D × Env → Prop} {env : Env} {c : α → D} {h : α → D} {xs : List α}
    (hs : ∀ x, x ∈ xs → ∀ acc, Ok (g (c x) env) (KV0 tt fe vs (fun a e => a = acc ++ [h x] ∧ e = env) acc)) (hf : P (xs.map h, env)) : Ok (lcN g tt fe vs (xs.map c) env) P := by
  refine lc_inv (fun n acc e => acc = (xs.take n).map h ∧ e = env) (xs.map c) 0 [] env ⟨rfl, rfl⟩ (fun i d acc e hd hi => ?_) fun out e hi => ?_
  · obtain ⟨rfl, rfl⟩ := hi
    rw [List.getElem?_map] at hd
    obtain ⟨x, hx, rfl⟩ := Option.map_eq_some_iff.mp hd
    have key : (fun (a : List D) (e' : Env) => a = (xs.take (0 + i)).map h ++ [h x] ∧ e' = e) = (fun (a : List D) (e' : Env) => a = (xs.take (0 + i + 1)).map h ∧ e' = e) := by
      funext a e'
      rw [List.take_add_one, Nat.zero_add, hx, List.map_append]
      rfl
    have := hs x (List.mem_of_getElem? hx) ((xs.take (0 + i)).map h)
    rw [key] at this
    exact this
  · obtain ⟨h1, rfl⟩ := hi
    rw [List.nil_append, Nat.zero_add, List.length_map, List.take_length] at h1
    rw [h1]
    exact hf
theorem free_keep {x : Option SV} : freeP (keepFz x) = true := by
  unfold keepFz
  split <;> rfl
theorem keep_no : keepFz (some .no) = .no := rfl
theorem keep_fz {d : D} : keepFz (some (.fz d)) = .fz d := rfl
theorem keep_o1 {ds : List D} : keepFz (some (.o1 ds)) = .no := rfl
theorem gAdd_lst {a b : List D} : gAdd (.lst a) (.lst b) = if a.length + b.length ≤ 10000000 then some (.new (a ++ b)) else none := by
  unfold gAdd gI0 gCat gCatS
  simp only [Option.none_or, Option.or_none]
theorem gMul_lst {a : List D} {k : Int} : gMul (.lst a) (.int k) = if a.length * k.toNat ≤ 10000000 ∧ -1000000000 ≤ k ∧ k ≤ 1000000000 then some (.new (List.replicate k.toNat a).flatten) else none := by
  unfold gMul gI gRep
  simp only [Option.none_or]
theorem rangeD_get {lo : Int} {n i : Nat} {d : D} (h : (rangeD lo n)[i]? = some d) : i < n ∧ d = .int (lo + (i : Nat)) := by
  unfold rangeD at h
  rw [List.getElem?_map] at h
  obtain ⟨k, h1, h2⟩ := Option.map_eq_some_iff.mp h
  by_cases c : i < n
  · rw [List.getElem?_range c] at h1
    cases h1
    exact ⟨c, h2.symm⟩
  · rw [List.getElem?_eq_none (by simpa using c)] at h1
    cases h1
theorem rangeD_len {lo : Int} {n : Nat} : (rangeD lo n).length = n := by simp [rangeD]
theorem rangeD_1 : rangeD 0 1 = [.int 0] := rfl
theorem rangeD_2 : rangeD 0 2 = [.int 0, .int 1] := rfl
theorem rangeD_3 : rangeD 0 3 = [.int 0, .int 1, .int 2] := rfl
theorem rangeD_4 : rangeD 0 4 = [.int 0, .int 1, .int 2, .int 3] := rfl
end Dv
namespace Dv
open PySem L2
section
variable {P : RV × Env → Prop} {PO : Out → Prop} {env e : Env} {f : EF} {fr : AF} {rs : List RV}
theorem w_raise {n : Nat} : Ok (fRaise n env) PO ↔ PO (.rt (.ex n) env) := ok_some
def KDropX (PO : Out → Prop) : RV × Env → Prop := fun a => match a.1 with
  | .ex n => PO (.rt (.ex n) a.2)
  | _ => PO (.nx a.2)
theorem k_dropXe {n : Nat} : KDropX PO (.ex n, e) ↔ PO (.rt (.ex n) e) := Iff.rfl
theorem k_dropXv {d : D} : KDropX PO (.val d, e) ↔ PO (.nx e) := Iff.rfl
theorem k_dropXn {ds : List D} : KDropX PO (.new ds, e) ↔ PO (.nx e) := Iff.rfl
theorem w_dropX : Ok (fDropX f env) PO ↔ Ok (f env) (KDropX PO) := by
  refine ok_bind_iff fun ⟨r, e⟩ => ?_
  cases r <;> exact ok_some (P := PO)
def KAsgX (g : GF) (PO : Out → Prop) : RV × Env → Prop := fun a => match a.1 with
  | .ex n => PO (.rt (.ex n) a.2)
  | .val d => Ok (g d a.2) (KNx PO)
  | .new ds => Ok (g (.lst ds) a.2) (KNx PO)
  | _ => False
theorem k_asgXe {g : GF} {n : Nat} : KAsgX g PO (.ex n, e) ↔ PO (.rt (.ex n) e) := Iff.rfl
theorem k_asgXv {g : GF} {d : D} : KAsgX g PO (.val d, e) ↔ Ok (g d e) (KNx PO) := Iff.rfl
theorem k_asgXn {g : GF} {ds : List D} : KAsgX g PO (.new ds, e) ↔ Ok (g (.lst ds) e) (KNx PO) := Iff.rfl
theorem w_asgX {g : GF} : Ok (fAsgX f g env) PO ↔ Ok (f env) (KAsgX g PO) := by
  refine ok_bind_iff fun ⟨r, e⟩ => ?_
  cases r with
  | ex n => exact ok_some (P := PO)
  | val d => exact ok_bind_iff (P := PO) fun e => ok_some (P := PO)
  | new ds => exact ok_bind_iff (P := PO) fun e => ok_some (P := PO)
  | tw ds => first | (exact ok_bind_iff (P := PO) fun e => ok_some (P := PO)) | exact ok_none (P := PO) | exact ok_none (P := PT) | exact ok_none (P := PP) | exact ok_none (P := PI) | exact ok_none (P := PF) | exact ok_none (P := P) | exact ok_none
  | slot i => exact ok_none (P := PO)
def KBackX (bor : List Nat) (e : Env) (P : RV × Env → Prop) : Except Nat (D × Bool × List (List D)) → Prop
  | .error n => P (.ex n, e)
  | .ok r => r.2.2.isEmpty = true ∧ Ok (resR r) fun z => lentOk bor z = true ∧ P (z, e)
theorem k_backXe {bor : List Nat} {n : Nat} : KBackX bor e P (.error n) ↔ P (.ex n, e) := Iff.rfl
theorem k_backXv {bor : List Nat} {d : D} : KBackX bor e P (.ok (d, false, [])) ↔ (bor.isEmpty || noL d) = true ∧ P (.val d, e) := by
  have : resR (d, false, []) = some (.val d) := by cases d <;> rfl
  show (_ ∧ Ok (resR (d, false, [])) fun z => lentOk bor z = true ∧ P (z, e)) ↔ _
  rw [this, ok_some]
  exact ⟨fun h => h.2, fun h => ⟨rfl, h⟩⟩
theorem k_backXn {bor : List Nat} {ds : List D} : KBackX bor e P (.ok (.lst ds, true, [])) ↔ (bor.isEmpty || noLs ds) = true ∧ P (.new ds, e) := by
  show (_ ∧ Ok (some (RV.new ds)) fun z => lentOk bor z = true ∧ P (z, e)) ↔ _
  rw [ok_some]
  exact ⟨fun h => h.2, fun h => ⟨rfl, h⟩⟩
def QArgX (io : List Bool) (g : FX) (e : Env) (P : RV × Env → Prop) : List D × List Nat × List Nat → Prop := fun x => (x.2.1.isEmpty && io.all (fun b => !b)) = true ∧ Ok (g x.1) (KBackX x.2.2 e P)
theorem q_argX {io : List Bool} {g : FX} {ds : List D} {ios bor : List Nat} : QArgX io g e P (ds, ios, bor) ↔ (ios.isEmpty && io.all (fun b => !b)) = true ∧ Ok (g ds) (KBackX bor e P) := Iff.rfl
def KCallX (io : List Bool) (g : FX) (P : RV × Env → Prop) : List RV × Env → Prop := fun a => Ok (argD a.2 io a.1) (QArgX io g a.2 P)
theorem k_callX {io : List Bool} {g : FX} : KCallX io g P (rs, e) ↔ Ok (argD e io rs) (QArgX io g e P) := Iff.rfl
theorem w_callX {io : List Bool} {g : FX} : Ok (fCallX io g fr env) P ↔ Ok (fr env) (KCallX io g P) := by
  refine ok_bind_iff fun a => ok_bind_iff fun x => ?_
  rw [ok_guard]
  refine and_congr_right fun _ => ok_bind_iff fun r => ?_
  cases r with
  | error n => exact ok_some (P := P)
  | ok r =>
    show Ok (if r.2.2.isEmpty then _ else none) P ↔ _
    rw [ok_guard]
    refine and_congr_right fun _ => ok_bind_iff fun z => ?_
    rw [ok_guard, ok_some]
def KRx (PO : Out → Prop) : RV × Env → Prop := fun a => match a.1 with
  | .ex _ => False
  | r => PO (.rt r a.2)
theorem k_rxv {d : D} : KRx PO (.val d, e) ↔ PO (.rt (.val d) e) := Iff.rfl
theorem k_rxn {ds : List D} : KRx PO (.new ds, e) ↔ PO (.rt (.new ds) e) := Iff.rfl
def KHnd (h : Nat → EF) (n : Nat) (PO : Out → Prop) : Env → Prop := fun e1 => Ok (h n e1) (KRx PO)
theorem k_hnd {h : Nat → EF} {n : Nat} : KHnd h n PO e ↔ Ok (h n e) (KRx PO) := Iff.rfl
def KTry (i : Nat) (ks : List Nat) (h : Nat → EF) (PO : Out → Prop) : Out → Prop
  | .rt (.ex n) e => n ∈ ks ∧ Ok (putS i .no e) (KHnd h n PO)
  | o => PO o
theorem k_tryE {i n : Nat} {ks : List Nat} {h : Nat → EF} : KTry i ks h PO (.rt (.ex n) e) ↔ n ∈ ks ∧ Ok (putS i .no e) (KHnd h n PO) := Iff.rfl
theorem k_tryV {i : Nat} {d : D} {ks : List Nat} {h : Nat → EF} : KTry i ks h PO (.rt (.val d) e) ↔ PO (.rt (.val d) e) := Iff.rfl
theorem k_tryW {i : Nat} {ds : List D} {ks : List Nat} {h : Nat → EF} : KTry i ks h PO (.rt (.new ds) e) ↔ PO (.rt (.new ds) e) := Iff.rfl
theorem k_tryN {i : Nat} {ks : List Nat} {h : Nat → EF} : KTry i ks h PO (.nx e) ↔ PO (.nx e) := Iff.rfl
theorem w_try {i : Nat} {ks : List Nat} {g : SFn} {h : Nat → EF} : Ok (fTry i ks g h env) PO ↔ Ok (g env) (KTry i ks h PO) := by
  refine ok_bind_iff fun o => ?_
  cases o with
  | nx e => exact ok_some (P := PO)
  | bk e => exact ok_some (P := PO)
  | ct e => exact ok_some (P := PO)
  | rt r e =>
    cases r with
    | val d => exact ok_some (P := PO)
    | new ds => exact ok_some (P := PO)
    | tw ds => first | (exact ok_some (P := PO)) | exact ok_none (P := PO) | exact ok_none (P := PT) | exact ok_none (P := PP) | exact ok_none (P := PI) | exact ok_none (P := PF) | exact ok_none (P := P) | exact ok_none
    | slot j => exact ok_some (P := PO)
    | ex n =>
      show Ok (if n ∈ ks then _ else none) PO ↔ _
      rw [ok_guard]
      refine and_congr_right fun _ => ok_bind_iff fun e1 => ok_bind_iff fun ⟨r, e2⟩ => ?_
      cases r with
      | ex m => exact ok_none (P := PO)
      | val d => exact ok_some (P := PO)
      | new ds => exact ok_some (P := PO)
      | tw ds => first | (exact ok_some (P := PO)) | exact ok_none (P := PO) | exact ok_none (P := PT) | exact ok_none (P := PP) | exact ok_none (P := PI) | exact ok_none (P := PF) | exact ok_none (P := P) | exact ok_none
      | slot j => exact ok_some (P := PO)
def KFinX (io : List Bool) (PX : Except Nat (D × Bool × List (List D)) → Prop) : Out → Prop
  | .rt (.ex n) _ => PX (.error n)
  | o => KFin io (fun r => PX (.ok r)) o
theorem k_finE {io : List Bool} {PX : Except Nat (D × Bool × List (List D)) → Prop} {n : Nat} : KFinX io PX (.rt (.ex n) e) ↔ PX (.error n) := Iff.rfl
theorem k_finXo {io : List Bool} {PX : Except Nat (D × Bool × List (List D)) → Prop} {d : D} : KFinX io PX (.rt (.val d) e) ↔ outF io d false e fun r => PX (.ok r) := Iff.rfl
theorem k_finXw {io : List Bool} {PX : Except Nat (D × Bool × List (List D)) → Prop} {ds : List D} : KFinX io PX (.rt (.new ds) e) ↔ outF io (.lst ds) true e fun r => PX (.ok r) := Iff.rfl
theorem k_finXn {io : List Bool} {PX : Except Nat (D × Bool × List (List D)) → Prop} : KFinX io PX (.nx e) ↔ outF io .non false e fun r => PX (.ok r) := Iff.rfl
end
end Dv
namespace Dv
open PySem L2
section
variable {P : RV × Env → Prop} {PO : Out → Prop} {env e : Env} {f fa fb : EF} {fr : AF} {rs : List RV} {r : RV}
def KIsE (a : Addr) (b : Bool) (P : RV × Env → Prop) : RV × Env → Prop := fun z => match z.1 with
  | .val (.adr x) => x = a ∧ P (.val (.bl b), z.2)
  | _ => False
theorem k_isE {a : Addr} {b : Bool} : KIsE a b P (.val (.adr a), e) ↔ P (.val (.bl b), e) := ⟨fun h => h.2, fun h => ⟨rfl, h⟩⟩
theorem w_isE {i : Nat} {a : Addr} {b : Bool} : Ok (fIsE i a b env) P ↔ Ok (fVar i env) (KIsE a b P) := by
  unfold fIsE fVar
  cases env[i]? with
  | none => exact ⟨fun h => (ok_none.mp h).elim, fun h => (ok_none.mp h).elim⟩
  | some s =>
    cases s with
    | no => exact ⟨fun h => (ok_none.mp h).elim, fun h => (ok_none.mp h).elim⟩
    | nw w => exact ⟨fun h => (ok_none.mp h).elim, fun h => (ok_none.mp h).elim⟩
    | o1 ds => exact ⟨fun h => (ok_none.mp h).elim, fun h => (ok_some.mp h).elim⟩
    | io ds => exact ⟨fun h => (ok_none.mp h).elim, fun h => (ok_some.mp h).elim⟩
    | fz d =>
      dsimp only
      rw [ok_some]
      cases d with
      | adr x => dsimp only; rw [ok_guard, ok_some]; exact Iff.rfl
      | _ => exact ⟨fun h => (ok_none.mp h).elim, fun h => h.elim⟩
/-- x.m(y) -/
def KM1b (g : G2) (r : RV) (P : RV × Env → Prop) : RV × Env → Prop := fun b => D2 g (deref b.2 r) (deref b.2 b.1) b.2 P
def QM1 (g : G2) (fa : EF) (r : RV) (e : Env) (P : RV × Env → Prop) : Option D → Prop
  | some (.lst _) => Ok (fa e) (KM1b g r P)
  | _ => False
def KM1 (g : G2) (fa : EF) (P : RV × Env → Prop) : RV × Env → Prop := fun a => QM1 g fa a.1 a.2 P (deref a.2 a.1)
theorem k_m1b {g : G2} {r' : RV} : KM1b g r P (r', e) ↔ D2 g (deref e r) (deref e r') e P := Iff.rfl
theorem q_m1 {g : G2} {ds : List D} : QM1 g fa r e P (some (.lst ds)) ↔ Ok (fa e) (KM1b g r P) := Iff.rfl
theorem k_m1 {g : G2} : KM1 g fa P (r, e) ↔ QM1 g fa r e P (deref e r) := Iff.rfl
theorem w_m1 {g : G2} {i : Nat} : Ok (fM1 g i fa env) P ↔ Ok (fVar i env) (KM1 g fa P) := by
  refine ok_bind_iff fun ⟨r, e⟩ => ?_
  show Ok (Option.bind (deref e r) _) P ↔ QM1 g fa r e P (deref e r)
  cases hd : deref e r with
  | none => exact ⟨fun h => (ok_none.mp h).elim, fun h => h.elim⟩
  | some w =>
    rw [Option.bind_some]
    cases w with
    | lst ds =>
      show Ok (Option.bind (fa e) _) P ↔ _
      refine ok_bind_iff fun b => ?_
      show _ ↔ D2 g (deref b.2 r) (deref b.2 b.1) b.2 P
      constructor
      · intro z
        obtain ⟨q, e, p⟩ := z
        obtain ⟨x, e1, e⟩ := bnd e
        obtain ⟨y, e2, e⟩ := bnd e
        obtain ⟨w, e3, e⟩ := bnd e
        cases e
        rw [e1, e2]
        exact ⟨w, e3, p⟩
      · intro z'
        unfold D2 at z'
        split at z'
        · rename_i x y h1 h2
          obtain ⟨w, e3, p⟩ := z'
          exact ⟨(w, b.2), by rw [h1, h2]; simp [e3], p⟩
        · exact z'.elim
    | _ => exact ⟨fun h => (ok_none.mp h).elim, fun h => h.elim⟩
end
section
variable {P : RV × Env → Prop} {env e : Env} {f : EF}
def KBackN (e : Env) (P : RV × Env → Prop) : D × Bool × List (List D) → Prop := fun r => match resR r with
  | some z => P (z, e)
  | none => False
def KCallN (g : FF) (P : RV × Env → Prop) : RV × Env → Prop := fun a => match a.1 with
  | .new ds => Ok (g [.lst ds]) (KBackN a.2 P)
  | _ => False
theorem k_backNF {d : D} {outs : List (List D)} : KBackN e P (d, false, outs) ↔ P (.val d, e) := by
  unfold KBackN resR
  cases d <;> exact Iff.rfl
theorem k_backNT {ds : List D} {outs : List (List D)} : KBackN e P (.lst ds, true, outs) ↔ P (.new ds, e) := Iff.rfl
theorem k_callN {g : FF} {ds : List D} : KCallN g P (.new ds, e) ↔ Ok (g [.lst ds]) (KBackN e P) := Iff.rfl
theorem w_callN {g : FF} : Ok (fCallN g f env) P ↔ Ok (f env) (KCallN g P) := by
  refine ok_bind_iff fun ⟨r, e⟩ => ?_
  cases r with
  | new ds =>
    show Ok (Option.bind (g [.lst ds]) _) P ↔ Ok (g [.lst ds]) (KBackN e P)
    refine ok_bind_iff fun x => ?_
    show Ok (Option.bind (resR x) _) P ↔ _
    unfold KBackN
    cases resR x with
    | none => exact ⟨fun h => (ok_none.mp h).elim, fun h => h.elim⟩
    | some z => exact ok_some
  | _ => exact ⟨fun h => (ok_none.mp h).elim, fun h => h.elim⟩
end
section
variable {P : RV × Env → Prop} {env e : Env} {f : EF} {i : Nat} {r : RV} {a b : SV} {d d' : D} {ds es : List D}
def KLend (i : Nat) (ds : List D) (env : Env) (P : RV × Env → Prop) : RV × Env → Prop := fun a => (a.2.all ownNoL && noR a.1) = true ∧ P (a.1, (List.zipWith mergeS env a.2).set i (.o1 ds))
def QLend (i : Nat) (f : EF) (env : Env) (P : RV × Env → Prop) : Option SV → Prop
  | some (.o1 ds) => Ok (f (env.set i (.fz (.lst ds)))) (KLend i ds env P)
  | _ => False
theorem q_lend : QLend i f env P (some (.o1 ds)) ↔ Ok (f (env.set i (.fz (.lst ds)))) (KLend i ds env P) := Iff.rfl
theorem k_lend : KLend i ds env P (r, e) ↔ (e.all ownNoL && noR r) = true ∧ P (r, (List.zipWith mergeS env e).set i (.o1 ds)) := Iff.rfl
theorem w_lend : Ok (fLend i f env) P ↔ QLend i f env P env[i]? := by
  unfold fLend
  cases env[i]? with
  | none => exact ⟨fun h => (ok_none.mp h).elim, fun h => h.elim⟩
  | some s =>
    cases s with
    | o1 ds =>
      show Ok (Option.bind _ _) P ↔ Ok _ _
      refine ok_bind_iff fun x => ?_
      rw [ok_guard, ok_some]
      exact Iff.rfl
    | _ => exact ⟨fun h => (ok_none.mp h).elim, fun h => h.elim⟩
theorem m_fz : mergeS (.fz d) b = .fz d := by cases b <;> rfl
theorem m_no : mergeS .no b = .no := by cases b <;> rfl
theorem m_oo : mergeS (.o1 ds) (.o1 es) = .o1 es := rfl
theorem m_ii : mergeS (.io ds) (.io es) = .io es := rfl
theorem m_of : mergeS (.o1 ds) (.fz d) = .no := rfl
theorem o_fz : ownNoL (.fz d) = true := rfl
theorem o_no : ownNoL .no = true := rfl
theorem o_o1 : ownNoL (.o1 ds) = noLs ds := rfl
theorem o_io : ownNoL (.io ds) = noLs ds := rfl
theorem n_val : noR (.val d) = noL d := rfl
theorem n_new : noR (.new ds) = noLs ds := rfl
end
section
variable {P : RV × Env → Prop} {PO : Out → Prop} {env e : Env} {f : EF} {i : Nat} {d : D} {ds : List D}
def dropL : List D → Option (List D) := fun ds => some ds.dropLast
theorem dropL_eq : dropL ds = some ds.dropLast := rfl
def KPop2 (d : D) (P : RV × Env → Prop) : Env → Prop := fun e => P (.val d, e)
def KPop1 (i : Nat) (env : Env) (P : RV × Env → Prop) : D → Prop := fun d => Ok (upO i dropL env) (KPop2 d P)
def QPop (i : Nat) (env : Env) (P : RV × Env → Prop) : Option D → Prop
  | some (.lst ds) => Ok ds.getLast? (KPop1 i env P)
  | _ => False
theorem k_pop2 : KPop2 d P e ↔ P (.val d, e) := Iff.rfl
theorem k_pop1 : KPop1 i env P d ↔ Ok (upO i dropL env) (KPop2 d P) := Iff.rfl
theorem q_pop : QPop i env P (some (.lst ds)) ↔ Ok ds.getLast? (KPop1 i env P) := Iff.rfl
theorem w_pop : Ok (fPop i env) P ↔ QPop i env P (deref env (.slot i)) := by
  unfold fPop
  cases deref env (.slot i) with
  | none => exact ⟨fun h => (ok_none.mp h).elim, fun h => h.elim⟩
  | some w =>
    cases w with
    | lst ds =>
      show Ok (Option.bind (ds[ds.length - 1]?) _) P ↔ Ok ds.getLast? _
      rw [← List.getLast?_eq_getElem?]
      refine ok_bind_iff fun d => ?_
      exact ok_bind_iff fun e => ok_some
    | _ => exact ⟨fun h => (ok_none.mp h).elim, fun h => h.elim⟩
def KOwnV (i : Nat) (PO : Out → Prop) : RV × Env → Prop := fun a => match a.1 with
  | .new ds => Ok (putS i (.o1 ds) a.2) (KNx PO)
  | .val d => Ok (gfName i d a.2) (KNx PO)
  | _ => False
theorem k_ownVn : KOwnV i PO (.new ds, e) ↔ Ok (putS i (.o1 ds) e) (KNx PO) := Iff.rfl
theorem k_ownVv : KOwnV i PO (.val d, e) ↔ Ok (gfName i d e) (KNx PO) := Iff.rfl
theorem w_ownV : Ok (fOwnV i f env) PO ↔ Ok (f env) (KOwnV i PO) := by
  refine ok_bind_iff fun ⟨r, e⟩ => ?_
  cases r with
  | new ds => exact ok_bind_iff fun e => ok_some
  | val d => exact ok_bind_iff fun e => ok_some
  | _ => exact ⟨fun h => (ok_none.mp h).elim, fun h => h.elim⟩
end
theorem ixN30 : ixN 3 0 = some 0 := by decide
theorem ixN31 : ixN 3 1 = some 1 := by decide
theorem ixN32 : ixN 3 2 = some 2 := by decide
theorem gSortSet_R (xs : List R) : gSortSet [.lst (xs.map encR)] = if xs.length ≤ 9900 then some (.new ((srtP xs).map encR)) else none := gSortSet_L xs
end Dv
namespace Dv
open PySem L2
theorem hu1 {n c : Nat} (h : n + 64 < c) : n + 1 < c := by omega
section
variable {P : RV × Env → Prop} {PO : Out → Prop} {env e : Env} {f fa fb fk fe fx : EF} {fr : AF} {rs : List RV} {r : RV} {i : Nat} {d kd x : D} {s : SV} {kvs : List (List Int × D)} {k : List Int}
theorem dct_0 : dctAt (.nw (.dct kvs) :: env) 0 = some kvs := rfl
theorem dct_s : dctAt (s :: env) (i + 1) = dctAt env i := by
  unfold dctAt
  rw [List.getElem?_cons_succ]
theorem free_nw {w : OV} : freeP (.nw w) = true := rfl
theorem keep_nw {w : OV} : keepFz (some (.nw w)) = .no := rfl
theorem w_dnew : Ok (fDNew i env) PO ↔ Ok (putS i (.nw (.dct [])) env) (KNx PO) := ok_bind_iff fun e => ok_some
def QTupN (e : Env) (P : RV × Env → Prop) : List D → Prop := fun ds => ds.length ≤ 10000000 ∧ P (.val (.nt ds), e)
def KTupN (P : RV × Env → Prop) : List RV × Env → Prop := fun a => DV (allVal a.1) (QTupN a.2 P)
theorem q_tupN {ds : List D} : QTupN e P ds ↔ ds.length ≤ 10000000 ∧ P (.val (.nt ds), e) := Iff.rfl
theorem k_tupN : KTupN P (rs, e) ↔ DV (allVal rs) (QTupN e P) := Iff.rfl
theorem w_tupN : Ok (fTupN fr env) P ↔ Ok (fr env) (KTupN P) := by
  refine ok_bind_iff fun a => ?_
  show _ ↔ DV (allVal a.1) (QTupN a.2 P)
  unfold DV
  cases allVal a.1 with
  | none => exact ⟨fun h => (ok_none.mp h).elim, fun h => h.elim⟩
  | some ds =>
    rw [Option.bind_some, ok_guard, ok_some]
    exact Iff.rfl
theorem w_varN : Ok (fVarN i env) P ↔ (match env[i]? with | some (.fz (.nt ds)) => P (.val (.tup ds), env) | _ => False) := by
  unfold fVarN
  split <;> simp_all [ok_some, ok_none]
theorem key_2 {x y : Int} : keyD (.nt [.int x, .int y]) = some [x, y] := rfl
/-- d[k] -/
def KV (e : Env) (P : RV × Env → Prop) : D → Prop := fun d => P (.val d, e)
theorem k_v : KV e P d ↔ P (.val d, e) := Iff.rfl
def QDIx (e : Env) (P : RV × Env → Prop) : Option (List Int) → Option (List (List Int × D)) → Prop
  | some k, some kvs => Ok (kVal kvs k) (KV e P)
  | _, _ => False
def KDIx (i : Nat) (P : RV × Env → Prop) : RV × Env → Prop := fun a => match a.1 with
  | .val kd => QDIx a.2 P (keyD kd) (dctAt a.2 i)
  | _ => False
theorem q_dix : QDIx e P (some k) (some kvs) ↔ Ok (kVal kvs k) (KV e P) := Iff.rfl
theorem k_dix : KDIx i P (.val kd, e) ↔ QDIx e P (keyD kd) (dctAt e i) := Iff.rfl
theorem w_dix : Ok (fDIx i fk env) P ↔ (dctAt env i).isSome = true ∧ Ok (fk env) (KDIx i P) := by
  unfold fDIx
  cases hd : dctAt env i with
  | none => exact ⟨fun h => (ok_none.mp h).elim, fun h => by simp at h⟩
  | some z =>
    rw [Option.bind_some]
    simp only [Option.isSome_some, true_and]
    refine ok_bind_iff fun ⟨r, e⟩ => ?_
    cases r with
    | val kd =>
      show Ok (Option.bind (keyD kd) _) P ↔ QDIx e P (keyD kd) (dctAt e i)
      cases keyD kd with
      | none => exact ⟨fun h => (ok_none.mp h).elim, fun h => h.elim⟩
      | some k =>
        rw [Option.bind_some]
        show Ok (Option.bind (dctAt e i) _) P ↔ _
        cases dctAt e i with
        | none => exact ⟨fun h => (ok_none.mp h).elim, fun h => h.elim⟩
        | some kvs =>
          rw [Option.bind_some]
          exact ok_bind_iff fun d => ok_some
    | _ => exact ⟨fun h => (ok_none.mp h).elim, fun h => h.elim⟩
/-- d.get(k, x) -/
def QDG2 (e : Env) (k : List Int) (x : D) (P : RV × Env → Prop) : Option (List (List Int × D)) → Prop
  | some kvs => P (.val ((kVal kvs k).getD x), e)
  | _ => False
def KDG2 (i : Nat) (k : List Int) (P : RV × Env → Prop) : RV × Env → Prop := fun b => match frz b.1 with
  | .val x => QDG2 b.2 k x P (dctAt b.2 i)
  | _ => False
def QDG1 (i : Nat) (fx : EF) (e : Env) (P : RV × Env → Prop) : Option (List Int) → Prop
  | some k => Ok (fx e) (KDG2 i k P)
  | _ => False
def KDG1 (i : Nat) (fx : EF) (P : RV × Env → Prop) : RV × Env → Prop := fun a => match a.1 with
  | .val kd => QDG1 i fx a.2 P (keyD kd)
  | _ => False
theorem q_dg2 : QDG2 e k x P (some kvs) ↔ P (.val ((kVal kvs k).getD x), e) := Iff.rfl
theorem k_dg2 : KDG2 i k P (.val x, e) ↔ QDG2 e k x P (dctAt e i) := Iff.rfl
theorem q_dg1 : QDG1 i fx e P (some k) ↔ Ok (fx e) (KDG2 i k P) := Iff.rfl
theorem k_dg1 : KDG1 i fx P (.val kd, e) ↔ QDG1 i fx e P (keyD kd) := Iff.rfl
theorem w_dget2 : Ok (fDGet2 i fk fx env) P ↔ (dctAt env i).isSome = true ∧ Ok (fk env) (KDG1 i fx P) := by
  unfold fDGet2
  cases hd : dctAt env i with
  | none => exact ⟨fun h => (ok_none.mp h).elim, fun h => by simp at h⟩
  | some z =>
    rw [Option.bind_some]
    simp only [Option.isSome_some, true_and]
    refine ok_bind_iff fun ⟨r, e⟩ => ?_
    cases r with
    | val kd =>
      show Ok (Option.bind (keyD kd) _) P ↔ QDG1 i fx e P (keyD kd)
      cases keyD kd with
      | none => exact ⟨fun h => (ok_none.mp h).elim, fun h => h.elim⟩
      | some k =>
        rw [Option.bind_some]
        refine ok_bind_iff fun ⟨r2, e2⟩ => ?_
        show Ok (match frz r2 with | .val x => _ | _ => none) P ↔ (match frz r2 with | .val x => QDG2 e2 k x P (dctAt e2 i) | _ => False)
        cases frz r2 with
        | val x =>
          dsimp only
          cases dctAt e2 i with
          | none => exact ⟨fun h => (ok_none.mp h).elim, fun h => h.elim⟩
          | some kvs => exact ok_some
        | _ => exact ⟨fun h => (ok_none.mp h).elim, fun h => h.elim⟩
    | _ => exact ⟨fun h => (ok_none.mp h).elim, fun h => h.elim⟩
/-- k in d -/
def QDIn (neg : Bool) (e : Env) (P : RV × Env → Prop) : Option (List Int) → Option (List (List Int × D)) → Prop
  | some k, some kvs => P (.val (.bl ((kVal kvs k).isSome != neg)), e)
  | _, _ => False
def KDIn (i : Nat) (neg : Bool) (P : RV × Env → Prop) : RV × Env → Prop := fun a => match a.1 with
  | .val kd => QDIn neg a.2 P (keyD kd) (dctAt a.2 i)
  | _ => False
theorem q_din {neg : Bool} : QDIn neg e P (some k) (some kvs) ↔ P (.val (.bl ((kVal kvs k).isSome != neg)), e) := Iff.rfl
theorem k_din {neg : Bool} : KDIn i neg P (.val kd, e) ↔ QDIn neg e P (keyD kd) (dctAt e i) := Iff.rfl
theorem w_din {neg : Bool} : Ok (fDIn i neg fk env) P ↔ Ok (fk env) (KDIn i neg P) := by
  refine ok_bind_iff fun ⟨r, e⟩ => ?_
  cases r with
  | val kd =>
    show Ok (Option.bind (keyD kd) _) P ↔ QDIn neg e P (keyD kd) (dctAt e i)
    cases keyD kd with
    | none => exact ⟨fun h => (ok_none.mp h).elim, fun h => h.elim⟩
    | some k =>
      rw [Option.bind_some]
      show Ok (Option.bind (dctAt e i) _) P ↔ _
      cases dctAt e i with
      | none => exact ⟨fun h => (ok_none.mp h).elim, fun h => h.elim⟩
      | some kvs => exact ok_some
  | _ => exact ⟨fun h => (ok_none.mp h).elim, fun h => h.elim⟩
/-- d[k] = e -/
def QDP (i : Nat) (d : D) (e : Env) (PO : Out → Prop) : Option (List Int) → Option (List (List Int × D)) → Prop
  | some k, some kvs => kvs.length ≤ 1000000 ∧ PO (.nx (e.set i (.nw (.dct (kPut kvs k d)))))
  | _, _ => False
def KDP2 (i : Nat) (r : RV) (PO : Out → Prop) : RV × Env → Prop := fun b => match frz r, b.1 with
  | .val d, .val kd => QDP i d b.2 PO (keyD kd) (dctAt b.2 i)
  | _, _ => False
def KDP1 (i : Nat) (fk : EF) (PO : Out → Prop) : RV × Env → Prop := fun a => (dctAt a.2 i).isSome = true ∧ Ok (fk a.2) (KDP2 i a.1 PO)
theorem q_dp : QDP i d e PO (some k) (some kvs) ↔ kvs.length ≤ 1000000 ∧ PO (.nx (e.set i (.nw (.dct (kPut kvs k d))))) := Iff.rfl
theorem k_dp2 : KDP2 i (.val d) PO (.val kd, e) ↔ QDP i d e PO (keyD kd) (dctAt e i) := Iff.rfl
theorem k_dp2n {ds : List D} : KDP2 i (.new ds) PO (.val kd, e) ↔ QDP i (.lst ds) e PO (keyD kd) (dctAt e i) := Iff.rfl
theorem k_dp1 : KDP1 i fk PO (r, e) ↔ (dctAt e i).isSome = true ∧ Ok (fk e) (KDP2 i r PO) := Iff.rfl
theorem w_dput : Ok (fDPut i fk fe env) PO ↔ Ok (fe env) (KDP1 i fk PO) := by
  refine ok_bind_iff fun ⟨r, e⟩ => ?_
  show Ok (Option.bind (dctAt e i) _) PO ↔ (dctAt e i).isSome = true ∧ Ok (fk e) (KDP2 i r PO)
  cases dctAt e i with
  | none => exact ⟨fun h => (ok_none.mp h).elim, fun h => by simp at h⟩
  | some z =>
    rw [Option.bind_some]
    simp only [Option.isSome_some, true_and]
    refine ok_bind_iff fun ⟨r2, e2⟩ => ?_
    show Ok (match frz r, r2 with | .val d, .val kd => _ | _, _ => none) PO ↔ (match frz r, r2 with | .val d, .val kd => QDP i d e2 PO (keyD kd) (dctAt e2 i) | _, _ => False)
    cases frz r with
    | val d =>
      cases r2 with
      | val kd =>
        dsimp only
        cases keyD kd with
        | none => exact ⟨fun h => (ok_none.mp h).elim, fun h => h.elim⟩
        | some k =>
          rw [Option.bind_some]
          cases dctAt e2 i with
          | none => exact ⟨fun h => (ok_none.mp h).elim, fun h => h.elim⟩
          | some kvs =>
            rw [Option.bind_some, ok_guard, ok_some]
            exact Iff.rfl
      | _ => exact ⟨fun h => (ok_none.mp h).elim, fun h => h.elim⟩
    | _ => exact ⟨fun h => (ok_none.mp h).elim, fun h => h.elim⟩
/-- sorted(d) -/
def QDS2 (n : Nat) (e : Env) (P : RV × Env → Prop) : Option (List (Int × Int)) → Prop
  | some ps => n ≤ 1000000 ∧ P (.new ((srtP ps).map pD), e)
  | _ => False
def QDS (e : Env) (P : RV × Env → Prop) : Option (List (List Int × D)) → Prop
  | some kvs => QDS2 kvs.length e P (pairK kvs)
  | _ => False
theorem q_ds2 {n : Nat} {ps : List (Int × Int)} : QDS2 n e P (some ps) ↔ n ≤ 1000000 ∧ P (.new ((srtP ps).map pD), e) := Iff.rfl
theorem q_ds : QDS e P (some kvs) ↔ QDS2 kvs.length e P (pairK kvs) := Iff.rfl
theorem w_dsort : Ok (fDSort i env) P ↔ QDS env P (dctAt env i) := by
  unfold fDSort
  cases dctAt env i with
  | none => exact ⟨fun h => (ok_none.mp h).elim, fun h => h.elim⟩
  | some kvs =>
    rw [Option.bind_some]
    show _ ↔ QDS2 kvs.length env P (pairK kvs)
    cases pairK kvs with
    | none => exact ⟨fun h => (ok_none.mp h).elim, fun h => h.elim⟩
    | some ps =>
      rw [Option.bind_some, ok_guard, ok_some]
      exact Iff.rfl
end
section
variable {PO : Out → Prop} {env e : Env} {fr : AF} {rs : List RV} {i j l : Nat} {d d' d'' : D}
def KPutB (j l : Nat) (d' d'' : D) (PO : Out → Prop) : Env → Prop := fun e => Ok (putS j (.fz d') e) (KPut l d'' PO)
def QPar3 (i j l : Nat) (e : Env) (PO : Out → Prop) : List D → Prop
  | [d, d', d''] => Ok (putS i (.fz d) e) (KPutB j l d' d'' PO)
  | _ => False
def KPar3 (i j l : Nat) (PO : Out → Prop) : List RV × Env → Prop := fun a => DV (allVal a.1) (QPar3 i j l a.2 PO)
theorem q_par3 : QPar3 i j l e PO [d, d', d''] ↔ Ok (putS i (.fz d) e) (KPutB j l d' d'' PO) := Iff.rfl
theorem k_putB : KPutB j l d' d'' PO e ↔ Ok (putS j (.fz d') e) (KPut l d'' PO) := Iff.rfl
theorem k_par3 : KPar3 i j l PO (rs, e) ↔ DV (allVal rs) (QPar3 i j l e PO) := Iff.rfl
theorem w_par3 : Ok (fPar3 i j l fr env) PO ↔ Ok (fr env) (KPar3 i j l PO) := by
  refine ok_bind_iff fun a => ?_
  show _ ↔ DV (allVal a.1) (QPar3 i j l a.2 PO)
  unfold DV
  cases allVal a.1 with
  | none => exact ⟨fun h => (ok_none.mp h).elim, fun h => h.elim⟩
  | some ds =>
    rw [Option.bind_some]
    match ds with
    | [d, d', d''] => exact ok_bind_iff fun e1 => ok_bind_iff fun e2 => ok_bind_iff fun e3 => ok_some
    | [] => exact ⟨fun h => (ok_none.mp h).elim, fun h => h.elim⟩
    | [_] => exact ⟨fun h => (ok_none.mp h).elim, fun h => h.elim⟩
    | [_, _] => exact ⟨fun h => (ok_none.mp h).elim, fun h => h.elim⟩
    | _ :: _ :: _ :: _ :: _ => exact ⟨fun h => (ok_none.mp h).elim, fun h => h.elim⟩
end
section
variable {α : Type} {c : α → D}
def encK (c : α → D) (m : List (R × α)) : List (List Int × D) := m.map fun p => ([p.1.1, p.1.2], c p.2)
def mVal (m : List (R × α)) (k : R) : Option α := (m.find? fun p => decide (p.1 = k)).map (·.2)
def mPut (m : List (R × α)) (k : R) (x : α) : List (R × α) := if (m.any fun p => decide (p.1 = k)) = true then m.map (fun p => if p.1 = k then (p.1, x) else p) else m ++ [(k, x)]
theorem k2_iff {p k : R} : ([p.1, p.2] = [k.1, k.2]) ↔ p = k := by
  constructor
  · intro h
    injection h with h1 h2
    injection h2 with h2
    exact Prod.ext h1 h2
  · intro h
    rw [h]
theorem encK_len (m : List (R × α)) : (encK c m).length = m.length := List.length_map _
theorem kVal_enc (m : List (R × α)) (x y : Int) : kVal (encK c m) [x, y] = (mVal m (x, y)).map c := by
  induction m with
  | nil => rfl
  | cons p m ih =>
    unfold kVal mVal encK at ih ⊢
    by_cases h : p.1 = (x, y)
    · rw [List.map_cons, List.find?_cons_of_pos (by simpa using k2_iff.mpr h), List.find?_cons_of_pos (by simpa using h)]
      rfl
    · rw [List.map_cons, List.find?_cons_of_neg (by intro z; exact h ((k2_iff (k := (x, y))).mp (of_decide_eq_true z))), List.find?_cons_of_neg (by simpa using h)]
      exact ih
theorem any_enc (m : List (R × α)) (x y : Int) : ((encK c m).any fun kv => decide (kv.1 = [x, y])) = m.any fun p => decide (p.1 = (x, y)) := by
  unfold encK
  rw [List.any_map]
  congr 1
  funext p
  show decide ([p.1.1, p.1.2] = [x, y]) = _
  exact decide_eq_decide.mpr (k2_iff (p := p.1) (k := (x, y)))
theorem kPut_enc (m : List (R × α)) (x y : Int) (a : α) : kPut (encK c m) [x, y] (c a) = encK c (mPut m (x, y) a) := by
  unfold kPut mPut
  rw [any_enc]
  split
  · unfold encK
    rw [List.map_map, List.map_map]
    refine List.map_congr_left fun p _ => ?_
    show (if [p.1.1, p.1.2] = [x, y] then ([p.1.1, p.1.2], c a) else ([p.1.1, p.1.2], c p.2)) = _
    by_cases h : p.1 = (x, y)
    · rw [if_pos ((k2_iff (k := (x, y))).mpr h)]
      show _ = ((fun p : R × α => ([p.1.1, p.1.2], c p.2)) (if p.1 = (x, y) then (p.1, a) else p))
      rw [if_pos h]
    · rw [if_neg (fun z => h ((k2_iff (k := (x, y))).mp z))]
      show _ = ((fun p : R × α => ([p.1.1, p.1.2], c p.2)) (if p.1 = (x, y) then (p.1, a) else p))
      rw [if_neg h]
  · unfold encK
    rw [List.map_append]
    rfl
theorem pairK_enc (m : List (R × α)) : pairK (encK c m) = some (m.map (·.1)) := by
  induction m with
  | nil => rfl
  | cons p m ih =>
    show (pairK (encK c m)).bind _ = _
    rw [ih]
    rfl
theorem mVal_put (m : List (R × α)) (k j : R) (x : α) : mVal (mPut m k x) j = if j = k then some x else mVal m j := by
  have snoc : ∀ m : List (R × α), (∀ p, p ∈ m → p.1 ≠ k) → mVal (m ++ [(k, x)]) j = if j = k then some x else mVal m j := by
    intro m
    induction m with
    | nil =>
      intro _
      unfold mVal
      by_cases h : j = k
      · rw [if_pos h, h]
        simp
      · rw [if_neg h, List.nil_append, List.find?_cons_of_neg (by simpa using fun z => h z.symm)]
    | cons p m ih =>
      intro hp
      have ih := ih fun q hq => hp q (List.mem_cons_of_mem _ hq)
      have hk := hp p List.mem_cons_self
      unfold mVal at ih ⊢
      by_cases h : p.1 = j
      · rw [List.cons_append, List.find?_cons_of_pos (by simpa using h), List.find?_cons_of_pos (by simpa using h), if_neg (fun z => hk (by rw [h, z]))]
      · rw [List.cons_append, List.find?_cons_of_neg (by simpa using h), List.find?_cons_of_neg (by simpa using h)]
        exact ih
  unfold mPut
  split
  · rename_i hany
    have key : ∀ m : List (R × α), mVal (m.map fun p => if p.1 = k then (p.1, x) else p) j = if j = k then (mVal m j).map fun _ => x else mVal m j := by
      intro m
      induction m with
      | nil => unfold mVal; simp
      | cons p m ih =>
        unfold mVal at ih ⊢
        by_cases h : p.1 = j
        · rw [List.map_cons, List.find?_cons_of_pos (by split <;> simpa using h), List.find?_cons_of_pos (by simpa using h)]
          by_cases hk : j = k
          · rw [if_pos hk, if_pos (by rw [h, hk])]
            rfl
          · rw [if_neg hk, if_neg (by rw [h]; exact hk)]
        · rw [List.map_cons, List.find?_cons_of_neg (by split <;> simpa using h), List.find?_cons_of_neg (by simpa using h)]
          exact ih
    rw [key m]
    by_cases hk : j = k
    · rw [if_pos hk, if_pos hk]
      obtain ⟨p, hp, hp2⟩ := List.any_eq_true.mp hany
      have : (mVal m j).isSome = true := by
        unfold mVal
        rw [Option.isSome_map, List.find?_isSome]
        exact ⟨p, hp, by rw [hk]; exact hp2⟩
      cases h : mVal m j with
      | none => rw [h] at this; cases this
      | some y => rfl
    · rw [if_neg hk, if_neg hk]
  · rename_i hany
    refine snoc m fun p hp z => hany (List.any_eq_true.mpr ⟨p, hp, by simpa using z⟩)
theorem mKeys_put (m : List (R × α)) (k : R) (x : α) (j : R) : j ∈ (mPut m k x).map (·.1) ↔ j = k ∨ j ∈ m.map (·.1) := by
  unfold mPut
  split
  · rename_i hany
    have e : (m.map fun p => if p.1 = k then (p.1, x) else p).map (·.1) = m.map (·.1) := by
      rw [List.map_map]
      refine List.map_congr_left fun p _ => ?_
      show (if p.1 = k then (p.1, x) else p).1 = p.1
      split <;> rfl
    rw [e]
    obtain ⟨p, hp, hp2⟩ := List.any_eq_true.mp hany
    exact ⟨.inr, fun h => h.elim (fun h => by rw [h]; exact List.mem_map.mpr ⟨p, hp, by simpa using hp2⟩) id⟩
  · rw [List.map_append, List.mem_append]
    simp [or_comm]
theorem mLen_put (m : List (R × α)) (k : R) (x : α) : (mPut m k x).length ≤ m.length + 1 := by
  unfold mPut
  split
  · rw [List.length_map]
    omega
  · simp
theorem pD_R (ps : List R) : ps.map pD = ps.map encR := rfl
end
section
variable {P : RV × Env → Prop} {PO : Out → Prop} {PN : List (List D) × Env → Prop} {env e : Env} {f fa : EF} {fr : NF} {i k : Nat} {r : RV} {ds es : List D} {dss : List (List D)} {d : D} {w : OV}
theorem w_nilN : Ok (fNilN env) PN ↔ PN ([], env) := ok_some
def KConsN2 (ds : List D) (PN : List (List D) × Env → Prop) : List (List D) × Env → Prop := fun r => PN (ds :: r.1, r.2)
def KConsN (fr : NF) (PN : List (List D) × Env → Prop) : RV × Env → Prop := fun a => match a.1 with
  | .new ds => Ok (fr a.2) (KConsN2 ds PN)
  | _ => False
theorem k_consN2 : KConsN2 ds PN (dss, e) ↔ PN (ds :: dss, e) := Iff.rfl
theorem k_consN : KConsN fr PN (.new ds, e) ↔ Ok (fr e) (KConsN2 ds PN) := Iff.rfl
theorem w_consN : Ok (fConsN fa fr env) PN ↔ Ok (fa env) (KConsN fr PN) := by
  refine ok_bind_iff fun ⟨r, e⟩ => ?_
  cases r with
  | new ds => exact ok_bind_iff fun x => ok_some
  | _ => exact ⟨fun h => (ok_none.mp h).elim, fun h => h.elim⟩
def KLs2 (i : Nat) (PO : Out → Prop) : List (List D) × Env → Prop := fun a => a.1.length ≤ 1000 ∧ Ok (putS i (.nw (.ls2 a.1)) a.2) (KNx PO)
theorem k_ls2 : KLs2 i PO (dss, e) ↔ dss.length ≤ 1000 ∧ Ok (putS i (.nw (.ls2 dss)) e) (KNx PO) := Iff.rfl
theorem w_ls2 : Ok (fLs2 i fr env) PO ↔ Ok (fr env) (KLs2 i PO) := by
  refine ok_bind_iff fun ⟨r, e⟩ => ?_
  dsimp only
  rw [ok_guard]
  exact and_congr Iff.rfl (ok_bind_iff fun x => ok_some)
def KO2b (i k : Nat) (env : Env) (dss : List (List D)) (P : RV × Env → Prop) : List D → Prop := fun es => P (.val .non, env.set i (.nw (.ls2 (dss.set k es))))
def KO2 (i k : Nat) (h : List D → Option (List D)) (env : Env) (dss : List (List D)) (P : RV × Env → Prop) : List D → Prop := fun ds => Ok (h ds) (KO2b i k env dss P)
def QO2 (i k : Nat) (h : List D → Option (List D)) (env : Env) (P : RV × Env → Prop) : Option SV → Prop
  | some (.nw (.ls2 dss)) => Ok dss[k]? (KO2 i k h env dss P)
  | _ => False
theorem q_o2 {h : List D → Option (List D)} : QO2 i k h env P (some (.nw (.ls2 dss))) ↔ Ok dss[k]? (KO2 i k h env dss P) := Iff.rfl
theorem k_o2 {h : List D → Option (List D)} : KO2 i k h env dss P ds ↔ Ok (h ds) (KO2b i k env dss P) := Iff.rfl
theorem k_o2b : KO2b i k env dss P es ↔ P (.val .non, env.set i (.nw (.ls2 (dss.set k es)))) := Iff.rfl
theorem w_o2 {h : List D → Option (List D)} : Ok (fO2M0 i k h env) P ↔ QO2 i k h env P env[i]? := by
  unfold fO2M0
  cases env[i]? with
  | none => exact ⟨fun h => (ok_none.mp h).elim, fun h => h.elim⟩
  | some s =>
    cases s with
    | nw w =>
      cases w with
      | ls2 dss => exact ok_bind_iff fun ds => ok_bind_iff fun es => ok_some
      | _ => exact ⟨fun h => (ok_none.mp h).elim, fun h => h.elim⟩
    | _ => exact ⟨fun h => (ok_none.mp h).elim, fun h => h.elim⟩
def KLend2 (i : Nat) (dss : List (List D)) (env : Env) (P : RV × Env → Prop) : RV × Env → Prop := fun a => (a.2.all ownNoL && noR a.1) = true ∧ P (a.1, (List.zipWith mergeS env a.2).set i (.nw (.ls2 dss)))
def QLend2 (i : Nat) (f : EF) (env : Env) (P : RV × Env → Prop) : Option SV → Prop
  | some (.nw (.ls2 dss)) => (env.set i .no).all notNw = true ∧ Ok (f (env.set i (.fz (.lst (dss.map D.lst))))) (KLend2 i dss env P)
  | _ => False
theorem q_lend2 : QLend2 i f env P (some (.nw (.ls2 dss))) ↔ (env.set i .no).all notNw = true ∧ Ok (f (env.set i (.fz (.lst (dss.map D.lst))))) (KLend2 i dss env P) := Iff.rfl
theorem k_lend2 : KLend2 i dss env P (r, e) ↔ (e.all ownNoL && noR r) = true ∧ P (r, (List.zipWith mergeS env e).set i (.nw (.ls2 dss))) := Iff.rfl
theorem w_lend2 : Ok (fLend2 i f env) P ↔ QLend2 i f env P env[i]? := by
  unfold fLend2
  cases env[i]? with
  | none => exact ⟨fun h => (ok_none.mp h).elim, fun h => h.elim⟩
  | some s =>
    cases s with
    | nw w =>
      cases w with
      | ls2 dss =>
        dsimp only
        rw [ok_guard]
        refine and_congr Iff.rfl (ok_bind_iff fun x => ?_)
        rw [ok_guard, ok_some]
        exact Iff.rfl
      | _ => exact ⟨fun h => (ok_none.mp h).elim, fun h => h.elim⟩
    | _ => exact ⟨fun h => (ok_none.mp h).elim, fun h => h.elim⟩
theorem mapL_c : (ds :: dss).map D.lst = .lst ds :: dss.map D.lst := rfl
theorem mapL_n : ([] : List (List D)).map D.lst = [] := rfl
theorem m_nw : mergeS (.nw w) (.fz d) = .no := rfl
theorem nn_nw : notNw (.nw w) = false := rfl
theorem nn_no : notNw .no = true := rfl
theorem nn_fz : notNw (.fz d) = true := rfl
theorem nn_o1 : notNw (.o1 ds) = true := rfl
theorem nn_io : notNw (.io ds) = true := rfl
end
end Dv
namespace Dv
open PySem L2
/-- the order of things -/
def leD (a b : D) : Bool := PySem.W.dataLe false toPy a b
def rSortD (K : PySem.W.Frag) : List V → Hp → VK → Prop := fun vs H Q => ∃ (a : Addr) (bs : List (V × D)), vs = [V.ref a] ∧ SqL K H a (bs.map (·.1)) ∧ (∀ b, b ∈ bs → Dp K H b.1 (toPy b.2)) ∧
  PySem.W.AllAlike (bs.map fun b => toPy b.2) ∧ PySem.W.Sortable (bs.map fun b => toPy b.2) ∧ (∀ b, b ∈ bs → (toPy b.2).depth ≤ 50) ∧
  ∀ p, H p = none → Q (.ref p) (upd H p (.lst ((bs.mergeSort fun a b => leD a.2 b.2).map (·.1))))
theorem each_vals : ∀ {us : List Value} {bs : List (V × D)}, PySem.W.EachIs (fun u (b : V × D) => RelV b.1 u) us bs → Vals (bs.map (·.1)) us
  | _, _, .nil => .nil
  | _, _, .cons h t => .cons h (each_vals t)
theorem vals_each : ∀ {us : List Value} {bs : List (V × D)}, Vals (bs.map (·.1)) us → PySem.W.EachIs (fun u (b : V × D) => RelV b.1 u) us bs
  | _, [], h => by cases h; exact .nil
  | _, b :: bs, h => by
    cases h with
    | cons h1 h2 => exact .cons h1 (vals_each h2)
theorem each_in {α β : Type} {R R' : α → β → Prop} : ∀ {as : List α} {bs : List β}, PySem.W.EachIs R as bs → (∀ a b, b ∈ bs → R a b → R' a b) → PySem.W.EachIs R' as bs
  | _, _, .nil, _ => .nil
  | _, _, .cons h t, k => .cons (k _ _ List.mem_cons_self h) (each_in t fun a b hb => k a b (List.mem_cons_of_mem _ hb))
theorem cr_sortD {X : Cx} (hu : X.A.units + 64 < cLine) : CallR X (.builtin "sorted") (rSortD X.K) := by
  intro pins s σ H vs us Q I r h
  obtain ⟨a, bs, rfl, hs, hd, hal, hk, hdep, q⟩ := h
  obtain ⟨its, rv, hl, hz⟩ := I.list hs
  rw [Vals.ref1 r]
  have e := vals_each rv
  have len : its.length = bs.length := e.length
  refine PySem.W.sorted_data (vs := its) (bs := bs) (enc := fun b => toPy b.2) (R := fun u (b : V × D) => RelV b.1 u) hl.isList e (each_in e fun u b hb hr => Dp.reads I _ _ _ (hd b hb) hr) hal hk (by rw [← len, ← rv.length]; exact hz) (fun b hb => by have := hdep b hb; omega) fun out ho h1 => ?_
  obtain ⟨ep, he⟩ := PyProof.Rows.sortedAll_at s.heap its out.toArray
  have k1 := each_vals h1
  have hlen : ((bs.mergeSort fun a b => leD a.2 b.2).map (·.1)).length ≤ sizeLine := by
    rw [List.length_map, List.length_mergeSort, ← List.length_map (f := (·.1))]
    exact hz
  exact ⟨.ref _, upd H (s.heap.objs.size + 1) (.lst ((bs.mergeSort fun a b => leD a.2 b.2).map (·.1))), I.laid (t' := s.toks) (fun _ _ => PyProof.Rows.sortedAll_old) (Nat.le_succ _) ⟨hlen, out, ep, k1, he⟩, rfl, q _ (I.hok.fresh (Nat.le_succ _))⟩
/-- whether things can be sorted -/
def isTup1 : PyData → Bool
  | .tuple (_ :: _) => true
  | _ => false
def isPlain : PyData → Bool
  | .none => false
  | .tuple _ => false
  | _ => true
def canSort (ds : List D) : Bool := (ds.all fun d => ds.all fun e => PySem.W.alike (toPy d) (toPy e)) && ((ds.all fun d => isTup1 (toPy d)) || (ds.all fun d => isPlain (toPy d))) && (ds.all fun d => decide ((toPy d).depth ≤ 50)) && PyData.canLayAll0 (toPys ds)
def gSortD : GB
  | [.lst ds] => if canSort ds = true then some (.new (ds.mergeSort leD)) else none
  | _ => none
theorem dqa_pairs {K : PySem.W.Frag} {G : Hp} : ∀ {l : List (V × D)}, (∀ b, b ∈ l → Dq K G b.1 b.2) → DqA K G (l.map (·.1)) (l.map (·.2))
  | [], _ => .nil
  | b :: l, h => .cons (h b List.mem_cons_self) (dqa_pairs fun c hc => h c (List.mem_cons_of_mem _ hc))
theorem pairs_dqa {K : PySem.W.Frag} {G : Hp} : ∀ {vs : List V} {ds : List D}, DqA K G vs ds → ∃ l : List (V × D), vs = l.map (·.1) ∧ ds = l.map (·.2) ∧ ∀ b, b ∈ l → Dq K G b.1 b.2
  | [], _, h => by
    cases h
    exact ⟨[], rfl, rfl, fun b hb => nomatch hb⟩
  | v :: vs, _, h => by
    cases h with
    | @cons _ _ d ds h1 h2 =>
      obtain ⟨l, rfl, rfl, k⟩ := pairs_dqa h2
      refine ⟨(v, d) :: l, rfl, rfl, fun b hb => ?_⟩
      rcases List.mem_cons.mp hb with rfl | z
      · exact h1
      · exact k b z
theorem lay_mem : ∀ {ds : List D} {d : D}, PyData.canLayAll0 (toPys ds) = true → d ∈ ds → PyData.canLay0 (toPy d) = true
  | e :: ds, d, h, m => by
    simp only [toPys, PyData.canLayAll0, Bool.and_eq_true] at h
    rcases List.mem_cons.mp m with rfl | m
    · exact h.1
    · exact lay_mem h.2 m
theorem cg_sortD {K : PySem.W.Frag} : CallG K (rSortD K) gSortD := by
  intro B O I σ H env vs rs ds z S P e ez Q q
  unfold gSortD at ez
  split at ez
  · rename_i ds1
    split at ez
    · rename_i hc
      cases ez
      obtain ⟨v, r, rfl, P1, e1⟩ := one_of P e
      obtain ⟨p1, xs, rfl, h1, k1⟩ := P1.items e1
      unfold canSort at hc
      simp only [Bool.and_eq_true, List.all_eq_true, Bool.or_eq_true, decide_eq_true_eq] at hc
      obtain ⟨⟨⟨c1, c2⟩, c3⟩, c4⟩ := hc
      obtain ⟨l, rfl, rfl, k2⟩ := pairs_dqa k1
      have ms : (l.mergeSort fun a b => leD a.2 b.2).map (·.2) = (l.map (·.2)).mergeSort leD := List.map_mergeSort fun a _ b _ => rfl
      refine ⟨p1, l, rfl, .inl (.inl h1), fun b hb => ?_, fun d hd d' hd' => ?_, ?_, fun b hb => c3 _ (List.mem_map.mpr ⟨b, hb, rfl⟩), fun p hp => q _ _ ?_⟩
      · exact Dq.py b.2 b.1 (Dq.mono mi_same _ _ (k2 b hb)) (lay_mem c4 (List.mem_map.mpr ⟨b, hb, rfl⟩))
      · obtain ⟨b, hb, rfl⟩ := List.mem_map.mp hd
        obtain ⟨b', hb', rfl⟩ := List.mem_map.mp hd'
        exact c1 _ (List.mem_map.mpr ⟨b, hb, rfl⟩) _ (List.mem_map.mpr ⟨b', hb', rfl⟩)
      · rcases c2 with c2 | c2
        · refine .inl fun d hd => ?_
          obtain ⟨b, hb, rfl⟩ := List.mem_map.mp hd
          have := c2 _ (List.mem_map.mpr ⟨b, hb, rfl⟩)
          cases hx : toPy b.2 with
          | tuple xs =>
            cases xs with
            | nil => rw [hx] at this; cases this
            | cons x r => exact ⟨x, r, rfl⟩
          | _ => rw [hx] at this; cases this
        · refine .inr fun d hd => ?_
          obtain ⟨b, hb, rfl⟩ := List.mem_map.mp hd
          have := c2 _ (List.mem_map.mpr ⟨b, hb, rfl⟩)
          cases hx : toPy b.2 with
          | tuple xs => rw [hx] at this; cases this
          | none => rw [hx] at this; cases this
          | _ => exact ⟨fun z => PyData.noConfusion z, fun xs z => PyData.noConfusion z⟩
      · rw [← ms]
        exact post_new S hp (dqa_pairs fun b hb => k2 b (List.mem_mergeSort.mp hb))
    · cases ez
  · cases ez
end Dv
namespace Dv
open PySem L2
section
variable {K : PySem.W.Frag} {B : Hp} {O : List Addr} {I : List (Nat × Addr)} {σ : L2.St} {H H' : Hp} {env env' : Env} {v : V} {W : WN}
def fO2V (i k j : Nat) (h : D → List D → Option (List D)) : EF := fun env => match env[i]?, env[j]? with
  | some (.nw (.ls2 dss)), some (.fz d) => (dss[k]?).bind fun ds => (h d ds).bind fun es => some (.val .non, env.set i (.nw (.ls2 (dss.set k es))))
  | _, _ => none
variable {P : RV × Env → Prop}
def KO2v (i k : Nat) (h : D → List D → Option (List D)) (d : D) (env : Env) (dss : List (List D)) (P : RV × Env → Prop) : List D → Prop := fun ds => Ok (h d ds) (KO2b i k env dss P)
def QO2v (i k : Nat) (h : D → List D → Option (List D)) (env : Env) (P : RV × Env → Prop) : Option SV → Option SV → Prop
  | some (.nw (.ls2 dss)), some (.fz d) => Ok dss[k]? (KO2v i k h d env dss P)
  | _, _ => False
theorem q_o2v {i k : Nat} {h : D → List D → Option (List D)} {dss : List (List D)} {d : D} : QO2v i k h env P (some (.nw (.ls2 dss))) (some (.fz d)) ↔ Ok dss[k]? (KO2v i k h d env dss P) := Iff.rfl
theorem k_o2v {i k : Nat} {h : D → List D → Option (List D)} {dss : List (List D)} {d : D} {ds : List D} : KO2v i k h d env dss P ds ↔ Ok (h d ds) (KO2b i k env dss P) := Iff.rfl
theorem w_o2v {i k j : Nat} {h : D → List D → Option (List D)} : Ok (fO2V i k j h env) P ↔ QO2v i k h env P env[i]? env[j]? := by
  unfold fO2V
  cases env[i]? with
  | none => exact ⟨fun h => (ok_none.mp h).elim, fun h => h.elim⟩
  | some s =>
    cases s with
    | nw w =>
      cases w with
      | ls2 dss =>
        cases env[j]? with
        | none => exact ⟨fun h => (ok_none.mp h).elim, fun h => h.elim⟩
        | some s2 =>
          cases s2 with
          | fz d => exact ok_bind_iff fun ds => ok_bind_iff fun es => ok_some
          | _ => exact ⟨fun h => (ok_none.mp h).elim, fun h => h.elim⟩
      | _ => exact ⟨fun h => (ok_none.mp h).elim, fun h => h.elim⟩
    | _ => exact ⟨fun h => (ok_none.mp h).elim, fun h => h.elim⟩
end
end Dv
namespace Dv
open PySem L2
section
variable {K : PySem.W.Frag} {B : Hp} {O : List Addr} {I : List (Nat × Addr)} {σ : L2.St} {H H' : Hp} {env env' : Env} {v : V} {W : WN} {t ta tb te : TE} {f fa fb fe : EF} {cl : Nat → Addr}
/-- a, b, .. = a list -/
def gfUnl (n : Nat) (h : List D → Env → Option Env) : GF := fun d env => match d with
  | .lst ds => if ds.length = n then h ds env else none
  | _ => none
theorem w_gunl {n : Nat} {h : List D → Env → Option Env} {ds : List D} {K : Env → Prop} : Ok (gfUnl n h (.lst ds) env) K ↔ ds.length = n ∧ Ok (h ds env) K := ok_guard
/-- i in (j, ..) -/
def gInT : G2
  | .int i, .tup ds => (allInts ds).bind fun ns => some (.val (.bl (ns.any fun j => decide (j = i))))
  | _, _ => none
def gNotInT : G2
  | .int i, .tup ds => (allInts ds).bind fun ns => some (.val (.bl (!ns.any fun j => decide (j = i))))
  | _, _ => none
theorem gInT_of (i : Int) (ns : List Int) : gInT (.int i) (.tup (ns.map D.int)) = some (.val (.bl (ns.any fun j => decide (j = i)))) := by
  show (allInts (ns.map D.int)).bind _ = _
  rw [allInts_map]
  rfl
theorem gNotInT_of (i : Int) (ns : List Int) : gNotInT (.int i) (.tup (ns.map D.int)) = some (.val (.bl (!ns.any fun j => decide (j = i)))) := by
  show (allInts (ns.map D.int)).bind _ = _
  rw [allInts_map]
  rfl
theorem gInT_2 (i a b : Int) : gInT (.int i) (.tup [.int a, .int b]) = some (.val (.bl (decide (a = i) || decide (b = i)))) := (gInT_of i [a, b]).trans (by simp)
theorem gNotInT_2 (i a b : Int) : gNotInT (.int i) (.tup [.int a, .int b]) = some (.val (.bl (!(decide (a = i) || decide (b = i))))) := (gNotInT_of i [a, b]).trans (by simp)
end
section
variable {K : PySem.W.Frag} {W : WN} {te : TE} {fe : EF}
/-- x = f(..), own, where f may refuse -/
def fOwnX (i : Nat) (f : EF) : SFn := fun env => (f env).bind fun a => match a.1 with
  | .ex n => some (.rt (.ex n) a.2)
  | .new ds => (putS i (.o1 ds) a.2).bind fun e => some (.nx e)
  | _ => none
variable {e : Env} {env : Env} {PO : Out → Prop} {f : EF}
def KOwnX (i : Nat) (PO : Out → Prop) : RV × Env → Prop := fun a => match a.1 with
  | .ex n => PO (.rt (.ex n) a.2)
  | .new ds => Ok (putS i (.o1 ds) a.2) (KNx PO)
  | _ => False
theorem k_ownXe {i n : Nat} : KOwnX i PO (.ex n, e) ↔ PO (.rt (.ex n) e) := Iff.rfl
theorem k_ownXn {i : Nat} {ds : List D} : KOwnX i PO (.new ds, e) ↔ Ok (putS i (.o1 ds) e) (KNx PO) := Iff.rfl
theorem w_ownX {i : Nat} : Ok (fOwnX i f env) PO ↔ Ok (f env) (KOwnX i PO) := by
  refine ok_bind_iff fun ⟨r, e⟩ => ?_
  cases r with
  | ex n => exact ok_some (P := PO)
  | val d => exact ok_none (P := PO)
  | new ds => exact ok_bind_iff (P := PO) fun e => ok_some (P := PO)
  | tw ds => exact ok_none (P := PO)
  | slot i => exact ok_none (P := PO)
end
end Dv
namespace Dv
open PySem L2
section
variable {K : PySem.W.Frag} {B : Hp} {O : List Addr} {I : List (Nat × Addr)} {σ : L2.St} {H H' : Hp} {env env' : Env} {v : V} {W : WN} {t ta tb te : TE}
def fForApp (i j : Nat) (d : D) : SFn := fun env => match env[i]? with
  | some (.nw (.ls2 dss)) => if i ≠ j ∧ (dss.all fun ds => decide (ds.length ≤ 1000000)) = true then (putS j .no env).bind fun e => some (.nx (e.set i (.nw (.ls2 (dss.map fun ds => ds ++ [d]))))) else none
  | _ => none
/-- an own list is let go: it stays from now on -/
theorem Sta.freeze {i : Nat} {ds : List D} (S : Sta K B O I σ H env) (hi : env[i]? = some (.o1 ds)) : ∃ O', Sub B I O O' ∧ Sta K B O' I σ H (env.set i (.fz (.lst ds))) := by
  obtain ⟨p, xs, h1, h2, h3, h4, h5⟩ := S.ow i ds (.inl hi)
  have li : i < env.length := (List.getElem?_eq_some_iff.mp hi).1
  have other : ∀ j es q, OwnAt env j es → j ≠ i → σ[j]? = some (some (.ref q)) → q ≠ p := fun j es q hj c e z => by
    subst z
    exact c (S.sep j i es ds q hj (.inl hi) e h1)
  have mem : ∀ a, a ∈ O.filter (fun a => a != p) ↔ a ∈ O ∧ a ≠ p := fun a => by
    rw [List.mem_filter]
    simp
  have sub : ∀ a, a ∈ O.filter (fun a => a != p) → a ∈ O := fun a ha => ((mem a).mp ha).1
  have sm : Same (mi H O) (mi H (O.filter fun a => a != p)) := mi_sub sub
  have get : ∀ j, j ≠ i → (env.set i (SV.fz (.lst ds)))[j]? = env[j]? := fun j c => List.getElem?_set_ne (Ne.symm c)
  have geti : (env.set i (SV.fz (.lst ds)))[i]? = some (.fz (.lst ds)) := List.getElem?_set_self li
  have own : ∀ j es, OwnAt (env.set i (SV.fz (.lst ds))) j es → j ≠ i ∧ OwnAt env j es := fun j es z => by
    by_cases c : j = i
    · subst c
      unfold OwnAt at z
      rw [geti] at z
      rcases z with z | z <;> cases z
    · refine ⟨c, ?_⟩
      unfold OwnAt at z ⊢
      rw [get j c] at z
      exact z
  refine ⟨O.filter (fun a => a != p), ⟨fun a ha hb => (mem a).mpr ⟨ha, fun z => ?_⟩, fun a ha => .inl (sub a ha)⟩, ?_⟩
  · subst z
    rcases hb with hb | hb
    · exact hb h5
    · obtain ⟨⟨j, a⟩, hm, rfl⟩ := List.mem_map.mp hb
      obtain ⟨k1, es, k2⟩ := S.pin j a hm
      have c : j ≠ i := fun z => by
        subst z
        rw [hi] at k2
        cases k2
      exact other j es a (.inr k2) c k1 rfl
  · refine ⟨by rw [List.length_set]; exact S.len, fun j d hj => ?_, fun j es hj => ?_, fun j l es gs q hj hl e1 e2 => S.sep j l es gs q (own j es hj).2 (own l gs hl).2 e1 e2, S.base, fun q hq => S.dom q (sub q hq), fun j q hj => ?_, ?_, fun q ys hq => S.nt q ys (sub q hq)⟩
    · by_cases c : j = i
      · subst c
        rw [geti] at hj
        cases hj
        exact ⟨_, h1, .lst (mi_of (fun z => ((mem p).mp z).2 rfl) h3) (DqA.mono sm _ _ h4)⟩
      · rw [get j c] at hj
        obtain ⟨v, k1, k2⟩ := S.fz j d hj
        exact ⟨v, k1, Dq.mono sm _ _ k2⟩
    · obtain ⟨c, hj⟩ := own j es hj
      obtain ⟨q, ys, k1, k2, k3, k4, k5⟩ := S.ow j es hj
      exact ⟨q, ys, k1, (mem q).mpr ⟨k2, other j es q hj c k1⟩, k3, DqA.mono sm _ _ k4, k5⟩
    · obtain ⟨k1, es, k2⟩ := S.pin j q hj
      have c : j ≠ i := fun z => by
        subst z
        rw [hi] at k2
        cases k2
      exact ⟨k1, es, by rw [get j c]; exact k2⟩
    · refine NwOk.go S.nw (fun j w hj => ?_) (fun j es a hj e => .inl ⟨es, (own j es hj).2, e⟩) (fun a k1 k2 k3 k4 => ⟨(mem a).mpr ⟨k1, fun z => ?_⟩, k2, rfl⟩) sm S.dom
      · have c : j ≠ i := fun z => by
          subst z
          rw [geti] at hj
          cases hj
        rw [get j c] at hj
        exact ⟨hj, rfl⟩
      · subst z
        exact k4 i ds (.inl hi) h1
def fFrz (i : Nat) (g : SFn) : SFn := fun env => match env[i]? with
  | some (.o1 ds) => g (env.set i (.fz (.lst ds)))
  | _ => none
theorem ss_frz {i : Nat} {t : TS} {g : SFn} (h : SndS K W t g) : SndS K W t (fFrz i g) := by
  intro B O I σ H env o S e D k
  unfold fFrz at e
  split at e
  · rename_i ds hi
    obtain ⟨O', s, S'⟩ := S.freeze hi
    exact h B O' I σ H _ o S' e D (k.sub s)
  · cases e
variable {PO : Out → Prop}
def QForApp (i j : Nat) (d : D) (env : Env) (PO : Out → Prop) : Option SV → Prop
  | some (.nw (.ls2 dss)) => (i ≠ j ∧ (dss.all fun ds => decide (ds.length ≤ 1000000)) = true) ∧ Ok (putS j .no env) (fun e => PO (.nx (e.set i (.nw (.ls2 (dss.map fun ds => ds ++ [d]))))))
  | _ => False
theorem q_forApp {i j : Nat} {d : D} {dss : List (List D)} : QForApp i j d env PO (some (.nw (.ls2 dss))) ↔ (i ≠ j ∧ (dss.all fun ds => decide (ds.length ≤ 1000000)) = true) ∧ Ok (putS j .no env) (fun e => PO (.nx (e.set i (.nw (.ls2 (dss.map fun ds => ds ++ [d])))))) := Iff.rfl
theorem w_forApp {i j : Nat} {d : D} : Ok (fForApp i j d env) PO ↔ QForApp i j d env PO env[i]? := by
  unfold fForApp
  cases env[i]? with
  | none => exact ⟨fun h => (ok_none.mp h).elim, fun h => h.elim⟩
  | some s =>
    cases s with
    | nw w =>
      cases w with
      | ls2 dss =>
        show Ok (if _ then _ else none) PO ↔ _
        rw [ok_guard]
        exact and_congr_right fun _ => ok_bind_iff fun e => ok_some
      | _ => exact ⟨fun h => (ok_none.mp h).elim, fun h => h.elim⟩
    | _ => exact ⟨fun h => (ok_none.mp h).elim, fun h => h.elim⟩
def QFrz (i : Nat) (g : SFn) (env : Env) (PO : Out → Prop) : Option SV → Prop
  | some (.o1 ds) => Ok (g (env.set i (.fz (.lst ds)))) PO
  | _ => False
theorem q_frz {i : Nat} {g : SFn} {ds : List D} : QFrz i g env PO (some (.o1 ds)) ↔ Ok (g (env.set i (.fz (.lst ds)))) PO := Iff.rfl
theorem w_frz {i : Nat} {g : SFn} : Ok (fFrz i g env) PO ↔ QFrz i g env PO env[i]? := by
  unfold fFrz
  cases env[i]? with
  | none => exact ⟨fun h => (ok_none.mp h).elim, fun h => h.elim⟩
  | some s =>
    cases s with
    | o1 ds => exact Iff.rfl
    | _ => exact ⟨fun h => (ok_none.mp h).elim, fun h => h.elim⟩
end
end Dv
namespace Dv
open PySem L2
section
variable {K : PySem.W.Frag} {B : Hp} {O : List Addr} {I : List (Nat × Addr)} {σ : L2.St} {H H' G : Hp} {env env' : Env} {v : V} {t ta tb te td tk : TE} {f fa fb fe fd fk : EF} {W : WN}
theorem DqK.back : ∀ {kl : List (List L2.Key × V)} {ks : List (List Int)} {ds : List D}, kl.map (·.1) = ks.map (fun k => k.map Sum.inl) → DqA K G (kl.map (·.2)) ds → DqK K G kl (ks.zip ds)
  | [], [], _, _, h => by cases h; exact trivial
  | [], _ :: _, _, h, _ => by cases h
  | _ :: _, [], _, h, _ => by cases h
  | p :: kl, k :: ks, [], _, h => by cases h
  | p :: kl, k :: ks, d :: ds, e, h => by
    simp only [List.map_cons, List.cons.injEq] at e
    simp only [List.map_cons] at h
    cases h with
    | cons h1 h2 => exact ⟨e.1, h1, DqK.back e.2 h2⟩
def fFrzD (i : Nat) (g : SFn) : SFn := fun env => match env[i]? with
  | some (.nw (.dct kvs)) => g (env.set i (.fz (.dct (kvs.map (·.1)) (kvs.map (·.2)))))
  | _ => none
theorem rd_mi {a : Addr} {u : HO} (h : Rd (mi H O) a u) : Rd H a u := by
  rcases h with h | ⟨o, h⟩
  · exact .inl (mi_some h).2
  · exact .inr ⟨o, (mi_some h).2⟩
theorem Post.dict {r : RV} {ks : List (List Int)} {ds : List D} (h : Post K B O I σ H env v r) (e : deref env r = some (.dct ks ds)) : ∃ p kl, v = .ref p ∧ Rd H p (.dT kl) ∧ DqK K (mi H O) kl (ks.zip ds) := by
  cases r with
  | ex n => exact False.elim h
  | val d' =>
    cases e
    obtain ⟨S, h⟩ := h
    cases h with
    | dct h1 h2 h3 => exact ⟨_, _, rfl, rd_mi h1, DqK.back h2 h3⟩
  | slot i =>
    obtain ⟨es, e1, ho⟩ := ownAt_of e
    cases e1
  | new es => cases e
  | tw es => cases e
variable {PO : Out → Prop} {P : RV × Env → Prop}
theorem isi_tuple_nt {ds : List D} : gIsi "tuple" (.nt ds) = some (.val (.bl true)) := by
  show (kitB "tuple" "tuple").bind _ = _
  rw [show kitB "tuple" "tuple" = some true from by decide +kernel]
  rfl
def QFrzD (i : Nat) (g : SFn) (env : Env) (PO : Out → Prop) : Option SV → Prop
  | some (.nw (.dct kvs)) => Ok (g (env.set i (.fz (.dct (kvs.map (·.1)) (kvs.map (·.2)))))) PO
  | _ => False
theorem q_frzD {i : Nat} {g : SFn} {kvs : List (List Int × D)} : QFrzD i g env PO (some (.nw (.dct kvs))) ↔ Ok (g (env.set i (.fz (.dct (kvs.map (·.1)) (kvs.map (·.2)))))) PO := Iff.rfl
theorem w_frzD {i : Nat} {g : SFn} : Ok (fFrzD i g env) PO ↔ QFrzD i g env PO env[i]? := by
  unfold fFrzD
  cases env[i]? with
  | none => exact ⟨fun h => (ok_none.mp h).elim, fun h => h.elim⟩
  | some s =>
    cases s with
    | nw w =>
      cases w with
      | dct kvs => exact Iff.rfl
      | _ => exact ⟨fun h => (ok_none.mp h).elim, fun h => h.elim⟩
    | _ => exact ⟨fun h => (ok_none.mp h).elim, fun h => h.elim⟩
end
end Dv
namespace Dv
open PySem L2
def kValI (kvs : List (Int × D)) (k : Int) : Option D := (kvs.find? fun kv => decide (kv.1 = k)).map (·.2)
def kPutI (kvs : List (Int × D)) (k : Int) (d : D) : List (Int × D) := if (kvs.any fun kv => decide (kv.1 = k)) = true then kvs.map (fun kv => if kv.1 = k then (kv.1, d) else kv) else kvs ++ [(k, d)]
section
variable {K : PySem.W.Frag} {G : Hp}
theorem DqI.val : ∀ {ks : List (L2.Key × V)} {kvs : List (Int × D)} (k : Int), DqI K G ks kvs → (valV ks (Sum.inl k) = none ∧ kValI kvs k = none) ∨ ∃ v d, valV ks (Sum.inl k) = some v ∧ kValI kvs k = some d ∧ Dq K G v d
  | [], [], k, _ => .inl ⟨rfl, rfl⟩
  | [], _ :: _, _, h => h.elim
  | _ :: _, [], _, h => h.elim
  | p :: ks, q :: kvs, k, h => by
    obtain ⟨h1, h2, h3⟩ := h
    by_cases c : q.1 = k
    · refine .inr ⟨p.2, q.2, ?_, ?_, h2⟩
      · exact valV_pos (by rw [h1, c])
      · unfold kValI
        rw [List.find?_cons_of_pos (by simpa using c)]
        rfl
    · have e1 : valV (p :: ks) (Sum.inl k) = valV ks (Sum.inl k) := valV_neg (fun z => c (Sum.inl.inj (by rw [← z, h1])))
      have e2 : kValI (q :: kvs) k = kValI kvs k := by
        unfold kValI
        rw [List.find?_cons_of_neg (by simpa using c)]
      rw [e1, e2]
      exact DqI.val k h3
theorem DqI.any : ∀ {ks : List (L2.Key × V)} {kvs : List (Int × D)} (k : Int), DqI K G ks kvs → (ks.any fun kv => decide (kv.1 = Sum.inl k)) = kvs.any fun kv => decide (kv.1 = k)
  | [], [], k, _ => rfl
  | [], _ :: _, _, h => h.elim
  | _ :: _, [], _, h => h.elim
  | p :: ks, q :: kvs, k, h => by
    obtain ⟨h1, h2, h3⟩ := h
    rw [List.any_cons, List.any_cons, DqI.any k h3, h1]
    congr 1
    by_cases c : q.1 = k
    · rw [decide_eq_true c, decide_eq_true (by rw [c])]
    · rw [decide_eq_false c, decide_eq_false (fun z => c (Sum.inl.inj z))]
theorem DqI.maps {v : V} {d : D} (hv : Dq K G v d) : ∀ {ks : List (L2.Key × V)} {kvs : List (Int × D)} (k : Int), DqI K G ks kvs → DqI K G (ks.map fun kv => if kv.1 = Sum.inl k then (kv.1, v) else kv) (kvs.map fun kv => if kv.1 = k then (kv.1, d) else kv)
  | [], [], k, _ => trivial
  | [], _ :: _, _, h => h.elim
  | _ :: _, [], _, h => h.elim
  | p :: ks, q :: kvs, k, h => by
    obtain ⟨h1, h2, h3⟩ := h
    rw [List.map_cons, List.map_cons]
    have t := DqI.maps hv k h3
    by_cases c : q.1 = k
    · rw [if_pos c, if_pos (by rw [h1, c])]
      exact ⟨h1, hv, t⟩
    · rw [if_neg c, if_neg (fun z => c (Sum.inl.inj (by rw [← z, h1])))]
      exact ⟨h1, h2, t⟩
theorem DqI.snoc {v : V} {d : D} (hv : Dq K G v d) (k : Int) : ∀ {ks : List (L2.Key × V)} {kvs : List (Int × D)}, DqI K G ks kvs → DqI K G (ks ++ [(Sum.inl k, v)]) (kvs ++ [(k, d)])
  | [], [], _ => ⟨rfl, hv, trivial⟩
  | [], _ :: _, h => h.elim
  | _ :: _, [], h => h.elim
  | p :: ks, q :: kvs, h => ⟨h.1, h.2.1, DqI.snoc hv k h.2.2⟩
theorem DqI.put {v : V} {d : D} {ks : List (L2.Key × V)} {kvs : List (Int × D)} (k : Int) (h : DqI K G ks kvs) (hv : Dq K G v d) : DqI K G (putK ks (Sum.inl k) v) (kPutI kvs k d) := by
  unfold putK kPutI
  rw [h.any k]
  split
  · exact DqI.maps hv k h
  · exact DqI.snoc hv k h
theorem DqI.len : ∀ {ks : List (L2.Key × V)} {kvs : List (Int × D)}, DqI K G ks kvs → ks.length = kvs.length
  | [], [], _ => rfl
  | [], _ :: _, h => h.elim
  | _ :: _, [], h => h.elim
  | _ :: _, _ :: _, h => by
    rw [List.length_cons, List.length_cons, DqI.len h.2.2]
end
/-- what can be a key -/
def keyDI : D → Option Int
  | .int i => some i
  | _ => none
section
variable {K : PySem.W.Frag} {B : Hp} {O : List Addr} {I : List (Nat × Addr)} {σ : L2.St} {H H' : Hp} {env env' : Env} {v : V} {t ta tb te tk tx : TE} {f fa fb fe fk fx : EF} {W : WN}
def fDNewI (i : Nat) : SFn := fun env => (putS i (.nw (.dcI [])) env).bind fun e => some (.nx e)
def dctAtI (env : Env) (i : Nat) : Option (List (Int × D)) := match env[i]? with
  | some (.nw (.dcI kvs)) => some kvs
  | _ => none
def fDIxI (i : Nat) (fk : EF) : EF := fun env => (dctAtI env i).bind fun _ => (fk env).bind fun a => match a.1 with
  | .val kd => (keyDI kd).bind fun k => (dctAtI a.2 i).bind fun kvs => (kValI kvs k).bind fun d => some (.val d, a.2)
  | _ => none
def fDGet2I (i : Nat) (fk fx : EF) : EF := fun env => (dctAtI env i).bind fun _ => (fk env).bind fun a => match a.1 with
  | .val kd => (keyDI kd).bind fun k => (fx a.2).bind fun b => match frz b.1 with
    | .val x => (dctAtI b.2 i).bind fun kvs => some (.val ((kValI kvs k).getD x), b.2)
    | _ => none
  | _ => none
def fDInI (i : Nat) (neg : Bool) (fk : EF) : EF := fun env => (fk env).bind fun a => match a.1 with
  | .val kd => (keyDI kd).bind fun k => (dctAtI a.2 i).bind fun kvs => some (.val (.bl ((kValI kvs k).isSome != neg)), a.2)
  | _ => none
def fDPutI (i : Nat) (fk fe : EF) : SFn := fun env => (fe env).bind fun a => (dctAtI a.2 i).bind fun _ => (fk a.2).bind fun b => match frz a.1, b.1 with
  | .val d, .val kd => (keyDI kd).bind fun k => (dctAtI b.2 i).bind fun kvs => if kvs.length ≤ 1000000 then some (.nx (b.2.set i (.nw (.dcI (kPutI kvs k d))))) else none
  | _, _ => none
end
section
variable {P : RV × Env → Prop} {PO : Out → Prop} {env e : Env} {f fa fb fk fe fx : EF} {fr : AF} {rs : List RV} {r : RV} {i : Nat} {d kd x : D} {s : SV} {kvs : List (Int × D)} {k : Int}
theorem dct_0I : dctAtI (.nw (.dcI kvs) :: env) 0 = some kvs := rfl
theorem dct_sI : dctAtI (s :: env) (i + 1) = dctAtI env i := by
  unfold dctAtI
  rw [List.getElem?_cons_succ]
theorem w_dnewI : Ok (fDNewI i env) PO ↔ Ok (putS i (.nw (.dcI [])) env) (KNx PO) := ok_bind_iff fun e => ok_some
theorem keyI_1 {x : Int} : keyDI (.int x) = some x := rfl
/-- d[k] -/
def QDIxI (e : Env) (P : RV × Env → Prop) : Option Int → Option (List (Int × D)) → Prop
  | some k, some kvs => Ok (kValI kvs k) (KV e P)
  | _, _ => False
def KDIxI (i : Nat) (P : RV × Env → Prop) : RV × Env → Prop := fun a => match a.1 with
  | .val kd => QDIxI a.2 P (keyDI kd) (dctAtI a.2 i)
  | _ => False
theorem q_dixI : QDIxI e P (some k) (some kvs) ↔ Ok (kValI kvs k) (KV e P) := Iff.rfl
theorem k_dixI : KDIxI i P (.val kd, e) ↔ QDIxI e P (keyDI kd) (dctAtI e i) := Iff.rfl
theorem w_dixI : Ok (fDIxI i fk env) P ↔ (dctAtI env i).isSome = true ∧ Ok (fk env) (KDIxI i P) := by
  unfold fDIxI
  cases hd : dctAtI env i with
  | none => exact ⟨fun h => (ok_none.mp h).elim, fun h => by simp at h⟩
  | some z =>
    rw [Option.bind_some]
    simp only [Option.isSome_some, true_and]
    refine ok_bind_iff fun ⟨r, e⟩ => ?_
    cases r with
    | val kd =>
      show Ok (Option.bind (keyDI kd) _) P ↔ QDIxI e P (keyDI kd) (dctAtI e i)
      cases keyDI kd with
      | none => exact ⟨fun h => (ok_none.mp h).elim, fun h => h.elim⟩
      | some k =>
        rw [Option.bind_some]
        show Ok (Option.bind (dctAtI e i) _) P ↔ _
        cases dctAtI e i with
        | none => exact ⟨fun h => (ok_none.mp h).elim, fun h => h.elim⟩
        | some kvs =>
          rw [Option.bind_some]
          exact ok_bind_iff fun d => ok_some
    | _ => exact ⟨fun h => (ok_none.mp h).elim, fun h => h.elim⟩
/-- d.get(k, x) -/
def QDG2I (e : Env) (k : Int) (x : D) (P : RV × Env → Prop) : Option (List (Int × D)) → Prop
  | some kvs => P (.val ((kValI kvs k).getD x), e)
  | _ => False
def KDG2I (i : Nat) (k : Int) (P : RV × Env → Prop) : RV × Env → Prop := fun b => match frz b.1 with
  | .val x => QDG2I b.2 k x P (dctAtI b.2 i)
  | _ => False
def QDG1I (i : Nat) (fx : EF) (e : Env) (P : RV × Env → Prop) : Option Int → Prop
  | some k => Ok (fx e) (KDG2I i k P)
  | _ => False
def KDG1I (i : Nat) (fx : EF) (P : RV × Env → Prop) : RV × Env → Prop := fun a => match a.1 with
  | .val kd => QDG1I i fx a.2 P (keyDI kd)
  | _ => False
theorem q_dg2I : QDG2I e k x P (some kvs) ↔ P (.val ((kValI kvs k).getD x), e) := Iff.rfl
theorem k_dg2I : KDG2I i k P (.val x, e) ↔ QDG2I e k x P (dctAtI e i) := Iff.rfl
theorem q_dg1I : QDG1I i fx e P (some k) ↔ Ok (fx e) (KDG2I i k P) := Iff.rfl
theorem k_dg1I : KDG1I i fx P (.val kd, e) ↔ QDG1I i fx e P (keyDI kd) := Iff.rfl
theorem w_dget2I : Ok (fDGet2I i fk fx env) P ↔ (dctAtI env i).isSome = true ∧ Ok (fk env) (KDG1I i fx P) := by
  unfold fDGet2I
  cases hd : dctAtI env i with
  | none => exact ⟨fun h => (ok_none.mp h).elim, fun h => by simp at h⟩
  | some z =>
    rw [Option.bind_some]
    simp only [Option.isSome_some, true_and]
    refine ok_bind_iff fun ⟨r, e⟩ => ?_
    cases r with
    | val kd =>
      show Ok (Option.bind (keyDI kd) _) P ↔ QDG1I i fx e P (keyDI kd)
      cases keyDI kd with
      | none => exact ⟨fun h => (ok_none.mp h).elim, fun h => h.elim⟩
      | some k =>
        rw [Option.bind_some]
        refine ok_bind_iff fun ⟨r2, e2⟩ => ?_
        show Ok (match frz r2 with | .val x => _ | _ => none) P ↔ (match frz r2 with | .val x => QDG2I e2 k x P (dctAtI e2 i) | _ => False)
        cases frz r2 with
        | val x =>
          dsimp only
          cases dctAtI e2 i with
          | none => exact ⟨fun h => (ok_none.mp h).elim, fun h => h.elim⟩
          | some kvs => exact ok_some
        | _ => exact ⟨fun h => (ok_none.mp h).elim, fun h => h.elim⟩
    | _ => exact ⟨fun h => (ok_none.mp h).elim, fun h => h.elim⟩
/-- k in d -/
def QDInI (neg : Bool) (e : Env) (P : RV × Env → Prop) : Option Int → Option (List (Int × D)) → Prop
  | some k, some kvs => P (.val (.bl ((kValI kvs k).isSome != neg)), e)
  | _, _ => False
def KDInI (i : Nat) (neg : Bool) (P : RV × Env → Prop) : RV × Env → Prop := fun a => match a.1 with
  | .val kd => QDInI neg a.2 P (keyDI kd) (dctAtI a.2 i)
  | _ => False
theorem q_dinI {neg : Bool} : QDInI neg e P (some k) (some kvs) ↔ P (.val (.bl ((kValI kvs k).isSome != neg)), e) := Iff.rfl
theorem k_dinI {neg : Bool} : KDInI i neg P (.val kd, e) ↔ QDInI neg e P (keyDI kd) (dctAtI e i) := Iff.rfl
theorem w_dinI {neg : Bool} : Ok (fDInI i neg fk env) P ↔ Ok (fk env) (KDInI i neg P) := by
  refine ok_bind_iff fun ⟨r, e⟩ => ?_
  cases r with
  | val kd =>
    show Ok (Option.bind (keyDI kd) _) P ↔ QDInI neg e P (keyDI kd) (dctAtI e i)
    cases keyDI kd with
    | none => exact ⟨fun h => (ok_none.mp h).elim, fun h => h.elim⟩
    | some k =>
      rw [Option.bind_some]
      show Ok (Option.bind (dctAtI e i) _) P ↔ _
      cases dctAtI e i with
      | none => exact ⟨fun h => (ok_none.mp h).elim, fun h => h.elim⟩
      | some kvs => exact ok_some
  | _ => exact ⟨fun h => (ok_none.mp h).elim, fun h => h.elim⟩
/-- d[k] = e -/
def QDPI (i : Nat) (d : D) (e : Env) (PO : Out → Prop) : Option Int → Option (List (Int × D)) → Prop
  | some k, some kvs => kvs.length ≤ 1000000 ∧ PO (.nx (e.set i (.nw (.dcI (kPutI kvs k d)))))
  | _, _ => False
def KDP2I (i : Nat) (r : RV) (PO : Out → Prop) : RV × Env → Prop := fun b => match frz r, b.1 with
  | .val d, .val kd => QDPI i d b.2 PO (keyDI kd) (dctAtI b.2 i)
  | _, _ => False
def KDP1I (i : Nat) (fk : EF) (PO : Out → Prop) : RV × Env → Prop := fun a => (dctAtI a.2 i).isSome = true ∧ Ok (fk a.2) (KDP2I i a.1 PO)
theorem q_dpI : QDPI i d e PO (some k) (some kvs) ↔ kvs.length ≤ 1000000 ∧ PO (.nx (e.set i (.nw (.dcI (kPutI kvs k d))))) := Iff.rfl
theorem k_dp2I : KDP2I i (.val d) PO (.val kd, e) ↔ QDPI i d e PO (keyDI kd) (dctAtI e i) := Iff.rfl
theorem k_dp2nI {ds : List D} : KDP2I i (.new ds) PO (.val kd, e) ↔ QDPI i (.lst ds) e PO (keyDI kd) (dctAtI e i) := Iff.rfl
theorem k_dp1I : KDP1I i fk PO (r, e) ↔ (dctAtI e i).isSome = true ∧ Ok (fk e) (KDP2I i r PO) := Iff.rfl
theorem w_dputI : Ok (fDPutI i fk fe env) PO ↔ Ok (fe env) (KDP1I i fk PO) := by
  refine ok_bind_iff fun ⟨r, e⟩ => ?_
  show Ok (Option.bind (dctAtI e i) _) PO ↔ (dctAtI e i).isSome = true ∧ Ok (fk e) (KDP2I i r PO)
  cases dctAtI e i with
  | none => exact ⟨fun h => (ok_none.mp h).elim, fun h => by simp at h⟩
  | some z =>
    rw [Option.bind_some]
    simp only [Option.isSome_some, true_and]
    refine ok_bind_iff fun ⟨r2, e2⟩ => ?_
    show Ok (match frz r, r2 with | .val d, .val kd => _ | _, _ => none) PO ↔ (match frz r, r2 with | .val d, .val kd => QDPI i d e2 PO (keyDI kd) (dctAtI e2 i) | _, _ => False)
    cases frz r with
    | val d =>
      cases r2 with
      | val kd =>
        dsimp only
        cases keyDI kd with
        | none => exact ⟨fun h => (ok_none.mp h).elim, fun h => h.elim⟩
        | some k =>
          rw [Option.bind_some]
          cases dctAtI e2 i with
          | none => exact ⟨fun h => (ok_none.mp h).elim, fun h => h.elim⟩
          | some kvs =>
            rw [Option.bind_some, ok_guard, ok_some]
            exact Iff.rfl
      | _ => exact ⟨fun h => (ok_none.mp h).elim, fun h => h.elim⟩
    | _ => exact ⟨fun h => (ok_none.mp h).elim, fun h => h.elim⟩
end
end Dv
namespace Dv
open PySem L2
section
variable {K : PySem.W.Frag} {B : Hp} {O : List Addr} {I : List (Nat × Addr)} {σ : L2.St} {H H' G : Hp} {env env' : Env} {v : V} {W : WN}
theorem DqI.keys : ∀ {ks : List (L2.Key × V)} {kvs : List (Int × D)}, DqI K G ks kvs → ks.map (·.1) = (kvs.map (·.1)).map Sum.inl
  | [], [], _ => rfl
  | [], _ :: _, h => h.elim
  | _ :: _, [], h => h.elim
  | p :: ks, q :: kvs, h => by
    obtain ⟨h1, _, h3⟩ := h
    rw [List.map_cons, List.map_cons, List.map_cons, DqI.keys h3, h1]
/-- max(d) -/
def fDMaxI (i : Nat) : EF := fun env => (dctAtI env i).bind fun kvs => (maxL (kvs.map (·.1))).bind fun m => some (.val (.int m), env)
end
section
variable {P : RV × Env → Prop} {env : Env} {i : Nat} {kvs : List (Int × D)}
def QDMI (e : Env) (P : RV × Env → Prop) : Option (List (Int × D)) → Prop
  | some kvs => Ok (maxL (kvs.map (·.1))) fun m => P (.val (.int m), e)
  | _ => False
theorem q_dmI : QDMI env P (some kvs) ↔ Ok (maxL (kvs.map (·.1))) fun m => P (.val (.int m), env) := Iff.rfl
theorem w_dmaxI : Ok (fDMaxI i env) P ↔ QDMI env P (dctAtI env i) := by
  unfold fDMaxI
  cases dctAtI env i with
  | none => exact ⟨fun h => (ok_none.mp h).elim, fun h => h.elim⟩
  | some kvs => exact ok_bind_iff fun m => ok_some
end
end Dv
namespace PySem.W
open PySem PySem.Calls PyProof.Rows PyProof.V PySem.Spec
end PySem.W
namespace Big
open PySem PySem.Spec PyProof.Rows L2
def sameI : Option V → V → Bool
  | some (.int i), .int j => j == i
  | _, _ => false
end Big
namespace Dv
open PySem L2
def isIntD : D → Bool
  | .int _ => true
  | _ => false
theorem isIntD_of {d : D} (h : isIntD d = true) : ∃ n, d = .int n := by
  cases d with
  | int n => exact ⟨n, rfl⟩
  | _ => cases h
def sameD : Option D → D → Bool
  | some (.int i), .int j => j == i
  | _, _ => false
section
variable {K : PySem.W.Frag} {G : Hp}
theorem DqK.same {kl' : List (List L2.Key × V)} {kvs' : List (List Int × D)} (h' : DqK K G kl' kvs') (i' : (kvs'.all fun q => isIntD q.2) = true) : ∀ {kl : List (List L2.Key × V)} {kvs : List (List Int × D)}, DqK K G kl kvs → (kvs.all fun q => isIntD q.2) = true →
    (kl.all fun p => Big.sameI (valV kl' p.1) p.2) = kvs.all fun q => sameD (kVal kvs' q.1) q.2
  | [], [], _, _ => rfl
  | [], _ :: _, h, _ => h.elim
  | _ :: _, [], h, _ => h.elim
  | p :: kl, q :: kvs, h, e => by
    obtain ⟨h1, h2, h3⟩ := h
    rw [List.all_cons, Bool.and_eq_true] at e
    rw [List.all_cons, List.all_cons, DqK.same h' i' h3 e.2]
    congr 1
    rw [h1]
    obtain ⟨k, d⟩ := q
    dsimp only at h2 e ⊢
    obtain ⟨n, rfl⟩ := isIntD_of e.1
    obtain ⟨pk, pv⟩ := p
    dsimp only at h2 ⊢
    cases h2
    rcases h'.val k with ⟨z1, z2⟩ | ⟨v, d', z1, z2, z3⟩
    · rw [show valV kl' (List.map Sum.inl k) = none from z1, z2]
      rfl
    · rw [show valV kl' (List.map Sum.inl k) = some v from z1, z2]
      have hd : isIntD d' = true := by
        unfold kVal at z2
        obtain ⟨z, hz, e⟩ := Option.map_eq_some_iff.mp z2
        rw [← e]
        exact List.all_eq_true.mp i' z (List.mem_of_find?_eq_some hz)
      obtain ⟨n', rfl⟩ := isIntD_of hd
      cases z3
      rfl
end
end Dv
namespace Dv
open PySem L2
section
variable {K : PySem.W.Frag} {B : Hp} {O : List Addr} {I : List (Nat × Addr)} {σ : L2.St} {H H' : Hp} {env env' : Env} {v : V} {t ta tb te : TE} {f fa fb fe : EF} {W : WN}
def fTupW (fn : NF) : EF := fun env => (fn env).bind fun a => if a.1.length ≤ 1000 then some (.tw a.1, a.2) else none
end
section
variable {env e : Env} {P : RV × Env → Prop} {PO : Out → Prop} {fn : NF} {fe : EF} {mid rest : SFn} {i j k : Nat} {A C : List D} {e4 : Env}
def KTupW (P : RV × Env → Prop) : List (List D) × Env → Prop := fun a => a.1.length ≤ 1000 ∧ P (.tw a.1, a.2)
theorem k_tupW {dss : List (List D)} : KTupW P (dss, e) ↔ dss.length ≤ 1000 ∧ P (.tw dss, e) := Iff.rfl
theorem w_tupW : Ok (fTupW fn env) P ↔ Ok (fn env) (KTupW P) := by
  refine ok_bind_iff fun ⟨r, e⟩ => ?_
  dsimp only
  rw [ok_guard]
  exact and_congr Iff.rfl ok_some
theorem k_finXt {io : List Bool} {PX : Except Nat (D × Bool × List (List D)) → Prop} {dss : List (List D)} : KFinX io PX (.rt (.tw dss) e) ↔ outF io (.tup (dss.map D.lst)) true e fun r => PX (.ok r) := Iff.rfl
theorem k_resW {bor : List Nat} {outs outs' : List (List D)} {a b : List D} : KRes bor outs (.tup [.lst a, .lst b], true, outs') P e ↔ (bor.isEmpty && outs.all (fun ds => bor.isEmpty || noLs ds)) = true ∧ P (.tw [a, b], e) := Iff.rfl
theorem k_backXw {bor : List Nat} {a b : List D} : KBackX bor e P (.ok (.tup [.lst a, .lst b], true, [])) ↔ bor.isEmpty = true ∧ P (.tw [a, b], e) := by
  unfold KBackX
  dsimp only
  rw [show resR (.tup [.lst a, .lst b], true, []) = some (.tw [a, b]) from rfl, ok_some]
  exact ⟨fun h => h.2, fun h => ⟨rfl, h⟩⟩
end
end Dv
namespace Zl
open PySem PySem.Spec PyProof.Rows L2
theorem no_len : typeLookup (.type "zip") "__len__" = pure none := am_miss_of_fast (by decide +kernel)
theorem no_hint : typeLookup (.type "zip") "__length_hint__" = pure none := am_miss_of_fast (by decide +kernel)
abbrev lsO (acc : Array Value) (c : Nat) : Obj := { cls := .type "list", dict := none, data := .seq acc c, slots := #[] }
/-- the zip as it stands while its pairs are put into the list S -/
structure At (h : Heap) (S z TI TO i1 i2 l1 l2 : Addr) (xs ys : Array Value) (i : Nat) : Prop where
  ti : IsPair h TI (.ref i1) (.ref i2)
  a1 : h.IsListIter i1 l1 i
  a2 : h.IsListIter i2 l2 i
  b1 : h.IsList l1 xs
  b2 : h.IsList l2 ys
  to : ∃ a b, IsPair h TO a b
  st : IsZip h z TI TO .none ∨ ∃ T f oT, IsZipHeld h z TI TO T f ∧ h.get? T = some oT ∧ T ≠ z ∧ T ≠ i1 ∧ T ≠ i2 ∧ T ≠ S
theorem At.go {h h' : Heap} {S z TI TO i1 i2 l1 l2 : Addr} {xs ys : Array Value} {i : Nat} (a : At h S z TI TO i1 i2 l1 l2 xs ys i) (hS : S ∉ [z, TI, TO, i1, i2, l1, l2]) (k : ∀ b o, b ≠ S → h.get? b = some o → h'.get? b = some o) : At h' S z TI TO i1 i2 l1 l2 xs ys i := by
  simp only [List.mem_cons, List.not_mem_nil, or_false, not_or] at hS
  obtain ⟨d1, d2, d3, d4, d5, d6, d7⟩ := hS
  obtain ⟨u, v, q⟩ := a.to
  refine ⟨k _ _ (Ne.symm d2) a.ti, a.a1.at fun o e => k _ o (Ne.symm d4) e, a.a2.at fun o e => k _ o (Ne.symm d5) e, a.b1.at fun o e => k _ o (Ne.symm d6) e, a.b2.at fun o e => k _ o (Ne.symm d7) e, ⟨u, v, k _ _ (Ne.symm d3) q⟩, ?_⟩
  rcases a.st with p | ⟨T, f, oT, p, q, r1, r2, r3, r4⟩
  · exact .inl (k _ _ (Ne.symm d1) p)
  · exact .inr ⟨T, f, oT, k _ _ (Ne.symm d1) p, k _ _ r4 q, r1, r2, r3, r4⟩
theorem At.there {h : Heap} {S z TI TO i1 i2 l1 l2 : Addr} {xs ys : Array Value} {i : Nat} (a : At h S z TI TO i1 i2 l1 l2 xs ys i) : ∀ b, b ∈ [z, TI, TO, i1, i2] → ∃ o, h.get? b = some o := fun b hb => by
  obtain ⟨u, v, q⟩ := a.to
  obtain ⟨o1, e1, _⟩ := a.a1
  obtain ⟨o2, e2, _⟩ := a.a2
  have hz : ∃ o, h.get? z = some o := by
    rcases a.st with p | ⟨T, f, oT, p, _⟩
    · exact ⟨_, p⟩
    · exact ⟨_, p⟩
  simp only [List.mem_cons, List.not_mem_nil, or_false] at hb
  rcases hb with e | e | e | e | e <;> subst e
  · exact hz
  · exact ⟨_, a.ti⟩
  · exact ⟨_, q⟩
  · exact ⟨_, e1⟩
  · exact ⟨_, e2⟩
/-- the pairs that lie in the list -/
structure Has (h0 h : Heap) (S z TI TO i1 i2 : Addr) (xs ys : Array Value) (Ts : List Addr) (acc : Array Value) (c : Nat) : Prop where
  lst : h.get? S = some (lsO acc c)
  is : acc.toList = Ts.map Value.ref
  prs : ∀ (j : Nat) (T : Addr), Ts[j]? = some T → ∃ u v, xs[j]? = some u ∧ ys[j]? = some v ∧ IsPair h T u v ∧ h0.objs.size ≤ T ∧ T ∉ [S, z, TI, TO, i1, i2]
  nod : Ts.Nodup
  kept : ∀ b o, h0.get? b = some o → h.get? b = some o
theorem Has.go {h0 h h' : Heap} {S z TI TO i1 i2 : Addr} {xs ys : Array Value} {Ts : List Addr} {acc : Array Value} {c : Nat} (a : Has h0 h S z TI TO i1 i2 xs ys Ts acc c) (d : S ∉ [z, TO, i1, i2]) (new : ∀ b, b ∈ [S, z, TI, TO, i1, i2] → h0.objs.size ≤ b)
    (k : ∀ b o, b ∉ [z, TO, i1, i2] → h.get? b = some o → h'.get? b = some o) : Has h0 h' S z TI TO i1 i2 xs ys Ts acc c := by
  refine ⟨k _ _ d a.lst, a.is, fun j T e => ?_, a.nod, fun b o e => k _ _ (fun hb => ?_) (a.kept b o e)⟩
  · obtain ⟨u, v, p1, p2, p3, p4, p5⟩ := a.prs j T e
    refine ⟨u, v, p1, p2, k _ _ (fun hb => p5 ?_) p3, p4, p5⟩
    simp only [List.mem_cons, List.not_mem_nil, or_false] at hb ⊢
    rcases hb with e | e | e | e <;> simp [e]
  · have := new b (by
      simp only [List.mem_cons, List.not_mem_nil, or_false] at hb ⊢
      rcases hb with e | e | e | e <;> simp [e])
    exact absurd (Nat.lt_of_lt_of_le (Heap.lt_size e) this) (Nat.lt_irrefl _)
theorem Has.push {h0 h h' : Heap} {S z TI TO i1 i2 : Addr} {xs ys : Array Value} {Ts : List Addr} {acc : Array Value} {c c' : Nat} {T : Addr} {u v : Value} (a : Has h0 h S z TI TO i1 i2 xs ys Ts acc c) (hS : S ≠ T) (h0S : h0.objs.size ≤ S) (hu : xs[Ts.length]? = some u) (hv : ys[Ts.length]? = some v)
    (hT : IsPair h T u v) (h1 : h0.objs.size ≤ T) (h2 : T ∉ [S, z, TI, TO, i1, i2]) (h3 : T ∉ Ts) (e : h'.get? S = some (lsO (acc.push (.ref T)) c')) (k : ∀ b o, b ≠ S → h.get? b = some o → h'.get? b = some o) : Has h0 h' S z TI TO i1 i2 xs ys (Ts ++ [T]) (acc.push (.ref T)) c' := by
  refine ⟨e, by rw [Array.toList_push, a.is, List.map_append]; rfl, fun j T' e => ?_, ?_, fun b o eo => k _ _ (fun hb => ?_) (a.kept b o eo)⟩
  · rw [List.getElem?_append] at e
    split at e
    · obtain ⟨u, v, p1, p2, p3, p4, p5⟩ := a.prs j T' e
      exact ⟨u, v, p1, p2, k _ _ (fun z => p5 (by rw [z]; exact List.mem_cons_self)) p3, p4, p5⟩
    · have hj : j = Ts.length := by
        have := (List.getElem?_eq_some_iff.mp e).1
        simp at this
        omega
      subst hj
      rw [Nat.sub_self] at e
      cases e
      exact ⟨u, v, hu, hv, k _ _ (Ne.symm hS) hT, h1, h2⟩
  · refine List.nodup_append.mpr ⟨a.nod, List.pairwise_singleton _ _, fun x hx y hy => ?_⟩
    rw [List.mem_singleton.mp hy]
    intro z
    rw [z] at hx
    exact h3 hx
  · subst hb
    exact absurd (Nat.lt_of_lt_of_le (Heap.lt_size eo) h0S) (Nat.lt_irrefl _)
section
variable {prog : Program} {w : World} {A : Around} {s : Shared} {R : Result → Shared → Prop} {S z TI TO i1 i2 l1 l2 : Addr} {xs ys : Array Value} {res : Value} {h0 : Heap}
theorem loop (hh : A.handled = none) (D : ZipApart z TI TO i1 i2 l1 l2) (hS : S ∉ [z, TI, TO, i1, i2, l1, l2]) (new : ∀ b, b ∈ [S, z, TI, TO, i1, i2] → h0.objs.size ≤ b) (hn : min xs.size ys.size ≤ sizeLine) :
    ∀ (k i : Nat) (s : Shared) (Ts : List Addr) (acc : Array Value) (c : Nat), min xs.size ys.size - i = k → i ≤ min xs.size ys.size → At s.heap S z TI TO i1 i2 l1 l2 xs ys i → Has h0 s.heap S z TI TO i1 i2 xs ys Ts acc c → Ts.length = i →
    (∀ h' Ts acc c, Has h0 h' S z TI TO i1 i2 xs ys Ts acc c → Ts.length = min xs.size ys.size → R (.ok (.ret res)) { s with heap := h' }) → codeAny (model prog w) A (.builtin "list.extend.loop" ⟨[.ref S, .ref z, res], []⟩) R s := by
  have dS : S ∉ [z, TO, i1, i2] := fun hb => hS (by
    simp only [List.mem_cons, List.not_mem_nil, or_false] at hb ⊢
    rcases hb with e | e | e | e <;> simp [e])
  intro k
  induction k with
  | zero =>
    intro i s Ts acc c hk hi a has hl fin
    have hend : xs[i]? = none ∨ ys[i]? = none := by
      rcases Nat.le_total xs.size ys.size with h | h
      · exact .inl (Array.getElem?_eq_none (by omega))
      · exact .inr (Array.getElem?_eq_none (by omega))
    refine codeAny_builtin F.entry_extend_loop ?_; rw [Around.under_plainId F.plain_extend_loop _]
    show wpAny _ A.in1 (pyNext (.ref z) >>= _) _ _ s
    obtain ⟨u, v, hTO⟩ := a.to
    rcases a.st with p | ⟨T, f, oT, p, q, r1, r2, r3, r4⟩
    · refine wpAny_bind (wpAny_pyNext_zip_end hh D p a.ti hTO a.a1 a.a2 a.b1 a.b2 hend fun h' hk => wpAny_pure (fin h' Ts acc c (has.go dS new fun b o hb e => ?_) (by omega)))
      simp only [List.mem_cons, List.not_mem_nil, or_false, not_or] at hb
      exact hk _ _ hb.1 hb.2.1 hb.2.2.1 hb.2.2.2 e
    · refine wpAny_bind (wpAny_pyNext_zip_end_held hh D p q a.ti a.a1 a.a2 a.b1 a.b2 hend fun h' hk => wpAny_pure (fin h' Ts acc c (has.go dS new fun b o hb e => ?_) (by omega)))
      simp only [List.mem_cons, List.not_mem_nil, or_false, not_or] at hb
      exact hk _ _ hb.1 hb.2.2.1 hb.2.2.2 e
  | succ k ih =>
    intro i s Ts acc c hk hi a has hl fin
    have hix : i < xs.size := by omega
    have hiy : i < ys.size := by omega
    have ex := Array.getElem?_eq_getElem hix
    have ey := Array.getElem?_eq_getElem hiy
    have asz : acc.size = i := by rw [← hl, ← Array.length_toList, has.is, List.length_map]
    refine codeAny_builtin F.entry_extend_loop ?_; rw [Around.under_plainId F.plain_extend_loop _]
    show wpAny _ A.in1 (pyNext (.ref z) >>= _) _ _ s
    have apart : ∀ b o, s.heap.get? b = some o → s.heap.objs.size ≠ b := fun b o e => Nat.ne_of_gt (Heap.lt_size e)
    have thr := a.there
    have nS := apart _ _ has.lst
    have nT : s.heap.objs.size ∉ [S, z, TI, TO, i1, i2] := fun hb => by
      rcases List.mem_cons.mp hb with e | e
      · exact nS e
      · obtain ⟨o, ho⟩ := thr _ e
        exact apart _ _ ho rfl
    have nTs : s.heap.objs.size ∉ Ts := fun hb => by
      obtain ⟨j, e⟩ := List.mem_iff_getElem?.mp hb
      obtain ⟨u, v, _, _, p, _⟩ := has.prs j _ e
      exact apart _ _ p rfl
    have old : h0.objs.size ≤ s.heap.objs.size := by
      have h1 := new S List.mem_cons_self
      have h2 := Heap.lt_size has.lst
      exact Nat.le_trans h1 (Nat.le_of_lt h2)
    have nmem : ∀ b, b ∈ [z, TI, TO, i1, i2] → s.heap.objs.size ≠ b := fun b hb e => by
      obtain ⟨o, ho⟩ := thr b hb
      exact apart _ _ ho e
    have step : ∀ h' : Heap, At h' S z TI TO i1 i2 l1 l2 xs ys (i + 1) → IsPair h' s.heap.objs.size xs[i] ys[i] → (∀ b o, b ∉ [z, TO, i1, i2] → s.heap.get? b = some o → h'.get? b = some o) →
        wpAny (model prog w) A.in1 (updateSeq S (·.push (.ref s.heap.objs.size)) >>= fun _ => again (.builtin "list.extend.loop" ⟨[.ref S, .ref z, res], []⟩)) (fun fin s' => match fin with | .done f => R (.ok f) s' | .again c' => c'.quiet = true ∧ codeAny (model prog w) A c' R s') (fun e s' => R (.error e) s') { s with heap := h' } := fun h' a' pr kp => by
      have has' := has.go dS new kp
      have other : ∀ b o, b ≠ S → h'.get? b = some o → (h'.update S (Obj.mapSeq (·.push (.ref s.heap.objs.size)))).get? b = some o := fun b o hb e => (Heap.get?_update_other _ _ (Ne.symm hb)).trans e
      refine wpAny_bind (wpAny_updateSeq (s := { s with heap := h' }) has'.lst rfl (wpAny_pure ⟨plainId_quiet F.plain_extend_loop _, ?_⟩) (by rw [asz]; omega) (by show (acc.push _).size ≤ sizeLine + 1; rw [Array.size_push, asz]; omega))
      have self := Heap.get?_update_self (Obj.mapSeq (·.push (Value.ref s.heap.objs.size))) has'.lst rfl
      refine ih (i + 1) _ (Ts ++ [s.heap.objs.size]) _ _ (by omega) (by omega) (a'.go hS other) (has'.push (Ne.symm nS) (new S List.mem_cons_self) (by rw [hl]; exact ex) (by rw [hl]; exact ey) pr old nT nTs self other) (by rw [List.length_append, hl]; rfl) fin
    obtain ⟨u, v, hTO⟩ := a.to
    rcases a.st with p | ⟨T, f, oT, p, q, r1, r2, r3, r4⟩
    · refine wpAny_bind (wpAny_pyNext_zip_item D p a.ti hTO a.a1 a.a2 a.b1 a.b2 ex ey fun h' q1 q2 q3 q4 q5 q6 hk => step h' ⟨hk _ _ D.TIz D.TITO D.TIi1 D.TIi2 a.ti, q3, q4, ?_, ?_, ⟨_, _, q2⟩, .inr ⟨s.heap.objs.size, false, _, q1, q5, ?_, ?_, ?_, nS⟩⟩ q5 fun b o hb e => ?_)
      · exact a.b1.at fun o e => hk _ o D.l1z D.l1TO D.l1i1 D.l1i2 e
      · exact a.b2.at fun o e => hk _ o D.l2z D.l2TO D.l2i1 D.l2i2 e
      · exact nmem z (by simp)
      · exact nmem i1 (by simp)
      · exact nmem i2 (by simp)
      · simp only [List.mem_cons, List.not_mem_nil, or_false, not_or] at hb
        exact hk _ _ hb.1 hb.2.1 hb.2.2.1 hb.2.2.2 e
    · refine wpAny_bind (wpAny_pyNext_zip_item_held D p q a.ti a.a1 a.a2 a.b1 a.b2 ex ey fun h' q1 q3 q4 q5 q6 hk => step h' ⟨hk _ _ D.TIz D.TIi1 D.TIi2 a.ti, q3, q4, ?_, ?_, ⟨u, v, hk _ _ D.TOz D.TOi1 D.TOi2 hTO⟩, .inr ⟨T, true, oT, q1, hk _ _ r1 r2 r3 q, r1, r2, r3, r4⟩⟩ q5 fun b o hb e => ?_)
      · exact a.b1.at fun o e => hk _ o D.l1z D.l1i1 D.l1i2 e
      · exact a.b2.at fun o e => hk _ o D.l2z D.l2i1 D.l2i2 e
      · simp only [List.mem_cons, List.not_mem_nil, or_false, not_or] at hb
        exact hk _ _ hb.1 hb.2.2.1 hb.2.2.2 e
theorem call {Q : Value → Shared → Prop} {E : Value → Shared → Prop} (hh : A.handled = none) (D : ZipApart z TI TO i1 i2 l1 l2) (new : ∀ b, b ∈ [z, TI, TO, i1, i2] → h0.objs.size ≤ b) (hn : min xs.size ys.size ≤ sizeLine)
    (hz : IsZip s.heap z TI TO .none) (ti : IsPair s.heap TI (.ref i1) (.ref i2)) (to : ∃ a b, IsPair s.heap TO a b) (a1 : s.heap.IsListIter i1 l1 0) (a2 : s.heap.IsListIter i2 l2 0) (b1 : s.heap.IsList l1 xs) (b2 : s.heap.IsList l2 ys) (kp : ∀ b o, h0.get? b = some o → s.heap.get? b = some o)
    (fin : ∀ h' S Ts acc c, Has h0 h' S z TI TO i1 i2 xs ys Ts acc c → h0.objs.size ≤ S → Ts.length = min xs.size ys.size → Q (.ref S) { s with heap := h' }) :
    wpAny (model prog w) A (PySem.call (.type "list") [.ref z]) Q E s := by
  refine callType_codes (Q₁ := fun ob t => ob = .ref s.heap.objs.size ∧ t = { s with heap := s.heap.push { cls := .type "list", data := .seq #[] } }) F.called_list (F.typeCall_list_1 _) F.entry_list_init (code_list_new _ ⟨rfl, rfl⟩) fun ob t ht => ?_
  obtain ⟨rfl, rfl⟩ := ht
  generalize hSd : s.heap.objs.size = S
  have g0 : (s.heap.push { cls := .type "list", data := .seq #[] }).get? S = some (lsO #[] 0) := by rw [← hSd]; exact Heap.get?_push_size _ rfl
  have k0 : ∀ b o, s.heap.get? b = some o → b ≠ S ∧ (s.heap.push { cls := .type "list", data := .seq #[] }).get? b = some o := fun b o e => ⟨by rw [← hSd]; exact Nat.ne_of_lt (Heap.lt_size e), Heap.get?_push_of_some _ e⟩
  generalize s.heap.push { cls := .type "list", data := .seq #[] } = hp at g0 k0
  refine ⟨⟨_, g0, rfl⟩, F.args_list_init_2 _ _, ?_⟩
  have hzS : z ≠ S := (k0 _ _ hz).1
  have TIS : TI ≠ S := (k0 _ _ ti).1
  obtain ⟨u, v, hTO⟩ := to
  have TOS : TO ≠ S := (k0 _ _ hTO).1
  have i1S : i1 ≠ S := let ⟨_, e, _⟩ := a1; (k0 _ _ e).1
  have i2S : i2 ≠ S := let ⟨_, e, _⟩ := a2; (k0 _ _ e).1
  have l1S : l1 ≠ S := let ⟨_, e, _⟩ := b1; (k0 _ _ e).1
  have l2S : l2 ≠ S := let ⟨_, e, _⟩ := b2; (k0 _ _ e).1
  have hS : S ∉ [z, TI, TO, i1, i2, l1, l2] := fun hb => by
    simp only [List.mem_cons, List.not_mem_nil, or_false] at hb
    rcases hb with e | e | e | e | e | e | e
    · exact hzS e.symm
    · exact TIS e.symm
    · exact TOS e.symm
    · exact i1S e.symm
    · exact i2S e.symm
    · exact l1S e.symm
    · exact l2S e.symm
  have h0S : h0.objs.size ≤ S := by
    have h1 := new z List.mem_cons_self
    have h2 := Heap.lt_size hz
    rw [← hSd]
    exact Nat.le_trans h1 (Nat.le_of_lt h2)
  have news : ∀ b, b ∈ [S, z, TI, TO, i1, i2] → h0.objs.size ≤ b := fun b hb => by
    rcases List.mem_cons.mp hb with e | e
    · rw [e]; exact h0S
    · exact new b e
  have upk : ∀ (h : Heap) (f : Obj → Obj), (∀ b o, s.heap.get? b = some o → h.get? b = some o) → ∀ b o, s.heap.get? b = some o → (h.update S f).get? b = some o := fun h f q b o e => (Heap.get?_update_other _ _ (Ne.symm (k0 _ _ e).1)).trans (q b o e)
  have k1 : ∀ b o, s.heap.get? b = some o → hp.get? b = some o := fun b o e => (k0 b o e).2
  show wpAny _ A.in1.in1 (do let old ← Builtin.List.listItems (.ref S); Builtin.List.listUpdate (.ref S) (fun _ => #[]); letGo old.toList.reverse; Builtin.List.listExtendWith (.ref S) (.ref z) .none) _ _ _
  unfold Builtin.List.listItems
  refine wpAny_bind (wpAny_bind (wpAny_seqItems (s := { s with heap := hp }) g0 rfl (wpAny_pure ?_)))
  show wpAny _ A.in1.in1 (updateSeq S (fun _ => #[]) >>= fun _ => letGo (#[] : Array Value).toList.reverse >>= fun _ => Builtin.List.listExtendWith (.ref S) (.ref z) .none) _ _ _
  refine wpAny_bind (wpAny_updateSeq (s := { s with heap := hp }) g0 rfl (wpAny_bind (wpAny_letGo ?_)))
  have g1 := Heap.get?_update_self (Obj.mapSeq (fun _ => (#[] : Array Value))) g0 rfl
  have k2 := upk _ (Obj.mapSeq (fun _ => (#[] : Array Value))) k1
  unfold Builtin.List.listExtendWith
  refine wpAny_bind (wpAny_typeOf (v := .ref z) (T := "zip") ⟨_, k2 _ _ hz, rfl⟩ ?_)
  have c1 : Builtin.List.listSameRef (.ref S) (.ref z) = false := by simp [Builtin.List.listSameRef, Ne.symm hzS]
  have c2 : (Value.type "zip" == Value.type "list") = false ∧ (Value.type "zip" == Value.type "tuple") = false := by decide
  simp only [c1, c2.1, c2.2, Bool.or_false, Bool.false_eq_true, if_false]
  refine wpAny_bind (wpAny_pyIter_zip (k2 _ _ hz) (wpAny_bind (wpAny_holding ?_)))
  unfold Builtin.List.listLengthHint
  refine wpAny_bind (wpAny_specialOf (T := "zip") ⟨_, k2 _ _ hz, rfl⟩ no_len ?_)
  show wpAny _ A.in1.in1 (specialOf (Value.ref z) (Str.ofString "__length_hint__") >>= _) _ _ _
  refine wpAny_bind (wpAny_specialOf (T := "zip") ⟨_, k2 _ _ hz, rfl⟩ no_hint (wpAny_pure ?_))
  show wpAny _ A.in1.in1 (rule "list.extend.makes-room" >>= fun _ => Builtin.List.listTouch (.ref S) >>= fun _ => again (.builtin "list.extend.loop" ⟨[.ref S, .ref z, .none], []⟩)) _ _ _
  refine wpAny_bind (wpAny_rule (wpAny_bind ?_))
  show wpAny _ A.in1.in1 (updateSeq S (·.push .none) >>= fun _ => updateSeq S (·.pop)) _ _ _
  refine wpAny_bind (wpAny_updateSeq g1 rfl ?_)
  have g2 := Heap.get?_update_self (Obj.mapSeq (·.push Value.none)) g1 rfl
  refine wpAny_updateSeq (hz := by seq_fits) g2 rfl ?_
  have g3 := Heap.get?_update_self (Obj.mapSeq (·.pop)) g2 rfl
  have k4 := upk _ (Obj.mapSeq (·.pop)) (upk _ (Obj.mapSeq (·.push Value.none)) k2)
  refine wpAny_pure ⟨plainId_quiet F.plain_extend_loop _, ?_⟩
  refine loop (A := A.in1) (h0 := h0) hh D hS news hn _ 0 _ [] _ _ rfl (Nat.zero_le _) ⟨k4 _ _ ti, a1.at fun o e => k4 _ o e, a2.at fun o e => k4 _ o e, b1.at fun o e => k4 _ o e, b2.at fun o e => k4 _ o e, ⟨u, v, k4 _ _ hTO⟩, .inl (k4 _ _ hz)⟩ ⟨g3, rfl, fun j T e => ?_, List.nodup_nil, fun b o e => k4 _ _ (kp b o e)⟩ rfl fun h' Ts acc c has hl => ?_
  · simp at e
  · exact ⟨rfl, fin h' S Ts acc c has h0S hl⟩
end
end Zl
namespace L2
open PySem PySem.Spec PyProof.Rows
end L2
namespace Dv
open PySem L2
end Dv
namespace Dv
open PySem L2
open PySem.W (dataLt dataLt_ii AlikeAll iter_listW readsAll_len cmpIn_lt moved_old argBest_fold)
end Dv
namespace Dv
open PySem L2
section
variable {K : PySem.W.Frag} {B : Hp} {O : List Addr} {I : List (Nat × Addr)} {σ : L2.St} {H : Hp} {env : Env} {W : WN} {te : TE} {fe : EF} {p : Addr} {od : Obj} {u : HO} {kl : List (List L2.Key × V)} {kvs : List (List Int × D)} {i : Nat}
theorem set_get {sv : SV} {j : Nat} (c : j ≠ i) : (env.set i sv)[j]? = env[j]? := List.getElem?_set_ne (Ne.symm c)
theorem own_setK {sv : SV} (hs : ∀ ds, sv ≠ .o1 ds ∧ sv ≠ .io ds) {j : Nat} {es : List D} (z : OwnAt (env.set i sv) j es) : j ≠ i ∧ OwnAt env j es := by
  by_cases c : j = i
  · subst c
    exfalso
    by_cases l : j < env.length
    · unfold OwnAt at z
      rw [List.getElem?_set_self l] at z
      rcases z with z | z
      · exact (hs es).1 (Option.some.inj z)
      · exact (hs es).2 (Option.some.inj z)
    · unfold OwnAt at z
      rw [List.getElem?_eq_none (by rw [List.length_set]; omega)] at z
      rcases z with z | z <;> cases z
  · refine ⟨c, ?_⟩
    unfold OwnAt at z ⊢
    rw [set_get c] at z
    exact z
theorem mi_upd_out {a : Addr} {o : HO} {X : List Addr} (h : a ∉ X) : mi (upd H a o) X = upd (mi H X) a o := by
  funext b
  by_cases c : b = a
  · subst c
    rw [upd_same]
    exact mi_of h upd_same
  · rw [upd_ne c]
    unfold mi
    rw [upd_ne c]
variable {PO : Out → Prop} {P : RV × Env → Prop}
end
end Dv
namespace Dv
open PySem PySem.Spec PyProof.Rows L2
def gAddS : G2
  | .str a, .str b => if a.length + b.length ≤ 10000000 then some (.val (.str (a ++ b))) else none
  | _, _ => none
def gSlS : GS := fun d lo hi => match d with
  | .str x => if x.length ≤ 10000000 then some (.val (.str (L2.cutS x lo hi))) else none
  | _ => none
def gNeS : G2
  | .str a, .str b => some (.val (.bl (!(a == b))))
  | _, _ => none
end Dv
namespace Dv
open PySem L2
section
variable {K : PySem.W.Frag} {B : Hp} {O : List Addr} {I : List (Nat × Addr)} {σ : L2.St} {H : Hp} {env : Env} {W : WN} {te : TE} {fe : EF}
theorem DqA.erase {G : Hp} {vs : List V} {ds : List D} (n : Nat) (h : DqA K G vs ds) : DqA K G (vs.eraseIdx n) (ds.eraseIdx n) := by
  rw [List.eraseIdx_eq_take_drop_succ, List.eraseIdx_eq_take_drop_succ]
  exact (h.take _).append (h.drop _)
end
end Dv
namespace Dv
open PySem L2
def gEqS : G2
  | .str a, .str b => some (.val (.bl (a == b)))
  | _, _ => none
end Dv
namespace Dv
open PySem L2
section
variable {K : PySem.W.Frag} {B : Hp} {O : List Addr} {I : List (Nat × Addr)} {σ : L2.St} {H H' : Hp} {env env' e : Env} {W : WN} {ta tb tc to te : TE} {fa fb fc fo fe : EF} {P : RV × Env → Prop} {PI : List D × Env → Prop}
def chC (fc : EF) (j : Int) (e : Env) : Option (RV × Env) := (fc e).bind fun c => match c.1 with
  | .val (.int k) => some (.val (.bl (decide (j ≤ k))), c.2)
  | _ => none
def chB (fb fc : EF) (i : Int) (e : Env) : Option (RV × Env) := (fb e).bind fun b => match b.1 with
  | .val (.int j) => if i ≤ j then chC fc j b.2 else some (.val (.bl false), b.2)
  | _ => none
def fChn (fa fb fc : EF) : EF := fun env => (fa env).bind fun a => match a.1 with
  | .val (.int i) => chB fb fc i a.2
  | _ => none
def KCh3 (j : Int) (P : RV × Env → Prop) : RV × Env → Prop := fun c => match c.1 with
  | .val (.int k) => P (.val (.bl (decide (j ≤ k))), c.2)
  | _ => False
def KCh2 (i : Int) (fc : EF) (P : RV × Env → Prop) : RV × Env → Prop := fun b => match b.1 with
  | .val (.int j) => (i ≤ j → Ok (fc b.2) (KCh3 j P)) ∧ (¬ i ≤ j → P (.val (.bl false), b.2))
  | _ => False
def KCh1 (fb fc : EF) (P : RV × Env → Prop) : RV × Env → Prop := fun a => match a.1 with
  | .val (.int i) => Ok (fb a.2) (KCh2 i fc P)
  | _ => False
theorem k_ch3 {j k : Int} : KCh3 j P (.val (.int k), e) ↔ P (.val (.bl (decide (j ≤ k))), e) := Iff.rfl
theorem k_ch2 {i j : Int} : KCh2 i fc P (.val (.int j), e) ↔ (i ≤ j → Ok (fc e) (KCh3 j P)) ∧ (¬ i ≤ j → P (.val (.bl false), e)) := Iff.rfl
theorem k_ch1 {i : Int} : KCh1 fb fc P (.val (.int i), e) ↔ Ok (fb e) (KCh2 i fc P) := Iff.rfl
theorem ok_matchI {α : Type} {r : RV} {f : Int → Option α} {Z : α → Prop} : Ok (match r with | .val (.int k) => f k | _ => none) Z ↔ (match r with | .val (.int k) => Ok (f k) Z | _ => False) := by
  cases r with
  | val d => cases d <;> first | exact Iff.rfl | exact ok_none
  | slot i => exact ok_none
  | new ds => exact ok_none
  | ex n => exact ok_none
  | tw n => exact ok_none
theorem w_chn : Ok (fChn fa fb fc env) P ↔ Ok (fa env) (KCh1 fb fc P) := by
  refine ok_bind_iff fun ⟨r, e⟩ => ?_
  refine ok_matchI.trans ?_
  cases r with
  | val d =>
    cases d <;> first | exact Iff.rfl | skip
    rename_i i
    refine ok_bind_iff fun ⟨r, e⟩ => ?_
    refine ok_matchI.trans ?_
    cases r with
    | val d =>
      cases d <;> first | exact Iff.rfl | skip
      rename_i j
      show Ok (if i ≤ j then chC fc j e else some (.val (.bl false), e)) P ↔ _
      rw [ok_ite, ok_some]
      refine and_congr (imp_congr Iff.rfl ?_) Iff.rfl
      refine ok_bind_iff fun ⟨r, e⟩ => ?_
      refine ok_matchI.trans ?_
      cases r with
      | val d => cases d <;> first | exact Iff.rfl | exact ok_some (P := P)
      | _ => exact Iff.rfl
    | _ => exact Iff.rfl
  | _ => exact Iff.rfl
def fS1 (g : G2) (fo fe : EF) : EF := fun env => (fo env).bind fun a => match a.1 with
  | .val (.str z) => (fe a.2).bind fun b => (deref b.2 b.1).bind fun y => (g (.str z) y).bind fun w => some (w, b.2)
  | _ => none
def DSt (g : G2) (z : Str) (y : Option D) (e : Env) (P : RV × Env → Prop) : Prop := match y with
  | some y => Ok (g (.str z) y) (KZ e P)
  | _ => False
def KS2 (g : G2) (z : Str) (P : RV × Env → Prop) : RV × Env → Prop := fun b => DSt g z (deref b.2 b.1) b.2 P
def KS1 (g : G2) (fe : EF) (P : RV × Env → Prop) : RV × Env → Prop := fun a => match a.1 with
  | .val (.str z) => Ok (fe a.2) (KS2 g z P)
  | _ => False
theorem d_s1 {g : G2} {z : Str} {y : D} : DSt g z (some y) e P ↔ Ok (g (.str z) y) (KZ e P) := Iff.rfl
theorem k_s2 {g : G2} {z : Str} {r : RV} : KS2 g z P (r, e) ↔ DSt g z (deref e r) e P := Iff.rfl
theorem k_s1 {g : G2} {z : Str} : KS1 g fe P (.val (.str z), e) ↔ Ok (fe e) (KS2 g z P) := Iff.rfl
theorem w_s1 {g : G2} : Ok (fS1 g fo fe env) P ↔ Ok (fo env) (KS1 g fe P) := by
  refine ok_bind_iff fun ⟨r, e⟩ => ?_
  cases r with
  | val d =>
    cases d <;> first | exact ok_none (P := P) | skip
    rename_i z
    refine ok_bind_iff fun ⟨r, e⟩ => ?_
    show Ok (Option.bind (deref e r) _) P ↔ DSt g z (deref e r) e P
    cases hd : deref e r with
    | none => exact ok_none (P := P)
    | some y => exact ok_bind_iff (P := P) fun w => ok_some (P := P)
  | _ => exact ok_none (P := P)
def gSplit : G2
  | .str a, .str b => if b.length ≠ 0 ∧ a.length + 2 ≤ 10000000 then some (.new ((Txt.split a b).map D.str)) else none
  | _, _ => none
def gPart : G2
  | .str a, .str b => if b.length ≠ 0 ∧ a.length ≤ 10000000 then some (.val (.tup [.str (Txt.partition a b).1, .str (Txt.partition a b).2.1, .str (Txt.partition a b).2.2])) else none
  | _, _ => none
def gLenS : GB
  | [.str z] => if z.length ≤ 10000000 then some (.val (.int z.length)) else none
  | _ => none
def gInSig (b : Bool) : G2
  | .str x, .str z => match x.cps.toList with
    | [c] => some (.val (.bl (b ^^ decide (c ∈ z.cps.toList))))
    | _ => none
  | _, _ => none
theorem gInSigF {c : Nat} {z : Str} : gInSig false (.str ⟨#[c]⟩) (.str z) = some (.val (.bl (decide (c ∈ z.cps.toList)))) := by
  show some (RV.val (D.bl (false ^^ decide (c ∈ z.cps.toList)))) = _
  rw [Bool.false_xor]
theorem gInSigT {c : Nat} {z : Str} : gInSig true (.str ⟨#[c]⟩) (.str z) = some (.val (.bl (!decide (c ∈ z.cps.toList)))) := by
  show some (RV.val (D.bl (true ^^ decide (c ∈ z.cps.toList)))) = _
  rw [Bool.true_xor]
def sigs (z : Str) : List D := z.cps.toList.map fun c => D.str ⟨#[c]⟩
def fIterS (f : EF) : IF := fun env => (f env).bind fun a => match a.1 with
  | .val (.str z) => some (sigs z, a.2)
  | _ => none
def KItS (PI : List D × Env → Prop) : RV × Env → Prop := fun a => match a.1 with
  | .val (.str z) => PI (sigs z, a.2)
  | _ => False
theorem k_itS {z : Str} : KItS PI (.val (.str z), e) ↔ PI (sigs z, e) := Iff.rfl
theorem w_iterS : Ok (fIterS fa env) PI ↔ Ok (fa env) (KItS PI) := by
  refine ok_bind_iff fun ⟨r, e⟩ => ?_
  cases r with
  | val d => cases d <;> first | exact ok_none (P := PI) | exact ok_some (P := PI)
  | _ => exact ok_none (P := PI)
end
theorem beq_txt {x y : Str} : (x == y) = decide (x = y) := by
  by_cases c : x = y
  · subst c
    rw [decide_eq_true rfl]
    exact beq_self_eq_true x
  · rw [decide_eq_false c]
    exact beq_eq_false_iff_ne.mpr c
theorem gEqS_txt {x y : Str} : gEqS (.str x) (.str y) = some (.val (.bl (decide (x = y)))) := by
  show some (RV.val (D.bl (x == y))) = _
  rw [beq_txt]
theorem gNeS_txt {x y : Str} : gNeS (.str x) (.str y) = some (.val (.bl (!decide (x = y)))) := by
  show some (RV.val (D.bl (!(x == y)))) = _
  rw [beq_txt]
end Dv
namespace Dv
open PySem L2 PyProof.Rows
section
variable {K : PySem.W.Frag} {B : Hp} {O : List Addr} {I : List (Nat × Addr)} {σ : L2.St} {H H' : Hp} {env env' e : Env} {v : V} {t : TA} {fa : AF} {P : RV × Env → Prop} {cl : Nat → Addr} {rs : List RV}
theorem ArgsOk.mono {O : List Addr} {H H' : Hp} (e : Same H H') : ∀ {bs : List Bool} {vs : List V} {ds : List D}, noIo bs → ArgsOk K O H bs vs ds → ArgsOk K O H' bs vs ds
  | _, _, _, _, .nil => .nil
  | _, _, _, n, .val h1 h2 => .val (Dq.mono (mi_mono e) _ _ h1) (ArgsOk.mono e (by simpa [noIo] using n) h2)
  | _, _, _, n, .io _ _ _ _ => by cases n
end
def fCallN2 (g : FF) (fe : EF) (i j : Int) : EF := fun env => (fe env).bind fun a => match a.1 with
  | .new ds => (g [.lst ds, .int i, .int j]).bind fun r => (resR r).bind fun z => some (z, a.2)
  | _ => none
section
variable {env e : Env} {P : RV × Env → Prop} {f : EF}
def KCallN2 (g : FF) (i j : Int) (P : RV × Env → Prop) : RV × Env → Prop := fun a => match a.1 with
  | .new ds => Ok (g [.lst ds, .int i, .int j]) (KBackN a.2 P)
  | _ => False
theorem k_callN2 {g : FF} {i j : Int} {ds : List D} : KCallN2 g i j P (.new ds, e) ↔ Ok (g [.lst ds, .int i, .int j]) (KBackN e P) := Iff.rfl
theorem w_callN2 {g : FF} {i j : Int} : Ok (fCallN2 g f i j env) P ↔ Ok (f env) (KCallN2 g i j P) := by
  refine ok_bind_iff fun ⟨r, e⟩ => ?_
  cases r with
  | new ds =>
    show Ok (Option.bind (g [.lst ds, .int i, .int j]) _) P ↔ Ok (g [.lst ds, .int i, .int j]) (KBackN e P)
    refine ok_bind_iff fun x => ?_
    show Ok (Option.bind (resR x) _) P ↔ _
    unfold KBackN
    cases resR x with
    | none => exact ok_none (P := P)
    | some z => exact ok_some (P := P)
  | _ => exact ok_none (P := P)
end
end Dv
namespace Dv
open PySem L2
mutual
theorem nh_eq (w : World) : ∀ k : NestedKey, nkNum k = true → nh k = k.hash w
  | .none, h => by simp [nkNum] at h
  | .num i, _ => by simp only [nh, NestedKey.hash]
  | .text x, h => by simp [nkNum] at h
  | .tup ks, h => by
    simp only [nkNum] at h
    simp only [nh, NestedKey.hash]
    rw [nhs_eq w ks h]
theorem nhs_eq (w : World) : ∀ ks : List NestedKey, nkNums ks = true → nhs ks = NestedKey.hashes w ks
  | [], _ => by simp only [nhs, NestedKey.hashes]
  | k :: ks, h => by
    simp only [nkNums, Bool.and_eq_true] at h
    simp only [nhs, NestedKey.hashes]
    rw [nh_eq w k h.1, nhs_eq w ks h.2]
end
theorem okN_num {k : NestedKey} (h : okN k = true) : nkNum k = true ∧ k.depth ≤ 8 := by
  cases k with
  | tup ks =>
    simp only [okN, Bool.and_eq_true, decide_eq_true_eq] at h
    exact ⟨by simp only [nkNum]; exact h.1, h.2⟩
  | _ => cases h
mutual
def nkOf : D → Option NestedKey
  | .int i => some (.num i)
  | .tup ds => (nkOfs ds).map .tup
  | .nt ds => (nkOfs ds).map .tup
  | _ => none
def nkOfs : List D → Option (List NestedKey)
  | [] => some []
  | d :: ds => (nkOf d).bind fun k => (nkOfs ds).map fun ks => k :: ks
end
def keyN (d : D) : Option NestedKey := (nkOf d).bind fun k => if okN k = true then some k else none
section
variable {K : PySem.W.Frag} {G : Hp}
mutual
theorem nkOf_dq : ∀ (d : D) (v : V) (k : NestedKey), Dq K G v d → nkOf d = some k → Dq K G v (nkD k)
  | .int i, v, k, h, e => by
    simp only [nkOf, Option.some.injEq] at e
    subst e
    simp only [nkD]
    exact h
  | .tup ds, v, k, h, e => by
    simp only [nkOf] at e
    obtain ⟨ks, e1, rfl⟩ := Option.map_eq_some_iff.mp e
    simp only [nkD]
    cases h with
    | tup h1 h2 => exact .tup h1 (nkOfs_dq ds _ ks h2 e1)
  | .nt ds, v, k, h, e => by
    simp only [nkOf] at e
    obtain ⟨ks, e1, rfl⟩ := Option.map_eq_some_iff.mp e
    simp only [nkD]
    cases h with
    | nt h1 h2 => exact .tup (.inl (.inl h1)) (nkOfs_dq ds _ ks h2 e1)
  | .non, _, _, _, e => by simp [nkOf] at e
  | .bl _, _, _, _, e => by simp [nkOf] at e
  | .str _, _, _, _, e => by simp [nkOf] at e
  | .lst _, _, _, _, e => by simp [nkOf] at e
  | .scr _, _, _, _, e => by simp [nkOf] at e
  | .adr _, _, _, _, e => by simp [nkOf] at e
  | .dct _ _, _, _, _, e => by simp [nkOf] at e
theorem nkOfs_dq : ∀ (ds : List D) (vs : List V) (ks : List NestedKey), DqA K G vs ds → nkOfs ds = some ks → DqA K G vs (nkDs ks)
  | [], _, ks, h, e => by
    simp only [nkOfs, Option.some.injEq] at e
    subst e
    simp only [nkDs]
    exact h
  | d :: ds, _, ks, h, e => by
    simp only [nkOfs] at e
    obtain ⟨k, e1, e⟩ := bnd e
    obtain ⟨ks', e2, rfl⟩ := Option.map_eq_some_iff.mp e
    simp only [nkDs]
    cases h with
    | cons h1 h2 => exact .cons (nkOf_dq d _ k h1 e1) (nkOfs_dq ds _ ks' h2 e2)
end
theorem keyN_of {v : V} {d : D} {k : NestedKey} (h : Dq K G v d) (e : keyN d = some k) : ∃ b, v = .ref b ∧ Dq K G (.ref b) (nkD k) ∧ okN k = true := by
  obtain ⟨k', e1, e2⟩ := bnd e
  split at e2
  · rename_i ho
    cases e2
    have h2 := nkOf_dq d v k h e1
    cases k with
    | tup ks =>
      simp only [nkD] at h2
      have h3 := h2
      cases h3 with
      | tup a b =>
        refine ⟨_, rfl, ?_, ho⟩
        simp only [nkD]
        exact h2
    | _ => cases ho
  · cases e2
mutual
theorem nkD_dp : ∀ (k : NestedKey) (v : V), nkNum k = true → Dq K G v (nkD k) → Dp K G v (NestedKey.data k)
  | .num i, v, _, h => by
    simp only [nkD] at h
    simp only [NestedKey.data]
    cases h
    exact .int i
  | .tup ks, v, n, h => by
    simp only [nkD] at h
    simp only [nkNum] at n
    simp only [NestedKey.data]
    cases h with
    | tup h1 h2 => exact .tup h1 (nkDs_dp ks _ n h2)
  | .none, _, n, _ => by simp [nkNum] at n
  | .text _, _, n, _ => by simp [nkNum] at n
theorem nkDs_dp : ∀ (ks : List NestedKey) (vs : List V), nkNums ks = true → DqA K G vs (nkDs ks) → DpAll K G vs (NestedKey.datas ks)
  | [], _, _, h => by
    simp only [nkDs] at h
    simp only [NestedKey.datas]
    cases h
    exact .nil
  | k :: ks, _, n, h => by
    simp only [nkDs] at h
    simp only [nkNums, Bool.and_eq_true] at n
    simp only [NestedKey.datas]
    cases h with
    | cons h1 h2 => exact .cons (nkD_dp k _ n.1 h1) (nkDs_dp ks _ n.2 h2)
end
end
mutual
theorem reads_is {h : Heap} : ∀ (k : NestedKey) (u : Value) (as : List Addr), nkNum k = true → Reads h u (NestedKey.data k) as → NestedIs h k u
  | .num i, u, as, _, r => by
    simp only [NestedKey.data] at r
    cases r with
    | int _ t => exact .int i t
  | .tup ks, u, as, n, r => by
    simp only [NestedKey.data] at r
    simp only [nkNum] at n
    cases r with
    | tuple h1 h2 h3 h4 => exact .tup h1 h2 h3 (readsAll_is ks _ _ n h4)
  | .none, _, _, n, _ => by simp [nkNum] at n
  | .text _, _, _, n, _ => by simp [nkNum] at n
theorem readsAll_is {h : Heap} : ∀ (ks : List NestedKey) (us : List Value) (as : List Addr), nkNums ks = true → ReadsAll h us (NestedKey.datas ks) as → NestedAll h ks us
  | [], _, _, _, r => by
    simp only [NestedKey.datas] at r
    cases r
    exact .nil
  | k :: ks, _, _, n, r => by
    simp only [NestedKey.datas] at r
    simp only [nkNums, Bool.and_eq_true] at n
    cases r with
    | cons h1 h2 => exact .cons (reads_is k _ _ n.1 h1) (readsAll_is ks _ _ n.2 h2)
end
def KeyAt (K : PySem.W.Frag) (H : Hp) (b : Addr) (k : NestedKey) : Prop := okN k = true ∧ Dq K H (.ref b) (nkD k)
def KsOk (K : PySem.W.Frag) (H : Hp) (xs : List (NestedKey × Addr × V)) : Prop := ∀ x, x ∈ xs → KeyAt K H x.2.1 x.1
def valX (xs : List (NestedKey × Addr × V)) (k : NestedKey) : Option V := (xs.find? fun x => decide (x.1 = k)).map (·.2.2)
def putX (xs : List (NestedKey × Addr × V)) (k : NestedKey) (b : Addr) (v : V) : List (NestedKey × Addr × V) := if (xs.any fun x => decide (x.1 = k)) = true then xs.map (fun x => if x.1 = k then (x.1, x.2.1, v) else x) else xs ++ [(k, b, v)]
theorem putX_len (xs : List (NestedKey × Addr × V)) (k : NestedKey) (b : Addr) (v : V) : (putX xs k b v).length ≤ xs.length + 1 := by
  unfold putX
  split
  · rw [List.length_map]; omega
  · rw [List.length_append]; exact Nat.le_refl _
theorem PairN.val : ∀ {xs : List (NestedKey × Addr × V)} {ys : List (NestedKey × Addr × Value)} (k : NestedKey), PairN xs ys → RelO (valX xs k) ((atKey ys k).map (·.2)) ∧ (xs.any fun x => decide (x.1 = k)) = (atKey ys k).isSome
  | _, _, _, .nil => ⟨True.intro, rfl⟩
  | _, _, k, @Paired.cons _ _ _ p q ps qs h t => by
    obtain ⟨h1, h2, h3⟩ := h
    obtain ⟨i1, i2⟩ := PairN.val k t
    by_cases c : p.1 = k
    · have c2 : q.1 = k := h1.symm.trans c
      have e1 : valX (p :: ps) k = some p.2.2 := by
        unfold valX
        rw [List.find?_cons_of_pos (by simpa using c)]
        rfl
      have e2 : atKey (q :: qs) k = some q.2 := by simp [atKey, List.find?_cons, c2]
      rw [e1, e2]
      exact ⟨h3, by rw [List.any_cons, decide_eq_true c]; rfl⟩
    · have c2 : ¬ q.1 = k := fun z => c (h1.trans z)
      have e1 : valX (p :: ps) k = valX ps k := by
        unfold valX
        rw [List.find?_cons_of_neg (by simpa using c)]
      have e2 : atKey (q :: qs) k = atKey qs k := by simp [atKey, List.find?_cons, c2]
      rw [e1, e2]
      exact ⟨i1, by rw [List.any_cons, decide_eq_false c, Bool.false_or]; exact i2⟩
theorem PairN.repl {k : NestedKey} {v : V} {u : Value} (ru : RelV v u) : ∀ {xs : List (NestedKey × Addr × V)} {ys : List (NestedKey × Addr × Value)}, PairN xs ys → PairN (xs.map fun x => if x.1 = k then (x.1, x.2.1, v) else x) (ys.map (putAt k u))
  | _, _, .nil => .nil
  | _, _, @Paired.cons _ _ _ p q ps qs h t => by
    rw [List.map_cons, List.map_cons]
    refine .cons ?_ (PairN.repl ru t)
    obtain ⟨h1, h2, h3⟩ := h
    unfold putAt
    by_cases c : p.1 = k
    · rw [if_pos c, if_pos (h1.symm.trans c)]
      exact ⟨h1, h2, ru⟩
    · rw [if_neg c, if_neg (fun z => c (h1.trans z))]
      exact ⟨h1, h2, h3⟩
theorem PairN.put {xs : List (NestedKey × Addr × V)} {ys : List (NestedKey × Addr × Value)} (r : PairN xs ys) (k : NestedKey) (b : Addr) {v : V} {u : Value} (ru : RelV v u) : PairN (putX xs k b v) (storedH ys k b u) := by
  unfold putX storedH
  rw [(r.val k).2]
  by_cases c : (atKey ys k).isSome = true
  · rw [if_pos c, if_pos c]
    exact PairN.repl ru r
  · rw [if_neg c, if_neg c]
    exact Paired.snoc r ⟨rfl, rfl, ru⟩
theorem pairN_get : ∀ {xs : List (NestedKey × Addr × V)} {ys : List (NestedKey × Addr × Value)} {y : NestedKey × Addr × Value}, PairN xs ys → y ∈ ys → ∃ x, x ∈ xs ∧ x.1 = y.1 ∧ x.2.1 = y.2.1
  | _, _, _, .nil, h => nomatch h
  | _, _, y, @Paired.cons _ _ _ p q ps qs h t, m => by
    rcases List.mem_cons.mp m with z | z
    · rw [z]
      exact ⟨p, List.mem_cons_self, h.1, h.2.1⟩
    · obtain ⟨x, h1, h2⟩ := pairN_get t z
      exact ⟨x, List.mem_cons_of_mem _ h1, h2⟩
section
variable {X : Cx} {pins : List (Addr × Obj)} {σ : L2.St} {H : Hp} {s : Shared} {a b : Addr} {xs : List (NestedKey × Addr × V)} {k : NestedKey} {v : V} {u : Value} {A : Around} {E : Value → Shared → Prop}
theorem is_key (I : Inv X pins σ H s) (h : KeyAt X.K H b k) : (nestedKind X.prog X.w).is s.heap k b := by
  obtain ⟨h1, h2⟩ := h
  obtain ⟨n, d⟩ := okN_num h1
  obtain ⟨as, r⟩ := Dp.reads I _ (.ref b) (.ref b) (nkD_dp k (.ref b) n h2) rfl
  exact ⟨reads_is k _ as n r, d⟩
theorem dn_ok {P : Program} {w : World} {h : Heap} (x : DNp a xs h) : ObjOk P w H h a (DNo a xs) := by
  refine ⟨x, ?_, fun h1 h2 y k => ?_⟩
  · obtain ⟨_, _, ys, _, o, es, ep, ho, _⟩ := x
    exact ⟨o, ho⟩
  · obtain ⟨z1, z2, ys, z3, o, es, ep, ho, z4⟩ := y
    exact ⟨z1, z2, ys, z3, o, es, ep, k o ho, z4⟩
theorem ents_eq (w : World) (P : Program) {ys : List (NestedKey × Addr × Value)} (r : PairN xs ys) (hk : ∀ x, x ∈ xs → okN x.1 = true) : ys.map entN = ys.map (entryOfKey (nestedKind P w)) := by
  refine List.map_congr_left fun y hy => ?_
  obtain ⟨x, hx, e1, e2⟩ := pairN_get r hy
  have n := (okN_num (hk x hx)).1
  rw [e1] at n
  unfold entN entryOfKey
  rw [nh_eq w y.1 n]
  rfl
theorem dn_rd (I : Inv X pins σ H s) (e : Rd H a (DNo a xs)) (hk : KsOk X.K H xs) : xs.length ≤ sizeLine ∧ (a == sysModules) = false ∧ ∃ ys, PairN xs ys ∧ s.heap.DictOfH (nestedKind X.prog X.w) a ys := by
  obtain ⟨⟨z1, z2, ys, r, o, es, ep, ho, hx, hd, he, hn⟩, _⟩ := (show ObjOk X.prog X.w H s.heap a (DNo a xs) from e.ok I.hok)
  refine ⟨z2, z1, ys, r, o, es, ep, ho, hx, hd, he.trans (ents_eq X.w X.prog r fun x hx => (hk x hx).1), fun y hy => ?_, hn⟩
  obtain ⟨x, hx, e1, e2⟩ := pairN_get r hy
  have := is_key I (hk x hx)
  rw [e1, e2] at this
  exact this
theorem dn_getItem {Q : Value → Shared → Prop} (hu : (nestedKind X.prog X.w).room A.in1) (I : Inv X pins σ H s) (e : Rd H a (DNo a xs)) (hk : KsOk X.K H xs) (hb : KeyAt X.K H b k) (hv : valX xs k = some v) (h : ∀ w' s', Inv X pins σ H s' → RelV v w' → Q w' s') :
    wpAny (model X.prog X.w) A (getItem (.ref a) (.ref b)) Q E s := by
  obtain ⟨z, hd, ys, rel, dd⟩ := dn_rd I e hk
  obtain ⟨w', hw, rw'⟩ := RelO.some_of (v := v) (o := (atKey ys k).map (·.2)) (by rw [← hv]; exact (rel.val k).1)
  obtain ⟨p, hp, hp2⟩ := Option.map_eq_some_iff.mp hw
  refine wpAny_getItem_heap hu (is_key I hb) dd hp ?_
  rw [hp2]
  exact h w' _ (I.tok _) rw'
theorem dn_get2 {d : V} {r : Value} {Q : Value → Shared → Prop} (hu : (nestedKind X.prog X.w).room A.in1) (I : Inv X pins σ H s) (e : Rd H a (DNo a xs)) (hk : KsOk X.K H xs) (hb : KeyAt X.K H b k) (rd : RelV d r) (h : ∀ w' s', Inv X pins σ H s' → RelV ((valX xs k).getD d) w' → Q w' s') :
    wpAny (model X.prog X.w) A (call (.builtin "dict.get") [.ref a, .ref b, r]) Q E s := by
  obtain ⟨z, hd, ys, rel, dd⟩ := dn_rd I e hk
  refine call_meetsIn F.slot_dict_get dd.typeIs F.entry_dict_get (F.args_dict_get_3 _ _ _) (meetsH_dict_get_default (nestedKind X.prog X.w) a b hd r) ⟨hu, k, ys, is_key I hb, dd, h _ _ (I.tok _) ?_⟩
  exact (rel.val k).1.getD rd
theorem dn_setItem {Q : Unit → Shared → Prop} {r : Value} (hu : (nestedKind X.prog X.w).room A.in1) (I : Inv X pins σ H s) (e : H a = some (DNo a xs)) (hk : KsOk X.K H xs) (hb : KeyAt X.K H b k) (hl : xs.length < sizeLine) (rv : RelV v r) (h : ∀ s', Inv X pins σ (upd H a (DNo a (putX xs k b v))) s' → Q () s') :
    wpAny (model X.prog X.w) A (setItem (.ref a) (.ref b) r) Q E s := by
  obtain ⟨z, hd, ys, rel, dd⟩ := dn_rd I (.inl e) hk
  have hz : ys.length ≤ sizeLine := by rw [← Paired.length rel]; exact z
  refine wpAny_setItem_heap (hsz := hz) hu (is_key I hb) dd fun h' dd' hs => h _ ?_
  obtain ⟨q, es, ep, hq, h2, h3, h4, _, h5⟩ := dd'
  have r2 := rel.put k b rv
  have ok2 : ∀ x, x ∈ putX xs k b v → okN x.1 = true := fun x hx => by
    unfold putX at hx
    split at hx
    · obtain ⟨y, hy, rfl⟩ := List.mem_map.mp hx
      split
      · exact (hk y hy).1
      · exact (hk y hy).1
    · rcases List.mem_append.mp hx with m | m
      · exact (hk x m).1
      · rw [List.mem_singleton.mp m]
        exact hb.1
  have := putX_len xs k b v
  refine d_write I (by rw [e]; exact True.intro) hs ⟨q, hq⟩ (dn_ok ⟨hd, by omega, _, r2, q, es, ep, hq, h2, h3, ?_, h5⟩)
  rw [h4]
  exact (ents_eq X.w X.prog r2 ok2).symm
theorem dn_empty (h : Heap) (hb : sysModules < h.objs.size) : DNp h.objs.size [] (h.push { cls := .type "dict", data := .dict #[] }) :=
  ⟨beq_eq_false_iff_ne.mpr (Ne.symm (Nat.ne_of_lt hb)), Nat.zero_le _, [], .nil, _, #[], 0, Heap.get?_push_size _ rfl, ⟨rfl, rfl, rfl⟩, rfl, rfl, List.nodup_nil⟩
end
def NGet (K : PySem.W.Frag) (H : Hp) (a : Addr) (y : V) (r : Option V) : Prop := ∃ xs k b, Rd H a (DNo a xs) ∧ KsOk K H xs ∧ y = .ref b ∧ KeyAt K H b k ∧ r = valX xs k
def tNGet (K : PySem.W.Frag) (td ty : TE) : TE := fun σ H Q => td σ H fun x H1 => ty σ H1 fun y H2 => ∃ a v, x = .ref a ∧ NGet K H2 a y (some v) ∧ Q v H2
def tNGet2 (K : PySem.W.Frag) (td ty tx : TE) : TE := fun σ H Q => td σ H fun x H1 => ∃ a xs, x = .ref a ∧ H1 a = some (DNo a xs) ∧ ty σ H1 fun y H2 => tx σ H2 fun z H3 => ∃ o, NGet K H3 a y o ∧ Q (o.getD z) H3
def rSetN (K : PySem.W.Frag) : TSet := fun o i v H Q => ∃ a xs k b, o = .ref a ∧ i = .ref b ∧ H a = some (DNo a xs) ∧ KsOk K H xs ∧ KeyAt K H b k ∧ xs.length < sizeLine ∧ Q (upd H a (DNo a (putX xs k b v)))
def tNNew : TE := fun _ H Q => ∀ p, H p = none → Q (.ref p) (upd H p (DNo p []))
section
variable {X : Cx} {o i e x : Expr} {pos : Pos} {td ty tx : TE}
theorem room8 (hu : X.A.units + 64 < cLine) : (nestedKind X.prog X.w).room X.A.in1 := by
  show X.A.in1.units + 8 < cLine
  have : X.A.in1.units = X.A.units + 1 := rfl
  omega
theorem pe_nget (hu : X.A.units + 64 < cLine) (ho : PE X o td) (hi : PE X i ty) (hs : NoSl i) : PE X (.Subscript o i pos) (tNGet X.K td ty) := by
  refine ⟨fun pins s σ H Q I h => ?_⟩
  refine subD_of PySem.F.slot_dict_getitem.lookup hs (thn (ho.run pins s σ H _ I h) fun u s1 ⟨x, H1, I1, rx, q1⟩ => thn (hi.run pins s1 σ H1 _ I1 q1) fun iv s2 ⟨y, H2, I2, ry, a, v, ex, g, q2⟩ => ?_)
  subst ex
  obtain rfl : u = Value.ref a := rx
  obtain ⟨xs, k, b, g1, g2, rfl, g4, g5⟩ := g
  obtain rfl : iv = Value.ref b := ry
  obtain ⟨_, _, ys, _, dd⟩ := dn_rd I2 g1 g2
  exact ⟨dd.typeIs, dn_getItem (room8 hu) I2 g1 g2 g4 g5.symm fun w' s3 I3 rw' => ⟨v, H2, I3, rw', q2⟩⟩
theorem dn_at {pins : List (Addr × Obj)} {σ : L2.St} {H : Hp} {s : Shared} {a : Addr} {xs : List (NestedKey × Addr × V)} (I : Inv X pins σ H s) (e : Rd H a (DNo a xs)) : s.TypeIs (.ref a) "dict" ∧ (∀ b, Value.ref a = .ref b → ∃ ob, s.heap.get? b = some ob ∧ ob.dict = none) ∧ (a == sysModules) = false := by
  obtain ⟨⟨z1, z2, ys, r, o, es, ep, ho, hx, _⟩, _⟩ := (show ObjOk X.prog X.w H s.heap a (DNo a xs) from e.ok I.hok)
  refine ⟨⟨o, ho, hx.1⟩, fun b q => ?_, z1⟩
  cases q
  exact ⟨o, ho, hx.2.1⟩
theorem pe_nget2 {f : Expr} {apos cpos : Pos} (hu : X.A.units + 64 < cLine) (ho : PE X o td) (he : PE X e ty) (hf : PE X f tx) (m : M2 X o "get" apos e f cpos) : PE X (.Call (.Attribute o "get" apos) [e, f] [] cpos) (tNGet2 X.K td ty tx) := by
  refine ⟨fun pins s σ H Q I h => ?_⟩
  refine wpAny_Call_method m.base m.few m.line PySem.F.plainAttrs_dict PySem.F.slot_dict_get PySem.F.type_dict_get (thn (ho.run pins s σ H _ I h) fun u s1 ⟨x, H1, I1, rx, a, xs, ex, d, q1⟩ => ?_)
  subst ex
  obtain rfl : u = Value.ref a := rx
  obtain ⟨t1, t2, _⟩ := dn_at I1 (.inl d)
  refine ⟨t1, t2, ?_⟩
  rw [m.trees]
  refine Calls.callWith_builtin rfl (Calls.evalArgs_plain (Calls.spliced_cons (thn (he.run pins s1 σ H1 _ I1 q1) fun iv s2 ⟨y, H2, I2, ry, q2⟩ =>
    Calls.spliced_cons (thn (hf.run pins s2 σ H2 _ I2 q2) fun fv s3 ⟨z, H3, I3, rz, ov, g, q3⟩ => Calls.spliced_nil ?_))))
  obtain ⟨xs2, k, b, g1, g2, rfl, g4, rfl⟩ := g
  obtain rfl : iv = Value.ref b := ry
  exact dn_get2 (room8 hu) I3 g1 g2 g4 rz fun w' s4 I4 rw' => ⟨_, H3, I4, rw', q3⟩
theorem set_dictN (hu : X.A.units + 64 < cLine) : PSet X (rSetN X.K) := by
  intro pins s σ H o i v ov iv u Q I ro ri rv h
  obtain ⟨a, xs, k, b, eo, ei, g1, g2, g3, g4, q⟩ := h
  subst eo ei
  cases (show ov = Value.ref a from ro)
  cases (show iv = Value.ref b from ri)
  exact dn_setItem (room8 hu) I g1 g2 g3 g4 rv fun s' I' => ⟨_, I', q⟩
theorem pe_nnew : PE X (.Dict [] [] pos) tNNew := ⟨fun pins s σ H Q I h =>
  wpAny_Dict_empty ⟨.ref s.heap.objs.size, _, I.laid (a := s.heap.objs.size) (o := DNo s.heap.objs.size []) (t' := s.toks) (fun _ _ q => Heap.get?_push_of_some _ q) (Nat.le_refl _) (dn_ok (dn_empty s.heap I.big)), rfl, h _ (I.hok.fresh (Nat.le_refl _))⟩⟩
end
end Dv
namespace Dv
open PySem L2
def kValN (kvs : List (NestedKey × D)) (k : NestedKey) : Option D := (kvs.find? fun kv => decide (kv.1 = k)).map (·.2)
def kPutN (kvs : List (NestedKey × D)) (k : NestedKey) (d : D) : List (NestedKey × D) := if (kvs.any fun kv => decide (kv.1 = k)) = true then kvs.map (fun kv => if kv.1 = k then (kv.1, d) else kv) else kvs ++ [(k, d)]
section
variable {K : PySem.W.Frag} {G H : Hp}
theorem DqN.ksok (e : Same G H) : ∀ {ks : List (NestedKey × Addr × V)} {kvs : List (NestedKey × D)}, DqN K G ks kvs → KsOk K H ks
  | [], _, _ => fun x hx => nomatch hx
  | _ :: _, [], h => h.elim
  | p :: ks, q :: kvs, h => fun x hx => by
    obtain ⟨⟨h1, h2, h3⟩, _, h5⟩ := h
    rcases List.mem_cons.mp hx with z | z
    · rw [z]
      unfold KeyAt
      rw [h1]
      exact ⟨h2, Dq.mono e _ _ h3⟩
    · exact DqN.ksok e h5 x z
theorem DqN.val : ∀ {ks : List (NestedKey × Addr × V)} {kvs : List (NestedKey × D)} (k : NestedKey), DqN K G ks kvs → (valX ks k = none ∧ kValN kvs k = none) ∨ ∃ v d, valX ks k = some v ∧ kValN kvs k = some d ∧ Dq K G v d
  | [], [], k, _ => .inl ⟨rfl, rfl⟩
  | [], _ :: _, _, h => h.elim
  | _ :: _, [], _, h => h.elim
  | p :: ks, q :: kvs, k, h => by
    obtain ⟨⟨h1, _, _⟩, h2, h3⟩ := h
    by_cases c : q.1 = k
    · refine .inr ⟨p.2.2, q.2, ?_, ?_, h2⟩
      · unfold valX
        rw [List.find?_cons_of_pos (by simpa [h1] using c)]
        rfl
      · unfold kValN
        rw [List.find?_cons_of_pos (by simpa using c)]
        rfl
    · have e1 : valX (p :: ks) k = valX ks k := by
        unfold valX
        rw [List.find?_cons_of_neg (by simpa [h1] using c)]
      have e2 : kValN (q :: kvs) k = kValN kvs k := by
        unfold kValN
        rw [List.find?_cons_of_neg (by simpa using c)]
      rw [e1, e2]
      exact DqN.val k h3
theorem DqN.any : ∀ {ks : List (NestedKey × Addr × V)} {kvs : List (NestedKey × D)} (k : NestedKey), DqN K G ks kvs → (ks.any fun kv => decide (kv.1 = k)) = kvs.any fun kv => decide (kv.1 = k)
  | [], [], k, _ => rfl
  | [], _ :: _, _, h => h.elim
  | _ :: _, [], _, h => h.elim
  | p :: ks, q :: kvs, k, h => by
    obtain ⟨⟨h1, _, _⟩, h2, h3⟩ := h
    rw [List.any_cons, List.any_cons, DqN.any k h3, h1]
theorem DqN.maps {v : V} {d : D} (hv : Dq K G v d) : ∀ {ks : List (NestedKey × Addr × V)} {kvs : List (NestedKey × D)} (k : NestedKey), DqN K G ks kvs → DqN K G (ks.map fun kv => if kv.1 = k then (kv.1, kv.2.1, v) else kv) (kvs.map fun kv => if kv.1 = k then (kv.1, d) else kv)
  | [], [], k, _ => trivial
  | [], _ :: _, _, h => h.elim
  | _ :: _, [], _, h => h.elim
  | p :: ks, q :: kvs, k, h => by
    obtain ⟨⟨h1, g1, g2⟩, h2, h3⟩ := h
    rw [List.map_cons, List.map_cons]
    have t := DqN.maps hv k h3
    by_cases c : q.1 = k
    · rw [if_pos c, if_pos (by rw [h1, c])]
      exact ⟨⟨h1, g1, g2⟩, hv, t⟩
    · rw [if_neg c, if_neg (fun z => c (by rw [← z, h1]))]
      exact ⟨⟨h1, g1, g2⟩, h2, t⟩
theorem DqN.snoc {v : V} {d : D} (hv : Dq K G v d) {k : NestedKey} {b : Addr} (o : okN k = true) (hb : Dq K G (.ref b) (nkD k)) : ∀ {ks : List (NestedKey × Addr × V)} {kvs : List (NestedKey × D)}, DqN K G ks kvs → DqN K G (ks ++ [(k, b, v)]) (kvs ++ [(k, d)])
  | [], [], _ => ⟨⟨rfl, o, hb⟩, hv, trivial⟩
  | [], _ :: _, h => h.elim
  | _ :: _, [], h => h.elim
  | p :: ks, q :: kvs, h => ⟨h.1, h.2.1, DqN.snoc hv o hb h.2.2⟩
theorem DqN.put {v : V} {d : D} {ks : List (NestedKey × Addr × V)} {kvs : List (NestedKey × D)} {k : NestedKey} {b : Addr} (h : DqN K G ks kvs) (o : okN k = true) (hb : Dq K G (.ref b) (nkD k)) (hv : Dq K G v d) : DqN K G (putX ks k b v) (kPutN kvs k d) := by
  unfold putX kPutN
  rw [h.any k]
  split
  · exact DqN.maps hv k h
  · exact DqN.snoc hv o hb h
theorem DqN.len : ∀ {ks : List (NestedKey × Addr × V)} {kvs : List (NestedKey × D)}, DqN K G ks kvs → ks.length = kvs.length
  | [], [], _ => rfl
  | [], _ :: _, h => h.elim
  | _ :: _, [], h => h.elim
  | _ :: _, _ :: _, h => by
    rw [List.length_cons, List.length_cons, DqN.len h.2.2]
end
section
variable {K : PySem.W.Frag} {B : Hp} {O : List Addr} {I : List (Nat × Addr)} {σ : L2.St} {H H' : Hp} {env env' : Env} {v : V} {t ta tb te tk tx : TE} {f fa fb fe fk fx : EF} {W : WN}
/-- a dict, by its name -/
theorem Sta.dctN (S : Sta K B O I σ H env) {i : Nat} {kvs : List (NestedKey × D)} (h : env[i]? = some (.nw (.dcN kvs))) : ∃ p ks, σ[i]? = some (some (.ref p)) ∧ p ∈ O ∧ B p = none ∧ H p = some (DNo p ks) ∧ DqN K (mi H O) ks kvs := by
  obtain ⟨p, a1, ⟨ks, a2, a3⟩, _, a4, _⟩ := S.nw i _ h
  have := a4 p adsOf_self
  exact ⟨p, ks, a1, this.1, this.2, a2, a3⟩
/-- a dict is changed in its place -/
theorem Sta.upDN (S : Sta K B O I σ H env) {i : Nat} {kvs kvs' : List (NestedKey × D)} {p : Addr} {ks ks' : List (NestedKey × Addr × V)} (h : env[i]? = some (.nw (.dcN kvs))) (hs : σ[i]? = some (some (.ref p))) (hp : H p = some (DNo p ks)) (hk : DqN K (mi H O) ks' kvs') :
    Sta K B O I σ (upd H p (DNo p ks')) (env.set i (.nw (.dcN kvs'))) := by
  obtain ⟨p', a1, a2, a3, a4, a5, a6⟩ := S.nw i _ h
  rw [hs] at a1
  cases a1
  have pO := a4 p adsOf_self
  have hi : i < env.length := (List.getElem?_eq_some_iff.mp h).1
  have hm : mi (upd H p (DNo p ks')) O = mi H O := mi_upd_in pO.1
  have get : ∀ j, j ≠ i → (env.set i (SV.nw (.dcN kvs')))[j]? = env[j]? := fun j c => List.getElem?_set_ne (Ne.symm c)
  have ne : ∀ j ds, OwnAt (env.set i (SV.nw (.dcN kvs'))) j ds → j ≠ i ∧ OwnAt env j ds := fun j ds z => by
    by_cases c : j = i
    · subst c
      unfold OwnAt at z
      rw [List.getElem?_set_self hi] at z
      rcases z with z | z <;> cases z
    · exact ⟨c, (own_set c).mp z⟩
  refine ⟨by simp [S.len], fun j d hj => ?_, fun j ds hj => ?_, fun j l ds es q hj hl e1 e2 => S.sep j l ds es q (ne j ds hj).2 (ne l es hl).2 e1 e2, fun a o ha => ?_, fun q hq => ?_, fun j q hj => ?_, fun j w hj => ?_, fun q xs hq => ?_⟩
  · rw [hm]
    by_cases c : j = i
    · subst c
      rw [List.getElem?_set_self hi] at hj
      cases hj
    · rw [get j c] at hj
      exact S.fz j d hj
  · rw [hm]
    obtain ⟨c, z⟩ := ne j ds hj
    obtain ⟨q, xs, k1, k2, k3, k4, k5⟩ := S.ow j ds z
    refine ⟨q, xs, k1, k2, ?_, k4, k5⟩
    rw [upd_ne (fun y => by rw [y, hp] at k3; cases k3)]
    exact k3
  · rw [upd_ne (fun y => by rw [y, pO.2] at ha; cases ha)]
    exact S.base a o ha
  · by_cases c : q = p
    · subst c
      exact ⟨_, upd_same⟩
    · rw [upd_ne c]
      exact S.dom q hq
  · obtain ⟨k1, ds, k2⟩ := S.pin j q hj
    have c : j ≠ i := fun z => by
      subst z
      rw [h] at k2
      cases k2
    exact ⟨k1, ds, by rw [get j c]; exact k2⟩
  · by_cases c : j = i
    · subst c
      rw [List.getElem?_set_self hi] at hj
      cases hj
      refine ⟨p, hs, ⟨ks', upd_same, by rw [hm]; exact hk⟩, by show [p].Nodup; simp, fun a ha => ?_, fun l ds a hl e => ?_, fun l w' q hl hw e a ha => ?_⟩
      · rw [show a = p from List.mem_singleton.mp ha]
        exact pO
      · exact a5 l ds a (ne l ds hl).2 e
      · rw [get l hl] at hw
        have e0 : a = p := List.mem_singleton.mp ha
        subst e0
        obtain ⟨q', b1, _, _, b4, b5, b6⟩ := S.nw l w' hw
        rw [e] at b1
        cases b1
        have nq : q ≠ a := fun z => by
          subst z
          exact a6 l w' q hl hw e q adsOf_self adsOf_self
        rw [adsOf_eq (upd_ne nq)]
        exact a6 l w' q hl hw e a adsOf_self
    · rw [get j c] at hj
      obtain ⟨q, b1, b2, b3, b4, b5, b6⟩ := S.nw j w hj
      have np : ∀ a, a ∈ adsOf H q w → a ≠ p := fun a ha z => by
        subst z
        exact b6 i _ a (Ne.symm c) h hs a ha adsOf_self
      have e0 : adsOf (upd H p (DNo p ks')) q w = adsOf H q w := adsOf_eq (upd_ne (np q adsOf_self))
      refine ⟨q, b1, b2.mono (by rw [hm]; exact Same.refl _) fun a ha => upd_ne (np a ha), by rw [e0]; exact b3, by rw [e0]; exact b4, fun l ds a hl e => ?_, fun l w' r hl hw e a ha => ?_⟩
      · rw [e0]
        exact b5 l ds a (ne l ds hl).2 e
      · rw [e0] at ha
        by_cases c' : l = i
        · subst c'
          rw [List.getElem?_set_self hi] at hw
          cases hw
          rw [hs] at e
          cases e
          exact fun z => np a ha (List.mem_singleton.mp z)
        · rw [get l c'] at hw
          obtain ⟨r', d1, _, _, d4, d5, d6⟩ := S.nw l w' hw
          rw [e] at d1
          cases d1
          have nr : r ≠ p := fun z => by
            subst z
            exact d6 i _ r (Ne.symm c') h hs r adsOf_self adsOf_self
          rw [adsOf_eq (upd_ne nr)]
          exact b6 l w' r hl hw e a ha
  · by_cases c : q = p
    · subst c
      rw [upd_same]
      exact fun z => by cases z
    · rw [upd_ne c]
      exact S.nt q xs hq
/-- a name gets a new dict -/
theorem Sta.newDN {i : Nat} {p : Addr} (S : Sta K B O I σ H env) (hp : H p = none) (e : putS i (.nw (.dcN [])) env = some env') : Sta K B (p :: O) I (σ.set i (some (.ref p))) (upd H p (DNo p [])) env' := by
  obtain ⟨h1, h2, rfl⟩ := putS_of e
  have hs : i < σ.length := by rw [S.len]; exact h2
  have hO : p ∉ O := not_dom S.dom hp
  have up : Same H (upd H p (DNo p [])) := same_new hp
  have sm : Same (mi H O) (mi (upd H p (DNo p [])) (p :: O)) := fun a o ha => by
    obtain ⟨z1, z2⟩ := mi_some ha
    exact mi_of (fun y => (List.mem_cons.mp y).elim (fun y => by rw [y, hp] at z2; cases z2) z1) (up _ _ z2)
  have get : ∀ j, j ≠ i → (env.set i (SV.nw (.dcN [])))[j]? = env[j]? := fun j c => List.getElem?_set_ne (Ne.symm c)
  have gets : ∀ j, j ≠ i → (σ.set i (some (V.ref p)))[j]? = σ[j]? := fun j c => List.getElem?_set_ne (Ne.symm c)
  have ne : ∀ j ds, OwnAt (env.set i (SV.nw (.dcN []))) j ds → j ≠ i ∧ OwnAt env j ds := fun j ds z => by
    by_cases c : j = i
    · subst c
      unfold OwnAt at z
      rw [List.getElem?_set_self h2] at z
      rcases z with z | z <;> cases z
    · exact ⟨c, (own_set c).mp z⟩
  refine ⟨by simp [S.len], fun j d hj => ?_, fun j ds hj => ?_, fun j l ds es q hj hl e1 e2 => ?_, S.base.trans up, fun q hq => ?_, fun j q hj => ?_, fun j w hj => ?_, fun q xs hq => ?_⟩
  · by_cases c : j = i
    · subst c
      rw [List.getElem?_set_self h2] at hj
      cases hj
    · rw [get j c] at hj
      rw [gets j c]
      obtain ⟨w, k1, k2⟩ := S.fz j d hj
      exact ⟨w, k1, Dq.mono sm _ _ k2⟩
  · obtain ⟨c, z⟩ := ne j ds hj
    rw [gets j c]
    obtain ⟨q, xs, k1, k2, k3, k4, k5⟩ := S.ow j ds z
    exact ⟨q, xs, k1, List.mem_cons_of_mem _ k2, up _ _ k3, DqA.mono sm _ _ k4, k5⟩
  · obtain ⟨c, z⟩ := ne j ds hj
    obtain ⟨c', z'⟩ := ne l es hl
    rw [gets j c] at e1
    rw [gets l c'] at e2
    exact S.sep j l ds es q z z' e1 e2
  · rcases List.mem_cons.mp hq with rfl | hq
    · exact ⟨_, upd_same⟩
    · obtain ⟨o, z⟩ := S.dom q hq
      exact ⟨o, up _ _ z⟩
  · obtain ⟨k1, ds, k2⟩ := S.pin j q hj
    have c : j ≠ i := fun z => by
      subst z
      rw [isIo_of k2] at h1
      cases h1
    rw [get j c, gets j c]
    exact ⟨k1, ds, k2⟩
  · have old : ∀ {l : Nat} {w : OV}, env[l]? = some (.nw w) → ∀ {q : Addr}, σ[l]? = some (some (.ref q)) → (∀ a, a ∈ adsOf H q w → a ∈ O) ∧ adsOf (upd H p (DNo p [])) q w = adsOf H q w := fun {l w} hl {q} hq => by
      obtain ⟨q', b1, _, _, b4, _⟩ := S.nw l w hl
      rw [hq] at b1
      cases b1
      refine ⟨fun a ha => (b4 a ha).1, adsOf_eq (upd_ne fun z => ?_)⟩
      subst z
      exact hO (b4 q adsOf_self).1
    by_cases c : j = i
    · subst c
      rw [List.getElem?_set_self h2] at hj
      cases hj
      refine ⟨p, List.getElem?_set_self hs, ⟨[], upd_same, trivial⟩, by show [p].Nodup; simp, fun a ha => ?_, fun l ds a hl e z => ?_, fun l w' q hl hw e a ha z => ?_⟩
      · rw [show a = p from List.mem_singleton.mp ha]
        exact ⟨List.mem_cons_self, S.base.free hp⟩
      · obtain ⟨c, y⟩ := ne l ds hl
        rw [gets l c] at e
        obtain ⟨q, xs, k1, k2, _⟩ := S.ow l ds y
        rw [e] at k1
        cases k1
        rw [show a = p from List.mem_singleton.mp z] at k2
        exact hO k2
      · rw [get l hl] at hw
        rw [gets l hl] at e
        obtain ⟨y1, y2⟩ := old hw e
        rw [y2] at z
        rw [show a = p from List.mem_singleton.mp ha] at z
        exact hO (y1 p z)
    · rw [get j c] at hj
      rw [gets j c]
      obtain ⟨q, b1, b2, b3, b4, b5, b6⟩ := S.nw j w hj
      obtain ⟨y1, y2⟩ := old hj b1
      refine ⟨q, b1, b2.mono sm fun a ha => upd_ne fun z => hO (z ▸ y1 a ha), by rw [y2]; exact b3, fun a ha => ?_, fun l ds a hl e => ?_, fun l w' r hl hw e a ha => ?_⟩
      · rw [y2] at ha
        exact ⟨List.mem_cons_of_mem _ (b4 a ha).1, (b4 a ha).2⟩
      · obtain ⟨c', y⟩ := ne l ds hl
        rw [gets l c'] at e
        rw [y2]
        exact b5 l ds a y e
      · rw [y2] at ha
        by_cases c' : l = i
        · subst c'
          rw [List.getElem?_set_self h2] at hw
          cases hw
          rw [List.getElem?_set_self hs] at e
          cases e
          exact fun z => hO (by rw [← show a = p from List.mem_singleton.mp z]; exact y1 a ha)
        · rw [get l c'] at hw
          rw [gets l c'] at e
          rw [(old hw e).2]
          exact b6 l w' r hl hw e a ha
  · rcases List.mem_cons.mp hq with rfl | hq
    · rw [upd_same]
      exact fun z => by cases z
    · exact S.ntS hq (fun o z => up _ _ z) xs
def fDNewN (i : Nat) : SFn := fun env => (putS i (.nw (.dcN [])) env).bind fun e => some (.nx e)
theorem ss_dnewN {i : Nat} : SndS K W (tAsg tNNew (gName i)) (fDNewN i) := by
  intro B O I σ H env o S e D k
  obtain ⟨env2, e2, e⟩ := bnd e
  cases e
  intro p hp
  exact k (p :: O) _ _ ⟨fun a h _ => List.mem_cons_of_mem _ h, fun a h => (List.mem_cons.mp h).elim (fun z => .inr (z ▸ S.base.free hp)) .inl⟩ (S.newDN hp e2)
def dctAtN (env : Env) (i : Nat) : Option (List (NestedKey × D)) := match env[i]? with
  | some (.nw (.dcN kvs)) => some kvs
  | _ => none
theorem dctAt_ofN {i : Nat} {kvs : List (NestedKey × D)} (h : dctAtN env i = some kvs) : env[i]? = some (.nw (.dcN kvs)) := by
  unfold dctAtN at h
  split at h
  · cases h
    assumption
  · cases h
def fDIxN (i : Nat) (fk : EF) : EF := fun env => (dctAtN env i).bind fun _ => (fk env).bind fun a => match a.1 with
  | .val kd => (keyN kd).bind fun k => (dctAtN a.2 i).bind fun kvs => (kValN kvs k).bind fun d => some (.val d, a.2)
  | _ => none
def fDGet2N (i : Nat) (fk fx : EF) : EF := fun env => (dctAtN env i).bind fun _ => (fk env).bind fun a => match a.1 with
  | .val kd => (keyN kd).bind fun k => (fx a.2).bind fun b => match frz b.1 with
    | .val x => (dctAtN b.2 i).bind fun kvs => some (.val ((kValN kvs k).getD x), b.2)
    | _ => none
  | _ => none
theorem snd_dget2N {i : Nat} (hk : Snd K tk fk) (hx : Snd K tx fx) : Snd K (tNGet2 K (tVar i) tk tx) (fDGet2N i fk fx) := by
  intro B O I σ H env rv env' S e Q q
  obtain ⟨kvs0, e0, e⟩ := bnd e
  obtain ⟨⟨r1, env1⟩, e1, e⟩ := bnd e
  dsimp only at e
  split at e
  · rename_i kd
    obtain ⟨k, e2, e⟩ := bnd e
    obtain ⟨⟨r2, env2⟩, e3, e⟩ := bnd e
    dsimp only at e
    split at e
    · rename_i x hx2
      obtain ⟨kvs, e4, e⟩ := bnd e
      cases e
      obtain ⟨p, ks, s1, pO0, _, hp0, _⟩ := S.dctN (dctAt_ofN e0)
      refine ⟨_, s1, p, ks, rfl, hp0, ?_⟩
      refine hk B O I σ H env _ _ S e1 _ fun y H1 P1 => ?_
      have S1 := P1.sta
      refine hx _ O I σ H1 _ r2 _ S1.strong e3 _ fun z H2 P2 => ?_
      have P3 := Post.later (r := .val kd) P1 P2.sta
      have P4 := (P2.weakN S1.base_keep).frz
      rw [hx2] at P4
      obtain ⟨S2, dz⟩ := P4
      obtain ⟨p', ks', s1', pO, _, hp, hd⟩ := S2.dctN (dctAt_ofN e4)
      rw [s1] at s1'
      cases s1'
      obtain ⟨b, rfl, y1, y2⟩ := keyN_of P3.2 e2
      refine ⟨_, ⟨_, k, b, .inl hp, hd.ksok mi_same, rfl, ⟨y2, Dq.mono mi_same _ _ y1⟩, rfl⟩, ?_⟩
      rcases hd.val k with ⟨z1, z2⟩ | ⟨v, d', z1, z2, z3⟩
      · rw [z1]
        refine q _ _ ⟨S2, ?_⟩
        rw [z2]
        exact dz
      · rw [z1]
        refine q _ _ ⟨S2, ?_⟩
        rw [z2]
        exact z3
    · cases e
  · cases e
def fDInN (i : Nat) (neg : Bool) (fk : EF) : EF := fun env => (fk env).bind fun a => match a.1 with
  | .val kd => (keyN kd).bind fun k => (dctAtN a.2 i).bind fun kvs => some (.val (.bl ((kValN kvs k).isSome != neg)), a.2)
  | _ => none
def fDPutN (i : Nat) (fk fe : EF) : SFn := fun env => (fe env).bind fun a => (dctAtN a.2 i).bind fun _ => (fk a.2).bind fun b => match frz a.1, b.1 with
  | .val d, .val kd => (keyN kd).bind fun k => (dctAtN b.2 i).bind fun kvs => if kvs.length ≤ 1000000 then some (.nx (b.2.set i (.nw (.dcN (kPutN kvs k d))))) else none
  | _, _ => none
theorem ss_dputN {i : Nat} (he : Snd K te fe) (hk : Snd K tk fk) : SndS K W (tAsg te (L2.gSub (tVar i) tk (rSetN K))) (fDPutN i fk fe) := by
  intro B O I σ H env o S e D kk
  obtain ⟨⟨r1, env1⟩, e1, e⟩ := bnd e
  obtain ⟨kvs0, e0, e⟩ := bnd e
  obtain ⟨⟨r2, env2⟩, e2, e⟩ := bnd e
  dsimp only at e e0 e2
  split at e
  · rename_i d kd hd
    obtain ⟨k, e3, e⟩ := bnd e
    obtain ⟨kvs, e4, e⟩ := bnd e
    split at e
    · rename_i hl
      cases e
      refine he B O I σ H env r1 env1 S e1 _ fun x H1 P1 => ?_
      have P1' := P1.frz
      have S1 := P1'.sta
      obtain ⟨p, ks0, s1, _⟩ := S1.dctN (dctAt_ofN e0)
      refine ⟨_, s1, ?_⟩
      refine hk _ O I σ H1 env1 _ env2 S1.strong e2 _ fun y H2 P2 => ?_
      have P3 := P1'.later P2.1
      rw [hd] at P3
      obtain ⟨S3, dx⟩ := P3
      obtain ⟨p', ks, s1', pO, _, hp, hk2⟩ := S3.dctN (dctAt_ofN e4)
      rw [s1] at s1'
      cases s1'
      obtain ⟨b, rfl, y1, y2⟩ := keyN_of P2.2 e3
      refine ⟨p, ks, k, b, rfl, rfl, hp, hk2.ksok mi_same, ⟨y2, Dq.mono mi_same _ _ y1⟩, ?_, ?_⟩
      · rw [hk2.len]
        exact line_lt (by omega)
      · exact kk O σ _ .refl (S3.upDN (dctAt_ofN e4) s1 hp (hk2.put y2 y1 dx))
    · cases e
  · cases e
end
section
variable {P : RV × Env → Prop} {PO : Out → Prop} {env e : Env} {f fa fb fk fe fx : EF} {fr : AF} {rs : List RV} {r : RV} {i : Nat} {d kd x : D} {s : SV} {kvs : List (NestedKey × D)} {k : NestedKey}
theorem dct_0N : dctAtN (.nw (.dcN kvs) :: env) 0 = some kvs := rfl
theorem dct_sN : dctAtN (s :: env) (i + 1) = dctAtN env i := by
  unfold dctAtN
  rw [List.getElem?_cons_succ]
theorem w_dnewN : Ok (fDNewN i env) PO ↔ Ok (putS i (.nw (.dcN [])) env) (KNx PO) := ok_bind_iff fun e => ok_some
/-- d[k] -/
def QDIxN (e : Env) (P : RV × Env → Prop) : Option NestedKey → Option (List (NestedKey × D)) → Prop
  | some k, some kvs => Ok (kValN kvs k) (KV e P)
  | _, _ => False
def KDIxN (i : Nat) (P : RV × Env → Prop) : RV × Env → Prop := fun a => match a.1 with
  | .val kd => QDIxN a.2 P (keyN kd) (dctAtN a.2 i)
  | _ => False
theorem q_dixN : QDIxN e P (some k) (some kvs) ↔ Ok (kValN kvs k) (KV e P) := Iff.rfl
theorem k_dixN : KDIxN i P (.val kd, e) ↔ QDIxN e P (keyN kd) (dctAtN e i) := Iff.rfl
theorem w_dixN : Ok (fDIxN i fk env) P ↔ (dctAtN env i).isSome = true ∧ Ok (fk env) (KDIxN i P) := by
  unfold fDIxN
  cases hd : dctAtN env i with
  | none => exact ⟨fun h => (ok_none.mp h).elim, fun h => by simp at h⟩
  | some z =>
    rw [Option.bind_some]
    simp only [Option.isSome_some, true_and]
    refine ok_bind_iff fun ⟨r, e⟩ => ?_
    cases r with
    | val kd =>
      show Ok (Option.bind (keyN kd) _) P ↔ QDIxN e P (keyN kd) (dctAtN e i)
      cases keyN kd with
      | none => exact ⟨fun h => (ok_none.mp h).elim, fun h => h.elim⟩
      | some k =>
        rw [Option.bind_some]
        show Ok (Option.bind (dctAtN e i) _) P ↔ _
        cases dctAtN e i with
        | none => exact ⟨fun h => (ok_none.mp h).elim, fun h => h.elim⟩
        | some kvs =>
          rw [Option.bind_some]
          exact ok_bind_iff fun d => ok_some
    | _ => exact ⟨fun h => (ok_none.mp h).elim, fun h => h.elim⟩
/-- d.get(k, x) -/
def QDG2N (e : Env) (k : NestedKey) (x : D) (P : RV × Env → Prop) : Option (List (NestedKey × D)) → Prop
  | some kvs => P (.val ((kValN kvs k).getD x), e)
  | _ => False
def KDG2N (i : Nat) (k : NestedKey) (P : RV × Env → Prop) : RV × Env → Prop := fun b => match frz b.1 with
  | .val x => QDG2N b.2 k x P (dctAtN b.2 i)
  | _ => False
def QDG1N (i : Nat) (fx : EF) (e : Env) (P : RV × Env → Prop) : Option NestedKey → Prop
  | some k => Ok (fx e) (KDG2N i k P)
  | _ => False
def KDG1N (i : Nat) (fx : EF) (P : RV × Env → Prop) : RV × Env → Prop := fun a => match a.1 with
  | .val kd => QDG1N i fx a.2 P (keyN kd)
  | _ => False
theorem q_dg2N : QDG2N e k x P (some kvs) ↔ P (.val ((kValN kvs k).getD x), e) := Iff.rfl
theorem k_dg2N : KDG2N i k P (.val x, e) ↔ QDG2N e k x P (dctAtN e i) := Iff.rfl
theorem q_dg1N : QDG1N i fx e P (some k) ↔ Ok (fx e) (KDG2N i k P) := Iff.rfl
theorem k_dg1N : KDG1N i fx P (.val kd, e) ↔ QDG1N i fx e P (keyN kd) := Iff.rfl
theorem w_dget2N : Ok (fDGet2N i fk fx env) P ↔ (dctAtN env i).isSome = true ∧ Ok (fk env) (KDG1N i fx P) := by
  unfold fDGet2N
  cases hd : dctAtN env i with
  | none => exact ⟨fun h => (ok_none.mp h).elim, fun h => by simp at h⟩
  | some z =>
    rw [Option.bind_some]
    simp only [Option.isSome_some, true_and]
    refine ok_bind_iff fun ⟨r, e⟩ => ?_
    cases r with
    | val kd =>
      show Ok (Option.bind (keyN kd) _) P ↔ QDG1N i fx e P (keyN kd)
      cases keyN kd with
      | none => exact ⟨fun h => (ok_none.mp h).elim, fun h => h.elim⟩
      | some k =>
        rw [Option.bind_some]
        refine ok_bind_iff fun ⟨r2, e2⟩ => ?_
        show Ok (match frz r2 with | .val x => _ | _ => none) P ↔ (match frz r2 with | .val x => QDG2N e2 k x P (dctAtN e2 i) | _ => False)
        cases frz r2 with
        | val x =>
          dsimp only
          cases dctAtN e2 i with
          | none => exact ⟨fun h => (ok_none.mp h).elim, fun h => h.elim⟩
          | some kvs => exact ok_some
        | _ => exact ⟨fun h => (ok_none.mp h).elim, fun h => h.elim⟩
    | _ => exact ⟨fun h => (ok_none.mp h).elim, fun h => h.elim⟩
/-- k in d -/
def QDInN (neg : Bool) (e : Env) (P : RV × Env → Prop) : Option NestedKey → Option (List (NestedKey × D)) → Prop
  | some k, some kvs => P (.val (.bl ((kValN kvs k).isSome != neg)), e)
  | _, _ => False
def KDInN (i : Nat) (neg : Bool) (P : RV × Env → Prop) : RV × Env → Prop := fun a => match a.1 with
  | .val kd => QDInN neg a.2 P (keyN kd) (dctAtN a.2 i)
  | _ => False
theorem q_dinN {neg : Bool} : QDInN neg e P (some k) (some kvs) ↔ P (.val (.bl ((kValN kvs k).isSome != neg)), e) := Iff.rfl
theorem k_dinN {neg : Bool} : KDInN i neg P (.val kd, e) ↔ QDInN neg e P (keyN kd) (dctAtN e i) := Iff.rfl
theorem w_dinN {neg : Bool} : Ok (fDInN i neg fk env) P ↔ Ok (fk env) (KDInN i neg P) := by
  refine ok_bind_iff fun ⟨r, e⟩ => ?_
  cases r with
  | val kd =>
    show Ok (Option.bind (keyN kd) _) P ↔ QDInN neg e P (keyN kd) (dctAtN e i)
    cases keyN kd with
    | none => exact ⟨fun h => (ok_none.mp h).elim, fun h => h.elim⟩
    | some k =>
      rw [Option.bind_some]
      show Ok (Option.bind (dctAtN e i) _) P ↔ _
      cases dctAtN e i with
      | none => exact ⟨fun h => (ok_none.mp h).elim, fun h => h.elim⟩
      | some kvs => exact ok_some
  | _ => exact ⟨fun h => (ok_none.mp h).elim, fun h => h.elim⟩
/-- d[k] = e -/
def QDPN (i : Nat) (d : D) (e : Env) (PO : Out → Prop) : Option NestedKey → Option (List (NestedKey × D)) → Prop
  | some k, some kvs => kvs.length ≤ 1000000 ∧ PO (.nx (e.set i (.nw (.dcN (kPutN kvs k d)))))
  | _, _ => False
def KDP2N (i : Nat) (r : RV) (PO : Out → Prop) : RV × Env → Prop := fun b => match frz r, b.1 with
  | .val d, .val kd => QDPN i d b.2 PO (keyN kd) (dctAtN b.2 i)
  | _, _ => False
def KDP1N (i : Nat) (fk : EF) (PO : Out → Prop) : RV × Env → Prop := fun a => (dctAtN a.2 i).isSome = true ∧ Ok (fk a.2) (KDP2N i a.1 PO)
theorem q_dpN : QDPN i d e PO (some k) (some kvs) ↔ kvs.length ≤ 1000000 ∧ PO (.nx (e.set i (.nw (.dcN (kPutN kvs k d))))) := Iff.rfl
theorem k_dp2N : KDP2N i (.val d) PO (.val kd, e) ↔ QDPN i d e PO (keyN kd) (dctAtN e i) := Iff.rfl
theorem k_dp2nN {ds : List D} : KDP2N i (.new ds) PO (.val kd, e) ↔ QDPN i (.lst ds) e PO (keyN kd) (dctAtN e i) := Iff.rfl
theorem k_dp1N : KDP1N i fk PO (r, e) ↔ (dctAtN e i).isSome = true ∧ Ok (fk e) (KDP2N i r PO) := Iff.rfl
theorem w_dputN : Ok (fDPutN i fk fe env) PO ↔ Ok (fe env) (KDP1N i fk PO) := by
  refine ok_bind_iff fun ⟨r, e⟩ => ?_
  show Ok (Option.bind (dctAtN e i) _) PO ↔ (dctAtN e i).isSome = true ∧ Ok (fk e) (KDP2N i r PO)
  cases dctAtN e i with
  | none => exact ⟨fun h => (ok_none.mp h).elim, fun h => by simp at h⟩
  | some z =>
    rw [Option.bind_some]
    simp only [Option.isSome_some, true_and]
    refine ok_bind_iff fun ⟨r2, e2⟩ => ?_
    show Ok (match frz r, r2 with | .val d, .val kd => _ | _, _ => none) PO ↔ (match frz r, r2 with | .val d, .val kd => QDPN i d e2 PO (keyN kd) (dctAtN e2 i) | _, _ => False)
    cases frz r with
    | val d =>
      cases r2 with
      | val kd =>
        dsimp only
        cases keyN kd with
        | none => exact ⟨fun h => (ok_none.mp h).elim, fun h => h.elim⟩
        | some k =>
          rw [Option.bind_some]
          cases dctAtN e2 i with
          | none => exact ⟨fun h => (ok_none.mp h).elim, fun h => h.elim⟩
          | some kvs =>
            rw [Option.bind_some, ok_guard, ok_some]
            exact Iff.rfl
      | _ => exact ⟨fun h => (ok_none.mp h).elim, fun h => h.elim⟩
    | _ => exact ⟨fun h => (ok_none.mp h).elim, fun h => h.elim⟩
end
end Dv
namespace L2
open PySem PySem.Spec PyProof.Rows Dv
section
variable {X : Cx} {pins : List (Addr × Obj)} {σ : St} {H : Hp} {s : Shared} {d : Addr} {o : Obj} {tg : Expr} {P : Program} {w : World} {K : PySem.W.Frag} {es : Array DictEntry} {ep : Nat}
theorem pairN_at : ∀ {xs : List (NestedKey × Addr × V)} {ys : List (NestedKey × Addr × Value)} (i : Nat) {x : NestedKey × Addr × V}, PairN xs ys → xs[i]? = some x → ∃ y, ys[i]? = some y ∧ x.1 = y.1 ∧ x.2.1 = y.2.1
  | _, _, _, _, .nil, h => by simp at h
  | _, _, 0, _, @Paired.cons _ _ _ p q ps qs h t, e => by
    simp at e
    subst e
    exact ⟨q, rfl, h.1, h.2.1⟩
  | _, _, i + 1, _, @Paired.cons _ _ _ p q ps qs h t, e => by
    obtain ⟨y, h1, h2⟩ := pairN_at i t (by simpa using e)
    exact ⟨y, by simpa using h1, h2⟩
theorem Inv.frzN {kl : List (NestedKey × Addr × V)} (I : Inv X pins σ H s) (h : H d = some (.frz o (DNo d kl))) :
    (d == sysModules) = false ∧ s.heap.get? d = some o ∧ o.ExactDict ∧ ∃ (es : Array DictEntry) (ep : Nat), o.data = .dict es ep ∧ es.size = kl.length ∧
      ∀ (i : Nat) (x : NestedKey × Addr × V), kl[i]? = some x → ∃ en : DictEntry, es[i]? = some en ∧ en.key = .ref x.2.1 := by
  obtain ⟨hd, ⟨z1, z2, ys, pr, o', es, ep, ho, hx, hdt, he, _⟩, _⟩ := I.hok d _ h
  rw [hd] at ho
  cases ho
  have l1 : es.size = ys.length := by
    have := congrArg List.length he
    rwa [List.length_map, Array.length_toList] at this
  have l2 : kl.length = ys.length := Paired.length pr
  refine ⟨z1, hd, hx, es, ep, hdt, by omega, fun i x e => ?_⟩
  obtain ⟨y, hy, e1, e2⟩ := pairN_at i pr e
  refine ⟨entN y, ?_, ?_⟩
  · rw [← Array.getElem?_toList, he, List.getElem?_map, hy]
    rfl
  · show Value.ref y.2.1 = _
    rw [e2]
/-- the keys of the locked dict at d: the key's own tuple -/
def Itkn (d : Addr) (o : Obj) (kl : List (NestedKey × Addr × V)) : It :=
  ⟨fun i H => H d = some (.frz o (DNo d kl)) ∧ i < kl.length, fun i H x H' => H' = H ∧ ∃ e : NestedKey × Addr × V, kl[i]? = some e ∧ x = .ref e.2.1, fun i H => H d = some (.frz o (DNo d kl)) ∧ kl.length ≤ i⟩
theorem turn_keysN {kl : List (NestedKey × Addr × V)} (it : Addr) (hod : o.data = .dict es ep) : Turn P w K tg (Itkn d o kl) [it] it (fun i h => h.IsKeyIter it d i kl.length ep) where
  mem := by simp
  obj := fun i h st b hb => by
    have e : b = it := by simpa using hb
    subst e
    obtain ⟨oi, e, c, dd⟩ := st
    exact ⟨oi, e, fun v z => by rw [dd] at z; cases z⟩
  keep := fun i h h' st k => st.at fun oi e => k it (by simp) oi e
  item := by
    intro X hP hw hK hc i pins s σ H E I hf st hg
    subst hP hw hK
    obtain ⟨hd, hi⟩ := hg
    obtain ⟨f0, f1, f2, f3, f4, f5⟩ := hf it (by simp)
    obtain ⟨hs, hgd, hx, es', ep', hdt, hsz, ent⟩ := I.frzN hd
    obtain ⟨rfl, rfl⟩ := dict_ep hod hdt
    obtain ⟨x, hkv⟩ : ∃ p, kl[i]? = some p := ⟨kl[i], List.getElem?_eq_getElem hi⟩
    obtain ⟨en, hen, hkey⟩ := ent i x hkv
    refine next_key_item st hgd hdt hsz hen fun h' st' sb => ?_
    have I1 : Inv X pins σ H { s with heap := h' } := I.turned (t' := s.toks) (fun b ob hb e => (sb.2 b hb).trans e) f0 f1 f3 f4 f5
    obtain ⟨oi, e, c, dd⟩ := id st'
    exact ⟨en.key, rfl, go_of (s := { s with heap := h' }) e c dd (by decide) ⟨.ref x.2.1, H, I1, hkey, ⟨rfl, x, hkv, rfl⟩, st', fun b hb => (hf b hb).1⟩⟩
  done := by
    intro X hP hw hK hc i pins s σ H E I hf st hg
    subst hP hw hK
    obtain ⟨hd, hi⟩ := hg
    obtain ⟨f0, f1, f2, f3, f4, f5⟩ := hf it (by simp)
    obtain ⟨hs, hgd, hx, es', ep', hdt, hsz, ent⟩ := I.frzN hd
    obtain ⟨rfl, rfl⟩ := dict_ep hod hdt
    exact next_key_end (I.ok.hd hc) st hgd hdt hsz hi fun h' eb => ⟨rfl, I.turned (t' := s.toks) (fun b ob hb e => eb b ob hb e) f0 f1 f3 f4 f5⟩
  self := fun A i s Q E st h => by
    refine wpAny_pyIter_slot st.typeIs F.slot_dict_keyiterator_iter (wpAny_call_entry F.slot_dict_keyiterator_iter st.typeIs F.entry_dict_keyiterator_iter ?_ (F.args_dict_keyiterator_iter_1 _))
    show wpAny _ _ (ret (.ref it)) _ _ s
    exact wpAny_pure ⟨_, rfl, "dict_keyiterator", _, st.typeIs, F.slot_dict_keyiterator_next.lookup, h⟩
end
/-- the dict is locked -/
def iKeysN (td : TE) : TI := fun σ H R => td σ H fun x H1 => ∃ d o kl, x = .ref d ∧ H1 d = some (.frz o (DNo d kl)) ∧ R (Itkn d o kl) H1
theorem pi_keysN {X : Cx} {tg e : Expr} {td : TE} (he : PE X e td) : PI X tg e (iKeysN td) := by
  refine ⟨fun pins s σ H R I h => ?_⟩
  refine thn (he.run pins s σ H _ I h) fun u s1 ⟨x, H1, I1, rx, d, o, kl, ex, hd, q⟩ => ?_
  subst ex
  obtain rfl : u = Value.ref d := rx
  obtain ⟨hs, hgd, hx, es, ep, hdt, hsz, ent⟩ := I1.frzN hd
  refine iter_keys hs hgd hx hdt (pi_one (tk := s1.toks) I1 _ (turn_keysN _ hdt) ⟨_, Heap.get?_push_size _ rfl, rfl, ?_⟩ q)
  rw [hsz] <;> rfl
end L2
namespace Dv
open PySem L2
section
variable {K : PySem.W.Frag} {B : Hp} {O : List Addr} {I : List (Nat × Addr)} {σ : L2.St} {H G : Hp} {env : Env} {W : WN} {te : TE} {fe : EF} {p : Addr} {od : Obj} {u : HO} {kl : List (NestedKey × Addr × V)} {kvs : List (NestedKey × D)} {i : Nat}
def keysNN (kvs : List (NestedKey × D)) : List D := kvs.map fun q => nkD q.1
/-- an own dict is locked: its name is not known then -/
theorem Sta.lockN (S : Sta K B O I σ H env) (hi : env[i]? = some (.nw (.dcN kvs))) (h1 : σ[i]? = some (some (.ref p))) : Sta K (upd B p (.frz od u)) O I σ (upd H p (.frz od u)) (env.set i .no) := by
  obtain ⟨p', h1', ⟨ks, h3, h4⟩, _, h5, h6, h7⟩ := S.nw i _ hi
  have pp : p' = p := by
    rw [h1] at h1'
    cases h1'
    rfl
  subst pp
  obtain ⟨pO, pB⟩ := h5 p' adsOf_self
  have li : i < env.length := (List.getElem?_eq_some_iff.mp hi).1
  have em : mi (upd H p' (.frz od u)) O = mi H O := mi_upd_in pO
  have other : ∀ j es q, OwnAt env j es → σ[j]? = some (some (.ref q)) → q ≠ p' := fun j es q hj e z => by
    subst z
    exact h6 j es q hj e adsOf_self
  have own : ∀ {j : Nat} {es : List D}, OwnAt (env.set i .no) j es → j ≠ i ∧ OwnAt env j es := fun z => own_setK (fun ds => ⟨fun z => (by cases z), fun z => (by cases z)⟩) z
  refine ⟨by rw [List.length_set]; exact S.len, fun j d hj => ?_, fun j es hj => ?_, fun j l es gs q hj hl e1 e2 => S.sep j l es gs q (own hj).2 (own hl).2 e1 e2, fun a o h => ?_, fun q hq => ?_, fun j q hj => ?_, fun j w hj => ?_, fun q ys hq => ?_⟩
  · have c : j ≠ i := fun z => by
      subst z
      rw [List.getElem?_set_self li] at hj
      cases hj
    rw [set_get c] at hj
    rw [em]
    exact S.fz j d hj
  · obtain ⟨c, hj⟩ := own hj
    obtain ⟨q, ys, k1, k2, k3, k4, k5⟩ := S.ow j es hj
    have n := other j es q hj k1
    exact ⟨q, ys, k1, k2, by rw [upd_ne n]; exact k3, by rw [em]; exact k4, by rw [upd_ne n]; exact k5⟩
  · by_cases c : a = p'
    · subst c
      rw [upd_same] at h ⊢
      exact h
    · rw [upd_ne c] at h ⊢
      exact S.base a o h
  · by_cases c : q = p'
    · subst c
      exact ⟨_, upd_same⟩
    · rw [upd_ne c]
      exact S.dom q hq
  · obtain ⟨k1, es, k2⟩ := S.pin j q hj
    have c : j ≠ i := fun z => by
      subst z
      rw [hi] at k2
      cases k2
    exact ⟨k1, es, by rw [set_get c]; exact k2⟩
  · have c : j ≠ i := fun z => by
      subst z
      rw [List.getElem?_set_self li] at hj
      cases hj
    rw [set_get c] at hj
    obtain ⟨q, b1, b2, b3, b4, b5, b6⟩ := S.nw j w hj
    have np : ∀ a, a ∈ adsOf H q w → a ≠ p' := fun a ha z => by
      subst z
      exact b6 i _ a (Ne.symm c) hi h1 a ha adsOf_self
    have e0 : adsOf (upd H p' (.frz od u)) q w = adsOf H q w := adsOf_eq (upd_ne (np q adsOf_self))
    refine ⟨q, b1, ?_, by rw [e0]; exact b3, fun a ha => ?_, fun l ds a hl e ha => ?_, fun l w' r hl hw e a ha ha' => ?_⟩
    · rw [em]
      exact b2.mono (Same.refl _) fun a ha => upd_ne (np a ha)
    · rw [e0] at ha
      exact ⟨(b4 a ha).1, by rw [upd_ne (np a ha)]; exact (b4 a ha).2⟩
    · rw [e0] at ha
      exact b5 l ds a (own hl).2 e ha
    · have cl : l ≠ i := fun z => by
        subst z
        rw [List.getElem?_set_self li] at hw
        cases hw
      rw [set_get cl] at hw
      rw [e0] at ha
      have e1 : adsOf (upd H p' (.frz od u)) r w' = adsOf H r w' := adsOf_eq (upd_ne fun z => by
        subst z
        exact h7 l w' r cl hw e r adsOf_self adsOf_self)
      rw [e1] at ha'
      exact b6 l w' r hl hw e a ha ha'
  · by_cases c : q = p'
    · subst c
      rw [upd_same]
      intro z
      cases z
    · rw [upd_ne c]
      exact S.nt q ys hq
/-- it is an own dict again -/
theorem Sta.unlockN (S : Sta K (upd B p (.frz od u)) O I σ H env) (hi : env[i]? = some .no) (h1 : σ[i]? = some (some (.ref p))) (pO : p ∈ O) (pB : B p = none) (hk : DqN K (mi H O) kl kvs) : Sta K B O I σ (upd H p (DNo p kl)) (env.set i (.nw (.dcN kvs))) := by
  have li : i < env.length := (List.getElem?_eq_some_iff.mp hi).1
  have em : mi (upd H p (DNo p kl)) O = mi H O := mi_upd_in pO
  have free : ∀ {q : Addr}, upd B p (.frz od u) q = none → q ≠ p ∧ B q = none := fun {q} z => by
    have c : q ≠ p := fun y => by
      subst y
      rw [upd_same] at z
      cases z
    rw [upd_ne c] at z
    exact ⟨c, z⟩
  have own : ∀ {j : Nat} {es : List D}, OwnAt (env.set i (.nw (.dcN kvs))) j es → j ≠ i ∧ OwnAt env j es := fun z => own_setK (fun ds => ⟨fun z => (by cases z), fun z => (by cases z)⟩) z
  refine ⟨by rw [List.length_set]; exact S.len, fun j d hj => ?_, fun j es hj => ?_, fun j l es gs q hj hl e1 e2 => S.sep j l es gs q (own hj).2 (own hl).2 e1 e2, fun a o h => ?_, fun q hq => ?_, fun j q hj => ?_, fun j w hj => ?_, fun q ys hq => ?_⟩
  · have c : j ≠ i := fun z => by
      subst z
      rw [List.getElem?_set_self li] at hj
      cases hj
    rw [set_get c] at hj
    rw [em]
    exact S.fz j d hj
  · obtain ⟨c, hj⟩ := own hj
    obtain ⟨q, ys, k1, k2, k3, k4, k5⟩ := S.ow j es hj
    obtain ⟨n, k6⟩ := free k5
    exact ⟨q, ys, k1, k2, by rw [upd_ne n]; exact k3, by rw [em]; exact k4, k6⟩
  · have c : a ≠ p := fun z => by
      subst z
      rw [pB] at h
      cases h
    rw [upd_ne c]
    exact S.base a o (by rw [upd_ne c]; exact h)
  · by_cases c : q = p
    · subst c
      exact ⟨_, upd_same⟩
    · rw [upd_ne c]
      exact S.dom q hq
  · obtain ⟨k1, es, k2⟩ := S.pin j q hj
    have c : j ≠ i := fun z => by
      subst z
      rw [hi] at k2
      cases k2
    exact ⟨k1, es, by rw [set_get c]; exact k2⟩
  · have oth : ∀ j w, j ≠ i → env[j]? = some (SV.nw w) → ∃ q, σ[j]? = some (some (.ref q)) ∧ Real K (mi H O) H q w ∧ (adsOf H q w).Nodup ∧ (∀ a, a ∈ adsOf H q w → a ∈ O ∧ B a = none ∧ a ≠ p) := fun j w c hj => by
      obtain ⟨q, b1, b2, b3, b4, b5, b6⟩ := S.nw j w hj
      exact ⟨q, b1, b2, b3, fun a ha => ⟨(b4 a ha).1, (free (b4 a ha).2).2, (free (b4 a ha).2).1⟩⟩
    by_cases c : j = i
    · subst c
      rw [List.getElem?_set_self li] at hj
      cases hj
      refine ⟨p, h1, ⟨kl, upd_same, by rw [em]; exact hk⟩, by unfold adsOf; simp, fun a ha => ?_, fun l ds a hl e ha => ?_, fun l w' r hl hw e a ha ha' => ?_⟩
      · unfold adsOf at ha
        rw [List.mem_singleton.mp ha]
        exact ⟨pO, pB⟩
      · unfold adsOf at ha
        obtain ⟨cl, hl⟩ := own hl
        obtain ⟨q, ys, k1, k2, k3, k4, k5⟩ := S.ow l ds hl
        rw [k1] at e
        cases e
        exact (free k5).1 (List.mem_singleton.mp ha)
      · unfold adsOf at ha
        rw [set_get hl] at hw
        obtain ⟨q, b1, b2, b3, b4⟩ := oth l w' hl hw
        rw [e] at b1
        cases b1
        have e1 : adsOf (upd H p (DNo p kl)) r w' = adsOf H r w' := adsOf_eq (upd_ne (b4 r adsOf_self).2.2)
        rw [e1] at ha'
        exact (b4 a ha').2.2 (List.mem_singleton.mp ha)
    · rw [set_get c] at hj
      obtain ⟨q, b1, b2, b3, b4, b5, b6⟩ := S.nw j w hj
      have np : ∀ a, a ∈ adsOf H q w → a ≠ p := fun a ha => (free (b4 a ha).2).1
      have e0 : adsOf (upd H p (DNo p kl)) q w = adsOf H q w := adsOf_eq (upd_ne (np q adsOf_self))
      refine ⟨q, b1, ?_, by rw [e0]; exact b3, fun a ha => ?_, fun l ds a hl e ha => ?_, fun l w' r hl hw e a ha ha' => ?_⟩
      · rw [em]
        exact b2.mono (Same.refl _) fun a ha => upd_ne (np a ha)
      · rw [e0] at ha
        exact ⟨(b4 a ha).1, (free (b4 a ha).2).2⟩
      · rw [e0] at ha
        exact b5 l ds a (own hl).2 e ha
      · rw [e0] at ha
        by_cases cl : l = i
        · subst cl
          rw [List.getElem?_set_self li] at hw
          cases hw
          rw [h1] at e
          cases e
          unfold adsOf at ha'
          exact np a ha (List.mem_singleton.mp ha')
        · rw [set_get cl] at hw
          obtain ⟨q', c1, c2, c3, c4⟩ := oth l w' cl hw
          rw [e] at c1
          cases c1
          have e1 : adsOf (upd H p (DNo p kl)) r w' = adsOf H r w' := adsOf_eq (upd_ne (c4 r adsOf_self).2.2)
          rw [e1] at ha'
          exact b6 l w' r hl hw e a ha ha'
  · by_cases c : q = p
    · subst c
      rw [upd_same]
      intro z
      cases z
    · rw [upd_ne c]
      exact S.nt q ys hq
theorem DqN.at : ∀ {ks : List (NestedKey × Addr × V)} {kvs : List (NestedKey × D)} {n : Nat} {x : NestedKey × Addr × V}, DqN K G ks kvs → ks[n]? = some x → ∃ q, kvs[n]? = some q ∧ x.1 = q.1 ∧ Dq K G (.ref x.2.1) (nkD q.1)
  | [], [], _, _, _, e => by simp at e
  | [], _ :: _, _, _, h, _ => h.elim
  | _ :: _, [], _, _, h, _ => h.elim
  | p :: ks, q :: kvs, 0, x, h, e => by
    simp at e
    subst e
    exact ⟨q, rfl, h.1.1, h.1.2.2⟩
  | p :: ks, q :: kvs, n + 1, x, h, e => by
    obtain ⟨r, h1, h2⟩ := DqN.at (n := n) h.2.2 (by simpa using e)
    exact ⟨r, by simpa using h1, h2⟩
/-- the keys, one by one -/
theorem iter_keysNN {O' : List Addr} (h : H p = some (.frz od (DNo p kl))) (hk : DqN K (mi H O') kl kvs) :
    (∀ n, n < (keysNN kvs).length → (Itkn p od kl).go n H) ∧ (Itkn p od kl).stop (keysNN kvs).length H ∧ ∀ n d x H', (keysNN kvs)[n]? = some d → (Itkn p od kl).yld n H x H' → H' = H ∧ Dq K (mi H O') x d := by
  have lk := hk.len
  have ll : (keysNN kvs).length = kl.length := by
    unfold keysNN
    rw [List.length_map, lk]
  refine ⟨fun n hn => ⟨h, by omega⟩, ⟨h, by omega⟩, fun n d x H' hd hy => ?_⟩
  obtain ⟨rfl, e, y1, rfl⟩ := hy
  obtain ⟨q, q1, q2, q3⟩ := hk.at y1
  refine ⟨rfl, ?_⟩
  unfold keysNN at hd
  rw [List.getElem?_map, q1] at hd
  cases hd
  exact q3
/-- sound where the dict at p is locked and the i-th name holds it -/
def SndB (K : PySem.W.Frag) (i : Nat) (p : Addr) (od : Obj) (kl : List (NestedKey × Addr × V)) (kvs : List (NestedKey × D)) (t : TE) (f : EF) : Prop := ∀ B O I σ H env rv env', B p = some (.frz od (DNo p kl)) → DqN K (mi H O) kl kvs → σ[i]? = some (some (.ref p)) → Sta K B O I σ H env → f env = some (rv, env') →
  ∀ Q : VK, (∀ v H', Post K B O I σ H' env' v rv → Q v H') → t σ H Q
theorem SndB.of {kvs : List (NestedKey × D)} {f : EF} (h : Snd K te f) : SndB K i p od kl kvs te f := fun B O I σ H env rv env' _ _ _ S e Q q => h B O I σ H env rv env' S e Q q
/-- (u, v, d[(u, v)]) -/
def fItem (u v : Nat) (kvs : List (NestedKey × D)) : EF := fun env => match env[u]?, env[v]? with
  | some (.fz a), some (.fz b) => (keyN (.tup [a, b])).bind fun k => (kValN kvs k).bind fun x => some (.val (.tup [a, b, x]), env)
  | _, _ => none
theorem sb_item {u v : Nat} {kvs : List (NestedKey × D)} : SndB K i p od kl kvs (tTup (tCons (tVar u) (tCons (tVar v) (tCons (tNGet K (tVar i) (tTup (tCons (tVar u) (tCons (tVar v) tNil)))) tNil)))) (fItem u v kvs) := by
  intro B O I σ H env rv env' hB hk hs S e Q q
  unfold fItem at e
  split at e
  · rename_i a b hu hv
    obtain ⟨k, e1, e⟩ := bnd e
    obtain ⟨x, e2, e⟩ := bnd e
    cases e
    obtain ⟨va, a1, a2⟩ := S.fz u _ hu
    obtain ⟨vb, b1, b2⟩ := S.fz v _ hv
    refine ⟨va, a1, vb, b1, .ref p, hs, va, a1, vb, b1, line_of (by simp), fun q1 hq1 => ?_⟩
    have hO1 : q1 ∉ O := not_dom S.dom hq1
    have up1 : Same H (upd H q1 (.tup [va, vb])) := same_new hq1
    have S1 := S.grow up1
    have m1 : Same (mi H O) (mi (upd H q1 (.tup [va, vb])) O) := mi_mono up1
    have dk : Dq K (mi (upd H q1 (.tup [va, vb])) O) (.ref q1) (.tup [a, b]) := .tup (.inl (.inl (mi_of hO1 upd_same))) (.cons (Dq.mono m1 _ _ a2) (.cons (Dq.mono m1 _ _ b2) .nil))
    obtain ⟨b', hb', y1, y2⟩ := keyN_of dk e1
    cases hb'
    have hp : H p = some (.frz od (DNo p kl)) := S.base _ _ hB
    rcases hk.val k with ⟨_, z⟩ | ⟨w, d', z1, z2, z3⟩
    · rw [z] at e2
      cases e2
    · rw [z2] at e2
      cases e2
      refine ⟨p, w, rfl, ⟨kl, k, q1, .inr ⟨od, up1 _ _ hp⟩, (hk.mono m1).ksok mi_same, rfl, ⟨y2, Dq.mono mi_same _ _ y1⟩, z1.symm⟩, line_of (by simp), fun q2 hq2 => q _ _ ?_⟩
      have hO2 : q2 ∉ O := not_dom S1.dom hq2
      have up2 : Same (upd H q1 (.tup [va, vb])) (upd (upd H q1 (.tup [va, vb])) q2 (.tup [va, vb, w])) := same_new hq2
      have m2 : Same (mi H O) (mi (upd (upd H q1 (.tup [va, vb])) q2 (.tup [va, vb, w])) O) := m1.trans (mi_mono up2)
      exact ⟨S1.grow up2, .tup (.inl (.inl (mi_of hO2 upd_same))) (.cons (Dq.mono m2 _ _ a2) (.cons (Dq.mono m2 _ _ b2) (.cons (Dq.mono m2 _ _ z3) .nil)))⟩
  · cases e
def fLcN (i : Nat) (g : GF) (tt : TF) (fk : List (NestedKey × D) → EF) (vs : List Nat) : EF := fun env => match env[i]? with
  | some (.nw (.dcN kvs)) => (fLc (fun e => some (keysNN kvs, e)) g tt (fk kvs) vs (env.set i .no)).bind fun r => match r.1, r.2[i]? with
    | .new ds, some .no => some (.new ds, r.2.set i (.nw (.dcN kvs)))
    | _, _ => none
  | _ => none
theorem snd_lcN {g : TG} {h : GF} {tt : TT} {ft : TF} {vs : List Nat} {fk : List (NestedKey × D) → EF} (hiv : i ∉ vs) (hg : SndW K vs g h) (ht : SndT K tt ft) (he : ∀ p od kl kvs, SndB K i p od kl kvs te (fk kvs)) : Snd K (tLockE (tLc (iKeysN (tVar i)) g tt te vs)) (fLcN i h ft fk vs) := by
  intro B O I σ H env rv env' S e Q q
  unfold fLcN at e
  split at e
  · rename_i kvs hi
    obtain ⟨⟨r0, envF⟩, e1, e⟩ := bnd e
    obtain ⟨w00, ew0, e1⟩ := bnd e1
    cases ew0
    obtain ⟨w0, ew, e1⟩ := bnd e1
    obtain ⟨⟨all, envE⟩, e2, e1⟩ := bnd e1
    dsimp only at ew e2 e1 e
    split at e1
    · rename_i hall
      cases e1
      split at e
      · rename_i ds hds hno
        cases hds
        cases e
        obtain ⟨p, h1, ⟨kl, h3, h4⟩, _, h5, _, _⟩ := S.nw i _ hi
        obtain ⟨pO, pB⟩ := h5 p adsOf_self
        refine ⟨p, DNo p kl, h3, trivial, fun od => ?_⟩
        have S1 : Sta K (upd B p (.frz od (DNo p kl))) O I σ (upd H p (.frz od (DNo p kl))) (env.set i .no) := S.lockN hi h1
        have hd : upd H p (.frz od (DNo p kl)) p = some (.frz od (DNo p kl)) := upd_same
        have em : mi (upd H p (.frz od (DNo p kl))) O = mi H O := mi_upd_in pO
        generalize env.set i .no = env1 at S1 ew hno q
        generalize hH1 : upd H p (.frz od (DNo p kl)) = H1 at S1 hd em
        have hkp : keepH σ env1 H1 p = some (.frz od (DNo p kl)) := S1.not_own (o := .frz od (DNo p kl)) upd_same
        refine ⟨.ref p, h1, p, od, kl, rfl, hd, fun L hL => ?_⟩
        have hLO : L ∉ O := not_dom S1.dom hL
        have hLp : L ≠ p := fun z => hLO (z ▸ pO)
        have hLB : keepH σ env1 H1 L = none := (keepH_same (σ := σ) (env := env1) (H := H1)).free hL
        have S0 : Sta K (keepH σ env1 H1) O I (L2.wipe σ vs) H1 w0 := S1.strong.wipe ew
        refine ⟨fun i m H => ∃ env acc done rest, Sta K (keepH σ env1 H1) O I (L2.wipe σ vs) (mi H [L]) env ∧ H L = some (.lst acc) ∧ DqA K (mi (mi H [L]) O) acc done ∧ i + m = (keysNN kvs).length ∧ lcN h ft (fk kvs) vs ((keysNN kvs).drop i) env = some (rest, envE) ∧ done ++ rest = all,
          ⟨(keysNN kvs).length, w0, [], [], all, by rw [mi_one_new hL]; exact S0, upd_same, .nil, by omega, by simpa using e2, rfl⟩, fun n m H ⟨env2, acc, done, rest, S2, hA, hD, en, e3, ed⟩ => ?_⟩
        have fz0 : Same (mi H1 O) (mi H (L :: O)) := fun a o z => by
          obtain ⟨z1, z2⟩ := mi_some z
          rw [← mi_mi]
          refine mi_of z1 (S2.base a o ?_)
          rw [keepH_not (fun y => z1 (S1.owns_in y))]
          exact z2
        have S3 := S2.show hA
        have hp3 : H p = some (.frz od (DNo p kl)) := (mi_some (S2.base _ _ hkp)).2
        have h4' : DqN K (mi H (L :: O)) kl kvs := h4.mono (by rw [← em]; exact fz0)
        obtain ⟨i1, i2, i3⟩ := iter_keysNN hp3 h4'
        cases m with
        | zero =>
          have ei : n = (keysNN kvs).length := by omega
          subst ei
          rw [List.drop_length] at e3
          cases e3
          rw [List.append_nil] at ed
          subst ed
          have SR := (Sta.rest S1 S2 (by rw [mi_mi]; exact fz0)).weak S1.base_keep
          have eU : mi (upd H p (DNo p kl)) [L] = upd (mi H [L]) p (DNo p kl) := mi_upd_out (fun z => hLp (List.mem_singleton.mp z).symm)
          have SU := SR.unlockN (kl := kl) (kvs := kvs) hno h1 pO pB (h4.mono (by rw [mi_mi, ← em]; exact fz0))
          have bL : B L = none := by
            have := S1.base.free hL
            rw [upd_ne hLp] at this
            exact this
          refine .inl ⟨i2, hp3, q _ _ ⟨L, acc, rfl, by rw [upd_ne hLp]; exact hA, bL, hLO, ?_, ?_⟩⟩
          · rw [eU]
            exact SU
          · rw [eU, mi_upd_in pO]
            exact hD
        | succ m =>
          have hn : n < (keysNN kvs).length := by omega
          rw [List.drop_eq_getElem_cons hn] at e3
          obtain ⟨env3, e4, e5⟩ := bnd e3
          obtain ⟨⟨b, env4⟩, e6, e7⟩ := bnd e5
          refine .inr ⟨i1 n hn, fun H' => ∃ env acc done rest, Sta K (keepH σ env1 H1) O I (L2.wipe σ vs) (mi H' [L]) env ∧ H' L = some (.lst acc) ∧ DqA K (mi (mi H' [L]) O) acc done ∧ lcN h ft (fk kvs) vs ((keysNN kvs).drop (n + 1)) env = some (rest, envE) ∧ done ++ rest = all,
            fun H' ⟨a1, a2, a3, a4, a5, a6, a7, a8, a9⟩ => ⟨m, by omega, a1, a2, a3, a4, a5, a6, a7, by omega, a8, a9⟩, fun x H3 hy => ?_⟩
          obtain ⟨eH, dx⟩ := i3 n _ x H3 (List.getElem?_eq_getElem hn) hy
          subst eH
          have S4 := S3
          have hL3 : keepH (L2.wipe σ vs) env2 H3 L = some (.lst acc) := S4.not_own (o := .lst acc) upd_same
          have base3 : Same (upd (keepH σ env1 H1) L (.lst acc)) (keepH (L2.wipe σ vs) env2 H3) := S4.base_keep
          refine hg _ _ I _ H3 env2 x _ env3 S4.strong dx e4 _ fun σ4 w4 S5 => ⟨by rw [w4, wipe_idem], ?_⟩
          refine ht _ _ I σ4 H3 env3 b env4 S5 e6 _ fun H5 S6 => ?_
          have st : ∀ {H6 : Hp} {σ6 : L2.St} {env6 : Env}, Sta K (keepH (L2.wipe σ vs) env2 H3) (L :: O) I σ6 H6 env6 → Same (mi H3 (L :: O)) (mi H6 (L :: O)) := fun {H6 σ6 env6} Z => stays S4 .refl Z
          cases b with
          | false =>
            rw [if_neg Bool.false_ne_true]
            obtain ⟨w5, e8, e9⟩ := bnd e7
            have S7 := ((S6.wipe e8).weak base3).hide hLO hLB
            rw [w4, wipe_idem] at S7
            refine ⟨w5, acc, done, rest, S7, S6.base _ _ hL3, ?_, e9, ed⟩
            rw [mi_mi] at hD ⊢
            exact DqA.mono (st S6) _ _ hD
          | true =>
            rw [if_pos rfl]
            obtain ⟨⟨r6, env6⟩, e8, e9⟩ := bnd e7
            dsimp only at e9
            split at e9
            · rename_i y hy6
              obtain ⟨w5, f1, f2⟩ := bnd e9
              obtain ⟨⟨rest', env7⟩, f3, f4⟩ := bnd f2
              cases f4
              have hB6 : keepH (L2.wipe σ vs) env2 H3 p = some (.frz od (DNo p kl)) := S4.not_own (o := .frz od (DNo p kl)) (by rw [upd_ne (Ne.symm hLp)]; exact hkp)
              have hD6 := h4'.mono (st S6)
              have hs6 : σ4[i]? = some (some (.ref p)) := by
                rw [← wipe_get hiv (σ := σ4), w4, wipe_get hiv, wipe_get hiv]
                exact h1
              refine he p od kl kvs _ _ I σ4 H5 env4 r6 env6 hB6 hD6 hs6 S6 e8 _ fun vy H6 P6 => ?_
              have P6' := P6.frz
              rw [hy6] at P6'
              obtain ⟨S7, dy⟩ := P6'
              have hA6 := S7.base _ _ hL3
              have ll : acc.length < sizeLine := by
                rw [hD.length]
                refine line_lt ?_
                rw [← ed, List.length_append] at hall
                omega
              refine ⟨acc, hA6, ll, w5, acc ++ [vy], done ++ [y], rest', ?_, upd_same, ?_, f3, by rw [← ed]; simp⟩
              · have S8 := ((S7.wipe f1).weak base3).hide hLO hLB
                rw [w4, wipe_idem] at S8
                rw [mi_upd_in (List.mem_singleton.mpr rfl)]
                exact S8
              · rw [mi_upd_in (List.mem_singleton.mpr rfl)]
                rw [mi_mi] at hD ⊢
                exact (DqA.mono (st S7) _ _ hD).append (.cons dy .nil)
            · cases e9
      · cases e
    · cases e1
  · cases e
end
end Dv
namespace Dv
open PySem L2
mutual
theorem toPy_nkD : ∀ k : NestedKey, nkNum k = true → toPy (nkD k) = NestedKey.data k
  | .num i, _ => by simp only [nkD, toPy, NestedKey.data]
  | .tup ks, h => by
    simp only [nkNum] at h
    simp only [nkD, toPy, NestedKey.data]
    rw [toPys_nkDs ks h]
  | .none, h => by simp [nkNum] at h
  | .text _, h => by simp [nkNum] at h
theorem toPys_nkDs : ∀ ks : List NestedKey, nkNums ks = true → toPys (nkDs ks) = NestedKey.datas ks
  | [], _ => by simp only [nkDs, toPys, NestedKey.datas]
  | k :: ks, h => by
    simp only [nkNums, Bool.and_eq_true] at h
    simp only [nkDs, toPys, NestedKey.datas]
    rw [toPy_nkD k h.1, toPys_nkDs ks h.2]
end
mutual
theorem reads_nil {h : Heap} : ∀ (k : NestedKey) (u : Value) (as : List Addr), nkNum k = true → Reads h u (NestedKey.data k) as → as = []
  | .num i, u, as, _, r => by
    simp only [NestedKey.data] at r
    cases r
    rfl
  | .tup ks, u, as, n, r => by
    simp only [NestedKey.data] at r
    simp only [nkNum] at n
    cases r with
    | tuple h1 h2 h3 h4 => exact readsAll_nil ks _ _ n h4
  | .none, _, _, n, _ => by simp [nkNum] at n
  | .text _, _, _, n, _ => by simp [nkNum] at n
theorem readsAll_nil {h : Heap} : ∀ (ks : List NestedKey) (us : List Value) (as : List Addr), nkNums ks = true → ReadsAll h us (NestedKey.datas ks) as → as = []
  | [], _, _, _, r => by
    simp only [NestedKey.datas] at r
    cases r
    rfl
  | k :: ks, _, _, n, r => by
    simp only [NestedKey.datas] at r
    simp only [nkNums, Bool.and_eq_true] at n
    cases r with
    | cons h1 h2 => rw [reads_nil k _ _ n.1 h1, readsAll_nil ks _ _ n.2 h2]; rfl
end
end Dv
namespace Big
open PySem PySem.Spec PyProof.Rows L2 Dv
section
variable {X : Cx}
def rSortDN (K : PySem.W.Frag) : List V → Hp → VK → Prop := fun vs H Q => ∃ (a : Addr) (xs : List (NestedKey × Addr × V)) (bs : List (V × D)), vs = [V.ref a] ∧ Rd H a (DNo a xs) ∧ xs.length ≤ 1000000 ∧ bs = xs.map (fun x => (V.ref x.2.1, nkD x.1)) ∧ KsOk K H xs ∧
  PySem.W.AllAlike (bs.map fun b => toPy b.2) ∧ PySem.W.Sortable (bs.map fun b => toPy b.2) ∧ (∀ b, b ∈ bs → (toPy b.2).depth ≤ 50) ∧
  ∀ p, H p = none → Q (.ref p) (upd H p (.lst ((bs.mergeSort fun a b => leD a.2 b.2).map (·.1))))
theorem refsN : ∀ {xs : List (NestedKey × Addr × V)} {ys : List (NestedKey × Addr × Value)}, PairN xs ys → ys.map (fun y => Value.ref y.2.1) = xs.map fun x => Value.ref x.2.1
  | _, _, .nil => rfl
  | _, _, .cons h t => by rw [List.map_cons, List.map_cons, refsN t, h.2.1]
theorem each_of {α β γ : Type} {R : α → β → Prop} {f : γ → α} {g : γ → β} : ∀ {xs : List γ}, (∀ x, x ∈ xs → R (f x) (g x)) → PySem.W.EachIs R (xs.map f) (xs.map g)
  | [], _ => .nil
  | x :: xs, h => .cons (h x List.mem_cons_self) (each_of fun y hy => h y (List.mem_cons_of_mem _ hy))
theorem cr_sortedDN (hc : X.calm = true) (hu : X.A.units + 64 < cLine) : CallR X (.builtin "sorted") (rSortDN X.K) := by
  intro pins s σ H vs0 us Q I r h
  obtain ⟨a, xs, bs, rfl, ha, most, hbs, hk, hal, hso, hdep, q⟩ := h
  rw [Vals.ref1 r]
  obtain ⟨⟨hs, z2, ys, pr, o, es, ep, ho, hx, hdt, he, hn⟩, _⟩ := (show ObjOk X.prog X.w H s.heap a (DNo a xs) from ha.ok I.hok)
  have l1 : es.size = ys.length := by
    have := congrArg List.length he
    rwa [List.length_map, Array.length_toList] at this
  have l2 : xs.length = ys.length := Paired.length pr
  refine Calls.call_function_entry kind_sorted plain_sorted entry_sorted (args_sorted1 _) ?_
  unfold Builtin.«sorted»
  refine wpAny_bind (m := checkCount "sorted" 1 1 _) (wpAny_pure ?_)
  refine wpAny_bind (PySem.W.kdu_collect (A := X.A.in1) (L2.kdl_raw hs hx hdt) (I.ok.hd hc) ho (by rw [sizeLine_eq]; omega) fun h' tk acc hk2 hacc => ?_)
  have al : acc.toList.length = ys.length := by rw [Array.length_toList, hacc.1, l1]
  have ea : acc.toList = xs.map fun x => Value.ref x.2.1 := by
    rw [← refsN pr]
    refine List.ext_getElem (by rw [al, List.length_map]) fun j h1 h2 => ?_
    obtain ⟨en, e1, e2⟩ := hacc.2 j acc.toList[j] (by rw [← Array.getElem?_toList]; exact List.getElem?_eq_getElem h1)
    have hj : j < ys.length := by rw [← al]; exact h1
    have e3 : es[j]? = some (entN ys[j]) := by
      rw [← Array.getElem?_toList, he, List.getElem?_map, List.getElem?_eq_getElem hj]
      rfl
    rw [e1] at e3
    cases e3
    rw [e2, List.getElem_map]
    rfl
  rw [ea]
  have I1 : Inv X pins σ H { s with heap := h', toks := tk } := I.kept hk2
  generalize hvs : xs.map (fun x => Value.ref x.2.1) = vs at ea
  have lv : vs.length = xs.length := by rw [← hvs, List.length_map]
  have lz : vs.length ≤ sizeLine := by rw [sizeLine_eq]; omega
  refine wpAny_bind (wpAny_newList ?_ lz)
  have hoL : (h'.push (seqObj "list" vs.toArray 0)).get? h'.objs.size = some (seqObj "list" vs.toArray 0) := Heap.get?_push_size _ rfl
  have lb : bs.length = xs.length := by rw [hbs, List.length_map]
  have er0 : PySem.W.EachIs (fun (u : Value) (b : V × D) => RelV b.1 u) vs bs := by
    rw [← hvs, hbs]
    exact each_of fun x _ => rfl
  have er : PySem.W.EachIs (fun (u : Value) (b : V × D) => ∃ as, Reads (h'.push (seqObj "list" vs.toArray 0)) u (toPy b.2) as ∧ h'.objs.size ∉ as) vs bs := by
    rw [← hvs, hbs]
    refine each_of fun x hx => ?_
    obtain ⟨k1, k2⟩ := hk x hx
    have n := (okN_num k1).1
    obtain ⟨as, rr⟩ := Dp.reads I1 _ (.ref x.2.1) (.ref x.2.1) (nkD_dp x.1 (.ref x.2.1) n k2) rfl
    have e0 := reads_nil x.1 _ as n rr
    subst e0
    refine ⟨[], ?_, by simp⟩
    show Reads _ _ (toPy (nkD x.1)) []
    rw [toPy_nkD x.1 n]
    exact PyProof.Rows.Reads.keeps (fun _ _ e => Heap.get?_push_of_some _ e) rr
  refine wpAny_bind (wpAny_holding (PySem.W.list_sort_data (A := X.A.in1) (s := { s with heap := h'.push (seqObj "list" vs.toArray 0), toks := tk }) (enc := fun b : V × D => toPy b.2) hoL er0 er hal hso (by rw [lb, sizeLine_eq]; omega) (fun b hb => ?_) fun out ho h1 => ?_))
  · have := hdep b hb
    have e : X.A.in1.units = X.A.units + 1 := rfl
    omega
  · obtain ⟨c, hcc⟩ := sortedHeap_at (vs := vs) (out := out.toArray) hoL
    have k1 := each_vals h1
    have hlen : ((bs.mergeSort fun a b => leD a.2 b.2).map (·.1)).length ≤ sizeLine := by
      rw [List.length_map, List.length_mergeSort, lb, sizeLine_eq]
      omega
    refine wpAny_pure ⟨_, rfl, .ref h'.objs.size, upd H h'.objs.size (.lst ((bs.mergeSort fun a b => leD a.2 b.2).map (·.1))), I1.laid (t' := tk) (fun b u e => ?_) (Nat.le_refl _) (show ObjOk X.prog X.w _ _ _ (.lst _) from ⟨hlen, out, c, k1, hcc⟩), rfl, q _ (I1.hok.fresh (Nat.le_refl _))⟩
    have hb : b < h'.objs.size := Heap.lt_size e
    rw [sortedHeap_old (Nat.ne_of_lt hb) (by rw [size_push']; exact Nat.lt_succ_of_lt hb)]
    exact Heap.get?_push_of_some _ e
end
end Big
namespace Dv
open PySem L2
section
variable {K : PySem.W.Frag} {B : Hp} {O : List Addr} {I : List (Nat × Addr)} {σ : L2.St} {H H' G : Hp} {env env' : Env} {v : V} {W : WN}
/-- sorted(d) -/
def fNSort (i : Nat) : EF := fun env => (dctAtN env i).bind fun kvs => if kvs.length ≤ 1000000 ∧ canSort (keysNN kvs) = true then some (.new ((keysNN kvs).mergeSort leD), env) else none
theorem DqN.pairs : ∀ {ks : List (NestedKey × Addr × V)} {kvs : List (NestedKey × D)}, DqN K G ks kvs → (ks.map fun x => (V.ref x.2.1, nkD x.1)).map (·.2) = keysNN kvs ∧ ∀ b, b ∈ (ks.map fun x => (V.ref x.2.1, nkD x.1)) → Dq K G b.1 b.2
  | [], [], _ => ⟨rfl, fun b hb => nomatch hb⟩
  | [], _ :: _, h => h.elim
  | _ :: _, [], h => h.elim
  | p :: ks, q :: kvs, h => by
    obtain ⟨⟨h1, h2, h3⟩, _, h5⟩ := h
    obtain ⟨i1, i2⟩ := DqN.pairs h5
    refine ⟨?_, fun b hb => ?_⟩
    · rw [List.map_cons, List.map_cons, i1, h1]
      rfl
    · rw [List.map_cons] at hb
      rcases List.mem_cons.mp hb with z | z
      · rw [z]
        show Dq K G (.ref p.2.1) (nkD p.1)
        rw [h1]
        exact h3
      · exact i2 b z
theorem snd_nsort {i : Nat} : Snd K (tCB (Big.rSortDN K) (tCons (tVar i) tNil)) (fNSort i) := by
  intro B O I σ H env rv env' S e Q q
  obtain ⟨kvs, e0, e⟩ := bnd e
  split at e
  · rename_i hl
    obtain ⟨hl, hcs⟩ := hl
    cases e
    obtain ⟨p, ks, s1, pO, pB, hp, hd⟩ := S.dctN (dctAt_ofN e0)
    obtain ⟨g1, g2⟩ := hd.pairs
    generalize hbs : (ks.map fun x => (V.ref x.2.1, nkD x.1)) = bs at g1 g2
    rw [← g1] at hcs
    unfold canSort at hcs
    simp only [Bool.and_eq_true, List.all_eq_true, Bool.or_eq_true, decide_eq_true_eq] at hcs
    obtain ⟨⟨⟨c1, c2⟩, c3⟩, c4⟩ := hcs
    have ms : (bs.mergeSort fun a b => leD a.2 b.2).map (·.2) = (bs.map (·.2)).mergeSort leD := List.map_mergeSort fun a _ b _ => rfl
    refine ⟨_, s1, p, ks, bs, rfl, .inl hp, by rw [hd.len]; exact hl, hbs.symm, hd.ksok mi_same, fun d hdm d' hd' => ?_, ?_, fun b hb => c3 _ (List.mem_map.mpr ⟨b, hb, rfl⟩), fun p hp => q _ _ ?_⟩
    · obtain ⟨b, hb, rfl⟩ := List.mem_map.mp hdm
      obtain ⟨b', hb', rfl⟩ := List.mem_map.mp hd'
      exact c1 _ (List.mem_map.mpr ⟨b, hb, rfl⟩) _ (List.mem_map.mpr ⟨b', hb', rfl⟩)
    · rcases c2 with c2 | c2
      · refine .inl fun d hdm => ?_
        obtain ⟨b, hb, rfl⟩ := List.mem_map.mp hdm
        have := c2 _ (List.mem_map.mpr ⟨b, hb, rfl⟩)
        cases hx : toPy b.2 with
        | tuple xs =>
          cases xs with
          | nil => rw [hx] at this; cases this
          | cons x r => exact ⟨x, r, rfl⟩
        | _ => rw [hx] at this; cases this
      · refine .inr fun d hdm => ?_
        obtain ⟨b, hb, rfl⟩ := List.mem_map.mp hdm
        have := c2 _ (List.mem_map.mpr ⟨b, hb, rfl⟩)
        cases hx : toPy b.2 with
        | tuple xs => rw [hx] at this; cases this
        | none => rw [hx] at this; cases this
        | _ => exact ⟨fun z => PyData.noConfusion z, fun xs z => PyData.noConfusion z⟩
    · rw [← g1, ← ms]
      exact post_new S hp (dqa_pairs fun b hb => g2 b (List.mem_mergeSort.mp hb))
  · cases e
end
section
variable {P : RV × Env → Prop} {env : Env} {i : Nat} {kvs : List (NestedKey × D)}
def QNS (e : Env) (P : RV × Env → Prop) : Option (List (NestedKey × D)) → Prop
  | some kvs => kvs.length ≤ 1000000 ∧ canSort (keysNN kvs) = true ∧ P (.new ((keysNN kvs).mergeSort leD), e)
  | _ => False
theorem q_ns : QNS env P (some kvs) ↔ kvs.length ≤ 1000000 ∧ canSort (keysNN kvs) = true ∧ P (.new ((keysNN kvs).mergeSort leD), env) := Iff.rfl
theorem w_nsort : Ok (fNSort i env) P ↔ QNS env P (dctAtN env i) := by
  unfold fNSort
  cases dctAtN env i with
  | none => exact ⟨fun h => (ok_none.mp h).elim, fun h => h.elim⟩
  | some kvs =>
    rw [Option.bind_some, ok_guard, ok_some]
    exact and_assoc
def KLcN (i : Nat) (kvs : List (NestedKey × D)) (P : RV × Env → Prop) : RV × Env → Prop := fun a => ∃ ds, a.1 = .new ds ∧ a.2[i]? = some .no ∧ P (.new ds, a.2.set i (.nw (.dcN kvs)))
theorem w_lcN_of {g : GF} {tt : TF} {fk : List (NestedKey × D) → EF} {vs : List Nat} (hi : env[i]? = some (.nw (.dcN kvs))) (h : Ok (fLc (fun e => some (keysNN kvs, e)) g tt (fk kvs) vs (env.set i .no)) (KLcN i kvs P)) : Ok (fLcN i g tt fk vs env) P := by
  obtain ⟨⟨r, e2⟩, e, ds, h1, h2, h3⟩ := h
  dsimp only at h1 h2 h3
  subst h1
  unfold fLcN
  rw [hi]
  dsimp only
  rw [e]
  refine ⟨_, ?_, h3⟩
  rw [Option.bind_some]
  dsimp only
  rw [h2]
end
end Dv
namespace Dv
structure PS where
  co : Nat → Rat
namespace PS
theorem ext {f g : PS} (h : ∀ k, f.co k = g.co k) : f = g := by
  cases f
  cases g
  congr
  funext k
  exact h k
def tl (f : PS) : PS := ⟨fun k => f.co (k + 1)⟩
def C (r : Rat) : PS := ⟨fun k => if k = 0 then r else 0⟩
def mulC : Nat → PS → PS → Rat
  | 0, f, g => f.co 0 * g.co 0
  | k + 1, f, g => f.co 0 * g.co (k + 1) + mulC k f.tl g
instance : Add PS := ⟨fun f g => ⟨fun k => f.co k + g.co k⟩⟩
instance : Neg PS := ⟨fun f => ⟨fun k => -f.co k⟩⟩
instance : _root_.Sub PS := ⟨fun f g => ⟨fun k => f.co k - g.co k⟩⟩
instance : Mul PS := ⟨fun f g => ⟨fun k => mulC k f g⟩⟩
instance : NatCast PS := ⟨fun n => C n⟩
instance : IntCast PS := ⟨fun n => C n⟩
instance (n : Nat) : OfNat PS n := ⟨C n⟩
instance : SMul Nat PS := ⟨fun n f => C n * f⟩
instance : SMul Int PS := ⟨fun n f => C n * f⟩
def npow (f : PS) : Nat → PS
  | 0 => C 1
  | n + 1 => npow f n * f
instance : HPow PS Nat PS := ⟨npow⟩
theorem add_co (f g : PS) (k : Nat) : (f + g).co k = f.co k + g.co k := rfl
theorem neg_co (f : PS) (k : Nat) : (-f).co k = -f.co k := rfl
theorem sub_co (f g : PS) (k : Nat) : (f - g).co k = f.co k - g.co k := rfl
theorem mul_co (f g : PS) (k : Nat) : (f * g).co k = mulC k f g := rfl
theorem mulC_0 (f g : PS) : mulC 0 f g = f.co 0 * g.co 0 := rfl
theorem mulC_s (f g : PS) (k : Nat) : mulC (k + 1) f g = f.co 0 * g.co (k + 1) + mulC k f.tl g := rfl
theorem zero_co (k : Nat) : (0 : PS).co k = 0 := by
  show (if k = 0 then ((0 : Nat) : Rat) else 0) = 0
  split <;> rfl
theorem C_co0 (r : Rat) : (C r).co 0 = r := rfl
theorem C_coS (r : Rat) (k : Nat) : (C r).co (k + 1) = 0 := rfl
theorem one_eq : (1 : PS) = C 1 := rfl
theorem mulC_z (g : PS) (f : PS) (h : ∀ k, f.co k = 0) : ∀ k, mulC k f g = 0 := by
  intro k
  induction k generalizing f with
  | zero => rw [mulC_0, h]; grind
  | succ k ih => rw [mulC_s, h, ih f.tl (fun k => h (k + 1))]; grind
theorem mulC_C (r : Rat) (g : PS) (k : Nat) : mulC k (C r) g = r * g.co k := by
  cases k with
  | zero => rfl
  | succ k =>
    rw [mulC_s, mulC_z g _ (fun k => rfl)]
    show r * _ + 0 = _
    grind
theorem mulC_addR (k : Nat) (f g h : PS) : mulC k f (g + h) = mulC k f g + mulC k f h := by
  induction k generalizing f with
  | zero => rw [mulC_0, mulC_0, mulC_0, add_co]; grind
  | succ k ih => rw [mulC_s, mulC_s, mulC_s, ih, add_co]; grind
theorem tl_add (f g : PS) : (f + g).tl = f.tl + g.tl := rfl
theorem mulC_addL (k : Nat) (f g h : PS) : mulC k (f + g) h = mulC k f h + mulC k g h := by
  induction k generalizing f g with
  | zero => rw [mulC_0, mulC_0, mulC_0, add_co]; grind
  | succ k ih => rw [mulC_s, mulC_s, mulC_s, tl_add, ih, add_co]; grind
theorem mulC_r (k : Nat) (f g : PS) : mulC (k + 1) f g = f.co (k + 1) * g.co 0 + mulC k f g.tl := by
  induction k generalizing f with
  | zero =>
    rw [mulC_s, mulC_0, mulC_0]
    show f.co 0 * g.co 1 + f.co 1 * g.co 0 = f.co 1 * g.co 0 + f.co 0 * g.co 1
    grind
  | succ k ih =>
    rw [mulC_s, ih, mulC_s]
    show f.co 0 * g.co (k + 2) + (f.co (k + 2) * g.co 0 + _) = f.co (k + 2) * g.co 0 + (f.co 0 * g.co (k + 2) + _)
    grind
theorem mulC_comm (k : Nat) (f g : PS) : mulC k f g = mulC k g f := by
  induction k generalizing f g with
  | zero => rw [mulC_0, mulC_0]; grind
  | succ k ih => rw [mulC_s, mulC_r, ih]; grind
theorem tl_mul (f g : PS) : (f * g).tl = C (f.co 0) * g.tl + f.tl * g := by
  apply ext
  intro k
  show mulC (k + 1) f g = mulC k (C (f.co 0)) g.tl + mulC k f.tl g
  rw [mulC_s, mulC_C]
  rfl
theorem mulC_assoc (k : Nat) (f g h : PS) : mulC k (f * g) h = mulC k f (g * h) := by
  induction k generalizing f g h with
  | zero => rw [mulC_0, mulC_0, mul_co, mul_co, mulC_0, mulC_0]; grind
  | succ k ih =>
    rw [mulC_s, mulC_s, tl_mul, mulC_addL, ih, ih, mulC_C, mul_co, mul_co, mulC_0]
    show f.co 0 * g.co 0 * h.co (k + 1) + (f.co 0 * mulC k g.tl h + mulC k f.tl (g * h)) = f.co 0 * mulC (k + 1) g h + mulC k f.tl (g * h)
    rw [mulC_s]
    grind
theorem C_add (a b : Rat) : C (a + b) = C a + C b := by
  apply ext
  intro k
  rw [add_co]
  cases k with
  | zero => rfl
  | succ k => rw [C_coS, C_coS, C_coS]; grind
theorem C_neg (a : Rat) : C (-a) = -C a := by
  apply ext
  intro k
  rw [neg_co]
  cases k with
  | zero => rfl
  | succ k => rw [C_coS, C_coS]; grind
theorem mul_comm' (f g : PS) : f * g = g * f := ext fun k => mulC_comm k f g
theorem mul_assoc' (f g h : PS) : f * g * h = f * (g * h) := ext fun k => mulC_assoc k f g h
theorem C_co_mul (r : Rat) (f : PS) (k : Nat) : (C r * f).co k = r * f.co k := mulC_C r f k
theorem one_mul' (f : PS) : 1 * f = f := ext fun k => by rw [one_eq, C_co_mul]; grind
theorem zero_mul' (f : PS) : 0 * f = 0 := ext fun k => by rw [mul_co, mulC_z f 0 (fun k => zero_co k), zero_co]
theorem ldis (f g h : PS) : f * (g + h) = f * g + f * h := ext fun k => mulC_addR k f g h
instance : Lean.Grind.CommRing PS where
  add_zero f := ext fun k => by rw [add_co, zero_co]; grind
  add_comm f g := ext fun k => by rw [add_co, add_co]; grind
  add_assoc f g h := ext fun k => by rw [add_co, add_co, add_co, add_co]; grind
  mul_assoc := mul_assoc'
  mul_one f := by rw [mul_comm', one_mul']
  one_mul := one_mul'
  left_distrib := ldis
  right_distrib f g h := by rw [mul_comm', ldis, mul_comm' h, mul_comm' h]
  zero_mul := zero_mul'
  mul_zero f := by rw [mul_comm', zero_mul']
  pow_zero f := rfl
  pow_succ f n := rfl
  ofNat_succ a := by
    show C ((a + 1 : Nat) : Rat) = C (a : Nat) + C 1
    rw [← C_add]
    rw [Rat.natCast_add]; rfl
  ofNat_eq_natCast n := rfl
  nsmul_eq_natCast_mul n f := rfl
  neg_add_cancel f := ext fun k => by rw [add_co, neg_co, zero_co]; grind
  sub_eq_add_neg f g := ext fun k => by rw [sub_co, add_co, neg_co]; grind
  neg_zsmul i f := by
    show C ((-i : Int) : Rat) * f = -(C (i : Rat) * f)
    apply ext
    intro k
    rw [neg_co, C_co_mul, C_co_mul, Rat.intCast_neg]
    grind
  zsmul_natCast_eq_nsmul n f := rfl
  intCast_ofNat n := rfl
  intCast_neg i := by
    show C ((-i : Int) : Rat) = -C (i : Rat)
    rw [Rat.intCast_neg, C_neg]
  mul_comm := mul_comm'
def X : PS := ⟨fun k => if k = 1 then 1 else 0⟩
theorem X_tl : X.tl = 1 := ext fun k => by
  show (if k + 1 = 1 then (1 : Rat) else 0) = (if k = 0 then ((1 : Nat) : Rat) else 0)
  by_cases h : k = 0
  · rw [if_pos h, if_pos (by omega)]; rfl
  · rw [if_neg h, if_neg (by omega)]
theorem X_co0 (f : PS) : (X * f).co 0 = 0 := by
  rw [mul_co, mulC_0]
  show (0 : Rat) * _ = 0
  grind
theorem X_coS (f : PS) (k : Nat) : (X * f).co (k + 1) = f.co k := by
  rw [mul_co, mulC_s, X_tl, ← mul_co, one_mul']
  show (0 : Rat) * _ + _ = _
  grind
theorem split0 (f : PS) : f = C (f.co 0) + X * f.tl := ext fun k => by
  rw [add_co]
  cases k with
  | zero => rw [X_co0, C_co0]; grind
  | succ k =>
    rw [X_coS, C_coS]
    show f.co (k + 1) = 0 + f.co (k + 1)
    grind
/-- the slope -/
def dd (f : PS) : PS := ⟨fun k => ((k + 1 : Nat) : Rat) * f.co (k + 1)⟩
end PS
open PS
def ps (xs : List Rat) : PS := ⟨fun k => xs.getD k 0⟩
theorem psl_co (xs : List Rat) (k : Nat) : (ps xs).co k = xs.getD k 0 := rfl
theorem psl_nil : ps [] = 0 := PS.ext fun k => by rw [zero_co, psl_co]; rfl
theorem psl_cons (x : Rat) (xs : List Rat) : ps (x :: xs) = C x + X * ps xs := by
  rw [PS.split0 (ps (x :: xs))]
  rfl
theorem psl_hi (xs : List Rat) (k : Nat) (h : xs.length ≤ k) : (ps xs).co k = 0 := by
  rw [psl_co, List.getD_eq_getElem?_getD, List.getElem?_eq_none h]
  rfl
def cutQ (xs : List Rat) : List Rat := (xs.reverse.dropWhile fun p => p = 0).reverse
theorem cutQ_mem {xs : List Rat} {p : Rat} (h : p ∈ cutQ xs) : p ∈ xs := by
  unfold cutQ at h
  have := (List.dropWhile_suffix _).subset (List.mem_reverse.mp h)
  exact List.mem_reverse.mp this
def Sz (M B : Nat) (q : Rat) : Prop := ∃ N : Int, q * (M : Nat) = N ∧ N.natAbs ≤ B
theorem Sz.mono {M B B' : Nat} {q : Rat} (h : Sz M B q) (k : B ≤ B') : Sz M B' q := by
  obtain ⟨N, h1, h2⟩ := h
  exact ⟨N, h1, Nat.le_trans h2 k⟩
theorem Sz.zero {M B : Nat} : Sz M B 0 := ⟨0, by grind, Nat.zero_le _⟩
theorem Sz.add {M B B' : Nat} {p q : Rat} (h : Sz M B p) (k : Sz M B' q) : Sz M (B + B') (p + q) := by
  obtain ⟨N, h1, h2⟩ := h
  obtain ⟨N', k1, k2⟩ := k
  refine ⟨N + N', ?_, by omega⟩
  rw [Rat.intCast_add]
  grind
theorem Sz.mul {M B M' B' : Nat} {p q : Rat} (h : Sz M B p) (k : Sz M' B' q) : Sz (M * M') (B * B') (p * q) := by
  obtain ⟨N, h1, h2⟩ := h
  obtain ⟨N', k1, k2⟩ := k
  refine ⟨N * N', ?_, ?_⟩
  · rw [Rat.intCast_mul, Rat.natCast_mul]
    grind
  · rw [Int.natAbs_mul]
    exact Nat.mul_le_mul h2 k2
theorem Sz.neg {M B : Nat} {p : Rat} (h : Sz M B p) : Sz M B (-p) := by
  obtain ⟨N, h1, h2⟩ := h
  refine ⟨-N, ?_, by omega⟩
  rw [Rat.intCast_neg]
  grind
theorem Sz.ext {M B : Nat} {p : Rat} (h : Sz M B p) (k : Nat) : Sz (M * k) (B * k) p := by
  obtain ⟨N, h1, h2⟩ := h
  refine ⟨N * k, ?_, ?_⟩
  · rw [Rat.intCast_mul, Rat.natCast_mul, Rat.intCast_natCast]
    grind
  · rw [Int.natAbs_mul]
    exact Nat.mul_le_mul h2 (Nat.le_of_eq (Int.natAbs_natCast k))
theorem num_den (q : Rat) : q * (q.den : Nat) = q.num := by
  have h := Rat.mkRat_self q
  rw [Rat.mkRat_eq_div] at h
  have hd : ((q.den : Nat) : Rat) ≠ 0 := by
    intro z
    exact q.den_nz (Rat.natCast_inj.mp z)
  conv => lhs; lhs; rw [← h]
  grind
theorem den_ne (q : Rat) : ((q.den : Nat) : Rat) ≠ 0 := fun z => q.den_nz (Rat.natCast_inj.mp z)
theorem Sz.self (q : Rat) : Sz q.den q.num.natAbs q := ⟨q.num, num_den q, Nat.le_refl _⟩
theorem Sz.le {M B : Nat} {q : Rat} (hM : 0 < M) (h : Sz M B q) : q.den ≤ M ∧ q.num.natAbs ≤ B := by
  obtain ⟨N, h1, h2⟩ := h
  have e : q.num * (M : Int) = N * (q.den : Int) := by
    have := num_den q
    apply Rat.intCast_inj.mp
    rw [Rat.intCast_mul, Rat.intCast_mul, Rat.intCast_natCast, Rat.intCast_natCast]
    grind
  have e2 : q.num.natAbs * M = N.natAbs * q.den := by
    have := congrArg Int.natAbs e
    rw [Int.natAbs_mul, Int.natAbs_mul, Int.natAbs_natCast, Int.natAbs_natCast] at this
    exact this
  have d : q.den ∣ M := (Nat.Coprime.symm q.reduced).dvd_of_dvd_mul_left ⟨N.natAbs, by rw [e2, Nat.mul_comm]⟩
  refine ⟨Nat.le_of_dvd hM d, ?_⟩
  obtain ⟨c, rfl⟩ := d
  have hd := Nat.pos_of_ne_zero q.den_nz
  have e3 : q.num.natAbs * c = N.natAbs := by
    apply Nat.eq_of_mul_eq_mul_right hd
    rw [← e2, Nat.mul_assoc, Nat.mul_comm c]
  have hc : 0 < c := Nat.pos_of_ne_zero fun z => by subst z; simp at hM
  calc q.num.natAbs ≤ q.num.natAbs * c := Nat.le_mul_of_pos_right _ hc
    _ ≤ B := by rw [e3]; exact h2
/-- a list with a common bottom -/
def SzL (M B : Nat) (xs : List Rat) : Prop := ∀ q, q ∈ xs → Sz M B q
theorem SzL.getD {M B : Nat} {xs : List Rat} (h : SzL M B xs) (k : Nat) : Sz M B (xs.getD k 0) := by
  rw [List.getD_eq_getElem?_getD]
  cases e : xs[k]? with
  | none => exact Sz.zero
  | some p => exact h p (List.mem_of_getElem? e)
theorem SzL.cut {M B : Nat} {xs : List Rat} (h : SzL M B xs) : SzL M B (cutQ xs) := fun p hp => h p (cutQ_mem hp)
theorem SzL.mono {M B B' : Nat} {xs : List Rat} (h : SzL M B xs) (k : B ≤ B') : SzL M B' xs := fun p hp => (h p hp).mono k
theorem SzL.ext {M B : Nat} {xs : List Rat} (h : SzL M B xs) (k : Nat) : SzL (M * k) (B * k) xs := fun p hp => (h p hp).ext k
/-- the common bottom of a drawn list -/
theorem SzL.drawn (n : Nat) : ∀ xs : List Rat, (∀ q, q ∈ xs → q.num.natAbs < 2 ^ n ∧ q.den < 2 ^ n) → ∃ M, 0 < M ∧ M ≤ 2 ^ (n * xs.length) ∧ SzL M (2 ^ n * M) xs
  | [], _ => ⟨1, by decide, Nat.one_le_two_pow, fun q h => nomatch h⟩
  | x :: xs, h => by
    obtain ⟨M, h1, h2, h3⟩ := SzL.drawn n xs fun q hq => h q (List.mem_cons_of_mem _ hq)
    obtain ⟨hx1, hx2⟩ := h x List.mem_cons_self
    have hd := Nat.pos_of_ne_zero x.den_nz
    refine ⟨M * x.den, Nat.mul_pos h1 hd, ?_, fun q hq => ?_⟩
    · rw [List.length_cons, Nat.mul_succ, Nat.pow_add]
      exact Nat.mul_le_mul h2 (Nat.le_of_lt hx2)
    · rcases List.mem_cons.mp hq with rfl | hq
      · have := (Sz.self q).ext M
        rw [Nat.mul_comm M q.den]
        refine this.mono ?_
        calc q.num.natAbs * M ≤ 2 ^ n * M := Nat.mul_le_mul_right _ (Nat.le_of_lt hx1)
          _ ≤ 2 ^ n * (q.den * M) := Nat.mul_le_mul_left _ (Nat.le_mul_of_pos_left M hd)
      · have := (h3 q hq).ext x.den
        rw [Nat.mul_assoc] at this
        exact this
end Dv
namespace Lw
open PySem L2 Dv
def b_cross : SFn :=
  (fSeq (fAsg (f2 gMul (f2 gSub (f2 gIx (fVar 1) (fC (.int 0))) (f2 gIx (fVar 0) (fC (.int 0)))) (f2 gSub (f2 gIx (fVar 2) (fC (.int 1))) (f2 gIx (fVar 0) (fC (.int 1))))) (gfName 3))
  (fSeq (fAsg (f2 gMul (f2 gSub (f2 gIx (fVar 1) (fC (.int 1))) (f2 gIx (fVar 0) (fC (.int 1)))) (f2 gSub (f2 gIx (fVar 2) (fC (.int 0))) (f2 gIx (fVar 0) (fC (.int 0))))) (gfName 4))
  (fRet (f2 gSub (fVar 3) (fVar 4)))))
def ev_cross : FF := fDef 2 [false, false, false] b_cross
def b_half_round : SFn :=
  (fSeq (fOwn 1 (fLst fNil))
  (fSeq (fFor (fIterL (fVar 0)) (gfName 2)
  (fSeq (fWhile fuelE (fAnd (fT (f2 gGt (fB gLen (fCons (fVar 1) fNil)) (fC (.int 1)))) (fT (f2 gLe (fCall [false, false, false] ev_cross (fCons (f2 gIx (fVar 1) (f1 gNeg (fC (.int 2)))) (fCons (f2 gIx (fVar 1) (f1 gNeg (fC (.int 1)))) (fCons (fVar 2) fNil)))) (fC (.int 0)))))
  (fDrop (fPop 1)))
  (fDrop (fOM 1 hApp (fVar 2)))))
  (fRet (fVar 1))))
def ev_half_round : FF := fDef 2 [false] b_half_round
def b_hull : SFn :=
  (fSeq (fIf (fT (f2 gEq (fB gLen (fCons (fVar 0) fNil)) (fC (.int 0))))
  fNever
  fNext)
  (fSeq (fOwn 1 (fB gSortSet (fCons (fVar 0) fNil)))
  (fSeq (fIf (fT (f2 gEq (fB gLen (fCons (fVar 1) fNil)) (fC (.int 1))))
  (fRet (fVar 1))
  fNext)
  (fRet (f2 gAdd (fSl gSlL (fCall [false] ev_half_round (fCons (fVar 1) fNil)) fNoP (fPt (f1 gNeg (fC (.int 1))))) (fSl gSlL (fCall [false] ev_half_round (fCons (f1 gRevL (fVar 1)) fNil)) fNoP (fPt (f1 gNeg (fC (.int 1))))))))))
def ev_hull : FF := fDef 1 [false] b_hull
def b_doubled : SFn :=
  (fRet (fB gSum (fCons (fLc (fRange2 (fCons (fC (.int 1)) (fCons (f2 gSub (fB gLen (fCons (fVar 0) fNil)) (fC (.int 1))) fNil))) (gfName 1) fYes (fCall [false, false, false] ev_cross (fCons (f2 gIx (fVar 0) (fC (.int 0))) (fCons (f2 gIx (fVar 0) (fVar 1)) (fCons (f2 gIx (fVar 0) (f2 gAdd (fVar 1) (fC (.int 1)))) fNil)))) [1]) fNil)))
def ev_doubled : FF := fDef 1 [false] b_doubled
def b_put_together : SFn :=
  (fSeq (fOwn 2 (fLst fNil))
  (fSeq (fFor (fIterL (fVar 0)) (gfTup 2 (gfCons (gfName 3) (gfCons (gfName 4) gfNil)))
  (fDrop (fOM 2 hExt (fLc (fIterL (fVar 1)) (gfTup 2 (gfCons (gfName 5) (gfCons (gfName 6) gfNil))) fYes (fTup (fCons (f2 gAdd (fVar 3) (fVar 5)) (fCons (f2 gAdd (fVar 4) (fVar 6)) fNil))) [5, 6]))))
  (fRet (fCallM [false] ev_hull (fCons (fVar 2) fNil)))))
def ev_put_together : FF := fDef 5 [false, false] b_put_together
def b_mixed_area : SFn :=
  (fRet (f2 gDiv (f2 gSub (f2 gSub (fCall [false] ev_doubled (fCons (fCall [false, false] ev_put_together (fCons (fVar 0) (fCons (fVar 1) fNil))) fNil)) (fCall [false] ev_doubled (fCons (fVar 0) fNil))) (fCall [false] ev_doubled (fCons (fVar 1) fNil))) (fC (.int 2))))
def ev_mixed_area : FF := fDef 0 [false, false] b_mixed_area
def b_divisor : SFn :=
  (fSeq (fPar 0 1 (fCons (fB gAbs (fCons (fVar 0) fNil)) (fCons (fB gAbs (fCons (fVar 1) fNil)) fNil)))
  (fSeq (fWhile fuelE (fT (f2 gGt (fVar 1) (fC (.int 0))))
  (fPar 0 1 (fCons (fVar 1) (fCons (f2 gMod (fVar 0) (fVar 1)) fNil))))
  (fRet (fVar 0))))
def ev_divisor : FF := fDef 0 [false, false] b_divisor
def b_ratio : SFn :=
  (fSeq (fIf (fT (f2 gEq (fVar 1) (fC (.int 0))))
  fNever
  fNext)
  (fSeq (fAsg (fCall [false, false] ev_divisor (fCons (fVar 0) (fCons (fVar 1) fNil))) (gfName 2))
  (fCut (fSeq (fIf (fT (f2 gLt (fVar 1) (fC (.int 0))))
  (fAsg (f2 gSub (fC (.int 0)) (fVar 2)) (gfName 2))
  fNext)
  (fRet (fTup (fCons (f2 gDiv (fVar 0) (fVar 2)) (fCons (f2 gDiv (fVar 1) (fVar 2)) fNil))))))))
def ev_ratio : FF := fDef 1 [false, false] b_ratio
def b_added : SFn :=
  (fRet (fCall [false, false] ev_ratio (fCons (f2 gAdd (f2 gMul (f2 gIx (fVar 0) (fC (.int 0))) (f2 gIx (fVar 1) (fC (.int 1)))) (f2 gMul (f2 gIx (fVar 1) (fC (.int 0))) (f2 gIx (fVar 0) (fC (.int 1))))) (fCons (f2 gMul (f2 gIx (fVar 0) (fC (.int 1))) (f2 gIx (fVar 1) (fC (.int 1)))) fNil))))
def ev_added : FF := fDef 0 [false, false] b_added
def b_multiplied : SFn :=
  (fRet (fCall [false, false] ev_ratio (fCons (f2 gMul (f2 gIx (fVar 0) (fC (.int 0))) (f2 gIx (fVar 1) (fC (.int 0)))) (fCons (f2 gMul (f2 gIx (fVar 0) (fC (.int 1))) (f2 gIx (fVar 1) (fC (.int 1)))) fNil))))
def ev_multiplied : FF := fDef 0 [false, false] b_multiplied
def b_how_often : SFn :=
  (fSeq (fAsg (fC (.int 0)) (gfName 2))
  (fSeq (fWhile fuelE (fT (f2 gEq (f2 gMod (fVar 0) (fVar 1)) (fC (.int 0))))
  (fSeq (fAsg (f2 gDiv (fVar 0) (fVar 1)) (gfName 0))
  (fAsg (f2 gAdd (fVar 2) (fC (.int 1))) (gfName 2))))
  (fRet (fVar 2))))
def ev_how_often : FF := fDef 1 [false, false] b_how_often
def b_height : SFn :=
  (fSeq (fIf (fT (f2 gEq (fVar 0) (fC (.tup [(.int 0), (.int 1)]))))
  fNever
  fNext)
  (fRet (f2 gSub (fCall [false, false] ev_how_often (fCons (f2 gIx (fVar 0) (fC (.int 0))) (fCons (fVar 1) fNil))) (fCall [false, false] ev_how_often (fCons (f2 gIx (fVar 0) (fC (.int 1))) (fCons (fVar 1) fNil))))))
def ev_height : FF := fDef 0 [false, false] b_height
def b_heights_of : SFn :=
  (fSeq (fIf (fT (f2 gEq (fVar 0) (fLst fNil)))
  fNever
  fNext)
  (fRet (fLc (fIterL (fVar 0)) (gfTup 3 (gfCons (gfName 2) (gfCons (gfName 3) (gfCons (gfName 4) gfNil)))) fYes (fTup (fCons (fVar 2) (fCons (fVar 3) (fCons (fCall [false, false] ev_height (fCons (fVar 4) (fCons (fVar 1) fNil))) fNil)))) [2, 3, 4])))
def ev_heights_of : FF := fDef 3 [false, false] b_heights_of
def b_worth_there : SFn :=
  (fSeq (fAsg (fVar 0) (gfTup 3 (gfCons (gfName 3) (gfCons (gfName 4) (gfCons (gfName 5) gfNil)))))
  (fRet (fCall [false, false] ev_added (fCons (fTup (fCons (fVar 5) (fCons (fC (.int 1)) fNil))) (fCons (fCall [false, false] ev_added (fCons (fCall [false, false] ev_multiplied (fCons (fTup (fCons (fVar 3) (fCons (fC (.int 1)) fNil))) (fCons (fVar 1) fNil))) (fCons (fCall [false, false] ev_multiplied (fCons (fTup (fCons (fVar 4) (fCons (fC (.int 1)) fNil))) (fCons (fVar 2) fNil))) fNil))) fNil)))))
def ev_worth_there : FF := fDef 3 [false, false, false] b_worth_there
def b_is_below : SFn :=
  (fRet (f2 gLt (f2 gMul (f2 gIx (fVar 0) (fC (.int 0))) (f2 gIx (fVar 1) (fC (.int 1)))) (f2 gMul (f2 gIx (fVar 1) (fC (.int 0))) (f2 gIx (fVar 0) (fC (.int 1))))))
def ev_is_below : FF := fDef 0 [false, false] b_is_below
def b_least_terms : SFn :=
  (fSeq (fAsg (fLc (fIterL (fVar 0)) (gfName 6) fYes (fCall [false, false, false] ev_worth_there (fCons (fVar 6) (fCons (fVar 1) (fCons (fVar 2) fNil)))) [6]) (gfName 3))
  (fSeq (fAsg (f2 gIx (fVar 3) (fC (.int 0))) (gfName 4))
  (fSeq (fFor (fIterL (fVar 3)) (gfName 5)
  (fIf (fT (fCall [false, false] ev_is_below (fCons (fVar 5) (fCons (fVar 4) fNil))))
  (fAsg (fVar 5) (gfName 4))
  fNext))
  (fRet (fLc (fZip (fCons (fVar 0) (fCons (fVar 3) fNil))) (gfTup 2 (gfCons (gfName 6) (gfCons (gfName 5) gfNil))) (fT (f2 gEq (fVar 5) (fVar 4))) (fSl gSlT (fVar 6) fNoP (fPt (fC (.int 2)))) [6, 5])))))
def ev_least_terms : FF := fDef 4 [false, false, false] b_least_terms
def b_place_of : SFn :=
  (fSeq (fAsg (fVar 0) (gfTup 2 (gfCons (gfTup 3 (gfCons (gfName 2) (gfCons (gfName 3) (gfCons (gfName 4) gfNil)))) (gfCons (gfTup 3 (gfCons (gfName 5) (gfCons (gfName 6) (gfCons (gfName 7) gfNil)))) gfNil))))
  (fSeq (fPar3 8 9 10 (fCons (f2 gSub (fVar 2) (fVar 5)) (fCons (f2 gSub (fVar 3) (fVar 6)) (fCons (f2 gSub (fVar 7) (fVar 4)) fNil))))
  (fSeq (fAsg (fVar 1) (gfTup 2 (gfCons (gfTup 3 (gfCons (gfName 2) (gfCons (gfName 3) (gfCons (gfName 4) gfNil)))) (gfCons (gfTup 3 (gfCons (gfName 5) (gfCons (gfName 6) (gfCons (gfName 7) gfNil)))) gfNil))))
  (fSeq (fPar3 11 12 13 (fCons (f2 gSub (fVar 2) (fVar 5)) (fCons (f2 gSub (fVar 3) (fVar 6)) (fCons (f2 gSub (fVar 7) (fVar 4)) fNil))))
  (fSeq (fAsg (f2 gSub (f2 gMul (fVar 8) (fVar 12)) (f2 gMul (fVar 9) (fVar 11))) (gfName 14))
  (fSeq (fIf (fT (f2 gEq (fVar 14) (fC (.int 0))))
  (fRet (fC .non))
  fNext)
  (fRet (fTup (fCons (fCall [false, false] ev_ratio (fCons (f2 gSub (f2 gMul (fVar 10) (fVar 12)) (f2 gMul (fVar 9) (fVar 13))) (fCons (fVar 14) fNil))) (fCons (fCall [false, false] ev_ratio (fCons (f2 gSub (f2 gMul (fVar 8) (fVar 13)) (f2 gMul (fVar 10) (fVar 11))) (fCons (fVar 14) fNil))) fNil))))))))))
def ev_place_of : FF := fDef 13 [false, false] b_place_of
def b_pairs_of : SFn :=
  (fSeq (fOwn 1 (fLst fNil))
  (fSeq (fFor (fEnum (fCons (fVar 0) fNil)) (gfTup 2 (gfCons (gfName 2) (gfCons (gfName 3) gfNil)))
  (fDrop (fOM 1 hExt (fLc (fIterL (fSl gSlL (fVar 0) fNoP (fPt (fVar 2)))) (gfName 4) fYes (fTup (fCons (fVar 4) (fCons (fVar 3) fNil))) [4]))))
  (fRet (fVar 1))))
def ev_pairs_of : FF := fDef 4 [false] b_pairs_of
def b_foot_of : SFn :=
  (fSeq (fAsg (fVar 0) (gfTup 2 (gfCons (gfTup 3 (gfCons (gfName 1) (gfCons (gfName 2) (gfCons (gfName 3) gfNil)))) (gfCons (gfTup 3 (gfCons (gfName 4) (gfCons (gfName 5) (gfCons (gfName 6) gfNil)))) gfNil))))
  (fSeq (fAsg (f2 gAdd (f2 gMul (f2 gSub (fVar 1) (fVar 4)) (f2 gSub (fVar 1) (fVar 4))) (f2 gMul (f2 gSub (fVar 2) (fVar 5)) (f2 gSub (fVar 2) (fVar 5)))) (gfName 7))
  (fRet (fTup (fCons (fCall [false, false] ev_ratio (fCons (f2 gMul (f2 gSub (fVar 1) (fVar 4)) (f2 gSub (fVar 6) (fVar 3))) (fCons (fVar 7) fNil))) (fCons (fCall [false, false] ev_ratio (fCons (f2 gMul (f2 gSub (fVar 2) (fVar 5)) (f2 gSub (fVar 6) (fVar 3))) (fCons (fVar 7) fNil))) fNil))))))
def ev_foot_of : FF := fDef 7 [false] b_foot_of
def b_places_of : SFn :=
  (fSeq (fDNewN 2)
  (fSeq (fFor (fIterL (fCall [false] ev_pairs_of (fCons (fVar 0) fNil))) (gfName 3)
  (fSeq (fDPutN 2 (fCall [false] ev_foot_of (fCons (fVar 3) fNil)) (fC (.bl true)))
  (fFor (fIterL (fCall [false] ev_pairs_of (fCons (fVar 1) fNil))) (gfName 4)
  (fSeq (fAsg (fCall [false, false] ev_place_of (fCons (fVar 3) (fCons (fVar 4) fNil))) (gfName 5))
  (fIf (fT (f2 gIsnt (fVar 5) (fC .non)))
  (fDPutN 2 (fVar 5) (fC (.bl true)))
  fNext)))))
  (fRet (fNSort 2))))
def ev_places_of : FF := fDef 4 [false, false] b_places_of
def b_crossing_at : SFn :=
  (fSeq (fAsg (fCall [false] ev_hull (fCons (fCall [false, false, false] ev_least_terms (fCons (fVar 0) (fCons (f2 gIx (fVar 2) (fC (.int 0))) (fCons (f2 gIx (fVar 2) (fC (.int 1))) fNil)))) fNil)) (gfName 3))
  (fSeq (fAsg (fCall [false] ev_hull (fCons (fCall [false, false, false] ev_least_terms (fCons (fVar 1) (fCons (f2 gIx (fVar 2) (fC (.int 0))) (fCons (f2 gIx (fVar 2) (fC (.int 1))) fNil)))) fNil)) (gfName 4))
  (fSeq (fIf (fOr (fT (f2 gEq (fB gLen (fCons (fVar 3) fNil)) (fC (.int 1)))) (fT (f2 gEq (fB gLen (fCons (fVar 4) fNil)) (fC (.int 1)))))
  (fRet (fC .non))
  fNext)
  (fSeq (fIf (fOr (fT (f2 gGt (fB gLen (fCons (fVar 3) fNil)) (fC (.int 2)))) (fOr (fT (f2 gGt (fB gLen (fCons (fVar 4) fNil)) (fC (.int 2)))) (fT (f2 gEq (fCall [false, false] ev_mixed_area (fCons (fVar 3) (fCons (fVar 4) fNil))) (fC (.int 0))))))
  fNever
  fNext)
  (fRet (fTup (fCons (fVar 3) (fCons (fVar 4) fNil))))))))
def ev_crossing_at : FF := fDef 2 [false, false, false] b_crossing_at
def b_all_crossings : SFn :=
  (fSeq (fAsg (fCall [false, false] ev_heights_of (fCons (fVar 0) (fCons (fVar 2) fNil))) (gfName 3))
  (fSeq (fAsg (fCall [false, false] ev_heights_of (fCons (fVar 1) (fCons (fVar 2) fNil))) (gfName 4))
  (fSeq (fOwn 5 (fLst fNil))
  (fSeq (fFor (fIterL (fCall [false, false] ev_places_of (fCons (fVar 3) (fCons (fVar 4) fNil)))) (gfName 6)
  (fSeq (fAsg (fCall [false, false, false] ev_crossing_at (fCons (fVar 3) (fCons (fVar 4) (fCons (fVar 6) fNil)))) (gfName 7))
  (fIf (fT (f2 gIsnt (fVar 7) (fC .non)))
  (fDrop (fOM 5 hApp (fTup (fCons (fVar 6) (fCons (f2 gIx (fVar 7) (fC (.int 0))) (fCons (f2 gIx (fVar 7) (fC (.int 1))) fNil))))))
  fNext)))
  (fRet (fVar 5))))))
def ev_all_crossings : FF := fDef 5 [false, false, false] b_all_crossings
def b_meets : SFn :=
  (fSeq (fOwn 3 (fLst fNil))
  (fSeq (fFor (fIterL (fCall [false, false, false] ev_all_crossings (fCons (fVar 0) (fCons (fVar 1) (fCons (fVar 2) fNil))))) (gfTup 3 (gfCons (gfTup 2 (gfCons (gfName 4) (gfCons (gfName 5) gfNil))) (gfCons (gfName 6) (gfCons (gfName 7) gfNil))))
  (fDrop (fOM 3 hApp (fTup (fCons (fVar 4) (fCons (fVar 5) (fCons (fCall [false, false] ev_mixed_area (fCons (fVar 6) (fCons (fVar 7) fNil))) fNil)))))))
  (fRet (fB gSortD (fCons (fVar 3) fNil)))))
def ev_meets : FF := fDef 5 [false, false, false] b_meets
def b_gathered : SFn :=
  (fSeq (fDNew 1)
  (fSeq (fFor (fIterL (fVar 0)) (gfTup 3 (gfCons (gfName 2) (gfCons (gfName 3) (gfCons (gfName 4) gfNil))))
  (fDPut 1 (fTupN (fCons (fVar 2) (fCons (fVar 3) fNil))) (fCall [false, false] ev_added (fCons (fDGet2 1 (fTupN (fCons (fVar 2) (fCons (fVar 3) fNil))) (fC (.tup [(.int 0), (.int 1)]))) (fCons (fVar 4) fNil)))))
  (fRet (fLc (fIterL (fDSort 1)) (gfTup 2 (gfCons (gfName 2) (gfCons (gfName 3) gfNil))) (fT (f2 gNe (fDIx 1 (fTupN (fCons (fVar 2) (fCons (fVar 3) fNil)))) (fC (.tup [(.int 0), (.int 1)])))) (fTup (fCons (fVar 2) (fCons (fVar 3) (fCons (fDIx 1 (fTupN (fCons (fVar 2) (fCons (fVar 3) fNil)))) fNil)))) [2, 3]))))
def ev_gathered : FF := fDef 4 [false] b_gathered
def b_times : SFn :=
  (fSeq (fOwn 2 (fLst fNil))
  (fSeq (fFor (fIterL (fVar 0)) (gfTup 3 (gfCons (gfName 3) (gfCons (gfName 4) (gfCons (gfName 5) gfNil))))
  (fDrop (fOM 2 hExt (fLc (fIterL (fVar 1)) (gfTup 3 (gfCons (gfName 6) (gfCons (gfName 7) (gfCons (gfName 8) gfNil)))) fYes (fTup (fCons (f2 gAdd (fVar 3) (fVar 6)) (fCons (f2 gAdd (fVar 4) (fVar 7)) (fCons (fCall [false, false] ev_multiplied (fCons (fVar 5) (fCons (fVar 8) fNil))) fNil)))) [6, 7, 8]))))
  (fRet (fCallM [false] ev_gathered (fCons (fVar 2) fNil)))))
def ev_times : FF := fDef 7 [false, false] b_times
def b__law_pool : SFn :=
  (fSeq (fAsg (f2 gAdd (f2 gMul (fC (.int 3)) (fVar 1)) (fC (.int 1))) (gfName 2))
  (fCut (fSeq (fIf (fT (f2 gLt (fVar 1) (fB gLen (fCons (fVar 0) fNil))))
  (fAsg (f2 gIx (fVar 0) (fVar 1)) (gfName 2))
  fNext)
  (fSeq (fAsg (fB gAbs (fCons (fVar 2) fNil)) (gfName 3))
  (fCut (fSeq (fIf (fT (f2 gLt (fVar 3) (f2 gPow (fC (.int 10)) (fC (.int 18)))))
  (fAsg (fC (.int 0)) (gfName 3))
  fNext)
  (fSeq (fAsg (fTup (fCons (fC (.int 2147483629)) (fCons (fC (.int 2147483587)) (fCons (fC (.int 2147483579)) (fCons (fC (.int 2147483563)) (fCons (fC (.int 2147483549)) (fCons (fC (.int 2147483543)) (fCons (fC (.int 2147483497)) (fCons (fC (.int 2147483489)) fNil))))))))) (gfName 4))
  (fRet (fLst (fCons (fVar 3) (fCons (f2 gMod (f2 gAdd (f2 gAdd (f2 gMul (f2 gMod (fVar 2) (f2 gIx (fVar 4) (f2 gMod (fVar 1) (fC (.int 8))))) (fC (.int 69621))) (f2 gMul (fC (.int 7919)) (fVar 1))) (fC (.int 13))) (fC (.int 2147483647))) fNil)))))))))))
def ev__law_pool : FF := fDef 3 [false, false] b__law_pool
def b__law_take : SFn :=
  (fSeq (fIf (fT (f2 gGt (f2 gIx (fVar 0) (fC (.int 0))) (fC (.int 0))))
  (fSeq (fAsg (f2 gMod (f2 gIx (fVar 0) (fC (.int 0))) (fVar 1)) (gfName 2))
  (fSeq (fSetI 0 (fC (.int 0)) (f2 gDiv (f2 gIx (fVar 0) (fC (.int 0))) (fVar 1)))
  (fRet (fVar 2))))
  fNext)
  (fSeq (fSetI 0 (fC (.int 1)) (f2 gMod (f2 gAdd (f2 gMul (f2 gIx (fVar 0) (fC (.int 1))) (fC (.int 48271))) (fC (.int 11))) (fC (.int 2147483647))))
  (fRet (f2 gMod (f2 gDiv (f2 gMod (f2 gPow (f2 gIx (fVar 0) (fC (.int 1))) (fC (.int 5))) (fC (.int 2147483629))) (fC (.int 31))) (fVar 1)))))
def ev__law_take : FF := fDef 1 [true, false] b__law_take
def b__law_low : SFn :=
  (fSeq (fPar 2 3 (fCons (fB gAbs (fCons (fVar 0) fNil)) (fCons (fB gAbs (fCons (fVar 1) fNil)) fNil)))
  (fSeq (fWhile fuelE (fT (f2 gGt (fVar 3) (fC (.int 0))))
  (fPar 2 3 (fCons (fVar 3) (fCons (f2 gMod (fVar 2) (fVar 3)) fNil))))
  (fCut (fSeq (fIf (fT (f2 gLt (fVar 1) (fC (.int 0))))
  (fAsg (f1 gNeg (fVar 2)) (gfName 2))
  fNext)
  (fRet (fTup (fCons (f2 gDiv (fVar 0) (fVar 2)) (fCons (f2 gDiv (fVar 1) (fVar 2)) fNil))))))))
def ev__law_low : FF := fDef 2 [false, false] b__law_low
def b__law_prime : SFn :=
  (fRet (f2 gIx (fLst (fCons (fC (.int 2)) (fCons (fC (.int 3)) (fCons (fC (.int 5)) (fCons (fC (.int 7)) (fCons (fC (.int 2)) (fCons (fC (.int 3)) (fCons (fC (.int 11)) (fCons (fC (.int 97)) fNil))))))))) (fCall [true, false] ev__law_take (fCons (fVar 0) (fCons (fC (.int 8)) fNil)))))
def ev__law_prime : FF := fDef 0 [true] b__law_prime
def b__law_number : SFn :=
  (fSeq (fAsg (f2 gMul (f2 gAdd (fC (.int 1)) (fCall [true, false] ev__law_take (fCons (fVar 0) (fCons (fC (.int 6)) fNil)))) (f2 gSub (fC (.int 1)) (f2 gMul (fC (.int 2)) (fCall [true, false] ev__law_take (fCons (fVar 0) (fCons (fC (.int 2)) fNil)))))) (gfName 2))
  (fSeq (fAsg (f2 gAdd (fC (.int 1)) (fCall [true, false] ev__law_take (fCons (fVar 0) (fCons (fC (.int 3)) fNil)))) (gfName 3))
  (fSeq (fAsg (f2 gIx (fLst (fCons (fC (.int 0)) (fCons (fC (.int 0)) (fCons (fC (.int 1)) (fCons (fC (.int 2)) (fCons (fC (.int 3)) (fCons (f1 gNeg (fC (.int 1))) (fCons (f1 gNeg (fC (.int 2))) (fCons (fC (.int 1)) fNil))))))))) (fCall [true, false] ev__law_take (fCons (fVar 0) (fCons (fC (.int 8)) fNil)))) (gfName 4))
  (fSeq (fFor (fRange1 (fCons (fB gAbs (fCons (fVar 4) fNil)) fNil)) (gfName 5)
  (fSeq (fAsg (f2 gMul (fVar 2) (f2 gIx (fLst (fCons (fC (.int 1)) (fCons (fVar 1) fNil))) (fB gInt (fCons (f2 gGt (fVar 4) (fC (.int 0))) fNil)))) (gfName 2))
  (fAsg (f2 gMul (fVar 3) (f2 gIx (fLst (fCons (fC (.int 1)) (fCons (fVar 1) fNil))) (fB gInt (fCons (f2 gLt (fVar 4) (fC (.int 0))) fNil)))) (gfName 3))))
  (fRet (fCall [false, false] ev__law_low (fCons (fVar 2) (fCons (fVar 3) fNil))))))))
def ev__law_number : FF := fDef 4 [true, false] b__law_number
def b__law_height : SFn :=
  (fSeq (fAsg (fVar 0) (gfTup 2 (gfCons (gfName 2) (gfCons (gfName 3) gfNil))))
  (fSeq (fAsg (fC (.int 0)) (gfName 4))
  (fSeq (fWhile fuelE (fT (f2 gEq (f2 gMod (fVar 2) (fVar 1)) (fC (.int 0))))
  (fSeq (fAsg (f2 gDiv (fVar 2) (fVar 1)) (gfName 2))
  (fAsg (f2 gAdd (fVar 4) (fC (.int 1))) (gfName 4))))
  (fSeq (fWhile fuelE (fT (f2 gEq (f2 gMod (fVar 3) (fVar 1)) (fC (.int 0))))
  (fSeq (fAsg (f2 gDiv (fVar 3) (fVar 1)) (gfName 3))
  (fAsg (f2 gSub (fVar 4) (fC (.int 1))) (gfName 4))))
  (fRet (fVar 4))))))
def ev__law_height : FF := fDef 3 [false, false] b__law_height
def b__law_roots : SFn :=
  (fSeq (fAsg (fLst (fCons (fTup (fCons (fC (.int 0)) (fCons (fC (.int 0)) (fCons (fCall [true, false] ev__law_number (fCons (fVar 0) (fCons (fVar 1) fNil))) fNil)))) fNil)) (gfName 3))
  (fSeq (fOwn 4 (fLst fNil))
  (fSeq (fFor (fRange1 (fCons (f2 gAdd (fC (.int 1)) (fCall [true, false] ev__law_take (fCons (fVar 0) (fCons (fC (.int 3)) fNil)))) fNil)) (gfName 5)
  (fSeq (fAsg (fCall [true, false] ev__law_number (fCons (fVar 0) (fCons (fVar 1) fNil))) (gfName 6))
  (fSeq (fDrop (fOM 4 hApp (fCall [false, false] ev__law_height (fCons (fVar 6) (fCons (fVar 1) fNil)))))
  (fAsg (fCall [false, false] ev_times (fCons (fVar 3) (fCons (fB gSortD (fCons (fLst (fCons (fTup (fCons (fC (.int 0)) (fCons (fC (.int 0)) (fCons (fTup (fCons (f2 gSub (fC (.int 0)) (f2 gIx (fVar 6) (fC (.int 0)))) (fCons (f2 gIx (fVar 6) (fC (.int 1))) fNil))) fNil)))) (fCons (fTup (fCons (f2 gIx (fVar 2) (fC (.int 0))) (fCons (f2 gIx (fVar 2) (fC (.int 1))) (fCons (fTup (fCons (fC (.int 1)) (fCons (fC (.int 1)) fNil))) fNil)))) fNil))) fNil)) fNil))) (gfName 3)))))
  (fFrz 4 (fRet (fTup (fCons (fVar 3) (fCons (fVar 4) fNil))))))))
def ev__law_roots : FF := fDef 4 [true, false, false] b__law_roots
def b__law_crossed : SFn :=
  (fRet (fCall [false, false, false] ev_meets (fCons (fVar 0) (fCons (fVar 1) (fCons (fVar 2) fNil)))))
def ev__law_crossed : FF := fDef 0 [false, false, false] b__law_crossed
def b_law : SFn :=
  (fSeq (fFor (fRange1 (fCons (fB gMax2 (fCons (fC (.int 1)) (fCons (fB gMin2 (fCons (fB gLen (fCons (fVar 0) fNil)) (fCons (fC (.int 6)) fNil))) fNil))) fNil)) (gfName 1)
  (fSeq (fOwn 2 (fCall [false, false] ev__law_pool (fCons (fVar 0) (fCons (fVar 1) fNil))))
  (fSeq (fAsg (f2 gSub (fCall [true, false] ev__law_take (fCons (fVar 2) (fCons (fC (.int 3)) fNil))) (fC (.int 1))) (gfName 3))
  (fSeq (fAsg (fCall [true] ev__law_prime (fCons (fVar 2) fNil)) (gfName 4))
  (fSeq (fAsg (fCall [true, false, false] ev__law_roots (fCons (fVar 2) (fCons (fVar 4) (fCons (fTup (fCons (fC (.int 1)) (fCons (fVar 3) fNil))) fNil)))) (gfTup 2 (gfCons (gfName 5) (gfCons (gfName 6) gfNil))))
  (fSeq (fAsg (fCall [true, false, false] ev__law_roots (fCons (fVar 2) (fCons (fVar 4) (fCons (fTup (fCons (fC (.int 0)) (fCons (fC (.int 1)) fNil))) fNil)))) (gfTup 2 (gfCons (gfName 7) (gfCons (gfName 8) gfNil))))
  (fSeq (fDNewN 9)
  (fSeq (fFor (fIterL (fVar 6)) (gfName 10)
  (fFor (fIterL (fVar 8)) (gfName 11)
  (fSeq (fAsg (fTup (fCons (fTup (fCons (f2 gSub (fVar 10) (f2 gMul (fVar 3) (fVar 11))) (fCons (fC (.int 1)) fNil))) (fCons (fTup (fCons (fVar 11) (fCons (fC (.int 1)) fNil))) fNil))) (gfName 12))
  (fDPutN 9 (fVar 12) (f2 gAdd (fDGet2N 9 (fVar 12) (fC (.int 0))) (fC (.int 1)))))))
  (fSeq (fAsg (fCall [false, false, false] ev__law_crossed (fCons (fVar 5) (fCons (fVar 7) (fCons (fVar 4) fNil)))) (gfName 13))
  (fIf (fOr (fT (f2 gIs (fVar 13) (fC .non))) (fT (f2 gNe (fB gSortD (fCons (fLcN 9 (gfTup 2 (gfCons (gfName 10) (gfCons (gfName 11) gfNil))) fYes (fItem 10 11) [10, 11]) fNil)) (fVar 13))))
  (fRet (fC (.bl false)))
  fNext))))))))))
  (fRet (fC (.bl true))))
def ev_law : FF := fDef 13 [false] b_law
end Lw
local macro_rules | `(tactic| walk_at "ev") => `(tactic| simp only [Dv.w_callN2, Dv.k_callN2, Dv.w_chn, Dv.k_ch1, Dv.k_ch2, Dv.k_ch3, Dv.w_s1, Dv.k_s1, Dv.k_s2, Dv.d_s1, Dv.w_iterS, Dv.k_itS, Dv.gInSigF, Dv.gInSigT, Dv.gLenS, Dv.gAddS, Dv.gSlS, Dv.gSplit, Dv.gPart, Dv.gEqS_txt, Dv.gNeS_txt, Dv.dct_0I, Dv.dct_sI, Dv.w_dnewI, Dv.keyI_1, Dv.q_dixI, Dv.k_dixI, Dv.w_dixI, Dv.q_dg2I, Dv.k_dg2I, Dv.q_dg1I, Dv.k_dg1I, Dv.w_dget2I, Dv.q_dinI, Dv.k_dinI, Dv.w_dinI, Dv.q_dpI, Dv.k_dp2I, Dv.k_dp2nI, Dv.k_dp1I, Dv.w_dputI, Dv.q_dmI, Dv.w_dmaxI, Dv.q_frzD, Dv.w_frzD, Dv.w_ixN, Dv.w_gtupN, Dv.k_itN, Dv.isi_tuple_nt, Dv.q_frz, Dv.w_frz, Dv.q_forApp, Dv.w_forApp, Dv.k_ownXe, Dv.k_ownXn, Dv.w_ownX, Dv.w_gunl, Dv.gInT_2, Dv.gNotInT_2, Dv.q_o2v, Dv.k_o2v, Dv.w_o2v, Dv.w_nilN, Dv.k_consN2, Dv.k_consN, Dv.w_consN, Dv.k_ls2, Dv.w_ls2, Dv.q_o2, Dv.k_o2, Dv.k_o2b, Dv.w_o2, Dv.q_lend2, Dv.k_lend2, Dv.w_lend2, Dv.nn_nw, Dv.nn_no, Dv.nn_fz, Dv.nn_o1, Dv.nn_io, Dv.mapL_c, Dv.mapL_n, Dv.m_nw, Dv.dct_0, Dv.dct_s, Dv.free_nw, Dv.keep_nw, Dv.w_dnew, Dv.q_tupN, Dv.k_tupN, Dv.w_tupN, Dv.w_varN, Dv.key_2, Dv.k_v, Dv.q_dix, Dv.k_dix, Dv.w_dix, Dv.q_dg2, Dv.k_dg2, Dv.q_dg1, Dv.k_dg1, Dv.w_dget2, Dv.q_din, Dv.k_din, Dv.w_din, Dv.q_dp, Dv.k_dp2, Dv.k_dp2n, Dv.k_dp1, Dv.w_dput, Dv.q_ds2, Dv.q_ds, Dv.w_dsort, Dv.encK_len, Dv.kVal_enc, Dv.pairK_enc, Dv.pD_R, Option.isSome_some, Dv.k_putB, Dv.q_par3, Dv.k_par3, Dv.w_par3, Dv.dropL_eq, Dv.k_pop2, Dv.k_pop1, Dv.q_pop, Dv.w_pop, Dv.k_ownVn, Dv.k_ownVv, Dv.w_ownV, Dv.q_lend, Dv.k_lend, Dv.w_lend, Dv.m_fz, Dv.m_no, Dv.m_oo, Dv.m_ii, Dv.m_of, Dv.o_fz, Dv.o_no, Dv.o_o1, Dv.o_io, Dv.n_val, Dv.n_new, List.zipWith_cons_cons, List.zipWith_nil_left, Dv.k_backNF, Dv.k_backNT, Dv.k_callN, Dv.w_callN, Dv.gSortSet_R, Dv.gSlT, Dv.gRevL, Dv.k_isE, Dv.w_isE, Dv.k_m1b, Dv.q_m1, Dv.k_m1, Dv.w_m1, Dv.w_raise, Dv.k_dropXe, Dv.k_dropXv, Dv.k_dropXn, Dv.w_dropX, Dv.k_asgXe, Dv.k_asgXv, Dv.k_asgXn, Dv.w_asgX, Dv.k_backXe, Dv.k_backXv, Dv.k_backXn, Dv.q_argX, Dv.k_callX, Dv.w_callX, Dv.k_rxv, Dv.k_rxn, Dv.k_hnd, Dv.k_tryE, Dv.k_tryV, Dv.k_tryW, Dv.k_tryN, Dv.w_try, Dv.k_finE, Dv.k_finXo, Dv.k_finXw, Dv.k_finXn, Dv.w_var, Dv.w_c, Dv.k_z, Dv.d_2, Dv.k_2b, Dv.k_2, Dv.w_2, Dv.d_1, Dv.k_1, Dv.w_1, Dv.w_nil, Dv.k_cb, Dv.k_c, Dv.w_cons, Dv.d_b, Dv.k_b, Dv.w_b, Dv.d_v, Dv.q_tup, Dv.q_lst, Dv.k_tup, Dv.k_lst, Dv.w_tup, Dv.w_lst, Dv.k_t, Dv.w_T, Dv.k_and, Dv.k_or, Dv.k_not, Dv.w_and, Dv.w_or, Dv.w_not, Dv.w_yes, Dv.k_andV, Dv.k_orV, Dv.k_notV, Dv.k_ifE, Dv.w_andV, Dv.w_orV, Dv.w_notV, Dv.w_ifE,
  Dv.w_tupW, Dv.k_tupW, Dv.k_finT, Dv.k_finXt, Dv.k_resW, Dv.k_backXw, Dv.k_nxt, Dv.k_asg, Dv.k_asgN, Dv.w_asg, Dv.w_name, Dv.k_own, Dv.w_own, Dv.k_put, Dv.q_par, Dv.k_par, Dv.w_par, Dv.k_drop, Dv.k_ret, Dv.w_drop, Dv.w_ret, Dv.w_next, Dv.w_seq, Dv.k_nx, Dv.k_rt, Dv.k_bk, Dv.k_ct, Dv.k_if, Dv.w_if, Dv.k_setB, Dv.k_set, Dv.w_setI, Dv.k_non, Dv.k_om, Dv.k_omN, Dv.w_om, Dv.w_om0, Dv.d_s, Dv.k_slc, Dv.k_slb, Dv.k_sl, Dv.w_sl, Dv.w_noP, Dv.k_pt, Dv.w_pt, Dv.w_isi, Dv.k_call, Dv.q_arg, Dv.k_back, Dv.k_resF, Dv.k_resT, Dv.w_call, Dv.k_lc, Dv.k_lc2, Dv.k_lc3, Dv.w_lc, Dv.k_for, Dv.w_for, Dv.w_while, Dv.q_r1, Dv.k_r1, Dv.w_range1, Dv.k_il, Dv.k_ilN, Dv.w_iterL, Dv.k_it, Dv.w_iterT, Dv.k_lnx, Dv.k_lct, Dv.k_lbk, Dv.k_lrt, Dv.k_lb, Dv.k_v3, Dv.k_v2, Dv.k_v2n, Dv.k_v1, Dv.k_v0, Dv.k_wnx, Dv.k_wct, Dv.k_wbk, Dv.k_wrt, Dv.k_wc, Dv.k_ix, Dv.k_ixI, Dv.w_ixL, Dv.w_ixT, Dv.w_ixS, Dv.k_cx, Dv.w_put0, Dv.w_putS, Dv.k_o1, Dv.k_io, Dv.w_upo, Dv.w_upi, Dv.w_upS, Dv.k_st, Dv.w_setF, Dv.w_app, Dv.w_ext, Dv.k_wp, Dv.w_wipe0, Dv.w_wipe1, Dv.k_outs, Dv.w_con, Dv.w_outs0, Dv.w_outs1, Dv.k_dr, Dv.w_drop0, Dv.w_drop1, Dv.k_callM, Dv.q_argM, Dv.k_backM, Dv.k_resMF, Dv.k_resMT, Dv.w_callM, Dv.w_mv, Dv.q_en, Dv.k_en, Dv.w_enum, Dv.q_zp, Dv.k_zp, Dv.w_zip, Dv.q_rv, Dv.k_rv, Dv.w_rev, Dv.q_r2, Dv.k_r2, Dv.w_range2, Dv.q_r3, Dv.k_r3, Dv.w_range3, Dv.k_gc, Dv.w_gcons, Dv.w_gnil, Dv.w_gtup, Dv.k_jnx, Dv.k_jrt, Dv.k_jbk, Dv.k_jct, Dv.w_cut, Dv.w_loop0, Dv.w_loop1, Dv.k_tgt, Dv.k_tnx, Dv.k_tct, Dv.k_tbk, Dv.k_trt, Dv.free_keep, Dv.keep_no, Dv.keep_fz, Dv.keep_o1, Dv.gAdd_lst, Dv.gMul_lst, Dv.rangeD_1, Dv.rangeD_2, Dv.rangeD_3, Dv.rangeD_4, Dv.gEq_Lm, Dv.gNe_Lm, Dv.gEq_Ln, Dv.gNe_Ln, Dv.noL, Dv.noLs, Bool.not_true, Bool.not_false, Bool.false_or, Bool.or_false, if_true, if_false, Dv.free_no, Dv.free_fz, Dv.free_o1, Dv.k_finN, Dv.k_finV, Dv.k_finW, Dv.k_finS,
  Dv.gIs_bl, Dv.gIsnt_bl, Dv.gIs_no, Dv.gIsnt_no, Dv.gEq_bl, Dv.gNe_bl, Dv.isNon, Dv.gEq_int, Dv.gNe_int, Dv.gAdd_int, Dv.gSub_int, Dv.gMul_int, Dv.gDiv_int, Dv.dct_0N, Dv.dct_sN, Dv.w_dnewN, Dv.q_dixN, Dv.k_dixN, Dv.w_dixN, Dv.q_dg2N, Dv.k_dg2N, Dv.q_dg1N, Dv.k_dg1N, Dv.w_dget2N, Dv.q_dinN, Dv.k_dinN, Dv.w_dinN, Dv.q_dpN, Dv.k_dp2N, Dv.k_dp2nN, Dv.k_dp1N, Dv.w_dputN, Dv.q_ns, Dv.w_nsort, Dv.gMod_int, Dv.gPow_int, Dv.gLt_int, Dv.gLe_int, Dv.gGt_int, Dv.gGe_int, Dv.gNeg, Dv.isi_int_non, Dv.isi_int_bl, Dv.isi_int_int, Dv.isi_int_str, Dv.isi_int_lst, Dv.isi_int_tup, Dv.isi_bool_non, Dv.isi_bool_bl, Dv.isi_bool_int, Dv.isi_bool_str, Dv.isi_bool_lst, Dv.isi_bool_tup, Dv.isi_tuple_non, Dv.isi_tuple_bl, Dv.isi_tuple_int, Dv.isi_tuple_str, Dv.isi_tuple_lst, Dv.isi_tuple_tup, Dv.isi_list_non, Dv.isi_list_bl, Dv.isi_list_int, Dv.isi_list_str, Dv.isi_list_lst, Dv.isi_list_tup, Dv.isi_str_non, Dv.isi_str_bl, Dv.isi_str_int, Dv.isi_str_str, Dv.isi_str_lst, Dv.isi_str_tup, Dv.gLen, Dv.gAbs, Dv.gMax2, Dv.gMin2, Dv.gInt, Dv.gList, Dv.gSlL,
  Dv.ok_some, Dv.ok_none, Dv.ok_guard, Dv.deref, Dv.frz, Dv.derefs, Dv.allVal, Dv.outF, Dv.outE, Dv.ioIx, Dv.argD, Dv.isOwn_0, Dv.isOwn_s, Dv.atI_0, Dv.atI_1, Dv.atI_2, Dv.atI_3, Dv.atI_4, Dv.atI_5, Dv.atI_6, Dv.atI_7, Dv.atI_neg, Dv.ixN20, Dv.ixN30, Dv.ixN31, Dv.ixN32, Dv.ixN21, Dv.restE,
  Option.bind_some, Option.bind_none, Option.map_some, List.replicate, List.cons_append, List.nil_append, List.getElem?_cons_zero, List.getElem?_cons_succ, decide_eq_true_eq, decide_eq_false_iff_not, Bool.not_eq_true', Bool.not_eq_false', forall_const, List.length_cons, List.length_nil, List.length_map, Int.toNat_natCast, Int.zero_add, Nat.zero_add, List.set_cons_zero, List.set_cons_succ, Nat.reduceAdd, Int.reduceToNat, Int.reducePow, Int.cast_ofNat_Int, Int.reduceEq, eq_self, not_true_eq_false, Int.reduceLE, Nat.reduceLeDiff, Int.reduceNeg, true_and, and_true, List.nodup_nil, List.nodup_cons, List.isEmpty_nil, List.isEmpty_cons, Bool.true_or, Bool.and_self, List.all_nil, List.all_cons, implies_true, List.not_mem_nil, not_false_eq_true, decide_true, Bool.true_and, Bool.and_true, reduceCtorEq, false_implies])
local macro_rules | `(tactic| walk_at "evj") => `(tactic| simp only [Dv.w_callN2, Dv.k_callN2, Dv.w_chn, Dv.k_ch1, Dv.k_ch2, Dv.k_ch3, Dv.w_s1, Dv.k_s1, Dv.k_s2, Dv.d_s1, Dv.w_iterS, Dv.k_itS, Dv.gInSigF, Dv.gInSigT, Dv.gLenS, Dv.gAddS, Dv.gSlS, Dv.gSplit, Dv.gPart, Dv.gEqS_txt, Dv.gNeS_txt, Dv.dct_0I, Dv.dct_sI, Dv.w_dnewI, Dv.keyI_1, Dv.q_dixI, Dv.k_dixI, Dv.w_dixI, Dv.q_dg2I, Dv.k_dg2I, Dv.q_dg1I, Dv.k_dg1I, Dv.w_dget2I, Dv.q_dinI, Dv.k_dinI, Dv.w_dinI, Dv.q_dpI, Dv.k_dp2I, Dv.k_dp2nI, Dv.k_dp1I, Dv.w_dputI, Dv.q_dmI, Dv.w_dmaxI, Dv.q_frzD, Dv.w_frzD, Dv.w_ixN, Dv.w_gtupN, Dv.k_itN, Dv.isi_tuple_nt, Dv.q_frz, Dv.w_frz, Dv.q_forApp, Dv.w_forApp, Dv.k_ownXe, Dv.k_ownXn, Dv.w_ownX, Dv.w_gunl, Dv.gInT_2, Dv.gNotInT_2, Dv.q_o2v, Dv.k_o2v, Dv.w_o2v, Dv.w_nilN, Dv.k_consN2, Dv.k_consN, Dv.w_consN, Dv.k_ls2, Dv.w_ls2, Dv.q_o2, Dv.k_o2, Dv.k_o2b, Dv.w_o2, Dv.q_lend2, Dv.k_lend2, Dv.w_lend2, Dv.nn_nw, Dv.nn_no, Dv.nn_fz, Dv.nn_o1, Dv.nn_io, Dv.mapL_c, Dv.mapL_n, Dv.m_nw, Dv.dct_0, Dv.dct_s, Dv.free_nw, Dv.keep_nw, Dv.w_dnew, Dv.q_tupN, Dv.k_tupN, Dv.w_tupN, Dv.w_varN, Dv.key_2, Dv.k_v, Dv.q_dix, Dv.k_dix, Dv.w_dix, Dv.q_dg2, Dv.k_dg2, Dv.q_dg1, Dv.k_dg1, Dv.w_dget2, Dv.q_din, Dv.k_din, Dv.w_din, Dv.q_dp, Dv.k_dp2, Dv.k_dp2n, Dv.k_dp1, Dv.w_dput, Dv.q_ds2, Dv.q_ds, Dv.w_dsort, Dv.encK_len, Dv.kVal_enc, Dv.pairK_enc, Dv.pD_R, Option.isSome_some, Dv.k_putB, Dv.q_par3, Dv.k_par3, Dv.w_par3, Dv.dropL_eq, Dv.k_pop2, Dv.k_pop1, Dv.q_pop, Dv.w_pop, Dv.k_ownVn, Dv.k_ownVv, Dv.w_ownV, Dv.q_lend, Dv.k_lend, Dv.w_lend, Dv.m_fz, Dv.m_no, Dv.m_oo, Dv.m_ii, Dv.m_of, Dv.o_fz, Dv.o_no, Dv.o_o1, Dv.o_io, Dv.n_val, Dv.n_new, List.zipWith_cons_cons, List.zipWith_nil_left, Dv.k_backNF, Dv.k_backNT, Dv.k_callN, Dv.w_callN, Dv.gSortSet_R, Dv.gSlT, Dv.gRevL, Dv.k_isE, Dv.w_isE, Dv.k_m1b, Dv.q_m1, Dv.k_m1, Dv.w_m1, Dv.w_raise, Dv.k_dropXe, Dv.k_dropXv, Dv.k_dropXn, Dv.w_dropX, Dv.k_asgXe, Dv.k_asgXv, Dv.k_asgXn, Dv.w_asgX, Dv.k_backXe, Dv.k_backXv, Dv.k_backXn, Dv.q_argX, Dv.k_callX, Dv.w_callX, Dv.k_rxv, Dv.k_rxn, Dv.k_hnd, Dv.k_tryE, Dv.k_tryV, Dv.k_tryW, Dv.k_tryN, Dv.w_try, Dv.k_finE, Dv.k_finXo, Dv.k_finXw, Dv.k_finXn, Dv.w_var, Dv.w_c, Dv.k_z, Dv.d_2, Dv.k_2b, Dv.k_2, Dv.w_2, Dv.d_1, Dv.k_1, Dv.w_1, Dv.w_nil, Dv.k_cb, Dv.k_c, Dv.w_cons, Dv.d_b, Dv.k_b, Dv.w_b, Dv.d_v, Dv.q_tup, Dv.q_lst, Dv.k_tup, Dv.k_lst, Dv.w_tup, Dv.w_lst, Dv.k_t, Dv.w_T, Dv.k_and, Dv.k_or, Dv.k_not, Dv.w_and, Dv.w_or, Dv.w_not, Dv.w_yes, Dv.k_andV, Dv.k_orV, Dv.k_notV, Dv.k_ifE, Dv.w_andV, Dv.w_orV, Dv.w_notV, Dv.w_ifE,
  Dv.w_tupW, Dv.k_tupW, Dv.k_finT, Dv.k_finXt, Dv.k_resW, Dv.k_backXw, Dv.k_nxt, Dv.k_asg, Dv.k_asgN, Dv.w_asg, Dv.w_name, Dv.k_own, Dv.w_own, Dv.k_put, Dv.q_par, Dv.k_par, Dv.w_par, Dv.k_drop, Dv.k_ret, Dv.w_drop, Dv.w_ret, Dv.w_next, Dv.w_seq, Dv.k_nx, Dv.k_rt, Dv.k_bk, Dv.k_ct, Dv.k_if, Dv.w_if, Dv.k_setB, Dv.k_set, Dv.w_setI, Dv.k_non, Dv.k_om, Dv.k_omN, Dv.w_om, Dv.w_om0, Dv.d_s, Dv.k_slc, Dv.k_slb, Dv.k_sl, Dv.w_sl, Dv.w_noP, Dv.k_pt, Dv.w_pt, Dv.w_isi, Dv.k_call, Dv.q_arg, Dv.k_back, Dv.k_resF, Dv.k_resT, Dv.w_call, Dv.k_lc, Dv.k_lc2, Dv.k_lc3, Dv.w_lc, Dv.k_for, Dv.w_for, Dv.w_while, Dv.q_r1, Dv.k_r1, Dv.w_range1, Dv.k_il, Dv.k_ilN, Dv.w_iterL, Dv.k_it, Dv.w_iterT, Dv.k_lnx, Dv.k_lct, Dv.k_lbk, Dv.k_lrt, Dv.k_lb, Dv.k_v3, Dv.k_v2, Dv.k_v2n, Dv.k_v1, Dv.k_v0, Dv.k_wnx, Dv.k_wct, Dv.k_wbk, Dv.k_wrt, Dv.k_wc, Dv.k_ix, Dv.k_ixI, Dv.w_ixL, Dv.w_ixT, Dv.w_ixS, Dv.k_cx, Dv.w_put0, Dv.w_putS, Dv.k_o1, Dv.k_io, Dv.w_upo, Dv.w_upi, Dv.w_upS, Dv.k_st, Dv.w_setF, Dv.w_app, Dv.w_ext, Dv.k_wp, Dv.w_wipe0, Dv.w_wipe1, Dv.k_outs, Dv.w_con, Dv.w_outs0, Dv.w_outs1, Dv.k_dr, Dv.w_drop0, Dv.w_drop1, Dv.k_callM, Dv.q_argM, Dv.k_backM, Dv.k_resMF, Dv.k_resMT, Dv.w_callM, Dv.w_mv, Dv.q_en, Dv.k_en, Dv.w_enum, Dv.q_zp, Dv.k_zp, Dv.w_zip, Dv.q_rv, Dv.k_rv, Dv.w_rev, Dv.q_r2, Dv.k_r2, Dv.w_range2, Dv.q_r3, Dv.k_r3, Dv.w_range3, Dv.k_gc, Dv.w_gcons, Dv.w_gnil, Dv.w_gtup, Dv.k_jnx, Dv.k_jrt, Dv.k_jbk, Dv.k_jct, Dv.w_loop0, Dv.w_loop1, Dv.k_tgt, Dv.k_tnx, Dv.k_tct, Dv.k_tbk, Dv.k_trt, Dv.free_keep, Dv.keep_no, Dv.keep_fz, Dv.keep_o1, Dv.gAdd_lst, Dv.gMul_lst, Dv.rangeD_1, Dv.rangeD_2, Dv.rangeD_3, Dv.rangeD_4, Dv.gEq_Lm, Dv.gNe_Lm, Dv.gEq_Ln, Dv.gNe_Ln, Dv.noL, Dv.noLs, Bool.not_true, Bool.not_false, Bool.false_or, Bool.or_false, if_true, if_false, Dv.free_no, Dv.free_fz, Dv.free_o1, Dv.k_finN, Dv.k_finV, Dv.k_finW, Dv.k_finS,
  Dv.gIs_bl, Dv.gIsnt_bl, Dv.gIs_no, Dv.gIsnt_no, Dv.gEq_bl, Dv.gNe_bl, Dv.isNon, Dv.gEq_int, Dv.gNe_int, Dv.gAdd_int, Dv.gSub_int, Dv.gMul_int, Dv.gDiv_int, Dv.dct_0N, Dv.dct_sN, Dv.w_dnewN, Dv.q_dixN, Dv.k_dixN, Dv.w_dixN, Dv.q_dg2N, Dv.k_dg2N, Dv.q_dg1N, Dv.k_dg1N, Dv.w_dget2N, Dv.q_dinN, Dv.k_dinN, Dv.w_dinN, Dv.q_dpN, Dv.k_dp2N, Dv.k_dp2nN, Dv.k_dp1N, Dv.w_dputN, Dv.q_ns, Dv.w_nsort, Dv.gMod_int, Dv.gPow_int, Dv.gLt_int, Dv.gLe_int, Dv.gGt_int, Dv.gGe_int, Dv.gNeg, Dv.isi_int_non, Dv.isi_int_bl, Dv.isi_int_int, Dv.isi_int_str, Dv.isi_int_lst, Dv.isi_int_tup, Dv.isi_bool_non, Dv.isi_bool_bl, Dv.isi_bool_int, Dv.isi_bool_str, Dv.isi_bool_lst, Dv.isi_bool_tup, Dv.isi_tuple_non, Dv.isi_tuple_bl, Dv.isi_tuple_int, Dv.isi_tuple_str, Dv.isi_tuple_lst, Dv.isi_tuple_tup, Dv.isi_list_non, Dv.isi_list_bl, Dv.isi_list_int, Dv.isi_list_str, Dv.isi_list_lst, Dv.isi_list_tup, Dv.isi_str_non, Dv.isi_str_bl, Dv.isi_str_int, Dv.isi_str_str, Dv.isi_str_lst, Dv.isi_str_tup, Dv.gLen, Dv.gAbs, Dv.gMax2, Dv.gMin2, Dv.gInt, Dv.gList, Dv.gSlL,
  Dv.ok_some, Dv.ok_none, Dv.ok_guard, Dv.deref, Dv.frz, Dv.derefs, Dv.allVal, Dv.outF, Dv.outE, Dv.ioIx, Dv.argD, Dv.isOwn_0, Dv.isOwn_s, Dv.atI_0, Dv.atI_1, Dv.atI_2, Dv.atI_3, Dv.atI_4, Dv.atI_5, Dv.atI_6, Dv.atI_7, Dv.atI_neg, Dv.ixN20, Dv.ixN30, Dv.ixN31, Dv.ixN32, Dv.ixN21, Dv.restE,
  Option.bind_some, Option.bind_none, Option.map_some, List.replicate, List.cons_append, List.nil_append, List.getElem?_cons_zero, List.getElem?_cons_succ, decide_eq_true_eq, decide_eq_false_iff_not, Bool.not_eq_true', Bool.not_eq_false', forall_const, List.length_cons, List.length_nil, List.length_map, Int.toNat_natCast, Int.zero_add, Nat.zero_add, List.set_cons_zero, List.set_cons_succ, Nat.reduceAdd, Int.reduceToNat, Int.reducePow, Int.cast_ofNat_Int, Int.reduceEq, eq_self, not_true_eq_false, Int.reduceLE, Nat.reduceLeDiff, Int.reduceNeg, true_and, and_true, List.nodup_nil, List.nodup_cons, List.isEmpty_nil, List.isEmpty_cons, Bool.true_or, Bool.and_self, List.all_nil, List.all_cons, implies_true, List.not_mem_nil, not_false_eq_true, decide_true, Bool.true_and, Bool.and_true, reduceCtorEq, false_implies])
local macro_rules | `(tactic| walk_at "evk") => `(tactic| simp only [Dv.w_callN2, Dv.k_callN2, Dv.w_chn, Dv.k_ch1, Dv.k_ch2, Dv.k_ch3, Dv.w_s1, Dv.k_s1, Dv.k_s2, Dv.d_s1, Dv.w_iterS, Dv.k_itS, Dv.gInSigF, Dv.gInSigT, Dv.gLenS, Dv.gAddS, Dv.gSlS, Dv.gSplit, Dv.gPart, Dv.gEqS_txt, Dv.gNeS_txt, Dv.dct_0I, Dv.dct_sI, Dv.w_dnewI, Dv.keyI_1, Dv.q_dixI, Dv.k_dixI, Dv.w_dixI, Dv.q_dg2I, Dv.k_dg2I, Dv.q_dg1I, Dv.k_dg1I, Dv.w_dget2I, Dv.q_dinI, Dv.k_dinI, Dv.w_dinI, Dv.q_dpI, Dv.k_dp2I, Dv.k_dp2nI, Dv.k_dp1I, Dv.w_dputI, Dv.q_dmI, Dv.w_dmaxI, Dv.q_frzD, Dv.w_frzD, Dv.w_ixN, Dv.w_gtupN, Dv.k_itN, Dv.isi_tuple_nt, Dv.q_frz, Dv.w_frz, Dv.q_forApp, Dv.w_forApp, Dv.k_ownXe, Dv.k_ownXn, Dv.w_ownX, Dv.w_gunl, Dv.gInT_2, Dv.gNotInT_2, Dv.q_o2v, Dv.k_o2v, Dv.w_o2v, Dv.w_nilN, Dv.k_consN2, Dv.k_consN, Dv.w_consN, Dv.k_ls2, Dv.w_ls2, Dv.q_o2, Dv.k_o2, Dv.k_o2b, Dv.w_o2, Dv.q_lend2, Dv.k_lend2, Dv.w_lend2, Dv.nn_nw, Dv.nn_no, Dv.nn_fz, Dv.nn_o1, Dv.nn_io, Dv.mapL_c, Dv.mapL_n, Dv.m_nw, Dv.dct_0, Dv.dct_s, Dv.free_nw, Dv.keep_nw, Dv.w_dnew, Dv.q_tupN, Dv.k_tupN, Dv.w_tupN, Dv.w_varN, Dv.key_2, Dv.k_v, Dv.q_dix, Dv.k_dix, Dv.w_dix, Dv.q_dg2, Dv.k_dg2, Dv.q_dg1, Dv.k_dg1, Dv.w_dget2, Dv.q_din, Dv.k_din, Dv.w_din, Dv.q_dp, Dv.k_dp2, Dv.k_dp2n, Dv.k_dp1, Dv.w_dput, Dv.q_ds2, Dv.q_ds, Dv.w_dsort, Dv.encK_len, Dv.kVal_enc, Dv.pairK_enc, Dv.pD_R, Option.isSome_some, Dv.k_putB, Dv.q_par3, Dv.k_par3, Dv.w_par3, Dv.dropL_eq, Dv.k_pop2, Dv.k_pop1, Dv.q_pop, Dv.w_pop, Dv.k_ownVn, Dv.k_ownVv, Dv.w_ownV, Dv.q_lend, Dv.k_lend, Dv.w_lend, Dv.m_fz, Dv.m_no, Dv.m_oo, Dv.m_ii, Dv.m_of, Dv.o_fz, Dv.o_no, Dv.o_o1, Dv.o_io, Dv.n_val, Dv.n_new, List.zipWith_cons_cons, List.zipWith_nil_left, Dv.k_backNF, Dv.k_backNT, Dv.k_callN, Dv.w_callN, Dv.gSortSet_R, Dv.gSlT, Dv.gRevL, Dv.k_isE, Dv.w_isE, Dv.k_m1b, Dv.q_m1, Dv.k_m1, Dv.w_m1, Dv.w_raise, Dv.k_dropXe, Dv.k_dropXv, Dv.k_dropXn, Dv.w_dropX, Dv.k_asgXe, Dv.k_asgXv, Dv.k_asgXn, Dv.w_asgX, Dv.k_backXe, Dv.k_backXv, Dv.k_backXn, Dv.q_argX, Dv.k_callX, Dv.w_callX, Dv.k_rxv, Dv.k_rxn, Dv.k_hnd, Dv.k_tryE, Dv.k_tryV, Dv.k_tryW, Dv.k_tryN, Dv.w_try, Dv.k_finE, Dv.k_finXo, Dv.k_finXw, Dv.k_finXn, Dv.w_var, Dv.w_c, Dv.k_z, Dv.d_2, Dv.k_2b, Dv.k_2, Dv.w_2, Dv.d_1, Dv.k_1, Dv.w_1, Dv.w_nil, Dv.k_cb, Dv.k_c, Dv.w_cons, Dv.d_b, Dv.k_b, Dv.w_b, Dv.d_v, Dv.q_tup, Dv.q_lst, Dv.k_tup, Dv.k_lst, Dv.w_tup, Dv.w_lst, Dv.k_t, Dv.w_T, Dv.k_and, Dv.k_or, Dv.k_not, Dv.w_and, Dv.w_or, Dv.w_not, Dv.w_yes, Dv.k_andV, Dv.k_orV, Dv.k_notV, Dv.k_ifE, Dv.w_andV, Dv.w_orV, Dv.w_notV, Dv.w_ifE,
  Dv.w_tupW, Dv.k_tupW, Dv.k_finT, Dv.k_finXt, Dv.k_resW, Dv.k_backXw, Dv.k_nxt, Dv.k_asg, Dv.k_asgN, Dv.w_asg, Dv.w_name, Dv.k_own, Dv.w_own, Dv.k_put, Dv.q_par, Dv.k_par, Dv.w_par, Dv.k_drop, Dv.k_ret, Dv.w_drop, Dv.w_ret, Dv.w_next, Dv.w_seq, Dv.k_nx, Dv.k_rt, Dv.k_bk, Dv.k_ct, Dv.k_if, Dv.w_if, Dv.k_setB, Dv.k_set, Dv.w_setI, Dv.k_non, Dv.k_om, Dv.k_omN, Dv.w_om, Dv.w_om0, Dv.d_s, Dv.k_slc, Dv.k_slb, Dv.k_sl, Dv.w_sl, Dv.w_noP, Dv.k_pt, Dv.w_pt, Dv.w_isi, Dv.k_call, Dv.q_arg, Dv.k_back, Dv.k_resF, Dv.k_resT, Dv.w_call, Dv.k_lc, Dv.k_lc2, Dv.k_lc3, Dv.w_lc, Dv.k_for, Dv.w_for, Dv.w_while, Dv.q_r1, Dv.k_r1, Dv.w_range1, Dv.k_il, Dv.k_ilN, Dv.w_iterL, Dv.k_it, Dv.w_iterT, Dv.k_lnx, Dv.k_lct, Dv.k_lbk, Dv.k_lrt, Dv.k_lb, Dv.k_v3, Dv.k_v2, Dv.k_v2n, Dv.k_v1, Dv.k_v0, Dv.k_wnx, Dv.k_wct, Dv.k_wbk, Dv.k_wrt, Dv.k_wc, Dv.k_ix, Dv.k_ixI, Dv.w_ixL, Dv.w_ixT, Dv.w_ixS, Dv.k_cx, Dv.w_put0, Dv.w_putS, Dv.k_o1, Dv.k_io, Dv.w_upo, Dv.w_upi, Dv.w_upS, Dv.k_st, Dv.w_setF, Dv.w_app, Dv.w_ext, Dv.k_wp, Dv.w_wipe0, Dv.w_wipe1, Dv.k_outs, Dv.w_con, Dv.w_outs0, Dv.w_outs1, Dv.k_dr, Dv.w_drop0, Dv.w_drop1, Dv.k_callM, Dv.q_argM, Dv.k_backM, Dv.k_resMF, Dv.k_resMT, Dv.w_callM, Dv.w_mv, Dv.q_en, Dv.k_en, Dv.w_enum, Dv.q_zp, Dv.k_zp, Dv.w_zip, Dv.q_rv, Dv.k_rv, Dv.w_rev, Dv.q_r2, Dv.k_r2, Dv.w_range2, Dv.q_r3, Dv.k_r3, Dv.w_range3, Dv.k_gc, Dv.w_gcons, Dv.w_gnil, Dv.w_gtup, Dv.k_jnx, Dv.k_jrt, Dv.k_jbk, Dv.k_jct, Dv.w_cut, Dv.k_tgt, Dv.k_tnx, Dv.k_tct, Dv.k_tbk, Dv.k_trt, Dv.free_keep, Dv.keep_no, Dv.keep_fz, Dv.keep_o1, Dv.gAdd_lst, Dv.gMul_lst, Dv.gEq_Lm, Dv.gNe_Lm, Dv.gEq_Ln, Dv.gNe_Ln, Dv.noL, Dv.noLs, Bool.not_true, Bool.not_false, Bool.false_or, Bool.or_false, if_true, if_false, Dv.free_no, Dv.free_fz, Dv.free_o1, Dv.k_finN, Dv.k_finV, Dv.k_finW, Dv.k_finS,
  Dv.gIs_bl, Dv.gIsnt_bl, Dv.gIs_no, Dv.gIsnt_no, Dv.gEq_bl, Dv.gNe_bl, Dv.isNon, Dv.gEq_int, Dv.gNe_int, Dv.gAdd_int, Dv.gSub_int, Dv.gMul_int, Dv.gDiv_int, Dv.dct_0N, Dv.dct_sN, Dv.w_dnewN, Dv.q_dixN, Dv.k_dixN, Dv.w_dixN, Dv.q_dg2N, Dv.k_dg2N, Dv.q_dg1N, Dv.k_dg1N, Dv.w_dget2N, Dv.q_dinN, Dv.k_dinN, Dv.w_dinN, Dv.q_dpN, Dv.k_dp2N, Dv.k_dp2nN, Dv.k_dp1N, Dv.w_dputN, Dv.q_ns, Dv.w_nsort, Dv.gMod_int, Dv.gPow_int, Dv.gLt_int, Dv.gLe_int, Dv.gGt_int, Dv.gGe_int, Dv.gNeg, Dv.isi_int_non, Dv.isi_int_bl, Dv.isi_int_int, Dv.isi_int_str, Dv.isi_int_lst, Dv.isi_int_tup, Dv.isi_bool_non, Dv.isi_bool_bl, Dv.isi_bool_int, Dv.isi_bool_str, Dv.isi_bool_lst, Dv.isi_bool_tup, Dv.isi_tuple_non, Dv.isi_tuple_bl, Dv.isi_tuple_int, Dv.isi_tuple_str, Dv.isi_tuple_lst, Dv.isi_tuple_tup, Dv.isi_list_non, Dv.isi_list_bl, Dv.isi_list_int, Dv.isi_list_str, Dv.isi_list_lst, Dv.isi_list_tup, Dv.isi_str_non, Dv.isi_str_bl, Dv.isi_str_int, Dv.isi_str_str, Dv.isi_str_lst, Dv.isi_str_tup, Dv.gLen, Dv.gAbs, Dv.gMax2, Dv.gMin2, Dv.gInt, Dv.gList, Dv.gSlL,
  Dv.ok_some, Dv.ok_none, Dv.ok_guard, Dv.deref, Dv.frz, Dv.derefs, Dv.allVal, Dv.outF, Dv.outE, Dv.ioIx, Dv.argD, Dv.isOwn_0, Dv.isOwn_s, Dv.atI_0, Dv.atI_1, Dv.atI_2, Dv.atI_3, Dv.atI_4, Dv.atI_5, Dv.atI_6, Dv.atI_7, Dv.atI_neg, Dv.ixN20, Dv.ixN30, Dv.ixN31, Dv.ixN32, Dv.ixN21, Dv.restE,
  Option.bind_some, Option.bind_none, Option.map_some, List.replicate, List.cons_append, List.nil_append, List.getElem?_cons_zero, List.getElem?_cons_succ, decide_eq_true_eq, decide_eq_false_iff_not, Bool.not_eq_true', Bool.not_eq_false', forall_const, List.length_cons, List.length_nil, List.length_map, Int.toNat_natCast, Int.zero_add, Nat.zero_add, List.set_cons_zero, List.set_cons_succ, Nat.reduceAdd, Int.reduceToNat, Int.reducePow, Int.cast_ofNat_Int, Int.reduceEq, eq_self, not_true_eq_false, Int.reduceLE, Nat.reduceLeDiff, Int.reduceNeg, true_and, and_true, List.nodup_nil, List.nodup_cons, List.isEmpty_nil, List.isEmpty_cons, Bool.true_or, Bool.and_self, List.all_nil, List.all_cons, implies_true, List.not_mem_nil, not_false_eq_true, decide_true, Bool.true_and, Bool.and_true, reduceCtorEq, false_implies])
namespace Lw
open PySem L2 Dv
def gS (t b : Int) : Int := if b < 0 then 0 - (Int.gcd t b : Nat) else (Int.gcd t b : Nat)
def lowR (t b : Int) : R := (t.fdiv (gS t b), b.fdiv (gS t b))
def isR (p : R) : Bool := decide (0 < p.2) && decide (Int.gcd p.1 p.2 = 1)
theorem gcd_le {t b : Int} (h : b ≠ 0) : (Int.gcd t b : Nat) ≤ b.natAbs := Nat.le_of_dvd (by omega) (Int.gcd_dvd_natAbs_right t b)
theorem gcd_pos {t b : Int} (h : b ≠ 0) : 0 < Int.gcd t b := Nat.pos_of_ne_zero fun z => by
  rw [Int.gcd_eq_zero_iff] at z
  exact h z.2
theorem gS_ne {t b : Int} (h : b ≠ 0) : gS t b ≠ 0 := by
  have := gcd_pos (t := t) h
  unfold gS
  split <;> omega
theorem gS_le {t b : Int} (h : b ≠ 0) : (gS t b).natAbs ≤ b.natAbs := by
  have := gcd_le (t := t) h
  unfold gS
  split <;> omega
theorem fdiv_exact {a g : Int} (h : g ∣ a) (hg : g ≠ 0) : a.fdiv g * g = a := by
  obtain ⟨c, rfl⟩ := h
  rw [Int.mul_comm g c, Int.mul_fdiv_cancel _ hg]
theorem gS_dvd_l (t b : Int) : gS t b ∣ t := by
  unfold gS
  split
  · rw [Int.zero_sub]
    exact Int.neg_dvd.mpr (Int.gcd_dvd_left ..)
  · exact Int.gcd_dvd_left ..
theorem gS_dvd_r (t b : Int) : gS t b ∣ b := by
  unfold gS
  split
  · rw [Int.zero_sub]
    exact Int.neg_dvd.mpr (Int.gcd_dvd_right ..)
  · exact Int.gcd_dvd_right ..
/-- what a ratio in lowest terms is -/
theorem lowR_spec {t b : Int} (h : b ≠ 0) : (lowR t b).1 * gS t b = t ∧ (lowR t b).2 * gS t b = b ∧ isR (lowR t b) = true := by
  have h1 := fdiv_exact (gS_dvd_l t b) (gS_ne (t := t) h)
  have h2 := fdiv_exact (gS_dvd_r t b) (gS_ne (t := t) h)
  refine ⟨h1, h2, ?_⟩
  unfold isR
  rw [Bool.and_eq_true, decide_eq_true_eq, decide_eq_true_eq]
  have g0 := gcd_pos (t := t) h
  constructor
  · show 0 < b.fdiv (gS t b)
    apply Classical.byContradiction
    intro z
    have z' : b.fdiv (gS t b) ≤ 0 := by omega
    unfold gS at h2 z'
    split at h2
    · rename_i c
      rw [if_pos c] at z'
      have : 0 ≤ b.fdiv (0 - ((Int.gcd t b : Nat) : Int)) * (0 - ((Int.gcd t b : Nat) : Int)) := Int.mul_nonneg_of_nonpos_of_nonpos z' (by omega)
      omega
    · rename_i c
      rw [if_neg c] at z'
      have : b.fdiv ((Int.gcd t b : Nat) : Int) * ((Int.gcd t b : Nat) : Int) ≤ 0 := Int.mul_nonpos_of_nonpos_of_nonneg z' (by omega)
      omega
  · have e : Int.gcd t b = Int.gcd (lowR t b).1 (lowR t b).2 * (gS t b).natAbs := by
      have : Int.gcd ((lowR t b).1 * gS t b) ((lowR t b).2 * gS t b) = Int.gcd (lowR t b).1 (lowR t b).2 * (gS t b).natAbs := Int.gcd_mul_right ..
      rw [← this]
      show Int.gcd t b = Int.gcd (t.fdiv (gS t b) * gS t b) (b.fdiv (gS t b) * gS t b)
      rw [h1, h2]
    have e2 : (gS t b).natAbs = Int.gcd t b := by
      unfold gS
      split <;> omega
    rw [e2] at e
    have e3 : 1 * Int.gcd t b = Int.gcd (lowR t b).1 (lowR t b).2 * Int.gcd t b := by rw [Nat.one_mul]; exact e
    exact (Nat.eq_of_mul_eq_mul_right g0 e3).symm
theorem lowR_le {t b : Int} (h : b ≠ 0) : (lowR t b).1.natAbs ≤ t.natAbs ∧ (lowR t b).2.natAbs ≤ b.natAbs := by
  obtain ⟨h1, h2, _⟩ := lowR_spec (t := t) h
  have g := gS_ne (t := t) h
  have e1 : (lowR t b).1.natAbs * (gS t b).natAbs = t.natAbs := by rw [← Int.natAbs_mul, h1]
  have e2 : (lowR t b).2.natAbs * (gS t b).natAbs = b.natAbs := by rw [← Int.natAbs_mul, h2]
  have g1 : 1 ≤ (gS t b).natAbs := by omega
  exact ⟨by rw [← e1]; exact Nat.le_mul_of_pos_right _ g1, by rw [← e2]; exact Nat.le_mul_of_pos_right _ g1⟩
def PoolH (a b : Int) : Prop := 0 ≤ a ∧ 0 ≤ b ∧ b < 2147483647
theorem nat31 {i : Int} (h : 0 ≤ i) (h2 : i < 2147483647) : i.natAbs < 2 ^ 31 := by omega
theorem hpool_ok {P : D × Bool × List (List D) → Prop} (ns : List Int) (k : Int) (hk : 0 ≤ k) (hk2 : k ≤ 1000)
    (q : ∀ a b, PoolH a b → P (.lst [.int a, .int b], true, [])) : Ok (ev__law_pool [.scr ns, .int k]) P := by
  unfold ev__law_pool b__law_pool
  rw [w_def rfl]
  walk_at "evj"
  refine ⟨mul40 (by omega) (by omega) (by omega) (by omega), ?_⟩
  refine cut_seq (fun e => ∃ c : Int, e = [.fz (.scr ns), .fz (.int k), .fz (.int c), .no, .no]) ?_ ?_
  · walk_at "evj"
    refine ⟨fun h => ok_atI hk h fun b _ => ?_, fun _ => ⟨_, rfl⟩⟩
    walk_at "evj"
    exact ⟨_, rfl⟩
  rintro e ⟨c, rfl⟩
  walk_at "evj"
  refine cut_seq (fun e => ∃ f : Int, 0 ≤ f ∧ e = [.fz (.scr ns), .fz (.int k), .fz (.int c), .fz (.int f), .no]) ?_ ?_
  · walk_at "evj"
    exact ⟨by decide, fun _ => ⟨0, by decide, rfl⟩, fun _ => ⟨_, by split <;> omega, rfl⟩⟩
  rintro e ⟨f, hf, rfl⟩
  walk_at "evj"
  have h8 := fmod_nn (a := k) (b := 8) (by decide)
  refine ⟨modB_of (by decide), ok_atI h8.1 (by simp only [List.length_cons, List.length_nil]; omega) fun pr hp => ?_⟩
  have hp2 : ∃ p : Int, pr = .int p ∧ 1 ≤ p ∧ p ≤ 2147483647 := by
    have hm := List.mem_of_getElem? hp
    simp only [List.mem_cons, List.not_mem_nil, or_false] at hm
    rcases hm with rfl | rfl | rfl | rfl | rfl | rfl | rfl | rfl <;> exact ⟨_, rfl, by decide, by decide⟩
  obtain ⟨p, rfl, p1, p2⟩ := hp2
  walk_at "evj"
  have hc := fmod_nn (a := c) (b := p) (by omega)
  refine ⟨modB_of (by omega), mul40 (by omega) (by omega) (by omega) (by omega), mul40 (by omega) (by omega) (by omega) (by omega), modB_of (by decide), ?_⟩
  have hb := fmod_nn (a := c.fmod p * 69621 + 7919 * k + 13) (b := 2147483647) (by decide)
  exact q _ _ ⟨hf, hb.1, hb.2⟩
theorem htake_ok {P : D × Bool × List (List D) → Prop} (a b many : Int) (h : PoolH a b) (hm : 0 < many) (hm2 : many ≤ 10 ^ 40)
    (q : ∀ a' b' d, 0 ≤ d → d < many → PoolH a' b' → P (.int d, false, [[.int a', .int b']])) : Ok (ev__law_take [.lst [.int a, .int b], .int many]) P := by
  obtain ⟨h1, h2, h3⟩ := h
  unfold ev__law_take b__law_take
  rw [w_def rfl]
  walk_at "ev"
  refine ⟨fun c => ⟨modB_of (by omega), div40 hm hm2, ?_⟩, fun c => ⟨mul40 (by omega) (by omega) (by omega) (by omega), modB_of (by decide), ?_⟩⟩
  · have f := fmod_nn (a := a) hm
    exact q _ _ _ f.1 f.2 ⟨fdiv_nn h1 hm, h2, h3⟩
  · have f := fmod_nn (a := b * 48271 + 11) (b := 2147483647) (by decide)
    generalize (b * 48271 + 11).fmod 2147483647 = m at f
    have g := fmod_nn (a := (((m ^ 5).fmod 2147483629).fdiv 31)) hm
    exact ⟨powB_of (n := 5) (nat31 f.1 f.2) (by decide), modB_of (by decide), div40 (by decide) (by decide), modB_of (by omega), q _ _ _ g.1 g.2 ⟨h1, f.1, f.2⟩⟩
theorem hlow_eq (t b : Int) (h : b ≠ 0) (h2 : b.natAbs < 2 ^ 8999) : ev__law_low [.int t, .int b] = some (encR (lowR t b), false, []) := by
  have key : Ok (ev__law_low [.int t, .int b]) fun r => r = (encR (lowR t b), false, []) := by
    unfold ev__law_low b__law_low
    rw [w_def rfl]
    walk_at "ev"
    have ea : (if t < 0 then -t else t) = (t.natAbs : Nat) := by split <;> omega
    have eb : (if b < 0 then -b else b) = (b.natAbs : Nat) := by split <;> omega
    rw [ea, eb]
    refine while_inv (fun env => ∃ x y : Nat, env = [.fz (.int t), .fz (.int b), .fz (.int x), .fz (.int y)] ∧ Nat.gcd x y = Int.gcd t b) (fun env => match env with | [_, _, _, .fz (.int y)] => y.natAbs | _ => 0) ?_ _ _ ⟨t.natAbs, b.natAbs, rfl, rfl⟩ ?_
    · rintro env ⟨x, y, rfl, hg⟩
      have em : ((x : Int)).fmod (y : Int) = ((x % y : Nat) : Int) := by
        rw [Int.fmod_eq_emod_of_nonneg _ (Int.natCast_nonneg y)]
        rfl
      walk_at "ev"
      rw [em]
      refine ⟨fun hy => ⟨modB_of (by omega), ⟨y, x % y, rfl, ?_⟩, ?_⟩, fun hy => ?_⟩
      · rw [Nat.gcd_comm, ← hg, ← Nat.gcd_rec, Nat.gcd_comm]
      · have := Nat.mod_lt x (show 0 < y by omega)
        rw [Int.natAbs_natCast, Int.natAbs_natCast]
        exact this
      · have : y = 0 := by omega
        subst this
        rw [Nat.gcd_zero_right] at hg
        subst hg
        have hd : divB t (gS t b) = true := divB_of (gS_ne h) (Nat.lt_of_le_of_lt (gS_le h) h2)
        have hd2 : divB b (gS t b) = true := divB_of (gS_ne h) (Nat.lt_of_le_of_lt (gS_le h) h2)
        refine ⟨fun c => ?_, fun c => ?_⟩
        · have e : (-((Int.gcd t b : Nat) : Int)) = gS t b := by unfold gS; rw [if_pos c]; omega
          rw [e]
          exact ⟨hd, hd2, rfl⟩
        · have e : ((Int.gcd t b : Nat) : Int) = gS t b := by unfold gS; rw [if_neg c]
          rw [e]
          exact ⟨hd, hd2, rfl⟩
    · show b.natAbs < fuelE [.fz (.int t), .fz (.int b), .fz (.int t.natAbs), .fz (.int b.natAbs)]
      unfold fuelE
      simp only [List.map_cons, List.map_nil, sizeS, List.sum_cons, List.sum_nil]
      omega
  obtain ⟨r, e, h⟩ := key
  rw [e, h]
theorem isR_pos {p : R} (h : isR p = true) : 0 < p.2 ∧ Int.gcd p.1 p.2 = 1 := by
  unfold isR at h
  rw [Bool.and_eq_true, decide_eq_true_eq, decide_eq_true_eq] at h
  exact h
theorem pdivisor_eq (a b : Int) : ev_divisor [.int a, .int b] = some (.int (Int.gcd a b : Nat), false, []) := by
  have key : Ok (ev_divisor [.int a, .int b]) fun r => r = (.int (Int.gcd a b : Nat), false, []) := by
    unfold ev_divisor b_divisor
    rw [w_def rfl]
    walk_at "ev"
    have ha : (if a < 0 then -a else a) = (a.natAbs : Nat) := by split <;> omega
    have hb : (if b < 0 then -b else b) = (b.natAbs : Nat) := by split <;> omega
    rw [ha, hb]
    refine while_inv (fun env => ∃ x y : Nat, env = [.fz (.int x), .fz (.int y)] ∧ Nat.gcd x y = Int.gcd a b) (fun env => match env with | [_, .fz (.int y)] => y.natAbs | _ => 0) ?_ _ _ ⟨a.natAbs, b.natAbs, rfl, rfl⟩ ?_
    · rintro env ⟨x, y, rfl, h⟩
      have em : ((x : Int)).fmod (y : Int) = ((x % y : Nat) : Int) := by
        rw [Int.fmod_eq_emod_of_nonneg _ (Int.natCast_nonneg y)]
        rfl
      walk_at "ev"
      rw [em]
      refine ⟨fun hy => ⟨modB_of (by omega), ⟨y, x % y, rfl, ?_⟩, ?_⟩, fun hy => ?_⟩
      · rw [Nat.gcd_comm, ← h, ← Nat.gcd_rec, Nat.gcd_comm]
      · have := Nat.mod_lt x (show 0 < y by omega)
        rw [Int.natAbs_natCast, Int.natAbs_natCast]
        exact this
      · have : y = 0 := by omega
        subst this
        rw [Nat.gcd_zero_right] at h
        rw [h]
    · show b.natAbs < fuelE [.fz (.int a.natAbs), .fz (.int b.natAbs)]
      unfold fuelE
      simp only [List.map_cons, List.map_nil, sizeS, List.sum_cons, List.sum_nil]
      omega
  obtain ⟨r, e, h⟩ := key
  rw [e, h]
theorem pratio_eq (t b : Int) (h : b ≠ 0) (h2 : b.natAbs < 2 ^ 8999) : ev_ratio [.int t, .int b] = some (encR (lowR t b), false, []) := by
  have key : Ok (ev_ratio [.int t, .int b]) fun r => r = (encR (lowR t b), false, []) := by
    unfold ev_ratio b_ratio
    rw [w_def rfl]
    walk_at "ev"
    refine ⟨fun z => absurd z h, fun _ => ?_⟩
    refine ok_eq (pdivisor_eq t b) ?_
    walk_at "ev"
    have hd : divB t (gS t b) = true := divB_of (gS_ne h) (Nat.lt_of_le_of_lt (gS_le h) h2)
    have hd2 : divB b (gS t b) = true := divB_of (gS_ne h) (Nat.lt_of_le_of_lt (gS_le h) h2)
    refine ⟨fun c => ?_, fun c => ?_⟩
    · have e : (0 - ((Int.gcd t b : Nat) : Int)) = gS t b := by unfold gS; rw [if_pos c]
      rw [e]
      exact ⟨hd, hd2, rfl⟩
    · have e : ((Int.gcd t b : Nat) : Int) = gS t b := by unfold gS; rw [if_neg c]
      rw [e]
      exact ⟨hd, hd2, rfl⟩
  obtain ⟨r, e, h⟩ := key
  rw [e, h]
theorem divisor_eq (a b : Int) : ev_divisor [.int a, .int b] = some (.int (Int.gcd a b : Nat), false, []) := pdivisor_eq a b
end Lw
namespace Lw
open PySem L2 Dv
def addR (p q : R) : R := lowR (p.1 * q.2 + q.1 * p.2) (p.2 * q.2)
def mulR (p q : R) : R := lowR (p.1 * q.1) (p.2 * q.2)
def Gd (n : Nat) (p : R) : Prop := isR p = true ∧ p.1.natAbs < 2 ^ n ∧ p.2.natAbs < 2 ^ n
theorem Gd.mono {m n : Nat} {p : R} (h : Gd m p) (k : m ≤ n) : Gd n p := ⟨h.1, Nat.lt_of_lt_of_le h.2.1 (Nat.pow_le_pow_right (by decide) k), Nat.lt_of_lt_of_le h.2.2 (Nat.pow_le_pow_right (by decide) k)⟩
theorem Gd.ne {n : Nat} {p : R} (h : Gd n p) : p.2 ≠ 0 := by
  have := (isR_pos h.1).1
  omega
theorem gd_nought {n : Nat} : Gd (n + 1) (0, 1) := ⟨rfl, Nat.pow_pos (by decide), Nat.one_lt_pow (by omega) (by decide)⟩
theorem mul_bits {i j : Int} {a b : Nat} (hi : i.natAbs < 2 ^ a) (hj : j.natAbs < 2 ^ b) : (i * j).natAbs < 2 ^ (a + b) := by
  rw [Int.natAbs_mul, Nat.pow_add]
  exact Nat.mul_lt_mul'' hi hj
theorem add_bits {i j : Int} {a : Nat} (hi : i.natAbs < 2 ^ a) (hj : j.natAbs < 2 ^ a) : (i + j).natAbs < 2 ^ (a + 1) := by
  rw [Nat.pow_succ]
  omega
theorem lowR_gd {t b : Int} {n : Nat} (h : b ≠ 0) (ht : t.natAbs < 2 ^ n) (hb : b.natAbs < 2 ^ n) : Gd n (lowR t b) :=
  ⟨(lowR_spec h).2.2, Nat.lt_of_le_of_lt (lowR_le h).1 ht, Nat.lt_of_le_of_lt (lowR_le h).2 hb⟩
theorem addR_gd {p q : R} {a b : Nat} (hp : Gd a p) (hq : Gd b q) : Gd (a + b + 1) (addR p q) := by
  have h2 := mul_bits hp.2.2 hq.2.2
  refine lowR_gd (Int.mul_ne_zero hp.ne hq.ne) (add_bits (mul_bits hp.2.1 hq.2.2) ?_) (Nat.lt_trans h2 (Nat.pow_lt_pow_right (by decide) (by omega)))
  have := mul_bits hq.2.1 hp.2.2
  rw [Nat.add_comm] at this
  exact this
theorem mulR_gd {p q : R} {a b : Nat} (hp : Gd a p) (hq : Gd b q) : Gd (a + b) (mulR p q) :=
  lowR_gd (Int.mul_ne_zero hp.ne hq.ne) (mul_bits hp.2.1 hq.2.1) (mul_bits hp.2.2 hq.2.2)
theorem bits_8999 {n a : Nat} (h : n < 2 ^ a) (ha : a ≤ 8999) : n < 2 ^ 8999 := Nat.lt_of_lt_of_le h (Nat.pow_le_pow_right (by decide) ha)
theorem ratio_eq (t b : Int) (h : b ≠ 0) (h2 : b.natAbs < 2 ^ 8999) : ev_ratio [.int t, .int b] = some (encR (lowR t b), false, []) := by
  have key : Ok (ev_ratio [.int t, .int b]) fun r => r = (encR (lowR t b), false, []) := by
    unfold ev_ratio b_ratio
    rw [w_def rfl]
    walk_at "ev"
    refine ⟨fun z => absurd z h, fun _ => ?_⟩
    refine ok_eq (show ev_divisor [.int t, .int b] = _ from divisor_eq t b) ?_
    walk_at "ev"
    have hd : divB t (gS t b) = true := divB_of (gS_ne h) (Nat.lt_of_le_of_lt (gS_le h) h2)
    have hd2 : divB b (gS t b) = true := divB_of (gS_ne h) (Nat.lt_of_le_of_lt (gS_le h) h2)
    refine ⟨fun c => ?_, fun c => ?_⟩
    · have e : (0 - ((Int.gcd t b : Nat) : Int)) = gS t b := by unfold gS; rw [if_pos c]
      rw [e]
      exact ⟨hd, hd2, rfl⟩
    · have e : ((Int.gcd t b : Nat) : Int) = gS t b := by unfold gS; rw [if_neg c]
      rw [e]
      exact ⟨hd, hd2, rfl⟩
  obtain ⟨r, e, h⟩ := key
  rw [e, h]
theorem added_eq {p q : R} {a b : Nat} (hp : Gd a p) (hq : Gd b q) (h : a + b ≤ 8999) : ev_added [encR p, encR q] = some (encR (addR p q), false, []) := by
  have key : Ok (ev_added [encR p, encR q]) fun r => r = (encR (addR p q), false, []) := by
    unfold ev_added b_added
    rw [w_def rfl]
    unfold encR
    walk_at "ev"
    refine ⟨mulB_of hp.2.1 hq.2.2 (by omega), mulB_of hq.2.1 hp.2.2 (by omega), mulB_of hp.2.2 hq.2.2 (by omega), ?_⟩
    refine ok_eq (ratio_eq _ _ (Int.mul_ne_zero hp.ne hq.ne) (bits_8999 (mul_bits hp.2.2 hq.2.2) h)) ?_
    walk_at "ev"
    rfl
  obtain ⟨r, e, h⟩ := key
  rw [e, h]
theorem multiplied_eq {p q : R} {a b : Nat} (hp : Gd a p) (hq : Gd b q) (h : a + b ≤ 8999) : ev_multiplied [encR p, encR q] = some (encR (mulR p q), false, []) := by
  have key : Ok (ev_multiplied [encR p, encR q]) fun r => r = (encR (mulR p q), false, []) := by
    unfold ev_multiplied b_multiplied
    rw [w_def rfl]
    unfold encR
    walk_at "ev"
    refine ⟨mulB_of hp.2.1 hq.2.1 (by omega), mulB_of hp.2.2 hq.2.2 (by omega), ?_⟩
    refine ok_eq (ratio_eq _ _ (Int.mul_ne_zero hp.ne hq.ne) (bits_8999 (mul_bits hp.2.2 hq.2.2) h)) ?_
    walk_at "ev"
    rfl
  obtain ⟨r, e, h⟩ := key
  rw [e, h]
abbrev Trm := Int × Int × R
def encT (t : Trm) : D := .tup [.int t.1, .int t.2.1, encR t.2.2]
def keyT (t : Trm) : R := (t.1, t.2.1)
theorem shp_T (t : Trm) : Shp 2 (encT t) := shp_tup fun d h => by
  simp only [List.mem_cons, List.not_mem_nil, or_false] at h
  rcases h with rfl | rfl | rfl
  · exact Shp.mono shp_int (by decide)
  · exact Shp.mono shp_int (by decide)
  · exact shp_R _
theorem eqD_T (a b : Trm) : eqD (encT a) (encT b) = decide (a = b) := by
  unfold encT
  rw [eqD_tup, eqA_cons, eqA_cons, eqA_cons, eqA_nil, eqD_R, eqD_int, eqD_int, Bool.and_true, ← Bool.decide_and, ← Bool.decide_and, decide_eq_decide]
  exact ⟨fun h => Prod.ext h.1 (Prod.ext h.2.1 h.2.2), fun h => by rw [h]; exact ⟨rfl, rfl, rfl⟩⟩
theorem shp_Ts (xs : List Trm) : shp (.lst (xs.map encT)) = true := shp_of (shp_lst (k := 2) fun d h => by
  obtain ⟨s, _, rfl⟩ := List.mem_map.mp h
  exact shp_T s) (by decide)
theorem gEq_Tm (xs ys : List Trm) : gEq (.lst (xs.map encT)) (.lst (ys.map encT)) = some (.val (.bl (decide (xs = ys)))) := gEq_of (shp_Ts xs) (shp_Ts ys) (by rw [eqD_lst, eqA_map eqD_T])
end Lw
namespace Lw
open PySem L2 Dv
def rp (q : Rat) : R := (q.num, (q.den : Int))
def encQ (q : Rat) : D := encR (rp q)
theorem rp_isR (q : Rat) : isR (rp q) = true := by
  unfold isR rp
  rw [Bool.and_eq_true, decide_eq_true_eq, decide_eq_true_eq]
  have := q.den_nz
  exact ⟨by dsimp only; omega, q.reduced⟩
def qv (p : R) : Rat := (p.1 : Rat) / (p.2 : Rat)
theorem rp_qv {p : R} (h : isR p = true) : rp (qv p) = p := by
  obtain ⟨h1, h2⟩ := isR_pos h
  have e : ((p.2.toNat : Nat) : Int) = p.2 := by omega
  have hc : p.1.natAbs.Coprime p.2.toNat := by
    have : Int.gcd p.1 ((p.2.toNat : Nat) : Int) = 1 := by rw [e]; exact h2
    exact this
  have hn := num_den ⟨p.1, p.2.toNat, by omega, hc⟩
  dsimp only at hn
  have hz : (p.2 : Rat) ≠ 0 := fun z => by
    have := Rat.intCast_inj.mp (z.trans (show (0 : Rat) = ((0 : Int) : Rat) from rfl))
    omega
  rw [show ((p.2.toNat : Nat) : Rat) = (p.2 : Rat) from by rw [← Rat.intCast_natCast, e]] at hn
  have : qv p = ⟨p.1, p.2.toNat, by omega, hc⟩ := by
    unfold qv
    rw [← hn]
    grind
  rw [this]
  unfold rp
  dsimp only
  rw [e]
theorem cast_ne {b : Int} (h : b ≠ 0) : (b : Rat) ≠ 0 := fun z => h (Rat.intCast_inj.mp (z.trans (show (0 : Rat) = ((0 : Int) : Rat) from rfl)))
theorem lowR_q {t b : Int} (h : b ≠ 0) : lowR t b = rp ((t : Rat) / (b : Rat)) := by
  obtain ⟨h1, h2, h3⟩ := lowR_spec (t := t) h
  rw [← rp_qv h3]
  congr 1
  unfold qv
  have g := cast_ne (gS_ne (t := t) h)
  have l2 : ((lowR t b).2 : Rat) ≠ 0 := cast_ne (by have := (isR_pos h3).1; omega)
  have e1 : ((lowR t b).1 : Rat) * (gS t b : Rat) = (t : Rat) := by rw [← Rat.intCast_mul, h1]
  have e2 : ((lowR t b).2 : Rat) * (gS t b : Rat) = (b : Rat) := by rw [← Rat.intCast_mul, h2]
  rw [← e1, ← e2]
  grind
theorem dq (q : Rat) : ((q.den : Nat) : Rat) ≠ 0 := den_ne q
theorem qd (q : Rat) : q * (q.den : Nat) = q.num := num_den q
theorem den_nzI (q : Rat) : ((q.den : Nat) : Int) ≠ 0 := by
  have := q.den_nz
  omega
theorem addR_q (p q : Rat) : addR (rp p) (rp q) = rp (p + q) := by
  unfold addR rp
  rw [lowR_q (Int.mul_ne_zero (den_nzI p) (den_nzI q))]
  unfold rp
  have : (((p.num * (q.den : Int) + q.num * (p.den : Int) : Int) : Rat) / (((p.den : Int) * (q.den : Int) : Int) : Rat)) = p + q := by
    rw [Rat.intCast_add, Rat.intCast_mul, Rat.intCast_mul, Rat.intCast_mul, Rat.intCast_natCast, Rat.intCast_natCast, ← qd p, ← qd q]
    have := dq p
    have := dq q
    grind
  dsimp only
  rw [this]
theorem mulR_q (p q : Rat) : mulR (rp p) (rp q) = rp (p * q) := by
  unfold mulR rp
  rw [lowR_q (Int.mul_ne_zero (den_nzI p) (den_nzI q))]
  unfold rp
  have : (((p.num * q.num : Int) : Rat) / (((p.den : Int) * (q.den : Int) : Int) : Rat)) = p * q := by
    rw [Rat.intCast_mul, Rat.intCast_mul, Rat.intCast_natCast, Rat.intCast_natCast, ← qd p, ← qd q]
    have := dq p
    have := dq q
    grind
  dsimp only
  rw [this]
def Bd (n : Nat) (q : Rat) : Prop := Gd n (rp q)
theorem Bd.of {n : Nat} {q : Rat} (h1 : q.num.natAbs < 2 ^ n) (h2 : q.den < 2 ^ n) : Bd n q := ⟨rp_isR q, h1, h2⟩
theorem Bd.mono {m n : Nat} {q : Rat} (h : Bd m q) (k : m ≤ n) : Bd n q := Gd.mono h k
theorem encQ_neg (q : Rat) : D.tup [.int (0 - q.num), .int (q.den : Int)] = encQ (-q) := by
  unfold encQ encR rp
  rw [Rat.neg_num, Rat.neg_den, Int.zero_sub]
theorem encQ_int (i : Int) : D.tup [.int i, .int 1] = encQ (i : Rat) := by
  unfold encQ encR rp
  rw [Rat.num_intCast, Rat.den_intCast]
  rfl
theorem ixQ0 (q : Rat) : gIx (encQ q) (.int 0) = some (.val (.int q.num)) := rfl
theorem ixQ1 (q : Rat) : gIx (encQ q) (.int 1) = some (.val (.int (q.den : Int))) := rfl
theorem num_zero (q : Rat) : q.num = 0 ↔ q = 0 := Rat.num_eq_zero
theorem encQ_inj {p q : Rat} (h : rp p = rp q) : p = q := by
  unfold rp at h
  have h1 := congrArg Prod.fst h
  have h2 := congrArg Prod.snd h
  dsimp only at h1 h2
  exact Rat.ext h1 (by omega)
theorem rp_eq {p q : Rat} : rp p = rp q ↔ p = q := ⟨encQ_inj, fun h => by rw [h]⟩
theorem gEq_Q (p q : Rat) : gEq (encQ p) (encQ q) = some (.val (.bl (decide (p = q)))) := (gEq_R _ _).trans (by rw [decide_eq_decide.mpr rp_eq])
theorem added_q {p q : Rat} {a b : Nat} (hp : Bd a p) (hq : Bd b q) (h : a + b ≤ 8999) : ev_added [encQ p, encQ q] = some (encQ (p + q), false, []) := by
  rw [show encQ (p + q) = encR (addR (rp p) (rp q)) by rw [addR_q]; rfl]
  exact added_eq hp hq h
theorem multiplied_q {p q : Rat} {a b : Nat} (hp : Bd a p) (hq : Bd b q) (h : a + b ≤ 8999) : ev_multiplied [encQ p, encQ q] = some (encQ (p * q), false, []) := by
  rw [show encQ (p * q) = encR (mulR (rp p) (rp q)) by rw [mulR_q]; rfl]
  exact multiplied_eq hp hq h
theorem Bd.add {p q : Rat} {a b : Nat} (hp : Bd a p) (hq : Bd b q) : Bd (a + b + 1) (p + q) := by
  unfold Bd
  rw [← addR_q]
  exact addR_gd hp hq
theorem Bd.mul {p q : Rat} {a b : Nat} (hp : Bd a p) (hq : Bd b q) : Bd (a + b) (p * q) := by
  unfold Bd
  rw [← mulR_q]
  exact mulR_gd hp hq
theorem Bd.neg {q : Rat} {a : Nat} (h : Bd a q) : Bd a (-q) := by
  refine Bd.of ?_ ?_
  · rw [Rat.neg_num, Int.natAbs_neg]
    exact h.2.1
  · rw [Rat.neg_den]
    exact h.2.2
end Lw
namespace Lw
open PySem L2 Dv
def Near (m : Int) (p : R) : Prop := -m ≤ p.1 ∧ p.1 ≤ m ∧ -m ≤ p.2 ∧ p.2 ≤ m
theorem gNe_R (p q : R) : gNe (encR p) (encR q) = some (.val (.bl (!decide (p = q)))) := gNe_of (shp_of (shp_R p) (by decide)) (shp_of (shp_R q) (by decide)) (eqD_R p q)
theorem insP_len (p : R) : ∀ l : List R, (insP p l).length ≤ l.length + 1
  | [] => Nat.le_refl _
  | q :: l => by
    unfold insP
    split
    · exact Nat.le_succ _
    · split
      · exact Nat.le_refl _
      · have := insP_len p l
        simp only [List.length_cons]
        omega
theorem srtP_len : ∀ l : List R, (srtP l).length ≤ l.length
  | [] => Nat.le_refl _
  | p :: l => by
    have h1 := insP_len p (srtP l)
    have h2 := srtP_len l
    show (insP p (srtP l)).length ≤ l.length + 1
    omega
def crossP (a b c : R) : Int := (b.1 - a.1) * (c.2 - a.2) - (b.2 - a.2) * (c.1 - a.1)
def abI (x : Int) : Int := if x < 0 then -x else x
def awayP (a b : R) : Int := abI (a.1 - b.1) + abI (a.2 - b.2)
def betterP (here goal p : R) : Prop := p ≠ here ∧ (goal = here ∨ (crossP here goal p ≤ 0 ∧ ¬ (crossP here goal p = 0 ∧ awayP here p ≤ awayP here goal)))
instance (h g p : R) : Decidable (betterP h g p) := by unfold betterP; infer_instance
def nextP (here : R) (some : List R) : R := some.foldl (fun g p => if betterP here g p then p else g) here
def goP (some : List R) (first : R) : Nat → List R → List R
  | 0, found => found
  | n + 1, found => if nextP (found.getLastD first) some = first then found else goP some first n (found ++ [nextP (found.getLastD first) some])
def hullJ : List R → List R
  | [] => []
  | f :: r => goP (f :: r) f (r.length + 1) [f]
theorem Near.mono {m n : Int} {p : R} (h : Near m p) (hm : m ≤ n) : Near n p := by
  unfold Near at *
  omega
abbrev Side := R × Int
end Lw
namespace Lw
open PySem L2 Dv
def onP (u v : Int) (p : R) : Int := u * p.1 + v * p.2
theorem id_a (u v : Int) (s t p q : R) : (onP u v p - onP u v t) * crossP s p q = (onP u v p - onP u v s) * crossP t p q + (onP u v p - onP u v q) * (0 - crossP s t p) := by
  unfold onP crossP
  grind
theorem id_b (u v : Int) (s t p q : R) : (onP u v t - onP u v s) * crossP s p q = (onP u v p - onP u v s) * crossP s t q + (onP u v q - onP u v s) * (0 - crossP s t p) := by
  unfold onP crossP
  grind
theorem id_c (u v : Int) (s t p q : R) : (onP u v t - onP u v s) * crossP t p q = (onP u v p - onP u v t) * crossP s t q + (onP u v t - onP u v q) * crossP s t p := by
  unfold onP crossP
  grind
theorem id_d (u v : Int) (w s t p : R) : (onP u v t - onP u v s) * crossP w s p = (onP u v p - onP u v s) * crossP w s t + (onP u v s - onP u v w) * crossP s t p := by
  unfold onP crossP
  grind
theorem cross_self (a b : R) : crossP a b a = 0 ∧ crossP a b b = 0 := by
  unfold crossP
  constructor <;> grind
theorem cross_swap (a b c : R) : crossP a c b = 0 - crossP a b c := by
  unfold crossP
  grind
theorem nn_of_mul {a b : Int} (ha : 0 < a) (h : 0 ≤ a * b) : 0 ≤ b := by
  rcases Int.lt_or_le b 0 with c | c
  · have := Int.mul_neg_of_pos_of_neg ha c
    omega
  · exact c
theorem pos_of_mul {a b : Int} (ha : 0 < a) (h : 0 < a * b) : 0 < b := by
  rcases Int.lt_or_le 0 b with c | c
  · exact c
  · have := Int.mul_nonpos_of_nonneg_of_nonpos (Int.le_of_lt ha) c
    omega
section
variable (u v : Int)
/-- the last corner first: on each way from one to the next nothing is to the right; each turn is to the left -/
def Cv (l : List R) : List R → Prop
  | t :: s :: r => (∀ q, q ∈ l → 0 ≤ crossP s t q) ∧ (∀ w, r.head? = some w → 0 < crossP w s t) ∧ onP u v s < onP u v t ∧ Cv l (s :: r)
  | _ => True
def popW (p : R) : List R → List R
  | t :: s :: r => if crossP s t p ≤ 0 then popW p (s :: r) else t :: s :: r
  | l => l
def pushW (st : List R) (p : R) : List R := p :: popW p st
def chainW (l : List R) : List R := l.foldl pushW []
end
section
variable {u v : Int} {l : List R} {p : R}
theorem Cv.tail {t : R} {r : List R} (h : Cv u v l (t :: r)) : Cv u v l r := by
  cases r with
  | nil => trivial
  | cons s r => exact h.2.2.2
/-- a place farther on is to the left of all ways, where it is of the last one -/
theorem Cv.more : ∀ {r : List R} {t s : R}, Cv u v l (t :: s :: r) → onP u v t < onP u v p → 0 < crossP s t p → Cv u v (l ++ [p]) (t :: s :: r)
  | [], t, s, h, _, hc => by
    refine ⟨fun q hq => ?_, (fun w hw => nomatch hw), h.2.2.1, trivial⟩
    rcases List.mem_append.mp hq with z | z
    · exact h.1 q z
    · rw [List.mem_singleton.mp z]
      omega
  | w :: r, t, s, h, hp, hc => by
    have h2 := h.2.1 w rfl
    have h3 := h.2.2.1
    have h4 := h.2.2.2.2.2.1
    have hd : 0 < crossP w s p := by
      refine pos_of_mul (a := onP u v t - onP u v s) (by omega) ?_
      rw [id_d]
      have a1 := Int.mul_pos (show 0 < onP u v p - onP u v s by omega) h2
      have a2 := Int.mul_pos (show 0 < onP u v s - onP u v w by omega) hc
      omega
    refine ⟨fun q hq => ?_, fun w' hw => h.2.1 w' hw, h3, Cv.more h.2.2.2 (by omega) hd⟩
    rcases List.mem_append.mp hq with z | z
    · exact h.1 q z
    · rw [List.mem_singleton.mp z]
      omega
/-- the last thing of a list -/
def botW : List R → R
  | [] => (0, 0)
  | [a] => a
  | _ :: b :: r => botW (b :: r)
theorem pop_spec (hl : ∀ q, q ∈ l → onP u v q < onP u v p) (f : R) (hf : ∀ q, q ∈ l → onP u v f ≤ onP u v q) : ∀ (st : List R), st ≠ [] → Cv u v l st → (∀ q, q ∈ st → q ∈ l) → botW st = f → (∀ t, st.head? = some t → ∀ q, q ∈ l → onP u v t ≤ onP u v q → 0 ≤ crossP t p q) →
    ∃ t r, popW p st = t :: r ∧ Cv u v (l ++ [p]) (p :: t :: r) ∧ (∀ q, q ∈ t :: r → q ∈ l) ∧ botW (t :: r) = f
  | [], h, _, _, _, _ => absurd rfl h
  | [t], _, _, hm, hb, ht => by
    refine ⟨t, [], rfl, ⟨fun q hq => ?_, (fun w hw => nomatch hw), hl t (hm t List.mem_cons_self), trivial⟩, hm, hb⟩
    have hb2 : t = f := hb
    rcases List.mem_append.mp hq with z | z
    · exact ht t rfl q z (by rw [hb2]; exact hf q z)
    · rw [List.mem_singleton.mp z]
      exact Int.le_of_eq (cross_self t p).2.symm
  | t :: s :: r, _, hC, hm, hb, ht => by
    have tm := hm t List.mem_cons_self
    have lt := hl t tm
    have st := hC.2.2.1
    unfold popW
    by_cases c : crossP s t p ≤ 0
    · rw [if_pos c]
      refine pop_spec hl f hf (s :: r) (List.cons_ne_nil _ _) hC.tail (fun q hq => hm q (List.mem_cons_of_mem _ hq)) hb ?_
      intro s' hs q hq hsq
      cases hs
      by_cases d : onP u v t ≤ onP u v q
      · refine nn_of_mul (a := onP u v p - onP u v t) (by omega) ?_
        rw [id_a]
        have a1 := Int.mul_nonneg (show 0 ≤ onP u v p - onP u v s by omega) (ht t rfl q hq d)
        have a2 := Int.mul_nonneg (show 0 ≤ onP u v p - onP u v q by have := hl q hq; omega) (show 0 ≤ 0 - crossP s t p by omega)
        omega
      · refine nn_of_mul (a := onP u v t - onP u v s) (by omega) ?_
        rw [id_b]
        have a1 := Int.mul_nonneg (show 0 ≤ onP u v p - onP u v s by omega) (hC.1 q hq)
        have a2 := Int.mul_nonneg (show 0 ≤ onP u v q - onP u v s by omega) (show 0 ≤ 0 - crossP s t p by omega)
        omega
    · rw [if_neg c]
      refine ⟨t, s :: r, rfl, ⟨fun q hq => ?_, fun w hw => ?_, lt, Cv.more hC lt (by omega)⟩, hm, hb⟩
      · rcases List.mem_append.mp hq with z | z
        · by_cases d : onP u v t ≤ onP u v q
          · exact ht t rfl q z d
          · refine nn_of_mul (a := onP u v t - onP u v s) (by omega) ?_
            rw [id_c]
            have a1 := Int.mul_nonneg (show 0 ≤ onP u v p - onP u v t by omega) (hC.1 q z)
            have a2 := Int.mul_nonneg (show 0 ≤ onP u v t - onP u v q by omega) (show 0 ≤ crossP s t p by omega)
            omega
        · rw [List.mem_singleton.mp z]
          exact Int.le_of_eq (cross_self t p).2.symm
      · cases hw
        omega
/-- what stands when all of l was met: f the first, e the last -/
structure ChainOk (u v : Int) (l : List R) (st : List R) : Prop where
  cv : Cv u v l st
  mem : ∀ q, q ∈ st → q ∈ l
  bot : ∀ f, l.head? = some f → st ≠ [] ∧ botW st = f
  top : st.head? = l.getLast?
theorem chain_step {st : List R} (h : ChainOk u v l st) (hi : (l ++ [p]).Pairwise fun a b => onP u v a < onP u v b) : ChainOk u v (l ++ [p]) (pushW st p) := by
  obtain ⟨hi1, _, hi3⟩ := List.pairwise_append.mp hi
  have hl : ∀ q, q ∈ l → onP u v q < onP u v p := fun q hq => hi3 q hq p (List.mem_singleton.mpr rfl)
  cases l with
  | nil =>
    have e : st = [] := by
      cases st with
      | nil => rfl
      | cons a r => exact absurd (h.mem a List.mem_cons_self) (by simp)
    subst e
    exact ⟨trivial, fun q hq => hq, fun f hf => by cases hf; exact ⟨List.cons_ne_nil _ _, rfl⟩, rfl⟩
  | cons f r =>
    obtain ⟨ne, hb⟩ := h.bot f rfl
    have hf : ∀ q, q ∈ f :: r → onP u v f ≤ onP u v q := fun q hq => by
      rcases List.mem_cons.mp hq with z | z
      · rw [z]
        exact Int.le_refl _
      · exact Int.le_of_lt ((List.pairwise_cons.mp hi1).1 q z)
    have hlast : ∀ t, st.head? = some t → ∀ q, q ∈ f :: r → onP u v t ≤ onP u v q → 0 ≤ crossP t p q := fun t ht q hq htq => by
      rw [h.top] at ht
      have eq : q = t := by
        obtain ⟨ys, hys⟩ := List.getLast?_eq_some_iff.mp ht
        rw [hys] at hq hi1
        rcases List.mem_append.mp hq with z | z
        · have := (List.pairwise_append.mp hi1).2.2 q z t (List.mem_singleton.mpr rfl)
          omega
        · exact List.mem_singleton.mp z
      rw [eq]
      exact Int.le_of_eq (cross_self t p).1.symm
    obtain ⟨t, r2, e1, e2, e3, e4⟩ := pop_spec hl f hf st ne h.cv h.mem hb hlast
    unfold pushW
    rw [e1]
    refine ⟨e2, fun q hq => ?_, fun f' hf' => ?_, ?_⟩
    · rcases List.mem_cons.mp hq with z | z
      · rw [z]
        exact List.mem_append_right _ (List.mem_singleton.mpr rfl)
      · exact List.mem_append_left _ (e3 q z)
    · cases hf'
      exact ⟨List.cons_ne_nil _ _, e4⟩
    · rw [List.getLast?_concat]
      rfl
theorem chain_fold : ∀ (r l st : List R), ChainOk u v l st → (l ++ r).Pairwise (fun a b => onP u v a < onP u v b) → ChainOk u v (l ++ r) (r.foldl pushW st)
  | [], l, st, h, _ => by simpa using h
  | p :: r, l, st, h, hi => by
    rw [List.foldl_cons]
    have e : l ++ p :: r = (l ++ [p]) ++ r := by simp
    rw [e] at hi ⊢
    exact chain_fold r (l ++ [p]) _ (chain_step h (List.pairwise_append.mp hi).1) hi
theorem chain_ok (hi : l.Pairwise fun a b => onP u v a < onP u v b) : ChainOk u v l (chainW l) := by
  have := chain_fold (u := u) (v := v) l [] [] ⟨trivial, fun q hq => hq, (fun f hf => nomatch hf), rfl⟩ (by simpa using hi)
  rw [List.nil_append] at this
  exact this
end
theorem cross_eq {a b c : R} (h1 : Near (10 ^ 9) a) (h2 : Near (10 ^ 9) b) (h3 : Near (10 ^ 9) c) : ev_cross [encR a, encR b, encR c] = some (.int (crossP a b c), false, []) := by
  have key : Ok (ev_cross [encR a, encR b, encR c]) fun r => r = (.int (crossP a b c), false, []) := by
    unfold ev_cross b_cross encR
    rw [w_def rfl]
    unfold Near at h1 h2 h3
    walk_at "ev"
    exact ⟨mul40 (by omega) (by omega) (by omega) (by omega), mul40 (by omega) (by omega) (by omega) (by omega), rfl⟩
  obtain ⟨r, e, h⟩ := key
  rw [e, h]
theorem atI_neg2 {α : Type} {ys : List α} {a b : α} : L2.atI (ys ++ [a, b]) (-2) = some a := by
  have e : L2.ixN (ys ++ [a, b]).length (-2) = some ys.length := by
    unfold L2.ixN
    rw [List.length_append]
    simp only [List.length_cons, List.length_nil]
    rw [if_neg (by omega), if_pos (by omega)]
    congr 1
    omega
  unfold L2.atI
  rw [e, Option.bind_some, List.getElem?_append_right (Nat.le_refl _), Nat.sub_self]
  rfl
theorem popW_sub (p : R) : ∀ st q, q ∈ popW p st → q ∈ st
  | [], q, h => h
  | [t], q, h => h
  | t :: s :: r, q, h => by
    unfold popW at h
    split at h
    · exact List.mem_cons_of_mem _ (popW_sub p (s :: r) q h)
    · exact h
theorem chain_sub : ∀ (l st : List R) q, q ∈ l.foldl pushW st → q ∈ l ∨ q ∈ st
  | [], st, q, h => .inr h
  | p :: l, st, q, h => by
    rw [List.foldl_cons] at h
    rcases chain_sub l _ q h with z | z
    · exact .inl (List.mem_cons_of_mem _ z)
    · rcases List.mem_cons.mp z with y | y
      · rw [y]
        exact .inl List.mem_cons_self
      · exact .inr (popW_sub p st q y)
theorem popW_len (p : R) : ∀ st, (popW p st).length ≤ st.length
  | [] => Nat.le_refl _
  | [t] => Nat.le_refl _
  | t :: s :: r => by
    unfold popW
    split
    · have := popW_len p (s :: r)
      simp only [List.length_cons] at this ⊢
      omega
    · exact Nat.le_refl _
theorem chain_len : ∀ (l st : List R), (l.foldl pushW st).length ≤ l.length + st.length
  | [], st => by simp
  | p :: l, st => by
    rw [List.foldl_cons]
    have h1 := chain_len l (pushW st p)
    have h2 := popW_len p st
    unfold pushW at h1 ⊢
    simp only [List.length_cons] at h1 ⊢
    omega
theorem half_round_eq {ps : List R} (hl : ps.length ≤ 100000) (hn : ∀ p, p ∈ ps → Near (10 ^ 9) p) : ev_half_round [encL ps] = some (encL (chainW ps).reverse, true, []) := by
  have key : Ok (ev_half_round [encL ps]) fun r => r = (encL (chainW ps).reverse, true, []) := by
    unfold ev_half_round b_half_round encL
    rw [w_def rfl]
    walk_at "ev"
    refine loop_inv (fun j env => ∃ s2 : SV, env = [.fz (.lst (ps.map encR)), .o1 (((ps.take j).foldl pushW []).reverse.map encR), s2] ∧ freeP s2 = true) _ 0 _ ⟨.no, rfl, rfl⟩ (fun j d env hd hi => ?_) fun env hi => ?_
    · obtain ⟨s2, rfl, f2⟩ := hi
      rw [Nat.zero_add]
      rw [List.getElem?_map] at hd
      obtain ⟨p, hp, rfl⟩ := Option.map_eq_some_iff.mp hd
      have pm := List.mem_of_getElem? hp
      have hj := (List.getElem?_eq_some_iff.mp hp).1
      have et : (ps.take (j + 1)).foldl pushW [] = pushW ((ps.take j).foldl pushW []) p := by
        rw [List.take_succ, hp, List.foldl_append]
        rfl
      have sm : ∀ q, q ∈ (ps.take j).foldl pushW [] → q ∈ ps := fun q hq => by
        rcases chain_sub _ _ q hq with z | z
        · exact List.mem_of_mem_take z
        · cases z
      have sl : ((ps.take j).foldl pushW []).length ≤ j := by
        have := chain_len (ps.take j) []
        rw [List.length_take] at this
        simp only [List.length_nil] at this
        omega
      rw [et]
      generalize (ps.take j).foldl pushW [] = st0 at sm sl
      walk_at "ev"
      refine ⟨f2, ?_⟩
      refine while_inv (fun env => ∃ st : List R, env = [.fz (.lst (ps.map encR)), .o1 (st.reverse.map encR), .fz (encR p)] ∧ popW p st = popW p st0 ∧ (∀ q, q ∈ st → q ∈ ps) ∧ st.length ≤ j) (fun env => match env with | [_, .o1 ds, _] => ds.length | _ => 0) ?_ _ _ ⟨st0, rfl, rfl, sm, sl⟩ ?_
      · rintro env ⟨st, rfl, ep, sm, sl⟩
        walk_at "ev"
        simp only [List.length_reverse]
        have fin : popW p st = st → st.length ≤ 10000000 ∧ ∃ s2 : SV, [SV.fz (D.lst (List.map encR ps)), SV.o1 (List.map encR st.reverse ++ [encR p]), SV.fz (encR p)] = [SV.fz (D.lst (List.map encR ps)), SV.o1 (List.map encR (pushW st0 p).reverse), s2] ∧ freeP s2 = true := fun e => by
          refine ⟨by omega, .fz (encR p), ?_, rfl⟩
          unfold pushW
          rw [← ep, e, List.reverse_cons, List.map_append]
          rfl
        match st, ep, sm, sl, fin with
        | [], ep, sm, sl, fin => exact ⟨fun c => absurd c (by decide), fun _ => fin rfl⟩
        | [t], ep, sm, sl, fin => exact ⟨fun c => absurd c (by simp), fun _ => fin rfl⟩
        | t :: s :: r, ep, sm, sl, fin =>
          have e1 : List.map encR (t :: s :: r).reverse = List.map encR r.reverse ++ [encR s, encR t] := by simp
          refine ⟨fun _ => ?_, fun c => absurd (show (1 : Int) < ((t :: s :: r).length : Nat) by simp only [List.length_cons]; omega) c⟩
          rw [e1]
          refine ok_eq atI_neg2 ?_
          walk_at "ev"
          rw [show List.map encR r.reverse ++ [encR s, encR t] = (List.map encR r.reverse ++ [encR s]) ++ [encR t] by simp, List.getLast?_concat]
          walk_at "ev"
          refine ok_eq (cross_eq (hn _ (sm s (by simp))) (hn _ (sm t (by simp))) (hn _ pm)) ?_
          walk_at "ev"
          refine ⟨fun c => ?_, fun c => ?_⟩
          · rw [List.getLast?_concat]
            walk_at "ev"
            rw [List.dropLast_concat]
            refine ⟨⟨s :: r, by simp, ?_, fun q hq => sm q (List.mem_cons_of_mem _ hq), by simp only [List.length_cons] at sl ⊢; omega⟩, ?_⟩
            · rw [← ep]
              conv => rhs; unfold popW
              rw [if_pos c]
            · simp
          · rw [List.append_assoc, show [encR s] ++ [encR t] = [encR s, encR t] from rfl, ← e1, List.length_map, List.length_reverse]
            refine fin ?_
            conv => lhs; unfold popW
            rw [if_neg c]
      · show (st0.reverse.map encR).length < fuelE [.fz (.lst (ps.map encR)), .o1 (st0.reverse.map encR), .fz (encR p)]
        unfold fuelE
        simp only [List.map_cons, List.map_nil, sizeS, List.sum_cons, List.sum_nil]
        omega
    · obtain ⟨s2, rfl, f2⟩ := hi
      rw [Nat.zero_add, List.length_map, List.take_length]
      walk_at "ev"
      rfl
  obtain ⟨r, e, h⟩ := key
  rw [e, h]
end Lw
namespace Lw
open PySem L2 Dv
def Cw (u v : Int) (l : List R) : List R → Prop
  | c :: n :: r => (∀ q, q ∈ l → 0 ≤ crossP c n q) ∧ (∀ m, r.head? = some m → 0 < crossP c n m) ∧ onP u v c < onP u v n ∧ Cw u v l (n :: r)
  | _ => True
theorem cw_of {u v : Int} {l : List R} : ∀ (st : List R) (t : R) (acc : List R), Cv u v l (t :: st) → Cw u v l (t :: acc) → (∀ s, st.head? = some s → ∀ m, acc.head? = some m → 0 < crossP s t m) → Cw u v l (st.reverse ++ t :: acc)
  | [], t, acc, _, h, _ => h
  | s :: r, t, acc, hC, h, hl => by
    rw [List.reverse_cons, List.append_assoc]
    refine cw_of r s (t :: acc) hC.tail ⟨hC.1, hl s rfl, hC.2.2.1, h⟩ ?_
    intro w hw m hm
    cases hm
    exact hC.2.1 w hw
theorem chain_cw {u v : Int} {l st : List R} (h : Cv u v l st) : Cw u v l st.reverse := by
  cases st with
  | nil => trivial
  | cons t r =>
    rw [List.reverse_cons]
    exact cw_of r t [] h trivial (fun s _ m hm => nomatch hm)
theorem Cw.tail {u v : Int} {l : List R} {c : R} {r : List R} (h : Cw u v l (c :: r)) : Cw u v l r := by
  cases r with
  | nil => trivial
  | cons n r => exact h.2.2.2
/-- beyond the next corner all is to the left -/
theorem Cw.beyond {u v : Int} {l : List R} {c n : R} {r : List R} (h : Cw u v l (c :: n :: r)) (hlast : ∀ e, (n :: r).getLast? = some e → ∀ q, q ∈ l → onP u v q ≤ onP u v e) {q : R} (hq : q ∈ l) (hn : onP u v n < onP u v q) : 0 < crossP c n q := by
  cases r with
  | nil =>
    have := hlast n rfl q hq
    omega
  | cons m r =>
    have h2 := h.2.1 m rfl
    have h3 := h.2.2.2.1 q hq
    have h4 := h.2.2.2.2.2.1
    refine pos_of_mul (a := onP u v m - onP u v n) (by omega) ?_
    rw [id_d]
    have a1 := Int.mul_pos (show 0 < onP u v q - onP u v n by omega) h2
    have a2 := Int.mul_nonneg (show 0 ≤ onP u v n - onP u v c by have := h.2.2.1; omega) h3
    omega
theorem botW_head : ∀ {st : List R}, st ≠ [] → st.reverse.head? = some (botW st)
  | [], h => absurd rfl h
  | [a], _ => rfl
  | a :: b :: r, _ => by
    have := botW_head (st := b :: r) (List.cons_ne_nil _ _)
    rw [List.reverse_cons]
    have e : ∀ (l : List R) (x : R) (y : R), l.head? = some y → (l ++ [x]).head? = some y := fun l x y h => by
      cases l with
      | nil => cases h
      | cons z l => exact h
    exact e _ _ _ this
theorem cross_cyc (a b c : R) : crossP b c a = crossP a b c := by
  unfold crossP
  grind
/-- what lies on the way from c to n: between them -/
theorem on_way {u v : Int} {c n q : R} (h : crossP c n q = 0) (h0 : onP u v c < onP u v n) (h1 : onP u v c ≤ onP u v q) (h2 : onP u v q ≤ onP u v n) : awayP c q ≤ awayP c n ∧ (awayP c n ≤ awayP c q → q = n) := by
  have e1 : (onP u v n - onP u v c) * (c.1 - q.1) = (c.1 - n.1) * (onP u v q - onP u v c) := by
    unfold onP crossP at *
    grind
  have e2 : (onP u v n - onP u v c) * (c.2 - q.2) = (c.2 - n.2) * (onP u v q - onP u v c) := by
    unfold onP crossP at *
    grind
  generalize hN : onP u v n - onP u v c = N at e1 e2
  generalize hQ : onP u v q - onP u v c = Q at e1 e2
  have n0 : 0 < N := by omega
  have q0 : 0 ≤ Q := by omega
  have qn : Q ≤ N := by omega
  have ab : ∀ x y : Int, N * x = y * Q → N * abI x = abI y * Q := fun x y e => by
    have px : abI x = x ∨ abI x = -x := by unfold abI; split <;> simp
    unfold abI
    by_cases cy : y < 0
    · have : N * x ≤ 0 := by
        rw [e]
        exact Int.mul_nonpos_of_nonpos_of_nonneg (by omega) q0
      rw [if_pos cy]
      split
      · rw [Int.mul_neg, e, Int.neg_mul]
      · have x0 : x = 0 := by
          rcases Int.lt_or_le 0 x with z | z
          · have := Int.mul_pos n0 z
            omega
          · omega
        rw [x0, Int.mul_zero] at e ⊢
        rw [Int.neg_mul]
        omega
    · have : 0 ≤ N * x := by
        rw [e]
        exact Int.mul_nonneg (by omega) q0
      rw [if_neg cy]
      split
      · rename_i cx
        have := Int.mul_neg_of_pos_of_neg n0 cx
        omega
      · exact e
  have a1 := ab _ _ e1
  have a2 := ab _ _ e2
  have nn : ∀ x : Int, 0 ≤ abI x := fun x => by unfold abI; split <;> omega
  have s1 : N * awayP c q = awayP c n * Q := by
    unfold awayP
    rw [Int.mul_add, Int.add_mul, a1, a2]
  have an : 0 ≤ awayP c n := by
    unfold awayP
    have := nn (c.1 - n.1)
    have := nn (c.2 - n.2)
    omega
  refine ⟨?_, fun hle => ?_⟩
  · rcases Int.lt_or_le (awayP c n) (awayP c q) with z | z
    · have b1 : awayP c n * Q ≤ awayP c n * N := Int.mul_le_mul_of_nonneg_left qn an
      have b2 : N * awayP c n < N * awayP c q := Int.mul_lt_mul_of_pos_left z n0
      rw [Int.mul_comm N (awayP c n)] at b2
      omega
    · exact z
  · have b1 : N * awayP c n ≤ N * awayP c q := Int.mul_le_mul_of_nonneg_left hle (Int.le_of_lt n0)
    have an1 : 0 < awayP c n := by
      rcases Int.lt_or_le 0 (awayP c n) with z | z
      · exact z
      · exfalso
        have z0 : awayP c n = 0 := by omega
        have w1 := nn (c.1 - n.1)
        have w2 := nn (c.2 - n.2)
        unfold awayP at z0
        have y1 : abI (c.1 - n.1) = 0 := by omega
        have y2 : abI (c.2 - n.2) = 0 := by omega
        have k1 : c.1 = n.1 := by unfold abI at y1; split at y1 <;> omega
        have k2 : c.2 = n.2 := by unfold abI at y2; split at y2 <;> omega
        rw [show c = n from Prod.ext k1 k2] at h0
        omega
    have qN : Q = N := by
      rcases Int.lt_or_le Q N with z | z
      · have := Int.mul_lt_mul_of_pos_left z an1
        rw [s1, Int.mul_comm N] at b1
        omega
      · omega
    rw [qN, Int.mul_comm _ N] at e1 e2
    have k1 := Int.eq_of_mul_eq_mul_left (by omega) e1
    have k2 := Int.eq_of_mul_eq_mul_left (by omega) e2
    exact Prod.ext (by omega) (by omega)
/-- the next corner, as it is told to be -/
structure NextOk (ss : List R) (c n : R) : Prop where
  ne : n ≠ c
  mem : n ∈ ss
  left : ∀ q, q ∈ ss → 0 ≤ crossP c n q
  way : ∀ q, q ∈ ss → crossP c n q = 0 → q ≠ c → awayP c q ≤ awayP c n ∧ (awayP c n ≤ awayP c q → q = n)
theorem next_stay {ss : List R} {c n : R} (h : NextOk ss c n) : ∀ l : List R, (∀ q, q ∈ l → q ∈ ss) → l.foldl (fun g p => if betterP c g p then p else g) n = n
  | [], _ => rfl
  | p :: l, hl => by
    rw [List.foldl_cons, if_neg (fun z => ?_)]
    · exact next_stay h l fun q hq => hl q (List.mem_cons_of_mem _ hq)
    · have pm := hl p List.mem_cons_self
      rcases z.2 with w | w
      · exact h.ne w
      · have l0 := h.left p pm
        have e : crossP c n p = 0 := by omega
        exact w.2 ⟨e, (h.way p pm e z.1).1⟩
theorem next_found {ss : List R} {c n : R} (h : NextOk ss c n) : ∀ (l : List R) (g : R), (∀ q, q ∈ l → q ∈ ss) → n ∈ l → (g = c ∨ (g ∈ ss ∧ g ≠ c)) → l.foldl (fun g p => if betterP c g p then p else g) g = n
  | [], _, _, hn, _ => by cases hn
  | p :: l, g, hl, hn, hg => by
    rw [List.foldl_cons]
    have pm := hl p List.mem_cons_self
    have hl2 : ∀ q, q ∈ l → q ∈ ss := fun q hq => hl q (List.mem_cons_of_mem _ hq)
    by_cases c1 : p = n
    · subst c1
      have e : (if betterP c g p then p else g) = p := by
        by_cases c2 : g = p
        · rw [c2]
          split <;> rfl
        · rw [if_pos]
          refine ⟨h.ne, ?_⟩
          rcases hg with z | ⟨z1, z2⟩
          · exact .inl z
          · refine .inr ?_
            have l0 := h.left g z1
            have sw := cross_swap c p g
            refine ⟨by omega, fun w => c2 ?_⟩
            have e0 : crossP c p g = 0 := by omega
            exact (h.way g z1 e0 z2).2 w.2
      rw [e]
      exact next_stay h l hl2
    · have hn2 : n ∈ l := by
        rcases List.mem_cons.mp hn with z | z
        · exact absurd z.symm c1
        · exact z
      refine next_found h l _ hl2 hn2 ?_
      split
      · rename_i hb
        exact .inr ⟨pm, hb.1⟩
      · exact hg
theorem next_is {ss : List R} {c n : R} (h : NextOk ss c n) : nextP c ss = n := next_found h ss c (fun q hq => hq) h.mem (.inl rfl)
/-- all the way round -/
def Path (ss : List R) : List R → Prop
  | a :: b :: r => NextOk ss a b ∧ Path ss (b :: r)
  | _ => True
theorem goP_path {ss : List R} {f : R} : ∀ (t s : List R) (n : Nat) (a : R), a = (f :: s).getLastD f → Path ss (a :: (t ++ [f])) → (∀ q, q ∈ t → q ≠ f) → t.length ≤ n → goP ss f n (f :: s) = f :: (s ++ t)
  | [], s, 0, a, _, _, _, _ => by rw [List.append_nil]; rfl
  | [], s, n + 1, a, ha, hp, _, _ => by
    unfold goP
    rw [← ha, next_is hp.1, if_pos rfl, List.append_nil]
  | b :: t, s, 0, a, _, _, _, hn => by cases hn
  | b :: t, s, n + 1, a, ha, hp, hf, hn => by
    unfold goP
    rw [← ha, next_is hp.1, if_neg (hf b List.mem_cons_self)]
    have := goP_path t (s ++ [b]) n b (by rw [List.getLastD_eq_getLast?, ← List.cons_append, List.getLast?_concat]; rfl) hp.2 (fun q hq => hf q (List.mem_cons_of_mem _ hq)) (by simpa using hn)
    rw [List.cons_append, this]
    simp
section
variable {u v : Int} {l : List R}
theorem cw_path : ∀ {cs : List R}, Cw u v l cs → (∀ q, q ∈ cs → q ∈ l) → (∀ e, cs.getLast? = some e → ∀ q, q ∈ l → onP u v q ≤ onP u v e) → (∀ c n r, cs = c :: n :: r → ∀ q, q ∈ l → onP u v q < onP u v c → 0 < crossP c n q) → Path l cs
  | [], _, _, _, _ => trivial
  | [a], _, _, _, _ => trivial
  | c :: n :: r, h, hm, hlast, bef => by
    have st := h.2.2.1
    have hl2 : ∀ e, (n :: r).getLast? = some e → ∀ q, q ∈ l → onP u v q ≤ onP u v e := fun e he => hlast e (by rw [List.getLast?_cons_cons]; exact he)
    refine ⟨⟨fun z => ?_, hm n (by simp), h.1, fun q hq e0 hc => ?_⟩, cw_path h.tail (fun q hq => hm q (List.mem_cons_of_mem _ hq)) hl2 ?_⟩
    · rw [z] at st
      omega
    · have b1 : ¬ onP u v q < onP u v c := fun z => by
        have := bef c n r rfl q hq z
        omega
      have b2 : ¬ onP u v n < onP u v q := fun z => by
        have := h.beyond hl2 hq z
        omega
      exact on_way e0 st (by omega) (by omega)
    · intro c' m r' e q hq hlt
      cases e
      have h2 := h.2.1 m rfl
      refine pos_of_mul (a := onP u v n - onP u v c) (by omega) ?_
      rw [id_c]
      have a1 := Int.mul_nonneg (show 0 ≤ onP u v m - onP u v n by have := h.2.2.2.2.2.1; omega) (h.1 q hq)
      have a2 := Int.mul_pos (show 0 < onP u v n - onP u v q by omega) h2
      omega
theorem Cw.inc : ∀ {cs : List R}, Cw u v l cs → cs.Pairwise fun a b => onP u v a < onP u v b
  | [], _ => List.Pairwise.nil
  | [a], _ => List.pairwise_singleton _ _
  | a :: b :: r, h => by
    have ih := Cw.inc h.tail
    refine List.pairwise_cons.mpr ⟨fun x hx => ?_, ih⟩
    rcases List.mem_cons.mp hx with z | z
    · rw [z]
      exact h.2.2.1
    · exact Int.lt_trans h.2.2.1 ((List.pairwise_cons.mp ih).1 x z)
theorem Cw.pred : ∀ {cs : List R} {a x : R}, Cw u v l (a :: cs) → x ∈ cs → ∃ b r, Cw u v l (b :: x :: r) ∧ b ∈ a :: cs ∧ (x :: r).getLast? = (a :: cs).getLast?
  | [], a, x, _, hx => by cases hx
  | n :: cs, a, x, h, hx => by
    rcases List.mem_cons.mp hx with z | z
    · subst z
      exact ⟨a, cs, h, List.mem_cons_self, by rw [List.getLast?_cons_cons]⟩
    · obtain ⟨b, r, h1, h2, h3⟩ := Cw.pred h.tail z
      exact ⟨b, r, h1, List.mem_cons_of_mem _ h2, by rw [h3, List.getLast?_cons_cons]⟩
end
theorem path_app {ss : List R} : ∀ {A : List R} {e : R} {B : List R}, Path ss (A ++ [e]) → Path ss (e :: B) → Path ss (A ++ e :: B)
  | [], e, B, _, h => h
  | [a], e, B, h1, h2 => ⟨h1.1, h2⟩
  | a :: b :: A, e, B, h1, h2 => ⟨h1.1, path_app (A := b :: A) h1.2 h2⟩
theorem path_mem {ss tt : List R} (h : ∀ q, q ∈ ss ↔ q ∈ tt) : ∀ {cs : List R}, Path ss cs → Path tt cs
  | [], _ => trivial
  | [a], _ => trivial
  | a :: b :: r, hp => ⟨⟨hp.1.ne, (h b).mp hp.1.mem, fun q hq => hp.1.left q ((h q).mpr hq), fun q hq => hp.1.way q ((h q).mpr hq)⟩, path_mem h hp.2⟩
theorem nodup_len : ∀ {l m : List R}, l.Nodup → (∀ x, x ∈ l → x ∈ m) → l.length ≤ m.length
  | [], m, _, _ => Nat.zero_le _
  | x :: l, m, h, hm => by
    obtain ⟨h1, h2⟩ := List.nodup_cons.mp h
    have := nodup_len (l := l) (m := m.erase x) h2 fun y hy => by
      refine (List.mem_erase_of_ne (fun z : y = x => h1 (by rw [← z]; exact hy))).mpr (hm y (List.mem_cons_of_mem _ hy))
    rw [List.length_erase_of_mem (hm x List.mem_cons_self)] at this
    have := List.length_pos_of_mem (hm x List.mem_cons_self)
    simp only [List.length_cons]
    omega
theorem on_lex {p q : R} (hp : Near 400 p) (hq : Near 400 q) (h : ltP2 p q) : onP 1000 1 p < onP 1000 1 q := by
  unfold Near at hp hq
  unfold ltP2 at h
  unfold onP
  omega
theorem on_neg (p : R) : onP (-1000) (-1) p = 0 - onP 1000 1 p := by
  unfold onP
  omega
/-- both chains, put together, are the way round -/
theorem hull_two {ss : List R} (hs : ss.Pairwise ltP2) (hn : ∀ p, p ∈ ss → Near 400 p) (h2 : 2 ≤ ss.length) : hullJ ss = (chainW ss).reverse.dropLast ++ (chainW ss.reverse).reverse.dropLast := by
  have inc : ss.Pairwise fun a b => onP 1000 1 a < onP 1000 1 b := List.Pairwise.imp_of_mem (fun {a b} ha hb h => on_lex (hn a ha) (hn b hb) h) hs
  have inc2 : ss.reverse.Pairwise fun a b => onP (-1000) (-1) a < onP (-1000) (-1) b := by
    rw [List.pairwise_reverse]
    refine List.Pairwise.imp (fun {a b} h => ?_) inc
    rw [on_neg, on_neg]
    omega
  have c1 := chain_ok inc
  have c2 := chain_ok inc2
  have w1 := chain_cw c1.cv
  have w2 := chain_cw c2.cv
  have mr : ∀ q, q ∈ ss.reverse ↔ q ∈ ss := fun q => List.mem_reverse
  obtain ⟨f, ef⟩ : ∃ f, ss.head? = some f := by
    cases ss with
    | nil => simp at h2
    | cons f r => exact ⟨f, rfl⟩
  obtain ⟨e, ee⟩ : ∃ e, ss.getLast? = some e := ⟨_, List.getLast?_eq_getLast (by intro z; rw [z] at h2; simp at h2)⟩
  -- the first is the least one, the last the greatest one
  have least : ∀ q, q ∈ ss → onP 1000 1 f ≤ onP 1000 1 q := fun q hq => by
    cases ss with
    | nil => cases hq
    | cons a r =>
      cases ef
      rcases List.mem_cons.mp hq with z | z
      · rw [z]
        exact Int.le_refl _
      · exact Int.le_of_lt ((List.pairwise_cons.mp inc).1 q z)
  have most : ∀ q, q ∈ ss → onP 1000 1 q ≤ onP 1000 1 e := fun q hq => by
    obtain ⟨ys, hys⟩ := List.getLast?_eq_some_iff.mp ee
    rw [hys] at hq inc
    rcases List.mem_append.mp hq with z | z
    · exact Int.le_of_lt ((List.pairwise_append.mp inc).2.2 q z e (List.mem_singleton.mpr rfl))
    · rw [List.mem_singleton.mp z]
      exact Int.le_refl _
  have fe : onP 1000 1 f < onP 1000 1 e := by
    match ss, h2, ef, ee, inc with
    | a :: b :: r, _, ef, ee, inc =>
      cases ef
      rw [List.getLast?_cons_cons] at ee
      exact (List.pairwise_cons.mp inc).1 e (List.mem_of_getLast? ee)
  have fm : f ∈ ss := by
    cases ss with
    | nil => cases ef
    | cons a r => cases ef; exact List.mem_cons_self
  have em : e ∈ ss := List.mem_of_getLast? ee
  have hf1 : (chainW ss).reverse.head? = some f := by
    obtain ⟨ne, hb⟩ := c1.bot f ef
    rw [botW_head ne, hb]
  have he1 : (chainW ss).reverse.getLast? = some e := by rw [List.getLast?_reverse, c1.top, ee]
  have hf2 : (chainW ss.reverse).reverse.head? = some e := by
    obtain ⟨ne, hb⟩ := c2.bot e (by rw [List.head?_reverse, ee])
    rw [botW_head ne, hb]
  have he2 : (chainW ss.reverse).reverse.getLast? = some f := by rw [List.getLast?_reverse, c2.top, List.getLast?_reverse, ef]
  have m1 : ∀ q, q ∈ (chainW ss).reverse → q ∈ ss := fun q hq => c1.mem q (List.mem_reverse.mp hq)
  have m2 : ∀ q, q ∈ (chainW ss.reverse).reverse → q ∈ ss := fun q hq => (mr q).mp (c2.mem q (List.mem_reverse.mp hq))
  generalize (chainW ss).reverse = L at w1 hf1 he1 m1
  generalize (chainW ss.reverse).reverse = U at w2 hf2 he2 m2
  have p1 : Path ss L := cw_path w1 m1 (fun e' he' q hq => by rw [he1] at he'; cases he'; exact most q hq) (fun c n r ec q hq hlt => by
    rw [ec] at hf1
    cases hf1
    have := least q hq
    omega)
  have p2 : Path ss U := path_mem mr (cw_path w2 (fun q hq => (mr q).mpr (m2 q hq)) (fun e' he' q hq => by
    rw [he2] at he'
    cases he'
    have := least q ((mr q).mp hq)
    rw [on_neg, on_neg]
    omega) (fun c n r ec q hq hlt => by
    rw [ec] at hf2
    cases hf2
    have := most q ((mr q).mp hq)
    rw [on_neg, on_neg] at hlt
    omega))
  obtain ⟨A, eA⟩ := List.getLast?_eq_some_iff.mp he1
  obtain ⟨B, eB⟩ := List.getLast?_eq_some_iff.mp he2
  -- L = f :: A' ++ [e], U = e :: B' ++ [f]
  obtain ⟨A', eA'⟩ : ∃ A', A = f :: A' := by
    cases A with
    | nil =>
      rw [eA] at hf1
      have : e = f := Option.some.inj hf1
      rw [this] at fe
      omega
    | cons a A' =>
      rw [eA] at hf1
      have : a = f := Option.some.inj hf1
      exact ⟨A', by rw [this]⟩
  obtain ⟨B', eB'⟩ : ∃ B', B = e :: B' := by
    cases B with
    | nil =>
      rw [eB] at hf2
      have : f = e := Option.some.inj hf2
      rw [this] at fe
      omega
    | cons a B' =>
      rw [eB] at hf2
      have : a = e := Option.some.inj hf2
      exact ⟨B', by rw [this]⟩
  subst eA' eB'
  have i1 := w1.inc
  have i2 := w2.inc
  rw [eA] at p1 i1 w1
  rw [eB] at p2 i2 w2
  rw [eA, eB, List.dropLast_concat, List.dropLast_concat]
  have q1 : Path ss ((f :: A') ++ e :: (B' ++ [f])) := path_app p1 p2
  have i1a := (List.pairwise_append.mp i1)
  have i2a := (List.pairwise_append.mp i2)
  have nf : ∀ q, q ∈ A' ++ e :: B' → q ≠ f := fun q hq z => by
    subst z
    rcases List.mem_append.mp hq with w | w
    · have := (List.pairwise_cons.mp i1a.1).1 _ w
      omega
    · have := i2a.2.2 _ w _ (List.mem_singleton.mpr rfl)
      omega
  have nd : (A' ++ e :: B').Nodup := by
    rw [List.nodup_append]
    have n1 : (f :: A').Nodup := i1a.1.imp fun {a b} h z => by rw [z] at h; omega
    have n2 : (e :: B').Nodup := i2a.1.imp fun {a b} h z => by rw [z] at h; omega
    refine ⟨(List.nodup_cons.mp n1).2, n2, fun x hx y hy hxy => ?_⟩
    subst hxy
    have xe := i1a.2.2 x (List.mem_cons_of_mem _ hx) e (List.mem_singleton.mpr rfl)
    rcases List.mem_cons.mp hy with z | z
    · rw [z] at xe
      omega
    · obtain ⟨b, r, hb1, hb2, hb3⟩ := Cw.pred (cs := A' ++ [e]) (a := f) (x := x) w1 (List.mem_append_left _ hx)
      obtain ⟨w, r2, hw1, hw2, hw3⟩ := Cw.pred (cs := B' ++ [f]) (a := e) (x := x) w2 (List.mem_append_left _ z)
      have bm : b ∈ ss := m1 b (by rw [eA]; exact hb2)
      have wm : w ∈ ss := m2 w (by rw [eB]; exact hw2)
      have wl := hw1.2.2.1
      rw [on_neg, on_neg] at wl
      have s1 : 0 < crossP b x w := by
        refine hb1.beyond (fun e' he' q hq => ?_) wm (by omega)
        rw [hb3, show f :: (A' ++ [e]) = (f :: A') ++ [e] from rfl, List.getLast?_concat] at he'
        cases he'
        exact most q hq
      have s2 := hw1.1 b ((mr b).mpr bm)
      have k1 := cross_cyc b x w
      have k2 := cross_cyc w x b
      have k3 := cross_swap x b w
      omega
  have len : (A' ++ e :: B').length ≤ ss.length := nodup_len nd fun x hx => by
    rcases List.mem_append.mp hx with z | z
    · exact m1 x (by rw [eA]; exact List.mem_append_left _ (List.mem_cons_of_mem _ z))
    · exact m2 x (by rw [eB]; exact List.mem_append_left _ z)
  have fin := goP_path (ss := ss) (f := f) (A' ++ e :: B') [] ss.length f rfl (by rw [List.append_assoc]; exact q1) nf len
  rw [List.nil_append] at fin
  have hj : hullJ ss = goP ss f ss.length [f] := by
    cases ss with
    | nil => cases ef
    | cons a r => cases ef; rfl
  rw [hj, fin]
  rfl
theorem hullJ_one (x : R) : hullJ [x] = [x] := by
  show goP [x] x 1 [x] = [x]
  unfold goP
  have e : nextP x [x] = x := by
    unfold nextP
    rw [List.foldl_cons, if_neg (fun z => z.1 rfl)]
    rfl
  rw [show [x].getLastD x = x from rfl, e, if_pos rfl]
theorem noLs_R2 (xs : List R) : noLs (xs.map encR) = true := noLs_R xs
theorem hull_eq {ps : List R} (h0 : ps ≠ []) (h1 : ps.length ≤ 9900) (h2 : ∀ p, p ∈ ps → Near 400 p) : ev_hull [encL ps] = some (encL (hullJ (srtP ps)), true, []) := by
  have key : Ok (ev_hull [encL ps]) fun r => r = (encL (hullJ (srtP ps)), true, []) := by
    unfold ev_hull b_hull encL
    rw [w_def rfl]
    walk_at "ev"
    have pos : 0 < ps.length := List.length_pos_iff.mpr h0
    have near : ∀ p, p ∈ srtP ps → Near 400 p := fun p hp => h2 p (mem_srtP.mp hp)
    have ne : srtP ps ≠ [] := fun z => by
      cases ps with
      | nil => exact h0 rfl
      | cons x l =>
        have : x ∈ srtP (x :: l) := mem_srtP.mpr List.mem_cons_self
        rw [z] at this
        cases this
    have len := Nat.le_trans (srtP_len ps) h1
    have st := str_srtP ps
    generalize srtP ps = ss at near ne len st
    refine ⟨fun z => by omega, fun _ => ⟨h1, fun c => ?_, fun c => ?_⟩⟩
    · match ss, ne, c with
      | [x], _, _ => rw [hullJ_one]
      | x :: y :: r, _, c => simp only [List.length_cons] at c; omega
    · have sl : 2 ≤ ss.length := by
        have := List.length_pos_iff.mpr ne
        omega
      have e1 := half_round_eq (ps := ss) (by omega) (fun p hp => (near p hp).mono (by decide))
      have e2 := half_round_eq (ps := ss.reverse) (by rw [List.length_reverse]; omega) (fun p hp => (near p (List.mem_reverse.mp hp)).mono (by decide))
      have l1 := chain_len ss []
      have l2 := chain_len ss.reverse []
      rw [List.length_reverse] at l2
      unfold encL at e1 e2
      refine ok_eq e1 ?_
      walk_at "ev"
      refine ⟨noLs_R2 _, ?_⟩
      rw [← List.map_reverse]
      refine ok_eq e2 ?_
      walk_at "ev"
      rw [hull_two st near sl]
      simp only [cutD_last, List.length_dropLast, List.length_map, List.length_reverse]
      unfold chainW
      refine ⟨by simp only [List.length_nil] at l1 l2; omega, ?_⟩
      rw [List.map_append, List.map_dropLast, List.map_dropLast]
  obtain ⟨r, e, h⟩ := key
  rw [e, h]
end Lw
namespace Lw
open PySem L2 Dv
def sb (a b : R) : R := (a.1 - b.1, a.2 - b.2)
def ad (a b : R) : R := (a.1 + b.1, a.2 + b.2)
def det (a b : R) : Int := a.1 * b.2 - a.2 * b.1
section
variable (u v : Int)
def InOk (S : List R) : Option R → R → Prop
  | none, x => ∀ s, s ∈ S → onP u v x ≤ onP u v s
  | some p, x => 0 < onP u v p ∧ ∀ s, s ∈ S → 0 ≤ det p (sb s x)
/-- from x on by the ways es, all of S to the left -/
def St (S : List R) : Option R → R → List R → Prop
  | prev, x, [] => x ∈ S ∧ InOk u v S prev x ∧ ∀ s, s ∈ S → onP u v s ≤ onP u v x
  | prev, x, e :: es => x ∈ S ∧ InOk u v S prev x ∧ (∀ p, prev = some p → 0 < det p e) ∧ 0 < onP u v e ∧ (∀ s, s ∈ S → 0 ≤ det e (sb s x)) ∧ St S (some e) (ad x e) es
end
section
variable {u v : Int} {S T W : List R}
theorem St.mem {prev : Option R} {x : R} {es : List R} (h : St u v S prev x es) : x ∈ S := by
  cases es <;> exact h.1
theorem St.on {prev : Option R} {x : R} {es : List R} (h : St u v S prev x es) : ∀ e, es.head? = some e → 0 < onP u v e := fun e he => by
  cases es with
  | nil => cases he
  | cons a r => cases he; exact h.2.2.2.1
theorem St.tl {prev : Option R} {x e : R} {es : List R} (h : St u v S prev x (e :: es)) : St u v S (some e) (ad x e) es := h.2.2.2.2.2
end
def hs : List R → R → Int
  | [], _ => 0
  | [x], d => det x d
  | x :: y :: r, d => if hs (y :: r) d > det x d then hs (y :: r) d else det x d
section
variable {u v : Int} {S T W : List R}
def endp (x : R) (es : List R) : R := es.foldl ad x
end
end Lw
namespace Lw
open PySem L2 Dv
def pts (x : R) : List R → List R
  | [] => [x]
  | e :: es => x :: pts (ad x e) es
def ptsD (x : R) : List R → List R
  | [] => []
  | e :: es => x :: ptsD (ad x e) es
theorem ptsD_len : ∀ (es : List R) (x : R), (ptsD x es).length = es.length
  | [], _ => rfl
  | e :: es, x => by
    show (ptsD (ad x e) es).length + 1 = _
    rw [ptsD_len es]
    rfl
section
variable {u v : Int} {S : List R}
theorem InOk.sub {T : List R} (hs : ∀ q, q ∈ T → q ∈ S) {prev : Option R} {x : R} (h : InOk u v S prev x) : InOk u v T prev x := by
  cases prev with
  | none => exact fun s hs' => h s (hs s hs')
  | some p => exact ⟨h.1, fun s hs' => h.2 s (hs s hs')⟩
theorem St.sub {T : List R} (hs : ∀ q, q ∈ T → q ∈ S) : ∀ {es : List R} {x : R} {prev : Option R}, St u v S prev x es → (∀ q, q ∈ pts x es → q ∈ T) → St u v T prev x es
  | [], x, prev, h, hp => ⟨hp x List.mem_cons_self, h.2.1.sub hs, fun s hs' => h.2.2 s (hs s hs')⟩
  | e :: es, x, prev, h, hp => ⟨hp x List.mem_cons_self, h.2.1.sub hs, h.2.2.1, h.2.2.2.1, fun s hs' => h.2.2.2.2.1 s (hs s hs'), St.sub hs h.tl fun q hq => hp q (List.mem_cons_of_mem _ hq)⟩
end
def cornersE (f : R) (es : List R) (e : R) (us : List R) : List R := if es = [] ∧ us = [] then [f] else ptsD f es ++ ptsD e us
structure Shape (P es us : List R) (f e : R) : Prop where
  low : St 1000 1 P none f es
  up : St (-1000) (-1) P none e us
  le : endp f es = e
  ue : endp e us = f
  eq : P = cornersE f es e us
end Lw
namespace Lw
open PySem L2 Dv
def fanD (c : R) : List R → Int
  | a :: b :: r => crossP c a b + fanD c (b :: r)
  | _ => 0
def dbl : List R → Int
  | [] => 0
  | c :: r => fanD c r
def lastR (a : R) : List R → R
  | [] => a
  | b :: r => lastR b r
section
variable {P Q Z es us es' us' : List R} {f e f' e' f'' e'' : R}
theorem Shape.len (h : Shape P es us f e) : P.length ≤ 1 + es.length + us.length := by
  rw [h.eq]
  unfold cornersE
  split
  · show 1 ≤ _
    omega
  · rw [List.length_append, ptsD_len, ptsD_len]
    omega
end
end Lw
namespace Lw
open PySem L2 Dv
theorem gSum_i (ns : List Int) : gSum [.lst (ns.map D.int)] = some (.val (.int ns.sum)) := by
  show (allInts (ns.map D.int)).bind _ = _
  rw [allInts_map]
  rfl
theorem fan_range (c : R) : ∀ (r : List R) (a : R), fanD c (a :: r) = ((List.range r.length).map fun k => crossP c ((a :: r).getD k (0, 0)) ((a :: r).getD (k + 1) (0, 0))).sum
  | [], a => rfl
  | b :: r, a => by
    show crossP c a b + fanD c (b :: r) = _
    rw [fan_range c r b, List.length_cons, List.range_succ_eq_map, List.map_cons, List.sum_cons, List.map_map]
    rfl
theorem doubled_eq {cs : List R} (h0 : cs ≠ []) (hl : cs.length ≤ 100000) (hc : ∀ p, p ∈ cs → Near (10 ^ 9) p) : ev_doubled [encL cs] = some (.int (dbl cs), false, []) := by
  have key : Ok (ev_doubled [encL cs]) fun r => r = (.int (dbl cs), false, []) := by
    cases cs with
    | nil => exact absurd rfl h0
    | cons c r =>
      have ed : dbl (c :: r) = ((List.range (r.length - 1)).map fun k => crossP c ((c :: r).getD (1 + k) (0, 0)) ((c :: r).getD (1 + k + 1) (0, 0))).sum := by
        cases r with
        | nil => rfl
        | cons a r =>
          show fanD c (a :: r) = _
          rw [fan_range]
          congr 1
          refine List.map_congr_left fun k _ => ?_
          rw [Nat.add_comm 1 k]
          rfl
      rw [ed]
      generalize hcs : c :: r = cs at hl hc
      have hr : r.length + 1 = cs.length := by rw [← hcs]; rfl
      have e0 : L2.atI (cs.map encR) 0 = some (encR c) := by rw [← hcs, List.map_cons, atI_0]
      have cm : c ∈ cs := by rw [← hcs]; exact List.mem_cons_self
      unfold ev_doubled b_doubled encL
      rw [w_def rfl]
      walk_at "ev"
      refine ⟨by omega, ?_⟩
      have et : ((cs.length : Int) - 1 - 1).toNat = r.length - 1 := by omega
      rw [et]
      refine lc_map (c := fun k : Nat => D.int (1 + (k : Nat))) (h := fun k => .int (crossP c (cs.getD (1 + k) (0, 0)) (cs.getD (1 + k + 1) (0, 0)))) (xs := List.range (r.length - 1)) (fun k hk acc => ?_) ?_
      · have hk2 := List.mem_range.mp hk
        have g1 : cs[1 + k]? = some (cs.getD (1 + k) (0, 0)) := by
          rw [List.getD_eq_getElem?_getD, List.getElem?_eq_getElem (by omega)]
          rfl
        have g2 : cs[1 + k + 1]? = some (cs.getD (1 + k + 1) (0, 0)) := by
          rw [List.getD_eq_getElem?_getD, List.getElem?_eq_getElem (by omega)]
          rfl
        have a1 : L2.atI (cs.map encR) (1 + (k : Int)) = some (encR (cs.getD (1 + k) (0, 0))) := by
          rw [show (1 + (k : Int)) = ((1 + k : Nat) : Int) by omega, atI_natC, List.getElem?_map, g1]
          rfl
        have a2 : L2.atI (cs.map encR) (1 + (k : Int) + 1) = some (encR (cs.getD (1 + k + 1) (0, 0))) := by
          rw [show (1 + (k : Int) + 1) = ((1 + k + 1 : Nat) : Int) by omega, atI_natC, List.getElem?_map, g2]
          rfl
        walk_at "ev"
        refine ok_eq e0 ?_
        walk_at "ev"
        refine ok_eq a1 ?_
        walk_at "ev"
        refine ok_eq a2 ?_
        walk_at "ev"
        refine ok_eq (cross_eq (hc _ cm) (hc _ (List.mem_of_getElem? g1)) (hc _ (List.mem_of_getElem? g2))) ?_
        walk_at "ev"
      · walk_at "ev"
        rw [List.length_range]
        have e : (List.range (r.length - 1)).map (fun k => D.int (crossP c (cs.getD (1 + k) (0, 0)) (cs.getD (1 + k + 1) (0, 0)))) = ((List.range (r.length - 1)).map fun k => crossP c (cs.getD (1 + k) (0, 0)) (cs.getD (1 + k + 1) (0, 0))).map D.int := by rw [List.map_map]; rfl
        rw [e]
        refine ⟨by omega, ok_eq (gSum_i _) ?_⟩
        walk_at "ev"
  obtain ⟨r, e, h⟩ := key
  rw [e, h]
def sumsL (P Q : List R) : List R := P.flatMap fun p => Q.map (ad p)
theorem mem_sums {P Q : List R} {w : R} : w ∈ sumsL P Q ↔ ∃ s, s ∈ P ∧ ∃ t, t ∈ Q ∧ w = ad s t := by
  unfold sumsL
  rw [List.mem_flatMap]
  constructor
  · rintro ⟨s, hs', h⟩
    obtain ⟨t, ht, e⟩ := List.mem_map.mp h
    exact ⟨s, hs', t, ht, e.symm⟩
  · rintro ⟨s, hs', t, ht, e⟩
    exact ⟨s, hs', List.mem_map.mpr ⟨t, ht, e.symm⟩⟩
theorem sums_len (P Q : List R) : (sumsL P Q).length = P.length * Q.length := by
  unfold sumsL
  induction P with
  | nil => simp
  | cons p P ih =>
    rw [List.flatMap_cons, List.length_append, ih, List.length_map, List.length_cons, Nat.add_mul]
    omega
theorem sums_near {P Q : List R} {m n : Int} (hP : ∀ p, p ∈ P → Near m p) (hQ : ∀ p, p ∈ Q → Near n p) : ∀ w, w ∈ sumsL P Q → Near (m + n) w := fun w hw => by
  obtain ⟨s, hs', t, ht, rfl⟩ := mem_sums.mp hw
  have a := hP s hs'
  have b := hQ t ht
  unfold Near at *
  show -(m + n) ≤ s.1 + t.1 ∧ s.1 + t.1 ≤ m + n ∧ -(m + n) ≤ s.2 + t.2 ∧ s.2 + t.2 ≤ m + n
  omega
def putP (P Q : List R) : List R := hullJ (srtP (sumsL P Q))
theorem put_together_eq {P Q : List R} (hP : P ≠ []) (hQ : Q ≠ []) (hl : P.length * Q.length ≤ 9900) (nW : ∀ w, w ∈ sumsL P Q → Near 400 w) : ev_put_together [encL P, encL Q] = some (encL (putP P Q), true, []) := by
  have lQ : Q.length ≤ 9900 := by
    have : 1 ≤ P.length := List.length_pos_iff.mpr hP
    have := Nat.mul_le_mul_right Q.length this
    omega
  have lP : P.length ≤ 9900 := by
    have : 1 ≤ Q.length := List.length_pos_iff.mpr hQ
    have := Nat.mul_le_mul_left P.length this
    omega
  have key : Ok (ev_put_together [encL P, encL Q]) fun r => r = (encL (putP P Q), true, []) := by
    unfold ev_put_together b_put_together encL
    rw [w_def rfl]
    walk_at "ev"
    refine loop_inv (fun j env => ∃ s3 s4 : SV, env = [.fz (.lst (P.map encR)), .fz (.lst (Q.map encR)), .o1 ((sumsL (P.take j) Q).map encR), s3, s4, .no, .no] ∧ freeP s3 = true ∧ freeP s4 = true) _ 0 _ ⟨.no, .no, rfl, rfl, rfl⟩ (fun j d env hd hi => ?_) fun env hi => ?_
    · obtain ⟨s3, s4, rfl, f3, f4⟩ := hi
      rw [Nat.zero_add]
      rw [List.getElem?_map] at hd
      obtain ⟨p, hp, rfl⟩ := Option.map_eq_some_iff.mp hd
      have hj := (List.getElem?_eq_some_iff.mp hp).1
      have et : sumsL (P.take (j + 1)) Q = sumsL (P.take j) Q ++ Q.map (ad p) := by
        unfold sumsL
        rw [List.take_succ, hp, List.flatMap_append]
        simp
      have ln := sums_len (P.take j) Q
      rw [List.length_take, Nat.min_eq_left (Nat.le_of_lt hj)] at ln
      have lj : j * Q.length ≤ P.length * Q.length := Nat.mul_le_mul_right _ (Nat.le_of_lt hj)
      rw [et]
      unfold encR
      walk_at "ev"
      refine ⟨f3, f4, ?_⟩
      show Ok (lcN _ _ _ _ (Q.map encR) _) _
      refine lc_map (c := encR) (h := fun q => encR (ad p q)) (xs := Q) (fun q _ acc => ?_) ?_
      · unfold encR
        walk_at "ev"
        rfl
      · walk_at "ev"
        refine ⟨by omega, ?_⟩
        refine ⟨by rw [ln]; omega, .fz (.int p.1), .fz (.int p.2), ?_, rfl, rfl⟩
        rw [List.map_append, List.map_map]
        rfl
    · obtain ⟨s3, s4, rfl, f3, f4⟩ := hi
      rw [Nat.zero_add, List.length_map, List.take_length]
      have ne : sumsL P Q ≠ [] := fun z => by
        have := sums_len P Q
        rw [z] at this
        have h1 : 1 ≤ P.length := List.length_pos_iff.mpr hP
        have h2 : 1 ≤ Q.length := List.length_pos_iff.mpr hQ
        have h3 := Nat.mul_le_mul h1 h2
        rw [← this] at h3
        simp at h3
      have e := hull_eq ne (by rw [sums_len]; exact hl) nW
      unfold encL at e
      walk_at "ev"
      refine ok_eq e ?_
      walk_at "ev"
      rfl
  obtain ⟨r, e, h⟩ := key
  rw [e, h]
end Lw
namespace Lw
open PySem L2 Dv
theorem fdiv_less {p n : Int} (hp : 2 ≤ p) (hn : n ≠ 0) (hd : n.fmod p = 0) : (n.fdiv p).natAbs < n.natAbs ∧ n.fdiv p ≠ 0 := by
  have e := Int.mul_fdiv_add_fmod n p
  rw [hd, Int.add_zero] at e
  have h0 : n.fdiv p ≠ 0 := fun z => by
    rw [z, Int.mul_zero] at e
    exact hn e.symm
  refine ⟨?_, h0⟩
  have e2 : p.natAbs * (n.fdiv p).natAbs = n.natAbs := by rw [← Int.natAbs_mul, e]
  have h1 : 1 ≤ (n.fdiv p).natAbs := by omega
  have h2 : 2 ≤ p.natAbs := by omega
  have := Nat.mul_le_mul_right (n.fdiv p).natAbs h2
  omega
def ho (p n : Int) : Nat := if h : 2 ≤ p ∧ n ≠ 0 ∧ n.fmod p = 0 then ho p (n.fdiv p) + 1 else 0
termination_by n.natAbs
decreasing_by exact (fdiv_less h.1 h.2.1 h.2.2).1
theorem ho_step {p n : Int} (hp : 2 ≤ p) (hn : n ≠ 0) (hd : n.fmod p = 0) : ho p n = ho p (n.fdiv p) + 1 := by
  rw [ho, dif_pos ⟨hp, hn, hd⟩]
theorem ho_stop {p n : Int} (hd : n.fmod p ≠ 0) : ho p n = 0 := by
  rw [ho, dif_neg (fun z => hd z.2.2)]
theorem how_often_eq {n p : Int} (hn : n ≠ 0) (hp : 2 ≤ p) (hp2 : p ≤ 10 ^ 40) : ev_how_often [.int n, .int p] = some (.int (ho p n : Nat), false, []) := by
  have key : Ok (ev_how_often [.int n, .int p]) fun r => r = (.int (ho p n : Nat), false, []) := by
    unfold ev_how_often b_how_often
    rw [w_def rfl]
    walk_at "ev"
    refine while_inv (fun env => ∃ (m : Int) (f : Nat), env = [.fz (.int m), .fz (.int p), .fz (.int f)] ∧ m ≠ 0 ∧ f + ho p m = ho p n) (fun env => match env with | [.fz (.int m), _, _] => m.natAbs | _ => 0) ?_ _ _ ⟨n, 0, rfl, hn, Nat.zero_add _⟩ ?_
    · rintro env ⟨m, f, rfl, hm, h⟩
      walk_at "ev"
      refine ⟨modB_of (by omega), fun c => ?_, fun c => ?_⟩
      · have l := fdiv_less hp hm c
        refine ⟨div40 (by omega) hp2, ⟨m.fdiv p, f + 1, rfl, l.2, ?_⟩, l.1⟩
        rw [← h, ho_step hp hm c]
        omega
      · rw [← h, ho_stop c]
        rfl
    · show n.natAbs < fuelE [.fz (.int n), .fz (.int p), .fz (.int 0)]
      unfold fuelE
      simp only [List.map_cons, List.map_nil, sizeS, List.sum_cons, List.sum_nil]
      omega
  obtain ⟨r, e, h⟩ := key
  rw [e, h]
def hgt (p : Int) (q : R) : Int := (ho p q.1 : Int) - (ho p q.2 : Int)
theorem law_height_eq {q : R} {p : Int} (h1 : q.1 ≠ 0) (h2 : q.2 ≠ 0) (hp : 2 ≤ p) (hp2 : p ≤ 10 ^ 40) : ev__law_height [encR q, .int p] = some (.int (hgt p q), false, []) := by
  have key : Ok (ev__law_height [encR q, .int p]) fun r => r = (.int (hgt p q), false, []) := by
    unfold ev__law_height b__law_height
    rw [w_def rfl]
    unfold encR
    walk_at "ev"
    refine while_inv (fun env => ∃ (m : Int) (f : Nat), env = [.fz (.tup [.int q.1, .int q.2]), .fz (.int p), .fz (.int m), .fz (.int q.2), .fz (.int f)] ∧ m ≠ 0 ∧ f + ho p m = ho p q.1) (fun env => match env with | [_, _, .fz (.int m), _, _] => m.natAbs | _ => 0) ?_ _ _ ⟨q.1, 0, rfl, h1, Nat.zero_add _⟩ ?_
    · rintro env ⟨m, f, rfl, hm, h⟩
      walk_at "ev"
      refine ⟨modB_of (by omega), fun c => ?_, fun c => ?_⟩
      · have l := fdiv_less hp hm c
        refine ⟨div40 (by omega) hp2, ⟨m.fdiv p, f + 1, rfl, l.2, ?_⟩, l.1⟩
        rw [← h, ho_step hp hm c]
        omega
      · have ef : f = ho p q.1 := by rw [← h, ho_stop c]; rfl
        refine while_inv (fun env => ∃ (k : Int) (g : Nat), env = [.fz (.tup [.int q.1, .int q.2]), .fz (.int p), .fz (.int m), .fz (.int k), .fz (.int ((ho p q.1 : Int) - g))] ∧ k ≠ 0 ∧ g + ho p k = ho p q.2) (fun env => match env with | [_, _, _, .fz (.int m), _] => m.natAbs | _ => 0) ?_ _ _ ⟨q.2, 0, by rw [ef]; simp, h2, Nat.zero_add _⟩ ?_
        · rintro env ⟨k, g, rfl, hk, h⟩
          walk_at "ev"
          refine ⟨modB_of (by omega), fun c => ?_, fun c => ?_⟩
          · have l := fdiv_less hp hk c
            refine ⟨div40 (by omega) hp2, ⟨k.fdiv p, g + 1, by rw [show ((ho p q.1 : Int) - (g : Int) - 1) = (ho p q.1 : Int) - ((g + 1 : Nat) : Int) by omega], l.2, ?_⟩, l.1⟩
            rw [← h, ho_step hp hk c]
            omega
          · unfold hgt
            rw [← h, ho_stop c]
            simp
        · show q.2.natAbs < fuelE [.fz (.tup [.int q.1, .int q.2]), .fz (.int p), .fz (.int m), .fz (.int q.2), .fz (.int f)]
          unfold fuelE
          simp only [List.map_cons, List.map_nil, sizeS, List.sum_cons, List.sum_nil]
          omega
    · show q.1.natAbs < fuelE [.fz (.tup [.int q.1, .int q.2]), .fz (.int p), .fz (.int q.1), .fz (.int q.2), .fz (.int 0)]
      unfold fuelE
      simp only [List.map_cons, List.map_nil, sizeS, List.sum_cons, List.sum_nil]
      omega
  obtain ⟨r, e, h⟩ := key
  rw [e, h]
/-- a figure of the laws about heights -/
def FigOk (q : R) : Prop := isR q = true ∧ q.1.natAbs ≤ 10 ^ 8 ∧ q.2.natAbs ≤ 10 ^ 8
end Lw
namespace Lw
open PySem L2 Dv
def Prm (p : Int) : Prop := 2 ≤ p ∧ ∀ a b : Int, p ∣ a * b → p ∣ a ∨ p ∣ b
theorem prm_of {n : Nat} (h2 : 2 ≤ n) (h : ∀ x, x < n → ∀ y, y < n → x * y % n = 0 → x = 0 ∨ y = 0) : Prm (n : Int) := by
  refine ⟨by omega, fun a b hab => ?_⟩
  have pos : (0 : Int) < n := by omega
  have a1 := Int.emod_nonneg a (show (n : Int) ≠ 0 by omega)
  have a2 := Int.emod_lt_of_pos a pos
  have b1 := Int.emod_nonneg b (show (n : Int) ≠ 0 by omega)
  have b2 := Int.emod_lt_of_pos b pos
  have c1 : (((a % n).toNat : Nat) : Int) = a % n := Int.toNat_of_nonneg a1
  have c2 : (((b % n).toNat : Nat) : Int) = b % n := Int.toNat_of_nonneg b1
  have m : (a * b) % n = 0 := Int.emod_eq_zero_of_dvd hab
  rw [Int.mul_emod] at m
  have key := h (a % n).toNat (by omega) (b % n).toNat (by omega) (by
    have : (((a % n).toNat * (b % n).toNat % n : Nat) : Int) = 0 := by
      rw [Int.natCast_emod, Int.natCast_mul, c1, c2]
      exact m
    omega)
  rcases key with z | z
  · exact .inl (Int.dvd_of_emod_eq_zero (by omega))
  · exact .inr (Int.dvd_of_emod_eq_zero (by omega))
theorem prm_all {p : Int} (h : p = 2 ∨ p = 3 ∨ p = 5 ∨ p = 7 ∨ p = 11 ∨ p = 97) : Prm p := by
  rcases h with rfl | rfl | rfl | rfl | rfl | rfl
  · exact prm_of (n := 2) (by decide) (by decide +kernel)
  · exact prm_of (n := 3) (by decide) (by decide +kernel)
  · exact prm_of (n := 5) (by decide) (by decide +kernel)
  · exact prm_of (n := 7) (by decide) (by decide +kernel)
  · exact prm_of (n := 11) (by decide) (by decide +kernel)
  · exact prm_of (n := 97) (by decide) (by decide +kernel)
section
variable {p : Int}
theorem fmod_dvd (hp : 2 ≤ p) {n : Int} : n.fmod p = 0 ↔ p ∣ n := by
  rw [Int.fmod_eq_emod_of_nonneg _ (by omega)]
  exact ⟨Int.dvd_of_emod_eq_zero, Int.emod_eq_zero_of_dvd⟩
theorem ho_pmul (hp : 2 ≤ p) {n : Int} (hn : n ≠ 0) : ho p (p * n) = ho p n + 1 := by
  rw [ho_step hp (Int.mul_ne_zero (by omega) hn) ((fmod_dvd hp).mpr (Int.dvd_mul_right p n)), Int.mul_fdiv_cancel_left n (by omega)]
theorem ho_not (hp : 2 ≤ p) {n : Int} (h : ¬ p ∣ n) : ho p n = 0 := ho_stop fun z => h ((fmod_dvd hp).mp z)
theorem part_less (hp : 2 ≤ p) {n m : Int} (hn : n ≠ 0) (e : n = p * m) : m ≠ 0 ∧ m.natAbs < n.natAbs := by
  have h0 : m ≠ 0 := fun z => by
    rw [z, Int.mul_zero] at e
    exact hn e
  refine ⟨h0, ?_⟩
  rw [e, Int.natAbs_mul]
  have h1 : 1 ≤ m.natAbs := by omega
  have h2 : 2 ≤ p.natAbs := by omega
  have := Nat.mul_le_mul_right m.natAbs h2
  omega
theorem ho_mul (hp : Prm p) : ∀ (k : Nat) (m n : Int), m.natAbs + n.natAbs ≤ k → m ≠ 0 → n ≠ 0 → ho p (m * n) = ho p m + ho p n
  | 0, m, n, h, hm, _ => by omega
  | k + 1, m, n, h, hm, hn => by
    by_cases c : p ∣ m
    · obtain ⟨m', e⟩ := c
      obtain ⟨m0, ml⟩ := part_less hp.1 hm e
      have ih := ho_mul hp k m' n (by omega) m0 hn
      rw [e, Int.mul_assoc, ho_pmul hp.1 (Int.mul_ne_zero m0 hn), ho_pmul hp.1 m0, ih]
      omega
    · by_cases d : p ∣ n
      · obtain ⟨n', e⟩ := d
        obtain ⟨n0, nl⟩ := part_less hp.1 hn e
        have ih := ho_mul hp k m n' (by omega) hm n0
        rw [e, Int.mul_left_comm, ho_pmul hp.1 (Int.mul_ne_zero hm n0), ho_pmul hp.1 n0, ih]
        omega
      · rw [ho_not hp.1 c, ho_not hp.1 d, ho_not hp.1 fun z => (hp.2 m n z).elim c d]
theorem pow_ho (hp : 2 ≤ p) : ∀ (k : Nat) {n : Int}, n ≠ 0 → (p ^ k ∣ n ↔ k ≤ ho p n)
  | 0, n, _ => ⟨fun _ => Nat.zero_le _, fun _ => by rw [Int.pow_zero]; exact Int.one_dvd _⟩
  | k + 1, n, hn => by
    by_cases c : p ∣ n
    · obtain ⟨m, e⟩ := c
      obtain ⟨m0, _⟩ := part_less hp hn e
      rw [e, ho_pmul hp m0, Int.pow_succ, Int.mul_comm (p ^ k) p, Int.mul_dvd_mul_iff_left (by omega), pow_ho hp k m0]
      omega
    · rw [ho_not hp c]
      refine ⟨fun z => absurd (Int.dvd_trans ?_ z) c, fun z => by omega⟩
      rw [Int.pow_succ, Int.mul_comm]
      exact Int.dvd_mul_right _ _
theorem ho_add (hp : 2 ≤ p) {a b : Int} (ha : a ≠ 0) (hb : b ≠ 0) (hab : a + b ≠ 0) : ho p a ≤ ho p (a + b) ∨ ho p b ≤ ho p (a + b) := by
  have key : ∀ k, k ≤ ho p a → k ≤ ho p b → k ≤ ho p (a + b) := fun k h1 h2 => (pow_ho hp k hab).mp (Int.dvd_add ((pow_ho hp k ha).mpr h1) ((pow_ho hp k hb).mpr h2))
  by_cases c : ho p a ≤ ho p b
  · exact .inl (key _ (Nat.le_refl _) c)
  · exact .inr (key _ (by omega) (Nat.le_refl _))
theorem hgt_low (hp : Prm p) {t b : Int} (ht : t ≠ 0) (hb : b ≠ 0) : hgt p (lowR t b) = (ho p t : Int) - ho p b := by
  obtain ⟨h1, h2, _⟩ := lowR_spec (t := t) hb
  have g0 := gS_ne (t := t) hb
  have l1 : (lowR t b).1 ≠ 0 := fun z => by
    rw [z, Int.zero_mul] at h1
    exact ht h1.symm
  have l2 : (lowR t b).2 ≠ 0 := fun z => by
    rw [z, Int.zero_mul] at h2
    exact hb h2.symm
  have e1 := ho_mul hp _ _ _ (Nat.le_refl _) l1 g0
  have e2 := ho_mul hp _ _ _ (Nat.le_refl _) l2 g0
  rw [h1] at e1
  rw [h2] at e2
  unfold hgt
  omega
/-- the height of a ratio -/
def hv (p : Int) (q : Rat) : Int := hgt p (rp q)
theorem num_nz {q : Rat} (h : q ≠ 0) : q.num ≠ 0 := fun z => h ((num_zero q).mp z)
theorem hv_mul (hp : Prm p) {x y : Rat} (hx : x ≠ 0) (hy : y ≠ 0) : hv p (x * y) = hv p x + hv p y := by
  unfold hv
  rw [← mulR_q]
  unfold mulR rp
  dsimp only
  rw [hgt_low hp (Int.mul_ne_zero (num_nz hx) (num_nz hy)) (Int.mul_ne_zero (den_nzI x) (den_nzI y)), ho_mul hp _ _ _ (Nat.le_refl _) (num_nz hx) (num_nz hy), ho_mul hp _ _ _ (Nat.le_refl _) (den_nzI x) (den_nzI y)]
  unfold hgt
  dsimp only
  omega
theorem hv_add (hp : Prm p) {x y : Rat} (hx : x ≠ 0) (hy : y ≠ 0) (hxy : x + y ≠ 0) : hv p x ≤ hv p (x + y) ∨ hv p y ≤ hv p (x + y) := by
  have nx := num_nz hx
  have ny := num_nz hy
  have dx := den_nzI x
  have dy := den_nzI y
  have n0 : x.num * (y.den : Int) + y.num * (x.den : Int) ≠ 0 := fun z => by
    have e := addR_q x y
    unfold addR rp at e
    dsimp only at e
    rw [z] at e
    have l := (lowR_spec (t := 0) (Int.mul_ne_zero dx dy)).1
    have e1 : (lowR 0 ((x.den : Int) * (y.den : Int))).1 = (x + y).num := congrArg Prod.fst e
    rcases Int.mul_eq_zero.mp l with w | w
    · exact num_nz hxy (by rw [← e1, w])
    · exact gS_ne (t := 0) (Int.mul_ne_zero dx dy) w
  have e : hv p (x + y) = (ho p (x.num * (y.den : Int) + y.num * (x.den : Int)) : Int) - ho p ((x.den : Int) * (y.den : Int)) := by
    unfold hv
    rw [← addR_q]
    unfold addR rp
    dsimp only
    exact hgt_low hp n0 (Int.mul_ne_zero dx dy)
  have m1 := ho_mul hp _ _ _ (Nat.le_refl _) nx dy
  have m2 := ho_mul hp _ _ _ (Nat.le_refl _) ny dx
  have m3 := ho_mul hp _ _ _ (Nat.le_refl _) dx dy
  have ex : hv p x = (ho p x.num : Int) - ho p (x.den : Int) := rfl
  have ey : hv p y = (ho p y.num : Int) - ho p (y.den : Int) := rfl
  rcases ho_add hp.1 (Int.mul_ne_zero nx dy) (Int.mul_ne_zero ny dx) n0 with h | h
  · left
    omega
  · right
    omega
theorem hv_neg (hp : Prm p) {x : Rat} (hx : x ≠ 0) : hv p (-x) = hv p x := by
  have h1 : hv p (-1) = 0 := by
    have o : ho p (1 : Int) = 0 := ho_not hp.1 fun z => by
      have := Int.le_of_dvd (by decide) z
      have := hp.1
      omega
    have o2 : ho p (-1 : Int) = 0 := ho_not hp.1 fun z => by
      have := Int.le_of_dvd (by decide) (Int.dvd_neg.mpr z)
      have := hp.1
      omega
    show ((ho p (-1 : Int) : Nat) : Int) - ((ho p (1 : Int) : Nat) : Int) = 0
    rw [o, o2]
    rfl
  have e : -x = -1 * x := by grind
  rw [e, hv_mul hp (by decide) hx, h1, Int.zero_add]
/-- what is higher changes nothing -/
theorem hv_lt (hp : Prm p) {x y : Rat} (hx : x ≠ 0) (h : y = 0 ∨ hv p x < hv p y) : x + y ≠ 0 ∧ hv p (x + y) = hv p x := by
  by_cases y0 : y = 0
  · rw [y0, Rat.add_zero]
    exact ⟨hx, rfl⟩
  · have h := h.resolve_left y0
    have n0 : x + y ≠ 0 := fun z => by
      have : y = -x := by grind
      rw [this, hv_neg hp hx] at h
      omega
    refine ⟨n0, ?_⟩
    have e : x + y + -y = x := by grind
    have a := hv_add hp hx y0 n0
    have b := hv_add hp (x := x + y) (y := -y) n0 (fun z => y0 (by grind)) (by rw [e]; exact hx)
    rw [e, hv_neg hp y0] at b
    omega
/-- at least so high, t times -/
def GeT (p t m : Int) (x : Rat) : Prop := x = 0 ∨ m ≤ t * hv p x
theorem GeT.add (hp : Prm p) {t m : Int} (ht : 0 < t) {x y : Rat} (h1 : GeT p t m x) (h2 : GeT p t m y) : GeT p t m (x + y) := by
  by_cases x0 : x = 0
  · rw [x0, Rat.zero_add]
    exact h2
  · by_cases y0 : y = 0
    · rw [y0, Rat.add_zero]
      exact h1
    · by_cases n0 : x + y = 0
      · exact .inl n0
      · have h1 := h1.resolve_left x0
        have h2 := h2.resolve_left y0
        rcases hv_add hp x0 y0 n0 with z | z
        · have := Int.mul_le_mul_of_nonneg_left z (Int.le_of_lt ht)
          exact .inr (by omega)
        · have := Int.mul_le_mul_of_nonneg_left z (Int.le_of_lt ht)
          exact .inr (by omega)
theorem hv_lt' (hp : Prm p) {t : Int} (ht : 0 < t) {x y : Rat} (hx : x ≠ 0) (h : GeT p t (t * hv p x + 1) y) : x + y ≠ 0 ∧ hv p (x + y) = hv p x :=
  hv_lt hp hx (h.imp id fun z => by
    refine Classical.byContradiction fun w => ?_
    have := Int.mul_le_mul_of_nonneg_left (show hv p y ≤ hv p x by omega) (Int.le_of_lt ht)
    omega)
theorem mulC_ge (hp : Prm p) {t m : Int} (ht : 0 < t) (g : PS) : ∀ (k : Nat) (f : PS), (∀ i j, i + j = k → GeT p t m (f.co i * g.co j)) → GeT p t m (PS.mulC k f g)
  | 0, f, h => h 0 0 rfl
  | k + 1, f, h => by
    rw [PS.mulC_s]
    exact (h 0 (k + 1) (by omega)).add hp ht (mulC_ge hp ht g k f.tl fun i j hij => h (i + 1) j (by omega))
/-- one is less high than all others -/
theorem mulC_one (hp : Prm p) {t : Int} (ht : 0 < t) (g : PS) : ∀ (k : Nat) (f : PS) (a b : Nat), a + b = k → f.co a * g.co b ≠ 0 → (∀ i j, i + j = k → i ≠ a → GeT p t (t * hv p (f.co a * g.co b) + 1) (f.co i * g.co j)) → PS.mulC k f g ≠ 0 ∧ hv p (PS.mulC k f g) = hv p (f.co a * g.co b)
  | 0, f, a, b, e, n0, _ => by
    have : a = 0 ∧ b = 0 := by omega
    obtain ⟨rfl, rfl⟩ := this
    exact ⟨n0, rfl⟩
  | k + 1, f, 0, b, e, n0, h => by
    have : b = k + 1 := by omega
    subst this
    rw [PS.mulC_s]
    exact hv_lt' hp ht n0 (mulC_ge hp ht g k f.tl fun i j hij => h (i + 1) j (by omega) (by omega))
  | k + 1, f, a + 1, b, e, n0, h => by
    have ih := mulC_one hp ht g k f.tl a b (by omega) n0 fun i j hij hi => h (i + 1) j (by omega) (by omega)
    rw [PS.mulC_s, Rat.add_comm]
    have hz := h 0 (k + 1) (by omega) (by omega)
    have e1 : f.tl.co a * g.co b = f.co (a + 1) * g.co b := rfl
    rw [e1] at ih
    rw [← ih.2] at hz
    obtain ⟨q1, q2⟩ := hv_lt' hp ht ih.1 hz
    exact ⟨q1, q2.trans ih.2⟩
structure FaceN (p t s : Int) (f : PS) (M : Int) (lo hi : Nat) : Prop where
  l0 : f.co lo ≠ 0
  h0 : f.co hi ≠ 0
  lw : t * hv p (f.co lo) + s * lo = M
  hw : t * hv p (f.co hi) + s * hi = M
  ge : ∀ k, f.co k ≠ 0 → M ≤ t * hv p (f.co k) + s * k ∧ (t * hv p (f.co k) + s * k = M → lo ≤ k ∧ k ≤ hi)
theorem least_ex2 (P : Nat → Prop) (w : Nat → Int) : ∀ n, (∃ k, k < n ∧ P k) → ∃ M lo hi, lo < n ∧ P lo ∧ P hi ∧ w lo = M ∧ w hi = M ∧ ∀ k, k < n → P k → M ≤ w k ∧ (w k = M → lo ≤ k ∧ k ≤ hi)
  | 0, ⟨k, h, _⟩ => by omega
  | n + 1, ⟨k, hk, pk⟩ => by
    by_cases c : ∃ k, k < n ∧ P k
    · obtain ⟨M, lo, hi, h0, h1, h2, h3, h4, h5⟩ := least_ex2 P w n c
      by_cases pn : P n
      · rcases Int.lt_trichotomy (w n) M with z | z | z
        · refine ⟨w n, n, n, by omega, pn, pn, rfl, rfl, fun j hj pj => ?_⟩
          by_cases e : j = n
          · subst e
            exact ⟨Int.le_refl _, fun _ => ⟨Nat.le_refl _, Nat.le_refl _⟩⟩
          · have := h5 j (by omega) pj
            exact ⟨by omega, fun y => by omega⟩
        · refine ⟨M, lo, n, by omega, h1, pn, h3, z, fun j hj pj => ?_⟩
          by_cases e : j = n
          · subst e
            exact ⟨by omega, fun _ => ⟨by omega, Nat.le_refl _⟩⟩
          · have := h5 j (by omega) pj
            exact ⟨this.1, fun y => ⟨(this.2 y).1, by omega⟩⟩
        · refine ⟨M, lo, hi, by omega, h1, h2, h3, h4, fun j hj pj => ?_⟩
          by_cases e : j = n
          · subst e
            exact ⟨by omega, fun y => by omega⟩
          · exact h5 j (by omega) pj
      · refine ⟨M, lo, hi, by omega, h1, h2, h3, h4, fun j hj pj => ?_⟩
        by_cases e : j = n
        · subst e
          exact absurd pj pn
        · exact h5 j (by omega) pj
    · have e : k = n := by
        refine Classical.byContradiction fun z => c ⟨k, by omega, pk⟩
      subst e
      refine ⟨w k, k, k, by omega, pk, pk, rfl, rfl, fun j hj pj => ?_⟩
      have e : j = k := by
        refine Classical.byContradiction fun z => c ⟨j, by omega, pj⟩
      subst e
      exact ⟨Int.le_refl _, fun _ => ⟨Nat.le_refl _, Nat.le_refl _⟩⟩
theorem FaceN.ex (p t s : Int) {f : PS} {n : Nat} (hn : ∀ k, n ≤ k → f.co k = 0) {k : Nat} (hk : f.co k ≠ 0) : ∃ M lo hi, FaceN p t s f M lo hi := by
  have lt : ∀ k, f.co k ≠ 0 → k < n := fun k h => by
    refine Classical.byContradiction fun z => h (hn k (by omega))
  obtain ⟨M, lo, hi, _, h1, h2, h3, h4, h5⟩ := least_ex2 (fun k => f.co k ≠ 0) (fun k => t * hv p (f.co k) + s * k) n ⟨k, lt k hk, hk⟩
  exact ⟨M, lo, hi, h1, h2, h3, h4, fun k h => h5 k (lt k h) h⟩
/-- products: faces are added -/
theorem FaceN.mul (hp : Prm p) {t s : Int} (ht : 0 < t) {f g : PS} {M M' : Int} {lo hi lo' hi' : Nat} (h : FaceN p t s f M lo hi) (k : FaceN p t s g M' lo' hi') : FaceN p t s (f * g) (M + M') (lo + lo') (hi + hi') := by
  -- the height of a part
  have part : ∀ i j, f.co i * g.co j ≠ 0 → f.co i ≠ 0 ∧ g.co j ≠ 0 ∧ hv p (f.co i * g.co j) = hv p (f.co i) + hv p (g.co j) := fun i j n0 => by
    have a : f.co i ≠ 0 := fun z => n0 (by rw [z, Rat.zero_mul])
    have b : g.co j ≠ 0 := fun z => n0 (by rw [z, Rat.mul_zero])
    exact ⟨a, b, hv_mul hp a b⟩
  have low : ∀ n i j : Nat, i + j = n → f.co i * g.co j ≠ 0 → M + M' ≤ t * hv p (f.co i * g.co j) + s * n ∧ (t * hv p (f.co i * g.co j) + s * n = M + M' → lo ≤ i ∧ i ≤ hi ∧ lo' ≤ j ∧ j ≤ hi') := fun n i j e n0 => by
    obtain ⟨a, b, c⟩ := part i j n0
    have u := h.ge i a
    have v := k.ge j b
    have e1 : s * (n : Nat) = s * (i : Nat) + s * (j : Nat) := by
      rw [← e, Int.natCast_add, Int.mul_add]
    rw [c, Int.mul_add, e1]
    refine ⟨by omega, fun z => ?_⟩
    have u2 := u.2 (by omega)
    have v2 := v.2 (by omega)
    omega
  -- one end
  have one : ∀ a b : Nat, f.co a ≠ 0 → g.co b ≠ 0 → t * hv p (f.co a) + s * a = M → t * hv p (g.co b) + s * b = M' → (∀ i j, i + j = a + b → lo ≤ i → i ≤ hi → lo' ≤ j → j ≤ hi' → i = a) → (f * g).co (a + b) ≠ 0 ∧ t * hv p ((f * g).co (a + b)) + s * ((a + b : Nat) : Int) = M + M' := fun a b a0 b0 wa wb un => by
    have n0 : f.co a * g.co b ≠ 0 := fun z => by
      rcases Rat.mul_eq_zero.mp z with y | y
      · exact a0 y
      · exact b0 y
    have e2 : t * hv p (f.co a * g.co b) + s * ((a + b : Nat) : Int) = M + M' := by
      rw [hv_mul hp a0 b0, Int.mul_add, Int.natCast_add, Int.mul_add]
      omega
    obtain ⟨q1, q2⟩ := mulC_one hp ht g (a + b) f a b rfl n0 fun i j hij hi => by
      by_cases z : f.co i * g.co j = 0
      · exact .inl z
      · right
        obtain ⟨x1, x2⟩ := low _ i j hij z
        have : ¬ t * hv p (f.co i * g.co j) + s * ((a + b : Nat) : Int) = M + M' := fun y => by
          obtain ⟨y1, y2, y3, y4⟩ := x2 y
          exact hi (un i j hij y1 y2 y3 y4)
        omega
    refine ⟨q1, ?_⟩
    show t * hv p (PS.mulC (a + b) f g) + _ = _
    rw [q2]
    exact e2
  obtain ⟨l1, l2⟩ := one lo lo' h.l0 k.l0 h.lw k.lw fun i j e _ _ _ _ => by omega
  obtain ⟨r1, r2⟩ := one hi hi' h.h0 k.h0 h.hw k.hw fun i j e _ _ _ _ => by omega
  refine ⟨l1, r1, l2, r2, fun n n0 => ?_⟩
  have ge := mulC_ge hp (m := M + M' - s * n) ht g n f fun i j e => by
    by_cases z : f.co i * g.co j = 0
    · exact .inl z
    · have := (low n i j e z).1
      exact .inr (by omega)
  have ge := ge.resolve_left n0
  have gt : ∀ (c : ¬ (lo + lo' ≤ n ∧ n ≤ hi + hi')), M + M' + 1 ≤ t * hv p ((f * g).co n) + s * n := fun c => by
    have ge := mulC_ge hp (m := M + M' + 1 - s * n) ht g n f fun i j e => by
      by_cases z : f.co i * g.co j = 0
      · exact .inl z
      · obtain ⟨x1, x2⟩ := low n i j e z
        have : ¬ t * hv p (f.co i * g.co j) + s * (n : Nat) = M + M' := fun y => by
          obtain ⟨y1, y2, y3, y4⟩ := x2 y
          omega
        exact .inr (by omega)
    have ge := ge.resolve_left n0
    show _ ≤ t * hv p (PS.mulC n f g) + _
    omega
  refine ⟨?_, fun e => ?_⟩
  · show _ ≤ t * hv p (PS.mulC n f g) + _
    omega
  · refine Classical.byContradiction fun c => ?_
    have := gt c
    omega
end
end Lw
namespace Lw
open PySem L2 Dv
def lenOf (j : R) : List Side → Int
  | [] => 0
  | s :: r => (if s.1 = j then s.2 else 0) + lenOf j r
section
variable {p : Int} {xs : List Rat}
def LenN (p : Int) (f : PS) (N : R → Int) : Prop := ∀ u, isR u = true → ∃ M lo hi, FaceN p u.2 u.1 f M lo hi ∧ (hi : Int) - lo = N u
theorem LenN.mul (hp : Prm p) {f g : PS} {N N' : R → Int} (h : LenN p f N) (k : LenN p g N') : LenN p (f * g) fun u => N u + N' u := fun u hu => by
  obtain ⟨M, lo, hi, F, e⟩ := h u hu
  obtain ⟨M', lo', hi', F', e'⟩ := k u hu
  exact ⟨_, _, _, F.mul hp (isR_pos hu).1 F', by dsimp only; omega⟩
theorem LenN.congr {f : PS} {N N' : R → Int} (h : LenN p f N) (k : ∀ u, isR u = true → N u = N' u) : LenN p f N' := fun u hu => by
  obtain ⟨M, lo, hi, F, e⟩ := h u hu
  exact ⟨M, lo, hi, F, by rw [← k u hu]; exact e⟩
end
theorem ho_pow (p : Int) : ∀ (m : Nat) (n : Int), n.natAbs ≤ m → n ≠ 0 → 2 ^ ho p n ≤ n.natAbs
  | 0, n, h, h0 => by omega
  | m + 1, n, h, h0 => by
    by_cases c : 2 ≤ p ∧ n ≠ 0 ∧ n.fmod p = 0
    · have l := fdiv_less c.1 c.2.1 c.2.2
      have ih := ho_pow p m (n.fdiv p) (by omega) l.2
      have e := Int.mul_fdiv_add_fmod n p
      rw [c.2.2, Int.add_zero] at e
      have e2 : p.natAbs * (n.fdiv p).natAbs = n.natAbs := by rw [← Int.natAbs_mul, e]
      rw [ho_step c.1 c.2.1 c.2.2, Nat.pow_succ]
      have := Nat.mul_le_mul_right (n.fdiv p).natAbs (show 2 ≤ p.natAbs by omega)
      omega
    · rw [ho, dif_neg c]
      show 1 ≤ n.natAbs
      omega
theorem LenN.one {p : Int} {c : Rat} (hc : c ≠ 0) : LenN p (ps [c]) fun _ => 0 := fun u hu => by
  have z : ∀ k, (ps [c]).co k ≠ 0 → k = 0 := fun k h => by
    refine Classical.byContradiction fun y => h (psl_hi [c] k ?_)
    show 1 ≤ k
    omega
  refine ⟨u.2 * hv p c, 0, 0, ⟨hc, hc, ?_, ?_, fun k h => ?_⟩, rfl⟩
  · show u.2 * hv p c + u.1 * ((0 : Nat) : Int) = _
    simp
  · show u.2 * hv p c + u.1 * ((0 : Nat) : Int) = _
    simp
  · have := z k h
    subst this
    show u.2 * hv p c ≤ u.2 * hv p c + u.1 * ((0 : Nat) : Int) ∧ _
    exact ⟨by simp, fun _ => ⟨Nat.le_refl _, Nat.le_refl _⟩⟩
theorem hv_one {p : Int} (hp : Prm p) : hv p 1 = 0 := by
  have o : ho p (1 : Int) = 0 := ho_not hp.1 fun z => by
    have := Int.le_of_dvd (by decide) z
    have := hp.1
    omega
  show ((ho p (1 : Int) : Nat) : Int) - ((ho p (1 : Int) : Nat) : Int) = 0
  omega
def hsN (p : Int) (r : Rat) : Side := ((hv p r, 1), 1)
theorem LenN.lin {p : Int} (hp : Prm p) {r : Rat} (hr : r ≠ 0) : LenN p (ps [-r, 1]) fun u => lenOf u [hsN p r] := fun u hu => by
  obtain ⟨u2, ug⟩ := isR_pos hu
  have n0 : -r ≠ 0 := fun z => hr (by grind)
  have z : ∀ k, (ps [-r, 1]).co k ≠ 0 → k = 0 ∨ k = 1 := fun k h => by
    refine Classical.byContradiction fun y => h (psl_hi [-r, 1] k ?_)
    show 2 ≤ k
    omega
  have c0 : (ps [-r, 1]).co 0 = -r := rfl
  have c1 : (ps [-r, 1]).co 1 = 1 := rfl
  have w0 : u.2 * hv p ((ps [-r, 1]).co 0) + u.1 * ((0 : Nat) : Int) = u.2 * hv p r := by
    rw [c0, hv_neg hp hr]
    simp
  have w1 : u.2 * hv p ((ps [-r, 1]).co 1) + u.1 * ((1 : Nat) : Int) = u.1 := by
    rw [c1, hv_one hp]
    simp
  have one : (ps [-r, 1]).co 1 ≠ 0 := by
    rw [c1]
    decide
  have eL : lenOf u [hsN p r] = if (hv p r, 1) = u then 1 else 0 := by
    unfold lenOf lenOf hsN
    simp
  dsimp only
  rw [eL]
  rcases Int.lt_trichotomy (u.2 * hv p r) u.1 with c | c | c
  · refine ⟨u.2 * hv p r, 0, 0, ⟨by rw [c0]; exact n0, by rw [c0]; exact n0, w0, w0, fun k h => ?_⟩, ?_⟩
    · rcases z k h with e | e
      · subst e
        rw [w0]
        exact ⟨Int.le_refl _, fun _ => ⟨Nat.le_refl _, Nat.le_refl _⟩⟩
      · subst e
        rw [w1]
        exact ⟨by omega, fun y => by omega⟩
    · rw [if_neg]
      · rfl
      · intro y
        rw [← y] at c
        dsimp only at c
        omega
  · refine ⟨u.1, 0, 1, ⟨by rw [c0]; exact n0, one, by rw [w0]; exact c, w1, fun k h => ?_⟩, ?_⟩
    · rcases z k h with e | e
      · subst e
        rw [w0]
        exact ⟨by omega, fun _ => ⟨by omega, by omega⟩⟩
      · subst e
        rw [w1]
        exact ⟨by omega, fun _ => ⟨by omega, by omega⟩⟩
    · rw [if_pos]
      · rfl
      · have d : u.2 ∣ u.1 := ⟨hv p r, c.symm⟩
        have g : u.2 ∣ ((Int.gcd u.1 u.2 : Nat) : Int) := Int.dvd_coe_gcd d (Int.dvd_refl _)
        rw [ug] at g
        have e2 : u.2 = 1 := by
          have := Int.le_of_dvd (by decide) g
          omega
        refine Prod.ext ?_ e2.symm
        rw [e2, Int.one_mul] at c
        exact c
  · refine ⟨u.1, 1, 1, ⟨one, one, w1, w1, fun k h => ?_⟩, ?_⟩
    · rcases z k h with e | e
      · subst e
        rw [w0]
        exact ⟨by omega, fun y => by omega⟩
      · subst e
        rw [w1]
        exact ⟨Int.le_refl _, fun _ => ⟨Nat.le_refl _, Nat.le_refl _⟩⟩
    · rw [if_neg]
      · rfl
      · intro y
        rw [← y] at c
        dsimp only at c
        omega
end Lw
namespace Lw
open PySem L2 Dv
def totT (k : R) (ts : List Trm) : R := ts.foldl (fun acc t => if keyT t = k then addR acc t.2.2 else acc) (0, 1)
def rowT (ts : List Trm) (k : R) : List Trm := if (totT k ts).1 = 0 then [] else [(k.1, k.2, totT k ts)]
def gatherT (ts : List Trm) : List Trm := (srtP (ts.map keyT)).flatMap (rowT ts)
theorem gd_one {n : Nat} : Gd (n + 1) (1, 1) := ⟨rfl, Nat.one_lt_pow (by omega) (by decide), Nat.one_lt_pow (by omega) (by decide)⟩
theorem totT_gd {k : R} {m : Nat} : ∀ (ts : List Trm) (acc : R) (a : Nat), Gd a acc → (∀ t, t ∈ ts → Gd m t.2.2) → Gd (a + ts.length * (m + 1)) (ts.foldl (fun acc t => if keyT t = k then addR acc t.2.2 else acc) acc)
  | [], acc, a, h, _ => by simpa using h
  | t :: ts, acc, a, h, ht => by
    rw [List.foldl_cons]
    have e : a + (t :: ts).length * (m + 1) = (a + m + 1) + ts.length * (m + 1) := by
      rw [List.length_cons, Nat.add_mul]
      omega
    rw [e]
    refine totT_gd ts _ _ ?_ fun u hu => ht u (List.mem_cons_of_mem _ hu)
    split
    · exact addR_gd h (ht t List.mem_cons_self)
    · exact h.mono (by omega)
theorem gather_gd {ts : List Trm} {m : Nat} (h : ∀ t, t ∈ ts → Gd m t.2.2) : ∀ u, u ∈ gatherT ts → Gd (1 + ts.length * (m + 1)) u.2.2 ∧ u.2.2.1 ≠ 0 ∧ ∃ t, t ∈ ts ∧ keyT t = keyT u := by
  intro u hu
  obtain ⟨k, hk, hu⟩ := List.mem_flatMap.mp hu
  unfold rowT at hu
  split at hu
  · cases hu
  · rename_i h0
    rw [List.mem_singleton.mp hu]
    refine ⟨totT_gd ts _ 1 gd_nought h, h0, ?_⟩
    obtain ⟨t, ht, e⟩ := List.mem_map.mp (mem_srtP.mp hk)
    exact ⟨t, ht, e⟩
theorem take_foldl {α β : Type} (f : β → α → β) (b : β) {xs : List α} {i : Nat} {x : α} (h : xs[i]? = some x) : (xs.take (i + 1)).foldl f b = f ((xs.take i).foldl f b) x := by
  rw [List.take_succ, h, List.foldl_append]
  rfl
theorem rowT_len (ts : List Trm) (k : R) : (rowT ts k).length ≤ 1 := by
  unfold rowT
  split
  · exact Nat.zero_le _
  · exact Nat.le_refl _
theorem flat_len {α β : Type} {f : α → List β} (h : ∀ x, (f x).length ≤ 1) : ∀ l : List α, (l.flatMap f).length ≤ l.length
  | [] => Nat.le_refl _
  | x :: l => by
    rw [List.flatMap_cons, List.length_append, List.length_cons]
    have := h x
    have := flat_len h l
    omega
theorem gather_len (ts : List Trm) : (gatherT ts).length ≤ ts.length := by
  have h1 := flat_len (rowT_len ts) (srtP (ts.map keyT))
  have h2 := srtP_len (ts.map keyT)
  rw [List.length_map] at h2
  exact Nat.le_trans h1 h2
end Lw
namespace Lw
open PySem L2 Dv
def stepD (m : List (R × R)) (t : Trm) : List (R × R) := mPut m (keyT t) (addR ((mVal m (keyT t)).getD (0, 1)) t.2.2)
def dicT (ts : List Trm) : List (R × R) := ts.foldl stepD []
def stepT (k : R) (acc : R) (t : Trm) : R := if keyT t = k then addR acc t.2.2 else acc
theorem dic_val (k : R) : ∀ (ts : List Trm) (m : List (R × R)), (k ∈ ts.map keyT ∨ (mVal m k).isSome = true) → mVal (ts.foldl stepD m) k = some (ts.foldl (stepT k) ((mVal m k).getD (0, 1)))
  | [], m, h => by
    have h2 : (mVal m k).isSome = true := h.elim (fun z => by cases z) id
    cases e : mVal m k with
    | none => rw [e] at h2; cases h2
    | some x =>
      show mVal m k = _
      rw [e]
      rfl
  | t :: ts, m, h => by
    rw [List.foldl_cons, List.foldl_cons]
    have e : mVal (stepD m t) k = if k = keyT t then some (addR ((mVal m (keyT t)).getD (0, 1)) t.2.2) else mVal m k := mVal_put _ _ _ _
    by_cases c : k = keyT t
    · rw [if_pos c] at e
      rw [dic_val k ts _ (.inr (by rw [e]; rfl)), e]
      unfold stepT
      rw [if_pos c.symm, c]
      rfl
    · rw [if_neg c] at e
      rw [dic_val k ts _ (by
        rw [e]
        rcases h with h | h
        · exact .inl ((List.mem_cons.mp h).resolve_left c)
        · exact .inr h), e]
      unfold stepT
      rw [if_neg (fun z => c z.symm)]
theorem dic_keys (j : R) : ∀ (ts : List Trm) (m : List (R × R)), j ∈ (ts.foldl stepD m).map (·.1) ↔ j ∈ ts.map keyT ∨ j ∈ m.map (·.1)
  | [], m => by simp
  | t :: ts, m => by
    rw [List.foldl_cons, dic_keys j ts]
    unfold stepD
    rw [mKeys_put, List.map_cons, List.mem_cons]
    constructor
    · rintro (h | h | h)
      · exact .inl (.inr h)
      · exact .inl (.inl h)
      · exact .inr h
    · rintro ((h | h) | h)
      · exact .inr (.inl h)
      · exact .inl h
      · exact .inr (.inr h)
theorem dic_len : ∀ (ts : List Trm) (m : List (R × R)), (ts.foldl stepD m).length ≤ m.length + ts.length
  | [], m => by simp
  | t :: ts, m => by
    rw [List.foldl_cons]
    have h1 := dic_len ts (stepD m t)
    have h2 : (stepD m t).length ≤ m.length + 1 := mLen_put _ _ _
    rw [List.length_cons]
    omega
theorem zero_iff {p : R} (h : isR p = true) : p = (0, 1) ↔ p.1 = 0 := by
  obtain ⟨h1, h2⟩ := isR_pos h
  refine ⟨fun z => by rw [z], fun z => ?_⟩
  rw [z, Int.gcd_zero_left] at h2
  exact Prod.ext z (by show p.2 = 1; omega)
theorem gd_acc {k : R} {m j : Nat} {ts : List Trm} (h : ∀ t, t ∈ ts → Gd m t.2.2) (hj : j ≤ ts.length) : Gd (1 + j * (m + 1)) (totT k (ts.take j)) := by
  have := totT_gd (k := k) (ts.take j) (0, 1) 1 gd_nought fun u hu => h u (List.mem_of_mem_take hu)
  rw [List.length_take, Nat.min_eq_left hj] at this
  exact this
theorem gd_dic {k : R} {m j : Nat} {ts : List Trm} (h : ∀ t, t ∈ ts → Gd m t.2.2) (hj : j ≤ ts.length) : Gd (1 + j * (m + 1)) ((mVal (dicT (ts.take j)) k).getD (0, 1)) := by
  by_cases c : k ∈ (ts.take j).map keyT
  · unfold dicT
    rw [dic_val k _ [] (.inl c)]
    exact gd_acc h hj
  · have : mVal (dicT (ts.take j)) k = none := by
      cases e : mVal (dicT (ts.take j)) k with
      | none => rfl
      | some x =>
        exfalso
        unfold mVal at e
        obtain ⟨p, hp, _⟩ := Option.map_eq_some_iff.mp e
        have m1 := List.mem_of_find?_eq_some hp
        have m2 : p.1 = k := by simpa using List.find?_some hp
        have := (dic_keys k (ts.take j) []).mp (List.mem_map.mpr ⟨p, m1, m2⟩)
        rcases this with z | z
        · exact c z
        · cases z
    rw [this]
    exact (gd_nought (n := 0)).mono (by omega)
theorem gathered_eq {ts : List Trm} {m : Nat} (h : ∀ t, t ∈ ts → Gd m t.2.2) (hl : ts.length ≤ 100000) (hm : 1 + ts.length * (m + 1) + m ≤ 8999) : ev_gathered [.lst (ts.map encT)] = some (.lst ((gatherT ts).map encT), true, []) := by
  have key : Ok (ev_gathered [.lst (ts.map encT)]) fun r => r = (.lst ((gatherT ts).map encT), true, []) := by
    unfold ev_gathered b_gathered
    rw [w_def rfl]
    walk_at "ev"
    refine loop_inv (fun j env => ∃ s2 s3 s4 : SV, env = [.fz (.lst (ts.map encT)), .nw (.dct (encK encR (dicT (ts.take j)))), s2, s3, s4] ∧ freeP s2 = true ∧ freeP s3 = true ∧ freeP s4 = true) _ 0 _ ⟨.no, .no, .no, rfl, rfl, rfl, rfl⟩ (fun j d env hd hi => ?_) fun env hi => ?_
    · obtain ⟨s2, s3, s4, rfl, f2, f3, f4⟩ := hi
      rw [Nat.zero_add]
      rw [List.getElem?_map] at hd
      obtain ⟨t, ht, rfl⟩ := Option.map_eq_some_iff.mp hd
      have hj := (List.getElem?_eq_some_iff.mp ht).1
      have tm := List.mem_of_getElem? ht
      have et : dicT (ts.take (j + 1)) = stepD (dicT (ts.take j)) t := take_foldl _ _ ht
      have gd := gd_dic (k := keyT t) h (Nat.le_of_lt hj)
      have ln := dic_len (ts.take j) []
      rw [List.length_take] at ln
      have sz : 1 + j * (m + 1) + m ≤ 8999 := by
        have := Nat.mul_le_mul_right (m + 1) (Nat.le_of_lt hj)
        omega
      rw [et]
      unfold encT
      walk_at "ev"
      refine ⟨f2, f3, f4, ?_⟩
      have e : ((mVal (dicT (ts.take j)) (t.1, t.2.1)).map encR).getD (.tup [.int 0, .int 1]) = encR ((mVal (dicT (ts.take j)) (keyT t)).getD (0, 1)) := by
        show ((mVal (dicT (ts.take j)) (keyT t)).map encR).getD _ = _
        cases mVal (dicT (ts.take j)) (keyT t) <;> rfl
      rw [e]
      refine ok_eq (added_eq gd (h t tm) sz) ?_
      walk_at "ev"
      rw [kPut_enc (c := encR)]
      refine ⟨by have : (dicT (ts.take j)).length ≤ 0 + min j ts.length := ln; omega, _, _, _, rfl, rfl, rfl, rfl⟩
    · obtain ⟨s2, s3, s4, rfl, f2, f3, f4⟩ := hi
      rw [Nat.zero_add, List.length_map, List.take_length]
      have ln : (dicT ts).length ≤ 0 + ts.length := dic_len ts []
      walk_at "ev"
      have ek : srtP ((dicT ts).map (·.1)) = srtP (ts.map keyT) := str_uniq (str_srtP _) (str_srtP _) fun x => by
        rw [mem_srtP, mem_srtP]
        show x ∈ (ts.foldl stepD []).map (·.1) ↔ _
        rw [dic_keys x ts []]
        simp
      refine ⟨by omega, ?_⟩
      rw [ek]
      have el : gatherT ts = ((srtP (ts.map keyT)).take (srtP (ts.map keyT)).length).flatMap (rowT ts) := by rw [List.take_length]; rfl
      have lk : (srtP (ts.map keyT)).length ≤ ts.length := Nat.le_trans (srtP_len _) (by rw [List.length_map]; exact Nat.le_refl _)
      have vk : ∀ k, k ∈ srtP (ts.map keyT) → mVal (dicT ts) k = some (totT k ts) := fun k hk => dic_val k ts [] (.inl (mem_srtP.mp hk))
      have gl := gather_len ts
      rw [el] at gl ⊢
      generalize srtP (ts.map keyT) = ks at lk vk gl
      have fr : ∀ s : SV, freeP s = true → freeP (keepFz (some s)) = true := fun s _ => free_keep
      refine ⟨f3, f2, ?_⟩
      refine lc_inv (fun j acc env => acc = ((ks.take j).flatMap (rowT ts)).map encT ∧ env = [.fz (.lst (ts.map encT)), .nw (.dct (encK encR (dicT ts))), .no, .no, s4]) _ 0 [] _ ⟨rfl, rfl⟩ (fun j d acc env hd hi => ?_) fun out env hi => ?_
      · obtain ⟨rfl, rfl⟩ := hi
        rw [Nat.zero_add]
        rw [List.getElem?_map] at hd
        obtain ⟨k, hk, rfl⟩ := Option.map_eq_some_iff.mp hd
        have km := List.mem_of_getElem? hk
        have ev := vk k km
        have gt : isR (totT k ts) = true := by
          have := gd_acc (k := k) h (Nat.le_refl ts.length)
          rw [List.take_length] at this
          exact this.1
        have et : (ks.take (j + 1)).flatMap (rowT ts) = (ks.take j).flatMap (rowT ts) ++ rowT ts k := by
          rw [List.take_succ, hk, List.flatMap_append]
          simp
        have e1 : (mVal (dicT ts) (k.1, k.2)).map encR = some (encR (totT k ts)) := by
          show (mVal (dicT ts) k).map encR = _
          rw [ev]
          rfl
        rw [et]
        unfold encR
        walk_at "ev"
        show Ok ((mVal (dicT ts) (k.1, k.2)).map encR) _
        refine ok_eq e1 ?_
        walk_at "ev"
        refine ok_eq (gNe_R (totT k ts) (0, 1)) ?_
        walk_at "ev"
        have z := zero_iff gt
        refine ⟨fun c => ?_, fun c => ?_⟩
        · show Ok ((mVal (dicT ts) (k.1, k.2)).map encR) _
          refine ok_eq e1 ?_
          walk_at "ev"
          have er : rowT ts k = [(k.1, k.2, totT k ts)] := by unfold rowT; rw [if_neg (fun y => c (z.mpr y))]
          rw [er, List.map_append]
          rfl
        · have er : rowT ts k = [] := by unfold rowT; rw [if_pos (z.mp c)]
          rw [er, List.append_nil]
      · obtain ⟨e, rfl⟩ := hi
        rw [List.nil_append, Nat.zero_add, List.length_map] at e
        subst e
        walk_at "ev"
        rw [List.take_length] at gl ⊢
        omega
  obtain ⟨r, e, h⟩ := key
  rw [e, h]
theorem gather_keys (ts : List Trm) : (gatherT ts).map keyT = (srtP (ts.map keyT)).filter fun k => decide ((totT k ts).1 ≠ 0) := by
  unfold gatherT
  generalize srtP (ts.map keyT) = ks
  induction ks with
  | nil => rfl
  | cons k ks ih =>
    rw [List.flatMap_cons, List.map_append, ih, List.filter_cons]
    unfold rowT
    by_cases c : (totT k ts).1 = 0
    · rw [if_pos c, if_neg (by simpa using c)]
      rfl
    · rw [if_neg c, if_pos (by simpa using c)]
      rfl
theorem gather_str (ts : List Trm) : StrP ((gatherT ts).map keyT) := by
  rw [gather_keys]
  exact (str_srtP _).filter _
theorem srtP_self {l : List R} (h : StrP l) : srtP l = l := str_uniq (str_srtP _) h fun x => mem_srtP
def totQ (k : R) (ts : List Trm) : Rat := (ts.map fun t => if keyT t = k then qv t.2.2 else 0).foldr (· + ·) 0
theorem tot_q (k : R) : ∀ (ts : List Trm) (a : Rat), (∀ t, t ∈ ts → isR t.2.2 = true) → ts.foldl (fun acc t => if keyT t = k then addR acc t.2.2 else acc) (rp a) = rp (a + totQ k ts)
  | [], a, _ => by
    show rp a = rp (a + 0)
    rw [Rat.add_zero]
  | t :: ts, a, h => by
    rw [List.foldl_cons]
    have h1 := h t List.mem_cons_self
    have h2 : ∀ u, u ∈ ts → isR u.2.2 = true := fun u hu => h u (List.mem_cons_of_mem _ hu)
    have e : totQ k (t :: ts) = (if keyT t = k then qv t.2.2 else 0) + totQ k ts := rfl
    rw [e]
    by_cases c : keyT t = k
    · rw [if_pos c, if_pos c]
      have : addR (rp a) t.2.2 = rp (a + qv t.2.2) := by
        rw [← addR_q, rp_qv h1]
      rw [this, tot_q k ts _ h2, Rat.add_assoc]
    · rw [if_neg c, if_neg c, tot_q k ts _ h2, Rat.zero_add]
theorem totQ_app (k : R) : ∀ (xs ys : List Trm), totQ k (xs ++ ys) = totQ k xs + totQ k ys
  | [], ys => by
    show totQ k ys = 0 + totQ k ys
    rw [Rat.zero_add]
  | x :: xs, ys => by
    show (if keyT x = k then qv x.2.2 else 0) + totQ k (xs ++ ys) = ((if keyT x = k then qv x.2.2 else 0) + totQ k xs) + totQ k ys
    rw [totQ_app k xs ys, Rat.add_assoc]
theorem totT_q {k : R} {ts : List Trm} (h : ∀ t, t ∈ ts → isR t.2.2 = true) : totT k ts = rp (totQ k ts) := by
  have := tot_q k ts 0 h
  rw [Rat.zero_add] at this
  exact this
end Lw
namespace Lw
open PySem L2 Dv
def mulT (t u : Trm) : Trm := (t.1 + u.1, t.2.1 + u.2.1, mulR t.2.2 u.2.2)
def prodT (ts us : List Trm) : List Trm := ts.flatMap fun t => us.map (mulT t)
theorem prod_len (ts us : List Trm) : (prodT ts us).length = ts.length * us.length := by
  unfold prodT
  induction ts with
  | nil => simp
  | cons p m1 ih => rw [List.flatMap_cons, List.length_append, ih, List.length_map, List.length_cons, Nat.add_mul, Nat.one_mul, Nat.add_comm]
theorem prod_take {ts us : List Trm} {j : Nat} {t : Trm} (h : ts[j]? = some t) : prodT (ts.take (j + 1)) us = prodT (ts.take j) us ++ us.map (mulT t) := by
  unfold prodT
  rw [List.take_succ, h, List.flatMap_append]
  simp
theorem times_g {a b : Nat} {ts us : List Trm} (ht : ∀ t, t ∈ ts → Gd a t.2.2) (hu : ∀ t, t ∈ us → Gd b t.2.2) (hab : a + b ≤ 8999) (hk : ts.length * us.length ≤ 9900) (lt : ts.length ≤ 9900) (lu : us.length ≤ 9900) (hm : 1 + (ts.length * us.length) * (a + b + 1) + (a + b) ≤ 8999) :
    ev_times [.lst (ts.map encT), .lst (us.map encT)] = some (.lst ((gatherT (prodT ts us)).map encT), true, []) := by
  have key : Ok (ev_times [.lst (ts.map encT), .lst (us.map encT)]) fun r => r = (.lst ((gatherT (prodT ts us)).map encT), true, []) := by
    have e := gathered_eq (ts := prodT ts us) (m := a + b) (fun t h0 => by
      obtain ⟨p, hp, ht2⟩ := List.mem_flatMap.mp h0
      obtain ⟨q, hq, rfl⟩ := List.mem_map.mp ht2
      exact mulR_gd (ht p hp) (hu q hq)) (by rw [prod_len]; omega) (by rw [prod_len]; exact hm)
    unfold ev_times b_times
    rw [w_def rfl]
    walk_at "ev"
    refine loop_inv (fun j env => ∃ s3 s4 s5 : SV, env = [.fz (.lst (ts.map encT)), .fz (.lst (us.map encT)), .o1 ((prodT (ts.take j) us).map encT), s3, s4, s5, .no, .no, .no] ∧ freeP s3 = true ∧ freeP s4 = true ∧ freeP s5 = true) _ 0 _ ⟨.no, .no, .no, rfl, rfl, rfl, rfl⟩ (fun j d env hd hi => ?_) fun env hi => ?_
    · obtain ⟨s3, s4, s5, rfl, f3, f4, f5⟩ := hi
      rw [Nat.zero_add]
      rw [List.getElem?_map] at hd
      obtain ⟨t, hm, rfl⟩ := Option.map_eq_some_iff.mp hd
      have hj := (List.getElem?_eq_some_iff.mp hm).1
      have gt := ht t (List.mem_of_getElem? hm)
      have ln := prod_len (ts.take j) us
      rw [List.length_take, Nat.min_eq_left (Nat.le_of_lt hj)] at ln
      have lj : (j + 1) * us.length ≤ ts.length * us.length := Nat.mul_le_mul_right _ hj
      rw [Nat.add_mul] at lj
      rw [prod_take hm]
      unfold encT
      walk_at "ev"
      refine ⟨f3, f4, f5, ?_⟩
      show Ok (lcN _ _ _ _ (us.map encT) _) _
      refine lc_map (c := encT) (h := fun u => encT (mulT t u)) (xs := us) (fun u hu' acc => ?_) ?_
      · unfold encT
        walk_at "ev"
        refine ok_eq (multiplied_eq gt (hu u hu') hab) ?_
        walk_at "ev"
        rfl
      · walk_at "ev"
        refine ⟨by omega, by rw [ln]; omega, .fz (.int t.1), .fz (.int t.2.1), .fz (encR t.2.2), ?_, rfl, rfl, rfl⟩
        rw [List.map_append, List.map_map]
        rfl
    · obtain ⟨s3, s4, s5, rfl, f3, f4, f5⟩ := hi
      rw [Nat.zero_add, List.length_map, List.take_length]
      walk_at "ev"
      refine ok_eq e ?_
      walk_at "ev"
  obtain ⟨r, e, h⟩ := key
  rw [e, h]
end Lw
namespace Lw
open PySem L2 Dv
def leT (a b : Trm) : Bool := leD (encT a) (encT b)
theorem py_T (t : Trm) : toPy (encT t) = .tuple [.int t.1, .int t.2.1, .tuple [.int t.2.2.1, .int t.2.2.2]] := by
  simp [encT, encR, toPy, toPys]
theorem leT_lt {a b : Trm} (h : leT a b = true) (hk : keyT a ≠ keyT b) : ltP2 (keyT a) (keyT b) := by
  have h1 : (!PySem.W.dataLt (toPy (encT b)) (toPy (encT a))) = true := h
  rw [py_T, py_T, PySem.W.dataLt_tuple, PySem.W.dataLt_cons (by simp [PySem.W.alike]), PySem.W.dataLt_cons (by simp [PySem.W.alike]), PySem.W.dataLt_int, PySem.W.dataLt_int] at h1
  simp only [PyData.eqv, beq_iff_eq] at h1
  unfold keyT at hk ⊢
  unfold ltP2
  dsimp only
  by_cases c1 : b.1 = a.1
  · rw [if_pos c1] at h1
    by_cases c2 : b.2.1 = a.2.1
    · exact absurd (show ((a.1, a.2.1) : R) = (b.1, b.2.1) by rw [c1, c2]) hk
    · rw [if_neg c2] at h1
      have : ¬ b.2.1 < a.2.1 := by simpa using h1
      omega
  · rw [if_neg c1] at h1
    have : ¬ b.1 < a.1 := by simpa using h1
    omega
theorem gSort_T (xs : List Trm) : gSortD [.lst (xs.map encT)] = some (.new ((xs.mergeSort leT).map encT)) := by
  have lay : ∀ xs : List Trm, PyData.canLayAll0 (toPys (xs.map encT)) = true := by
    intro xs
    induction xs with
    | nil => simp [toPys, PyData.canLayAll0]
    | cons x xs ih =>
      rw [List.map_cons]
      simp only [toPys, PyData.canLayAll0, ih, Bool.and_true]
      rw [py_T]
      simp [PyData.canLay0, PyData.canLayAll0]
  have c : canSort (xs.map encT) = true := by
    unfold canSort
    simp only [Bool.and_eq_true, List.all_eq_true, Bool.or_eq_true, decide_eq_true_eq]
    refine ⟨⟨⟨fun d hd e he => ?_, .inl fun d hd => ?_⟩, fun d hd => ?_⟩, lay xs⟩
    · obtain ⟨x, _, rfl⟩ := List.mem_map.mp hd
      obtain ⟨y, _, rfl⟩ := List.mem_map.mp he
      rw [py_T, py_T]
      simp [PySem.W.alike, PySem.W.alikeAll]
    · obtain ⟨x, _, rfl⟩ := List.mem_map.mp hd
      rw [py_T]
      rfl
    · obtain ⟨x, _, rfl⟩ := List.mem_map.mp hd
      rw [py_T]
      simp [PyData.depth, PyData.depthAll]
  show (if canSort (xs.map encT) = true then some (RV.new ((xs.map encT).mergeSort leD)) else none) = _
  rw [if_pos c]
  congr 2
  exact (List.map_mergeSort (r := leT) (s := leD) (f := encT) fun a _ b _ => rfl).symm
theorem totQ_no {k : R} : ∀ {ts : List Trm}, k ∉ ts.map keyT → totQ k ts = 0
  | [], _ => rfl
  | t :: ts, h => by
    rw [List.map_cons, List.mem_cons, not_or] at h
    show (if keyT t = k then qv t.2.2 else 0) + totQ k ts = 0
    rw [if_neg (fun z => h.1 z.symm), totQ_no h.2, Rat.add_zero]
theorem totQ_one : ∀ {ts : List Trm} {t : Trm}, (ts.map keyT).Nodup → t ∈ ts → totQ (keyT t) ts = qv t.2.2
  | u :: ts, t, h, hm => by
    rw [List.map_cons, List.nodup_cons] at h
    show (if keyT u = keyT t then qv u.2.2 else 0) + totQ (keyT t) ts = _
    rcases List.mem_cons.mp hm with rfl | z
    · rw [if_pos rfl, totQ_no h.1, Rat.add_zero]
    · rw [if_neg (fun y => h.1 (by rw [y]; exact List.mem_map.mpr ⟨t, z, rfl⟩)), totQ_one h.2 z, Rat.zero_add]
theorem strP_nodup {l : List R} (h : StrP l) : l.Nodup := List.Pairwise.imp (fun {a b} z (e : a = b) => ltP2_irr (p := b) (by rw [e] at z; exact z)) h
end Lw
namespace Lw
open PySem L2 Dv
theorem qv_rpQ (q : Rat) : qv (rp q) = q := encQ_inj (rp_qv (rp_isR q))
theorem totQ_none {k : R} : ∀ {ts : List Trm}, k ∉ ts.map keyT → totQ k ts = 0
  | [], _ => rfl
  | t :: ts, h => by
    show (if keyT t = k then qv t.2.2 else 0) + totQ k ts = 0
    rw [if_neg fun z => h (by rw [List.map_cons, z]; exact List.mem_cons_self), totQ_none fun z => h (List.mem_cons_of_mem _ z), Rat.add_zero]
theorem gather_val {ts : List Trm} (h : ∀ t, t ∈ ts → isR t.2.2 = true) {u : Trm} (hu : u ∈ gatherT ts) : u.2.2 = rp (totQ (keyT u) ts) ∧ totQ (keyT u) ts ≠ 0 := by
  obtain ⟨k, hk, hu⟩ := List.mem_flatMap.mp hu
  unfold rowT at hu
  split at hu
  · cases hu
  · rename_i h0
    have e := List.mem_singleton.mp hu
    subst e
    rw [totT_q h] at h0 ⊢
    exact ⟨rfl, fun z => h0 ((num_zero _).mpr z)⟩
theorem gather_in {ts : List Trm} (h : ∀ t, t ∈ ts → isR t.2.2 = true) {k : R} (hk : totQ k ts ≠ 0) : (k.1, k.2, rp (totQ k ts)) ∈ gatherT ts := by
  have km : k ∈ ts.map keyT := Classical.byContradiction fun z => hk (totQ_none z)
  refine List.mem_flatMap.mpr ⟨k, mem_srtP.mpr km, ?_⟩
  unfold rowT
  rw [totT_q h]
  show _ ∈ if (totQ k ts).num = 0 then _ else _
  rw [if_neg fun z => hk ((num_zero _).mp z)]
  exact List.mem_singleton.mpr rfl
/-- what is gathered has the totals -/
theorem tot_gather {ts : List Trm} (h : ∀ t, t ∈ ts → isR t.2.2 = true) (k : R) : totQ k (gatherT ts) = totQ k ts := by
  by_cases z : totQ k ts = 0
  · rw [z]
    apply totQ_none
    intro y
    obtain ⟨u, hu, rfl⟩ := List.mem_map.mp y
    exact (gather_val h hu).2 z
  · have m := gather_in h z
    have nd : ((gatherT ts).map keyT).Nodup := strP_nodup (gather_str ts)
    have := totQ_one nd m
    rw [show keyT (k.1, k.2, rp (totQ k ts)) = k from rfl] at this
    rw [this, qv_rpQ]
end Lw
namespace Lw
open PySem L2 Dv
theorem small_8999 {n : Nat} (h : n ≤ 10 ^ 40) : n < 2 ^ 8999 := Nat.lt_of_le_of_lt h (Nat.lt_trans p40 (Nat.pow_lt_pow_right (by decide) (by decide)))
theorem hprimeP_ok {P : D × Bool × List (List D) → Prop} (a b : Int) (h : PoolH a b) (q : ∀ a' b' p, 2 ≤ p → p ≤ 97 → Prm p → PoolH a' b' → P (.int p, false, [[.int a', .int b']])) : Ok (ev__law_prime [.lst [.int a, .int b]]) P := by
  unfold ev__law_prime b__law_prime
  rw [w_def rfl]
  walk_at "ev"
  refine htake_ok a b 8 h (by decide) (by decide) fun a1 b1 d g1 g2 h1 => ?_
  walk_at "ev"
  refine ok_atI g1 (by simp only [List.length_cons, List.length_nil]; omega) fun x hx => ?_
  have hm := List.mem_of_getElem? hx
  simp only [List.mem_cons, List.not_mem_nil, or_false] at hm
  rcases hm with rfl | rfl | rfl | rfl | rfl | rfl | rfl | rfl <;> (walk_at "ev"; exact q _ _ _ (by decide) (by decide) (prm_all (by decide)) h1)
theorem fact_bd {m f : Int} {j c : Nat} (hm : m ≠ 0) (hs : m.natAbs ≤ c * 97 ^ j) (h1 : 1 ≤ f) (h2 : f ≤ 97) : m * f ≠ 0 ∧ (m * f).natAbs ≤ c * 97 ^ (j + 1) := by
  refine ⟨Int.mul_ne_zero hm (by omega), ?_⟩
  rw [Int.natAbs_mul, Nat.pow_succ, ← Nat.mul_assoc]
  exact Nat.mul_le_mul hs (by omega)
theorem number_ok {P : D × Bool × List (List D) → Prop} (a b pr : Int) (h : PoolH a b) (hp : 2 ≤ pr) (hp2 : pr ≤ 97) (q : ∀ a' b' x, FigOk x → x.1 ≠ 0 → PoolH a' b' → P (encR x, false, [[.int a', .int b']])) : Ok (ev__law_number [.lst [.int a, .int b], .int pr]) P := by
  unfold ev__law_number b__law_number
  rw [w_def rfl]
  walk_at "ev"
  refine htake_ok a b 6 h (by decide) (by decide) fun a1 b1 d1 g1 g2 h1 => ?_
  walk_at "ev"
  refine htake_ok a1 b1 2 h1 (by decide) (by decide) fun a2 b2 d2 g3 g4 h2 => ?_
  walk_at "ev"
  refine ⟨mul40 (by omega) (by omega) (by omega) (by omega), mul40 (by omega) (by omega) (by omega) (by omega), htake_ok a2 b2 3 h2 (by decide) (by decide) fun a3 b3 d3 g5 g6 h3 => ?_⟩
  walk_at "ev"
  refine htake_ok a3 b3 8 h3 (by decide) (by decide) fun a4 b4 d4 g7 g8 h4 => ?_
  walk_at "ev"
  refine ok_atI g7 (by simp only [List.length_cons, List.length_nil]; omega) fun x hx => ?_
  have hm := List.mem_of_getElem? hx
  simp only [List.mem_cons, List.not_mem_nil, or_false] at hm
  have hx2 : ∃ w : Int, x = .int w ∧ -2 ≤ w ∧ w ≤ 3 := by
    rcases hm with rfl | rfl | rfl | rfl | rfl | rfl | rfl | rfl <;> exact ⟨_, rfl, by decide, by decide⟩
  obtain ⟨w, rfl, w1, w2⟩ := hx2
  walk_at "ev"
  have top0 : (1 + d1) * (1 - 2 * d2) ≠ 0 ∧ ((1 + d1) * (1 - 2 * d2)).natAbs ≤ 6 * 97 ^ 0 := by
    refine ⟨Int.mul_ne_zero (by omega) (by omega), ?_⟩
    rw [Int.natAbs_mul]
    exact Nat.le_trans (Nat.mul_le_mul (show (1 + d1).natAbs ≤ 6 by omega) (show (1 - 2 * d2).natAbs ≤ 1 by omega)) (by decide)
  refine ⟨by split <;> omega, ?_⟩
  refine loop_inv (fun j env => ∃ (t c : Int) (s5 : SV), env = [.io [.int a4, .int b4], .fz (.int pr), .fz (.int t), .fz (.int c), .fz (.int w), s5] ∧ freeP s5 = true ∧ t ≠ 0 ∧ t.natAbs ≤ 6 * 97 ^ j ∧ c ≠ 0 ∧ c.natAbs ≤ 3 * 97 ^ j) _ 0 _ ⟨_, _, .no, rfl, rfl, top0.1, top0.2, by omega, by omega⟩ (fun j d env hd hi => ?_) fun env hi => ?_
  · obtain ⟨t, c, s5, rfl, f5, t0, tb, c0, cb⟩ := hi
    obtain ⟨hj, rfl⟩ := rangeD_get hd
    have j3 : j ≤ 2 := by split at hj <;> omega
    have p3 : 97 ^ j ≤ 97 ^ 2 := Nat.pow_le_pow_right (by decide) j3
    rw [Nat.zero_add] at tb cb ⊢
    have pick : ∀ (z : Bool) (Q : D → Prop), (∀ f : Int, 1 ≤ f → f ≤ 97 → Q (.int f)) → Ok (L2.atI [D.int 1, D.int pr] (if z = true then 1 else 0)) Q := fun z Q hQ => by
      cases z
      · exact ok_some.mpr (hQ 1 (by decide) (by decide))
      · exact ok_some.mpr (hQ pr (by omega) hp2)
    have t8 : t.natAbs ≤ 10 ^ 6 := by omega
    have c8 : c.natAbs ≤ 10 ^ 6 := by omega
    walk_at "ev"
    refine ⟨f5, ?_⟩
    have g1 := pick (decide (0 < w))
    have g2 := pick (decide (w < 0))
    simp only [decide_eq_true_eq] at g1 g2
    refine g1 _ fun f u1 u2 => ?_
    walk_at "ev"
    refine ⟨mul40 (by omega) (by omega) (by omega) (by omega), g2 _ fun f2 u3 u4 => ?_⟩
    walk_at "ev"
    have k1 := fact_bd t0 tb u1 u2
    have k2 := fact_bd c0 cb u3 u4
    exact ⟨mul40 (by omega) (by omega) (by omega) (by omega), _, _, _, rfl, rfl, k1.1, k1.2, k2.1, k2.2⟩
  · obtain ⟨t, c, s5, rfl, f5, t0, tb, c0, cb⟩ := hi
    rw [rangeD_len, Nat.zero_add] at tb cb
    have j3 : (if w < 0 then -w else w).toNat ≤ 3 := by split <;> omega
    have p3 : 97 ^ (if w < 0 then -w else w).toNat ≤ 97 ^ 3 := Nat.pow_le_pow_right (by decide) j3
    have t8 : t.natAbs ≤ 10 ^ 8 := by omega
    have c8 : c.natAbs ≤ 10 ^ 8 := by omega
    walk_at "ev"
    refine ok_eq (hlow_eq t c c0 (small_8999 (by omega))) ?_
    walk_at "ev"
    have sp := lowR_spec (t := t) c0
    have le := lowR_le (t := t) c0
    refine q _ _ _ ⟨sp.2.2, by omega, by omega⟩ (fun z => ?_) h4
    have := sp.1
    rw [z, Int.zero_mul] at this
    exact t0 this.symm
end Lw
namespace Lw
open PySem L2 Dv
theorem leD_tot : PySem.W.TotalLe leD := PySem.W.sortLe_total (PyProof.Rows.listOrd PyProof.Rows.itemOrd) false fun b : D => PySem.W.keyToks (toPy b)
theorem sort_perm {xs ys : List D} (hp : xs.Perm ys) (inj : ∀ a, a ∈ xs → ∀ b, b ∈ xs → PySem.W.keyToks (toPy a) = PySem.W.keyToks (toPy b) → a = b) : xs.mergeSort leD = ys.mergeSort leD := by
  have tr : ∀ a b c : D, leD a b = true → leD b c = true → leD a c = true := leD_tot.trans
  have to : ∀ a b : D, (leD a b || leD b a) = true := fun a b => by
    rw [Bool.or_eq_true]
    exact leD_tot.total a b
  have mx : ∀ a, a ∈ xs.mergeSort leD → a ∈ xs := fun a h => List.mem_mergeSort.mp h
  have my : ∀ a, a ∈ ys.mergeSort leD → a ∈ xs := fun a h => hp.mem_iff.mpr (List.mem_mergeSort.mp h)
  refine List.Perm.eq_of_pairwise (le := fun a b => leD a b = true) (fun a b ha hb h1 h2 => ?_) (List.pairwise_mergeSort tr to xs) (List.pairwise_mergeSort tr to ys) ((List.mergeSort_perm xs leD).trans (hp.trans (List.mergeSort_perm ys leD).symm))
  refine inj a (mx a ha) b (my b hb) ?_
  have e1 : (!PyProof.Rows.lexLt PyProof.Rows.itemOrd (PySem.W.keyToks (toPy b)) (PySem.W.keyToks (toPy a))) = true := h1
  have e2 : (!PyProof.Rows.lexLt PyProof.Rows.itemOrd (PySem.W.keyToks (toPy a)) (PySem.W.keyToks (toPy b))) = true := h2
  rw [Bool.not_eq_true'] at e1 e2
  exact PyProof.Rows.lex_total _ _ e2 e1
/-- things of one form: (u, v) and (u, v, n), u and v ratios -/
def encW (z : Rat × Rat) : D := .tup [encQ z.1, encQ z.2]
def encX (x : (Rat × Rat) × Int) : D := .tup [encQ x.1.1, encQ x.1.2, .int x.2]
theorem py_W (z : Rat × Rat) : toPy (encW z) = .tuple [.tuple [.int z.1.num, .int z.1.den], .tuple [.int z.2.num, .int z.2.den]] := by
  simp only [encW, encQ, encR, rp, toPy, toPys]
theorem py_X (x : (Rat × Rat) × Int) : toPy (encX x) = .tuple [.tuple [.int x.1.1.num, .int x.1.1.den], .tuple [.int x.1.2.num, .int x.1.2.den], .int x.2] := by
  simp only [encX, encQ, encR, rp, toPy, toPys]
theorem rat_of {p q : Rat} (h1 : p.num = q.num) (h2 : (p.den : Int) = (q.den : Int)) : p = q := Rat.ext h1 (by omega)
theorem toks_X {a b : (Rat × Rat) × Int} (h : PySem.W.keyToks (toPy (encX a)) = PySem.W.keyToks (toPy (encX b))) : a = b := by
  rw [py_X, py_X] at h
  simp only [PySem.W.keyToks, PySem.W.keyToksAll, List.cons_append, List.nil_append, List.cons.injEq, Sum.inl.injEq, true_and, and_true] at h
  obtain ⟨h1, h2, h3, h4, h5⟩ := h
  exact Prod.ext (Prod.ext (rat_of h1 h2) (rat_of h3 h4)) h5
theorem can_of {α : Type} {f : α → D} (h1 : ∀ x y, PySem.W.alike (toPy (f x)) (toPy (f y)) = true) (h2 : ∀ x, isTup1 (toPy (f x)) = true) (h3 : ∀ x, (toPy (f x)).depth ≤ 50) (h4 : ∀ x, PyData.canLay0 (toPy (f x)) = true) (xs : List α) : canSort (xs.map f) = true := by
  have lay : ∀ xs : List α, PyData.canLayAll0 (toPys (xs.map f)) = true := by
    intro xs
    induction xs with
    | nil => simp [toPys, PyData.canLayAll0]
    | cons x xs ih =>
      rw [List.map_cons]
      simp only [toPys, PyData.canLayAll0, ih, Bool.and_true]
      exact h4 x
  unfold canSort
  simp only [Bool.and_eq_true, List.all_eq_true, Bool.or_eq_true, decide_eq_true_eq]
  refine ⟨⟨⟨fun d hd e he => ?_, .inl fun d hd => ?_⟩, fun d hd => ?_⟩, lay xs⟩
  · obtain ⟨x, _, rfl⟩ := List.mem_map.mp hd
    obtain ⟨y, _, rfl⟩ := List.mem_map.mp he
    exact h1 x y
  · obtain ⟨x, _, rfl⟩ := List.mem_map.mp hd
    exact h2 x
  · obtain ⟨x, _, rfl⟩ := List.mem_map.mp hd
    exact h3 x
theorem can_W (xs : List (Rat × Rat)) : canSort (xs.map encW) = true := can_of (fun x y => by rw [py_W, py_W]; simp [PySem.W.alike, PySem.W.alikeAll]) (fun x => by rw [py_W]; rfl) (fun x => by rw [py_W]; simp [PyData.depth, PyData.depthAll]) (fun x => by rw [py_W]; simp [PyData.canLay0, PyData.canLayAll0]) xs
theorem can_X (xs : List ((Rat × Rat) × Int)) : canSort (xs.map encX) = true := can_of (fun x y => by rw [py_X, py_X]; simp [PySem.W.alike, PySem.W.alikeAll]) (fun x => by rw [py_X]; rfl) (fun x => by rw [py_X]; simp [PyData.depth, PyData.depthAll]) (fun x => by rw [py_X]; simp [PyData.canLay0, PyData.canLayAll0]) xs
theorem gSort_X (xs : List ((Rat × Rat) × Int)) : gSortD [.lst (xs.map encX)] = some (.new ((xs.map encX).mergeSort leD)) := by
  show (if canSort (xs.map encX) = true then some (RV.new ((xs.map encX).mergeSort leD)) else none) = _
  rw [if_pos (can_X xs)]
theorem shp_X (x : (Rat × Rat) × Int) : Shp 2 (encX x) := shp_tup fun d h => by
  simp only [List.mem_cons, List.not_mem_nil, or_false] at h
  rcases h with rfl | rfl | rfl
  · exact shp_R _
  · exact shp_R _
  · exact Shp.mono shp_int (by decide)
theorem eqD_X (a b : (Rat × Rat) × Int) : eqD (encX a) (encX b) = decide (a = b) := by
  unfold encX
  rw [eqD_tup, eqA_cons, eqA_cons, eqA_cons, eqA_nil, eqD_int, Bool.and_true]
  rw [show eqD (encQ a.1.1) (encQ b.1.1) = decide (rp a.1.1 = rp b.1.1) from eqD_R _ _, show eqD (encQ a.1.2) (encQ b.1.2) = decide (rp a.1.2 = rp b.1.2) from eqD_R _ _, ← Bool.decide_and, ← Bool.decide_and, decide_eq_decide, rp_eq, rp_eq]
  exact ⟨fun h => Prod.ext (Prod.ext h.1 h.2.1) h.2.2, fun h => by rw [h]; exact ⟨rfl, rfl, rfl⟩⟩
theorem shp_Xs (xs : List ((Rat × Rat) × Int)) : shp (.lst (xs.map encX)) = true := shp_of (shp_lst (k := 2) fun d h => by
  obtain ⟨s, _, rfl⟩ := List.mem_map.mp h
  exact shp_X s) (by decide)
theorem gNe_X (xs ys : List ((Rat × Rat) × Int)) : gNe (.lst (xs.map encX)) (.lst (ys.map encX)) = some (.val (.bl (!decide (xs = ys)))) := gNe_of (shp_Xs xs) (shp_Xs ys) (by rw [eqD_lst, eqA_map eqD_X])
theorem mergeSort_X (xs : List ((Rat × Rat) × Int)) : ∃ ys : List ((Rat × Rat) × Int), (xs.map encX).mergeSort leD = ys.map encX ∧ ys.Perm xs := by
  refine ⟨xs.mergeSort fun a b => leD (encX a) (encX b), ?_, List.mergeSort_perm _ _⟩
  rw [List.map_mergeSort]
  intro a _ b _
  rfl
/-- lists of the same things, sorted -/
theorem sort_X {xs ys : List ((Rat × Rat) × Int)} (hx : xs.Nodup) (hy : ys.Nodup) (h : ∀ x, x ∈ xs ↔ x ∈ ys) : (xs.map encX).mergeSort leD = (ys.map encX).mergeSort leD := by
  refine sort_perm (((List.perm_ext_iff_of_nodup hx hy).mpr h).map encX) fun a ha b hb e => ?_
  obtain ⟨x, _, rfl⟩ := List.mem_map.mp ha
  obtain ⟨y, _, rfl⟩ := List.mem_map.mp hb
  rw [toks_X e]
def keyW (z : Rat × Rat) : NestedKey := .tup [.tup [.num z.1.num, .num z.1.den], .tup [.num z.2.num, .num z.2.den]]
theorem keyW_inj {a b : Rat × Rat} (h : keyW a = keyW b) : a = b := by
  unfold keyW at h
  simp only [NestedKey.tup.injEq, List.cons.injEq, NestedKey.num.injEq, and_true] at h
  obtain ⟨⟨h1, h2⟩, h3, h4⟩ := h
  exact Prod.ext (rat_of h1 h2) (rat_of h3 h4)
theorem nkD_W (z : Rat × Rat) : nkD (keyW z) = encW z := by
  simp only [keyW, nkD, nkDs, encW, encQ, encR, rp]
theorem keyN_4 (a b c d : Int) : keyN (.tup [.tup [.int a, .int b], .tup [.int c, .int d]]) = some (.tup [.tup [.num a, .num b], .tup [.num c, .num d]]) := by
  unfold keyN
  simp only [nkOf, nkOfs, Option.bind_some, Option.map_some]
  rw [if_pos]
  simp [okN, nkNums, nkNum, NestedKey.depth, NestedKey.depthAll]
theorem keyN_W (z : Rat × Rat) : keyN (encW z) = some (keyW z) := keyN_4 _ _ _ _
def encM (m : List ((Rat × Rat) × D)) : List (NestedKey × D) := m.map fun x => (keyW x.1, x.2)
theorem keysNN_M (m : List ((Rat × Rat) × D)) : keysNN (encM m) = (m.map (·.1)).map encW := by
  unfold keysNN encM
  rw [List.map_map, List.map_map]
  refine List.map_congr_left fun x _ => nkD_W x.1
def wVal (m : List ((Rat × Rat) × D)) (z : Rat × Rat) : Option D := (m.find? fun x => decide (x.1 = z)).map (·.2)
def wPut (m : List ((Rat × Rat) × D)) (z : Rat × Rat) (d : D) : List ((Rat × Rat) × D) := if (m.any fun x => decide (x.1 = z)) = true then m.map (fun x => if x.1 = z then (x.1, d) else x) else m ++ [(z, d)]
theorem dec_W (a b : Rat × Rat) : decide (keyW a = keyW b) = decide (a = b) := decide_eq_decide.mpr ⟨keyW_inj, fun h => by rw [h]⟩
theorem kVal_M (z : Rat × Rat) : ∀ m : List ((Rat × Rat) × D), kValN (encM m) (keyW z) = wVal m z
  | [] => rfl
  | x :: m => by
    have ih := kVal_M z m
    unfold kValN wVal at ih ⊢
    unfold encM at ih ⊢
    rw [List.map_cons]
    by_cases c : x.1 = z
    · rw [List.find?_cons_of_pos (by simp [c]), List.find?_cons_of_pos (by simpa using c)]
      rfl
    · rw [List.find?_cons_of_neg (by simpa using fun h => c (keyW_inj h)), List.find?_cons_of_neg (by simpa using c)]
      exact ih
theorem any_M (z : Rat × Rat) : ∀ m : List ((Rat × Rat) × D), ((encM m).any fun kv => decide (kv.1 = keyW z)) = m.any fun x => decide (x.1 = z)
  | [] => rfl
  | x :: m => by
    unfold encM
    rw [List.map_cons, List.any_cons, List.any_cons, dec_W]
    exact congrArg _ (any_M z m)
theorem kPut_M (m : List ((Rat × Rat) × D)) (z : Rat × Rat) (d : D) : kPutN (encM m) (keyW z) d = encM (wPut m z d) := by
  unfold kPutN wPut
  rw [any_M]
  split
  · unfold encM
    rw [List.map_map, List.map_map]
    refine List.map_congr_left fun x _ => ?_
    show (if keyW x.1 = keyW z then (keyW x.1, d) else (keyW x.1, x.2)) = _
    by_cases c : x.1 = z
    · rw [if_pos (by rw [c])]
      simp only [Function.comp]
      rw [if_pos c]
    · rw [if_neg (fun h => c (keyW_inj h))]
      simp only [Function.comp]
      rw [if_neg c]
  · unfold encM
    rw [List.map_append]
    rfl
theorem encM_len (m : List ((Rat × Rat) × D)) : (encM m).length = m.length := List.length_map _
theorem wPut_len (m : List ((Rat × Rat) × D)) (z : Rat × Rat) (d : D) : (wPut m z d).length ≤ m.length + 1 := by
  unfold wPut
  split
  · rw [List.length_map]; omega
  · rw [List.length_append]; exact Nat.le_refl _
theorem wPut_mem {m : List ((Rat × Rat) × D)} {z : Rat × Rat} {d : D} {x : (Rat × Rat) × D} : x ∈ wPut m z d ↔ x = (z, d) ∨ (x.1 ≠ z ∧ x ∈ m) := by
  unfold wPut
  split
  · rename_i c
    obtain ⟨y, hy, ey⟩ := List.any_eq_true.mp c
    have ey := of_decide_eq_true ey
    rw [List.mem_map]
    constructor
    · rintro ⟨w, hw, rfl⟩
      by_cases e : w.1 = z
      · rw [if_pos e]
        exact .inl (Prod.ext e rfl)
      · rw [if_neg e]
        exact .inr ⟨e, hw⟩
    · rintro (rfl | ⟨h1, h2⟩)
      · exact ⟨y, hy, by rw [if_pos ey, ey]⟩
      · exact ⟨x, h2, if_neg h1⟩
  · rename_i c
    have no : ∀ w, w ∈ m → w.1 ≠ z := fun w hw e => c (List.any_eq_true.mpr ⟨w, hw, decide_eq_true e⟩)
    rw [List.mem_append, List.mem_singleton]
    exact ⟨fun h => h.elim (fun h => .inr ⟨no x h, h⟩) .inl, fun h => h.elim .inr fun h => .inl h.2⟩
theorem wPut_nodup {m : List ((Rat × Rat) × D)} (h : (m.map (·.1)).Nodup) (z : Rat × Rat) (d : D) : ((wPut m z d).map (·.1)).Nodup := by
  unfold wPut
  split
  · have e : (m.map fun x => if x.1 = z then (x.1, d) else x).map (·.1) = m.map (·.1) := by
      rw [List.map_map]
      refine List.map_congr_left fun x _ => ?_
      simp only [Function.comp]
      split <;> rfl
    rw [e]
    exact h
  · rename_i c
    rw [List.map_append, List.nodup_append]
    refine ⟨h, by simp, fun a ha b hb e => ?_⟩
    obtain ⟨w, hw, rfl⟩ := List.mem_map.mp ha
    have : b = z := by simpa using hb
    exact c (List.any_eq_true.mpr ⟨w, hw, decide_eq_true (e.trans this)⟩)
theorem wVal_mem {m : List ((Rat × Rat) × D)} (h : (m.map (·.1)).Nodup) {z : Rat × Rat} {d : D} : wVal m z = some d ↔ (z, d) ∈ m := by
  induction m with
  | nil => exact ⟨(fun h => by cases h), (fun h => by cases h)⟩
  | cons x m ih =>
    rw [List.map_cons, List.nodup_cons] at h
    have ih := ih h.2
    unfold wVal at ih ⊢
    by_cases c : x.1 = z
    · rw [List.find?_cons_of_pos (by simpa using c)]
      constructor
      · intro e
        have : x.2 = d := Option.some.inj e
        rw [← c, ← this]
        exact List.mem_cons_self
      · intro e
        rcases List.mem_cons.mp e with e | e
        · rw [← e]
          rfl
        · exact absurd (List.mem_map.mpr ⟨_, e, rfl⟩) (by rw [c] at h; exact h.1)
    · rw [List.find?_cons_of_neg (by simpa using c), ih]
      exact ⟨fun e => List.mem_cons_of_mem _ e, fun e => (List.mem_cons.mp e).resolve_left fun z => c (by rw [← z])⟩
end Lw
namespace Lw
open PySem L2 Dv
abbrev Ht := Int × Int × Int
abbrev Q2 := Rat × Rat
def encHt (t : Ht) : D := .tup [.int t.1, .int t.2.1, .int t.2.2]
def encK2 (t : Ht) : D := .tup [.int t.1, .int t.2.1]
def wq (t : Ht) (z : Q2) : Rat := (t.2.2 : Rat) + ((t.1 : Rat) * z.1 + (t.2.1 : Rat) * z.2)
def HtOk (t : Ht) : Prop := (-100 ≤ t.1 ∧ t.1 ≤ 100) ∧ (-100 ≤ t.2.1 ∧ t.2.1 ≤ 100) ∧ -(10 ^ 6) ≤ t.2.2 ∧ t.2.2 ≤ 10 ^ 6
def PlOk (z : Q2) : Prop := Bd 60 z.1 ∧ Bd 60 z.2
theorem bdI {i : Int} {n : Nat} (h : i.natAbs < 2 ^ (n + 1)) : Bd (n + 1) (i : Rat) := by
  refine Bd.of ?_ ?_
  · rw [Rat.num_intCast]
    exact h
  · rw [Rat.den_intCast]
    exact Nat.one_lt_pow (by omega) (by decide)
theorem wq_bd {t : Ht} {z : Q2} (ht : HtOk t) (hz : PlOk z) : Bd 200 (wq t z) := by
  obtain ⟨h1, h2, h3⟩ := ht
  have a := (bdI (i := t.1) (n := 7) (by omega)).mul hz.1
  have b := (bdI (i := t.2.1) (n := 7) (by omega)).mul hz.2
  exact ((bdI (i := t.2.2) (n := 19) (by omega)).add (a.add b)).mono (by decide)
theorem zip_mm {α : Type} (f g : α → D) : ∀ xs : List α, zipD (xs.map f) (xs.map g) = xs.map fun x => .tup [f x, g x]
  | [] => rfl
  | x :: xs => by
    show _ :: zipD (xs.map f) (xs.map g) = _
    rw [zip_mm f g xs]
    rfl
theorem worth_there_eq {t : Ht} {z : Q2} (ht : HtOk t) (hz : PlOk z) : ev_worth_there [encHt t, encQ z.1, encQ z.2] = some (encQ (wq t z), false, []) := by
  have key : Ok (ev_worth_there [encHt t, encQ z.1, encQ z.2]) fun r => r = (encQ (wq t z), false, []) := by
    obtain ⟨h1, h2, h3⟩ := ht
    have a := bdI (i := t.1) (n := 7) (by omega)
    have b := bdI (i := t.2.1) (n := 7) (by omega)
    have c := bdI (i := t.2.2) (n := 19) (by omega)
    unfold ev_worth_there b_worth_there encHt
    rw [w_def rfl]
    walk_at "ev"
    rw [encQ_int, encQ_int]
    refine ok_eq (multiplied_q a hz.1 (by decide)) ?_
    walk_at "ev"
    rw [encQ_int]
    refine ok_eq (multiplied_q b hz.2 (by decide)) ?_
    walk_at "ev"
    refine ok_eq (added_q (a.mul hz.1) (b.mul hz.2) (by decide)) ?_
    walk_at "ev"
    refine ok_eq (added_q c ((a.mul hz.1).add (b.mul hz.2)) (by decide)) ?_
    walk_at "ev"
    rfl
  obtain ⟨r, e, h⟩ := key
  rw [e, h]
theorem is_below_eq (x y : Rat) {n : Nat} (hx : Bd n x) (hy : Bd n y) (hn : n ≤ 4000) : ev_is_below [encQ x, encQ y] = some (.bl (decide (x < y)), false, []) := by
  have key : Ok (ev_is_below [encQ x, encQ y]) fun r => r = (.bl (decide (x < y)), false, []) := by
    unfold ev_is_below b_is_below
    rw [w_def rfl]
    rw [show encQ x = .tup [.int x.num, .int (x.den : Int)] from rfl, show encQ y = .tup [.int y.num, .int (y.den : Int)] from rfl]
    walk_at "ev"
    exact ⟨mulB_of hx.2.1 hy.2.2 (by omega), mulB_of hy.2.1 hx.2.2 (by omega), by rw [decide_eq_decide.mpr (Rat.lt_iff x y)]⟩
  obtain ⟨r, e, h⟩ := key
  rw [e, h]
def leastH (ts : List Ht) (z : Q2) : List Ht := ts.filter fun t => ts.all fun s => decide (wq t z ≤ wq s z)
theorem least_terms_eq {ts : List Ht} {z : Q2} (h0 : ts ≠ []) (hl : ts.length ≤ 1000) (ht : ∀ t, t ∈ ts → HtOk t) (hz : PlOk z) : ev_least_terms [.lst (ts.map encHt), encQ z.1, encQ z.2] = some (.lst ((leastH ts z).map encK2), true, []) := by
  have key : Ok (ev_least_terms [.lst (ts.map encHt), encQ z.1, encQ z.2]) fun r => r = (.lst ((leastH ts z).map encK2), true, []) := by
    unfold ev_least_terms b_least_terms
    rw [w_def rfl]
    walk_at "ev"
    refine lc_map (c := encHt) (h := fun t => encQ (wq t z)) (xs := ts) (fun t htt acc => ?_) ?_
    · walk_at "ev"
      refine ok_eq (worth_there_eq (ht t htt) hz) ?_
      walk_at "ev"
    walk_at "ev"
    refine ⟨by omega, ?_⟩
    have h1 : 0 < ts.length := List.length_pos_iff.mpr h0
    refine ok_eq (show L2.atI (ts.map fun t => encQ (wq t z)) 0 = some (encQ (wq ts[0] z)) from atI_n (k := 0) (by rw [List.getElem?_map, List.getElem?_eq_getElem h1]; rfl)) ?_
    walk_at "ev"
    refine loop_inv (fun j env => ∃ (m : Rat) (s5 : SV), env = [.fz (.lst (ts.map encHt)), .fz (encQ z.1), .fz (encQ z.2), .fz (.lst (ts.map fun t => encQ (wq t z))), .fz (encQ m), s5, .no] ∧ freeP s5 = true ∧ (∃ t, t ∈ ts ∧ wq t z = m) ∧ ∀ t, t ∈ ts.take j → m ≤ wq t z) _ 0 _ ⟨_, _, rfl, rfl, ⟨_, List.getElem_mem h1, rfl⟩, fun t ht => by simp at ht⟩ (fun j d env hd hi => ?_) fun env hi => ?_
    · obtain ⟨m, s5, rfl, f5, ⟨t0, m0, e0⟩, hm⟩ := hi
      rw [Nat.zero_add] at hm ⊢
      rw [List.getElem?_map] at hd
      obtain ⟨t, htm, rfl⟩ := Option.map_eq_some_iff.mp hd
      have tm := List.mem_of_getElem? htm
      have tk : ∀ s, s ∈ ts.take (j + 1) → s ∈ ts.take j ∨ s = t := fun s hs => by
        rw [List.take_succ, htm] at hs
        rcases List.mem_append.mp hs with y | y
        · exact .inl y
        · exact .inr (by simpa using y)
      walk_at "ev"
      refine ⟨f5, ok_eq (is_below_eq (wq t z) m (wq_bd (ht t tm) hz) (by rw [← e0]; exact wq_bd (ht t0 m0) hz) (by decide)) ?_⟩
      walk_at "ev"
      refine ⟨fun c => ⟨_, _, rfl, rfl, ⟨t, tm, rfl⟩, fun s hs => ?_⟩, fun c => ⟨_, _, rfl, rfl, ⟨t0, m0, e0⟩, fun s hs => ?_⟩⟩
      · rcases tk s hs with y | y
        · exact Rat.le_trans (Rat.le_of_lt c) (hm s y)
        · rw [y]
          exact Rat.le_refl
      · rcases tk s hs with y | y
        · exact hm s y
        · rw [y]
          exact Rat.not_lt.mp c
    · obtain ⟨m, s5, rfl, f5, ⟨t0, m0, e0⟩, hm⟩ := hi
      rw [Nat.zero_add, List.length_map, List.take_length] at hm
      walk_at "ev"
      have ez : zipD (ts.map encHt) (ts.map fun t => encQ (wq t z)) = ts.map fun t => .tup [encHt t, encQ (wq t z)] := zip_mm _ _ _
      rw [ez]
      refine ⟨f5, ?_⟩
      refine lc_inv (fun j acc env => acc = ((ts.take j).filter fun t => decide (wq t z = m)).map encK2 ∧ env = [.fz (.lst (ts.map encHt)), .fz (encQ z.1), .fz (encQ z.2), .fz (.lst (ts.map fun t => encQ (wq t z))), .fz (encQ m), .no, .no]) _ 0 [] _ ⟨rfl, rfl⟩ (fun j d acc env hd hi => ?_) fun out env hi => ?_
      · obtain ⟨rfl, rfl⟩ := hi
        rw [Nat.zero_add]
        rw [List.getElem?_map] at hd
        obtain ⟨t, htm, rfl⟩ := Option.map_eq_some_iff.mp hd
        have et : ts.take (j + 1) = ts.take j ++ [t] := by
          rw [List.take_succ, htm]
          rfl
        rw [et, List.filter_append, List.map_append]
        unfold encHt
        walk_at "ev"
        refine ok_eq (gEq_Q (wq t z) m) ?_
        walk_at "ev"
        refine ⟨fun c => ?_, fun c => ?_⟩
        · rw [List.filter_cons_of_pos (by simpa using c)]
          rfl
        · rw [List.filter_cons_of_neg (by simpa using c)]
          exact (List.append_nil _).symm
      · obtain ⟨e, rfl⟩ := hi
        rw [List.nil_append, Nat.zero_add, List.length_map, List.take_length] at e
        subst e
        have ef : (ts.filter fun t => decide (wq t z = m)) = leastH ts z := List.filter_congr fun t htm => by
          rw [Bool.eq_iff_iff, decide_eq_true_eq, List.all_eq_true]
          constructor
          · intro c s hs
            rw [decide_eq_true_eq, c]
            exact hm s hs
          · intro c
            have := of_decide_eq_true (c t0 m0)
            rw [e0] at this
            exact Rat.le_antisymm this (hm t htm)
        rw [ef]
        walk_at "ev"
        have : (leastH ts z).length ≤ ts.length := List.length_filter_le _ _
        omega
  obtain ⟨r, e, h⟩ := key
  rw [e, h]
abbrev H2 := Ht × Ht
def encP2 (p : H2) : D := .tup [encHt p.1, encHt p.2]
def szP (p q : H2) : Int := (p.1.1 - p.2.1) * (q.1.2.1 - q.2.2.1) - (p.1.2.1 - p.2.2.1) * (q.1.1 - q.2.1)
def plU (p q : H2) : Int := (p.2.2.2 - p.1.2.2) * (q.1.2.1 - q.2.2.1) - (p.1.2.1 - p.2.2.1) * (q.2.2.2 - q.1.2.2)
def plV (p q : H2) : Int := (p.1.1 - p.2.1) * (q.2.2.2 - q.1.2.2) - (p.2.2.2 - p.1.2.2) * (q.1.1 - q.2.1)
def placeQ (p q : H2) : Q2 := ((plU p q : Rat) / (szP p q : Rat), (plV p q : Rat) / (szP p q : Rat))
def ftN (p : H2) : Int := (p.1.1 - p.2.1) * (p.1.1 - p.2.1) + (p.1.2.1 - p.2.2.1) * (p.1.2.1 - p.2.2.1)
def footQ (p : H2) : Q2 := ((((p.1.1 - p.2.1) * (p.2.2.2 - p.1.2.2) : Int) : Rat) / (ftN p : Rat), (((p.1.2.1 - p.2.2.1) * (p.2.2.2 - p.1.2.2) : Int) : Rat) / (ftN p : Rat))
def PrOk (p : H2) : Prop := HtOk p.1 ∧ HtOk p.2
theorem mulI {a b : Int} {m n : Nat} (h1 : a.natAbs ≤ m) (h2 : b.natAbs ≤ n) : (a * b).natAbs ≤ m * n := by
  rw [Int.natAbs_mul]
  exact Nat.mul_le_mul h1 h2
theorem lowR_bd {t b : Int} (hb : b ≠ 0) (h1 : t.natAbs < 2 ^ 59) (h2 : b.natAbs < 2 ^ 59) : Bd 60 ((t : Rat) / (b : Rat)) := by
  have sp := lowR_spec (t := t) hb
  have le := lowR_le (t := t) hb
  rw [lowR_q hb] at sp le
  exact ⟨sp.2.2, by omega, by omega⟩
theorem place_of_eq {p q : H2} (hp : PrOk p) (hq : PrOk q) : ev_place_of [encP2 p, encP2 q] = some (if szP p q = 0 then .non else encW (placeQ p q), false, []) := by
  have key : Ok (ev_place_of [encP2 p, encP2 q]) fun r => r = (if szP p q = 0 then .non else encW (placeQ p q), false, []) := by
    obtain ⟨⟨⟨a1, a2⟩, ⟨a3, a4⟩, a5, a6⟩, ⟨b1, b2⟩, ⟨b3, b4⟩, b5, b6⟩ := hp
    obtain ⟨⟨⟨c1, c2⟩, ⟨c3, c4⟩, c5, c6⟩, ⟨d1, d2⟩, ⟨d3, d4⟩, d5, d6⟩ := hq
    have s1 := mulI (a := p.1.1 - p.2.1) (b := q.1.2.1 - q.2.2.1) (m := 200) (n := 200) (by omega) (by omega)
    have s2 := mulI (a := p.1.2.1 - p.2.2.1) (b := q.1.1 - q.2.1) (m := 200) (n := 200) (by omega) (by omega)
    unfold ev_place_of b_place_of encP2 encHt
    rw [w_def rfl]
    walk_at "ev"
    refine ⟨mul40 (by omega) (by omega) (by omega) (by omega), mul40 (by omega) (by omega) (by omega) (by omega), fun c => ?_, fun c => ⟨mul40 (by omega) (by omega) (by omega) (by omega), mul40 (by omega) (by omega) (by omega) (by omega), ?_⟩⟩
    · rw [if_pos (show szP p q = 0 from c)]
    · rw [if_neg (show ¬ szP p q = 0 from c)]
      refine ok_eq (pratio_eq _ _ c (small_8999 (by omega))) ?_
      walk_at "ev"
      refine ⟨mul40 (by omega) (by omega) (by omega) (by omega), mul40 (by omega) (by omega) (by omega) (by omega), ?_⟩
      refine ok_eq (pratio_eq _ _ c (small_8999 (by omega))) ?_
      walk_at "ev"
      rw [lowR_q c, lowR_q c]
      rfl
  obtain ⟨r, e, h⟩ := key
  rw [e, h]
theorem place_ok {p q : H2} (hp : PrOk p) (hq : PrOk q) (h : szP p q ≠ 0) : PlOk (placeQ p q) := by
  obtain ⟨⟨⟨a1, a2⟩, ⟨a3, a4⟩, a5, a6⟩, ⟨b1, b2⟩, ⟨b3, b4⟩, b5, b6⟩ := hp
  obtain ⟨⟨⟨c1, c2⟩, ⟨c3, c4⟩, c5, c6⟩, ⟨d1, d2⟩, ⟨d3, d4⟩, d5, d6⟩ := hq
  have s1 := mulI (a := p.1.1 - p.2.1) (b := q.1.2.1 - q.2.2.1) (m := 200) (n := 200) (by omega) (by omega)
  have s2 := mulI (a := p.1.2.1 - p.2.2.1) (b := q.1.1 - q.2.1) (m := 200) (n := 200) (by omega) (by omega)
  have s3 := mulI (a := p.2.2.2 - p.1.2.2) (b := q.1.2.1 - q.2.2.1) (m := 2000000) (n := 200) (by omega) (by omega)
  have s4 := mulI (a := p.1.2.1 - p.2.2.1) (b := q.2.2.2 - q.1.2.2) (m := 200) (n := 2000000) (by omega) (by omega)
  have s5 := mulI (a := p.1.1 - p.2.1) (b := q.2.2.2 - q.1.2.2) (m := 200) (n := 2000000) (by omega) (by omega)
  have s6 := mulI (a := p.2.2.2 - p.1.2.2) (b := q.1.1 - q.2.1) (m := 2000000) (n := 200) (by omega) (by omega)
  exact ⟨lowR_bd h (by unfold plU; omega) (by unfold szP; omega), lowR_bd h (by unfold plV; omega) (by unfold szP; omega)⟩
/-- where two pairs are of one worth each -/
theorem place_uniq {p q : H2} {z : Q2} (h : szP p q ≠ 0) (h1 : wq p.1 z = wq p.2 z) (h2 : wq q.1 z = wq q.2 z) : placeQ p q = z := by
  have n := cast_ne h
  unfold wq at h1 h2
  have e1 : (plU p q : Rat) = z.1 * (szP p q : Rat) := by
    unfold plU szP
    simp only [Rat.intCast_sub, Rat.intCast_mul]
    grind
  have e2 : (plV p q : Rat) = z.2 * (szP p q : Rat) := by
    unfold plV szP
    simp only [Rat.intCast_sub, Rat.intCast_mul]
    grind
  unfold placeQ
  rw [e1, e2, Rat.mul_div_cancel n, Rat.mul_div_cancel n]
theorem foot_ok {p : H2} (hp : PrOk p) (h : ftN p ≠ 0) : PlOk (footQ p) := by
  obtain ⟨⟨⟨a1, a2⟩, ⟨a3, a4⟩, a5, a6⟩, ⟨b1, b2⟩, ⟨b3, b4⟩, b5, b6⟩ := hp
  have s1 := mulI (a := p.1.1 - p.2.1) (b := p.1.1 - p.2.1) (m := 200) (n := 200) (by omega) (by omega)
  have s2 := mulI (a := p.1.2.1 - p.2.2.1) (b := p.1.2.1 - p.2.2.1) (m := 200) (n := 200) (by omega) (by omega)
  have s3 := mulI (a := p.1.1 - p.2.1) (b := p.2.2.2 - p.1.2.2) (m := 200) (n := 2000000) (by omega) (by omega)
  have s4 := mulI (a := p.1.2.1 - p.2.2.1) (b := p.2.2.2 - p.1.2.2) (m := 200) (n := 2000000) (by omega) (by omega)
  exact ⟨lowR_bd h (by omega) (by unfold ftN; omega), lowR_bd h (by omega) (by unfold ftN; omega)⟩
theorem foot_of_eq {p : H2} (hp : PrOk p) (h : ftN p ≠ 0) : ev_foot_of [encP2 p] = some (encW (footQ p), false, []) := by
  have key : Ok (ev_foot_of [encP2 p]) fun r => r = (encW (footQ p), false, []) := by
    obtain ⟨⟨⟨a1, a2⟩, ⟨a3, a4⟩, a5, a6⟩, ⟨b1, b2⟩, ⟨b3, b4⟩, b5, b6⟩ := hp
    have s1 := mulI (a := p.1.1 - p.2.1) (b := p.1.1 - p.2.1) (m := 200) (n := 200) (by omega) (by omega)
    have s2 := mulI (a := p.1.2.1 - p.2.2.1) (b := p.1.2.1 - p.2.2.1) (m := 200) (n := 200) (by omega) (by omega)
    have e1 : ftN p = (p.1.1 - p.2.1) * (p.1.1 - p.2.1) + (p.1.2.1 - p.2.2.1) * (p.1.2.1 - p.2.2.1) := rfl
    unfold ev_foot_of b_foot_of encP2 encHt
    rw [w_def rfl]
    walk_at "ev"
    refine ⟨mul40 (by omega) (by omega) (by omega) (by omega), mul40 (by omega) (by omega) (by omega) (by omega), mul40 (by omega) (by omega) (by omega) (by omega), ?_⟩
    refine ok_eq (pratio_eq _ _ h (small_8999 (by omega))) ?_
    walk_at "ev"
    refine ⟨mul40 (by omega) (by omega) (by omega) (by omega), ?_⟩
    refine ok_eq (pratio_eq _ _ h (small_8999 (by omega))) ?_
    walk_at "ev"
    have h' : (p.1.1 - p.2.1) * (p.1.1 - p.2.1) + (p.1.2.1 - p.2.2.1) * (p.1.2.1 - p.2.2.1) ≠ 0 := h
    rw [lowR_q h', lowR_q h']
    rfl
  obtain ⟨r, e, h⟩ := key
  rw [e, h]
def prs (ts : List Ht) (j : Nat) : List H2 := (List.range j).flatMap fun k => (ts.take k).map fun s => (s, ts.getD k (0, 0, 0))
theorem prs_s (ts : List Ht) (j : Nat) : prs ts (j + 1) = prs ts j ++ (ts.take j).map fun s => (s, ts.getD j (0, 0, 0)) := by
  unfold prs
  rw [List.range_succ, List.flatMap_append]
  simp
theorem prs_len (ts : List Ht) : ∀ j, (prs ts j).length ≤ j * ts.length
  | 0 => Nat.zero_le _
  | j + 1 => by
    rw [prs_s, List.length_append, List.length_map, List.length_take, Nat.add_mul]
    have := prs_len ts j
    omega
theorem pairs_of_eq {ts : List Ht} (hl : ts.length ≤ 1000) : ev_pairs_of [.lst (ts.map encHt)] = some (.lst ((prs ts ts.length).map encP2), true, []) := by
  have key : Ok (ev_pairs_of [.lst (ts.map encHt)]) fun r => r = (.lst ((prs ts ts.length).map encP2), true, []) := by
    unfold ev_pairs_of b_pairs_of
    rw [w_def rfl]
    walk_at "ev"
    refine loop_inv (fun j env => ∃ s2 s3 : SV, env = [.fz (.lst (ts.map encHt)), .o1 ((prs ts j).map encP2), s2, s3, .no] ∧ freeP s2 = true ∧ freeP s3 = true) _ 0 _ ⟨_, _, rfl, rfl, rfl⟩ (fun j d env hd hi => ?_) fun env hi => ?_
    · obtain ⟨s2, s3, rfl, f2, f3⟩ := hi
      rw [Nat.zero_add]
      obtain ⟨x, hx, rfl⟩ := enumD_get _ _ _ _ hd
      rw [List.getElem?_map] at hx
      obtain ⟨t, htm, rfl⟩ := Option.map_eq_some_iff.mp hx
      have hj := (List.getElem?_eq_some_iff.mp htm).1
      have eg : ts.getD j (0, 0, 0) = t := by
        rw [List.getD_eq_getElem?_getD, htm]
        rfl
      have pl := prs_len ts j
      have jl := Nat.mul_le_mul hj hl
      have jl2 : j * ts.length ≤ 1000 * 1000 := Nat.mul_le_mul (by omega) hl
      rw [prs_s, eg, Nat.zero_add]
      walk_at "ev"
      refine ⟨f2, f3, ?_⟩
      rw [cutD_to, ← List.map_take]
      refine lc_map (c := encHt) (h := fun s => encP2 (s, t)) (xs := ts.take j) (fun s _ acc => ?_) ?_
      · walk_at "ev"
        rfl
      · walk_at "ev"
        have lt : (ts.take j).length ≤ j := by
          rw [List.length_take]
          omega
        refine ⟨by omega, by omega, .fz (.int (j : Int)), .fz (encHt t), ?_, rfl, rfl⟩
        rw [List.map_append, List.map_map]
        rfl
    · obtain ⟨s2, s3, rfl, f2, f3⟩ := hi
      rw [Nat.zero_add, enumD_len, List.length_map]
      walk_at "ev"
  obtain ⟨r, e, h⟩ := key
  rw [e, h]
def PMok (m : List (Q2 × D)) (n : Nat) (W : List Q2) : Prop := (m.map (·.1)).Nodup ∧ (∀ x, x ∈ m → PlOk x.1) ∧ m.length ≤ n ∧ ∀ w, w ∈ W → w ∈ m.map (·.1)
theorem PMok.put {m : List (Q2 × D)} {n : Nat} {W : List Q2} (h : PMok m n W) {z : Q2} (hz : PlOk z) (d : D) : PMok (wPut m z d) (n + 1) (W ++ [z]) := by
  obtain ⟨h1, h2, h3, h4⟩ := h
  refine ⟨wPut_nodup h1 z d, fun x hx => ?_, Nat.le_trans (wPut_len m z d) (by omega), fun w hw => ?_⟩
  · rcases wPut_mem.mp hx with e | e
    · rw [e]
      exact hz
    · exact h2 x e.2
  · by_cases c : w = z
    · exact List.mem_map.mpr ⟨(z, d), wPut_mem.mpr (.inl rfl), c.symm⟩
    · rcases List.mem_append.mp hw with y | y
      · obtain ⟨x, hx, e⟩ := List.mem_map.mp (h4 w y)
        exact List.mem_map.mpr ⟨x, wPut_mem.mpr (.inr ⟨by rw [e]; exact c, hx⟩), e⟩
      · exact absurd (List.mem_singleton.mp y) c
theorem PMok.mono {m : List (Q2 × D)} {n n' : Nat} {W W' : List Q2} (h : PMok m n W) (k : n ≤ n') (hw : ∀ w, w ∈ W' → w ∈ W) : PMok m n' W' := ⟨h.1, h.2.1, Nat.le_trans h.2.2.1 k, fun w y => h.2.2.2 w (hw w y)⟩
def wn (qs : List H2) (p : H2) : List Q2 := (qs.filter fun q => decide (szP p q ≠ 0)).map (placeQ p)
theorem take_s {α : Type} {xs : List α} {j : Nat} {x : α} (h : xs[j]? = some x) : xs.take (j + 1) = xs.take j ++ [x] := by
  rw [List.take_succ, h]
  rfl
theorem mergeSort_W (xs : List Q2) : ∃ ys : List Q2, (xs.map encW).mergeSort leD = ys.map encW ∧ ys.Perm xs := by
  refine ⟨xs.mergeSort fun a b => leD (encW a) (encW b), ?_, List.mergeSort_perm _ _⟩
  rw [List.map_mergeSort]
  intro a _ b _
  rfl
theorem places_of_eq {ts us : List Ht} (hl : ts.length ≤ 30) (hu : us.length ≤ 30) (ht : ∀ p, p ∈ prs ts ts.length → PrOk p ∧ ftN p ≠ 0) (hv : ∀ p, p ∈ prs us us.length → PrOk p) :
    ∃ L : List Q2, ev_places_of [.lst (ts.map encHt), .lst (us.map encHt)] = some (.lst (L.map encW), true, []) ∧ L.Nodup ∧ (∀ z, z ∈ L → PlOk z) ∧ L.length ≤ 1000000 ∧ ∀ p, p ∈ prs ts ts.length → ∀ q, q ∈ prs us us.length → szP p q ≠ 0 → placeQ p q ∈ L := by
  have key : Ok (ev_places_of [.lst (ts.map encHt), .lst (us.map encHt)]) fun r => ∃ L : List Q2, r = (.lst (L.map encW), true, []) ∧ L.Nodup ∧ (∀ z, z ∈ L → PlOk z) ∧ L.length ≤ 1000000 ∧ ∀ p, p ∈ prs ts ts.length → ∀ q, q ∈ prs us us.length → szP p q ≠ 0 → placeQ p q ∈ L := by
    have lp := prs_len ts ts.length
    have lq := prs_len us us.length
    have lp2 : ts.length * ts.length ≤ 30 * 30 := Nat.mul_le_mul hl hl
    have lq2 : us.length * us.length ≤ 30 * 30 := Nat.mul_le_mul hu hu
    have ep := pairs_of_eq (ts := ts) (by omega)
    have eq := pairs_of_eq (ts := us) (by omega)
    generalize prs ts ts.length = P at ht lp ep
    generalize prs us us.length = Q at hv lq eq
    unfold ev_places_of b_places_of
    rw [w_def rfl]
    walk_at "ev"
    refine ok_eq ep ?_
    walk_at "ev"
    refine loop_inv (fun j env => ∃ (m : List (Q2 × D)) (s3 s4 s5 : SV), env = [.fz (.lst (ts.map encHt)), .fz (.lst (us.map encHt)), .nw (.dcN (encM m)), s3, s4, s5] ∧ freeP s3 = true ∧ freeP s4 = true ∧ freeP s5 = true ∧ PMok m (j * (1 + Q.length)) ((P.take j).flatMap (wn Q))) _ 0 _ ⟨[], .no, .no, .no, rfl, rfl, rfl, rfl, ⟨List.nodup_nil, (fun x hx => nomatch hx), Nat.zero_le _, fun w hw => (nomatch hw)⟩⟩ (fun j d env hd hi => ?_) fun env hi => ?_
    · obtain ⟨m, s3, s4, s5, rfl, f3, f4, f5, hm⟩ := hi
      rw [Nat.zero_add] at hm ⊢
      rw [List.getElem?_map] at hd
      obtain ⟨p, hp, rfl⟩ := Option.map_eq_some_iff.mp hd
      have hj := (List.getElem?_eq_some_iff.mp hp).1
      have pm := List.mem_of_getElem? hp
      have jb : j * (1 + Q.length) ≤ 900 * 901 := Nat.mul_le_mul (by omega) (by omega)
      have ml := hm.2.2.1
      walk_at "ev"
      refine ⟨f3, ok_eq (foot_of_eq (ht p pm).1 (ht p pm).2) ?_⟩
      walk_at "ev"
      rw [keyN_W]
      walk_at "ev"
      rw [encM_len, kPut_M]
      refine ⟨by omega, ok_eq eq ?_⟩
      walk_at "ev"
      have m0 := hm.put (foot_ok (ht p pm).1 (ht p pm).2) (.bl true)
      refine loop_inv (fun i env => ∃ (m : List (Q2 × D)) (s4 s5 : SV), env = [.fz (.lst (ts.map encHt)), .fz (.lst (us.map encHt)), .nw (.dcN (encM m)), .fz (encP2 p), s4, s5] ∧ freeP s4 = true ∧ freeP s5 = true ∧ PMok m (j * (1 + Q.length) + 1 + i) ((P.take j).flatMap (wn Q) ++ wn (Q.take i) p)) _ 0 _ ⟨_, _, _, rfl, f4, f5, m0.mono (Nat.le_refl _) fun w hw => List.mem_append_left _ (by simpa [wn] using hw)⟩ (fun i d env hd hi => ?_) fun env hi => ?_
      · obtain ⟨m, s4, s5, rfl, f4, f5, hm⟩ := hi
        rw [Nat.zero_add] at hm ⊢
        rw [List.getElem?_map] at hd
        obtain ⟨q, hq, rfl⟩ := Option.map_eq_some_iff.mp hd
        have hi := (List.getElem?_eq_some_iff.mp hq).1
        have qm := List.mem_of_getElem? hq
        have ml := hm.2.2.1
        have ew : wn (Q.take (i + 1)) p = wn (Q.take i) p ++ wn [q] p := by
          rw [take_s hq]
          unfold wn
          rw [List.filter_append, List.map_append]
        walk_at "ev"
        refine ⟨f4, ok_eq (place_of_eq (ht p pm).1 (hv q qm)) ?_⟩
        by_cases c : szP p q = 0
        · rw [if_pos c]
          walk_at "ev"
          have e0 : wn [q] p = [] := by
            unfold wn
            rw [List.filter_cons_of_neg (by simpa using c)]
            rfl
          exact ⟨f5, m, .fz (encP2 q), .fz .non, rfl, rfl, rfl, hm.mono (by omega) fun w hw => by rw [ew, e0, List.append_nil] at hw; exact hw⟩
        · rw [if_neg c]
          walk_at "ev"
          refine ⟨f5, fun _ => ?_, fun c2 => absurd (show false = true from c2) Bool.false_ne_true⟩
          rw [keyN_W, q_dpN, encM_len, kPut_M]
          have e0 : wn [q] p = [placeQ p q] := by
            unfold wn
            rw [List.filter_cons_of_pos (by simpa using c)]
            rfl
          exact ⟨by omega, _, .fz (encP2 q), .fz (encW (placeQ p q)), rfl, rfl, rfl, (hm.put (place_ok (ht p pm).1 (hv q qm) c) (.bl true)).mono (Nat.le_refl _) fun w hw => by rw [ew, e0, ← List.append_assoc] at hw; exact hw⟩
      · obtain ⟨m, s4, s5, rfl, f4, f5, hm⟩ := hi
        rw [Nat.zero_add, List.length_map] at hm
        rw [List.take_length] at hm
        refine ⟨m, _, _, _, rfl, rfl, f4, f5, hm.mono (by rw [Nat.add_mul]; omega) fun w hw => ?_⟩
        rw [take_s hp, List.flatMap_append] at hw
        simpa using hw
    · obtain ⟨m, s3, s4, s5, rfl, f3, f4, f5, hm⟩ := hi
      rw [Nat.zero_add, List.length_map] at hm
      rw [List.take_length] at hm
      have jb : P.length * (1 + Q.length) ≤ 900 * 901 := Nat.mul_le_mul (by omega) (by omega)
      have ml := hm.2.2.1
      walk_at "ev"
      rw [encM_len, keysNN_M]
      obtain ⟨L, eL, pL⟩ := mergeSort_W (m.map (·.1))
      rw [eL]
      refine ⟨by omega, can_W _, L, rfl, pL.nodup_iff.mpr hm.1, fun z hz => ?_, by rw [pL.length_eq, List.length_map]; omega, fun p hp q hq c => pL.mem_iff.mpr (hm.2.2.2 _ (List.mem_flatMap.mpr ⟨p, hp, List.mem_map.mpr ⟨q, List.mem_filter.mpr ⟨hq, decide_eq_true c⟩, rfl⟩⟩))⟩
      obtain ⟨x, hx, rfl⟩ := List.mem_map.mp (pL.mem_iff.mp hz)
      exact hm.2.1 x hx
  obtain ⟨r, e, L, rfl, h⟩ := key
  exact ⟨L, e, h⟩
end Lw
namespace Lw
open PySem L2 Dv
theorem lastR_get : ∀ (l : List R) (b : R), (b :: l).getLast? = some (lastR b l)
  | [], b => rfl
  | c :: l, b => by
    rw [List.getLast?_cons_cons]
    exact lastR_get l c
theorem chain_flat {a : R} : ∀ (l : List R) (b : R), (∀ x, x ∈ b :: l → ∀ y, y ∈ l → crossP a x y = 0) → l.foldl pushW [b, a] = [lastR b l, a]
  | [], b, _ => rfl
  | c :: l, b, h => by
    have e : pushW [b, a] c = [c, a] := by
      unfold pushW popW
      rw [if_pos (by rw [h b List.mem_cons_self c List.mem_cons_self]; exact Int.le_refl _)]
      rfl
    rw [List.foldl_cons, e]
    exact chain_flat l c fun x hx y hy => h x (List.mem_cons_of_mem _ hx) y (List.mem_cons_of_mem _ hy)
theorem chain_seg {ss : List R} {a z : R} (hl : 2 ≤ ss.length) (h : ∀ x, x ∈ ss → ∀ y, y ∈ ss → ∀ w, w ∈ ss → crossP x y w = 0) (ha : ss.head? = some a) (hz : ss.getLast? = some z) : chainW ss = [z, a] := by
  match ss, hl with
  | a' :: b :: l, _ =>
    have e1 : a' = a := by simpa using ha
    rw [List.getLast?_cons_cons, lastR_get] at hz
    have e2 : lastR b l = z := by simpa using hz
    subst e1
    subst e2
    exact chain_flat l b fun x hx y hy => h a' List.mem_cons_self x (List.mem_cons_of_mem _ hx) y (List.mem_cons_of_mem _ (List.mem_cons_of_mem _ hy))
def onO (o : R) (k : Int) : R := (k * o.1, k * o.2)
theorem cross_on (o : R) (a b c : Int) : crossP (onO o a) (onO o b) (onO o c) = 0 := by
  unfold crossP onO
  grind
def LexPos (o : R) : Prop := 0 < o.1 ∨ (o.1 = 0 ∧ 0 < o.2)
theorem lt_on {o : R} (ho : LexPos o) {a b : Int} : ltP2 (onO o a) (onO o b) ↔ a < b := by
  unfold ltP2 onO
  dsimp only
  rcases ho with h | ⟨h1, h2⟩
  · constructor
    · rintro (c | ⟨c, d⟩)
      · exact Int.lt_of_mul_lt_mul_right c (Int.le_of_lt h)
      · have := Int.eq_of_mul_eq_mul_right (by omega) c
        rw [this] at d
        omega
    · intro c
      exact .inl (Int.mul_lt_mul_of_pos_right c h)
  · rw [h1]
    constructor
    · rintro (c | ⟨c, d⟩)
      · omega
      · exact Int.lt_of_mul_lt_mul_right d (Int.le_of_lt h2)
    · intro c
      exact .inr ⟨by omega, Int.mul_lt_mul_of_pos_right c h2⟩
theorem onO_inj {o : R} (ho : LexPos o) {a b : Int} (h : onO o a = onO o b) : a = b := by
  rcases Int.lt_trichotomy a b with c | c | c
  · have := (lt_on ho).mpr c
    rw [h, lt_on ho] at this
    omega
  · exact c
  · have := (lt_on ho).mpr c
    rw [h, lt_on ho] at this
    omega
def segL (o : R) (lo hi : Int) : List R := if lo = hi then [onO o lo] else [onO o lo, onO o hi]
theorem seg_hull {ps : List R} {o : R} {lo hi : Int} (ho : LexPos o) (h : ∀ p, p ∈ ps → ∃ k : Int, p = onO o k ∧ lo ≤ k ∧ k ≤ hi) (hlo : onO o lo ∈ ps) (hhi : onO o hi ∈ ps) (hn : ∀ p, p ∈ ps → Near 400 p) : hullJ (srtP ps) = segL o lo hi := by
  have st := str_srtP ps
  have mem : ∀ x, x ∈ srtP ps ↔ x ∈ ps := fun x => mem_srtP
  generalize srtP ps = ss at st mem
  have m1 := (mem _).mpr hlo
  have m2 := (mem _).mpr hhi
  have ks : ∀ p, p ∈ ss → ∃ k : Int, p = onO o k ∧ lo ≤ k ∧ k ≤ hi := fun p hp => h p ((mem p).mp hp)
  unfold segL
  by_cases c : lo = hi
  · rw [if_pos c]
    have al : ∀ p, p ∈ ss → p = onO o lo := fun p hp => by
      obtain ⟨k, rfl, k1, k2⟩ := ks p hp
      rw [show k = lo by omega]
    have e : ss = [onO o lo] := by
      match ss, st, al, m1 with
      | [a], _, al, _ => rw [al a List.mem_cons_self]
      | a :: b :: r, st, al, _ =>
        exfalso
        have := List.rel_of_pairwise_cons st (List.mem_cons_self (a := b) (l := r))
        rw [al a List.mem_cons_self, al b (List.mem_cons_of_mem _ List.mem_cons_self), lt_on ho] at this
        omega
    rw [e, hullJ_one]
  · rw [if_neg c]
    have l2 : 2 ≤ ss.length := by
      match ss, m1, m2 with
      | [a], m1, m2 =>
        exfalso
        have e1 := List.mem_singleton.mp m1
        have e2 := List.mem_singleton.mp m2
        exact c (onO_inj ho (e1.trans e2.symm))
      | a :: b :: r, _, _ => exact Nat.le_add_left 2 r.length
    have ha : ss.head? = some (onO o lo) := by
      match ss, st, m1, ks with
      | a :: r, st, m1, ks =>
        rcases List.mem_cons.mp m1 with e | e
        · rw [e]
          rfl
        · exfalso
          have := List.rel_of_pairwise_cons st e
          obtain ⟨k, rfl, k1, k2⟩ := ks a List.mem_cons_self
          rw [lt_on ho] at this
          omega
    have hz : ss.getLast? = some (onO o hi) := by
      rw [← List.head?_reverse]
      have st' : ss.reverse.Pairwise fun a b => ltP2 b a := List.pairwise_reverse.mpr st
      have m2' : onO o hi ∈ ss.reverse := List.mem_reverse.mpr m2
      have ks' : ∀ p, p ∈ ss.reverse → ∃ k : Int, p = onO o k ∧ lo ≤ k ∧ k ≤ hi := fun p hp => ks p (List.mem_reverse.mp hp)
      generalize ss.reverse = ss at st' m2' ks'
      match ss, st', m2', ks' with
      | a :: r, st, m1, ks =>
        rcases List.mem_cons.mp m1 with e | e
        · rw [e]
          rfl
        · exfalso
          have := List.rel_of_pairwise_cons st e
          obtain ⟨k, rfl, k1, k2⟩ := ks a List.mem_cons_self
          rw [lt_on ho] at this
          omega
    have cr : ∀ x, x ∈ ss → ∀ y, y ∈ ss → ∀ w, w ∈ ss → crossP x y w = 0 := fun x hx y hy w hw => by
      obtain ⟨a, rfl, _⟩ := ks x hx
      obtain ⟨b, rfl, _⟩ := ks y hy
      obtain ⟨d, rfl, _⟩ := ks w hw
      exact cross_on o a b d
    rw [hull_two st (fun p hp => hn p ((mem p).mp hp)) l2, chain_seg l2 cr ha hz, chain_seg (by rw [List.length_reverse]; exact l2) (fun x hx y hy w hw => cr x (List.mem_reverse.mp hx) y (List.mem_reverse.mp hy) w (List.mem_reverse.mp hw)) (by rw [List.head?_reverse]; exact hz) (by rw [List.getLast?_reverse]; exact ha)]
    rfl
/-- the mixed area of two such -/
theorem mixed_seg {w : Int} {a b c d : Int} (hw : -1 ≤ w ∧ w ≤ 1) (ab : a < b) (cd : c < d) (a0 : 0 ≤ a) (b9 : b ≤ 100) (c0 : 0 ≤ c) (d9 : d ≤ 100) :
    ev_mixed_area [encL [onO (1, w) a, onO (1, w) b], encL [onO (0, 1) c, onO (0, 1) d]] = some (.int ((b - a) * (d - c)), false, []) := by
  have hw' : w = -1 ∨ w = 0 ∨ w = 1 := by omega
  have nd : 0 < (b - a) * (d - c) := Int.mul_pos (by omega) (by omega)
  have nr : ∀ (k : Int), 0 ≤ k → k ≤ 100 → Near 100 (onO (1, w) k) ∧ Near 100 (onO (0, 1) k) := fun k h1 h2 => by
    unfold Near onO
    dsimp only
    rcases hw' with rfl | rfl | rfl <;> omega
  have na := (nr a a0 (by omega)).1
  have nb := (nr b (by omega) b9).1
  have nc := (nr c c0 (by omega)).2
  have nd' := (nr d (by omega) d9).2
  have nP : ∀ p, p ∈ [onO (1, w) a, onO (1, w) b] → Near 100 p := fun p hp => by
    simp only [List.mem_cons, List.not_mem_nil, or_false] at hp
    rcases hp with rfl | rfl <;> assumption
  have nQ : ∀ p, p ∈ [onO (0, 1) c, onO (0, 1) d] → Near 100 p := fun p hp => by
    simp only [List.mem_cons, List.not_mem_nil, or_false] at hp
    rcases hp with rfl | rfl <;> assumption
  have nW : ∀ x, x ∈ sumsL [onO (1, w) a, onO (1, w) b] [onO (0, 1) c, onO (0, 1) d] → Near 400 x := fun x hx => (sums_near nP nQ x hx).mono (by omega)
  have es : sumsL [onO (1, w) a, onO (1, w) b] [onO (0, 1) c, onO (0, 1) d] = [(a, a * w + c), (a, a * w + d), (b, b * w + c), (b, b * w + d)] := by
    unfold sumsL onO ad
    simp
  have st : StrP [((a, a * w + c) : R), (a, a * w + d), (b, b * w + c), (b, b * w + d)] := by
    have up : ∀ (x y z : Int), y < z → ltP2 (x, y) (x, z) := fun x y z h => .inr ⟨rfl, h⟩
    have ri : ∀ (x y z u : Int), x < y → ltP2 (x, z) (y, u) := fun x y z u h => .inl h
    refine List.pairwise_cons.mpr ⟨fun x hx => ?_, List.pairwise_cons.mpr ⟨fun x hx => ?_, List.pairwise_cons.mpr ⟨fun x hx => ?_, List.pairwise_singleton _ _⟩⟩⟩
    · simp only [List.mem_cons, List.not_mem_nil, or_false] at hx
      rcases hx with rfl | rfl | rfl
      · exact up _ _ _ (by omega)
      · exact ri _ _ _ _ ab
      · exact ri _ _ _ _ ab
    · simp only [List.mem_cons, List.not_mem_nil, or_false] at hx
      rcases hx with rfl | rfl
      · exact ri _ _ _ _ ab
      · exact ri _ _ _ _ ab
    · rw [List.mem_singleton.mp hx]
      exact up _ _ _ (by omega)
  have eh : putP [onO (1, w) a, onO (1, w) b] [onO (0, 1) c, onO (0, 1) d] = [(a, a * w + c), (b, b * w + c), (b, b * w + d), (a, a * w + d)] := by
    unfold putP
    rw [es]
    rw [es] at nW
    rw [srtP_self st, hull_two st nW (Nat.le_add_left 2 2)]
    have x1 : crossP (a, a * w + c) (a, a * w + d) (b, b * w + c) = 0 - (b - a) * (d - c) := by
      unfold crossP
      grind
    have x2 : crossP (a, a * w + c) (b, b * w + c) (b, b * w + d) = (b - a) * (d - c) := by
      unfold crossP
      grind
    have x3 : crossP (b, b * w + d) (b, b * w + c) (a, a * w + d) = 0 - (b - a) * (d - c) := by
      unfold crossP
      grind
    have x4 : crossP (b, b * w + d) (a, a * w + d) (a, a * w + c) = (b - a) * (d - c) := by
      unfold crossP
      grind
    have c1 : chainW [((a, a * w + c) : R), (a, a * w + d), (b, b * w + c), (b, b * w + d)] = [(b, b * w + d), (b, b * w + c), (a, a * w + c)] := by
      show pushW (pushW [(a, a * w + d), (a, a * w + c)] (b, b * w + c)) (b, b * w + d) = _
      have e1 : pushW [((a, a * w + d) : R), (a, a * w + c)] (b, b * w + c) = [(b, b * w + c), (a, a * w + c)] := by
        unfold pushW popW
        rw [if_pos (by omega)]
        rfl
      rw [e1]
      unfold pushW popW
      rw [if_neg (by omega)]
    have c2 : chainW [((b, b * w + d) : R), (b, b * w + c), (a, a * w + d), (a, a * w + c)] = [(a, a * w + c), (a, a * w + d), (b, b * w + d)] := by
      show pushW (pushW [(b, b * w + c), (b, b * w + d)] (a, a * w + d)) (a, a * w + c) = _
      have e1 : pushW [((b, b * w + c) : R), (b, b * w + d)] (a, a * w + d) = [(a, a * w + d), (b, b * w + d)] := by
        unfold pushW popW
        rw [if_pos (by omega)]
        rfl
      rw [e1]
      unfold pushW popW
      rw [if_neg (by omega)]
    rw [c1, show [((a, a * w + c) : R), (a, a * w + d), (b, b * w + c), (b, b * w + d)].reverse = [(b, b * w + d), (b, b * w + c), (a, a * w + d), (a, a * w + c)] from rfl, c2]
    rfl
  have pt := put_together_eq (P := [onO (1, w) a, onO (1, w) b]) (Q := [onO (0, 1) c, onO (0, 1) d]) (List.cons_ne_nil _ _) (List.cons_ne_nil _ _) (by simp) nW
  rw [eh] at pt
  have nZ : ∀ p, p ∈ [((a, a * w + c) : R), (b, b * w + c), (b, b * w + d), (a, a * w + d)] → Near (10 ^ 9) p := fun p hp => by
    have := nW p (by
      rw [es]
      simp only [List.mem_cons, List.not_mem_nil, or_false] at hp ⊢
      rcases hp with rfl | rfl | rfl | rfl <;> simp)
    exact this.mono (by decide)
  have d1 := doubled_eq (cs := [((a, a * w + c) : R), (b, b * w + c), (b, b * w + d), (a, a * w + d)]) (List.cons_ne_nil _ _) (by simp) nZ
  have d2 := doubled_eq (cs := [onO (1, w) a, onO (1, w) b]) (List.cons_ne_nil _ _) (by simp) (fun p hp => (nP p hp).mono (by decide))
  have d3 := doubled_eq (cs := [onO (0, 1) c, onO (0, 1) d]) (List.cons_ne_nil _ _) (by simp) (fun p hp => (nQ p hp).mono (by decide))
  have f1 : dbl [((a, a * w + c) : R), (b, b * w + c), (b, b * w + d), (a, a * w + d)] = 2 * ((b - a) * (d - c)) := by
    show crossP (a, a * w + c) (b, b * w + c) (b, b * w + d) + (crossP (a, a * w + c) (b, b * w + d) (a, a * w + d) + 0) = _
    unfold crossP
    grind
  have key : Ok (ev_mixed_area [encL [onO (1, w) a, onO (1, w) b], encL [onO (0, 1) c, onO (0, 1) d]]) fun r => r = (.int ((b - a) * (d - c)), false, []) := by
    rw [f1] at d1
    rw [show dbl [onO (1, w) a, onO (1, w) b] = 0 from rfl] at d2
    rw [show dbl [onO (0, 1) c, onO (0, 1) d] = 0 from rfl] at d3
    unfold encL at pt d1 d2 d3 ⊢
    unfold ev_mixed_area b_mixed_area
    rw [w_def rfl]
    walk_at "ev"
    refine ok_eq pt ?_
    walk_at "ev"
    refine ok_eq d1 ?_
    walk_at "ev"
    refine ok_eq d2 ?_
    walk_at "ev"
    refine ok_eq d3 ?_
    walk_at "ev"
    refine ⟨div40 (by decide) (by decide), ?_⟩
    have ef : (2 * ((b - a) * (d - c)) - 0 - 0).fdiv 2 = (b - a) * (d - c) := by
      rw [Int.sub_zero, Int.sub_zero]
      exact Int.mul_fdiv_cancel_left _ (by decide)
    rw [ef]
  obtain ⟨r, e, h⟩ := key
  rw [e, h]
end Lw
namespace Lw
open PySem L2 Dv
def keyH (t : Ht) : R := (t.1, t.2.1)
def leastK (ts : List Ht) (z : Q2) : List R := (leastH ts z).map keyH
theorem leastK_enc (ts : List Ht) (z : Q2) : D.lst ((leastH ts z).map encK2) = encL (leastK ts z) := by
  unfold encL leastK
  rw [List.map_map]
  rfl
def mineP (ts : List Ht) (z : Q2) : List R := hullJ (srtP (leastK ts z))
structure SegAt (ts : List Ht) (o : R) (z : Q2) (lo hi : Int) : Prop where
  eq : mineP ts z = segL o lo hi
  le : lo ≤ hi
  l0 : 0 ≤ lo
  h9 : hi ≤ 100
structure TsOk (ts : List Ht) : Prop where
  ne : ts ≠ []
  len : ts.length ≤ 30
  ok : ∀ t, t ∈ ts → HtOk t
  nd : (ts.map keyH).Nodup
theorem least_ne {ts : List Ht} (h : ts ≠ []) (z : Q2) : leastH ts z ≠ [] := by
  have ex : ∀ us : List Ht, us ≠ [] → ∃ t, t ∈ us ∧ ∀ s, s ∈ us → wq t z ≤ wq s z := by
    intro us
    induction us with
    | nil => intro h; exact absurd rfl h
    | cons t us ih =>
      intro _
      by_cases c : us = []
      · subst c
        exact ⟨t, List.mem_cons_self, fun s hs => by rw [List.mem_singleton.mp hs]; exact Rat.le_refl⟩
      · obtain ⟨m, hm, hl⟩ := ih c
        rcases Rat.le_total (a := wq t z) (b := wq m z) with y | y
        · refine ⟨t, List.mem_cons_self, fun s hs => ?_⟩
          rcases List.mem_cons.mp hs with e | e
          · rw [e]
            exact Rat.le_refl
          · exact Rat.le_trans y (hl s e)
        · refine ⟨m, List.mem_cons_of_mem _ hm, fun s hs => ?_⟩
          rcases List.mem_cons.mp hs with e | e
          · rw [e]
            exact y
          · exact hl s e
  obtain ⟨t, ht, hl⟩ := ex ts h
  exact List.ne_nil_of_mem (List.mem_filter.mpr ⟨ht, by rw [List.all_eq_true]; exact fun s hs => decide_eq_true (hl s hs)⟩)
theorem mine_eq {ts : List Ht} {z : Q2} (h : TsOk ts) (hz : PlOk z) : ev_least_terms [.lst (ts.map encHt), encQ z.1, encQ z.2] = some (encL (leastK ts z), true, []) ∧ ev_hull [encL (leastK ts z)] = some (encL (mineP ts z), true, []) := by
  have ln : (leastK ts z).length ≤ 30 := by
    unfold leastK leastH
    rw [List.length_map]
    exact Nat.le_trans (List.length_filter_le _ _) h.len
  refine ⟨?_, hull_eq (fun e => ?_) (by omega) fun p hp => ?_⟩
  · rw [← leastK_enc]
    exact least_terms_eq h.ne (by have := h.len; omega) h.ok hz
  · exact least_ne h.ne z (List.map_eq_nil_iff.mp e)
  · obtain ⟨t, ht, rfl⟩ := List.mem_map.mp hp
    obtain ⟨h1, h2, _⟩ := h.ok t (List.mem_filter.mp ht).1
    unfold Near keyH
    dsimp only
    omega
theorem segL_len (o : R) (lo hi : Int) : (segL o lo hi).length = if lo = hi then 1 else 2 := by
  unfold segL
  split <;> rfl
theorem mixed_at {ts us : List Ht} {z : Q2} {w lo hi lo' hi' : Int} (hw : -1 ≤ w ∧ w ≤ 1) (sf : SegAt ts (1, w) z lo hi) (sg : SegAt us (0, 1) z lo' hi') (h : lo ≠ hi) (h' : lo' ≠ hi') :
    ev_mixed_area [encL (mineP ts z), encL (mineP us z)] = some (.int ((hi - lo) * (hi' - lo')), false, []) := by
  have a := sf.le
  have b := sg.le
  rw [sf.eq, sg.eq]
  unfold segL
  rw [if_neg h, if_neg h']
  exact mixed_seg hw (by omega) (by omega) sf.l0 sf.h9 sg.l0 sg.h9
theorem crossing_at_eq {ts us : List Ht} {z : Q2} {w lo hi lo' hi' : Int} (ht : TsOk ts) (hu : TsOk us) (hz : PlOk z) (hw : -1 ≤ w ∧ w ≤ 1) (sf : SegAt ts (1, w) z lo hi) (sg : SegAt us (0, 1) z lo' hi') :
    ev_crossing_at [.lst (ts.map encHt), .lst (us.map encHt), encW z] = some (if lo = hi ∨ lo' = hi' then .non else .tup [encL (mineP ts z), encL (mineP us z)], false, []) := by
  have key : Ok (ev_crossing_at [.lst (ts.map encHt), .lst (us.map encHt), encW z]) fun r => r = (if lo = hi ∨ lo' = hi' then .non else .tup [encL (mineP ts z), encL (mineP us z)], false, []) := by
    obtain ⟨e1, e2⟩ := mine_eq ht hz
    obtain ⟨e3, e4⟩ := mine_eq hu hz
    have l1 := segL_len (1, w) lo hi
    have l2 := segL_len (0, 1) lo' hi'
    rw [← sf.eq] at l1
    rw [← sg.eq] at l2
    unfold encL at e1 e2 e3 e4 ⊢
    unfold ev_crossing_at b_crossing_at encW
    rw [w_def rfl]
    walk_at "ev"
    refine ok_eq e1 ?_
    walk_at "ev"
    refine ok_eq e2 ?_
    walk_at "ev"
    refine ok_eq e3 ?_
    walk_at "ev"
    refine ok_eq e4 ?_
    walk_at "ev"
    by_cases c : lo = hi
    · rw [if_pos c] at l1
      rw [if_pos (.inl c), l1]
      exact ⟨fun _ => rfl, fun y => absurd rfl y⟩
    · rw [if_neg c] at l1
      by_cases c' : lo' = hi'
      · rw [if_pos c'] at l2
        rw [if_pos (.inr c'), l1, l2]
        exact ⟨fun y => absurd y (by decide), fun _ => ⟨fun _ => rfl, fun y => absurd rfl y⟩⟩
      · rw [if_neg c'] at l2
        rw [if_neg (fun y => y.elim c c'), l1, l2]
        refine ⟨fun y => absurd y (by decide), fun _ => ⟨fun y => absurd y (by decide), fun _ => ⟨fun y => absurd y (by decide), fun _ => ⟨fun y => absurd y (by decide), fun _ => ?_⟩⟩⟩⟩
        have em := mixed_at hw sf sg c c'
        unfold encL at em
        refine ok_eq em ?_
        walk_at "ev"
        have a := sf.le
        have b := sg.le
        have := Int.mul_pos (show 0 < hi - lo by omega) (show 0 < hi' - lo' by omega)
        exact fun y => absurd y (by omega)
  obtain ⟨r, e, h⟩ := key
  rw [e, h]
def htT (p : Int) (t : Trm) : Ht := (t.1, t.2.1, hgt p t.2.2)
theorem height_eq {q : R} {p : Int} (h1 : q.1 ≠ 0) (h2 : q.2 ≠ 0) (hp : 2 ≤ p) (hp2 : p ≤ 10 ^ 40) : ev_height [encR q, .int p] = some (.int (hgt p q), false, []) := by
  have key : Ok (ev_height [encR q, .int p]) fun r => r = (.int (hgt p q), false, []) := by
    unfold ev_height b_height
    rw [w_def rfl]
    walk_at "ev"
    refine ok_eq (gEq_R q (0, 1)) ?_
    have hq : q ≠ (0, 1) := fun z => h1 (by rw [z])
    rw [decide_eq_false hq]
    unfold encR
    walk_at "ev"
    refine ok_eq (how_often_eq h1 hp hp2) ?_
    walk_at "ev"
    refine ok_eq (how_often_eq h2 hp hp2) ?_
    walk_at "ev"
    rfl
  obtain ⟨r, e, h⟩ := key
  rw [e, h]
theorem heights_of_eq {ts : List Trm} {p : Int} (h0 : ts ≠ []) (hl : ts.length ≤ 1000) (h : ∀ t, t ∈ ts → t.2.2.1 ≠ 0 ∧ t.2.2.2 ≠ 0) (hp : 2 ≤ p) (hp2 : p ≤ 10 ^ 40) : ev_heights_of [.lst (ts.map encT), .int p] = some (.lst ((ts.map (htT p)).map encHt), true, []) := by
  have key : Ok (ev_heights_of [.lst (ts.map encT), .int p]) fun r => r = (.lst ((ts.map (htT p)).map encHt), true, []) := by
    unfold ev_heights_of b_heights_of
    rw [w_def rfl]
    walk_at "ev"
    refine ok_eq (gEq_Tm ts []) ?_
    rw [decide_eq_false h0]
    walk_at "ev"
    refine lc_map (c := encT) (h := fun t => encHt (htT p t)) (xs := ts) (fun t ht acc => ?_) ?_
    · unfold encT
      walk_at "ev"
      refine ok_eq (height_eq (h t ht).1 (h t ht).2 hp hp2) ?_
      walk_at "ev"
      rfl
    · walk_at "ev"
      rw [List.map_map]
      exact ⟨by omega, rfl⟩
  obtain ⟨r, e, h⟩ := key
  rw [e, h]
theorem prs_mem {ts : List Ht} : ∀ {j : Nat}, j ≤ ts.length → ∀ {p : H2}, p ∈ prs ts j → ∃ i k : Nat, ∃ (hi : i < ts.length) (hk : k < ts.length), i < k ∧ ts[i] = p.1 ∧ ts[k] = p.2 := by
  intro j hj p hp
  obtain ⟨k, hk, hp⟩ := List.mem_flatMap.mp hp
  obtain ⟨s, hs, rfl⟩ := List.mem_map.mp hp
  have hk := List.mem_range.mp hk
  obtain ⟨i, hi, e⟩ := List.mem_take_iff_getElem.mp hs
  refine ⟨i, k, by omega, by omega, by omega, e, ?_⟩
  show ts[k] = ts.getD k (0, 0, 0)
  rw [List.getD_eq_getElem?_getD, List.getElem?_eq_getElem (by omega)]
  rfl
theorem sq_zero {a b : Int} (h : a * a + b * b = 0) : a = 0 ∧ b = 0 := by
  have nn : ∀ x : Int, 0 ≤ x * x := fun x => (Int.le_total 0 x).elim (fun h => Int.mul_nonneg h h) fun h => Int.mul_nonneg_of_nonpos_of_nonpos h h
  have p1 := nn a
  have p2 := nn b
  exact ⟨(Int.mul_eq_zero.mp (show a * a = 0 by omega)).elim id id, (Int.mul_eq_zero.mp (show b * b = 0 by omega)).elim id id⟩
theorem TsOk.pr {ts : List Ht} (h : TsOk ts) : ∀ p, p ∈ prs ts ts.length → PrOk p ∧ ftN p ≠ 0 := fun p hp => by
  obtain ⟨i, k, hi, hk, ik, e1, e2⟩ := prs_mem (Nat.le_refl _) hp
  refine ⟨⟨by rw [← e1]; exact h.ok _ (List.getElem_mem hi), by rw [← e2]; exact h.ok _ (List.getElem_mem hk)⟩, fun z => ?_⟩
  obtain ⟨z1, z2⟩ := sq_zero z
  have nd := List.pairwise_iff_getElem.mp h.nd i k (by rw [List.length_map]; exact hi) (by rw [List.length_map]; exact hk) ik
  rw [List.getElem_map, List.getElem_map, e1, e2] at nd
  exact nd (Prod.ext (show p.1.1 = p.2.1 by omega) (show p.1.2.1 = p.2.2.1 by omega))
theorem prs_of {ts : List Ht} {s t : Ht} (hs : s ∈ ts) (ht : t ∈ ts) (h : s ≠ t) : (s, t) ∈ prs ts ts.length ∨ (t, s) ∈ prs ts ts.length := by
  have lem : ∀ (i k : Nat) (hi : i < ts.length) (hk : k < ts.length), i < k → (ts[i], ts[k]) ∈ prs ts ts.length := fun i k hi hk ik => by
    refine List.mem_flatMap.mpr ⟨k, List.mem_range.mpr hk, List.mem_map.mpr ⟨ts[i], List.mem_take_iff_getElem.mpr ⟨i, by omega, rfl⟩, ?_⟩⟩
    rw [List.getD_eq_getElem?_getD, List.getElem?_eq_getElem hk]
    rfl
  obtain ⟨i, hi, rfl⟩ := List.getElem_of_mem hs
  obtain ⟨k, hk, rfl⟩ := List.getElem_of_mem ht
  rcases Nat.lt_trichotomy i k with c | c | c
  · exact .inl (lem i k hi hk c)
  · subst c
    exact absurd rfl h
  · exact .inr (lem k i hk hi c)
/-- the breadth of the least terms at each place -/
structure SegN (ts : List Ht) (o : R) (n : Q2 → Int) : Prop where
  ok : TsOk ts
  seg : ∀ z, ∃ lo hi, SegAt ts o z lo hi ∧ hi - lo = n z
def crz (n m : Q2 → Int) (z : Q2) : Bool := decide (n z ≠ 0 ∧ m z ≠ 0)
def encC (ts us : List Ht) (z : Q2) : D := .tup [encW z, encL (mineP ts z), encL (mineP us z)]
theorem cross_by {ts us : List Ht} {w : Int} {n m : Q2 → Int} (hw : -1 ≤ w ∧ w ≤ 1) (hf : SegN ts (1, w) n) (hg : SegN us (0, 1) m) {z : Q2} (hz : PlOk z) :
    ev_crossing_at [.lst (ts.map encHt), .lst (us.map encHt), encW z] = some (if crz n m z = true then .tup [encL (mineP ts z), encL (mineP us z)] else .non, false, []) ∧ (crz n m z = true → ev_mixed_area [encL (mineP ts z), encL (mineP us z)] = some (.int (n z * m z), false, [])) := by
  obtain ⟨lo, hi, sf, ef⟩ := hf.seg z
  obtain ⟨lo', hi', sg, eg⟩ := hg.seg z
  have cz : crz n m z = true ↔ (n z ≠ 0 ∧ m z ≠ 0) := decide_eq_true_iff
  rw [crossing_at_eq hf.ok hg.ok hz hw sf sg]
  constructor
  · by_cases c : lo = hi ∨ lo' = hi'
    · rw [if_pos c, if_neg (fun y => by have := cz.mp y; omega)]
    · rw [if_neg c, if_pos (cz.mpr (by omega))]
  · intro c
    have c := cz.mp c
    rw [← ef, ← eg]
    exact mixed_at hw sf sg (by omega) (by omega)
theorem all_crossings_eq {F G : List Trm} {p w : Int} {n m : Q2 → Int} (h0 : F ≠ []) (g0 : G ≠ []) (hF : ∀ t, t ∈ F → t.2.2.1 ≠ 0 ∧ t.2.2.2 ≠ 0) (hG : ∀ t, t ∈ G → t.2.2.1 ≠ 0 ∧ t.2.2.2 ≠ 0) (hp : 2 ≤ p) (hp2 : p ≤ 10 ^ 40)
    (hw : -1 ≤ w ∧ w ≤ 1) (hf : SegN (F.map (htT p)) (1, w) n) (hg : SegN (G.map (htT p)) (0, 1) m) :
    ∃ L : List Q2, ev_all_crossings [.lst (F.map encT), .lst (G.map encT), .int p] = some (.lst ((L.filter (crz n m)).map (encC (F.map (htT p)) (G.map (htT p)))), true, []) ∧ L.Nodup ∧ (∀ z, z ∈ L → PlOk z) ∧ L.length ≤ 1000000 ∧
      ∀ q, q ∈ prs (F.map (htT p)) (F.map (htT p)).length → ∀ r, r ∈ prs (G.map (htT p)) (G.map (htT p)).length → szP q r ≠ 0 → placeQ q r ∈ L := by
  have lF := hf.ok.len
  have lG := hg.ok.len
  rw [List.length_map] at lF lG
  have eF := heights_of_eq (p := p) h0 (by omega) hF hp hp2
  have eG := heights_of_eq (p := p) g0 (by omega) hG hp hp2
  generalize F.map (htT p) = ts at hf eF
  generalize G.map (htT p) = us at hg eG
  obtain ⟨L, eL, l1, l2, l3, l4⟩ := places_of_eq hf.ok.len hg.ok.len hf.ok.pr fun q hq => (hg.ok.pr q hq).1
  refine ⟨L, ?_, l1, l2, l3, l4⟩
  have key : Ok (ev_all_crossings [.lst (F.map encT), .lst (G.map encT), .int p]) fun r => r = (.lst ((L.filter (crz n m)).map (encC ts us)), true, []) := by
    unfold ev_all_crossings b_all_crossings
    rw [w_def rfl]
    walk_at "ev"
    refine ok_eq eF ?_
    walk_at "ev"
    refine ok_eq eG ?_
    walk_at "ev"
    refine ok_eq eL ?_
    walk_at "ev"
    refine loop_inv (fun j env => ∃ s6 s7 : SV, env = [.fz (.lst (F.map encT)), .fz (.lst (G.map encT)), .fz (.int p), .fz (.lst (ts.map encHt)), .fz (.lst (us.map encHt)), .o1 (((L.take j).filter (crz n m)).map (encC ts us)), s6, s7] ∧ freeP s6 = true ∧ freeP s7 = true) _ 0 _ ⟨_, _, rfl, rfl, rfl⟩ (fun j d env hd hi => ?_) fun env hi => ?_
    · obtain ⟨s6, s7, rfl, f6, f7⟩ := hi
      rw [Nat.zero_add]
      rw [List.getElem?_map] at hd
      obtain ⟨z, hz, rfl⟩ := Option.map_eq_some_iff.mp hd
      have zm := List.mem_of_getElem? hz
      have et := (take_s hz)
      obtain ⟨e1, e2⟩ := cross_by hw hf hg (l2 z zm)
      have lt : ((L.take j).filter (crz n m)).length ≤ L.length := Nat.le_trans (List.length_filter_le _ _) (by rw [List.length_take]; omega)
      walk_at "ev"
      refine ⟨f6, ok_eq e1 ?_⟩
      by_cases c : crz n m z = true
      · rw [if_pos c]
        rw [et, List.filter_append, List.filter_cons_of_pos c]
        walk_at "ev"
        refine ⟨f7, by omega, .fz (encW z), .fz (.tup [encL (mineP ts z), encL (mineP us z)]), ?_, rfl, rfl⟩
        rw [List.map_append]
        rfl
      · rw [if_neg c]
        rw [et, List.filter_append, List.filter_cons_of_neg c]
        walk_at "ev"
        refine ⟨f7, .fz (encW z), .fz .non, ?_, rfl, rfl⟩
        rw [List.filter_nil, List.append_nil]
    · obtain ⟨s6, s7, rfl, f6, f7⟩ := hi
      rw [Nat.zero_add, List.length_map, List.take_length]
      walk_at "ev"
  obtain ⟨r, e, h⟩ := key
  rw [e, h]
theorem meets_eq {F G : List Trm} {p w : Int} {n m : Q2 → Int} (h0 : F ≠ []) (g0 : G ≠ []) (hF : ∀ t, t ∈ F → t.2.2.1 ≠ 0 ∧ t.2.2.2 ≠ 0) (hG : ∀ t, t ∈ G → t.2.2.1 ≠ 0 ∧ t.2.2.2 ≠ 0) (hp : 2 ≤ p) (hp2 : p ≤ 10 ^ 40)
    (hw : -1 ≤ w ∧ w ≤ 1) (hf : SegN (F.map (htT p)) (1, w) n) (hg : SegN (G.map (htT p)) (0, 1) m) :
    ∃ L : List Q2, ev_meets [.lst (F.map encT), .lst (G.map encT), .int p] = some (.lst (((L.filter (crz n m)).map fun z => encX (z, n z * m z)).mergeSort leD), true, []) ∧ L.Nodup ∧
      ∀ q, q ∈ prs (F.map (htT p)) (F.map (htT p)).length → ∀ r, r ∈ prs (G.map (htT p)) (G.map (htT p)).length → szP q r ≠ 0 → placeQ q r ∈ L := by
  obtain ⟨L, eL, l1, l2, l3, l4⟩ := all_crossings_eq h0 g0 hF hG hp hp2 hw hf hg
  refine ⟨L, ?_, l1, l4⟩
  generalize F.map (htT p) = ts at hf eL
  generalize G.map (htT p) = us at hg eL
  have lM : (L.filter (crz n m)).length ≤ L.length := List.length_filter_le _ _
  have mM : ∀ z, z ∈ L.filter (crz n m) → PlOk z ∧ crz n m z = true := fun z hz => ⟨l2 z (List.mem_filter.mp hz).1, (List.mem_filter.mp hz).2⟩
  generalize L.filter (crz n m) = M at lM mM eL
  have key : Ok (ev_meets [.lst (F.map encT), .lst (G.map encT), .int p]) fun r => r = (.lst ((M.map fun z => encX (z, n z * m z)).mergeSort leD), true, []) := by
    unfold ev_meets b_meets
    rw [w_def rfl]
    walk_at "ev"
    refine ok_eq eL ?_
    walk_at "ev"
    refine loop_inv (fun j env => ∃ s4 s5 s6 s7 : SV, env = [.fz (.lst (F.map encT)), .fz (.lst (G.map encT)), .fz (.int p), .o1 ((M.take j).map fun z => encX (z, n z * m z)), s4, s5, s6, s7] ∧ freeP s4 = true ∧ freeP s5 = true ∧ freeP s6 = true ∧ freeP s7 = true) _ 0 _ ⟨_, _, _, _, rfl, rfl, rfl, rfl, rfl⟩ (fun j d env hd hi => ?_) fun env hi => ?_
    · obtain ⟨s4, s5, s6, s7, rfl, f4, f5, f6, f7⟩ := hi
      rw [Nat.zero_add]
      rw [List.getElem?_map] at hd
      obtain ⟨z, hz, rfl⟩ := Option.map_eq_some_iff.mp hd
      have hj := (List.getElem?_eq_some_iff.mp hz).1
      obtain ⟨zo, zc⟩ := mM z (List.mem_of_getElem? hz)
      have em := (cross_by hw hf hg zo).2 zc
      have lt : (M.take j).length ≤ j := by
        rw [List.length_take]
        omega
      rw [take_s hz]
      unfold encC encW
      walk_at "ev"
      refine ⟨f4, f5, f6, f7, ok_eq em ?_⟩
      walk_at "ev"
      refine ⟨by omega, .fz (encQ z.1), .fz (encQ z.2), .fz (encL (mineP ts z)), .fz (encL (mineP us z)), ?_, rfl, rfl, rfl, rfl⟩
      rw [List.map_append]
      rfl
    · obtain ⟨s4, s5, s6, s7, rfl, f4, f5, f6, f7⟩ := hi
      rw [Nat.zero_add, List.length_map, List.take_length]
      walk_at "ev"
      rw [show (M.map fun z => encX (z, n z * m z)) = (M.map fun z => (z, n z * m z)).map encX from by rw [List.map_map]; rfl]
      refine ok_eq (gSort_X _) ?_
      walk_at "ev"
  obtain ⟨r, e, h⟩ := key
  rw [e, h]
end Lw
namespace Lw
open PySem L2 Dv
def NN (hs : List Int) (u : R) : Int := lenOf u (hs.map fun h => ((h, 1), 1))
theorem NN_cons (h : Int) (hs : List Int) (u : R) : NN (h :: hs) u = (if (h, 1) = u then 1 else 0) + NN hs u := rfl
theorem NN_app (hs : List Int) (h : Int) (u : R) : NN (hs ++ [h]) u = NN hs u + NN [h] u := by
  induction hs with
  | nil => 
    show NN [h] u = 0 + NN [h] u
    omega
  | cons a r ih =>
    rw [List.cons_append, NN_cons, NN_cons, ih]
    omega
theorem NN_nn (hs : List Int) (u : R) : 0 ≤ NN hs u := by
  induction hs with
  | nil => exact Int.le_refl 0
  | cons a r ih =>
    rw [NN_cons]
    split <;> omega
def slope (o : R) (z : Q2) : Rat := (o.1 : Rat) * z.1 + (o.2 : Rat) * z.2
/-- the terms of a line φ on the way o, each once -/
structure OnWay (p : Int) (o : R) (φ : PS) (hs : List Int) (ts : List Ht) : Prop where
  mem : ∀ t, t ∈ ts ↔ ∃ k : Nat, φ.co k ≠ 0 ∧ t = (k * o.1, k * o.2, hv p (φ.co k))
  len : LenN p φ (NN hs)
  few : ∀ k, φ.co k ≠ 0 → k ≤ 90
theorem wq_way (o : R) (k : Nat) (h : Int) (z : Q2) : wq ((k : Int) * o.1, (k : Int) * o.2, h) z = (h : Rat) + (k : Rat) * slope o z := by
  unfold wq slope
  dsimp only
  rw [Rat.intCast_mul, Rat.intCast_mul, Rat.intCast_natCast]
  grind
theorem wq_le {o : R} {z : Q2} {u : R} (hu : rp (slope o z) = u) (k k' : Nat) (h h' : Int) : wq ((k : Int) * o.1, (k : Int) * o.2, h) z ≤ wq ((k' : Int) * o.1, (k' : Int) * o.2, h') z ↔ u.2 * h + u.1 * k ≤ u.2 * h' + u.1 * k' := by
  rw [wq_way, wq_way]
  have e1 : (slope o z).num = u.1 := congrArg Prod.fst hu
  have e2 : ((slope o z).den : Int) = u.2 := congrArg Prod.snd hu
  have qd := qd (slope o z)
  generalize slope o z = s at *
  have dp : (0 : Rat) < ((s.den : Nat) : Rat) := by
    have := s.den_pos
    exact Rat.natCast_pos.mpr this
  rw [← e1, ← e2, ← Rat.intCast_le_intCast]
  simp only [Rat.intCast_add, Rat.intCast_mul, Rat.intCast_natCast]
  rw [← qd]
  constructor
  · intro h
    have := Rat.mul_le_mul_of_nonneg_right h (Rat.le_of_lt dp)
    grind
  · intro h
    refine Rat.le_of_mul_le_mul_right ?_ dp
    grind
theorem OnWay.seg {p : Int} {o : R} {φ : PS} {hs : List Int} {ts : List Ht} (ho : LexPos o) (hn : -1 ≤ o.1 ∧ o.1 ≤ 1 ∧ -1 ≤ o.2 ∧ o.2 ≤ 1) (h : OnWay p o φ hs ts) (ok : TsOk ts) : SegN ts o fun z => NN hs (rp (slope o z)) := by
  refine ⟨ok, fun z => ?_⟩
  obtain ⟨M, lo, hi, F, e⟩ := h.len (rp (slope o z)) (rp_isR _)
  refine ⟨lo, hi, ⟨?_, ?_, by omega, ?_⟩, e⟩
  · have inT : ∀ k : Nat, φ.co k ≠ 0 → ((k : Int) * o.1, (k : Int) * o.2, hv p (φ.co k)) ∈ ts := fun k hk => (h.mem _).mpr ⟨k, hk, rfl⟩
    have lst : ∀ k : Nat, φ.co k ≠ 0 → (rp (slope o z)).2 * hv p (φ.co k) + (rp (slope o z)).1 * k = M → onO o k ∈ leastK ts z := fun k hk ek => by
      refine List.mem_map.mpr ⟨_, List.mem_filter.mpr ⟨inT k hk, ?_⟩, rfl⟩
      rw [List.all_eq_true]
      intro s hs
      obtain ⟨k', hk', rfl⟩ := (h.mem s).mp hs
      rw [decide_eq_true_eq, wq_le rfl, ek]
      exact (F.ge k' hk').1
    refine seg_hull ho (fun q hq => ?_) (lst lo F.l0 F.lw) (lst hi F.h0 F.hw) fun q hq => ?_
    · obtain ⟨t, ht, rfl⟩ := List.mem_map.mp hq
      obtain ⟨ht, hm⟩ := List.mem_filter.mp ht
      obtain ⟨k, hk, rfl⟩ := (h.mem t).mp ht
      rw [List.all_eq_true] at hm
      have := of_decide_eq_true (hm _ (inT lo F.l0))
      rw [wq_le rfl, F.lw] at this
      have ge := F.ge k hk
      have := ge.2 (by omega)
      exact ⟨k, rfl, by omega, by omega⟩
    · obtain ⟨t, ht, rfl⟩ := List.mem_map.mp hq
      obtain ⟨h1, h2, _⟩ := ok.ok t (List.mem_filter.mp ht).1
      unfold Near keyH
      dsimp only
      omega
  · have := F.ge lo F.l0
    have := this.2 F.lw
    omega
  · have := h.few hi F.h0
    omega
/-- where both are broad: there is a place -/
theorem broad {p : Int} {o : R} {φ : PS} {hs : List Int} {ts : List Ht} (ho : LexPos o) (h : OnWay p o φ hs ts) {z : Q2} (c : NN hs (rp (slope o z)) ≠ 0) : ∃ q : H2, q ∈ prs ts ts.length ∧ wq q.1 z = wq q.2 z ∧ ∃ a : Int, a ≠ 0 ∧ q.1.1 - q.2.1 = a * o.1 ∧ q.1.2.1 - q.2.2.1 = a * o.2 := by
  obtain ⟨M, lo, hi, F, e⟩ := h.len (rp (slope o z)) (rp_isR _)
  have ml : ((lo : Int) * o.1, (lo : Int) * o.2, hv p (φ.co lo)) ∈ ts := (h.mem _).mpr ⟨lo, F.l0, rfl⟩
  have mh : ((hi : Int) * o.1, (hi : Int) * o.2, hv p (φ.co hi)) ∈ ts := (h.mem _).mpr ⟨hi, F.h0, rfl⟩
  have nl : ((lo : Int) * o.1, (lo : Int) * o.2, hv p (φ.co lo)) ≠ ((hi : Int) * o.1, (hi : Int) * o.2, hv p (φ.co hi)) := fun y => by
    have y1 : onO o lo = onO o hi := Prod.ext (congrArg (fun t : Ht => t.1) y) (congrArg (fun t : Ht => t.2.1) y)
    have := onO_inj ho y1
    omega
  have we : wq ((lo : Int) * o.1, (lo : Int) * o.2, hv p (φ.co lo)) z = wq ((hi : Int) * o.1, (hi : Int) * o.2, hv p (φ.co hi)) z := Rat.le_antisymm ((wq_le rfl _ _ _ _).mpr (by rw [F.lw, F.hw]; exact Int.le_refl _)) ((wq_le rfl _ _ _ _).mpr (by rw [F.lw, F.hw]; exact Int.le_refl _))
  rcases prs_of ml mh nl with h1 | h1
  · exact ⟨_, h1, we, (lo : Int) - hi, by omega, by dsimp only; rw [Int.sub_mul], by dsimp only; rw [Int.sub_mul]⟩
  · exact ⟨_, h1, we.symm, (hi : Int) - lo, by omega, by dsimp only; rw [Int.sub_mul], by dsimp only; rw [Int.sub_mul]⟩
/-- all places where both are broad are found -/
theorem found_all {p : Int} {w : Int} {φ ψ : PS} {hs hs' : List Int} {ts us : List Ht} (hf : OnWay p (1, w) φ hs ts) (hg : OnWay p (0, 1) ψ hs' us) {z : Q2} (c : NN hs (rp (slope (1, w) z)) ≠ 0) (c' : NN hs' (rp (slope (0, 1) z)) ≠ 0) :
    ∃ q, q ∈ prs ts ts.length ∧ ∃ r, r ∈ prs us us.length ∧ szP q r ≠ 0 ∧ placeQ q r = z := by
  obtain ⟨q, hq, e1, a, a0, a1, a2⟩ := broad (.inl Int.one_pos) hf c
  obtain ⟨r, hr, e2, b, b0, b1, b2⟩ := broad (.inr ⟨rfl, Int.one_pos⟩) hg c'
  have sz : szP q r ≠ 0 := by
    unfold szP
    rw [a1, a2, b1, b2]
    dsimp only
    have := Int.mul_ne_zero a0 b0
    rw [Int.mul_one, Int.mul_one, Int.mul_zero, Int.mul_zero, Int.sub_zero]
    exact this
  exact ⟨q, hq, r, hr, sz, place_uniq sz e1 e2⟩
end Lw
namespace Lw
open PySem L2 Dv
theorem fig_rat {x : R} (h : FigOk x) : encR x = encQ (qv x) ∧ Bd 27 (qv x) ∧ (x.1 ≠ 0 → qv x ≠ 0) := by
  have e := rp_qv h.1
  have e1 : (qv x).num = x.1 := congrArg Prod.fst e
  have e2 : ((qv x).den : Int) = x.2 := congrArg Prod.snd e
  refine ⟨by unfold encQ; rw [e], Bd.of ?_ ?_, fun h0 z => h0 ?_⟩
  · have := h.2.1
    rw [e1]
    omega
  · have := h.2.2
    omega
  · rw [z] at e1
    exact e1.symm
theorem numQ_ok {P : D × Bool × List (List D) → Prop} (a b pr : Int) (h : PoolH a b) (hp : 2 ≤ pr) (hp2 : pr ≤ 97) (q : ∀ a' b' (x : Rat), x ≠ 0 → Bd 27 x → PoolH a' b' → P (encQ x, false, [[.int a', .int b']])) : Ok (ev__law_number [.lst [.int a, .int b], .int pr]) P :=
  number_ok a b pr h hp hp2 fun a' b' x fx x0 hP => by
    obtain ⟨e, n1, n2⟩ := fig_rat fx
    rw [e]
    exact q a' b' (qv x) (n2 x0) n1 hP
theorem hv_eq {x : Rat} {p : Int} (h : x ≠ 0) (hp : 2 ≤ p) (hp2 : p ≤ 10 ^ 40) : ev__law_height [encQ x, .int p] = some (.int (hv p x), false, []) :=
  law_height_eq (num_nz h) (den_nzI x) hp hp2
theorem lin_mul (r : Rat) (φ : PS) : φ * ps [-r, 1] = PS.C (-r) * φ + PS.X * φ := by
  rw [psl_cons, psl_cons, psl_nil]
  have : PS.C 1 = 1 := PS.one_eq.symm
  grind
def facT (o : R) (r : Rat) : List Trm := [(0, 0, rp (-r)), (o.1, o.2, (1, 1))]
theorem fac_sort {o : R} (ho : LexPos o) (r : Rat) : (facT o r).mergeSort leT = facT o r := by
  refine List.mergeSort_of_pairwise (List.pairwise_cons.mpr ⟨fun x hx => ?_, List.pairwise_singleton _ _⟩)
  rw [List.mem_singleton.mp hx]
  rcases leD_tot.total (encT (0, 0, rp (-r))) (encT (o.1, o.2, (1, 1))) with h | h
  · exact h
  · exfalso
    have := leT_lt (a := (o.1, o.2, (1, 1))) (b := (0, 0, rp (-r))) h (fun y => by
      have y1 : o.1 = 0 := congrArg Prod.fst y
      have y2 : o.2 = 0 := congrArg Prod.snd y
      rcases ho with c | c <;> omega)
    unfold ltP2 keyT at this
    dsimp only at this
    rcases ho with c | c <;> omega
theorem qv_mul {p : R} (h : isR p = true) (q : Rat) : qv (mulR p (rp q)) = qv p * q := by
  have := mulR_q (qv p) q
  rw [rp_qv h] at this
  rw [this, qv_rpQ]
theorem tot_fac (o : R) (r : Rat) (k : R) : ∀ {F : List Trm}, (∀ t, t ∈ F → isR t.2.2 = true) → totQ k (prodT F (facT o r)) = -r * totQ k F + totQ (k.1 - o.1, k.2 - o.2) F
  | [], _ => by
    show (0 : Rat) = -r * 0 + 0
    grind
  | t :: F, h => by
    have ih := tot_fac o r k (F := F) fun x hx => h x (List.mem_cons_of_mem _ hx)
    have ht := h t List.mem_cons_self
    have e : prodT (t :: F) (facT o r) = [mulT t (0, 0, rp (-r)), mulT t (o.1, o.2, (1, 1))] ++ prodT F (facT o r) := rfl
    rw [e, totQ_app, ih]
    have q1 : qv (mulR t.2.2 (rp (-r))) = qv t.2.2 * (-r) := qv_mul ht _
    have q2 : qv (mulR t.2.2 (1, 1)) = qv t.2.2 * 1 := qv_mul ht 1
    show ((if keyT (mulT t (0, 0, rp (-r))) = k then qv (mulR t.2.2 (rp (-r))) else 0) + ((if keyT (mulT t (o.1, o.2, (1, 1))) = k then qv (mulR t.2.2 (1, 1)) else 0) + 0)) + _ = -r * ((if keyT t = k then qv t.2.2 else 0) + totQ k F) + ((if keyT t = (k.1 - o.1, k.2 - o.2) then qv t.2.2 else 0) + totQ (k.1 - o.1, k.2 - o.2) F)
    have k1 : keyT (mulT t (0, 0, rp (-r))) = keyT t := Prod.ext (Int.add_zero _) (Int.add_zero _)
    have k2 : (keyT (mulT t (o.1, o.2, (1, 1))) = k) ↔ keyT t = (k.1 - o.1, k.2 - o.2) := ⟨fun y => by
      have y1 : t.1 + o.1 = k.1 := congrArg Prod.fst y
      have y2 : t.2.1 + o.2 = k.2 := congrArg Prod.snd y
      exact Prod.ext (show t.1 = k.1 - o.1 by omega) (show t.2.1 = k.2 - o.2 by omega), fun y => by
      have y1 : t.1 = k.1 - o.1 := congrArg Prod.fst y
      have y2 : t.2.1 = k.2 - o.2 := congrArg Prod.snd y
      exact Prod.ext (show t.1 + o.1 = k.1 by omega) (show t.2.1 + o.2 = k.2 by omega)⟩
    rw [k1, q1, q2]
    by_cases c1 : keyT t = k
    · rw [if_pos c1, if_pos c1]
      by_cases c2 : keyT t = (k.1 - o.1, k.2 - o.2)
      · rw [if_pos c2, if_pos (k2.mpr c2)]
        grind
      · rw [if_neg c2, if_neg fun y => c2 (k2.mp y)]
        grind
    · rw [if_neg c1, if_neg c1]
      by_cases c2 : keyT t = (k.1 - o.1, k.2 - o.2)
      · rw [if_pos c2, if_pos (k2.mpr c2)]
        grind
      · rw [if_neg c2, if_neg fun y => c2 (k2.mp y)]
        grind
def gb : Nat → Nat
  | 0 => 27
  | j + 1 => 1 + (2 ^ j * 2) * (gb j + 27 + 1)
structure RI (p : Int) (o : R) (j : Nat) (φ : PS) (F : List Trm) (hs : List Int) : Prop where
  len : LenN p φ (NN hs)
  hi : ∀ k, j < k → φ.co k = 0
  on : ∀ k : Nat, totQ (onO o k) F = φ.co k
  off : ∀ q : R, (∀ k : Nat, q ≠ onO o k) → totQ q F = 0
  hl : hs.length = j
  gd : ∀ t, t ∈ F → Gd (gb j) t.2.2 ∧ t.2.2.1 ≠ 0
  nd : (F.map keyT).Nodup
  fl : F.length ≤ 2 ^ j
  hb : ∀ h, h ∈ hs → -100 ≤ h ∧ h ≤ 100
theorem hob_le {p n : Int} {m : Nat} (hn : n ≠ 0) (h : n.natAbs < 2 ^ m) : ho p n < m := (Nat.pow_lt_pow_iff_right (by decide : 1 < 2)).mp (Nat.lt_of_le_of_lt (ho_pow p n.natAbs n (Nat.le_refl _) hn) h)
theorem RI.one {p : Int} {o : R} (ho : LexPos o) {c : Rat} (hc : c ≠ 0) (bc : Bd 27 c) : RI p o 0 (ps [c]) [(0, 0, rp c)] [] := by
  have e : ∀ q : R, totQ q [(0, 0, rp c)] = if ((0, 0) : R) = q then c else 0 := fun q => by
    show (if ((0, 0) : R) = q then qv (rp c) else 0) + 0 = _
    rw [qv_rpQ, Rat.add_zero]
  have o0 : onO o ((0 : Nat) : Int) = (0, 0) := Prod.ext (Int.zero_mul _) (Int.zero_mul _)
  refine ⟨(LenN.one hc).congr fun u _ => rfl, fun k hk => psl_hi [c] k hk, fun k => ?_, fun q hq => ?_, rfl, fun t ht => ?_, by simp, by simp, fun h y => (nomatch y)⟩
  · rw [e]
    cases k with
    | zero =>
      rw [o0, if_pos rfl]
      rfl
    | succ k =>
      rw [if_neg]
      · exact (psl_hi [c] (k + 1) (Nat.le_add_left 1 k)).symm
      · intro y
        rw [← o0] at y
        have := onO_inj ho y
        omega
  · rw [e, if_neg]
    intro y
    exact hq 0 (by rw [o0, y])
  · rw [List.mem_singleton.mp ht]
    exact ⟨bc, num_nz hc⟩
theorem RI.next {p : Int} {o : R} (hp : Prm p) (ho : LexPos o) {j : Nat} {φ : PS} {F : List Trm} {hs : List Int} (h : RI p o j φ F hs) {r : Rat} (hr : r ≠ 0) (br : Bd 27 r) : RI p o (j + 1) (φ * ps [-r, 1]) (gatherT (prodT F (facT o r))) (hs ++ [hv p r]) := by
  have iF : ∀ t, t ∈ F → isR t.2.2 = true := fun t ht => (h.gd t ht).1.1
  have gP : ∀ t, t ∈ prodT F (facT o r) → Gd (gb j + 27) t.2.2 := fun t ht => by
    obtain ⟨x, hx, ht⟩ := List.mem_flatMap.mp ht
    obtain ⟨y, hy, rfl⟩ := List.mem_map.mp ht
    refine mulR_gd (h.gd x hx).1 ?_
    simp only [facT, List.mem_cons, List.not_mem_nil, or_false] at hy
    rcases hy with rfl | rfl
    · exact br.neg
    · exact gd_one
  have iP : ∀ t, t ∈ prodT F (facT o r) → isR t.2.2 = true := fun t ht => (gP t ht).1
  have lP : (prodT F (facT o r)).length = F.length * 2 := prod_len _ _
  have tot : ∀ q, totQ q (gatherT (prodT F (facT o r))) = -r * totQ q F + totQ (q.1 - o.1, q.2 - o.2) F := fun q => by rw [tot_gather iP, tot_fac o r q iF]
  have co0 : (φ * ps [-r, 1]).co 0 = -r * φ.co 0 := by
    rw [lin_mul, PS.add_co, PS.C_co_mul, PS.X_co0, Rat.add_zero]
  have coS : ∀ k, (φ * ps [-r, 1]).co (k + 1) = -r * φ.co (k + 1) + φ.co k := fun k => by
    rw [lin_mul, PS.add_co, PS.C_co_mul, PS.X_coS]
  refine ⟨(h.len.mul hp (LenN.lin hp hr)).congr fun u _ => ?_, fun k hk => ?_, fun k => ?_, fun q hq => ?_, by rw [List.length_append, h.hl]; rfl, fun u hu => ?_, strP_nodup (gather_str _), ?_, fun x hx => ?_⟩
  · rw [NN_app]
    rfl
  · match k, hk with
    | k + 1, hk => rw [coS, h.hi (k + 1) (by omega), h.hi k (by omega), Rat.mul_zero, Rat.add_zero]
  · rw [tot, h.on]
    cases k with
    | zero =>
      rw [co0, h.off, Rat.add_zero]
      intro k y
      have y' : onO o (-1) = onO o k := by
        rw [← y]
        exact Prod.ext (show -1 * o.1 = (0 : Int) * o.1 - o.1 by omega) (show -1 * o.2 = (0 : Int) * o.2 - o.2 by omega)
      have := onO_inj ho y'
      omega
    | succ k =>
      rw [coS, ← h.on k]
      congr 2
      unfold onO
      refine Prod.ext ?_ ?_
      · show ((k + 1 : Nat) : Int) * o.1 - o.1 = (k : Int) * o.1
        rw [Int.natCast_add, Int.add_mul]
        omega
      · show ((k + 1 : Nat) : Int) * o.2 - o.2 = (k : Int) * o.2
        rw [Int.natCast_add, Int.add_mul]
        omega
  · rw [tot, h.off q hq, h.off, Rat.mul_zero, Rat.add_zero]
    intro k y
    refine hq (k + 1) ?_
    have y1 : q.1 - o.1 = (k : Int) * o.1 := congrArg Prod.fst y
    have y2 : q.2 - o.2 = (k : Int) * o.2 := congrArg Prod.snd y
    refine Prod.ext ?_ ?_
    · show q.1 = ((k + 1 : Nat) : Int) * o.1
      rw [Int.natCast_add, Int.add_mul]
      omega
    · show q.2 = ((k + 1 : Nat) : Int) * o.2
      rw [Int.natCast_add, Int.add_mul]
      omega
  · have g := gather_gd gP u hu
    refine ⟨g.1.mono ?_, g.2.1⟩
    rw [lP]
    show _ ≤ 1 + (2 ^ j * 2) * (gb j + 27 + 1)
    exact Nat.add_le_add_left (Nat.mul_le_mul_right _ (Nat.mul_le_mul_right 2 h.fl)) 1
  · refine Nat.le_trans (gather_len _) ?_
    rw [lP, Nat.pow_succ]
    exact Nat.mul_le_mul_right 2 h.fl
  · rcases List.mem_append.mp hx with y | y
    · exact h.hb x y
    · rw [List.mem_singleton.mp y]
      have a1 := hob_le (p := p) (num_nz hr) br.2.1
      have a2 := hob_le (p := p) (den_nzI r) br.2.2
      unfold hv hgt rp
      dsimp only
      omega
theorem RI.pos {p : Int} {o : R} {j : Nat} {φ : PS} {F : List Trm} {hs : List Int} (h : RI p o j φ F hs) {t : Trm} : t ∈ F ↔ ∃ k : Nat, φ.co k ≠ 0 ∧ t = ((k : Int) * o.1, (k : Int) * o.2, rp (φ.co k)) := by
  constructor
  · intro ht
    have e := totQ_one h.nd ht
    obtain ⟨g, g0⟩ := h.gd t ht
    have q0 : qv t.2.2 ≠ 0 := fun y => by
      have := rp_qv g.1
      rw [y] at this
      exact g0 (by rw [← this]; rfl)
    have ex : ∃ k : Nat, keyT t = onO o k := Classical.byContradiction fun y => by
      rw [h.off (keyT t) fun k z => y ⟨k, z⟩] at e
      exact q0 e.symm
    obtain ⟨k, ek⟩ := ex
    rw [ek, h.on] at e
    refine ⟨k, by rw [e]; exact q0, ?_⟩
    rw [e, rp_qv g.1]
    have y1 : t.1 = (k : Int) * o.1 := congrArg Prod.fst ek
    have y2 : t.2.1 = (k : Int) * o.2 := congrArg Prod.snd ek
    exact Prod.ext y1 (Prod.ext y2 rfl)
  · rintro ⟨k, hk, rfl⟩
    rw [← h.on] at hk
    have km : onO o k ∈ F.map keyT := Classical.byContradiction fun z => hk (totQ_none z)
    obtain ⟨t, ht, et⟩ := List.mem_map.mp km
    have e := totQ_one h.nd ht
    rw [et, h.on] at e
    have y1 : t.1 = (k : Int) * o.1 := congrArg Prod.fst et
    have y2 : t.2.1 = (k : Int) * o.2 := congrArg Prod.snd et
    have : ((k : Int) * o.1, (k : Int) * o.2, rp (φ.co k)) = t := by
      rw [e, rp_qv (h.gd t ht).1.1]
      exact Prod.ext y1.symm (Prod.ext y2.symm rfl)
    rw [this]
    exact ht
theorem RI.way {p : Int} {o : R} {j : Nat} {φ : PS} {F : List Trm} {hs : List Int} (h : RI p o j φ F hs) (hj : j ≤ 3) : OnWay p o φ hs (F.map (htT p)) := by
  refine ⟨fun t => ?_, h.len, fun k hk => Classical.byContradiction fun y => hk (h.hi k (by omega))⟩
  rw [List.mem_map]
  constructor
  · rintro ⟨x, hx, rfl⟩
    obtain ⟨k, hk, rfl⟩ := h.pos.mp hx
    exact ⟨k, hk, rfl⟩
  · rintro ⟨k, hk, rfl⟩
    exact ⟨_, h.pos.mpr ⟨k, hk, rfl⟩, rfl⟩
theorem gb_le {j : Nat} (hj : j ≤ 3) : gb j ≤ 4681 := by
  have : j = 0 ∨ j = 1 ∨ j = 2 ∨ j = 3 := by omega
  rcases this with rfl | rfl | rfl | rfl <;> decide
theorem RI.ts {p : Int} {o : R} {j : Nat} {φ : PS} {F : List Trm} {hs : List Int} (h : RI p o j φ F hs) (hj : j ≤ 3) (hn : -1 ≤ o.1 ∧ o.1 ≤ 1 ∧ -1 ≤ o.2 ∧ o.2 ≤ 1) : F ≠ [] ∧ TsOk (F.map (htT p)) := by
  have ne : F ≠ [] := fun e => by
    obtain ⟨M, lo, hi, Fc, _⟩ := h.len (0, 1) rfl
    have := h.pos.mpr ⟨lo, Fc.l0, rfl⟩
    rw [e] at this
    cases this
  refine ⟨ne, fun e => ne (List.map_eq_nil_iff.mp e), ?_, fun t ht => ?_, ?_⟩
  · rw [List.length_map]
    have := h.fl
    have : 2 ^ j ≤ 2 ^ 3 := Nat.pow_le_pow_right (by decide) hj
    omega
  · obtain ⟨x, hx, rfl⟩ := List.mem_map.mp ht
    obtain ⟨g, g0⟩ := h.gd x hx
    have gl := gb_le hj
    have a1 := hob_le (p := p) g0 g.2.1
    have a2 := hob_le (p := p) g.ne g.2.2
    obtain ⟨k, hk, ek⟩ := h.pos.mp hx
    have k3 : k ≤ j := Classical.byContradiction fun y => hk (h.hi k (by omega))
    have y1 : x.1 = (k : Int) * o.1 := congrArg (fun t : Trm => t.1) ek
    have y2 : x.2.1 = (k : Int) * o.2 := congrArg (fun t : Trm => t.2.1) ek
    have o1 : o.1 = -1 ∨ o.1 = 0 ∨ o.1 = 1 := by omega
    have o2 : o.2 = -1 ∨ o.2 = 0 ∨ o.2 = 1 := by omega
    unfold HtOk htT hgt
    dsimp only
    rw [y1, y2]
    refine ⟨?_, ?_, ?_⟩
    · rcases o1 with e | e | e <;> rw [e] <;> omega
    · rcases o2 with e | e | e <;> rw [e] <;> omega
    · omega
  · rw [List.map_map]
    exact h.nd
theorem roots_ok {P : D × Bool × List (List D) → Prop} (a b pr : Int) (o : R) (h : PoolH a b) (hp : 2 ≤ pr) (hp2 : pr ≤ 97) (hP : Prm pr) (ho : LexPos o)
    (q : ∀ a' b' j φ F hs, j ≤ 3 → RI pr o j φ F hs → PoolH a' b' → P (.tup [.lst (F.map encT), .lst (hs.map .int)], false, [[.int a', .int b']])) : Ok (ev__law_roots [.lst [.int a, .int b], .int pr, encR o]) P := by
  unfold ev__law_roots b__law_roots encR
  rw [w_def rfl]
  walk_at "ev"
  refine numQ_ok a b pr h hp hp2 fun a1 b1 c c0 bc h1 => ?_
  walk_at "ev"
  refine htake_ok a1 b1 3 h1 (by decide) (by decide) fun a2 b2 d g1 g2 h2 => ?_
  walk_at "ev"
  refine ⟨by omega, ?_⟩
  refine loop_inv (fun j env => ∃ (a b : Int) (φ : PS) (F : List Trm) (hs : List Int) (s5 s6 : SV), env = [.io [.int a, .int b], .fz (.int pr), .fz (.tup [.int o.1, .int o.2]), .fz (.lst (F.map encT)), .o1 (hs.map .int), s5, s6] ∧ freeP s5 = true ∧ freeP s6 = true ∧ PoolH a b ∧ RI pr o j φ F hs) _ 0 _ ⟨a2, b2, _, [(0, 0, rp c)], [], .no, .no, rfl, rfl, rfl, h2, RI.one ho c0 bc⟩ (fun j e env hd hi => ?_) fun env hi => ?_
  · obtain ⟨a, b, φ, F, hs, s5, s6, rfl, f5, f6, hab, ri⟩ := hi
    obtain ⟨hj, rfl⟩ := rangeD_get hd
    rw [Nat.zero_add] at ri ⊢
    walk_at "ev"
    refine ⟨f5, numQ_ok a b pr hab hp hp2 fun a3 b3 r r0 br hab => ?_⟩
    walk_at "ev"
    refine ⟨f6, ok_eq (hv_eq r0 hp (by omega)) ?_⟩
    walk_at "ev"
    have lh := ri.hl
    refine ⟨by omega, ok_eq (ixQ0 r) ?_⟩
    walk_at "ev"
    refine ok_eq (ixQ1 r) ?_
    walk_at "ev"
    have es : gSortD [.lst [.tup [.int 0, .int 0, .tup [.int (0 - r.num), .int (r.den : Int)]], .tup [.int o.1, .int o.2, .tup [.int 1, .int 1]]]] = some (.new ((facT o r).map encT)) := by
      have := gSort_T (facT o r)
      rw [fac_sort ho] at this
      rw [← this, encQ_neg]
      rfl
    refine ok_eq es ?_
    walk_at "ev"
    have fl := ri.fl
    have p2 : 2 ^ j ≤ 2 ^ 2 := Nat.pow_le_pow_right (by decide) (by omega)
    have gl : gb j ≤ 557 := by
      have : j = 0 ∨ j = 1 ∨ j = 2 := by omega
      rcases this with rfl | rfl | rfl <;> decide
    have m8 : F.length * 2 * (gb j + 27 + 1) ≤ 8 * 585 := Nat.mul_le_mul (by omega) (by omega)
    have lf : (facT o r).length = 2 := rfl
    refine ok_eq (times_g (a := gb j) (b := 27) (fun t ht => (ri.gd t ht).1) (fun t ht => ?_) (by omega) (by rw [lf]; omega) (by omega) (by rw [lf]; omega) (by rw [lf]; omega)) ?_
    · simp only [facT, List.mem_cons, List.not_mem_nil, or_false] at ht
      rcases ht with rfl | rfl
      · exact br.neg
      · exact gd_one
    walk_at "ev"
    exact ⟨a3, b3, _, _, hs ++ [hv pr r], .fz (.int (j : Int)), .fz (encQ r), by rw [List.map_append]; rfl, rfl, rfl, hab, ri.next hP ho r0 br⟩
  · obtain ⟨a, b, φ, F, hs, s5, s6, rfl, f5, f6, hab, ri⟩ := hi
    rw [rangeD_len, Nat.zero_add] at ri
    walk_at "ev"
    exact q a b _ φ F hs (by omega) ri hab
end Lw
namespace Lw
open PySem L2 Dv
def plc (w a b : Int) : Q2 := (((a - w * b : Int) : Rat), (b : Rat))
theorem enc_plc (w a b : Int) : D.tup [.tup [.int (a - w * b), .int 1], .tup [.int b, .int 1]] = encW (plc w a b) := by
  rw [encQ_int, encQ_int]
  rfl
structure DuOk (m : List (Q2 × D)) (zs : List Q2) : Prop where
  nd : (m.map (·.1)).Nodup
  mem : ∀ z d, (z, d) ∈ m ↔ z ∈ zs ∧ d = .int (zs.count z : Nat)
  len : m.length ≤ zs.length
theorem DuOk.val {m : List (Q2 × D)} {zs : List Q2} (h : DuOk m zs) (z : Q2) : (wVal m z).getD (.int 0) = .int (zs.count z : Nat) := by
  cases e : wVal m z with
  | some d => exact ((h.mem z d).mp ((wVal_mem h.nd).mp e)).2
  | none =>
    have : z ∉ zs := fun hz => by
      have := (wVal_mem h.nd).mpr ((h.mem z _).mpr ⟨hz, rfl⟩)
      rw [e] at this
      cases this
    rw [List.count_eq_zero.mpr this]
    rfl
theorem DuOk.put {m : List (Q2 × D)} {zs : List Q2} (h : DuOk m zs) (z : Q2) : DuOk (wPut m z (.int ((zs.count z : Nat) + 1))) (zs ++ [z]) := by
  refine ⟨wPut_nodup h.nd z _, fun y d => ?_, Nat.le_trans (wPut_len m z _) (by rw [List.length_append]; exact Nat.add_le_add_right h.len 1)⟩
  rw [wPut_mem, List.mem_append, List.mem_singleton, List.count_append]
  by_cases c : y = z
  · subst c
    have : List.count y [y] = 1 := by simp
    rw [this]
    constructor
    · rintro (e | e)
      · exact ⟨.inr rfl, congrArg Prod.snd e⟩
      · exact absurd rfl e.1
    · rintro ⟨_, e⟩
      exact .inl (Prod.ext rfl e)
  · have : List.count y [z] = 0 := by
      rw [List.count_eq_zero, List.mem_singleton]
      exact c
    rw [this, Nat.add_zero]
    constructor
    · rintro (e | e)
      · exact absurd (congrArg Prod.fst e) c
      · exact ⟨.inl ((h.mem y d).mp e.2).1, ((h.mem y d).mp e.2).2⟩
    · rintro ⟨h1 | h1, e⟩
      · exact .inr ⟨c, (h.mem y d).mpr ⟨h1, e⟩⟩
      · exact absurd h1 c
theorem NN_one (b : Int) (q : Rat) : NN [b] (rp q) = if (b : Rat) = q then 1 else 0 := by
  have e : ((b, 1) : R) = rp (b : Rat) := by
    unfold rp
    rw [Rat.num_intCast, Rat.den_intCast]
    rfl
  rw [NN_cons, e]
  show (if rp (b : Rat) = rp q then (1 : Int) else 0) + 0 = _
  rw [Int.add_zero]
  by_cases c : (b : Rat) = q
  · rw [if_pos c, if_pos (by rw [c])]
  · rw [if_neg c, if_neg fun y => c (encQ_inj y)]
theorem count_row (w a : Int) (z : Q2) : ∀ bs : List Int, ((bs.map (plc w a)).count z : Int) = NN [a] (rp (slope (1, w) z)) * NN bs (rp (slope (0, 1) z))
  | [] => by
    show (0 : Int) = _ * 0
    rw [Int.mul_zero]
  | b :: bs => by
    rw [List.map_cons, List.count_cons, Int.natCast_add, count_row w a z bs]
    have e : NN (b :: bs) (rp (slope (0, 1) z)) = NN [b] (rp (slope (0, 1) z)) + NN bs (rp (slope (0, 1) z)) := by
      rw [NN_cons, NN_cons]
      show _ = _ + 0 + _
      omega
    rw [e, Int.mul_add, NN_one a, NN_one b]
    have s0 : slope (0, 1) z = z.2 := by
      unfold slope
      dsimp only
      grind
    have s1 : slope (1, w) z = z.1 + (w : Rat) * z.2 := by
      unfold slope
      dsimp only
      grind
    have iff : plc w a b = z ↔ ((a : Rat) = slope (1, w) z ∧ (b : Rat) = slope (0, 1) z) := by
      rw [s0, s1]
      unfold plc
      constructor
      · intro e
        have e1 : ((a - w * b : Int) : Rat) = z.1 := congrArg Prod.fst e
        have e2 : (b : Rat) = z.2 := congrArg Prod.snd e
        rw [Rat.intCast_sub, Rat.intCast_mul] at e1
        exact ⟨by grind, e2⟩
      · rintro ⟨e1, e2⟩
        refine Prod.ext ?_ e2
        show ((a - w * b : Int) : Rat) = z.1
        rw [Rat.intCast_sub, Rat.intCast_mul]
        grind
    by_cases c : plc w a b = z
    · have := iff.mp c
      rw [if_pos this.1, if_pos this.2, if_pos (show (plc w a b == z) = true from beq_iff_eq.mpr c)]
      omega
    · rw [if_neg (show ¬ (plc w a b == z) = true from fun y => c (eq_of_beq y))]
      by_cases c1 : (a : Rat) = slope (1, w) z
      · rw [if_neg fun y => c (iff.mpr ⟨c1, y⟩)]
        omega
      · rw [if_neg c1]
        omega
def duL (w : Int) (as bs : List Int) : List Q2 := as.flatMap fun a => bs.map (plc w a)
theorem count_all (w : Int) (z : Q2) (bs : List Int) : ∀ as : List Int, ((duL w as bs).count z : Int) = NN as (rp (slope (1, w) z)) * NN bs (rp (slope (0, 1) z))
  | [] => by
    show (0 : Int) = 0 * _
    rw [Int.zero_mul]
  | a :: as => by
    have e : duL w (a :: as) bs = bs.map (plc w a) ++ duL w as bs := rfl
    have e2 : NN (a :: as) (rp (slope (1, w) z)) = NN [a] (rp (slope (1, w) z)) + NN as (rp (slope (1, w) z)) := by
      rw [NN_cons, NN_cons]
      show _ = _ + 0 + _
      omega
    rw [e, List.count_append, Int.natCast_add, count_all w z bs as, count_row, e2, Int.add_mul]
theorem duL_take (w : Int) {as bs : List Int} {j : Nat} {a : Int} (h : as[j]? = some a) : duL w (as.take (j + 1)) bs = duL w (as.take j) bs ++ bs.map (plc w a) := by
  unfold duL
  rw [take_s h, List.flatMap_append]
  simp
theorem duL_len (w : Int) (as bs : List Int) : (duL w as bs).length = as.length * bs.length := by
  unfold duL
  induction as with
  | nil => simp
  | cons a as ih =>
    rw [List.flatMap_cons, List.length_append, ih, List.length_map, List.length_cons, Nat.add_mul]
    omega
/-- what the program finds -/
theorem crossed_ok {p w : Int} {j j' : Nat} {φ ψ : PS} {F G : List Trm} {hs hs' : List Int} (p1 : 2 ≤ p) (p2 : p ≤ 97) (hw : -1 ≤ w ∧ w ≤ 1) (rF : RI p (1, w) j φ F hs) (rG : RI p (0, 1) j' ψ G hs') (hj : j ≤ 3) (hj' : j' ≤ 3) :
    ∃ Xs : List (Q2 × Int), Xs.Nodup ∧ (∀ z n, (z, n) ∈ Xs ↔ (NN hs (rp (slope (1, w) z)) ≠ 0 ∧ NN hs' (rp (slope (0, 1) z)) ≠ 0) ∧ n = NN hs (rp (slope (1, w) z)) * NN hs' (rp (slope (0, 1) z))) ∧ ev__law_crossed [.lst (F.map encT), .lst (G.map encT), .int p] = some (.lst ((Xs.map encX).mergeSort leD), true, []) := by
  have nz : ∀ {j : Nat} {o : R} {φ : PS} {F : List Trm} {hs : List Int}, RI p o j φ F hs → ∀ t, t ∈ F → t.2.2.1 ≠ 0 ∧ t.2.2.2 ≠ 0 := fun r t ht => ⟨(r.gd t ht).2, (r.gd t ht).1.ne⟩
  obtain ⟨f0, tF⟩ := rF.ts hj (by dsimp only; omega)
  obtain ⟨g0, tG⟩ := rG.ts hj' (by decide)
  have wF := rF.way hj
  have wG := rG.way hj'
  have sF := wF.seg (.inl Int.one_pos) (by dsimp only; omega) tF
  have sG := wG.seg (.inr ⟨rfl, Int.one_pos⟩) (by decide) tG
  obtain ⟨L, e, nd, al⟩ := meets_eq f0 g0 (nz rF) (nz rG) p1 (by omega) hw sF sG
  refine ⟨(L.filter (crz (fun z => NN hs (rp (slope (1, w) z))) fun z => NN hs' (rp (slope (0, 1) z)))).map fun z => (z, NN hs (rp (slope (1, w) z)) * NN hs' (rp (slope (0, 1) z))), ?_, fun z n => ?_, ?_⟩
  · refine List.pairwise_map.mpr ((nd.filter _).imp fun h y => h (congrArg Prod.fst y))
  · rw [List.mem_map]
    constructor
    · rintro ⟨z', hz, y⟩
      obtain ⟨rfl, rfl⟩ := Prod.mk.inj y
      exact ⟨of_decide_eq_true (List.mem_filter.mp hz).2, rfl⟩
    · rintro ⟨⟨c, c'⟩, rfl⟩
      obtain ⟨q, hq, r, hr, sz, pl⟩ := found_all wF wG c c'
      refine ⟨z, List.mem_filter.mpr ⟨?_, decide_eq_true ⟨c, c'⟩⟩, rfl⟩
      rw [← pl]
      exact al q hq r hr sz
  · have key : Ok (ev__law_crossed [.lst (F.map encT), .lst (G.map encT), .int p]) fun r => r = (.lst (((L.filter (crz (fun z => NN hs (rp (slope (1, w) z))) fun z => NN hs' (rp (slope (0, 1) z)))).map fun z => encX (z, NN hs (rp (slope (1, w) z)) * NN hs' (rp (slope (0, 1) z)))).mergeSort leD), true, []) := by
      unfold ev__law_crossed b__law_crossed
      rw [w_def rfl]
      walk_at "ev"
      refine ok_eq e ?_
      walk_at "ev"
    obtain ⟨r, e2, h⟩ := key
    rw [e2, h, List.map_map]
    rfl
/-- both lists are alike -/
theorem same_lists {m : List (Q2 × D)} {w : Int} {hs hs' : List Int} (h : DuOk m (duL w hs hs')) {Xs : List (Q2 × Int)} (nd : Xs.Nodup) (hX : ∀ z n, (z, n) ∈ Xs ↔ (NN hs (rp (slope (1, w) z)) ≠ 0 ∧ NN hs' (rp (slope (0, 1) z)) ≠ 0) ∧ n = NN hs (rp (slope (1, w) z)) * NN hs' (rp (slope (0, 1) z))) :
    (((m.map (·.1)).map fun z => (z, (((duL w hs hs').count z : Nat) : Int))).map encX).mergeSort leD = (Xs.map encX).mergeSort leD := by
  refine sort_X (List.pairwise_map.mpr (h.nd.imp fun hn y => hn (congrArg Prod.fst y))) nd fun x => ?_
  obtain ⟨z, n⟩ := x
  have cn := count_all w z hs' hs
  have nn := NN_nn hs (rp (slope (1, w) z))
  have nn' := NN_nn hs' (rp (slope (0, 1) z))
  rw [hX, List.mem_map]
  constructor
  · rintro ⟨z', hz, y⟩
    obtain ⟨rfl, rfl⟩ := Prod.mk.inj y
    obtain ⟨x, hx, rfl⟩ := List.mem_map.mp hz
    have := List.count_pos_iff.mpr ((h.mem x.1 x.2).mp hx).1
    refine ⟨⟨fun c => ?_, fun c => ?_⟩, cn⟩
    · rw [c, Int.zero_mul] at cn
      omega
    · rw [c, Int.mul_zero] at cn
      omega
  · rintro ⟨⟨c, c'⟩, rfl⟩
    have pos := Int.mul_pos (show 0 < NN hs (rp (slope (1, w) z)) by omega) (show 0 < NN hs' (rp (slope (0, 1) z)) by omega)
    have zm : z ∈ duL w hs hs' := List.count_pos_iff.mp (by omega)
    exact ⟨z, List.mem_map.mpr ⟨(z, _), (h.mem z _).mpr ⟨zm, rfl⟩, rfl⟩, by rw [cn]⟩
theorem keep_free (s : SV) : freeP (keepFz (some s)) = true := by cases s <;> rfl
theorem law_true (ns : List Int) (hn : ns.length ≤ 63) : ev_law [.scr ns] = some (.bl true, false, []) := by
  have key : Ok (ev_law [.scr ns]) fun r => r = (.bl true, false, []) := by
    unfold ev_law b_law
    rw [w_def rfl]
    walk_at "evk"
    generalize hN : (if (if (6 : Int) < ns.length then 6 else (ns.length : Int)) > 1 then if (6 : Int) < ns.length then 6 else (ns.length : Int) else 1) = N
    have hN1 : 1 ≤ N ∧ N ≤ 6 := by
      subst hN
      split <;> split <;> omega
    refine ⟨by omega, ?_⟩
    refine loop_inv (fun _ env => ∃ s1 s2 s3 s4 s5 s6 s7 s8 s9 s10 s11 s12 s13, env = [.fz (.scr ns), s1, s2, s3, s4, s5, s6, s7, s8, s9, s10, s11, s12, s13] ∧ freeP s1 = true ∧ freeP s2 = true ∧ freeP s3 = true ∧ freeP s4 = true ∧ freeP s5 = true ∧ freeP s6 = true ∧ freeP s7 = true ∧ freeP s8 = true ∧ freeP s9 = true ∧ freeP s10 = true ∧ freeP s11 = true ∧ freeP s12 = true ∧ freeP s13 = true) _ 0 _ ⟨_, _, _, _, _, _, _, _, _, _, _, _, _, rfl, rfl, rfl, rfl, rfl, rfl, rfl, rfl, rfl, rfl, rfl, rfl, rfl, rfl⟩ (fun i d env hd hi => ?_) fun env hi => ?_
    · obtain ⟨s1, s2, s3, s4, s5, s6, s7, s8, s9, s10, s11, s12, s13, rfl, f1, f2, f3, f4, f5, f6, f7, f8, f9, f10, f11, f12, f13⟩ := hi
      obtain ⟨hi, rfl⟩ := rangeD_get hd
      walk_at "evk"
      refine ⟨f1, hpool_ok ns _ (by omega) (by omega) fun a b hab => ?_⟩
      walk_at "evk"
      refine ⟨f2, htake_ok a b 3 hab (by decide) (by decide) fun a2 b2 d g1 g2 hab => ?_⟩
      walk_at "evk"
      refine ⟨f3, hprimeP_ok a2 b2 hab fun a3 b3 p p1 p2 pp hab => ?_⟩
      walk_at "evk"
      have hw : -1 ≤ d - 1 ∧ d - 1 ≤ 1 := by omega
      generalize d - 1 = w at hw
      refine ⟨f4, roots_ok a3 b3 p (1, w) hab p1 p2 pp (.inl Int.one_pos) fun a4 b4 j φ F hs hj rF hab => ?_⟩
      walk_at "evk"
      refine ⟨f5, f6, roots_ok a4 b4 p (0, 1) hab p1 p2 pp (.inr ⟨rfl, Int.one_pos⟩) fun a5 b5 j' ψ G hs' hj' rG hab => ?_⟩
      walk_at "evk"
      have lh := rF.hl
      have lh' := rG.hl
      obtain ⟨Xs, ndX, hX, eX⟩ := crossed_ok p1 p2 hw rF rG hj hj'
      refine ⟨f7, f8, f9, ?_⟩
      refine loop_inv (fun k env => ∃ (m : List (Q2 × D)) (s10 s11 s12 : SV), env = [.fz (.scr ns), .fz (.int (i : Int)), .o1 [.int a5, .int b5], .fz (.int w), .fz (.int p), .fz (.lst (F.map encT)), .fz (.lst (hs.map .int)), .fz (.lst (G.map encT)), .fz (.lst (hs'.map .int)), .nw (.dcN (encM m)), s10, s11, s12, s13] ∧ freeP s10 = true ∧ freeP s11 = true ∧ freeP s12 = true ∧ DuOk m (duL w (hs.take k) hs')) _ 0 _ ⟨[], _, _, _, rfl, f10, f11, f12, ⟨List.nodup_nil, fun z d => ⟨(fun y => nomatch y), fun y => nomatch y.1⟩, Nat.le_refl _⟩⟩ (fun k e env hd hi => ?_) fun env hi => ?_
      · obtain ⟨m, s10, s11, s12, rfl, f10, f11, f12, hm⟩ := hi
        rw [Nat.zero_add] at hm ⊢
        rw [List.getElem?_map] at hd
        obtain ⟨u, hu, rfl⟩ := Option.map_eq_some_iff.mp hd
        have hk := (List.getElem?_eq_some_iff.mp hu).1
        have l1 := duL_len w (hs.take k) hs'
        rw [List.length_take] at l1
        have l2 : min k hs.length * hs'.length ≤ 3 * 3 := Nat.mul_le_mul (by omega) (by omega)
        walk_at "evk"
        refine ⟨f10, ?_⟩
        refine loop_inv (fun l env => ∃ (m : List (Q2 × D)) (s11 s12 : SV), env = [.fz (.scr ns), .fz (.int (i : Int)), .o1 [.int a5, .int b5], .fz (.int w), .fz (.int p), .fz (.lst (F.map encT)), .fz (.lst (hs.map .int)), .fz (.lst (G.map encT)), .fz (.lst (hs'.map .int)), .nw (.dcN (encM m)), .fz (.int u), s11, s12, s13] ∧ freeP s11 = true ∧ freeP s12 = true ∧ DuOk m (duL w (hs.take k) hs' ++ (hs'.take l).map (plc w u))) _ 0 _ ⟨m, _, _, rfl, f11, f12, by rw [List.take_zero, List.map_nil, List.append_nil]; exact hm⟩ (fun l e env hd hi => ?_) fun env hi => ?_
        · obtain ⟨m, s11, s12, rfl, f11, f12, hm⟩ := hi
          rw [Nat.zero_add] at hm ⊢
          rw [List.getElem?_map] at hd
          obtain ⟨v, hv, rfl⟩ := Option.map_eq_some_iff.mp hd
          have hl := (List.getElem?_eq_some_iff.mp hv).1
          have ml := hm.len
          rw [List.length_append, List.length_map, List.length_take] at ml
          rw [take_s hv, List.map_append, ← List.append_assoc]
          walk_at "evk"
          have vb := rG.hb v (List.mem_of_getElem? hv)
          refine ⟨f11, mul40 (by omega) (by omega) (by omega) (by omega), f12, ?_⟩
          rw [enc_plc, keyN_W]
          walk_at "evk"
          rw [kVal_M, hm.val]
          walk_at "evk"
          rw [keyN_W]
          walk_at "evk"
          rw [encM_len, kPut_M]
          exact ⟨by omega, _, .fz (.int v), .fz (encW (plc w u v)), rfl, rfl, rfl, hm.put (plc w u v)⟩
        · obtain ⟨m, s11, s12, rfl, f11, f12, hm⟩ := hi
          rw [Nat.zero_add, List.length_map, List.take_length] at hm
          rw [duL_take w hu]
          exact ⟨m, _, _, _, rfl, rfl, f11, f12, hm⟩
      · obtain ⟨m, s10, s11, s12, rfl, f10, f11, f12, hm⟩ := hi
        rw [Nat.zero_add, List.length_map, List.take_length] at hm
        walk_at "evk"
        refine ok_eq eX ?_
        walk_at "evk"
        refine ⟨f13, w_lcN_of rfl ?_⟩
        walk_at "evk"
        refine ⟨f11, f10, ?_⟩
        rw [keysNN_M]
        have vals : ∀ z, z ∈ m.map (·.1) → wVal m z = some (.int ((duL w hs hs').count z : Nat)) := fun z hz => by
          obtain ⟨x, hx, rfl⟩ := List.mem_map.mp hz
          have := (hm.mem x.1 x.2).mp hx
          rw [wVal_mem hm.nd, ← this.2]
          exact hx
        refine lc_map (c := encW) (h := fun z => encX (z, (((duL w hs hs').count z : Nat) : Int))) (xs := m.map (·.1)) (fun z hz acc => ?_) ?_
        · unfold encW
          walk_at "evk"
          have ei : ∀ (e : Dv.Env), e[10]? = some (.fz (encQ z.1)) → e[11]? = some (.fz (encQ z.2)) → fItem 10 11 (encM m) e = some (.val (encX (z, (((duL w hs hs').count z : Nat) : Int))), e) := fun e h1 h2 => by
            unfold fItem
            rw [h1, h2]
            show (keyN (encW z)).bind _ = _
            rw [keyN_W]
            show (kValN (encM m) (keyW z)).bind _ = _
            rw [kVal_M, vals z hz]
            rfl
          refine ok_eq (ei _ rfl rfl) ?_
          walk_at "evk"
        · walk_at "evk"
          have ml := hm.len
          rw [duL_len] at ml
          have l2 : hs.length * hs'.length ≤ 3 * 3 := Nat.mul_le_mul (by omega) (by omega)
          refine ⟨by omega, _, rfl, rfl, ?_⟩
          walk_at "evk"
          rw [show ((m.map (·.1)).map fun z => encX (z, (((duL w hs hs').count z : Nat) : Int))) = ((m.map (·.1)).map fun z => (z, (((duL w hs hs').count z : Nat) : Int))).map encX from by rw [List.map_map, List.map_map, List.map_map]; rfl]
          refine ok_eq (gSort_X _) ?_
          walk_at "evk"
          have sl := same_lists hm ndX hX
          rw [sl]
          obtain ⟨ys, ey, _⟩ := mergeSort_X Xs
          rw [ey]
          refine ok_eq (gNe_X ys ys) ?_
          walk_at "evk"
          exact ⟨_, _, _, _, _, _, _, _, _, _, _, _, _, rfl, rfl, rfl, rfl, rfl, rfl, rfl, rfl, rfl, rfl, keep_free s10, keep_free s11, f12, rfl⟩
    · obtain ⟨s1, s2, s3, s4, s5, s6, s7, s8, s9, s10, s11, s12, s13, rfl, f1, f2, f3, f4, f5, f6, f7, f8, f9, f10, f11, f12, f13⟩ := hi
      walk_at "evk"
  obtain ⟨r, e, h⟩ := key
  rw [e, h]
end Lw
namespace Lw
open PySem PySem.Spec PyProof.Rows L2 Dv
def topS (i : Nat) : Stmt := PySem.Challenge.pw_mixedmeets_k98_whole_heights_of_known_po.main.body.getD i (.Pass ⟨0, 0, 0, 0⟩)
abbrev st_cross : Stmt := topS 6
abbrev N_cross : List Str := ["first", "second", "third", "one", "other"]
abbrev P_cross : List Str := ["first", "second", "third"]
theorem sc_cross : FnScope N_cross P_cross (defScope st_cross) := ⟨rfl, rfl, rfl, by decide +kernel, rfl, by decide +kernel, by decide +kernel⟩
abbrev st_half_round : Stmt := topS 7
abbrev N_half_round : List Str := ["places", "found", "place"]
abbrev P_half_round : List Str := ["places"]
theorem sc_half_round : FnScope N_half_round P_half_round (defScope st_half_round) := ⟨rfl, rfl, rfl, by decide +kernel, rfl, by decide +kernel, by decide +kernel⟩
abbrev st_hull : Stmt := topS 8
abbrev N_hull : List Str := ["places", "some"]
abbrev P_hull : List Str := ["places"]
theorem sc_hull : FnScope N_hull P_hull (defScope st_hull) := ⟨rfl, rfl, rfl, by decide +kernel, rfl, by decide +kernel, by decide +kernel⟩
abbrev st_doubled : Stmt := topS 9
abbrev N_doubled : List Str := ["corners", "at"]
abbrev P_doubled : List Str := ["corners"]
theorem sc_doubled : FnScope N_doubled P_doubled (defScope st_doubled) := ⟨rfl, rfl, rfl, by decide +kernel, rfl, by decide +kernel, by decide +kernel⟩
abbrev st_put_together : Stmt := topS 10
abbrev N_put_together : List Str := ["one", "other", "found", "a", "b", "c", "d"]
abbrev P_put_together : List Str := ["one", "other"]
theorem sc_put_together : FnScope N_put_together P_put_together (defScope st_put_together) := ⟨rfl, rfl, rfl, by decide +kernel, rfl, by decide +kernel, by decide +kernel⟩
abbrev st_mixed_area : Stmt := topS 12
abbrev N_mixed_area : List Str := ["one", "other"]
abbrev P_mixed_area : List Str := ["one", "other"]
theorem sc_mixed_area : FnScope N_mixed_area P_mixed_area (defScope st_mixed_area) := ⟨rfl, rfl, rfl, by decide +kernel, rfl, by decide +kernel, by decide +kernel⟩
abbrev st_divisor : Stmt := topS 15
abbrev N_divisor : List Str := ["one", "other"]
abbrev P_divisor : List Str := ["one", "other"]
theorem sc_divisor : FnScope N_divisor P_divisor (defScope st_divisor) := ⟨rfl, rfl, rfl, by decide +kernel, rfl, by decide +kernel, by decide +kernel⟩
abbrev st_ratio : Stmt := topS 16
abbrev N_ratio : List Str := ["top", "bottom", "part"]
abbrev P_ratio : List Str := ["top", "bottom"]
theorem sc_ratio : FnScope N_ratio P_ratio (defScope st_ratio) := ⟨rfl, rfl, rfl, by decide +kernel, rfl, by decide +kernel, by decide +kernel⟩
abbrev st_added : Stmt := topS 17
abbrev N_added : List Str := ["one", "other"]
abbrev P_added : List Str := ["one", "other"]
theorem sc_added : FnScope N_added P_added (defScope st_added) := ⟨rfl, rfl, rfl, by decide +kernel, rfl, by decide +kernel, by decide +kernel⟩
abbrev st_multiplied : Stmt := topS 18
abbrev N_multiplied : List Str := ["one", "other"]
abbrev P_multiplied : List Str := ["one", "other"]
theorem sc_multiplied : FnScope N_multiplied P_multiplied (defScope st_multiplied) := ⟨rfl, rfl, rfl, by decide +kernel, rfl, by decide +kernel, by decide +kernel⟩
abbrev st_how_often : Stmt := topS 20
abbrev N_how_often : List Str := ["number", "prime", "found"]
abbrev P_how_often : List Str := ["number", "prime"]
theorem sc_how_often : FnScope N_how_often P_how_often (defScope st_how_often) := ⟨rfl, rfl, rfl, by decide +kernel, rfl, by decide +kernel, by decide +kernel⟩
abbrev st_height : Stmt := topS 21
abbrev N_height : List Str := ["number", "prime"]
abbrev P_height : List Str := ["number", "prime"]
theorem sc_height : FnScope N_height P_height (defScope st_height) := ⟨rfl, rfl, rfl, by decide +kernel, rfl, by decide +kernel, by decide +kernel⟩
abbrev st_heights_of : Stmt := topS 22
abbrev N_heights_of : List Str := ["f", "prime", "a", "b", "number"]
abbrev P_heights_of : List Str := ["f", "prime"]
theorem sc_heights_of : FnScope N_heights_of P_heights_of (defScope st_heights_of) := ⟨rfl, rfl, rfl, by decide +kernel, rfl, by decide +kernel, by decide +kernel⟩
abbrev st_worth_there : Stmt := topS 23
abbrev N_worth_there : List Str := ["term", "u", "v", "a", "b", "high"]
abbrev P_worth_there : List Str := ["term", "u", "v"]
theorem sc_worth_there : FnScope N_worth_there P_worth_there (defScope st_worth_there) := ⟨rfl, rfl, rfl, by decide +kernel, rfl, by decide +kernel, by decide +kernel⟩
abbrev st_is_below : Stmt := topS 24
abbrev N_is_below : List Str := ["one", "other"]
abbrev P_is_below : List Str := ["one", "other"]
theorem sc_is_below : FnScope N_is_below P_is_below (defScope st_is_below) := ⟨rfl, rfl, rfl, by decide +kernel, rfl, by decide +kernel, by decide +kernel⟩
abbrev st_least_terms : Stmt := topS 25
abbrev N_least_terms : List Str := ["terms", "u", "v", "worths", "least", "worth_here", "term"]
abbrev P_least_terms : List Str := ["terms", "u", "v"]
theorem sc_least_terms : FnScope N_least_terms P_least_terms (defScope st_least_terms) := ⟨rfl, rfl, rfl, by decide +kernel, rfl, by decide +kernel, by decide +kernel⟩
abbrev st_place_of : Stmt := topS 26
abbrev N_place_of : List Str := ["first", "second", "a", "b", "low", "c", "d", "high", "p", "q", "more", "r", "s", "rest", "size"]
abbrev P_place_of : List Str := ["first", "second"]
theorem sc_place_of : FnScope N_place_of P_place_of (defScope st_place_of) := ⟨rfl, rfl, rfl, by decide +kernel, rfl, by decide +kernel, by decide +kernel⟩
abbrev st_pairs_of : Stmt := topS 27
abbrev N_pairs_of : List Str := ["terms", "found", "k", "term", "other"]
abbrev P_pairs_of : List Str := ["terms"]
theorem sc_pairs_of : FnScope N_pairs_of P_pairs_of (defScope st_pairs_of) := ⟨rfl, rfl, rfl, by decide +kernel, rfl, by decide +kernel, by decide +kernel⟩
abbrev st_foot_of : Stmt := topS 28
abbrev N_foot_of : List Str := ["pair", "a", "b", "low", "c", "d", "high", "size"]
abbrev P_foot_of : List Str := ["pair"]
theorem sc_foot_of : FnScope N_foot_of P_foot_of (defScope st_foot_of) := ⟨rfl, rfl, rfl, by decide +kernel, rfl, by decide +kernel, by decide +kernel⟩
abbrev st_places_of : Stmt := topS 29
abbrev N_places_of : List Str := ["one", "other", "found", "first", "second", "place"]
abbrev P_places_of : List Str := ["one", "other"]
theorem sc_places_of : FnScope N_places_of P_places_of (defScope st_places_of) := ⟨rfl, rfl, rfl, by decide +kernel, rfl, by decide +kernel, by decide +kernel⟩
abbrev st_crossing_at : Stmt := topS 30
abbrev N_crossing_at : List Str := ["one", "other", "place", "mine", "yours"]
abbrev P_crossing_at : List Str := ["one", "other", "place"]
theorem sc_crossing_at : FnScope N_crossing_at P_crossing_at (defScope st_crossing_at) := ⟨rfl, rfl, rfl, by decide +kernel, rfl, by decide +kernel, by decide +kernel⟩
abbrev st_all_crossings : Stmt := topS 31
abbrev N_all_crossings : List Str := ["f", "g", "prime", "one", "other", "found", "place", "shapes_there"]
abbrev P_all_crossings : List Str := ["f", "g", "prime"]
theorem sc_all_crossings : FnScope N_all_crossings P_all_crossings (defScope st_all_crossings) := ⟨rfl, rfl, rfl, by decide +kernel, rfl, by decide +kernel, by decide +kernel⟩
abbrev st_meets : Stmt := topS 32
abbrev N_meets : List Str := ["f", "g", "prime", "found", "u", "v", "mine", "yours"]
abbrev P_meets : List Str := ["f", "g", "prime"]
theorem sc_meets : FnScope N_meets P_meets (defScope st_meets) := ⟨rfl, rfl, rfl, by decide +kernel, rfl, by decide +kernel, by decide +kernel⟩
abbrev st_gathered : Stmt := topS 34
abbrev N_gathered : List Str := ["terms", "numbers", "a", "b", "number"]
abbrev P_gathered : List Str := ["terms"]
theorem sc_gathered : FnScope N_gathered P_gathered (defScope st_gathered) := ⟨rfl, rfl, rfl, by decide +kernel, rfl, by decide +kernel, by decide +kernel⟩
abbrev st_times : Stmt := topS 35
abbrev N_times : List Str := ["one", "other", "found", "a", "b", "number", "c", "d", "more"]
abbrev P_times : List Str := ["one", "other"]
theorem sc_times : FnScope N_times P_times (defScope st_times) := ⟨rfl, rfl, rfl, by decide +kernel, rfl, by decide +kernel, by decide +kernel⟩
abbrev st__law_pool : Stmt := topS 37
abbrev N__law_pool : List Str := ["_law_script", "_law_at", "_law_cell", "_law_far", "_law_primes"]
abbrev P__law_pool : List Str := ["_law_script", "_law_at"]
theorem sc__law_pool : FnScope N__law_pool P__law_pool (defScope st__law_pool) := ⟨rfl, rfl, rfl, by decide +kernel, rfl, by decide +kernel, by decide +kernel⟩
abbrev st__law_take : Stmt := topS 38
abbrev N__law_take : List Str := ["_law_pool_here", "_law_many", "_law_found"]
abbrev P__law_take : List Str := ["_law_pool_here", "_law_many"]
theorem sc__law_take : FnScope N__law_take P__law_take (defScope st__law_take) := ⟨rfl, rfl, rfl, by decide +kernel, rfl, by decide +kernel, by decide +kernel⟩
abbrev st__law_low : Stmt := topS 39
abbrev N__law_low : List Str := ["_law_top", "_law_bottom", "_law_one", "_law_other"]
abbrev P__law_low : List Str := ["_law_top", "_law_bottom"]
theorem sc__law_low : FnScope N__law_low P__law_low (defScope st__law_low) := ⟨rfl, rfl, rfl, by decide +kernel, rfl, by decide +kernel, by decide +kernel⟩
abbrev st__law_prime : Stmt := topS 42
abbrev N__law_prime : List Str := ["_law_pool_here"]
abbrev P__law_prime : List Str := ["_law_pool_here"]
theorem sc__law_prime : FnScope N__law_prime P__law_prime (defScope st__law_prime) := ⟨rfl, rfl, rfl, by decide +kernel, rfl, by decide +kernel, by decide +kernel⟩
abbrev st__law_number : Stmt := topS 43
abbrev N__law_number : List Str := ["_law_pool_here", "_law_prime_here", "_law_top", "_law_bottom", "_law_power", "_law_k"]
abbrev P__law_number : List Str := ["_law_pool_here", "_law_prime_here"]
theorem sc__law_number : FnScope N__law_number P__law_number (defScope st__law_number) := ⟨rfl, rfl, rfl, by decide +kernel, rfl, by decide +kernel, by decide +kernel⟩
abbrev st__law_height : Stmt := topS 44
abbrev N__law_height : List Str := ["_law_number_here", "_law_prime_here", "_law_top", "_law_bottom", "_law_many"]
abbrev P__law_height : List Str := ["_law_number_here", "_law_prime_here"]
theorem sc__law_height : FnScope N__law_height P__law_height (defScope st__law_height) := ⟨rfl, rfl, rfl, by decide +kernel, rfl, by decide +kernel, by decide +kernel⟩
abbrev st__law_roots : Stmt := topS 45
abbrev N__law_roots : List Str := ["_law_pool_here", "_law_prime_here", "_law_step", "_law_found", "_law_heights_here", "_law_turn", "_law_root"]
abbrev P__law_roots : List Str := ["_law_pool_here", "_law_prime_here", "_law_step"]
theorem sc__law_roots : FnScope N__law_roots P__law_roots (defScope st__law_roots) := ⟨rfl, rfl, rfl, by decide +kernel, rfl, by decide +kernel, by decide +kernel⟩
abbrev st__law_crossed : Stmt := topS 46
abbrev N__law_crossed : List Str := ["_law_f", "_law_g", "_law_prime_here"]
abbrev P__law_crossed : List Str := ["_law_f", "_law_g", "_law_prime_here"]
theorem sc__law_crossed : FnScope N__law_crossed P__law_crossed (defScope st__law_crossed) := ⟨rfl, rfl, rfl, by decide +kernel, rfl, by decide +kernel, by decide +kernel⟩
abbrev st_law : Stmt := topS 47
abbrev N_law : List Str := ["_law_script", "_law_k", "_law_pool_here", "_law_way", "_law_prime_here", "_law_f", "_law_mine", "_law_g", "_law_yours", "_law_due", "_law_u", "_law_v", "_law_place", "_law_found"]
abbrev P_law : List Str := ["_law_script"]
theorem sc_law : FnScope N_law P_law (defScope st_law) := ⟨rfl, rfl, rfl, by decide +kernel, rfl, by decide +kernel, by decide +kernel⟩
theorem bt_abs : bootBuiltins "abs" = some (.builtin "abs") := by decide +kernel
theorem bt_int : bootBuiltins "int" = some (.type "int") := by decide +kernel
theorem bt_len : bootBuiltins "len" = some (.builtin "len") := by decide +kernel
theorem bt_max : bootBuiltins "max" = some (.builtin "max") := by decide +kernel
theorem bt_min : bootBuiltins "min" = some (.builtin "min") := by decide +kernel
theorem bt_set : bootBuiltins "set" = some (.type "set") := by decide +kernel
theorem bt_sorted : bootBuiltins "sorted" = some (.builtin "sorted") := by decide +kernel
theorem bt_sum : bootBuiltins "sum" = some (.builtin "sum") := by decide +kernel
structure Txt (K : PySem.W.Frag) (mg : Str → Option Value) where
  m_abs : mg "abs" = none
  m_enumerate : mg "enumerate" = none
  m_int : mg "int" = none
  m_len : mg "len" = none
  m_max : mg "max" = none
  m_min : mg "min" = none
  m_range : mg "range" = none
  m_set : mg "set" = none
  m_sorted : mg "sorted" = none
  m_sum : mg "sum" = none
  m_zip : mg "zip" = none
  a_NOUGHT : Addr
  mg_NOUGHT : mg "NOUGHT" = some (.ref a_NOUGHT)
  dq_NOUGHT : ∀ G : Hp, Dq K G (.ref a_NOUGHT) (.tup [(.int 0), (.int 1)])
  a_cross : Addr
  d_cross : FuncData
  F_cross : Fun K "cross" "cross" st_cross a_cross d_cross
  b_cross : Binds K d_cross P_cross []
  g_cross : mg "cross" = some (.ref a_cross)
  a_half_round : Addr
  d_half_round : FuncData
  F_half_round : Fun K "half_round" "half_round" st_half_round a_half_round d_half_round
  b_half_round : Binds K d_half_round P_half_round []
  g_half_round : mg "half_round" = some (.ref a_half_round)
  a_hull : Addr
  d_hull : FuncData
  F_hull : Fun K "hull" "hull" st_hull a_hull d_hull
  b_hull : Binds K d_hull P_hull []
  g_hull : mg "hull" = some (.ref a_hull)
  a_doubled : Addr
  d_doubled : FuncData
  F_doubled : Fun K "doubled" "doubled" st_doubled a_doubled d_doubled
  b_doubled : Binds K d_doubled P_doubled []
  g_doubled : mg "doubled" = some (.ref a_doubled)
  a_put_together : Addr
  d_put_together : FuncData
  F_put_together : Fun K "put_together" "put_together" st_put_together a_put_together d_put_together
  b_put_together : Binds K d_put_together P_put_together []
  g_put_together : mg "put_together" = some (.ref a_put_together)
  a_mixed_area : Addr
  d_mixed_area : FuncData
  F_mixed_area : Fun K "mixed_area" "mixed_area" st_mixed_area a_mixed_area d_mixed_area
  b_mixed_area : Binds K d_mixed_area P_mixed_area []
  g_mixed_area : mg "mixed_area" = some (.ref a_mixed_area)
  a_divisor : Addr
  d_divisor : FuncData
  F_divisor : Fun K "divisor" "divisor" st_divisor a_divisor d_divisor
  b_divisor : Binds K d_divisor P_divisor []
  g_divisor : mg "divisor" = some (.ref a_divisor)
  a_ratio : Addr
  d_ratio : FuncData
  F_ratio : Fun K "ratio" "ratio" st_ratio a_ratio d_ratio
  b_ratio : Binds K d_ratio P_ratio []
  g_ratio : mg "ratio" = some (.ref a_ratio)
  a_added : Addr
  d_added : FuncData
  F_added : Fun K "added" "added" st_added a_added d_added
  b_added : Binds K d_added P_added []
  g_added : mg "added" = some (.ref a_added)
  a_multiplied : Addr
  d_multiplied : FuncData
  F_multiplied : Fun K "multiplied" "multiplied" st_multiplied a_multiplied d_multiplied
  b_multiplied : Binds K d_multiplied P_multiplied []
  g_multiplied : mg "multiplied" = some (.ref a_multiplied)
  a_how_often : Addr
  d_how_often : FuncData
  F_how_often : Fun K "how_often" "how_often" st_how_often a_how_often d_how_often
  b_how_often : Binds K d_how_often P_how_often []
  g_how_often : mg "how_often" = some (.ref a_how_often)
  a_height : Addr
  d_height : FuncData
  F_height : Fun K "height" "height" st_height a_height d_height
  b_height : Binds K d_height P_height []
  g_height : mg "height" = some (.ref a_height)
  a_heights_of : Addr
  d_heights_of : FuncData
  F_heights_of : Fun K "heights_of" "heights_of" st_heights_of a_heights_of d_heights_of
  b_heights_of : Binds K d_heights_of P_heights_of []
  g_heights_of : mg "heights_of" = some (.ref a_heights_of)
  a_worth_there : Addr
  d_worth_there : FuncData
  F_worth_there : Fun K "worth_there" "worth_there" st_worth_there a_worth_there d_worth_there
  b_worth_there : Binds K d_worth_there P_worth_there []
  g_worth_there : mg "worth_there" = some (.ref a_worth_there)
  a_is_below : Addr
  d_is_below : FuncData
  F_is_below : Fun K "is_below" "is_below" st_is_below a_is_below d_is_below
  b_is_below : Binds K d_is_below P_is_below []
  g_is_below : mg "is_below" = some (.ref a_is_below)
  a_least_terms : Addr
  d_least_terms : FuncData
  F_least_terms : Fun K "least_terms" "least_terms" st_least_terms a_least_terms d_least_terms
  b_least_terms : Binds K d_least_terms P_least_terms []
  g_least_terms : mg "least_terms" = some (.ref a_least_terms)
  a_place_of : Addr
  d_place_of : FuncData
  F_place_of : Fun K "place_of" "place_of" st_place_of a_place_of d_place_of
  b_place_of : Binds K d_place_of P_place_of []
  g_place_of : mg "place_of" = some (.ref a_place_of)
  a_pairs_of : Addr
  d_pairs_of : FuncData
  F_pairs_of : Fun K "pairs_of" "pairs_of" st_pairs_of a_pairs_of d_pairs_of
  b_pairs_of : Binds K d_pairs_of P_pairs_of []
  g_pairs_of : mg "pairs_of" = some (.ref a_pairs_of)
  a_foot_of : Addr
  d_foot_of : FuncData
  F_foot_of : Fun K "foot_of" "foot_of" st_foot_of a_foot_of d_foot_of
  b_foot_of : Binds K d_foot_of P_foot_of []
  g_foot_of : mg "foot_of" = some (.ref a_foot_of)
  a_places_of : Addr
  d_places_of : FuncData
  F_places_of : Fun K "places_of" "places_of" st_places_of a_places_of d_places_of
  b_places_of : Binds K d_places_of P_places_of []
  g_places_of : mg "places_of" = some (.ref a_places_of)
  a_crossing_at : Addr
  d_crossing_at : FuncData
  F_crossing_at : Fun K "crossing_at" "crossing_at" st_crossing_at a_crossing_at d_crossing_at
  b_crossing_at : Binds K d_crossing_at P_crossing_at []
  g_crossing_at : mg "crossing_at" = some (.ref a_crossing_at)
  a_all_crossings : Addr
  d_all_crossings : FuncData
  F_all_crossings : Fun K "all_crossings" "all_crossings" st_all_crossings a_all_crossings d_all_crossings
  b_all_crossings : Binds K d_all_crossings P_all_crossings []
  g_all_crossings : mg "all_crossings" = some (.ref a_all_crossings)
  a_meets : Addr
  d_meets : FuncData
  F_meets : Fun K "meets" "meets" st_meets a_meets d_meets
  b_meets : Binds K d_meets P_meets []
  g_meets : mg "meets" = some (.ref a_meets)
  a_gathered : Addr
  d_gathered : FuncData
  F_gathered : Fun K "gathered" "gathered" st_gathered a_gathered d_gathered
  b_gathered : Binds K d_gathered P_gathered []
  g_gathered : mg "gathered" = some (.ref a_gathered)
  a_times : Addr
  d_times : FuncData
  F_times : Fun K "times" "times" st_times a_times d_times
  b_times : Binds K d_times P_times []
  g_times : mg "times" = some (.ref a_times)
  a__law_pool : Addr
  d__law_pool : FuncData
  F__law_pool : Fun K "_law_pool" "_law_pool" st__law_pool a__law_pool d__law_pool
  b__law_pool : Binds K d__law_pool P__law_pool []
  g__law_pool : mg "_law_pool" = some (.ref a__law_pool)
  a__law_take : Addr
  d__law_take : FuncData
  F__law_take : Fun K "_law_take" "_law_take" st__law_take a__law_take d__law_take
  b__law_take : Binds K d__law_take P__law_take []
  g__law_take : mg "_law_take" = some (.ref a__law_take)
  a__law_low : Addr
  d__law_low : FuncData
  F__law_low : Fun K "_law_low" "_law_low" st__law_low a__law_low d__law_low
  b__law_low : Binds K d__law_low P__law_low []
  g__law_low : mg "_law_low" = some (.ref a__law_low)
  a__law_prime : Addr
  d__law_prime : FuncData
  F__law_prime : Fun K "_law_prime" "_law_prime" st__law_prime a__law_prime d__law_prime
  b__law_prime : Binds K d__law_prime P__law_prime []
  g__law_prime : mg "_law_prime" = some (.ref a__law_prime)
  a__law_number : Addr
  d__law_number : FuncData
  F__law_number : Fun K "_law_number" "_law_number" st__law_number a__law_number d__law_number
  b__law_number : Binds K d__law_number P__law_number []
  g__law_number : mg "_law_number" = some (.ref a__law_number)
  a__law_height : Addr
  d__law_height : FuncData
  F__law_height : Fun K "_law_height" "_law_height" st__law_height a__law_height d__law_height
  b__law_height : Binds K d__law_height P__law_height []
  g__law_height : mg "_law_height" = some (.ref a__law_height)
  a__law_roots : Addr
  d__law_roots : FuncData
  F__law_roots : Fun K "_law_roots" "_law_roots" st__law_roots a__law_roots d__law_roots
  b__law_roots : Binds K d__law_roots P__law_roots []
  g__law_roots : mg "_law_roots" = some (.ref a__law_roots)
  a__law_crossed : Addr
  d__law_crossed : FuncData
  F__law_crossed : Fun K "_law_crossed" "_law_crossed" st__law_crossed a__law_crossed d__law_crossed
  b__law_crossed : Binds K d__law_crossed P__law_crossed []
  g__law_crossed : mg "_law_crossed" = some (.ref a__law_crossed)
  a_law : Addr
  d_law : FuncData
  F_law : Fun K "law" "law" st_law a_law d_law
  b_law : Binds K d_law P_law []
  g_law : mg "law" = some (.ref a_law)
section
variable {P : Program} {w : World} {K : PySem.W.Frag} {mg : Str → Option Value} {base : Heap}
theorem ok_cross (T : Txt K mg) : FnOk P w K mg base CX0 1 T.a_cross T.d_cross P_cross (spD K [false, false, false] ev_cross) :=
  ok_def (N := N_cross) (k := 0) (b := b_cross) T.F_cross sc_cross rfl fun cdv A outer s H E hr => ⟨_,
    (pss_cons (ps_set (i := 3) sc_cross.nd rfl (.inl rfl) (pe_op o_mul (pe_op o_sub (pe_ix ix_seq (pv 1) pe_int (fun _ _ => rfl)) (pe_ix ix_seq (pv 0) pe_int (fun _ _ => rfl))) (pe_op o_sub (pe_ix ix_seq (pv 2) pe_int (fun _ _ => rfl)) (pe_ix ix_seq (pv 0) pe_int (fun _ _ => rfl)))))
      (pss_cons (ps_set (i := 4) sc_cross.nd rfl (.inl rfl) (pe_op o_mul (pe_op o_sub (pe_ix ix_seq (pv 1) pe_int (fun _ _ => rfl)) (pe_ix ix_seq (pv 0) pe_int (fun _ _ => rfl))) (pe_op o_sub (pe_ix ix_seq (pv 2) pe_int (fun _ _ => rfl)) (pe_ix ix_seq (pv 0) pe_int (fun _ _ => rfl)))))
      (pss_one (ps_ret (pe_op o_sub (pv 3) (pv 4)))))),
    (ss_seq (ss_asg (snd_2 (snd_2 (snd_2 (snd_var 1) (snd_int _) op2_ix) (snd_2 (snd_var 0) (snd_int _) op2_ix) q_sub) (snd_2 (snd_2 (snd_var 2) (snd_int _) op2_ix) (snd_2 (snd_var 0) (snd_int _) op2_ix) q_sub) q_mul) (sg_name 3))
      (ss_seq (ss_asg (snd_2 (snd_2 (snd_2 (snd_var 1) (snd_int _) op2_ix) (snd_2 (snd_var 0) (snd_int _) op2_ix) q_sub) (snd_2 (snd_2 (snd_var 2) (snd_int _) op2_ix) (snd_2 (snd_var 0) (snd_int _) op2_ix) q_sub) q_mul) (sg_name 4))
      (ss_ret (snd_2 (snd_var 3) (snd_var 4) q_sub))))⟩
theorem ok_half_round (T : Txt K mg) : FnOk P w K mg base CX0 2 T.a_half_round T.d_half_round P_half_round (spD K [false] ev_half_round) :=
  ok_def (N := N_half_round) (k := 1) (b := b_half_round) T.F_half_round sc_half_round rfl fun cdv A outer s H E hr => ⟨_,
    (pss_cons (ps_set (i := 1) sc_half_round.nd rfl (.inl rfl) (pe_lst pa_nil))
      (pss_cons (ps_for PassesOwn.never rfl (pi_list (pv 0)) (pg_name (i := 2) sc_half_round.nd rfl (.inl rfl)) (pss_cons (ps_while PassesOwn.never (PW.pt (pw_and (pt_cmpR op_gt (pe_callB call_len_seq (by rfl) T.m_len bt_len (pa_cons (pv 1) pa_nil)) pe_int (nomark _)) (pw_and1 (pt_cmpR op_le (pe_call (ok_cross T) (hr.mono (by decide)) (by rfl) T.g_cross T.F_cross.kp T.b_cross .nil pass0 (pa_cons (pe_ix ix_seq (pv 1) (pe_un un_neg pe_int) (fun _ _ => rfl)) (pa_cons (pe_ix ix_seq (pv 1) (pe_un un_neg pe_int) (fun _ _ => rfl)) (pa_cons (pv 2) pa_nil)))) pe_int (nomark _))))) (pss_one (ps_expr (pe_bm0 PySem.F.plainAttrs_list PySem.F.slot_list_pop PySem.F.type_list_pop mt_pop (pv 1)))))
      (pss_one (ps_expr (pe_bm PySem.F.plainAttrs_list PySem.F.slot_list_append PySem.F.type_list_append mt_append (pv 1) (pa_cons (pv 2) pa_nil))))))
      (pss_one (ps_ret (pv 1))))),
    (ss_seq (ss_own (snd_lst sa_nil))
      (ss_seq (ss_for (si_list (snd_var 0)) (sg_name 2) (ss_seq (ss_while (st_and (st_test (snd_2 (snd_b (sa_cons (snd_var 1) sa_nil) cg_len) (snd_int _) q_gt)) (st_test (snd_2 (snd_call (sa_cons (snd_2 (snd_var 1) (snd_1 (snd_int _) op1_neg) op2_ix) (sa_cons (snd_2 (snd_var 1) (snd_1 (snd_int _) op1_neg) op2_ix) (sa_cons (snd_var 2) sa_nil)))) (snd_int _) q_le))) (ss_drop snd_pop))
      (ss_drop (snd_append (snd_var 2)))))
      (ss_ret (snd_var 1))))⟩
theorem ok_hull (T : Txt K mg) : FnOk P w K mg base CX0 3 T.a_hull T.d_hull P_hull (spD K [false] ev_hull) :=
  ok_def (N := N_hull) (k := 2) (b := b_hull) T.F_hull sc_hull rfl fun cdv A outer s H E hr => ⟨_,
    (pss_cons (ps_if (pt_cmpR (op_eqD hr.units) (pe_callB call_len_seq (by rfl) T.m_len bt_len (pa_cons (pv 0) pa_nil)) pe_int (nomark _)) (pss_one ps_never) pss_nil)
      (pss_cons (ps_set (i := 1) sc_hull.nd rfl (.inl rfl) (pe_callB (Big.cr_sortedB rfl) (by rfl) T.m_sorted bt_sorted (pa_cons (pe_callTy (Big.cr_setB rfl hr.units) (by rfl) T.m_set bt_set (pa_cons (pv 0) pa_nil)) pa_nil)))
      (pss_cons (ps_if (pt_cmpR (op_eqD hr.units) (pe_callB call_len_seq (by rfl) T.m_len bt_len (pa_cons (pv 1) pa_nil)) pe_int (nomark _)) (pss_one (ps_ret (pv 1))) pss_nil)
      (pss_one (ps_ret (pe_op o_add (pe_slice sl_list (pe_call (ok_half_round T) (hr.mono (by decide)) (by rfl) T.g_half_round T.F_half_round.kp T.b_half_round .nil pass0 (pa_cons (pv 1) pa_nil)) po_none (po_some (pe_un un_neg pe_int))) (pe_slice sl_list (pe_call (ok_half_round T) (hr.mono (by decide)) (by rfl) T.g_half_round T.F_half_round.kp T.b_half_round .nil pass0 (pa_cons (pe_revL (pv 1)) pa_nil)) po_none (po_some (pe_un un_neg pe_int))))))))),
    (ss_seq (ss_if (st_test (snd_2 (snd_b (sa_cons (snd_var 0) sa_nil) cg_len) (snd_int _) op2_eq)) ss_never ss_next)
      (ss_seq (ss_own (snd_sortSet (sa_cons (snd_var 0) sa_nil)))
      (ss_seq (ss_if (st_test (snd_2 (snd_b (sa_cons (snd_var 1) sa_nil) cg_len) (snd_int _) op2_eq)) (ss_ret (snd_var 1)) ss_next)
      (ss_ret (snd_2 (snd_sl (snd_call (sa_cons (snd_var 1) sa_nil)) so_none (so_some (snd_1 (snd_int _) op1_neg)) os_list) (snd_sl (snd_call (sa_cons (snd_revL (snd_var 1)) sa_nil)) so_none (so_some (snd_1 (snd_int _) op1_neg)) os_list) q_add)))))⟩
theorem ok_doubled (T : Txt K mg) : FnOk P w K mg base CX0 2 T.a_doubled T.d_doubled P_doubled (spD K [false] ev_doubled) :=
  ok_def (N := N_doubled) (k := 1) (b := b_doubled) T.F_doubled sc_doubled rfl fun cdv A outer s H E hr => ⟨_,
    (pss_one (ps_ret (pe_callB (cr_sum rfl) (by rfl) T.m_sum bt_sum (pa_cons (pe_lc (own := [("at", 1)]) rfl sc_doubled.nd (pi_range2 rfl T.m_range (pa_cons pe_int (pa_cons (pe_op o_sub (pe_callB call_len_seq (by rfl) T.m_len bt_len (pa_cons (pv 0) pa_nil)) pe_int) pa_nil))) (blkOk_by (own := [("at", 1)]) (N := N_doubled) (sc := defScope st_doubled) (by decide +kernel)) (fun _ _ _ _ _ => (pg_name (i := 1) sc_doubled.nd rfl (.inl rfl))) (fun _ _ _ _ _ => pts_nil) (fun _ _ _ _ _ => (pe_call (ok_cross T) (hr.mono (by decide)) (by rfl) T.g_cross T.F_cross.kp T.b_cross .nil pass0 (pa_cons (pe_ix ix_seq (pv 0) pe_int (fun _ _ => rfl)) (pa_cons (pe_ix ix_seq (pv 0) (pv 1) (fun _ _ => rfl)) (pa_cons (pe_ix ix_seq (pv 0) (pe_op o_add (pv 1) pe_int) (fun _ _ => rfl)) pa_nil)))))) pa_nil)))),
    (ss_ret (snd_b (sa_cons (snd_lc (vs := [1]) (si_range2 (sa_cons (snd_int _) (sa_cons (snd_2 (snd_b (sa_cons (snd_var 0) sa_nil) cg_len) (snd_int _) q_sub) sa_nil))) (sw_name 1 (by decide)) st_yes (snd_call (sa_cons (snd_2 (snd_var 0) (snd_int _) op2_ix) (sa_cons (snd_2 (snd_var 0) (snd_var 1) op2_ix) (sa_cons (snd_2 (snd_var 0) (snd_2 (snd_var 1) (snd_int _) q_add) op2_ix) sa_nil))))) sa_nil) cg_sum))⟩
theorem ok_put_together (T : Txt K mg) : FnOk P w K mg base CX0 4 T.a_put_together T.d_put_together P_put_together (spD K [false, false] ev_put_together) :=
  ok_def (N := N_put_together) (k := 3) (b := b_put_together) T.F_put_together sc_put_together rfl fun cdv A outer s H E hr => ⟨_,
    (pss_cons (ps_set (i := 2) sc_put_together.nd rfl (.inl rfl) (pe_lst pa_nil))
      (pss_cons (ps_for PassesOwn.never rfl (pi_list (pv 0)) (pg_tup rfl (pgs_cons (pg_name (i := 3) sc_put_together.nd rfl (.inr rfl)) (pgs_cons (pg_name (i := 4) sc_put_together.nd rfl (.inr rfl)) pgs_nil))) (pss_one (ps_expr (pe_bm PySem.F.plainAttrs_list PySem.F.slot_list_extend PySem.F.type_list_extend mt_extend (pv 2) (pa_cons (pe_lc (own := [("c", 5), ("d", 6)]) rfl sc_put_together.nd (pi_list (pv 1)) (blkOk_by (own := [("c", 5), ("d", 6)]) (N := N_put_together) (sc := defScope st_put_together) (by decide +kernel)) (fun _ _ _ _ _ => (pg_tup rfl (pgs_cons (pg_name (i := 5) sc_put_together.nd rfl (.inl rfl)) (pgs_cons (pg_name (i := 6) sc_put_together.nd rfl (.inl rfl)) pgs_nil)))) (fun _ _ _ _ _ => pts_nil) (fun _ _ _ _ _ => (pe_tup (pa_cons (pe_op o_add (pv 3) (pv 5)) (pa_cons (pe_op o_add (pv 4) (pv 6)) pa_nil))))) pa_nil)))))
      (pss_one (ps_ret (pe_call (ok_hull T) (hr.mono (by decide)) (by rfl) T.g_hull T.F_hull.kp T.b_hull .nil pass0 (pa_cons (pv 2) pa_nil)))))),
    (ss_seq (ss_own (snd_lst sa_nil))
      (ss_seq (ss_for (si_list (snd_var 0)) (sg_tup (sgs_cons (sg_name 3) (sgs_cons (sg_name 4) sgs_nil))) (ss_drop (snd_extend (snd_lc (vs := [5, 6]) (si_list (snd_var 1)) (sw_tup (sws_cons (sw_name 5 (by decide)) (sws_cons (sw_name 6 (by decide)) sws_nil))) st_yes (snd_tup (sa_cons (snd_2 (snd_var 3) (snd_var 5) q_add) (sa_cons (snd_2 (snd_var 4) (snd_var 6) q_add) sa_nil)))))))
      (ss_retM (sndM_call (sa_cons (snd_var 2) sa_nil)))))⟩
theorem ok_mixed_area (T : Txt K mg) : FnOk P w K mg base CX0 5 T.a_mixed_area T.d_mixed_area P_mixed_area (spD K [false, false] ev_mixed_area) :=
  ok_def (N := N_mixed_area) (k := 4) (b := b_mixed_area) T.F_mixed_area sc_mixed_area rfl fun cdv A outer s H E hr => ⟨_,
    (pss_one (ps_ret (pe_op o_div (pe_op o_sub (pe_op o_sub (pe_call (ok_doubled T) (hr.mono (by decide)) (by rfl) T.g_doubled T.F_doubled.kp T.b_doubled .nil pass0 (pa_cons (pe_call (ok_put_together T) (hr.mono (by decide)) (by rfl) T.g_put_together T.F_put_together.kp T.b_put_together .nil pass0 (pa_cons (pv 0) (pa_cons (pv 1) pa_nil))) pa_nil)) (pe_call (ok_doubled T) (hr.mono (by decide)) (by rfl) T.g_doubled T.F_doubled.kp T.b_doubled .nil pass0 (pa_cons (pv 0) pa_nil))) (pe_call (ok_doubled T) (hr.mono (by decide)) (by rfl) T.g_doubled T.F_doubled.kp T.b_doubled .nil pass0 (pa_cons (pv 1) pa_nil))) pe_int))),
    (ss_ret (snd_2 (snd_2 (snd_2 (snd_call (sa_cons (snd_call (sa_cons (snd_var 0) (sa_cons (snd_var 1) sa_nil))) sa_nil)) (snd_call (sa_cons (snd_var 0) sa_nil)) q_sub) (snd_call (sa_cons (snd_var 1) sa_nil)) q_sub) (snd_int _) q_div))⟩
theorem ok_divisor (T : Txt K mg) : FnOk P w K mg base CX0 1 T.a_divisor T.d_divisor P_divisor (spD K [false, false] ev_divisor) :=
  ok_def (N := N_divisor) (k := 0) (b := b_divisor) T.F_divisor sc_divisor rfl fun cdv A outer s H E hr => ⟨_,
    (pss_cons (ps_par (by rfl) sc_divisor.nd (i := 0) (j := 1) rfl rfl (by decide) rfl rfl (pa_cons (pe_callB call_abs (by rfl) T.m_abs bt_abs (pa_cons (pv 0) pa_nil)) (pa_cons (pe_callB call_abs (by rfl) T.m_abs bt_abs (pa_cons (pv 1) pa_nil)) pa_nil)) (by rfl))
      (pss_cons (ps_while PassesOwn.never (pt_cmpR op_gt (pv 1) pe_int (nomark _)) (pss_one (ps_par (by rfl) sc_divisor.nd (i := 0) (j := 1) rfl rfl (by decide) rfl rfl (pa_cons (pv 1) (pa_cons (pe_op o_mod (pv 0) (pv 1)) pa_nil)) (by rfl))))
      (pss_one (ps_ret (pv 0))))),
    (ss_seq (ss_par (sa_cons (snd_b (sa_cons (snd_var 0) sa_nil) cg_abs) (sa_cons (snd_b (sa_cons (snd_var 1) sa_nil) cg_abs) sa_nil)))
      (ss_seq (ss_while (st_test (snd_2 (snd_var 1) (snd_int _) q_gt)) (ss_par (sa_cons (snd_var 1) (sa_cons (snd_2 (snd_var 0) (snd_var 1) q_mod) sa_nil))))
      (ss_ret (snd_var 0))))⟩
theorem ok_ratio (T : Txt K mg) : FnOk P w K mg base CX0 2 T.a_ratio T.d_ratio P_ratio (spD K [false, false] ev_ratio) :=
  ok_def (N := N_ratio) (k := 1) (b := b_ratio) T.F_ratio sc_ratio rfl fun cdv A outer s H E hr => ⟨_,
    (pss_cons (ps_if (pt_cmpR (op_eqD hr.units) (pv 1) pe_int (nomark _)) (pss_one ps_never) pss_nil)
      (pss_cons (ps_set (i := 2) sc_ratio.nd rfl (.inl rfl) (pe_call (ok_divisor T) (hr.mono (by decide)) (by rfl) T.g_divisor T.F_divisor.kp T.b_divisor .nil pass0 (pa_cons (pv 0) (pa_cons (pv 1) pa_nil))))
      (pss_cons (ps_if (pt_cmpR op_lt (pv 1) pe_int (nomark _)) (pss_one (ps_set (i := 2) sc_ratio.nd rfl (.inl rfl) (pe_op o_sub pe_int (pv 2)))) pss_nil)
      (pss_one (ps_ret (pe_tup (pa_cons (pe_op o_div (pv 0) (pv 2)) (pa_cons (pe_op o_div (pv 1) (pv 2)) pa_nil)))))))),
    (ss_seq (ss_if (st_test (snd_2 (snd_var 1) (snd_int _) op2_eq)) ss_never ss_next)
      (ss_seq (ss_asg (snd_call (sa_cons (snd_var 0) (sa_cons (snd_var 1) sa_nil))) (sg_name 2))
      (ss_cut (ss_seq (ss_if (st_test (snd_2 (snd_var 1) (snd_int _) q_lt)) (ss_asg (snd_2 (snd_int _) (snd_var 2) q_sub) (sg_name 2)) ss_next)
      (ss_ret (snd_tup (sa_cons (snd_2 (snd_var 0) (snd_var 2) q_div) (sa_cons (snd_2 (snd_var 1) (snd_var 2) q_div) sa_nil))))))))⟩
theorem ok_added (T : Txt K mg) : FnOk P w K mg base CX0 3 T.a_added T.d_added P_added (spD K [false, false] ev_added) :=
  ok_def (N := N_added) (k := 2) (b := b_added) T.F_added sc_added rfl fun cdv A outer s H E hr => ⟨_,
    (pss_one (ps_ret (pe_call (ok_ratio T) (hr.mono (by decide)) (by rfl) T.g_ratio T.F_ratio.kp T.b_ratio .nil pass0 (pa_cons (pe_op o_add (pe_op o_mul (pe_ix ix_seq (pv 0) pe_int (fun _ _ => rfl)) (pe_ix ix_seq (pv 1) pe_int (fun _ _ => rfl))) (pe_op o_mul (pe_ix ix_seq (pv 1) pe_int (fun _ _ => rfl)) (pe_ix ix_seq (pv 0) pe_int (fun _ _ => rfl)))) (pa_cons (pe_op o_mul (pe_ix ix_seq (pv 0) pe_int (fun _ _ => rfl)) (pe_ix ix_seq (pv 1) pe_int (fun _ _ => rfl))) pa_nil))))),
    (ss_ret (snd_call (sa_cons (snd_2 (snd_2 (snd_2 (snd_var 0) (snd_int _) op2_ix) (snd_2 (snd_var 1) (snd_int _) op2_ix) q_mul) (snd_2 (snd_2 (snd_var 1) (snd_int _) op2_ix) (snd_2 (snd_var 0) (snd_int _) op2_ix) q_mul) q_add) (sa_cons (snd_2 (snd_2 (snd_var 0) (snd_int _) op2_ix) (snd_2 (snd_var 1) (snd_int _) op2_ix) q_mul) sa_nil))))⟩
theorem ok_multiplied (T : Txt K mg) : FnOk P w K mg base CX0 3 T.a_multiplied T.d_multiplied P_multiplied (spD K [false, false] ev_multiplied) :=
  ok_def (N := N_multiplied) (k := 2) (b := b_multiplied) T.F_multiplied sc_multiplied rfl fun cdv A outer s H E hr => ⟨_,
    (pss_one (ps_ret (pe_call (ok_ratio T) (hr.mono (by decide)) (by rfl) T.g_ratio T.F_ratio.kp T.b_ratio .nil pass0 (pa_cons (pe_op o_mul (pe_ix ix_seq (pv 0) pe_int (fun _ _ => rfl)) (pe_ix ix_seq (pv 1) pe_int (fun _ _ => rfl))) (pa_cons (pe_op o_mul (pe_ix ix_seq (pv 0) pe_int (fun _ _ => rfl)) (pe_ix ix_seq (pv 1) pe_int (fun _ _ => rfl))) pa_nil))))),
    (ss_ret (snd_call (sa_cons (snd_2 (snd_2 (snd_var 0) (snd_int _) op2_ix) (snd_2 (snd_var 1) (snd_int _) op2_ix) q_mul) (sa_cons (snd_2 (snd_2 (snd_var 0) (snd_int _) op2_ix) (snd_2 (snd_var 1) (snd_int _) op2_ix) q_mul) sa_nil))))⟩
theorem ok_how_often (T : Txt K mg) : FnOk P w K mg base CX0 1 T.a_how_often T.d_how_often P_how_often (spD K [false, false] ev_how_often) :=
  ok_def (N := N_how_often) (k := 0) (b := b_how_often) T.F_how_often sc_how_often rfl fun cdv A outer s H E hr => ⟨_,
    (pss_cons (ps_set (i := 2) sc_how_often.nd rfl (.inl rfl) pe_int)
      (pss_cons (ps_while PassesOwn.never (pt_cmpR (op_eqD hr.units) (pe_op o_mod (pv 0) (pv 1)) pe_int (nomark _)) (pss_cons (ps_set (i := 0) sc_how_often.nd rfl (.inl rfl) (pe_op o_div (pv 0) (pv 1)))
      (pss_one (ps_set (i := 2) sc_how_often.nd rfl (.inl rfl) (pe_op o_add (pv 2) pe_int)))))
      (pss_one (ps_ret (pv 2))))),
    (ss_seq (ss_asg (snd_int _) (sg_name 2))
      (ss_seq (ss_while (st_test (snd_2 (snd_2 (snd_var 0) (snd_var 1) q_mod) (snd_int _) op2_eq)) (ss_seq (ss_asg (snd_2 (snd_var 0) (snd_var 1) q_div) (sg_name 0))
      (ss_asg (snd_2 (snd_var 2) (snd_int _) q_add) (sg_name 2))))
      (ss_ret (snd_var 2))))⟩
theorem ok_height (T : Txt K mg) : FnOk P w K mg base CX0 2 T.a_height T.d_height P_height (spD K [false, false] ev_height) :=
  ok_def (N := N_height) (k := 1) (b := b_height) T.F_height sc_height rfl fun cdv A outer s H E hr => ⟨_,
    (pss_cons (ps_if (pt_cmpR (op_eqD hr.units) (pv 0) (pe_glob (v := .ref T.a_NOUGHT) rfl T.mg_NOUGHT rfl) (nomark _)) (pss_one ps_never) pss_nil)
      (pss_one (ps_ret (pe_op o_sub (pe_call (ok_how_often T) (hr.mono (by decide)) (by rfl) T.g_how_often T.F_how_often.kp T.b_how_often .nil pass0 (pa_cons (pe_ix ix_seq (pv 0) pe_int (fun _ _ => rfl)) (pa_cons (pv 1) pa_nil))) (pe_call (ok_how_often T) (hr.mono (by decide)) (by rfl) T.g_how_often T.F_how_often.kp T.b_how_often .nil pass0 (pa_cons (pe_ix ix_seq (pv 0) pe_int (fun _ _ => rfl)) (pa_cons (pv 1) pa_nil))))))),
    (ss_seq (ss_if (st_test (snd_2 (snd_var 0) (snd_c T.dq_NOUGHT) op2_eq)) ss_never ss_next)
      (ss_ret (snd_2 (snd_call (sa_cons (snd_2 (snd_var 0) (snd_int _) op2_ix) (sa_cons (snd_var 1) sa_nil))) (snd_call (sa_cons (snd_2 (snd_var 0) (snd_int _) op2_ix) (sa_cons (snd_var 1) sa_nil))) q_sub)))⟩
theorem ok_heights_of (T : Txt K mg) : FnOk P w K mg base CX0 3 T.a_heights_of T.d_heights_of P_heights_of (spD K [false, false] ev_heights_of) :=
  ok_def (N := N_heights_of) (k := 2) (b := b_heights_of) T.F_heights_of sc_heights_of rfl fun cdv A outer s H E hr => ⟨_,
    (pss_cons (ps_if (pt_cmpR (op_eqD hr.units) (pv 0) (pe_lst pa_nil) (nomark _)) (pss_one ps_never) pss_nil)
      (pss_one (ps_ret (pe_lc (own := [("a", 2), ("b", 3), ("number", 4)]) rfl sc_heights_of.nd (pi_list (pv 0)) (blkOk_by (own := [("a", 2), ("b", 3), ("number", 4)]) (N := N_heights_of) (sc := defScope st_heights_of) (by decide +kernel)) (fun _ _ _ _ _ => (pg_tup rfl (pgs_cons (pg_name (i := 2) sc_heights_of.nd rfl (.inl rfl)) (pgs_cons (pg_name (i := 3) sc_heights_of.nd rfl (.inl rfl)) (pgs_cons (pg_name (i := 4) sc_heights_of.nd rfl (.inl rfl)) pgs_nil))))) (fun _ _ _ _ _ => pts_nil) (fun _ _ _ _ _ => (pe_tup (pa_cons (pv 2) (pa_cons (pv 3) (pa_cons (pe_call (ok_height T) (hr.mono (by decide)) (by rfl) T.g_height T.F_height.kp T.b_height .nil pass0 (pa_cons (pv 4) (pa_cons (pv 1) pa_nil))) pa_nil))))))))),
    (ss_seq (ss_if (st_test (snd_2 (snd_var 0) (snd_lst sa_nil) op2_eq)) ss_never ss_next)
      (ss_ret (snd_lc (vs := [2, 3, 4]) (si_list (snd_var 0)) (sw_tup (sws_cons (sw_name 2 (by decide)) (sws_cons (sw_name 3 (by decide)) (sws_cons (sw_name 4 (by decide)) sws_nil)))) st_yes (snd_tup (sa_cons (snd_var 2) (sa_cons (snd_var 3) (sa_cons (snd_call (sa_cons (snd_var 4) (sa_cons (snd_var 1) sa_nil))) sa_nil)))))))⟩
theorem ok_worth_there (T : Txt K mg) : FnOk P w K mg base CX0 4 T.a_worth_there T.d_worth_there P_worth_there (spD K [false, false, false] ev_worth_there) :=
  ok_def (N := N_worth_there) (k := 3) (b := b_worth_there) T.F_worth_there sc_worth_there rfl fun cdv A outer s H E hr => ⟨_,
    (pss_cons (ps_asg (pv 0) (pg_tup rfl (pgs_cons (pg_name (i := 3) sc_worth_there.nd rfl (.inl rfl)) (pgs_cons (pg_name (i := 4) sc_worth_there.nd rfl (.inl rfl)) (pgs_cons (pg_name (i := 5) sc_worth_there.nd rfl (.inl rfl)) pgs_nil)))))
      (pss_one (ps_ret (pe_call (ok_added T) (hr.mono (by decide)) (by rfl) T.g_added T.F_added.kp T.b_added .nil pass0 (pa_cons (pe_tup (pa_cons (pv 5) (pa_cons pe_int pa_nil))) (pa_cons (pe_call (ok_added T) (hr.mono (by decide)) (by rfl) T.g_added T.F_added.kp T.b_added .nil pass0 (pa_cons (pe_call (ok_multiplied T) (hr.mono (by decide)) (by rfl) T.g_multiplied T.F_multiplied.kp T.b_multiplied .nil pass0 (pa_cons (pe_tup (pa_cons (pv 3) (pa_cons pe_int pa_nil))) (pa_cons (pv 1) pa_nil))) (pa_cons (pe_call (ok_multiplied T) (hr.mono (by decide)) (by rfl) T.g_multiplied T.F_multiplied.kp T.b_multiplied .nil pass0 (pa_cons (pe_tup (pa_cons (pv 4) (pa_cons pe_int pa_nil))) (pa_cons (pv 2) pa_nil))) pa_nil))) pa_nil)))))),
    (ss_seq (ss_asg (snd_var 0) (sg_tup (sgs_cons (sg_name 3) (sgs_cons (sg_name 4) (sgs_cons (sg_name 5) sgs_nil)))))
      (ss_ret (snd_call (sa_cons (snd_tup (sa_cons (snd_var 5) (sa_cons (snd_int _) sa_nil))) (sa_cons (snd_call (sa_cons (snd_call (sa_cons (snd_tup (sa_cons (snd_var 3) (sa_cons (snd_int _) sa_nil))) (sa_cons (snd_var 1) sa_nil))) (sa_cons (snd_call (sa_cons (snd_tup (sa_cons (snd_var 4) (sa_cons (snd_int _) sa_nil))) (sa_cons (snd_var 2) sa_nil))) sa_nil))) sa_nil)))))⟩
theorem ok_is_below (T : Txt K mg) : FnOk P w K mg base CX0 1 T.a_is_below T.d_is_below P_is_below (spD K [false, false] ev_is_below) :=
  ok_def (N := N_is_below) (k := 0) (b := b_is_below) T.F_is_below sc_is_below rfl fun cdv A outer s H E hr => ⟨_,
    (pss_one (ps_ret (pe_cmpR op_lt (pe_op o_mul (pe_ix ix_seq (pv 0) pe_int (fun _ _ => rfl)) (pe_ix ix_seq (pv 1) pe_int (fun _ _ => rfl))) (pe_op o_mul (pe_ix ix_seq (pv 1) pe_int (fun _ _ => rfl)) (pe_ix ix_seq (pv 0) pe_int (fun _ _ => rfl))) (nomark _)))),
    (ss_ret (snd_2 (snd_2 (snd_2 (snd_var 0) (snd_int _) op2_ix) (snd_2 (snd_var 1) (snd_int _) op2_ix) q_mul) (snd_2 (snd_2 (snd_var 1) (snd_int _) op2_ix) (snd_2 (snd_var 0) (snd_int _) op2_ix) q_mul) q_lt))⟩
theorem ok_least_terms (T : Txt K mg) : FnOk P w K mg base CX0 5 T.a_least_terms T.d_least_terms P_least_terms (spD K [false, false, false] ev_least_terms) :=
  ok_def (N := N_least_terms) (k := 4) (b := b_least_terms) T.F_least_terms sc_least_terms rfl fun cdv A outer s H E hr => ⟨_,
    (pss_cons (ps_setLc (i := 3) (own := [("term", 6)]) rfl sc_least_terms.nd rfl rfl (sw_true rfl rfl rfl (by decide +kernel)) (pi_list (pv 0)) (blkOk_by (own := [("term", 6)]) (N := N_least_terms) (sc := defScope st_least_terms) (by decide +kernel)) (fun _ _ _ _ _ => (pg_name (i := 6) sc_least_terms.nd rfl (.inl rfl))) (fun _ _ _ _ _ => pts_nil) (fun _ _ _ _ _ => (pe_call (ok_worth_there T) (hr.mono (by decide)) (by rfl) T.g_worth_there T.F_worth_there.kp T.b_worth_there .nil pass0 (pa_cons (pv 6) (pa_cons (pv 1) (pa_cons (pv 2) pa_nil))))))
      (pss_cons (ps_set (i := 4) sc_least_terms.nd rfl (.inr rfl) (pe_ix ix_seq (pv 3) pe_int (fun _ _ => rfl)))
      (pss_cons (ps_for PassesOwn.never rfl (pi_list (pv 3)) (pg_name (i := 5) sc_least_terms.nd rfl (.inl rfl)) (pss_one (ps_if (pt_val (pe_call (ok_is_below T) (hr.mono (by decide)) (by rfl) T.g_is_below T.F_is_below.kp T.b_is_below .nil pass0 (pa_cons (pv 5) (pa_cons (pv 4) pa_nil)))) (pss_one (ps_set (i := 4) sc_least_terms.nd rfl (.inr rfl) (pv 5))) pss_nil)))
      (pss_one (ps_ret (pe_lc (own := [("term", 6), ("worth_here", 5)]) rfl sc_least_terms.nd (pi_zip (by rfl) T.m_zip (pa_cons (pv 0) (pa_cons (pv 3) pa_nil))) (blkOk_by (own := [("term", 6), ("worth_here", 5)]) (N := N_least_terms) (sc := defScope st_least_terms) (by decide +kernel)) (fun _ _ _ _ _ => (pg_tup rfl (pgs_cons (pg_name (i := 6) sc_least_terms.nd rfl (.inl rfl)) (pgs_cons (pg_name (i := 5) sc_least_terms.nd rfl (.inl rfl)) pgs_nil)))) (fun _ _ _ _ _ => (pts_one (pt_cmpR (op_eqD hr.units) (pv 5) (pv 4) (nomark _)))) (fun _ _ _ _ _ => (pe_slice sl_tupA (pv 6) po_none (po_some pe_int))))))))),
    (ss_seq (ss_asg (snd_lc (vs := [6]) (si_list (snd_var 0)) (sw_name 6 (by decide)) st_yes (snd_call (sa_cons (snd_var 6) (sa_cons (snd_var 1) (sa_cons (snd_var 2) sa_nil))))) (sg_name 3))
      (ss_seq (ss_asg (snd_2 (snd_var 3) (snd_int _) op2_ix) (sg_name 4))
      (ss_seq (ss_for (si_list (snd_var 3)) (sg_name 5) (ss_if (st_B (snd_call (sa_cons (snd_var 5) (sa_cons (snd_var 4) sa_nil)))) (ss_asg (snd_var 5) (sg_name 4)) ss_next))
      (ss_ret (snd_lc (vs := [6, 5]) (si_zip (sa_cons (snd_var 0) (sa_cons (snd_var 3) sa_nil))) (sw_tup (sws_cons (sw_name 6 (by decide)) (sws_cons (sw_name 5 (by decide)) sws_nil))) (st_test (snd_2 (snd_var 5) (snd_var 4) op2_eq)) (snd_sl (snd_var 6) so_none (so_some (snd_int _)) os_tup))))))⟩
theorem ok_place_of (T : Txt K mg) : FnOk P w K mg base CX0 3 T.a_place_of T.d_place_of P_place_of (spD K [false, false] ev_place_of) :=
  ok_def (N := N_place_of) (k := 2) (b := b_place_of) T.F_place_of sc_place_of rfl fun cdv A outer s H E hr => ⟨_,
    (pss_cons (ps_asg (pv 0) (pg_tup rfl (pgs_cons (pg_tup rfl (pgs_cons (pg_name (i := 2) sc_place_of.nd rfl (.inl rfl)) (pgs_cons (pg_name (i := 3) sc_place_of.nd rfl (.inl rfl)) (pgs_cons (pg_name (i := 4) sc_place_of.nd rfl (.inl rfl)) pgs_nil)))) (pgs_cons (pg_tup rfl (pgs_cons (pg_name (i := 5) sc_place_of.nd rfl (.inl rfl)) (pgs_cons (pg_name (i := 6) sc_place_of.nd rfl (.inl rfl)) (pgs_cons (pg_name (i := 7) sc_place_of.nd rfl (.inl rfl)) pgs_nil)))) pgs_nil))))
      (pss_cons (ps_par3 (by rfl) sc_place_of.nd (i := 8) (j := 9) (l := 10) rfl rfl rfl (by decide) (by decide) (by decide) rfl rfl rfl (pa_cons (pe_op o_sub (pv 2) (pv 5)) (pa_cons (pe_op o_sub (pv 3) (pv 6)) (pa_cons (pe_op o_sub (pv 7) (pv 4)) pa_nil))) (by rfl))
      (pss_cons (ps_asg (pv 1) (pg_tup rfl (pgs_cons (pg_tup rfl (pgs_cons (pg_name (i := 2) sc_place_of.nd rfl (.inl rfl)) (pgs_cons (pg_name (i := 3) sc_place_of.nd rfl (.inl rfl)) (pgs_cons (pg_name (i := 4) sc_place_of.nd rfl (.inl rfl)) pgs_nil)))) (pgs_cons (pg_tup rfl (pgs_cons (pg_name (i := 5) sc_place_of.nd rfl (.inl rfl)) (pgs_cons (pg_name (i := 6) sc_place_of.nd rfl (.inl rfl)) (pgs_cons (pg_name (i := 7) sc_place_of.nd rfl (.inl rfl)) pgs_nil)))) pgs_nil))))
      (pss_cons (ps_par3 (by rfl) sc_place_of.nd (i := 11) (j := 12) (l := 13) rfl rfl rfl (by decide) (by decide) (by decide) rfl rfl rfl (pa_cons (pe_op o_sub (pv 2) (pv 5)) (pa_cons (pe_op o_sub (pv 3) (pv 6)) (pa_cons (pe_op o_sub (pv 7) (pv 4)) pa_nil))) (by rfl))
      (pss_cons (ps_set (i := 14) sc_place_of.nd rfl (.inl rfl) (pe_op o_sub (pe_op o_mul (pv 8) (pv 12)) (pe_op o_mul (pv 9) (pv 11))))
      (pss_cons (ps_if (pt_cmpR (op_eqD hr.units) (pv 14) pe_int (nomark _)) (pss_one (ps_ret pe_non)) pss_nil)
      (pss_one (ps_ret (pe_tup (pa_cons (pe_call (ok_ratio T) (hr.mono (by decide)) (by rfl) T.g_ratio T.F_ratio.kp T.b_ratio .nil pass0 (pa_cons (pe_op o_sub (pe_op o_mul (pv 10) (pv 12)) (pe_op o_mul (pv 9) (pv 13))) (pa_cons (pv 14) pa_nil))) (pa_cons (pe_call (ok_ratio T) (hr.mono (by decide)) (by rfl) T.g_ratio T.F_ratio.kp T.b_ratio .nil pass0 (pa_cons (pe_op o_sub (pe_op o_mul (pv 8) (pv 13)) (pe_op o_mul (pv 10) (pv 11))) (pa_cons (pv 14) pa_nil))) pa_nil))))))))))),
    (ss_seq (ss_asg (snd_var 0) (sg_tup (sgs_cons (sg_tup (sgs_cons (sg_name 2) (sgs_cons (sg_name 3) (sgs_cons (sg_name 4) sgs_nil)))) (sgs_cons (sg_tup (sgs_cons (sg_name 5) (sgs_cons (sg_name 6) (sgs_cons (sg_name 7) sgs_nil)))) sgs_nil))))
      (ss_seq (ss_par3 (sa_cons (snd_2 (snd_var 2) (snd_var 5) q_sub) (sa_cons (snd_2 (snd_var 3) (snd_var 6) q_sub) (sa_cons (snd_2 (snd_var 7) (snd_var 4) q_sub) sa_nil))))
      (ss_seq (ss_asg (snd_var 1) (sg_tup (sgs_cons (sg_tup (sgs_cons (sg_name 2) (sgs_cons (sg_name 3) (sgs_cons (sg_name 4) sgs_nil)))) (sgs_cons (sg_tup (sgs_cons (sg_name 5) (sgs_cons (sg_name 6) (sgs_cons (sg_name 7) sgs_nil)))) sgs_nil))))
      (ss_seq (ss_par3 (sa_cons (snd_2 (snd_var 2) (snd_var 5) q_sub) (sa_cons (snd_2 (snd_var 3) (snd_var 6) q_sub) (sa_cons (snd_2 (snd_var 7) (snd_var 4) q_sub) sa_nil))))
      (ss_seq (ss_asg (snd_2 (snd_2 (snd_var 8) (snd_var 12) q_mul) (snd_2 (snd_var 9) (snd_var 11) q_mul) q_sub) (sg_name 14))
      (ss_seq (ss_if (st_test (snd_2 (snd_var 14) (snd_int _) op2_eq)) (ss_ret snd_non) ss_next)
      (ss_ret (snd_tup (sa_cons (snd_call (sa_cons (snd_2 (snd_2 (snd_var 10) (snd_var 12) q_mul) (snd_2 (snd_var 9) (snd_var 13) q_mul) q_sub) (sa_cons (snd_var 14) sa_nil))) (sa_cons (snd_call (sa_cons (snd_2 (snd_2 (snd_var 8) (snd_var 13) q_mul) (snd_2 (snd_var 10) (snd_var 11) q_mul) q_sub) (sa_cons (snd_var 14) sa_nil))) sa_nil))))))))))⟩
theorem ok_pairs_of (T : Txt K mg) : FnOk P w K mg base CX0 1 T.a_pairs_of T.d_pairs_of P_pairs_of (spD K [false] ev_pairs_of) :=
  ok_def (N := N_pairs_of) (k := 0) (b := b_pairs_of) T.F_pairs_of sc_pairs_of rfl fun cdv A outer s H E hr => ⟨_,
    (pss_cons (ps_set (i := 1) sc_pairs_of.nd rfl (.inl rfl) (pe_lst pa_nil))
      (pss_cons (ps_for PassesOwn.never rfl (pi_enum (by rfl) T.m_enumerate (pa_cons (pv 0) pa_nil)) (pg_tup rfl (pgs_cons (pg_name (i := 2) sc_pairs_of.nd rfl (.inl rfl)) (pgs_cons (pg_name (i := 3) sc_pairs_of.nd rfl (.inr rfl)) pgs_nil))) (pss_one (ps_expr (pe_bm PySem.F.plainAttrs_list PySem.F.slot_list_extend PySem.F.type_list_extend mt_extend (pv 1) (pa_cons (pe_lc (own := [("other", 4)]) rfl sc_pairs_of.nd (pi_list (pe_slice sl_list (pv 0) po_none (po_some (pv 2)))) (blkOk_by (own := [("other", 4)]) (N := N_pairs_of) (sc := defScope st_pairs_of) (by decide +kernel)) (fun _ _ _ _ _ => (pg_name (i := 4) sc_pairs_of.nd rfl (.inl rfl))) (fun _ _ _ _ _ => pts_nil) (fun _ _ _ _ _ => (pe_tup (pa_cons (pv 4) (pa_cons (pv 3) pa_nil))))) pa_nil)))))
      (pss_one (ps_ret (pv 1))))),
    (ss_seq (ss_own (snd_lst sa_nil))
      (ss_seq (ss_for (si_enum (sa_cons (snd_var 0) sa_nil)) (sg_tup (sgs_cons (sg_name 2) (sgs_cons (sg_name 3) sgs_nil))) (ss_drop (snd_extend (snd_lc (vs := [4]) (si_list (snd_sl (snd_var 0) so_none (so_some (snd_var 2)) os_list)) (sw_name 4 (by decide)) st_yes (snd_tup (sa_cons (snd_var 4) (sa_cons (snd_var 3) sa_nil)))))))
      (ss_ret (snd_var 1))))⟩
theorem ok_foot_of (T : Txt K mg) : FnOk P w K mg base CX0 3 T.a_foot_of T.d_foot_of P_foot_of (spD K [false] ev_foot_of) :=
  ok_def (N := N_foot_of) (k := 2) (b := b_foot_of) T.F_foot_of sc_foot_of rfl fun cdv A outer s H E hr => ⟨_,
    (pss_cons (ps_asg (pv 0) (pg_tup rfl (pgs_cons (pg_tup rfl (pgs_cons (pg_name (i := 1) sc_foot_of.nd rfl (.inl rfl)) (pgs_cons (pg_name (i := 2) sc_foot_of.nd rfl (.inl rfl)) (pgs_cons (pg_name (i := 3) sc_foot_of.nd rfl (.inl rfl)) pgs_nil)))) (pgs_cons (pg_tup rfl (pgs_cons (pg_name (i := 4) sc_foot_of.nd rfl (.inl rfl)) (pgs_cons (pg_name (i := 5) sc_foot_of.nd rfl (.inl rfl)) (pgs_cons (pg_name (i := 6) sc_foot_of.nd rfl (.inl rfl)) pgs_nil)))) pgs_nil))))
      (pss_cons (ps_set (i := 7) sc_foot_of.nd rfl (.inl rfl) (pe_op o_add (pe_op o_mul (pe_op o_sub (pv 1) (pv 4)) (pe_op o_sub (pv 1) (pv 4))) (pe_op o_mul (pe_op o_sub (pv 2) (pv 5)) (pe_op o_sub (pv 2) (pv 5)))))
      (pss_one (ps_ret (pe_tup (pa_cons (pe_call (ok_ratio T) (hr.mono (by decide)) (by rfl) T.g_ratio T.F_ratio.kp T.b_ratio .nil pass0 (pa_cons (pe_op o_mul (pe_op o_sub (pv 1) (pv 4)) (pe_op o_sub (pv 6) (pv 3))) (pa_cons (pv 7) pa_nil))) (pa_cons (pe_call (ok_ratio T) (hr.mono (by decide)) (by rfl) T.g_ratio T.F_ratio.kp T.b_ratio .nil pass0 (pa_cons (pe_op o_mul (pe_op o_sub (pv 2) (pv 5)) (pe_op o_sub (pv 6) (pv 3))) (pa_cons (pv 7) pa_nil))) pa_nil))))))),
    (ss_seq (ss_asg (snd_var 0) (sg_tup (sgs_cons (sg_tup (sgs_cons (sg_name 1) (sgs_cons (sg_name 2) (sgs_cons (sg_name 3) sgs_nil)))) (sgs_cons (sg_tup (sgs_cons (sg_name 4) (sgs_cons (sg_name 5) (sgs_cons (sg_name 6) sgs_nil)))) sgs_nil))))
      (ss_seq (ss_asg (snd_2 (snd_2 (snd_2 (snd_var 1) (snd_var 4) q_sub) (snd_2 (snd_var 1) (snd_var 4) q_sub) q_mul) (snd_2 (snd_2 (snd_var 2) (snd_var 5) q_sub) (snd_2 (snd_var 2) (snd_var 5) q_sub) q_mul) q_add) (sg_name 7))
      (ss_ret (snd_tup (sa_cons (snd_call (sa_cons (snd_2 (snd_2 (snd_var 1) (snd_var 4) q_sub) (snd_2 (snd_var 6) (snd_var 3) q_sub) q_mul) (sa_cons (snd_var 7) sa_nil))) (sa_cons (snd_call (sa_cons (snd_2 (snd_2 (snd_var 2) (snd_var 5) q_sub) (snd_2 (snd_var 6) (snd_var 3) q_sub) q_mul) (sa_cons (snd_var 7) sa_nil))) sa_nil))))))⟩
theorem ok_places_of (T : Txt K mg) : FnOk P w K mg base CX0 4 T.a_places_of T.d_places_of P_places_of (spD K [false, false] ev_places_of) :=
  ok_def (N := N_places_of) (k := 3) (b := b_places_of) T.F_places_of sc_places_of rfl fun cdv A outer s H E hr => ⟨_,
    (pss_cons (ps_set (i := 2) sc_places_of.nd rfl (.inl rfl) pe_nnew)
      (pss_cons (ps_for PassesOwn.never rfl (pi_list (pe_call (ok_pairs_of T) (hr.mono (by decide)) (by rfl) T.g_pairs_of T.F_pairs_of.kp T.b_pairs_of .nil pass0 (pa_cons (pv 0) pa_nil))) (pg_name (i := 3) sc_places_of.nd rfl (.inl rfl)) (pss_cons (ps_asg pe_bl (pg_sub (pv 2) (pe_call (ok_foot_of T) (hr.mono (by decide)) (by rfl) T.g_foot_of T.F_foot_of.kp T.b_foot_of .nil pass0 (pa_cons (pv 3) pa_nil)) (set_dictN hr.units)))
      (pss_one (ps_for PassesOwn.never rfl (pi_list (pe_call (ok_pairs_of T) (hr.mono (by decide)) (by rfl) T.g_pairs_of T.F_pairs_of.kp T.b_pairs_of .nil pass0 (pa_cons (pv 1) pa_nil))) (pg_name (i := 4) sc_places_of.nd rfl (.inl rfl)) (pss_cons (ps_set (i := 5) sc_places_of.nd rfl (.inl rfl) (pe_call (ok_place_of T) (hr.mono (by decide)) (by rfl) T.g_place_of T.F_place_of.kp T.b_place_of .nil pass0 (pa_cons (pv 3) (pa_cons (pv 4) pa_nil))))
      (pss_one (ps_if (pt_cmpR o_isnt (pv 5) pe_non (nomark _)) (pss_one (ps_asg pe_bl (pg_sub (pv 2) (pv 5) (set_dictN hr.units)))) pss_nil)))))))
      (pss_one (ps_ret (pe_callB (Big.cr_sortedDN rfl hr.units) (by rfl) T.m_sorted bt_sorted (pa_cons (pv 2) pa_nil)))))),
    (ss_seq ss_dnewN
      (ss_seq (ss_for (si_list (snd_call (sa_cons (snd_var 0) sa_nil))) (sg_name 3) (ss_seq (ss_dputN (snd_bl _) (snd_call (sa_cons (snd_var 3) sa_nil)))
      (ss_for (si_list (snd_call (sa_cons (snd_var 1) sa_nil))) (sg_name 4) (ss_seq (ss_asg (snd_call (sa_cons (snd_var 3) (sa_cons (snd_var 4) sa_nil))) (sg_name 5))
      (ss_if (st_test (snd_2 (snd_var 5) snd_non q_isnt)) (ss_dputN (snd_bl _) (snd_var 5)) ss_next)))))
      (ss_ret snd_nsort)))⟩
theorem ok_crossing_at (T : Txt K mg) : FnOk P w K mg base CX0 6 T.a_crossing_at T.d_crossing_at P_crossing_at (spD K [false, false, false] ev_crossing_at) :=
  ok_def (N := N_crossing_at) (k := 5) (b := b_crossing_at) T.F_crossing_at sc_crossing_at rfl fun cdv A outer s H E hr => ⟨_,
    (pss_cons (ps_set (i := 3) sc_crossing_at.nd rfl (.inl rfl) (pe_call (ok_hull T) (hr.mono (by decide)) (by rfl) T.g_hull T.F_hull.kp T.b_hull .nil pass0 (pa_cons (pe_call (ok_least_terms T) (hr.mono (by decide)) (by rfl) T.g_least_terms T.F_least_terms.kp T.b_least_terms .nil pass0 (pa_cons (pv 0) (pa_cons (pe_ix ix_seq (pv 2) pe_int (fun _ _ => rfl)) (pa_cons (pe_ix ix_seq (pv 2) pe_int (fun _ _ => rfl)) pa_nil)))) pa_nil)))
      (pss_cons (ps_set (i := 4) sc_crossing_at.nd rfl (.inl rfl) (pe_call (ok_hull T) (hr.mono (by decide)) (by rfl) T.g_hull T.F_hull.kp T.b_hull .nil pass0 (pa_cons (pe_call (ok_least_terms T) (hr.mono (by decide)) (by rfl) T.g_least_terms T.F_least_terms.kp T.b_least_terms .nil pass0 (pa_cons (pv 1) (pa_cons (pe_ix ix_seq (pv 2) pe_int (fun _ _ => rfl)) (pa_cons (pe_ix ix_seq (pv 2) pe_int (fun _ _ => rfl)) pa_nil)))) pa_nil)))
      (pss_cons (ps_if (PW.pt (pw_or (pt_cmpR (op_eqD hr.units) (pe_callB call_len_seq (by rfl) T.m_len bt_len (pa_cons (pv 3) pa_nil)) pe_int (nomark _)) (pw_or1 (pt_cmpR (op_eqD hr.units) (pe_callB call_len_seq (by rfl) T.m_len bt_len (pa_cons (pv 4) pa_nil)) pe_int (nomark _))))) (pss_one (ps_ret pe_non)) pss_nil)
      (pss_cons (ps_if (PW.pt (pw_or (pt_cmpR op_gt (pe_callB call_len_seq (by rfl) T.m_len bt_len (pa_cons (pv 3) pa_nil)) pe_int (nomark _)) (pw_or (pt_cmpR op_gt (pe_callB call_len_seq (by rfl) T.m_len bt_len (pa_cons (pv 4) pa_nil)) pe_int (nomark _)) (pw_or1 (pt_cmpR (op_eqD hr.units) (pe_call (ok_mixed_area T) (hr.mono (by decide)) (by rfl) T.g_mixed_area T.F_mixed_area.kp T.b_mixed_area .nil pass0 (pa_cons (pv 3) (pa_cons (pv 4) pa_nil))) pe_int (nomark _)))))) (pss_one ps_never) pss_nil)
      (pss_one (ps_ret (pe_tup (pa_cons (pv 3) (pa_cons (pv 4) pa_nil))))))))),
    (ss_seq (ss_asg (snd_call (sa_cons (snd_call (sa_cons (snd_var 0) (sa_cons (snd_2 (snd_var 2) (snd_int _) op2_ix) (sa_cons (snd_2 (snd_var 2) (snd_int _) op2_ix) sa_nil)))) sa_nil)) (sg_name 3))
      (ss_seq (ss_asg (snd_call (sa_cons (snd_call (sa_cons (snd_var 1) (sa_cons (snd_2 (snd_var 2) (snd_int _) op2_ix) (sa_cons (snd_2 (snd_var 2) (snd_int _) op2_ix) sa_nil)))) sa_nil)) (sg_name 4))
      (ss_seq (ss_if (st_or (st_test (snd_2 (snd_b (sa_cons (snd_var 3) sa_nil) cg_len) (snd_int _) op2_eq)) (st_test (snd_2 (snd_b (sa_cons (snd_var 4) sa_nil) cg_len) (snd_int _) op2_eq))) (ss_ret snd_non) ss_next)
      (ss_seq (ss_if (st_or (st_test (snd_2 (snd_b (sa_cons (snd_var 3) sa_nil) cg_len) (snd_int _) q_gt)) (st_or (st_test (snd_2 (snd_b (sa_cons (snd_var 4) sa_nil) cg_len) (snd_int _) q_gt)) (st_test (snd_2 (snd_call (sa_cons (snd_var 3) (sa_cons (snd_var 4) sa_nil))) (snd_int _) op2_eq)))) ss_never ss_next)
      (ss_ret (snd_tup (sa_cons (snd_var 3) (sa_cons (snd_var 4) sa_nil))))))))⟩
theorem ok_all_crossings (T : Txt K mg) : FnOk P w K mg base CX0 7 T.a_all_crossings T.d_all_crossings P_all_crossings (spD K [false, false, false] ev_all_crossings) :=
  ok_def (N := N_all_crossings) (k := 6) (b := b_all_crossings) T.F_all_crossings sc_all_crossings rfl fun cdv A outer s H E hr => ⟨_,
    (pss_cons (ps_set (i := 3) sc_all_crossings.nd rfl (.inl rfl) (pe_call (ok_heights_of T) (hr.mono (by decide)) (by rfl) T.g_heights_of T.F_heights_of.kp T.b_heights_of .nil pass0 (pa_cons (pv 0) (pa_cons (pv 2) pa_nil))))
      (pss_cons (ps_set (i := 4) sc_all_crossings.nd rfl (.inl rfl) (pe_call (ok_heights_of T) (hr.mono (by decide)) (by rfl) T.g_heights_of T.F_heights_of.kp T.b_heights_of .nil pass0 (pa_cons (pv 1) (pa_cons (pv 2) pa_nil))))
      (pss_cons (ps_set (i := 5) sc_all_crossings.nd rfl (.inl rfl) (pe_lst pa_nil))
      (pss_cons (ps_for PassesOwn.never rfl (pi_list (pe_call (ok_places_of T) (hr.mono (by decide)) (by rfl) T.g_places_of T.F_places_of.kp T.b_places_of .nil pass0 (pa_cons (pv 3) (pa_cons (pv 4) pa_nil)))) (pg_name (i := 6) sc_all_crossings.nd rfl (.inl rfl)) (pss_cons (ps_set (i := 7) sc_all_crossings.nd rfl (.inl rfl) (pe_call (ok_crossing_at T) (hr.mono (by decide)) (by rfl) T.g_crossing_at T.F_crossing_at.kp T.b_crossing_at .nil pass0 (pa_cons (pv 3) (pa_cons (pv 4) (pa_cons (pv 6) pa_nil)))))
      (pss_one (ps_if (pt_cmpR o_isnt (pv 7) pe_non (nomark _)) (pss_one (ps_expr (pe_bm PySem.F.plainAttrs_list PySem.F.slot_list_append PySem.F.type_list_append mt_append (pv 5) (pa_cons (pe_tup (pa_cons (pv 6) (pa_cons (pe_ix ix_seq (pv 7) pe_int (fun _ _ => rfl)) (pa_cons (pe_ix ix_seq (pv 7) pe_int (fun _ _ => rfl)) pa_nil)))) pa_nil)))) pss_nil))))
      (pss_one (ps_ret (pv 5))))))),
    (ss_seq (ss_asg (snd_call (sa_cons (snd_var 0) (sa_cons (snd_var 2) sa_nil))) (sg_name 3))
      (ss_seq (ss_asg (snd_call (sa_cons (snd_var 1) (sa_cons (snd_var 2) sa_nil))) (sg_name 4))
      (ss_seq (ss_own (snd_lst sa_nil))
      (ss_seq (ss_for (si_list (snd_call (sa_cons (snd_var 3) (sa_cons (snd_var 4) sa_nil)))) (sg_name 6) (ss_seq (ss_asg (snd_call (sa_cons (snd_var 3) (sa_cons (snd_var 4) (sa_cons (snd_var 6) sa_nil)))) (sg_name 7))
      (ss_if (st_test (snd_2 (snd_var 7) snd_non q_isnt)) (ss_drop (snd_append (snd_tup (sa_cons (snd_var 6) (sa_cons (snd_2 (snd_var 7) (snd_int _) op2_ix) (sa_cons (snd_2 (snd_var 7) (snd_int _) op2_ix) sa_nil)))))) ss_next)))
      (ss_ret (snd_var 5))))))⟩
theorem ok_meets (T : Txt K mg) : FnOk P w K mg base CX0 8 T.a_meets T.d_meets P_meets (spD K [false, false, false] ev_meets) :=
  ok_def (N := N_meets) (k := 7) (b := b_meets) T.F_meets sc_meets rfl fun cdv A outer s H E hr => ⟨_,
    (pss_cons (ps_set (i := 3) sc_meets.nd rfl (.inl rfl) (pe_lst pa_nil))
      (pss_cons (ps_for PassesOwn.never rfl (pi_list (pe_call (ok_all_crossings T) (hr.mono (by decide)) (by rfl) T.g_all_crossings T.F_all_crossings.kp T.b_all_crossings .nil pass0 (pa_cons (pv 0) (pa_cons (pv 1) (pa_cons (pv 2) pa_nil))))) (pg_tup rfl (pgs_cons (pg_tup rfl (pgs_cons (pg_name (i := 4) sc_meets.nd rfl (.inl rfl)) (pgs_cons (pg_name (i := 5) sc_meets.nd rfl (.inl rfl)) pgs_nil))) (pgs_cons (pg_name (i := 6) sc_meets.nd rfl (.inl rfl)) (pgs_cons (pg_name (i := 7) sc_meets.nd rfl (.inl rfl)) pgs_nil)))) (pss_one (ps_expr (pe_bm PySem.F.plainAttrs_list PySem.F.slot_list_append PySem.F.type_list_append mt_append (pv 3) (pa_cons (pe_tup (pa_cons (pv 4) (pa_cons (pv 5) (pa_cons (pe_call (ok_mixed_area T) (hr.mono (by decide)) (by rfl) T.g_mixed_area T.F_mixed_area.kp T.b_mixed_area .nil pass0 (pa_cons (pv 6) (pa_cons (pv 7) pa_nil))) pa_nil)))) pa_nil)))))
      (pss_one (ps_ret (pe_callB (cr_sortD hr.units) (by rfl) T.m_sorted bt_sorted (pa_cons (pv 3) pa_nil)))))),
    (ss_seq (ss_own (snd_lst sa_nil))
      (ss_seq (ss_for (si_list (snd_call (sa_cons (snd_var 0) (sa_cons (snd_var 1) (sa_cons (snd_var 2) sa_nil))))) (sg_tup (sgs_cons (sg_tup (sgs_cons (sg_name 4) (sgs_cons (sg_name 5) sgs_nil))) (sgs_cons (sg_name 6) (sgs_cons (sg_name 7) sgs_nil)))) (ss_drop (snd_append (snd_tup (sa_cons (snd_var 4) (sa_cons (snd_var 5) (sa_cons (snd_call (sa_cons (snd_var 6) (sa_cons (snd_var 7) sa_nil))) sa_nil)))))))
      (ss_ret (snd_b (sa_cons (snd_var 3) sa_nil) cg_sortD))))⟩
theorem ok_gathered (T : Txt K mg) : FnOk P w K mg base CX0 4 T.a_gathered T.d_gathered P_gathered (spD K [false] ev_gathered) :=
  ok_def (N := N_gathered) (k := 3) (b := b_gathered) T.F_gathered sc_gathered rfl fun cdv A outer s H E hr => ⟨_,
    (pss_cons (ps_set (i := 1) sc_gathered.nd rfl (.inr rfl) pe_dnewT)
      (pss_cons (ps_for PassesOwn.never rfl (pi_list (pv 0)) (pg_tup rfl (pgs_cons (pg_name (i := 2) sc_gathered.nd rfl (.inl rfl)) (pgs_cons (pg_name (i := 3) sc_gathered.nd rfl (.inl rfl)) (pgs_cons (pg_name (i := 4) sc_gathered.nd rfl (.inl rfl)) pgs_nil)))) (pss_one (ps_asg (pe_call (ok_added T) (hr.mono (by decide)) (by rfl) T.g_added T.F_added.kp T.b_added .nil pass0 (pa_cons (pe_dget2 (hu1 hr.units) (pv 1) (pe_tup (pa_cons (pv 2) (pa_cons (pv 3) pa_nil))) (pe_glob (v := .ref T.a_NOUGHT) rfl T.mg_NOUGHT rfl) ⟨rfl, rfl, rfl, rfl⟩) (pa_cons (pv 4) pa_nil))) (pg_sub (pv 1) (pe_tup (pa_cons (pv 2) (pa_cons (pv 3) pa_nil))) (set_dict (hu1 hr.units))))))
      (pss_one (ps_ret (pe_lc (own := [("a", 2), ("b", 3)]) rfl sc_gathered.nd (pi_list (pe_callB (Big.cr_sortedDT rfl) (by rfl) T.m_sorted bt_sorted (pa_cons (pv 1) pa_nil))) (blkOk_by (own := [("a", 2), ("b", 3)]) (N := N_gathered) (sc := defScope st_gathered) (by decide +kernel)) (fun _ _ _ _ _ => (pg_tup rfl (pgs_cons (pg_name (i := 2) sc_gathered.nd rfl (.inl rfl)) (pgs_cons (pg_name (i := 3) sc_gathered.nd rfl (.inl rfl)) pgs_nil)))) (fun _ _ _ _ _ => (pts_one (pt_cmpR (op_neD hr.units) (pe_dget (hu1 hr.units) (pv 1) (pe_tup (pa_cons (pv 2) (pa_cons (pv 3) pa_nil))) (fun _ _ => rfl)) (pe_glob (v := .ref T.a_NOUGHT) rfl T.mg_NOUGHT rfl) (nomark _)))) (fun _ _ _ _ _ => (pe_tup (pa_cons (pv 2) (pa_cons (pv 3) (pa_cons (pe_dget (hu1 hr.units) (pv 1) (pe_tup (pa_cons (pv 2) (pa_cons (pv 3) pa_nil))) (fun _ _ => rfl)) pa_nil)))))))))),
    (ss_seq ss_dnew
      (ss_seq (ss_for (si_list (snd_var 0)) (sg_tup (sgs_cons (sg_name 2) (sgs_cons (sg_name 3) (sgs_cons (sg_name 4) sgs_nil)))) (ss_dput (snd_call (sa_cons (snd_dget2 (snd_tupN (sa_cons (snd_var 2) (sa_cons (snd_var 3) sa_nil))) (snd_c T.dq_NOUGHT)) (sa_cons (snd_var 4) sa_nil))) (snd_tupN (sa_cons (snd_var 2) (sa_cons (snd_var 3) sa_nil)))))
      (ss_ret (snd_lc (vs := [2, 3]) (si_list snd_dsort) (sw_tup (sws_cons (sw_name 2 (by decide)) (sws_cons (sw_name 3 (by decide)) sws_nil))) (st_test (snd_2 (snd_dix (snd_tupN (sa_cons (snd_var 2) (sa_cons (snd_var 3) sa_nil)))) (snd_c T.dq_NOUGHT) op2_ne)) (snd_tup (sa_cons (snd_var 2) (sa_cons (snd_var 3) (sa_cons (snd_dix (snd_tupN (sa_cons (snd_var 2) (sa_cons (snd_var 3) sa_nil)))) sa_nil))))))))⟩
theorem ok_times (T : Txt K mg) : FnOk P w K mg base CX0 5 T.a_times T.d_times P_times (spD K [false, false] ev_times) :=
  ok_def (N := N_times) (k := 4) (b := b_times) T.F_times sc_times rfl fun cdv A outer s H E hr => ⟨_,
    (pss_cons (ps_set (i := 2) sc_times.nd rfl (.inl rfl) (pe_lst pa_nil))
      (pss_cons (ps_for PassesOwn.never rfl (pi_list (pv 0)) (pg_tup rfl (pgs_cons (pg_name (i := 3) sc_times.nd rfl (.inr rfl)) (pgs_cons (pg_name (i := 4) sc_times.nd rfl (.inr rfl)) (pgs_cons (pg_name (i := 5) sc_times.nd rfl (.inr rfl)) pgs_nil)))) (pss_one (ps_expr (pe_bm PySem.F.plainAttrs_list PySem.F.slot_list_extend PySem.F.type_list_extend mt_extend (pv 2) (pa_cons (pe_lc (own := [("c", 6), ("d", 7), ("more", 8)]) rfl sc_times.nd (pi_list (pv 1)) (blkOk_by (own := [("c", 6), ("d", 7), ("more", 8)]) (N := N_times) (sc := defScope st_times) (by decide +kernel)) (fun _ _ _ _ _ => (pg_tup rfl (pgs_cons (pg_name (i := 6) sc_times.nd rfl (.inl rfl)) (pgs_cons (pg_name (i := 7) sc_times.nd rfl (.inl rfl)) (pgs_cons (pg_name (i := 8) sc_times.nd rfl (.inl rfl)) pgs_nil))))) (fun _ _ _ _ _ => pts_nil) (fun _ _ _ _ _ => (pe_tup (pa_cons (pe_op o_add (pv 3) (pv 6)) (pa_cons (pe_op o_add (pv 4) (pv 7)) (pa_cons (pe_call (ok_multiplied T) (hr.mono (by decide)) (by rfl) T.g_multiplied T.F_multiplied.kp T.b_multiplied .nil pass0 (pa_cons (pv 5) (pa_cons (pv 8) pa_nil))) pa_nil)))))) pa_nil)))))
      (pss_one (ps_ret (pe_call (ok_gathered T) (hr.mono (by decide)) (by rfl) T.g_gathered T.F_gathered.kp T.b_gathered .nil pass0 (pa_cons (pv 2) pa_nil)))))),
    (ss_seq (ss_own (snd_lst sa_nil))
      (ss_seq (ss_for (si_list (snd_var 0)) (sg_tup (sgs_cons (sg_name 3) (sgs_cons (sg_name 4) (sgs_cons (sg_name 5) sgs_nil)))) (ss_drop (snd_extend (snd_lc (vs := [6, 7, 8]) (si_list (snd_var 1)) (sw_tup (sws_cons (sw_name 6 (by decide)) (sws_cons (sw_name 7 (by decide)) (sws_cons (sw_name 8 (by decide)) sws_nil)))) st_yes (snd_tup (sa_cons (snd_2 (snd_var 3) (snd_var 6) q_add) (sa_cons (snd_2 (snd_var 4) (snd_var 7) q_add) (sa_cons (snd_call (sa_cons (snd_var 5) (sa_cons (snd_var 8) sa_nil))) sa_nil))))))))
      (ss_retM (sndM_call (sa_cons (snd_var 2) sa_nil)))))⟩
theorem ok__law_pool (T : Txt K mg) : FnOk P w K mg base CX0 1 T.a__law_pool T.d__law_pool P__law_pool (spD K [false, false] ev__law_pool) :=
  ok_def (N := N__law_pool) (k := 0) (b := b__law_pool) T.F__law_pool sc__law_pool rfl fun cdv A outer s H E hr => ⟨_,
    (pss_cons (ps_set (i := 2) sc__law_pool.nd rfl (.inl rfl) (pe_op o_add (pe_op o_mul pe_int (pv 1)) pe_int))
      (pss_cons (ps_if (pt_cmpR op_lt (pv 1) (pe_callB call_len_seq (by rfl) T.m_len bt_len (pa_cons (pv 0) pa_nil)) (nomark _)) (pss_one (ps_set (i := 2) sc__law_pool.nd rfl (.inl rfl) (pe_ix ix_seq (pv 0) (pv 1) (fun _ _ => rfl)))) pss_nil)
      (pss_cons (ps_set (i := 3) sc__law_pool.nd rfl (.inl rfl) (pe_callB call_abs (by rfl) T.m_abs bt_abs (pa_cons (pv 2) pa_nil)))
      (pss_cons (ps_if (pt_cmpR op_lt (pv 3) (pe_op o_pow pe_int pe_int) (nomark _)) (pss_one (ps_set (i := 3) sc__law_pool.nd rfl (.inl rfl) pe_int)) pss_nil)
      (pss_cons (ps_set (i := 4) sc__law_pool.nd rfl (.inl rfl) (pe_tup (pa_cons pe_int (pa_cons pe_int (pa_cons pe_int (pa_cons pe_int (pa_cons pe_int (pa_cons pe_int (pa_cons pe_int (pa_cons pe_int pa_nil))))))))))
      (pss_one (ps_ret (pe_lst (pa_cons (pv 3) (pa_cons (pe_op o_mod (pe_op o_add (pe_op o_add (pe_op o_mul (pe_op o_mod (pv 2) (pe_ix ix_seq (pv 4) (pe_op o_mod (pv 1) pe_int) (fun _ _ => rfl))) pe_int) (pe_op o_mul pe_int (pv 1))) pe_int) pe_int) pa_nil)))))))))),
    (ss_seq (ss_asg (snd_2 (snd_2 (snd_int _) (snd_var 1) q_mul) (snd_int _) q_add) (sg_name 2))
      (ss_cut (ss_seq (ss_if (st_test (snd_2 (snd_var 1) (snd_b (sa_cons (snd_var 0) sa_nil) cg_len) q_lt)) (ss_asg (snd_2 (snd_var 0) (snd_var 1) op2_ix) (sg_name 2)) ss_next)
      (ss_seq (ss_asg (snd_b (sa_cons (snd_var 2) sa_nil) cg_abs) (sg_name 3))
      (ss_cut (ss_seq (ss_if (st_test (snd_2 (snd_var 3) (snd_2 (snd_int _) (snd_int _) q_pow) q_lt)) (ss_asg (snd_int _) (sg_name 3)) ss_next)
      (ss_seq (ss_asg (snd_tup (sa_cons (snd_int _) (sa_cons (snd_int _) (sa_cons (snd_int _) (sa_cons (snd_int _) (sa_cons (snd_int _) (sa_cons (snd_int _) (sa_cons (snd_int _) (sa_cons (snd_int _) sa_nil))))))))) (sg_name 4))
      (ss_ret (snd_lst (sa_cons (snd_var 3) (sa_cons (snd_2 (snd_2 (snd_2 (snd_2 (snd_2 (snd_var 2) (snd_2 (snd_var 4) (snd_2 (snd_var 1) (snd_int _) q_mod) op2_ix) q_mod) (snd_int _) q_mul) (snd_2 (snd_int _) (snd_var 1) q_mul) q_add) (snd_int _) q_add) (snd_int _) q_mod) sa_nil)))))))))))⟩
theorem ok__law_take (T : Txt K mg) : FnOk P w K mg base CX0 1 T.a__law_take T.d__law_take P__law_take (spD K [true, false] ev__law_take) :=
  ok_def (N := N__law_take) (k := 0) (b := b__law_take) T.F__law_take sc__law_take rfl fun cdv A outer s H E hr => ⟨_,
    (pss_cons (ps_if (pt_cmpR op_gt (pe_ix ix_seq (pv 0) pe_int (fun _ _ => rfl)) pe_int (nomark _)) (pss_cons (ps_set (i := 2) sc__law_take.nd rfl (.inl rfl) (pe_op o_mod (pe_ix ix_seq (pv 0) pe_int (fun _ _ => rfl)) (pv 1)))
      (pss_cons (ps_asg (pe_op o_div (pe_ix ix_seq (pv 0) pe_int (fun _ _ => rfl)) (pv 1)) (pg_sub (pv 0) pe_int set_list))
      (pss_one (ps_ret (pv 2))))) pss_nil)
      (pss_cons (ps_asg (pe_op o_mod (pe_op o_add (pe_op o_mul (pe_ix ix_seq (pv 0) pe_int (fun _ _ => rfl)) pe_int) pe_int) pe_int) (pg_sub (pv 0) pe_int set_list))
      (pss_one (ps_ret (pe_op o_mod (pe_op o_div (pe_op o_mod (pe_op o_pow (pe_ix ix_seq (pv 0) pe_int (fun _ _ => rfl)) pe_int) pe_int) pe_int) (pv 1)))))),
    (ss_seq (ss_if (st_test (snd_2 (snd_2 (snd_var 0) (snd_int _) op2_ix) (snd_int _) q_gt)) (ss_seq (ss_asg (snd_2 (snd_2 (snd_var 0) (snd_int _) op2_ix) (snd_var 1) q_mod) (sg_name 2))
      (ss_seq (ss_setI (snd_2 (snd_2 (snd_var 0) (snd_int _) op2_ix) (snd_var 1) q_div) (snd_int _))
      (ss_ret (snd_var 2)))) ss_next)
      (ss_seq (ss_setI (snd_2 (snd_2 (snd_2 (snd_2 (snd_var 0) (snd_int _) op2_ix) (snd_int _) q_mul) (snd_int _) q_add) (snd_int _) q_mod) (snd_int _))
      (ss_ret (snd_2 (snd_2 (snd_2 (snd_2 (snd_2 (snd_var 0) (snd_int _) op2_ix) (snd_int _) q_pow) (snd_int _) q_mod) (snd_int _) q_div) (snd_var 1) q_mod))))⟩
theorem ok__law_low (T : Txt K mg) : FnOk P w K mg base CX0 1 T.a__law_low T.d__law_low P__law_low (spD K [false, false] ev__law_low) :=
  ok_def (N := N__law_low) (k := 0) (b := b__law_low) T.F__law_low sc__law_low rfl fun cdv A outer s H E hr => ⟨_,
    (pss_cons (ps_par (by rfl) sc__law_low.nd (i := 2) (j := 3) rfl rfl (by decide) rfl rfl (pa_cons (pe_callB call_abs (by rfl) T.m_abs bt_abs (pa_cons (pv 0) pa_nil)) (pa_cons (pe_callB call_abs (by rfl) T.m_abs bt_abs (pa_cons (pv 1) pa_nil)) pa_nil)) (by rfl))
      (pss_cons (ps_while PassesOwn.never (pt_cmpR op_gt (pv 3) pe_int (nomark _)) (pss_one (ps_par (by rfl) sc__law_low.nd (i := 2) (j := 3) rfl rfl (by decide) rfl rfl (pa_cons (pv 3) (pa_cons (pe_op o_mod (pv 2) (pv 3)) pa_nil)) (by rfl))))
      (pss_cons (ps_if (pt_cmpR op_lt (pv 1) pe_int (nomark _)) (pss_one (ps_set (i := 2) sc__law_low.nd rfl (.inl rfl) (pe_un un_neg (pv 2)))) pss_nil)
      (pss_one (ps_ret (pe_tup (pa_cons (pe_op o_div (pv 0) (pv 2)) (pa_cons (pe_op o_div (pv 1) (pv 2)) pa_nil)))))))),
    (ss_seq (ss_par (sa_cons (snd_b (sa_cons (snd_var 0) sa_nil) cg_abs) (sa_cons (snd_b (sa_cons (snd_var 1) sa_nil) cg_abs) sa_nil)))
      (ss_seq (ss_while (st_test (snd_2 (snd_var 3) (snd_int _) q_gt)) (ss_par (sa_cons (snd_var 3) (sa_cons (snd_2 (snd_var 2) (snd_var 3) q_mod) sa_nil))))
      (ss_cut (ss_seq (ss_if (st_test (snd_2 (snd_var 1) (snd_int _) q_lt)) (ss_asg (snd_1 (snd_var 2) op1_neg) (sg_name 2)) ss_next)
      (ss_ret (snd_tup (sa_cons (snd_2 (snd_var 0) (snd_var 2) q_div) (sa_cons (snd_2 (snd_var 1) (snd_var 2) q_div) sa_nil))))))))⟩
theorem ok__law_prime (T : Txt K mg) : FnOk P w K mg base CX0 2 T.a__law_prime T.d__law_prime P__law_prime (spD K [true] ev__law_prime) :=
  ok_def (N := N__law_prime) (k := 1) (b := b__law_prime) T.F__law_prime sc__law_prime rfl fun cdv A outer s H E hr => ⟨_,
    (pss_one (ps_ret (pe_ix ix_seq (pe_lst (pa_cons pe_int (pa_cons pe_int (pa_cons pe_int (pa_cons pe_int (pa_cons pe_int (pa_cons pe_int (pa_cons pe_int (pa_cons pe_int pa_nil))))))))) (pe_call (ok__law_take T) (hr.mono (by decide)) (by rfl) T.g__law_take T.F__law_take.kp T.b__law_take .nil pass0 (pa_cons (pv 0) (pa_cons pe_int pa_nil))) (fun _ _ => rfl)))),
    (ss_ret (snd_2 (snd_lst (sa_cons (snd_int _) (sa_cons (snd_int _) (sa_cons (snd_int _) (sa_cons (snd_int _) (sa_cons (snd_int _) (sa_cons (snd_int _) (sa_cons (snd_int _) (sa_cons (snd_int _) sa_nil))))))))) (snd_call (sa_cons (snd_var 0) (sa_cons (snd_int _) sa_nil))) op2_ix))⟩
theorem ok__law_number (T : Txt K mg) : FnOk P w K mg base CX0 2 T.a__law_number T.d__law_number P__law_number (spD K [true, false] ev__law_number) :=
  ok_def (N := N__law_number) (k := 1) (b := b__law_number) T.F__law_number sc__law_number rfl fun cdv A outer s H E hr => ⟨_,
    (pss_cons (ps_set (i := 2) sc__law_number.nd rfl (.inl rfl) (pe_op o_mul (pe_op o_add pe_int (pe_call (ok__law_take T) (hr.mono (by decide)) (by rfl) T.g__law_take T.F__law_take.kp T.b__law_take .nil pass0 (pa_cons (pv 0) (pa_cons pe_int pa_nil)))) (pe_op o_sub pe_int (pe_op o_mul pe_int (pe_call (ok__law_take T) (hr.mono (by decide)) (by rfl) T.g__law_take T.F__law_take.kp T.b__law_take .nil pass0 (pa_cons (pv 0) (pa_cons pe_int pa_nil)))))))
      (pss_cons (ps_set (i := 3) sc__law_number.nd rfl (.inl rfl) (pe_op o_add pe_int (pe_call (ok__law_take T) (hr.mono (by decide)) (by rfl) T.g__law_take T.F__law_take.kp T.b__law_take .nil pass0 (pa_cons (pv 0) (pa_cons pe_int pa_nil)))))
      (pss_cons (ps_set (i := 4) sc__law_number.nd rfl (.inl rfl) (pe_ix ix_seq (pe_lst (pa_cons pe_int (pa_cons pe_int (pa_cons pe_int (pa_cons pe_int (pa_cons pe_int (pa_cons (pe_un un_neg pe_int) (pa_cons (pe_un un_neg pe_int) (pa_cons pe_int pa_nil))))))))) (pe_call (ok__law_take T) (hr.mono (by decide)) (by rfl) T.g__law_take T.F__law_take.kp T.b__law_take .nil pass0 (pa_cons (pv 0) (pa_cons pe_int pa_nil))) (fun _ _ => rfl)))
      (pss_cons (ps_for PassesOwn.never rfl (pi_range1 rfl T.m_range (pa_cons (pe_callB call_abs (by rfl) T.m_abs bt_abs (pa_cons (pv 4) pa_nil)) pa_nil)) (pg_name (i := 5) sc__law_number.nd rfl (.inl rfl)) (pss_cons (ps_set (i := 2) sc__law_number.nd rfl (.inl rfl) (pe_op o_mul (pv 2) (pe_ix ix_seq (pe_lst (pa_cons pe_int (pa_cons (pv 1) pa_nil))) (pe_callTy call_int1 (by rfl) T.m_int bt_int (pa_cons (pe_cmpR op_gt (pv 4) pe_int (nomark _)) pa_nil)) (fun _ _ => rfl))))
      (pss_one (ps_set (i := 3) sc__law_number.nd rfl (.inl rfl) (pe_op o_mul (pv 3) (pe_ix ix_seq (pe_lst (pa_cons pe_int (pa_cons (pv 1) pa_nil))) (pe_callTy call_int1 (by rfl) T.m_int bt_int (pa_cons (pe_cmpR op_lt (pv 4) pe_int (nomark _)) pa_nil)) (fun _ _ => rfl)))))))
      (pss_one (ps_ret (pe_call (ok__law_low T) (hr.mono (by decide)) (by rfl) T.g__law_low T.F__law_low.kp T.b__law_low .nil pass0 (pa_cons (pv 2) (pa_cons (pv 3) pa_nil))))))))),
    (ss_seq (ss_asg (snd_2 (snd_2 (snd_int _) (snd_call (sa_cons (snd_var 0) (sa_cons (snd_int _) sa_nil))) q_add) (snd_2 (snd_int _) (snd_2 (snd_int _) (snd_call (sa_cons (snd_var 0) (sa_cons (snd_int _) sa_nil))) q_mul) q_sub) q_mul) (sg_name 2))
      (ss_seq (ss_asg (snd_2 (snd_int _) (snd_call (sa_cons (snd_var 0) (sa_cons (snd_int _) sa_nil))) q_add) (sg_name 3))
      (ss_seq (ss_asg (snd_2 (snd_lst (sa_cons (snd_int _) (sa_cons (snd_int _) (sa_cons (snd_int _) (sa_cons (snd_int _) (sa_cons (snd_int _) (sa_cons (snd_1 (snd_int _) op1_neg) (sa_cons (snd_1 (snd_int _) op1_neg) (sa_cons (snd_int _) sa_nil))))))))) (snd_call (sa_cons (snd_var 0) (sa_cons (snd_int _) sa_nil))) op2_ix) (sg_name 4))
      (ss_seq (ss_for (si_range1 (sa_cons (snd_b (sa_cons (snd_var 4) sa_nil) cg_abs) sa_nil)) (sg_name 5) (ss_seq (ss_asg (snd_2 (snd_var 2) (snd_2 (snd_lst (sa_cons (snd_int _) (sa_cons (snd_var 1) sa_nil))) (snd_b (sa_cons (snd_2 (snd_var 4) (snd_int _) q_gt) sa_nil) cg_int) op2_ix) q_mul) (sg_name 2))
      (ss_asg (snd_2 (snd_var 3) (snd_2 (snd_lst (sa_cons (snd_int _) (sa_cons (snd_var 1) sa_nil))) (snd_b (sa_cons (snd_2 (snd_var 4) (snd_int _) q_lt) sa_nil) cg_int) op2_ix) q_mul) (sg_name 3))))
      (ss_ret (snd_call (sa_cons (snd_var 2) (sa_cons (snd_var 3) sa_nil))))))))⟩
theorem ok__law_height (T : Txt K mg) : FnOk P w K mg base CX0 1 T.a__law_height T.d__law_height P__law_height (spD K [false, false] ev__law_height) :=
  ok_def (N := N__law_height) (k := 0) (b := b__law_height) T.F__law_height sc__law_height rfl fun cdv A outer s H E hr => ⟨_,
    (pss_cons (ps_asg (pv 0) (pg_tup rfl (pgs_cons (pg_name (i := 2) sc__law_height.nd rfl (.inl rfl)) (pgs_cons (pg_name (i := 3) sc__law_height.nd rfl (.inl rfl)) pgs_nil))))
      (pss_cons (ps_set (i := 4) sc__law_height.nd rfl (.inl rfl) pe_int)
      (pss_cons (ps_while PassesOwn.never (pt_cmpR (op_eqD hr.units) (pe_op o_mod (pv 2) (pv 1)) pe_int (nomark _)) (pss_cons (ps_set (i := 2) sc__law_height.nd rfl (.inl rfl) (pe_op o_div (pv 2) (pv 1)))
      (pss_one (ps_set (i := 4) sc__law_height.nd rfl (.inl rfl) (pe_op o_add (pv 4) pe_int)))))
      (pss_cons (ps_while PassesOwn.never (pt_cmpR (op_eqD hr.units) (pe_op o_mod (pv 3) (pv 1)) pe_int (nomark _)) (pss_cons (ps_set (i := 3) sc__law_height.nd rfl (.inl rfl) (pe_op o_div (pv 3) (pv 1)))
      (pss_one (ps_set (i := 4) sc__law_height.nd rfl (.inl rfl) (pe_op o_sub (pv 4) pe_int)))))
      (pss_one (ps_ret (pv 4))))))),
    (ss_seq (ss_asg (snd_var 0) (sg_tup (sgs_cons (sg_name 2) (sgs_cons (sg_name 3) sgs_nil))))
      (ss_seq (ss_asg (snd_int _) (sg_name 4))
      (ss_seq (ss_while (st_test (snd_2 (snd_2 (snd_var 2) (snd_var 1) q_mod) (snd_int _) op2_eq)) (ss_seq (ss_asg (snd_2 (snd_var 2) (snd_var 1) q_div) (sg_name 2))
      (ss_asg (snd_2 (snd_var 4) (snd_int _) q_add) (sg_name 4))))
      (ss_seq (ss_while (st_test (snd_2 (snd_2 (snd_var 3) (snd_var 1) q_mod) (snd_int _) op2_eq)) (ss_seq (ss_asg (snd_2 (snd_var 3) (snd_var 1) q_div) (sg_name 3))
      (ss_asg (snd_2 (snd_var 4) (snd_int _) q_sub) (sg_name 4))))
      (ss_ret (snd_var 4))))))⟩
theorem ok__law_roots (T : Txt K mg) : FnOk P w K mg base CX0 6 T.a__law_roots T.d__law_roots P__law_roots (spD K [true, false, false] ev__law_roots) :=
  ok_def (N := N__law_roots) (k := 5) (b := b__law_roots) T.F__law_roots sc__law_roots rfl fun cdv A outer s H E hr => ⟨_,
    (pss_cons (ps_set (i := 3) sc__law_roots.nd rfl (.inl rfl) (pe_lst (pa_cons (pe_tup (pa_cons pe_int (pa_cons pe_int (pa_cons (pe_call (ok__law_number T) (hr.mono (by decide)) (by rfl) T.g__law_number T.F__law_number.kp T.b__law_number .nil pass0 (pa_cons (pv 0) (pa_cons (pv 1) pa_nil))) pa_nil)))) pa_nil)))
      (pss_cons (ps_set (i := 4) sc__law_roots.nd rfl (.inl rfl) (pe_lst pa_nil))
      (pss_cons (ps_for PassesOwn.never rfl (pi_range1 rfl T.m_range (pa_cons (pe_op o_add pe_int (pe_call (ok__law_take T) (hr.mono (by decide)) (by rfl) T.g__law_take T.F__law_take.kp T.b__law_take .nil pass0 (pa_cons (pv 0) (pa_cons pe_int pa_nil)))) pa_nil)) (pg_name (i := 5) sc__law_roots.nd rfl (.inl rfl)) (pss_cons (ps_set (i := 6) sc__law_roots.nd rfl (.inl rfl) (pe_call (ok__law_number T) (hr.mono (by decide)) (by rfl) T.g__law_number T.F__law_number.kp T.b__law_number .nil pass0 (pa_cons (pv 0) (pa_cons (pv 1) pa_nil))))
      (pss_cons (ps_expr (pe_bm PySem.F.plainAttrs_list PySem.F.slot_list_append PySem.F.type_list_append mt_append (pv 4) (pa_cons (pe_call (ok__law_height T) (hr.mono (by decide)) (by rfl) T.g__law_height T.F__law_height.kp T.b__law_height .nil pass0 (pa_cons (pv 6) (pa_cons (pv 1) pa_nil))) pa_nil)))
      (pss_one (ps_set (i := 3) sc__law_roots.nd rfl (.inl rfl) (pe_call (ok_times T) (hr.mono (by decide)) (by rfl) T.g_times T.F_times.kp T.b_times .nil pass0 (pa_cons (pv 3) (pa_cons (pe_callB (cr_sortD hr.units) (by rfl) T.m_sorted bt_sorted (pa_cons (pe_lst (pa_cons (pe_tup (pa_cons pe_int (pa_cons pe_int (pa_cons (pe_tup (pa_cons (pe_op o_sub pe_int (pe_ix ix_seq (pv 6) pe_int (fun _ _ => rfl))) (pa_cons (pe_ix ix_seq (pv 6) pe_int (fun _ _ => rfl)) pa_nil))) pa_nil)))) (pa_cons (pe_tup (pa_cons (pe_ix ix_seq (pv 2) pe_int (fun _ _ => rfl)) (pa_cons (pe_ix ix_seq (pv 2) pe_int (fun _ _ => rfl)) (pa_cons (pe_tup (pa_cons pe_int (pa_cons pe_int pa_nil))) pa_nil)))) pa_nil))) pa_nil)) pa_nil))))))))
      (pss_one (ps_ret (pe_tup (pa_cons (pv 3) (pa_cons (pv 4) pa_nil)))))))),
    (ss_seq (ss_asg (snd_lst (sa_cons (snd_tup (sa_cons (snd_int _) (sa_cons (snd_int _) (sa_cons (snd_call (sa_cons (snd_var 0) (sa_cons (snd_var 1) sa_nil))) sa_nil)))) sa_nil)) (sg_name 3))
      (ss_seq (ss_own (snd_lst sa_nil))
      (ss_seq (ss_for (si_range1 (sa_cons (snd_2 (snd_int _) (snd_call (sa_cons (snd_var 0) (sa_cons (snd_int _) sa_nil))) q_add) sa_nil)) (sg_name 5) (ss_seq (ss_asg (snd_call (sa_cons (snd_var 0) (sa_cons (snd_var 1) sa_nil))) (sg_name 6))
      (ss_seq (ss_drop (snd_append (snd_call (sa_cons (snd_var 6) (sa_cons (snd_var 1) sa_nil)))))
      (ss_asg (snd_call (sa_cons (snd_var 3) (sa_cons (snd_b (sa_cons (snd_lst (sa_cons (snd_tup (sa_cons (snd_int _) (sa_cons (snd_int _) (sa_cons (snd_tup (sa_cons (snd_2 (snd_int _) (snd_2 (snd_var 6) (snd_int _) op2_ix) q_sub) (sa_cons (snd_2 (snd_var 6) (snd_int _) op2_ix) sa_nil))) sa_nil)))) (sa_cons (snd_tup (sa_cons (snd_2 (snd_var 2) (snd_int _) op2_ix) (sa_cons (snd_2 (snd_var 2) (snd_int _) op2_ix) (sa_cons (snd_tup (sa_cons (snd_int _) (sa_cons (snd_int _) sa_nil))) sa_nil)))) sa_nil))) sa_nil) cg_sortD) sa_nil))) (sg_name 3)))))
      (ss_frz (i := 4) (ss_ret (snd_tup (sa_cons (snd_var 3) (sa_cons (snd_var 4) sa_nil))))))))⟩
theorem ok__law_crossed (T : Txt K mg) : FnOk P w K mg base CX0 9 T.a__law_crossed T.d__law_crossed P__law_crossed (spD K [false, false, false] ev__law_crossed) :=
  ok_def (N := N__law_crossed) (k := 8) (b := b__law_crossed) T.F__law_crossed sc__law_crossed rfl fun cdv A outer s H E hr => ⟨_,
    (pss_one (ps_try_thru0 (pss_one (ps_ret (pe_call (ok_meets T) (hr.mono (by decide)) (by rfl) T.g_meets T.F_meets.kp T.b_meets .nil pass0 (pa_cons (pv 0) (pa_cons (pv 1) (pa_cons (pv 2) pa_nil)))))))),
    (ss_ret (snd_call (sa_cons (snd_var 0) (sa_cons (snd_var 1) (sa_cons (snd_var 2) sa_nil)))))⟩
theorem ok_law (T : Txt K mg) : FnOk P w K mg base CX0 10 T.a_law T.d_law P_law (spD K [false] ev_law) :=
  ok_def (N := N_law) (k := 9) (b := b_law) T.F_law sc_law rfl fun cdv A outer s H E hr => ⟨_,
    (pss_cons (ps_for PassesOwn.never rfl (pi_range1 rfl T.m_range (pa_cons (pe_callB (call_max2 rfl) (by rfl) T.m_max bt_max (pa_cons pe_int (pa_cons (pe_callB (call_min2 rfl) (by rfl) T.m_min bt_min (pa_cons (pe_callB call_len_seq (by rfl) T.m_len bt_len (pa_cons (pv 0) pa_nil)) (pa_cons pe_int pa_nil))) pa_nil))) pa_nil)) (pg_name (i := 1) sc_law.nd rfl (.inl rfl)) (pss_cons (ps_set (i := 2) sc_law.nd rfl (.inl rfl) (pe_call (ok__law_pool T) (hr.mono (by decide)) (by rfl) T.g__law_pool T.F__law_pool.kp T.b__law_pool .nil pass0 (pa_cons (pv 0) (pa_cons (pv 1) pa_nil))))
      (pss_cons (ps_set (i := 3) sc_law.nd rfl (.inl rfl) (pe_op o_sub (pe_call (ok__law_take T) (hr.mono (by decide)) (by rfl) T.g__law_take T.F__law_take.kp T.b__law_take .nil pass0 (pa_cons (pv 2) (pa_cons pe_int pa_nil))) pe_int))
      (pss_cons (ps_set (i := 4) sc_law.nd rfl (.inl rfl) (pe_call (ok__law_prime T) (hr.mono (by decide)) (by rfl) T.g__law_prime T.F__law_prime.kp T.b__law_prime .nil pass0 (pa_cons (pv 2) pa_nil)))
      (pss_cons (ps_asg (pe_call (ok__law_roots T) (hr.mono (by decide)) (by rfl) T.g__law_roots T.F__law_roots.kp T.b__law_roots .nil pass0 (pa_cons (pv 2) (pa_cons (pv 4) (pa_cons (pe_tup (pa_cons pe_int (pa_cons (pv 3) pa_nil))) pa_nil)))) (pg_tup rfl (pgs_cons (pg_name (i := 5) sc_law.nd rfl (.inl rfl)) (pgs_cons (pg_name (i := 6) sc_law.nd rfl (.inl rfl)) pgs_nil))))
      (pss_cons (ps_asg (pe_call (ok__law_roots T) (hr.mono (by decide)) (by rfl) T.g__law_roots T.F__law_roots.kp T.b__law_roots .nil pass0 (pa_cons (pv 2) (pa_cons (pv 4) (pa_cons (pe_tup (pa_cons pe_int (pa_cons pe_int pa_nil))) pa_nil)))) (pg_tup rfl (pgs_cons (pg_name (i := 7) sc_law.nd rfl (.inl rfl)) (pgs_cons (pg_name (i := 8) sc_law.nd rfl (.inl rfl)) pgs_nil))))
      (pss_cons (ps_set (i := 9) sc_law.nd rfl (.inr rfl) pe_nnew)
      (pss_cons (ps_for PassesOwn.never rfl (pi_list (pv 6)) (pg_name (i := 10) sc_law.nd rfl (.inl rfl)) (pss_one (ps_for PassesOwn.never rfl (pi_list (pv 8)) (pg_name (i := 11) sc_law.nd rfl (.inl rfl)) (pss_cons (ps_set (i := 12) sc_law.nd rfl (.inl rfl) (pe_tup (pa_cons (pe_tup (pa_cons (pe_op o_sub (pv 10) (pe_op o_mul (pv 3) (pv 11))) (pa_cons pe_int pa_nil))) (pa_cons (pe_tup (pa_cons (pv 11) (pa_cons pe_int pa_nil))) pa_nil))))
      (pss_one (ps_asg (pe_op o_add (pe_nget2 hr.units (pv 9) (pv 12) pe_int ⟨rfl, rfl, rfl, rfl⟩) pe_int) (pg_sub (pv 9) (pv 12) (set_dictN hr.units))))))))
      (pss_cons (ps_set (i := 13) sc_law.nd rfl (.inl rfl) (pe_call (ok__law_crossed T) (hr.mono (by decide)) (by rfl) T.g__law_crossed T.F__law_crossed.kp T.b__law_crossed .nil pass0 (pa_cons (pv 5) (pa_cons (pv 7) (pa_cons (pv 4) pa_nil)))))
      (pss_one (ps_if (PW.pt (pw_or (pt_cmpR o_is (pv 13) pe_non (nomark _)) (pw_or1 (pt_cmpR (op_neD hr.units) (pe_callB (cr_sortD hr.units) (by rfl) T.m_sorted bt_sorted (pa_cons (pe_lock (pe_lc (own := [("_law_u", 10), ("_law_v", 11)]) rfl sc_law.nd (pi_keysN (pv 9)) (blkOk_by (own := [("_law_u", 10), ("_law_v", 11)]) (N := N_law) (sc := defScope st_law) (by decide +kernel)) (fun _ _ _ _ _ => (pg_tup rfl (pgs_cons (pg_name (i := 10) sc_law.nd rfl (.inl rfl)) (pgs_cons (pg_name (i := 11) sc_law.nd rfl (.inl rfl)) pgs_nil)))) (fun _ _ _ _ _ => pts_nil) (fun _ _ _ _ _ => (pe_tup (pa_cons (pv 10) (pa_cons (pv 11) (pa_cons (pe_nget hr.units (pv 9) (pe_tup (pa_cons (pv 10) (pa_cons (pv 11) pa_nil))) (fun _ _ => rfl)) pa_nil))))))) pa_nil)) (pv 13) (nomark _))))) (pss_one (ps_ret pe_bl)) pss_nil)))))))))))
      (pss_one (ps_ret pe_bl))),
    (ss_seq (ss_for (si_range1 (sa_cons (snd_b (sa_cons (snd_int _) (sa_cons (snd_b (sa_cons (snd_b (sa_cons (snd_var 0) sa_nil) cg_len) (sa_cons (snd_int _) sa_nil)) cg_min2) sa_nil)) cg_max2) sa_nil)) (sg_name 1) (ss_seq (ss_own (snd_call (sa_cons (snd_var 0) (sa_cons (snd_var 1) sa_nil))))
      (ss_seq (ss_asg (snd_2 (snd_call (sa_cons (snd_var 2) (sa_cons (snd_int _) sa_nil))) (snd_int _) q_sub) (sg_name 3))
      (ss_seq (ss_asg (snd_call (sa_cons (snd_var 2) sa_nil)) (sg_name 4))
      (ss_seq (ss_asg (snd_call (sa_cons (snd_var 2) (sa_cons (snd_var 4) (sa_cons (snd_tup (sa_cons (snd_int _) (sa_cons (snd_var 3) sa_nil))) sa_nil)))) (sg_tup (sgs_cons (sg_name 5) (sgs_cons (sg_name 6) sgs_nil))))
      (ss_seq (ss_asg (snd_call (sa_cons (snd_var 2) (sa_cons (snd_var 4) (sa_cons (snd_tup (sa_cons (snd_int _) (sa_cons (snd_int _) sa_nil))) sa_nil)))) (sg_tup (sgs_cons (sg_name 7) (sgs_cons (sg_name 8) sgs_nil))))
      (ss_seq ss_dnewN
      (ss_seq (ss_for (si_list (snd_var 6)) (sg_name 10) (ss_for (si_list (snd_var 8)) (sg_name 11) (ss_seq (ss_asg (snd_tup (sa_cons (snd_tup (sa_cons (snd_2 (snd_var 10) (snd_2 (snd_var 3) (snd_var 11) q_mul) q_sub) (sa_cons (snd_int _) sa_nil))) (sa_cons (snd_tup (sa_cons (snd_var 11) (sa_cons (snd_int _) sa_nil))) sa_nil))) (sg_name 12))
      (ss_dputN (snd_2 (snd_dget2N (snd_var 12) (snd_int _)) (snd_int _) q_add) (snd_var 12)))))
      (ss_seq (ss_asg (snd_call (sa_cons (snd_var 5) (sa_cons (snd_var 7) (sa_cons (snd_var 4) sa_nil)))) (sg_name 13))
      (ss_if (st_or (st_test (snd_2 (snd_var 13) snd_non q_is)) (st_test (snd_2 (snd_b (sa_cons (snd_lcN (i := 9) (vs := [10, 11]) (fk := fItem 10 11) (by decide) (sw_tup (sws_cons (sw_name 10 (by decide)) (sws_cons (sw_name 11 (by decide)) sws_nil))) st_yes (fun _ _ _ _ => sb_item)) sa_nil) cg_sortD) (snd_var 13) op2_ne))) (ss_ret (snd_bl _)) ss_next))))))))))
      (ss_ret (snd_bl _)))⟩
end
def mk {K : PySem.W.Frag} {h : Heap} {mg : Str → Option Value} (X : K.In h) (G : h.Ns mainGlobals mg)
    {q_NOUGHT : Addr} {od_NOUGHT : Option Addr} {n_NOUGHT : Nat} {sl_NOUGHT : Array (Option Value)} {t_NOUGHT u_NOUGHT : Tok}
    {f_cross : Addr} {od_cross an_cross : Option Addr} {sl_cross : Array (Option Value)} {oc_cross kV_cross dc_cross pm_cross cd_cross ct_cross : Value}
    {f_half_round : Addr} {od_half_round an_half_round : Option Addr} {sl_half_round : Array (Option Value)} {oc_half_round kV_half_round dc_half_round pm_half_round cd_half_round ct_half_round : Value}
    {f_hull : Addr} {od_hull an_hull : Option Addr} {sl_hull : Array (Option Value)} {oc_hull kV_hull dc_hull pm_hull cd_hull ct_hull : Value}
    {f_doubled : Addr} {od_doubled an_doubled : Option Addr} {sl_doubled : Array (Option Value)} {oc_doubled kV_doubled dc_doubled pm_doubled cd_doubled ct_doubled : Value}
    {f_put_together : Addr} {od_put_together an_put_together : Option Addr} {sl_put_together : Array (Option Value)} {oc_put_together kV_put_together dc_put_together pm_put_together cd_put_together ct_put_together : Value}
    {f_mixed_area : Addr} {od_mixed_area an_mixed_area : Option Addr} {sl_mixed_area : Array (Option Value)} {oc_mixed_area kV_mixed_area dc_mixed_area pm_mixed_area cd_mixed_area ct_mixed_area : Value}
    {f_divisor : Addr} {od_divisor an_divisor : Option Addr} {sl_divisor : Array (Option Value)} {oc_divisor kV_divisor dc_divisor pm_divisor cd_divisor ct_divisor : Value}
    {f_ratio : Addr} {od_ratio an_ratio : Option Addr} {sl_ratio : Array (Option Value)} {oc_ratio kV_ratio dc_ratio pm_ratio cd_ratio ct_ratio : Value}
    {f_added : Addr} {od_added an_added : Option Addr} {sl_added : Array (Option Value)} {oc_added kV_added dc_added pm_added cd_added ct_added : Value}
    {f_multiplied : Addr} {od_multiplied an_multiplied : Option Addr} {sl_multiplied : Array (Option Value)} {oc_multiplied kV_multiplied dc_multiplied pm_multiplied cd_multiplied ct_multiplied : Value}
    {f_how_often : Addr} {od_how_often an_how_often : Option Addr} {sl_how_often : Array (Option Value)} {oc_how_often kV_how_often dc_how_often pm_how_often cd_how_often ct_how_often : Value}
    {f_height : Addr} {od_height an_height : Option Addr} {sl_height : Array (Option Value)} {oc_height kV_height dc_height pm_height cd_height ct_height : Value}
    {f_heights_of : Addr} {od_heights_of an_heights_of : Option Addr} {sl_heights_of : Array (Option Value)} {oc_heights_of kV_heights_of dc_heights_of pm_heights_of cd_heights_of ct_heights_of : Value}
    {f_worth_there : Addr} {od_worth_there an_worth_there : Option Addr} {sl_worth_there : Array (Option Value)} {oc_worth_there kV_worth_there dc_worth_there pm_worth_there cd_worth_there ct_worth_there : Value}
    {f_is_below : Addr} {od_is_below an_is_below : Option Addr} {sl_is_below : Array (Option Value)} {oc_is_below kV_is_below dc_is_below pm_is_below cd_is_below ct_is_below : Value}
    {f_least_terms : Addr} {od_least_terms an_least_terms : Option Addr} {sl_least_terms : Array (Option Value)} {oc_least_terms kV_least_terms dc_least_terms pm_least_terms cd_least_terms ct_least_terms : Value}
    {f_place_of : Addr} {od_place_of an_place_of : Option Addr} {sl_place_of : Array (Option Value)} {oc_place_of kV_place_of dc_place_of pm_place_of cd_place_of ct_place_of : Value}
    {f_pairs_of : Addr} {od_pairs_of an_pairs_of : Option Addr} {sl_pairs_of : Array (Option Value)} {oc_pairs_of kV_pairs_of dc_pairs_of pm_pairs_of cd_pairs_of ct_pairs_of : Value}
    {f_foot_of : Addr} {od_foot_of an_foot_of : Option Addr} {sl_foot_of : Array (Option Value)} {oc_foot_of kV_foot_of dc_foot_of pm_foot_of cd_foot_of ct_foot_of : Value}
    {f_places_of : Addr} {od_places_of an_places_of : Option Addr} {sl_places_of : Array (Option Value)} {oc_places_of kV_places_of dc_places_of pm_places_of cd_places_of ct_places_of : Value}
    {f_crossing_at : Addr} {od_crossing_at an_crossing_at : Option Addr} {sl_crossing_at : Array (Option Value)} {oc_crossing_at kV_crossing_at dc_crossing_at pm_crossing_at cd_crossing_at ct_crossing_at : Value}
    {f_all_crossings : Addr} {od_all_crossings an_all_crossings : Option Addr} {sl_all_crossings : Array (Option Value)} {oc_all_crossings kV_all_crossings dc_all_crossings pm_all_crossings cd_all_crossings ct_all_crossings : Value}
    {f_meets : Addr} {od_meets an_meets : Option Addr} {sl_meets : Array (Option Value)} {oc_meets kV_meets dc_meets pm_meets cd_meets ct_meets : Value}
    {f_gathered : Addr} {od_gathered an_gathered : Option Addr} {sl_gathered : Array (Option Value)} {oc_gathered kV_gathered dc_gathered pm_gathered cd_gathered ct_gathered : Value}
    {f_times : Addr} {od_times an_times : Option Addr} {sl_times : Array (Option Value)} {oc_times kV_times dc_times pm_times cd_times ct_times : Value}
    {f__law_pool : Addr} {od__law_pool an__law_pool : Option Addr} {sl__law_pool : Array (Option Value)} {oc__law_pool kV__law_pool dc__law_pool pm__law_pool cd__law_pool ct__law_pool : Value}
    {f__law_take : Addr} {od__law_take an__law_take : Option Addr} {sl__law_take : Array (Option Value)} {oc__law_take kV__law_take dc__law_take pm__law_take cd__law_take ct__law_take : Value}
    {f__law_low : Addr} {od__law_low an__law_low : Option Addr} {sl__law_low : Array (Option Value)} {oc__law_low kV__law_low dc__law_low pm__law_low cd__law_low ct__law_low : Value}
    {f__law_prime : Addr} {od__law_prime an__law_prime : Option Addr} {sl__law_prime : Array (Option Value)} {oc__law_prime kV__law_prime dc__law_prime pm__law_prime cd__law_prime ct__law_prime : Value}
    {f__law_number : Addr} {od__law_number an__law_number : Option Addr} {sl__law_number : Array (Option Value)} {oc__law_number kV__law_number dc__law_number pm__law_number cd__law_number ct__law_number : Value}
    {f__law_height : Addr} {od__law_height an__law_height : Option Addr} {sl__law_height : Array (Option Value)} {oc__law_height kV__law_height dc__law_height pm__law_height cd__law_height ct__law_height : Value}
    {f__law_roots : Addr} {od__law_roots an__law_roots : Option Addr} {sl__law_roots : Array (Option Value)} {oc__law_roots kV__law_roots dc__law_roots pm__law_roots cd__law_roots ct__law_roots : Value}
    {f__law_crossed : Addr} {od__law_crossed an__law_crossed : Option Addr} {sl__law_crossed : Array (Option Value)} {oc__law_crossed kV__law_crossed dc__law_crossed pm__law_crossed cd__law_crossed ct__law_crossed : Value}
    {f_law : Addr} {od_law an_law : Option Addr} {sl_law : Array (Option Value)} {oc_law kV_law dc_law pm_law cd_law ct_law : Value}
    (z_abs : PySem.W.nsIn K mainGlobals "abs" = some none)
    (z_enumerate : PySem.W.nsIn K mainGlobals "enumerate" = some none)
    (z_int : PySem.W.nsIn K mainGlobals "int" = some none)
    (z_len : PySem.W.nsIn K mainGlobals "len" = some none)
    (z_max : PySem.W.nsIn K mainGlobals "max" = some none)
    (z_min : PySem.W.nsIn K mainGlobals "min" = some none)
    (z_range : PySem.W.nsIn K mainGlobals "range" = some none)
    (z_set : PySem.W.nsIn K mainGlobals "set" = some none)
    (z_sorted : PySem.W.nsIn K mainGlobals "sorted" = some none)
    (z_sum : PySem.W.nsIn K mainGlobals "sum" = some none)
    (z_zip : PySem.W.nsIn K mainGlobals "zip" = some none)
    (c1_NOUGHT : PySem.W.nsIn K mainGlobals "NOUGHT" = some (some (.ref q_NOUGHT)))
    (c2_NOUGHT : K.lookup q_NOUGHT = some ⟨.type "tuple", od_NOUGHT, .seq #[.int 0 t_NOUGHT, .int 1 u_NOUGHT] n_NOUGHT, sl_NOUGHT⟩)
    (a_cross : PySem.W.nsIn K mainGlobals "cross" = some (some (.ref f_cross)))
    (l_cross : K.lookup f_cross = some ⟨oc_cross, od_cross, .func (PySem.W.fnOf "cross" "cross" (defArgs st_cross) (defBody st_cross) (defScope st_cross) .none kV_cross dc_cross pm_cross an_cross cd_cross ct_cross), sl_cross⟩)
    (c_cross : PySem.W.codeIn K cd_cross "cross" = true)
    (k_cross : PySem.W.keepIn K (.ref f_cross) = true)
    (a_half_round : PySem.W.nsIn K mainGlobals "half_round" = some (some (.ref f_half_round)))
    (l_half_round : K.lookup f_half_round = some ⟨oc_half_round, od_half_round, .func (PySem.W.fnOf "half_round" "half_round" (defArgs st_half_round) (defBody st_half_round) (defScope st_half_round) .none kV_half_round dc_half_round pm_half_round an_half_round cd_half_round ct_half_round), sl_half_round⟩)
    (c_half_round : PySem.W.codeIn K cd_half_round "half_round" = true)
    (k_half_round : PySem.W.keepIn K (.ref f_half_round) = true)
    (a_hull : PySem.W.nsIn K mainGlobals "hull" = some (some (.ref f_hull)))
    (l_hull : K.lookup f_hull = some ⟨oc_hull, od_hull, .func (PySem.W.fnOf "hull" "hull" (defArgs st_hull) (defBody st_hull) (defScope st_hull) .none kV_hull dc_hull pm_hull an_hull cd_hull ct_hull), sl_hull⟩)
    (c_hull : PySem.W.codeIn K cd_hull "hull" = true)
    (k_hull : PySem.W.keepIn K (.ref f_hull) = true)
    (a_doubled : PySem.W.nsIn K mainGlobals "doubled" = some (some (.ref f_doubled)))
    (l_doubled : K.lookup f_doubled = some ⟨oc_doubled, od_doubled, .func (PySem.W.fnOf "doubled" "doubled" (defArgs st_doubled) (defBody st_doubled) (defScope st_doubled) .none kV_doubled dc_doubled pm_doubled an_doubled cd_doubled ct_doubled), sl_doubled⟩)
    (c_doubled : PySem.W.codeIn K cd_doubled "doubled" = true)
    (k_doubled : PySem.W.keepIn K (.ref f_doubled) = true)
    (a_put_together : PySem.W.nsIn K mainGlobals "put_together" = some (some (.ref f_put_together)))
    (l_put_together : K.lookup f_put_together = some ⟨oc_put_together, od_put_together, .func (PySem.W.fnOf "put_together" "put_together" (defArgs st_put_together) (defBody st_put_together) (defScope st_put_together) .none kV_put_together dc_put_together pm_put_together an_put_together cd_put_together ct_put_together), sl_put_together⟩)
    (c_put_together : PySem.W.codeIn K cd_put_together "put_together" = true)
    (k_put_together : PySem.W.keepIn K (.ref f_put_together) = true)
    (a_mixed_area : PySem.W.nsIn K mainGlobals "mixed_area" = some (some (.ref f_mixed_area)))
    (l_mixed_area : K.lookup f_mixed_area = some ⟨oc_mixed_area, od_mixed_area, .func (PySem.W.fnOf "mixed_area" "mixed_area" (defArgs st_mixed_area) (defBody st_mixed_area) (defScope st_mixed_area) .none kV_mixed_area dc_mixed_area pm_mixed_area an_mixed_area cd_mixed_area ct_mixed_area), sl_mixed_area⟩)
    (c_mixed_area : PySem.W.codeIn K cd_mixed_area "mixed_area" = true)
    (k_mixed_area : PySem.W.keepIn K (.ref f_mixed_area) = true)
    (a_divisor : PySem.W.nsIn K mainGlobals "divisor" = some (some (.ref f_divisor)))
    (l_divisor : K.lookup f_divisor = some ⟨oc_divisor, od_divisor, .func (PySem.W.fnOf "divisor" "divisor" (defArgs st_divisor) (defBody st_divisor) (defScope st_divisor) .none kV_divisor dc_divisor pm_divisor an_divisor cd_divisor ct_divisor), sl_divisor⟩)
    (c_divisor : PySem.W.codeIn K cd_divisor "divisor" = true)
    (k_divisor : PySem.W.keepIn K (.ref f_divisor) = true)
    (a_ratio : PySem.W.nsIn K mainGlobals "ratio" = some (some (.ref f_ratio)))
    (l_ratio : K.lookup f_ratio = some ⟨oc_ratio, od_ratio, .func (PySem.W.fnOf "ratio" "ratio" (defArgs st_ratio) (defBody st_ratio) (defScope st_ratio) .none kV_ratio dc_ratio pm_ratio an_ratio cd_ratio ct_ratio), sl_ratio⟩)
    (c_ratio : PySem.W.codeIn K cd_ratio "ratio" = true)
    (k_ratio : PySem.W.keepIn K (.ref f_ratio) = true)
    (a_added : PySem.W.nsIn K mainGlobals "added" = some (some (.ref f_added)))
    (l_added : K.lookup f_added = some ⟨oc_added, od_added, .func (PySem.W.fnOf "added" "added" (defArgs st_added) (defBody st_added) (defScope st_added) .none kV_added dc_added pm_added an_added cd_added ct_added), sl_added⟩)
    (c_added : PySem.W.codeIn K cd_added "added" = true)
    (k_added : PySem.W.keepIn K (.ref f_added) = true)
    (a_multiplied : PySem.W.nsIn K mainGlobals "multiplied" = some (some (.ref f_multiplied)))
    (l_multiplied : K.lookup f_multiplied = some ⟨oc_multiplied, od_multiplied, .func (PySem.W.fnOf "multiplied" "multiplied" (defArgs st_multiplied) (defBody st_multiplied) (defScope st_multiplied) .none kV_multiplied dc_multiplied pm_multiplied an_multiplied cd_multiplied ct_multiplied), sl_multiplied⟩)
    (c_multiplied : PySem.W.codeIn K cd_multiplied "multiplied" = true)
    (k_multiplied : PySem.W.keepIn K (.ref f_multiplied) = true)
    (a_how_often : PySem.W.nsIn K mainGlobals "how_often" = some (some (.ref f_how_often)))
    (l_how_often : K.lookup f_how_often = some ⟨oc_how_often, od_how_often, .func (PySem.W.fnOf "how_often" "how_often" (defArgs st_how_often) (defBody st_how_often) (defScope st_how_often) .none kV_how_often dc_how_often pm_how_often an_how_often cd_how_often ct_how_often), sl_how_often⟩)
    (c_how_often : PySem.W.codeIn K cd_how_often "how_often" = true)
    (k_how_often : PySem.W.keepIn K (.ref f_how_often) = true)
    (a_height : PySem.W.nsIn K mainGlobals "height" = some (some (.ref f_height)))
    (l_height : K.lookup f_height = some ⟨oc_height, od_height, .func (PySem.W.fnOf "height" "height" (defArgs st_height) (defBody st_height) (defScope st_height) .none kV_height dc_height pm_height an_height cd_height ct_height), sl_height⟩)
    (c_height : PySem.W.codeIn K cd_height "height" = true)
    (k_height : PySem.W.keepIn K (.ref f_height) = true)
    (a_heights_of : PySem.W.nsIn K mainGlobals "heights_of" = some (some (.ref f_heights_of)))
    (l_heights_of : K.lookup f_heights_of = some ⟨oc_heights_of, od_heights_of, .func (PySem.W.fnOf "heights_of" "heights_of" (defArgs st_heights_of) (defBody st_heights_of) (defScope st_heights_of) .none kV_heights_of dc_heights_of pm_heights_of an_heights_of cd_heights_of ct_heights_of), sl_heights_of⟩)
    (c_heights_of : PySem.W.codeIn K cd_heights_of "heights_of" = true)
    (k_heights_of : PySem.W.keepIn K (.ref f_heights_of) = true)
    (a_worth_there : PySem.W.nsIn K mainGlobals "worth_there" = some (some (.ref f_worth_there)))
    (l_worth_there : K.lookup f_worth_there = some ⟨oc_worth_there, od_worth_there, .func (PySem.W.fnOf "worth_there" "worth_there" (defArgs st_worth_there) (defBody st_worth_there) (defScope st_worth_there) .none kV_worth_there dc_worth_there pm_worth_there an_worth_there cd_worth_there ct_worth_there), sl_worth_there⟩)
    (c_worth_there : PySem.W.codeIn K cd_worth_there "worth_there" = true)
    (k_worth_there : PySem.W.keepIn K (.ref f_worth_there) = true)
    (a_is_below : PySem.W.nsIn K mainGlobals "is_below" = some (some (.ref f_is_below)))
    (l_is_below : K.lookup f_is_below = some ⟨oc_is_below, od_is_below, .func (PySem.W.fnOf "is_below" "is_below" (defArgs st_is_below) (defBody st_is_below) (defScope st_is_below) .none kV_is_below dc_is_below pm_is_below an_is_below cd_is_below ct_is_below), sl_is_below⟩)
    (c_is_below : PySem.W.codeIn K cd_is_below "is_below" = true)
    (k_is_below : PySem.W.keepIn K (.ref f_is_below) = true)
    (a_least_terms : PySem.W.nsIn K mainGlobals "least_terms" = some (some (.ref f_least_terms)))
    (l_least_terms : K.lookup f_least_terms = some ⟨oc_least_terms, od_least_terms, .func (PySem.W.fnOf "least_terms" "least_terms" (defArgs st_least_terms) (defBody st_least_terms) (defScope st_least_terms) .none kV_least_terms dc_least_terms pm_least_terms an_least_terms cd_least_terms ct_least_terms), sl_least_terms⟩)
    (c_least_terms : PySem.W.codeIn K cd_least_terms "least_terms" = true)
    (k_least_terms : PySem.W.keepIn K (.ref f_least_terms) = true)
    (a_place_of : PySem.W.nsIn K mainGlobals "place_of" = some (some (.ref f_place_of)))
    (l_place_of : K.lookup f_place_of = some ⟨oc_place_of, od_place_of, .func (PySem.W.fnOf "place_of" "place_of" (defArgs st_place_of) (defBody st_place_of) (defScope st_place_of) .none kV_place_of dc_place_of pm_place_of an_place_of cd_place_of ct_place_of), sl_place_of⟩)
    (c_place_of : PySem.W.codeIn K cd_place_of "place_of" = true)
    (k_place_of : PySem.W.keepIn K (.ref f_place_of) = true)
    (a_pairs_of : PySem.W.nsIn K mainGlobals "pairs_of" = some (some (.ref f_pairs_of)))
    (l_pairs_of : K.lookup f_pairs_of = some ⟨oc_pairs_of, od_pairs_of, .func (PySem.W.fnOf "pairs_of" "pairs_of" (defArgs st_pairs_of) (defBody st_pairs_of) (defScope st_pairs_of) .none kV_pairs_of dc_pairs_of pm_pairs_of an_pairs_of cd_pairs_of ct_pairs_of), sl_pairs_of⟩)
    (c_pairs_of : PySem.W.codeIn K cd_pairs_of "pairs_of" = true)
    (k_pairs_of : PySem.W.keepIn K (.ref f_pairs_of) = true)
    (a_foot_of : PySem.W.nsIn K mainGlobals "foot_of" = some (some (.ref f_foot_of)))
    (l_foot_of : K.lookup f_foot_of = some ⟨oc_foot_of, od_foot_of, .func (PySem.W.fnOf "foot_of" "foot_of" (defArgs st_foot_of) (defBody st_foot_of) (defScope st_foot_of) .none kV_foot_of dc_foot_of pm_foot_of an_foot_of cd_foot_of ct_foot_of), sl_foot_of⟩)
    (c_foot_of : PySem.W.codeIn K cd_foot_of "foot_of" = true)
    (k_foot_of : PySem.W.keepIn K (.ref f_foot_of) = true)
    (a_places_of : PySem.W.nsIn K mainGlobals "places_of" = some (some (.ref f_places_of)))
    (l_places_of : K.lookup f_places_of = some ⟨oc_places_of, od_places_of, .func (PySem.W.fnOf "places_of" "places_of" (defArgs st_places_of) (defBody st_places_of) (defScope st_places_of) .none kV_places_of dc_places_of pm_places_of an_places_of cd_places_of ct_places_of), sl_places_of⟩)
    (c_places_of : PySem.W.codeIn K cd_places_of "places_of" = true)
    (k_places_of : PySem.W.keepIn K (.ref f_places_of) = true)
    (a_crossing_at : PySem.W.nsIn K mainGlobals "crossing_at" = some (some (.ref f_crossing_at)))
    (l_crossing_at : K.lookup f_crossing_at = some ⟨oc_crossing_at, od_crossing_at, .func (PySem.W.fnOf "crossing_at" "crossing_at" (defArgs st_crossing_at) (defBody st_crossing_at) (defScope st_crossing_at) .none kV_crossing_at dc_crossing_at pm_crossing_at an_crossing_at cd_crossing_at ct_crossing_at), sl_crossing_at⟩)
    (c_crossing_at : PySem.W.codeIn K cd_crossing_at "crossing_at" = true)
    (k_crossing_at : PySem.W.keepIn K (.ref f_crossing_at) = true)
    (a_all_crossings : PySem.W.nsIn K mainGlobals "all_crossings" = some (some (.ref f_all_crossings)))
    (l_all_crossings : K.lookup f_all_crossings = some ⟨oc_all_crossings, od_all_crossings, .func (PySem.W.fnOf "all_crossings" "all_crossings" (defArgs st_all_crossings) (defBody st_all_crossings) (defScope st_all_crossings) .none kV_all_crossings dc_all_crossings pm_all_crossings an_all_crossings cd_all_crossings ct_all_crossings), sl_all_crossings⟩)
    (c_all_crossings : PySem.W.codeIn K cd_all_crossings "all_crossings" = true)
    (k_all_crossings : PySem.W.keepIn K (.ref f_all_crossings) = true)
    (a_meets : PySem.W.nsIn K mainGlobals "meets" = some (some (.ref f_meets)))
    (l_meets : K.lookup f_meets = some ⟨oc_meets, od_meets, .func (PySem.W.fnOf "meets" "meets" (defArgs st_meets) (defBody st_meets) (defScope st_meets) .none kV_meets dc_meets pm_meets an_meets cd_meets ct_meets), sl_meets⟩)
    (c_meets : PySem.W.codeIn K cd_meets "meets" = true)
    (k_meets : PySem.W.keepIn K (.ref f_meets) = true)
    (a_gathered : PySem.W.nsIn K mainGlobals "gathered" = some (some (.ref f_gathered)))
    (l_gathered : K.lookup f_gathered = some ⟨oc_gathered, od_gathered, .func (PySem.W.fnOf "gathered" "gathered" (defArgs st_gathered) (defBody st_gathered) (defScope st_gathered) .none kV_gathered dc_gathered pm_gathered an_gathered cd_gathered ct_gathered), sl_gathered⟩)
    (c_gathered : PySem.W.codeIn K cd_gathered "gathered" = true)
    (k_gathered : PySem.W.keepIn K (.ref f_gathered) = true)
    (a_times : PySem.W.nsIn K mainGlobals "times" = some (some (.ref f_times)))
    (l_times : K.lookup f_times = some ⟨oc_times, od_times, .func (PySem.W.fnOf "times" "times" (defArgs st_times) (defBody st_times) (defScope st_times) .none kV_times dc_times pm_times an_times cd_times ct_times), sl_times⟩)
    (c_times : PySem.W.codeIn K cd_times "times" = true)
    (k_times : PySem.W.keepIn K (.ref f_times) = true)
    (a__law_pool : PySem.W.nsIn K mainGlobals "_law_pool" = some (some (.ref f__law_pool)))
    (l__law_pool : K.lookup f__law_pool = some ⟨oc__law_pool, od__law_pool, .func (PySem.W.fnOf "_law_pool" "_law_pool" (defArgs st__law_pool) (defBody st__law_pool) (defScope st__law_pool) .none kV__law_pool dc__law_pool pm__law_pool an__law_pool cd__law_pool ct__law_pool), sl__law_pool⟩)
    (c__law_pool : PySem.W.codeIn K cd__law_pool "_law_pool" = true)
    (k__law_pool : PySem.W.keepIn K (.ref f__law_pool) = true)
    (a__law_take : PySem.W.nsIn K mainGlobals "_law_take" = some (some (.ref f__law_take)))
    (l__law_take : K.lookup f__law_take = some ⟨oc__law_take, od__law_take, .func (PySem.W.fnOf "_law_take" "_law_take" (defArgs st__law_take) (defBody st__law_take) (defScope st__law_take) .none kV__law_take dc__law_take pm__law_take an__law_take cd__law_take ct__law_take), sl__law_take⟩)
    (c__law_take : PySem.W.codeIn K cd__law_take "_law_take" = true)
    (k__law_take : PySem.W.keepIn K (.ref f__law_take) = true)
    (a__law_low : PySem.W.nsIn K mainGlobals "_law_low" = some (some (.ref f__law_low)))
    (l__law_low : K.lookup f__law_low = some ⟨oc__law_low, od__law_low, .func (PySem.W.fnOf "_law_low" "_law_low" (defArgs st__law_low) (defBody st__law_low) (defScope st__law_low) .none kV__law_low dc__law_low pm__law_low an__law_low cd__law_low ct__law_low), sl__law_low⟩)
    (c__law_low : PySem.W.codeIn K cd__law_low "_law_low" = true)
    (k__law_low : PySem.W.keepIn K (.ref f__law_low) = true)
    (a__law_prime : PySem.W.nsIn K mainGlobals "_law_prime" = some (some (.ref f__law_prime)))
    (l__law_prime : K.lookup f__law_prime = some ⟨oc__law_prime, od__law_prime, .func (PySem.W.fnOf "_law_prime" "_law_prime" (defArgs st__law_prime) (defBody st__law_prime) (defScope st__law_prime) .none kV__law_prime dc__law_prime pm__law_prime an__law_prime cd__law_prime ct__law_prime), sl__law_prime⟩)
    (c__law_prime : PySem.W.codeIn K cd__law_prime "_law_prime" = true)
    (k__law_prime : PySem.W.keepIn K (.ref f__law_prime) = true)
    (a__law_number : PySem.W.nsIn K mainGlobals "_law_number" = some (some (.ref f__law_number)))
    (l__law_number : K.lookup f__law_number = some ⟨oc__law_number, od__law_number, .func (PySem.W.fnOf "_law_number" "_law_number" (defArgs st__law_number) (defBody st__law_number) (defScope st__law_number) .none kV__law_number dc__law_number pm__law_number an__law_number cd__law_number ct__law_number), sl__law_number⟩)
    (c__law_number : PySem.W.codeIn K cd__law_number "_law_number" = true)
    (k__law_number : PySem.W.keepIn K (.ref f__law_number) = true)
    (a__law_height : PySem.W.nsIn K mainGlobals "_law_height" = some (some (.ref f__law_height)))
    (l__law_height : K.lookup f__law_height = some ⟨oc__law_height, od__law_height, .func (PySem.W.fnOf "_law_height" "_law_height" (defArgs st__law_height) (defBody st__law_height) (defScope st__law_height) .none kV__law_height dc__law_height pm__law_height an__law_height cd__law_height ct__law_height), sl__law_height⟩)
    (c__law_height : PySem.W.codeIn K cd__law_height "_law_height" = true)
    (k__law_height : PySem.W.keepIn K (.ref f__law_height) = true)
    (a__law_roots : PySem.W.nsIn K mainGlobals "_law_roots" = some (some (.ref f__law_roots)))
    (l__law_roots : K.lookup f__law_roots = some ⟨oc__law_roots, od__law_roots, .func (PySem.W.fnOf "_law_roots" "_law_roots" (defArgs st__law_roots) (defBody st__law_roots) (defScope st__law_roots) .none kV__law_roots dc__law_roots pm__law_roots an__law_roots cd__law_roots ct__law_roots), sl__law_roots⟩)
    (c__law_roots : PySem.W.codeIn K cd__law_roots "_law_roots" = true)
    (k__law_roots : PySem.W.keepIn K (.ref f__law_roots) = true)
    (a__law_crossed : PySem.W.nsIn K mainGlobals "_law_crossed" = some (some (.ref f__law_crossed)))
    (l__law_crossed : K.lookup f__law_crossed = some ⟨oc__law_crossed, od__law_crossed, .func (PySem.W.fnOf "_law_crossed" "_law_crossed" (defArgs st__law_crossed) (defBody st__law_crossed) (defScope st__law_crossed) .none kV__law_crossed dc__law_crossed pm__law_crossed an__law_crossed cd__law_crossed ct__law_crossed), sl__law_crossed⟩)
    (c__law_crossed : PySem.W.codeIn K cd__law_crossed "_law_crossed" = true)
    (k__law_crossed : PySem.W.keepIn K (.ref f__law_crossed) = true)
    (a_law : PySem.W.nsIn K mainGlobals "law" = some (some (.ref f_law)))
    (l_law : K.lookup f_law = some ⟨oc_law, od_law, .func (PySem.W.fnOf "law" "law" (defArgs st_law) (defBody st_law) (defScope st_law) .none kV_law dc_law pm_law an_law cd_law ct_law), sl_law⟩)
    (c_law : PySem.W.codeIn K cd_law "law" = true)
    (k_law : PySem.W.keepIn K (.ref f_law) = true)
    : Txt K mg where
  m_abs := PySem.W.mg_none_of X G z_abs
  m_enumerate := PySem.W.mg_none_of X G z_enumerate
  m_int := PySem.W.mg_none_of X G z_int
  m_len := PySem.W.mg_none_of X G z_len
  m_max := PySem.W.mg_none_of X G z_max
  m_min := PySem.W.mg_none_of X G z_min
  m_range := PySem.W.mg_none_of X G z_range
  m_set := PySem.W.mg_none_of X G z_set
  m_sorted := PySem.W.mg_none_of X G z_sorted
  m_sum := PySem.W.mg_none_of X G z_sum
  m_zip := PySem.W.mg_none_of X G z_zip
  a_NOUGHT := q_NOUGHT
  mg_NOUGHT := PySem.W.mg_of X G c1_NOUGHT
  dq_NOUGHT := dq_pair c2_NOUGHT
  a_cross := f_cross
  d_cross := (PySem.W.fnOf "cross" "cross" (defArgs st_cross) (defBody st_cross) (defScope st_cross) .none kV_cross dc_cross pm_cross an_cross cd_cross ct_cross)
  F_cross := fun_mk (st := st_cross) l_cross c_cross k_cross
  b_cross := (fun_mk (st := st_cross) l_cross c_cross k_cross).binds (ps := P_cross) (fun _ _ _ _ _ _ us hl => match us, hl with | [_, _, _], _ => rfl)
  g_cross := PySem.W.mg_of X G a_cross
  a_half_round := f_half_round
  d_half_round := (PySem.W.fnOf "half_round" "half_round" (defArgs st_half_round) (defBody st_half_round) (defScope st_half_round) .none kV_half_round dc_half_round pm_half_round an_half_round cd_half_round ct_half_round)
  F_half_round := fun_mk (st := st_half_round) l_half_round c_half_round k_half_round
  b_half_round := (fun_mk (st := st_half_round) l_half_round c_half_round k_half_round).binds (ps := P_half_round) (fun _ _ _ _ _ _ us hl => match us, hl with | [_], _ => rfl)
  g_half_round := PySem.W.mg_of X G a_half_round
  a_hull := f_hull
  d_hull := (PySem.W.fnOf "hull" "hull" (defArgs st_hull) (defBody st_hull) (defScope st_hull) .none kV_hull dc_hull pm_hull an_hull cd_hull ct_hull)
  F_hull := fun_mk (st := st_hull) l_hull c_hull k_hull
  b_hull := (fun_mk (st := st_hull) l_hull c_hull k_hull).binds (ps := P_hull) (fun _ _ _ _ _ _ us hl => match us, hl with | [_], _ => rfl)
  g_hull := PySem.W.mg_of X G a_hull
  a_doubled := f_doubled
  d_doubled := (PySem.W.fnOf "doubled" "doubled" (defArgs st_doubled) (defBody st_doubled) (defScope st_doubled) .none kV_doubled dc_doubled pm_doubled an_doubled cd_doubled ct_doubled)
  F_doubled := fun_mk (st := st_doubled) l_doubled c_doubled k_doubled
  b_doubled := (fun_mk (st := st_doubled) l_doubled c_doubled k_doubled).binds (ps := P_doubled) (fun _ _ _ _ _ _ us hl => match us, hl with | [_], _ => rfl)
  g_doubled := PySem.W.mg_of X G a_doubled
  a_put_together := f_put_together
  d_put_together := (PySem.W.fnOf "put_together" "put_together" (defArgs st_put_together) (defBody st_put_together) (defScope st_put_together) .none kV_put_together dc_put_together pm_put_together an_put_together cd_put_together ct_put_together)
  F_put_together := fun_mk (st := st_put_together) l_put_together c_put_together k_put_together
  b_put_together := (fun_mk (st := st_put_together) l_put_together c_put_together k_put_together).binds (ps := P_put_together) (fun _ _ _ _ _ _ us hl => match us, hl with | [_, _], _ => rfl)
  g_put_together := PySem.W.mg_of X G a_put_together
  a_mixed_area := f_mixed_area
  d_mixed_area := (PySem.W.fnOf "mixed_area" "mixed_area" (defArgs st_mixed_area) (defBody st_mixed_area) (defScope st_mixed_area) .none kV_mixed_area dc_mixed_area pm_mixed_area an_mixed_area cd_mixed_area ct_mixed_area)
  F_mixed_area := fun_mk (st := st_mixed_area) l_mixed_area c_mixed_area k_mixed_area
  b_mixed_area := (fun_mk (st := st_mixed_area) l_mixed_area c_mixed_area k_mixed_area).binds (ps := P_mixed_area) (fun _ _ _ _ _ _ us hl => match us, hl with | [_, _], _ => rfl)
  g_mixed_area := PySem.W.mg_of X G a_mixed_area
  a_divisor := f_divisor
  d_divisor := (PySem.W.fnOf "divisor" "divisor" (defArgs st_divisor) (defBody st_divisor) (defScope st_divisor) .none kV_divisor dc_divisor pm_divisor an_divisor cd_divisor ct_divisor)
  F_divisor := fun_mk (st := st_divisor) l_divisor c_divisor k_divisor
  b_divisor := (fun_mk (st := st_divisor) l_divisor c_divisor k_divisor).binds (ps := P_divisor) (fun _ _ _ _ _ _ us hl => match us, hl with | [_, _], _ => rfl)
  g_divisor := PySem.W.mg_of X G a_divisor
  a_ratio := f_ratio
  d_ratio := (PySem.W.fnOf "ratio" "ratio" (defArgs st_ratio) (defBody st_ratio) (defScope st_ratio) .none kV_ratio dc_ratio pm_ratio an_ratio cd_ratio ct_ratio)
  F_ratio := fun_mk (st := st_ratio) l_ratio c_ratio k_ratio
  b_ratio := (fun_mk (st := st_ratio) l_ratio c_ratio k_ratio).binds (ps := P_ratio) (fun _ _ _ _ _ _ us hl => match us, hl with | [_, _], _ => rfl)
  g_ratio := PySem.W.mg_of X G a_ratio
  a_added := f_added
  d_added := (PySem.W.fnOf "added" "added" (defArgs st_added) (defBody st_added) (defScope st_added) .none kV_added dc_added pm_added an_added cd_added ct_added)
  F_added := fun_mk (st := st_added) l_added c_added k_added
  b_added := (fun_mk (st := st_added) l_added c_added k_added).binds (ps := P_added) (fun _ _ _ _ _ _ us hl => match us, hl with | [_, _], _ => rfl)
  g_added := PySem.W.mg_of X G a_added
  a_multiplied := f_multiplied
  d_multiplied := (PySem.W.fnOf "multiplied" "multiplied" (defArgs st_multiplied) (defBody st_multiplied) (defScope st_multiplied) .none kV_multiplied dc_multiplied pm_multiplied an_multiplied cd_multiplied ct_multiplied)
  F_multiplied := fun_mk (st := st_multiplied) l_multiplied c_multiplied k_multiplied
  b_multiplied := (fun_mk (st := st_multiplied) l_multiplied c_multiplied k_multiplied).binds (ps := P_multiplied) (fun _ _ _ _ _ _ us hl => match us, hl with | [_, _], _ => rfl)
  g_multiplied := PySem.W.mg_of X G a_multiplied
  a_how_often := f_how_often
  d_how_often := (PySem.W.fnOf "how_often" "how_often" (defArgs st_how_often) (defBody st_how_often) (defScope st_how_often) .none kV_how_often dc_how_often pm_how_often an_how_often cd_how_often ct_how_often)
  F_how_often := fun_mk (st := st_how_often) l_how_often c_how_often k_how_often
  b_how_often := (fun_mk (st := st_how_often) l_how_often c_how_often k_how_often).binds (ps := P_how_often) (fun _ _ _ _ _ _ us hl => match us, hl with | [_, _], _ => rfl)
  g_how_often := PySem.W.mg_of X G a_how_often
  a_height := f_height
  d_height := (PySem.W.fnOf "height" "height" (defArgs st_height) (defBody st_height) (defScope st_height) .none kV_height dc_height pm_height an_height cd_height ct_height)
  F_height := fun_mk (st := st_height) l_height c_height k_height
  b_height := (fun_mk (st := st_height) l_height c_height k_height).binds (ps := P_height) (fun _ _ _ _ _ _ us hl => match us, hl with | [_, _], _ => rfl)
  g_height := PySem.W.mg_of X G a_height
  a_heights_of := f_heights_of
  d_heights_of := (PySem.W.fnOf "heights_of" "heights_of" (defArgs st_heights_of) (defBody st_heights_of) (defScope st_heights_of) .none kV_heights_of dc_heights_of pm_heights_of an_heights_of cd_heights_of ct_heights_of)
  F_heights_of := fun_mk (st := st_heights_of) l_heights_of c_heights_of k_heights_of
  b_heights_of := (fun_mk (st := st_heights_of) l_heights_of c_heights_of k_heights_of).binds (ps := P_heights_of) (fun _ _ _ _ _ _ us hl => match us, hl with | [_, _], _ => rfl)
  g_heights_of := PySem.W.mg_of X G a_heights_of
  a_worth_there := f_worth_there
  d_worth_there := (PySem.W.fnOf "worth_there" "worth_there" (defArgs st_worth_there) (defBody st_worth_there) (defScope st_worth_there) .none kV_worth_there dc_worth_there pm_worth_there an_worth_there cd_worth_there ct_worth_there)
  F_worth_there := fun_mk (st := st_worth_there) l_worth_there c_worth_there k_worth_there
  b_worth_there := (fun_mk (st := st_worth_there) l_worth_there c_worth_there k_worth_there).binds (ps := P_worth_there) (fun _ _ _ _ _ _ us hl => match us, hl with | [_, _, _], _ => rfl)
  g_worth_there := PySem.W.mg_of X G a_worth_there
  a_is_below := f_is_below
  d_is_below := (PySem.W.fnOf "is_below" "is_below" (defArgs st_is_below) (defBody st_is_below) (defScope st_is_below) .none kV_is_below dc_is_below pm_is_below an_is_below cd_is_below ct_is_below)
  F_is_below := fun_mk (st := st_is_below) l_is_below c_is_below k_is_below
  b_is_below := (fun_mk (st := st_is_below) l_is_below c_is_below k_is_below).binds (ps := P_is_below) (fun _ _ _ _ _ _ us hl => match us, hl with | [_, _], _ => rfl)
  g_is_below := PySem.W.mg_of X G a_is_below
  a_least_terms := f_least_terms
  d_least_terms := (PySem.W.fnOf "least_terms" "least_terms" (defArgs st_least_terms) (defBody st_least_terms) (defScope st_least_terms) .none kV_least_terms dc_least_terms pm_least_terms an_least_terms cd_least_terms ct_least_terms)
  F_least_terms := fun_mk (st := st_least_terms) l_least_terms c_least_terms k_least_terms
  b_least_terms := (fun_mk (st := st_least_terms) l_least_terms c_least_terms k_least_terms).binds (ps := P_least_terms) (fun _ _ _ _ _ _ us hl => match us, hl with | [_, _, _], _ => rfl)
  g_least_terms := PySem.W.mg_of X G a_least_terms
  a_place_of := f_place_of
  d_place_of := (PySem.W.fnOf "place_of" "place_of" (defArgs st_place_of) (defBody st_place_of) (defScope st_place_of) .none kV_place_of dc_place_of pm_place_of an_place_of cd_place_of ct_place_of)
  F_place_of := fun_mk (st := st_place_of) l_place_of c_place_of k_place_of
  b_place_of := (fun_mk (st := st_place_of) l_place_of c_place_of k_place_of).binds (ps := P_place_of) (fun _ _ _ _ _ _ us hl => match us, hl with | [_, _], _ => rfl)
  g_place_of := PySem.W.mg_of X G a_place_of
  a_pairs_of := f_pairs_of
  d_pairs_of := (PySem.W.fnOf "pairs_of" "pairs_of" (defArgs st_pairs_of) (defBody st_pairs_of) (defScope st_pairs_of) .none kV_pairs_of dc_pairs_of pm_pairs_of an_pairs_of cd_pairs_of ct_pairs_of)
  F_pairs_of := fun_mk (st := st_pairs_of) l_pairs_of c_pairs_of k_pairs_of
  b_pairs_of := (fun_mk (st := st_pairs_of) l_pairs_of c_pairs_of k_pairs_of).binds (ps := P_pairs_of) (fun _ _ _ _ _ _ us hl => match us, hl with | [_], _ => rfl)
  g_pairs_of := PySem.W.mg_of X G a_pairs_of
  a_foot_of := f_foot_of
  d_foot_of := (PySem.W.fnOf "foot_of" "foot_of" (defArgs st_foot_of) (defBody st_foot_of) (defScope st_foot_of) .none kV_foot_of dc_foot_of pm_foot_of an_foot_of cd_foot_of ct_foot_of)
  F_foot_of := fun_mk (st := st_foot_of) l_foot_of c_foot_of k_foot_of
  b_foot_of := (fun_mk (st := st_foot_of) l_foot_of c_foot_of k_foot_of).binds (ps := P_foot_of) (fun _ _ _ _ _ _ us hl => match us, hl with | [_], _ => rfl)
  g_foot_of := PySem.W.mg_of X G a_foot_of
  a_places_of := f_places_of
  d_places_of := (PySem.W.fnOf "places_of" "places_of" (defArgs st_places_of) (defBody st_places_of) (defScope st_places_of) .none kV_places_of dc_places_of pm_places_of an_places_of cd_places_of ct_places_of)
  F_places_of := fun_mk (st := st_places_of) l_places_of c_places_of k_places_of
  b_places_of := (fun_mk (st := st_places_of) l_places_of c_places_of k_places_of).binds (ps := P_places_of) (fun _ _ _ _ _ _ us hl => match us, hl with | [_, _], _ => rfl)
  g_places_of := PySem.W.mg_of X G a_places_of
  a_crossing_at := f_crossing_at
  d_crossing_at := (PySem.W.fnOf "crossing_at" "crossing_at" (defArgs st_crossing_at) (defBody st_crossing_at) (defScope st_crossing_at) .none kV_crossing_at dc_crossing_at pm_crossing_at an_crossing_at cd_crossing_at ct_crossing_at)
  F_crossing_at := fun_mk (st := st_crossing_at) l_crossing_at c_crossing_at k_crossing_at
  b_crossing_at := (fun_mk (st := st_crossing_at) l_crossing_at c_crossing_at k_crossing_at).binds (ps := P_crossing_at) (fun _ _ _ _ _ _ us hl => match us, hl with | [_, _, _], _ => rfl)
  g_crossing_at := PySem.W.mg_of X G a_crossing_at
  a_all_crossings := f_all_crossings
  d_all_crossings := (PySem.W.fnOf "all_crossings" "all_crossings" (defArgs st_all_crossings) (defBody st_all_crossings) (defScope st_all_crossings) .none kV_all_crossings dc_all_crossings pm_all_crossings an_all_crossings cd_all_crossings ct_all_crossings)
  F_all_crossings := fun_mk (st := st_all_crossings) l_all_crossings c_all_crossings k_all_crossings
  b_all_crossings := (fun_mk (st := st_all_crossings) l_all_crossings c_all_crossings k_all_crossings).binds (ps := P_all_crossings) (fun _ _ _ _ _ _ us hl => match us, hl with | [_, _, _], _ => rfl)
  g_all_crossings := PySem.W.mg_of X G a_all_crossings
  a_meets := f_meets
  d_meets := (PySem.W.fnOf "meets" "meets" (defArgs st_meets) (defBody st_meets) (defScope st_meets) .none kV_meets dc_meets pm_meets an_meets cd_meets ct_meets)
  F_meets := fun_mk (st := st_meets) l_meets c_meets k_meets
  b_meets := (fun_mk (st := st_meets) l_meets c_meets k_meets).binds (ps := P_meets) (fun _ _ _ _ _ _ us hl => match us, hl with | [_, _, _], _ => rfl)
  g_meets := PySem.W.mg_of X G a_meets
  a_gathered := f_gathered
  d_gathered := (PySem.W.fnOf "gathered" "gathered" (defArgs st_gathered) (defBody st_gathered) (defScope st_gathered) .none kV_gathered dc_gathered pm_gathered an_gathered cd_gathered ct_gathered)
  F_gathered := fun_mk (st := st_gathered) l_gathered c_gathered k_gathered
  b_gathered := (fun_mk (st := st_gathered) l_gathered c_gathered k_gathered).binds (ps := P_gathered) (fun _ _ _ _ _ _ us hl => match us, hl with | [_], _ => rfl)
  g_gathered := PySem.W.mg_of X G a_gathered
  a_times := f_times
  d_times := (PySem.W.fnOf "times" "times" (defArgs st_times) (defBody st_times) (defScope st_times) .none kV_times dc_times pm_times an_times cd_times ct_times)
  F_times := fun_mk (st := st_times) l_times c_times k_times
  b_times := (fun_mk (st := st_times) l_times c_times k_times).binds (ps := P_times) (fun _ _ _ _ _ _ us hl => match us, hl with | [_, _], _ => rfl)
  g_times := PySem.W.mg_of X G a_times
  a__law_pool := f__law_pool
  d__law_pool := (PySem.W.fnOf "_law_pool" "_law_pool" (defArgs st__law_pool) (defBody st__law_pool) (defScope st__law_pool) .none kV__law_pool dc__law_pool pm__law_pool an__law_pool cd__law_pool ct__law_pool)
  F__law_pool := fun_mk (st := st__law_pool) l__law_pool c__law_pool k__law_pool
  b__law_pool := (fun_mk (st := st__law_pool) l__law_pool c__law_pool k__law_pool).binds (ps := P__law_pool) (fun _ _ _ _ _ _ us hl => match us, hl with | [_, _], _ => rfl)
  g__law_pool := PySem.W.mg_of X G a__law_pool
  a__law_take := f__law_take
  d__law_take := (PySem.W.fnOf "_law_take" "_law_take" (defArgs st__law_take) (defBody st__law_take) (defScope st__law_take) .none kV__law_take dc__law_take pm__law_take an__law_take cd__law_take ct__law_take)
  F__law_take := fun_mk (st := st__law_take) l__law_take c__law_take k__law_take
  b__law_take := (fun_mk (st := st__law_take) l__law_take c__law_take k__law_take).binds (ps := P__law_take) (fun _ _ _ _ _ _ us hl => match us, hl with | [_, _], _ => rfl)
  g__law_take := PySem.W.mg_of X G a__law_take
  a__law_low := f__law_low
  d__law_low := (PySem.W.fnOf "_law_low" "_law_low" (defArgs st__law_low) (defBody st__law_low) (defScope st__law_low) .none kV__law_low dc__law_low pm__law_low an__law_low cd__law_low ct__law_low)
  F__law_low := fun_mk (st := st__law_low) l__law_low c__law_low k__law_low
  b__law_low := (fun_mk (st := st__law_low) l__law_low c__law_low k__law_low).binds (ps := P__law_low) (fun _ _ _ _ _ _ us hl => match us, hl with | [_, _], _ => rfl)
  g__law_low := PySem.W.mg_of X G a__law_low
  a__law_prime := f__law_prime
  d__law_prime := (PySem.W.fnOf "_law_prime" "_law_prime" (defArgs st__law_prime) (defBody st__law_prime) (defScope st__law_prime) .none kV__law_prime dc__law_prime pm__law_prime an__law_prime cd__law_prime ct__law_prime)
  F__law_prime := fun_mk (st := st__law_prime) l__law_prime c__law_prime k__law_prime
  b__law_prime := (fun_mk (st := st__law_prime) l__law_prime c__law_prime k__law_prime).binds (ps := P__law_prime) (fun _ _ _ _ _ _ us hl => match us, hl with | [_], _ => rfl)
  g__law_prime := PySem.W.mg_of X G a__law_prime
  a__law_number := f__law_number
  d__law_number := (PySem.W.fnOf "_law_number" "_law_number" (defArgs st__law_number) (defBody st__law_number) (defScope st__law_number) .none kV__law_number dc__law_number pm__law_number an__law_number cd__law_number ct__law_number)
  F__law_number := fun_mk (st := st__law_number) l__law_number c__law_number k__law_number
  b__law_number := (fun_mk (st := st__law_number) l__law_number c__law_number k__law_number).binds (ps := P__law_number) (fun _ _ _ _ _ _ us hl => match us, hl with | [_, _], _ => rfl)
  g__law_number := PySem.W.mg_of X G a__law_number
  a__law_height := f__law_height
  d__law_height := (PySem.W.fnOf "_law_height" "_law_height" (defArgs st__law_height) (defBody st__law_height) (defScope st__law_height) .none kV__law_height dc__law_height pm__law_height an__law_height cd__law_height ct__law_height)
  F__law_height := fun_mk (st := st__law_height) l__law_height c__law_height k__law_height
  b__law_height := (fun_mk (st := st__law_height) l__law_height c__law_height k__law_height).binds (ps := P__law_height) (fun _ _ _ _ _ _ us hl => match us, hl with | [_, _], _ => rfl)
  g__law_height := PySem.W.mg_of X G a__law_height
  a__law_roots := f__law_roots
  d__law_roots := (PySem.W.fnOf "_law_roots" "_law_roots" (defArgs st__law_roots) (defBody st__law_roots) (defScope st__law_roots) .none kV__law_roots dc__law_roots pm__law_roots an__law_roots cd__law_roots ct__law_roots)
  F__law_roots := fun_mk (st := st__law_roots) l__law_roots c__law_roots k__law_roots
  b__law_roots := (fun_mk (st := st__law_roots) l__law_roots c__law_roots k__law_roots).binds (ps := P__law_roots) (fun _ _ _ _ _ _ us hl => match us, hl with | [_, _, _], _ => rfl)
  g__law_roots := PySem.W.mg_of X G a__law_roots
  a__law_crossed := f__law_crossed
  d__law_crossed := (PySem.W.fnOf "_law_crossed" "_law_crossed" (defArgs st__law_crossed) (defBody st__law_crossed) (defScope st__law_crossed) .none kV__law_crossed dc__law_crossed pm__law_crossed an__law_crossed cd__law_crossed ct__law_crossed)
  F__law_crossed := fun_mk (st := st__law_crossed) l__law_crossed c__law_crossed k__law_crossed
  b__law_crossed := (fun_mk (st := st__law_crossed) l__law_crossed c__law_crossed k__law_crossed).binds (ps := P__law_crossed) (fun _ _ _ _ _ _ us hl => match us, hl with | [_, _, _], _ => rfl)
  g__law_crossed := PySem.W.mg_of X G a__law_crossed
  a_law := f_law
  d_law := (PySem.W.fnOf "law" "law" (defArgs st_law) (defBody st_law) (defScope st_law) .none kV_law dc_law pm_law an_law cd_law ct_law)
  F_law := fun_mk (st := st_law) l_law c_law k_law
  b_law := (fun_mk (st := st_law) l_law c_law k_law).binds (ps := P_law) (fun _ _ _ _ _ _ us hl => match us, hl with | [_], _ => rfl)
  g_law := PySem.W.mg_of X G a_law
theorem all_mk {l : PySem.W.OpenLaw} {w : World} {K : PySem.W.Frag} {h : Heap} {mg : Str → Option Value} {fa : Addr} (X : K.In h) (G : h.Ns mainGlobals mg) (hfa : mg "law" = some (.ref fa))
    {q_NOUGHT : Addr} {od_NOUGHT : Option Addr} {n_NOUGHT : Nat} {sl_NOUGHT : Array (Option Value)} {t_NOUGHT u_NOUGHT : Tok}
    {f_cross : Addr} {od_cross an_cross : Option Addr} {sl_cross : Array (Option Value)} {oc_cross kV_cross dc_cross pm_cross cd_cross ct_cross : Value}
    {f_half_round : Addr} {od_half_round an_half_round : Option Addr} {sl_half_round : Array (Option Value)} {oc_half_round kV_half_round dc_half_round pm_half_round cd_half_round ct_half_round : Value}
    {f_hull : Addr} {od_hull an_hull : Option Addr} {sl_hull : Array (Option Value)} {oc_hull kV_hull dc_hull pm_hull cd_hull ct_hull : Value}
    {f_doubled : Addr} {od_doubled an_doubled : Option Addr} {sl_doubled : Array (Option Value)} {oc_doubled kV_doubled dc_doubled pm_doubled cd_doubled ct_doubled : Value}
    {f_put_together : Addr} {od_put_together an_put_together : Option Addr} {sl_put_together : Array (Option Value)} {oc_put_together kV_put_together dc_put_together pm_put_together cd_put_together ct_put_together : Value}
    {f_mixed_area : Addr} {od_mixed_area an_mixed_area : Option Addr} {sl_mixed_area : Array (Option Value)} {oc_mixed_area kV_mixed_area dc_mixed_area pm_mixed_area cd_mixed_area ct_mixed_area : Value}
    {f_divisor : Addr} {od_divisor an_divisor : Option Addr} {sl_divisor : Array (Option Value)} {oc_divisor kV_divisor dc_divisor pm_divisor cd_divisor ct_divisor : Value}
    {f_ratio : Addr} {od_ratio an_ratio : Option Addr} {sl_ratio : Array (Option Value)} {oc_ratio kV_ratio dc_ratio pm_ratio cd_ratio ct_ratio : Value}
    {f_added : Addr} {od_added an_added : Option Addr} {sl_added : Array (Option Value)} {oc_added kV_added dc_added pm_added cd_added ct_added : Value}
    {f_multiplied : Addr} {od_multiplied an_multiplied : Option Addr} {sl_multiplied : Array (Option Value)} {oc_multiplied kV_multiplied dc_multiplied pm_multiplied cd_multiplied ct_multiplied : Value}
    {f_how_often : Addr} {od_how_often an_how_often : Option Addr} {sl_how_often : Array (Option Value)} {oc_how_often kV_how_often dc_how_often pm_how_often cd_how_often ct_how_often : Value}
    {f_height : Addr} {od_height an_height : Option Addr} {sl_height : Array (Option Value)} {oc_height kV_height dc_height pm_height cd_height ct_height : Value}
    {f_heights_of : Addr} {od_heights_of an_heights_of : Option Addr} {sl_heights_of : Array (Option Value)} {oc_heights_of kV_heights_of dc_heights_of pm_heights_of cd_heights_of ct_heights_of : Value}
    {f_worth_there : Addr} {od_worth_there an_worth_there : Option Addr} {sl_worth_there : Array (Option Value)} {oc_worth_there kV_worth_there dc_worth_there pm_worth_there cd_worth_there ct_worth_there : Value}
    {f_is_below : Addr} {od_is_below an_is_below : Option Addr} {sl_is_below : Array (Option Value)} {oc_is_below kV_is_below dc_is_below pm_is_below cd_is_below ct_is_below : Value}
    {f_least_terms : Addr} {od_least_terms an_least_terms : Option Addr} {sl_least_terms : Array (Option Value)} {oc_least_terms kV_least_terms dc_least_terms pm_least_terms cd_least_terms ct_least_terms : Value}
    {f_place_of : Addr} {od_place_of an_place_of : Option Addr} {sl_place_of : Array (Option Value)} {oc_place_of kV_place_of dc_place_of pm_place_of cd_place_of ct_place_of : Value}
    {f_pairs_of : Addr} {od_pairs_of an_pairs_of : Option Addr} {sl_pairs_of : Array (Option Value)} {oc_pairs_of kV_pairs_of dc_pairs_of pm_pairs_of cd_pairs_of ct_pairs_of : Value}
    {f_foot_of : Addr} {od_foot_of an_foot_of : Option Addr} {sl_foot_of : Array (Option Value)} {oc_foot_of kV_foot_of dc_foot_of pm_foot_of cd_foot_of ct_foot_of : Value}
    {f_places_of : Addr} {od_places_of an_places_of : Option Addr} {sl_places_of : Array (Option Value)} {oc_places_of kV_places_of dc_places_of pm_places_of cd_places_of ct_places_of : Value}
    {f_crossing_at : Addr} {od_crossing_at an_crossing_at : Option Addr} {sl_crossing_at : Array (Option Value)} {oc_crossing_at kV_crossing_at dc_crossing_at pm_crossing_at cd_crossing_at ct_crossing_at : Value}
    {f_all_crossings : Addr} {od_all_crossings an_all_crossings : Option Addr} {sl_all_crossings : Array (Option Value)} {oc_all_crossings kV_all_crossings dc_all_crossings pm_all_crossings cd_all_crossings ct_all_crossings : Value}
    {f_meets : Addr} {od_meets an_meets : Option Addr} {sl_meets : Array (Option Value)} {oc_meets kV_meets dc_meets pm_meets cd_meets ct_meets : Value}
    {f_gathered : Addr} {od_gathered an_gathered : Option Addr} {sl_gathered : Array (Option Value)} {oc_gathered kV_gathered dc_gathered pm_gathered cd_gathered ct_gathered : Value}
    {f_times : Addr} {od_times an_times : Option Addr} {sl_times : Array (Option Value)} {oc_times kV_times dc_times pm_times cd_times ct_times : Value}
    {f__law_pool : Addr} {od__law_pool an__law_pool : Option Addr} {sl__law_pool : Array (Option Value)} {oc__law_pool kV__law_pool dc__law_pool pm__law_pool cd__law_pool ct__law_pool : Value}
    {f__law_take : Addr} {od__law_take an__law_take : Option Addr} {sl__law_take : Array (Option Value)} {oc__law_take kV__law_take dc__law_take pm__law_take cd__law_take ct__law_take : Value}
    {f__law_low : Addr} {od__law_low an__law_low : Option Addr} {sl__law_low : Array (Option Value)} {oc__law_low kV__law_low dc__law_low pm__law_low cd__law_low ct__law_low : Value}
    {f__law_prime : Addr} {od__law_prime an__law_prime : Option Addr} {sl__law_prime : Array (Option Value)} {oc__law_prime kV__law_prime dc__law_prime pm__law_prime cd__law_prime ct__law_prime : Value}
    {f__law_number : Addr} {od__law_number an__law_number : Option Addr} {sl__law_number : Array (Option Value)} {oc__law_number kV__law_number dc__law_number pm__law_number cd__law_number ct__law_number : Value}
    {f__law_height : Addr} {od__law_height an__law_height : Option Addr} {sl__law_height : Array (Option Value)} {oc__law_height kV__law_height dc__law_height pm__law_height cd__law_height ct__law_height : Value}
    {f__law_roots : Addr} {od__law_roots an__law_roots : Option Addr} {sl__law_roots : Array (Option Value)} {oc__law_roots kV__law_roots dc__law_roots pm__law_roots cd__law_roots ct__law_roots : Value}
    {f__law_crossed : Addr} {od__law_crossed an__law_crossed : Option Addr} {sl__law_crossed : Array (Option Value)} {oc__law_crossed kV__law_crossed dc__law_crossed pm__law_crossed cd__law_crossed ct__law_crossed : Value}
    {f_law : Addr} {od_law an_law : Option Addr} {sl_law : Array (Option Value)} {oc_law kV_law dc_law pm_law cd_law ct_law : Value}
    (z_abs : PySem.W.nsIn K mainGlobals "abs" = some none)
    (z_enumerate : PySem.W.nsIn K mainGlobals "enumerate" = some none)
    (z_int : PySem.W.nsIn K mainGlobals "int" = some none)
    (z_len : PySem.W.nsIn K mainGlobals "len" = some none)
    (z_max : PySem.W.nsIn K mainGlobals "max" = some none)
    (z_min : PySem.W.nsIn K mainGlobals "min" = some none)
    (z_range : PySem.W.nsIn K mainGlobals "range" = some none)
    (z_set : PySem.W.nsIn K mainGlobals "set" = some none)
    (z_sorted : PySem.W.nsIn K mainGlobals "sorted" = some none)
    (z_sum : PySem.W.nsIn K mainGlobals "sum" = some none)
    (z_zip : PySem.W.nsIn K mainGlobals "zip" = some none)
    (c1_NOUGHT : PySem.W.nsIn K mainGlobals "NOUGHT" = some (some (.ref q_NOUGHT)))
    (c2_NOUGHT : K.lookup q_NOUGHT = some ⟨.type "tuple", od_NOUGHT, .seq #[.int 0 t_NOUGHT, .int 1 u_NOUGHT] n_NOUGHT, sl_NOUGHT⟩)
    (a_cross : PySem.W.nsIn K mainGlobals "cross" = some (some (.ref f_cross)))
    (l_cross : K.lookup f_cross = some ⟨oc_cross, od_cross, .func (PySem.W.fnOf "cross" "cross" (defArgs st_cross) (defBody st_cross) (defScope st_cross) .none kV_cross dc_cross pm_cross an_cross cd_cross ct_cross), sl_cross⟩)
    (c_cross : PySem.W.codeIn K cd_cross "cross" = true)
    (k_cross : PySem.W.keepIn K (.ref f_cross) = true)
    (a_half_round : PySem.W.nsIn K mainGlobals "half_round" = some (some (.ref f_half_round)))
    (l_half_round : K.lookup f_half_round = some ⟨oc_half_round, od_half_round, .func (PySem.W.fnOf "half_round" "half_round" (defArgs st_half_round) (defBody st_half_round) (defScope st_half_round) .none kV_half_round dc_half_round pm_half_round an_half_round cd_half_round ct_half_round), sl_half_round⟩)
    (c_half_round : PySem.W.codeIn K cd_half_round "half_round" = true)
    (k_half_round : PySem.W.keepIn K (.ref f_half_round) = true)
    (a_hull : PySem.W.nsIn K mainGlobals "hull" = some (some (.ref f_hull)))
    (l_hull : K.lookup f_hull = some ⟨oc_hull, od_hull, .func (PySem.W.fnOf "hull" "hull" (defArgs st_hull) (defBody st_hull) (defScope st_hull) .none kV_hull dc_hull pm_hull an_hull cd_hull ct_hull), sl_hull⟩)
    (c_hull : PySem.W.codeIn K cd_hull "hull" = true)
    (k_hull : PySem.W.keepIn K (.ref f_hull) = true)
    (a_doubled : PySem.W.nsIn K mainGlobals "doubled" = some (some (.ref f_doubled)))
    (l_doubled : K.lookup f_doubled = some ⟨oc_doubled, od_doubled, .func (PySem.W.fnOf "doubled" "doubled" (defArgs st_doubled) (defBody st_doubled) (defScope st_doubled) .none kV_doubled dc_doubled pm_doubled an_doubled cd_doubled ct_doubled), sl_doubled⟩)
    (c_doubled : PySem.W.codeIn K cd_doubled "doubled" = true)
    (k_doubled : PySem.W.keepIn K (.ref f_doubled) = true)
    (a_put_together : PySem.W.nsIn K mainGlobals "put_together" = some (some (.ref f_put_together)))
    (l_put_together : K.lookup f_put_together = some ⟨oc_put_together, od_put_together, .func (PySem.W.fnOf "put_together" "put_together" (defArgs st_put_together) (defBody st_put_together) (defScope st_put_together) .none kV_put_together dc_put_together pm_put_together an_put_together cd_put_together ct_put_together), sl_put_together⟩)
    (c_put_together : PySem.W.codeIn K cd_put_together "put_together" = true)
    (k_put_together : PySem.W.keepIn K (.ref f_put_together) = true)
    (a_mixed_area : PySem.W.nsIn K mainGlobals "mixed_area" = some (some (.ref f_mixed_area)))
    (l_mixed_area : K.lookup f_mixed_area = some ⟨oc_mixed_area, od_mixed_area, .func (PySem.W.fnOf "mixed_area" "mixed_area" (defArgs st_mixed_area) (defBody st_mixed_area) (defScope st_mixed_area) .none kV_mixed_area dc_mixed_area pm_mixed_area an_mixed_area cd_mixed_area ct_mixed_area), sl_mixed_area⟩)
    (c_mixed_area : PySem.W.codeIn K cd_mixed_area "mixed_area" = true)
    (k_mixed_area : PySem.W.keepIn K (.ref f_mixed_area) = true)
    (a_divisor : PySem.W.nsIn K mainGlobals "divisor" = some (some (.ref f_divisor)))
    (l_divisor : K.lookup f_divisor = some ⟨oc_divisor, od_divisor, .func (PySem.W.fnOf "divisor" "divisor" (defArgs st_divisor) (defBody st_divisor) (defScope st_divisor) .none kV_divisor dc_divisor pm_divisor an_divisor cd_divisor ct_divisor), sl_divisor⟩)
    (c_divisor : PySem.W.codeIn K cd_divisor "divisor" = true)
    (k_divisor : PySem.W.keepIn K (.ref f_divisor) = true)
    (a_ratio : PySem.W.nsIn K mainGlobals "ratio" = some (some (.ref f_ratio)))
    (l_ratio : K.lookup f_ratio = some ⟨oc_ratio, od_ratio, .func (PySem.W.fnOf "ratio" "ratio" (defArgs st_ratio) (defBody st_ratio) (defScope st_ratio) .none kV_ratio dc_ratio pm_ratio an_ratio cd_ratio ct_ratio), sl_ratio⟩)
    (c_ratio : PySem.W.codeIn K cd_ratio "ratio" = true)
    (k_ratio : PySem.W.keepIn K (.ref f_ratio) = true)
    (a_added : PySem.W.nsIn K mainGlobals "added" = some (some (.ref f_added)))
    (l_added : K.lookup f_added = some ⟨oc_added, od_added, .func (PySem.W.fnOf "added" "added" (defArgs st_added) (defBody st_added) (defScope st_added) .none kV_added dc_added pm_added an_added cd_added ct_added), sl_added⟩)
    (c_added : PySem.W.codeIn K cd_added "added" = true)
    (k_added : PySem.W.keepIn K (.ref f_added) = true)
    (a_multiplied : PySem.W.nsIn K mainGlobals "multiplied" = some (some (.ref f_multiplied)))
    (l_multiplied : K.lookup f_multiplied = some ⟨oc_multiplied, od_multiplied, .func (PySem.W.fnOf "multiplied" "multiplied" (defArgs st_multiplied) (defBody st_multiplied) (defScope st_multiplied) .none kV_multiplied dc_multiplied pm_multiplied an_multiplied cd_multiplied ct_multiplied), sl_multiplied⟩)
    (c_multiplied : PySem.W.codeIn K cd_multiplied "multiplied" = true)
    (k_multiplied : PySem.W.keepIn K (.ref f_multiplied) = true)
    (a_how_often : PySem.W.nsIn K mainGlobals "how_often" = some (some (.ref f_how_often)))
    (l_how_often : K.lookup f_how_often = some ⟨oc_how_often, od_how_often, .func (PySem.W.fnOf "how_often" "how_often" (defArgs st_how_often) (defBody st_how_often) (defScope st_how_often) .none kV_how_often dc_how_often pm_how_often an_how_often cd_how_often ct_how_often), sl_how_often⟩)
    (c_how_often : PySem.W.codeIn K cd_how_often "how_often" = true)
    (k_how_often : PySem.W.keepIn K (.ref f_how_often) = true)
    (a_height : PySem.W.nsIn K mainGlobals "height" = some (some (.ref f_height)))
    (l_height : K.lookup f_height = some ⟨oc_height, od_height, .func (PySem.W.fnOf "height" "height" (defArgs st_height) (defBody st_height) (defScope st_height) .none kV_height dc_height pm_height an_height cd_height ct_height), sl_height⟩)
    (c_height : PySem.W.codeIn K cd_height "height" = true)
    (k_height : PySem.W.keepIn K (.ref f_height) = true)
    (a_heights_of : PySem.W.nsIn K mainGlobals "heights_of" = some (some (.ref f_heights_of)))
    (l_heights_of : K.lookup f_heights_of = some ⟨oc_heights_of, od_heights_of, .func (PySem.W.fnOf "heights_of" "heights_of" (defArgs st_heights_of) (defBody st_heights_of) (defScope st_heights_of) .none kV_heights_of dc_heights_of pm_heights_of an_heights_of cd_heights_of ct_heights_of), sl_heights_of⟩)
    (c_heights_of : PySem.W.codeIn K cd_heights_of "heights_of" = true)
    (k_heights_of : PySem.W.keepIn K (.ref f_heights_of) = true)
    (a_worth_there : PySem.W.nsIn K mainGlobals "worth_there" = some (some (.ref f_worth_there)))
    (l_worth_there : K.lookup f_worth_there = some ⟨oc_worth_there, od_worth_there, .func (PySem.W.fnOf "worth_there" "worth_there" (defArgs st_worth_there) (defBody st_worth_there) (defScope st_worth_there) .none kV_worth_there dc_worth_there pm_worth_there an_worth_there cd_worth_there ct_worth_there), sl_worth_there⟩)
    (c_worth_there : PySem.W.codeIn K cd_worth_there "worth_there" = true)
    (k_worth_there : PySem.W.keepIn K (.ref f_worth_there) = true)
    (a_is_below : PySem.W.nsIn K mainGlobals "is_below" = some (some (.ref f_is_below)))
    (l_is_below : K.lookup f_is_below = some ⟨oc_is_below, od_is_below, .func (PySem.W.fnOf "is_below" "is_below" (defArgs st_is_below) (defBody st_is_below) (defScope st_is_below) .none kV_is_below dc_is_below pm_is_below an_is_below cd_is_below ct_is_below), sl_is_below⟩)
    (c_is_below : PySem.W.codeIn K cd_is_below "is_below" = true)
    (k_is_below : PySem.W.keepIn K (.ref f_is_below) = true)
    (a_least_terms : PySem.W.nsIn K mainGlobals "least_terms" = some (some (.ref f_least_terms)))
    (l_least_terms : K.lookup f_least_terms = some ⟨oc_least_terms, od_least_terms, .func (PySem.W.fnOf "least_terms" "least_terms" (defArgs st_least_terms) (defBody st_least_terms) (defScope st_least_terms) .none kV_least_terms dc_least_terms pm_least_terms an_least_terms cd_least_terms ct_least_terms), sl_least_terms⟩)
    (c_least_terms : PySem.W.codeIn K cd_least_terms "least_terms" = true)
    (k_least_terms : PySem.W.keepIn K (.ref f_least_terms) = true)
    (a_place_of : PySem.W.nsIn K mainGlobals "place_of" = some (some (.ref f_place_of)))
    (l_place_of : K.lookup f_place_of = some ⟨oc_place_of, od_place_of, .func (PySem.W.fnOf "place_of" "place_of" (defArgs st_place_of) (defBody st_place_of) (defScope st_place_of) .none kV_place_of dc_place_of pm_place_of an_place_of cd_place_of ct_place_of), sl_place_of⟩)
    (c_place_of : PySem.W.codeIn K cd_place_of "place_of" = true)
    (k_place_of : PySem.W.keepIn K (.ref f_place_of) = true)
    (a_pairs_of : PySem.W.nsIn K mainGlobals "pairs_of" = some (some (.ref f_pairs_of)))
    (l_pairs_of : K.lookup f_pairs_of = some ⟨oc_pairs_of, od_pairs_of, .func (PySem.W.fnOf "pairs_of" "pairs_of" (defArgs st_pairs_of) (defBody st_pairs_of) (defScope st_pairs_of) .none kV_pairs_of dc_pairs_of pm_pairs_of an_pairs_of cd_pairs_of ct_pairs_of), sl_pairs_of⟩)
    (c_pairs_of : PySem.W.codeIn K cd_pairs_of "pairs_of" = true)
    (k_pairs_of : PySem.W.keepIn K (.ref f_pairs_of) = true)
    (a_foot_of : PySem.W.nsIn K mainGlobals "foot_of" = some (some (.ref f_foot_of)))
    (l_foot_of : K.lookup f_foot_of = some ⟨oc_foot_of, od_foot_of, .func (PySem.W.fnOf "foot_of" "foot_of" (defArgs st_foot_of) (defBody st_foot_of) (defScope st_foot_of) .none kV_foot_of dc_foot_of pm_foot_of an_foot_of cd_foot_of ct_foot_of), sl_foot_of⟩)
    (c_foot_of : PySem.W.codeIn K cd_foot_of "foot_of" = true)
    (k_foot_of : PySem.W.keepIn K (.ref f_foot_of) = true)
    (a_places_of : PySem.W.nsIn K mainGlobals "places_of" = some (some (.ref f_places_of)))
    (l_places_of : K.lookup f_places_of = some ⟨oc_places_of, od_places_of, .func (PySem.W.fnOf "places_of" "places_of" (defArgs st_places_of) (defBody st_places_of) (defScope st_places_of) .none kV_places_of dc_places_of pm_places_of an_places_of cd_places_of ct_places_of), sl_places_of⟩)
    (c_places_of : PySem.W.codeIn K cd_places_of "places_of" = true)
    (k_places_of : PySem.W.keepIn K (.ref f_places_of) = true)
    (a_crossing_at : PySem.W.nsIn K mainGlobals "crossing_at" = some (some (.ref f_crossing_at)))
    (l_crossing_at : K.lookup f_crossing_at = some ⟨oc_crossing_at, od_crossing_at, .func (PySem.W.fnOf "crossing_at" "crossing_at" (defArgs st_crossing_at) (defBody st_crossing_at) (defScope st_crossing_at) .none kV_crossing_at dc_crossing_at pm_crossing_at an_crossing_at cd_crossing_at ct_crossing_at), sl_crossing_at⟩)
    (c_crossing_at : PySem.W.codeIn K cd_crossing_at "crossing_at" = true)
    (k_crossing_at : PySem.W.keepIn K (.ref f_crossing_at) = true)
    (a_all_crossings : PySem.W.nsIn K mainGlobals "all_crossings" = some (some (.ref f_all_crossings)))
    (l_all_crossings : K.lookup f_all_crossings = some ⟨oc_all_crossings, od_all_crossings, .func (PySem.W.fnOf "all_crossings" "all_crossings" (defArgs st_all_crossings) (defBody st_all_crossings) (defScope st_all_crossings) .none kV_all_crossings dc_all_crossings pm_all_crossings an_all_crossings cd_all_crossings ct_all_crossings), sl_all_crossings⟩)
    (c_all_crossings : PySem.W.codeIn K cd_all_crossings "all_crossings" = true)
    (k_all_crossings : PySem.W.keepIn K (.ref f_all_crossings) = true)
    (a_meets : PySem.W.nsIn K mainGlobals "meets" = some (some (.ref f_meets)))
    (l_meets : K.lookup f_meets = some ⟨oc_meets, od_meets, .func (PySem.W.fnOf "meets" "meets" (defArgs st_meets) (defBody st_meets) (defScope st_meets) .none kV_meets dc_meets pm_meets an_meets cd_meets ct_meets), sl_meets⟩)
    (c_meets : PySem.W.codeIn K cd_meets "meets" = true)
    (k_meets : PySem.W.keepIn K (.ref f_meets) = true)
    (a_gathered : PySem.W.nsIn K mainGlobals "gathered" = some (some (.ref f_gathered)))
    (l_gathered : K.lookup f_gathered = some ⟨oc_gathered, od_gathered, .func (PySem.W.fnOf "gathered" "gathered" (defArgs st_gathered) (defBody st_gathered) (defScope st_gathered) .none kV_gathered dc_gathered pm_gathered an_gathered cd_gathered ct_gathered), sl_gathered⟩)
    (c_gathered : PySem.W.codeIn K cd_gathered "gathered" = true)
    (k_gathered : PySem.W.keepIn K (.ref f_gathered) = true)
    (a_times : PySem.W.nsIn K mainGlobals "times" = some (some (.ref f_times)))
    (l_times : K.lookup f_times = some ⟨oc_times, od_times, .func (PySem.W.fnOf "times" "times" (defArgs st_times) (defBody st_times) (defScope st_times) .none kV_times dc_times pm_times an_times cd_times ct_times), sl_times⟩)
    (c_times : PySem.W.codeIn K cd_times "times" = true)
    (k_times : PySem.W.keepIn K (.ref f_times) = true)
    (a__law_pool : PySem.W.nsIn K mainGlobals "_law_pool" = some (some (.ref f__law_pool)))
    (l__law_pool : K.lookup f__law_pool = some ⟨oc__law_pool, od__law_pool, .func (PySem.W.fnOf "_law_pool" "_law_pool" (defArgs st__law_pool) (defBody st__law_pool) (defScope st__law_pool) .none kV__law_pool dc__law_pool pm__law_pool an__law_pool cd__law_pool ct__law_pool), sl__law_pool⟩)
    (c__law_pool : PySem.W.codeIn K cd__law_pool "_law_pool" = true)
    (k__law_pool : PySem.W.keepIn K (.ref f__law_pool) = true)
    (a__law_take : PySem.W.nsIn K mainGlobals "_law_take" = some (some (.ref f__law_take)))
    (l__law_take : K.lookup f__law_take = some ⟨oc__law_take, od__law_take, .func (PySem.W.fnOf "_law_take" "_law_take" (defArgs st__law_take) (defBody st__law_take) (defScope st__law_take) .none kV__law_take dc__law_take pm__law_take an__law_take cd__law_take ct__law_take), sl__law_take⟩)
    (c__law_take : PySem.W.codeIn K cd__law_take "_law_take" = true)
    (k__law_take : PySem.W.keepIn K (.ref f__law_take) = true)
    (a__law_low : PySem.W.nsIn K mainGlobals "_law_low" = some (some (.ref f__law_low)))
    (l__law_low : K.lookup f__law_low = some ⟨oc__law_low, od__law_low, .func (PySem.W.fnOf "_law_low" "_law_low" (defArgs st__law_low) (defBody st__law_low) (defScope st__law_low) .none kV__law_low dc__law_low pm__law_low an__law_low cd__law_low ct__law_low), sl__law_low⟩)
    (c__law_low : PySem.W.codeIn K cd__law_low "_law_low" = true)
    (k__law_low : PySem.W.keepIn K (.ref f__law_low) = true)
    (a__law_prime : PySem.W.nsIn K mainGlobals "_law_prime" = some (some (.ref f__law_prime)))
    (l__law_prime : K.lookup f__law_prime = some ⟨oc__law_prime, od__law_prime, .func (PySem.W.fnOf "_law_prime" "_law_prime" (defArgs st__law_prime) (defBody st__law_prime) (defScope st__law_prime) .none kV__law_prime dc__law_prime pm__law_prime an__law_prime cd__law_prime ct__law_prime), sl__law_prime⟩)
    (c__law_prime : PySem.W.codeIn K cd__law_prime "_law_prime" = true)
    (k__law_prime : PySem.W.keepIn K (.ref f__law_prime) = true)
    (a__law_number : PySem.W.nsIn K mainGlobals "_law_number" = some (some (.ref f__law_number)))
    (l__law_number : K.lookup f__law_number = some ⟨oc__law_number, od__law_number, .func (PySem.W.fnOf "_law_number" "_law_number" (defArgs st__law_number) (defBody st__law_number) (defScope st__law_number) .none kV__law_number dc__law_number pm__law_number an__law_number cd__law_number ct__law_number), sl__law_number⟩)
    (c__law_number : PySem.W.codeIn K cd__law_number "_law_number" = true)
    (k__law_number : PySem.W.keepIn K (.ref f__law_number) = true)
    (a__law_height : PySem.W.nsIn K mainGlobals "_law_height" = some (some (.ref f__law_height)))
    (l__law_height : K.lookup f__law_height = some ⟨oc__law_height, od__law_height, .func (PySem.W.fnOf "_law_height" "_law_height" (defArgs st__law_height) (defBody st__law_height) (defScope st__law_height) .none kV__law_height dc__law_height pm__law_height an__law_height cd__law_height ct__law_height), sl__law_height⟩)
    (c__law_height : PySem.W.codeIn K cd__law_height "_law_height" = true)
    (k__law_height : PySem.W.keepIn K (.ref f__law_height) = true)
    (a__law_roots : PySem.W.nsIn K mainGlobals "_law_roots" = some (some (.ref f__law_roots)))
    (l__law_roots : K.lookup f__law_roots = some ⟨oc__law_roots, od__law_roots, .func (PySem.W.fnOf "_law_roots" "_law_roots" (defArgs st__law_roots) (defBody st__law_roots) (defScope st__law_roots) .none kV__law_roots dc__law_roots pm__law_roots an__law_roots cd__law_roots ct__law_roots), sl__law_roots⟩)
    (c__law_roots : PySem.W.codeIn K cd__law_roots "_law_roots" = true)
    (k__law_roots : PySem.W.keepIn K (.ref f__law_roots) = true)
    (a__law_crossed : PySem.W.nsIn K mainGlobals "_law_crossed" = some (some (.ref f__law_crossed)))
    (l__law_crossed : K.lookup f__law_crossed = some ⟨oc__law_crossed, od__law_crossed, .func (PySem.W.fnOf "_law_crossed" "_law_crossed" (defArgs st__law_crossed) (defBody st__law_crossed) (defScope st__law_crossed) .none kV__law_crossed dc__law_crossed pm__law_crossed an__law_crossed cd__law_crossed ct__law_crossed), sl__law_crossed⟩)
    (c__law_crossed : PySem.W.codeIn K cd__law_crossed "_law_crossed" = true)
    (k__law_crossed : PySem.W.keepIn K (.ref f__law_crossed) = true)
    (a_law : PySem.W.nsIn K mainGlobals "law" = some (some (.ref f_law)))
    (l_law : K.lookup f_law = some ⟨oc_law, od_law, .func (PySem.W.fnOf "law" "law" (defArgs st_law) (defBody st_law) (defScope st_law) .none kV_law dc_law pm_law an_law cd_law ct_law), sl_law⟩)
    (c_law : PySem.W.codeIn K cd_law "law" = true)
    (k_law : PySem.W.keepIn K (.ref f_law) = true)
    : ∃ fd : FuncData, (∀ (s : Shared) (v : Value), BindsTo s fd ⟨[v], []⟩ [("_law_script", v)]) ∧ ∀ base : Heap, K.In base → base.Ns mainGlobals mg → FnOk l.prog w K mg base CX0 10 fa fd P_law (spD K [false] ev_law) := by
  have e := hfa.symm.trans (PySem.W.mg_of X G a_law)
  cases e
  exact ⟨_, fun s v => .of_eq rfl, fun base _ _ => ok_law (mk X G z_abs z_enumerate z_int z_len z_max z_min z_range z_set z_sorted z_sum z_zip c1_NOUGHT c2_NOUGHT a_cross l_cross c_cross k_cross a_half_round l_half_round c_half_round k_half_round a_hull l_hull c_hull k_hull a_doubled l_doubled c_doubled k_doubled a_put_together l_put_together c_put_together k_put_together a_mixed_area l_mixed_area c_mixed_area k_mixed_area a_divisor l_divisor c_divisor k_divisor a_ratio l_ratio c_ratio k_ratio a_added l_added c_added k_added a_multiplied l_multiplied c_multiplied k_multiplied a_how_often l_how_often c_how_often k_how_often a_height l_height c_height k_height a_heights_of l_heights_of c_heights_of k_heights_of a_worth_there l_worth_there c_worth_there k_worth_there a_is_below l_is_below c_is_below k_is_below a_least_terms l_least_terms c_least_terms k_least_terms a_place_of l_place_of c_place_of k_place_of a_pairs_of l_pairs_of c_pairs_of k_pairs_of a_foot_of l_foot_of c_foot_of k_foot_of a_places_of l_places_of c_places_of k_places_of a_crossing_at l_crossing_at c_crossing_at k_crossing_at a_all_crossings l_all_crossings c_all_crossings k_all_crossings a_meets l_meets c_meets k_meets a_gathered l_gathered c_gathered k_gathered a_times l_times c_times k_times a__law_pool l__law_pool c__law_pool k__law_pool a__law_take l__law_take c__law_take k__law_take a__law_low l__law_low c__law_low k__law_low a__law_prime l__law_prime c__law_prime k__law_prime a__law_number l__law_number c__law_number k__law_number a__law_height l__law_height c__law_height k__law_height a__law_roots l__law_roots c__law_roots k__law_roots a__law_crossed l__law_crossed c__law_crossed k__law_crossed a_law l_law c_law k_law)⟩
end Lw
open PySem PySem.W PyProof.Rows
set_option maxHeartbeats 0 in
theorem PySem.Challenge.cw_mixedmeets_k98_whole_heights_of_known_po_holds : PySem.Challenge.rw_mixedmeets_k98_whole_heights_of_known_po.Holds := by
  w_on; o_law; k_head; (case hw => w_witness2)
  k_fill
  refine L2.walk_of (l := PySem.Challenge.rw_mixedmeets_k98_whole_heights_of_known_po) (n := 63) (k := 10) (x := "_law_script") (CX := fun _ => L2.CX0) (sp := fun w => Dv.spD _ [false] Lw.ev_law) rfl (by decide) rfl ⟨rfl, by decide, by decide⟩ (fun w h Y => PySem.W.kIn_of Y) ?F (fun _ _ a ns hl _ hS => Dv.law_sp (Lw.law_true ns hl) hS) (fun _ _ _ _ _ h => h)
  case F =>
    intro w mg fa h KX G hmg
    refine' Lw.all_mk KX G hmg ?z_abs ?z_enumerate ?z_int ?z_len ?z_max ?z_min ?z_range ?z_set ?z_sorted ?z_sum ?z_zip ?c1_NOUGHT ?c2_NOUGHT ?a_cross ?l_cross ?c_cross ?k_cross ?a_half_round ?l_half_round ?c_half_round ?k_half_round ?a_hull ?l_hull ?c_hull ?k_hull ?a_doubled ?l_doubled ?c_doubled ?k_doubled ?a_put_together ?l_put_together ?c_put_together ?k_put_together ?a_mixed_area ?l_mixed_area ?c_mixed_area ?k_mixed_area ?a_divisor ?l_divisor ?c_divisor ?k_divisor ?a_ratio ?l_ratio ?c_ratio ?k_ratio ?a_added ?l_added ?c_added ?k_added ?a_multiplied ?l_multiplied ?c_multiplied ?k_multiplied ?a_how_often ?l_how_often ?c_how_often ?k_how_often ?a_height ?l_height ?c_height ?k_height ?a_heights_of ?l_heights_of ?c_heights_of ?k_heights_of ?a_worth_there ?l_worth_there ?c_worth_there ?k_worth_there ?a_is_below ?l_is_below ?c_is_below ?k_is_below ?a_least_terms ?l_least_terms ?c_least_terms ?k_least_terms ?a_place_of ?l_place_of ?c_place_of ?k_place_of ?a_pairs_of ?l_pairs_of ?c_pairs_of ?k_pairs_of ?a_foot_of ?l_foot_of ?c_foot_of ?k_foot_of ?a_places_of ?l_places_of ?c_places_of ?k_places_of ?a_crossing_at ?l_crossing_at ?c_crossing_at ?k_crossing_at ?a_all_crossings ?l_all_crossings ?c_all_crossings ?k_all_crossings ?a_meets ?l_meets ?c_meets ?k_meets ?a_gathered ?l_gathered ?c_gathered ?k_gathered ?a_times ?l_times ?c_times ?k_times ?a__law_pool ?l__law_pool ?c__law_pool ?k__law_pool ?a__law_take ?l__law_take ?c__law_take ?k__law_take ?a__law_low ?l__law_low ?c__law_low ?k__law_low ?a__law_prime ?l__law_prime ?c__law_prime ?k__law_prime ?a__law_number ?l__law_number ?c__law_number ?k__law_number ?a__law_height ?l__law_height ?c__law_height ?k__law_height ?a__law_roots ?l__law_roots ?c__law_roots ?k__law_roots ?a__law_crossed ?l__law_crossed ?c__law_crossed ?k__law_crossed ?a_law ?l_law ?c_law ?k_law
    (case z_abs => k_is); (case z_enumerate => k_is); (case z_int => k_is); (case z_len => k_is); (case z_max => k_is); (case z_min => k_is); (case z_range => k_is); (case z_set => k_is); (case z_sorted => k_is); (case z_sum => k_is); (case z_zip => k_is); (case c1_NOUGHT => k_is); (case c2_NOUGHT => k_is); (case a_cross => k_is); (case l_cross => k_is); (case c_cross => k_is); (case k_cross => k_is); (case a_half_round => k_is); (case l_half_round => k_is); (case c_half_round => k_is); (case k_half_round => k_is); (case a_hull => k_is); (case l_hull => k_is); (case c_hull => k_is); (case k_hull => k_is); (case a_doubled => k_is); (case l_doubled => k_is); (case c_doubled => k_is); (case k_doubled => k_is); (case a_put_together => k_is); (case l_put_together => k_is); (case c_put_together => k_is); (case k_put_together => k_is); (case a_mixed_area => k_is); (case l_mixed_area => k_is); (case c_mixed_area => k_is); (case k_mixed_area => k_is); (case a_divisor => k_is); (case l_divisor => k_is); (case c_divisor => k_is); (case k_divisor => k_is); (case a_ratio => k_is); (case l_ratio => k_is); (case c_ratio => k_is); (case k_ratio => k_is); (case a_added => k_is); (case l_added => k_is); (case c_added => k_is); (case k_added => k_is); (case a_multiplied => k_is); (case l_multiplied => k_is); (case c_multiplied => k_is); (case k_multiplied => k_is); (case a_how_often => k_is); (case l_how_often => k_is); (case c_how_often => k_is); (case k_how_often => k_is); (case a_height => k_is); (case l_height => k_is); (case c_height => k_is); (case k_height => k_is); (case a_heights_of => k_is); (case l_heights_of => k_is); (case c_heights_of => k_is); (case k_heights_of => k_is); (case a_worth_there => k_is); (case l_worth_there => k_is); (case c_worth_there => k_is); (case k_worth_there => k_is); (case a_is_below => k_is); (case l_is_below => k_is); (case c_is_below => k_is); (case k_is_below => k_is); (case a_least_terms => k_is); (case l_least_terms => k_is); (case c_least_terms => k_is); (case k_least_terms => k_is); (case a_place_of => k_is); (case l_place_of => k_is); (case c_place_of => k_is); (case k_place_of => k_is); (case a_pairs_of => k_is); (case l_pairs_of => k_is); (case c_pairs_of => k_is); (case k_pairs_of => k_is); (case a_foot_of => k_is); (case l_foot_of => k_is); (case c_foot_of => k_is); (case k_foot_of => k_is); (case a_places_of => k_is); (case l_places_of => k_is); (case c_places_of => k_is); (case k_places_of => k_is); (case a_crossing_at => k_is); (case l_crossing_at => k_is); (case c_crossing_at => k_is); (case k_crossing_at => k_is); (case a_all_crossings => k_is); (case l_all_crossings => k_is); (case c_all_crossings => k_is); (case k_all_crossings => k_is); (case a_meets => k_is); (case l_meets => k_is); (case c_meets => k_is); (case k_meets => k_is); (case a_gathered => k_is); (case l_gathered => k_is); (case c_gathered => k_is); (case k_gathered => k_is); (case a_times => k_is); (case l_times => k_is); (case c_times => k_is); (case k_times => k_is); (case a__law_pool => k_is); (case l__law_pool => k_is); (case c__law_pool => k_is); (case k__law_pool => k_is); (case a__law_take => k_is); (case l__law_take => k_is); (case c__law_take => k_is); (case k__law_take => k_is); (case a__law_low => k_is); (case l__law_low => k_is); (case c__law_low => k_is); (case k__law_low => k_is); (case a__law_prime => k_is); (case l__law_prime => k_is); (case c__law_prime => k_is); (case k__law_prime => k_is); (case a__law_number => k_is); (case l__law_number => k_is); (case c__law_number => k_is); (case k__law_number => k_is); (case a__law_height => k_is); (case l__law_height => k_is); (case c__law_height => k_is); (case k__law_height => k_is); (case a__law_roots => k_is); (case l__law_roots => k_is); (case c__law_roots => k_is); (case k__law_roots => k_is); (case a__law_crossed => k_is); (case l__law_crossed => k_is); (case c__law_crossed => k_is); (case k__law_crossed => k_is); (case a_law => k_is); (case l_law => k_is); (case c_law => k_is); (case k_law => k_is)
