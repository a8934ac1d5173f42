import PyProof.Rows.All
import Wide.All
import OpenK.AllK
import Wide.FinOn
import HandS.ForMost
import HandS.TupSets
import KE.KeyNested
import KE.KDictKeyed
import KE.SortData
import HandS.SetBool
import HandS.SetKeys
import HandS.IsInst
import HandS.Star
import HandS.Zip
import HandS.NoneIn
import HandS.More
import HandS.Wide
import HandS.TupAny
import PyProof.EqLayable
import PyProof.ReprReads
import PySem.Challenge.RW_pagewise_k60_products
set_option Elab.async false
set_option linter.all false
set_option maxRecDepth 100000
namespace L3
open PySem PySem.Spec PyProof.Rows L2

/-! ### 5 x + 1 goes through all residues of a power of two -/
def uu : Nat → Nat
  | 0 => 0
  | k + 1 => 5 * uu k + 1
theorem uu5 : ∀ k, 5 ^ k = 4 * uu k + 1
  | 0 => rfl
  | k + 1 => by rw [Nat.pow_succ, uu5 k, uu]; omega
theorem uu_add (a : Nat) : ∀ b, uu (a + b) = uu a * 5 ^ b + uu b
  | 0 => by simp [uu]
  | b + 1 => by
    show 5 * uu (a + b) + 1 = _
    rw [uu_add a b, uu, Nat.pow_succ, Nat.mul_add, ← Nat.mul_assoc, ← Nat.mul_assoc, Nat.mul_comm 5 (uu a), Nat.mul_assoc (uu a), Nat.mul_comm 5, ← Nat.mul_assoc]
    omega
theorem uu_two : ∀ n, ∃ q, uu (2 ^ n) = 2 ^ n * (2 * q + 1)
  | 0 => ⟨0, rfl⟩
  | n + 1 => by
    obtain ⟨q, e⟩ := uu_two n
    have e2 : 2 ^ (n + 1) = 2 ^ n + 2 ^ n := by rw [Nat.pow_succ]; omega
    rw [e2, uu_add, uu5]
    generalize uu (2 ^ n) = x at e
    refine ⟨2 * (q * x) + q + x, ?_⟩
    have h1 : x * (4 * x + 1) + x = 2 * (x * (2 * x + 1)) := by
      rw [Nat.mul_add, Nat.mul_add, Nat.mul_left_comm, Nat.mul_left_comm x 2]; omega
    rw [h1]
    have h2 : x * (2 * x + 1) = 2 ^ n * ((2 * q + 1) * (2 * x + 1)) := by
      rw [← Nat.mul_assoc, ← e]
    rw [h2, ← Nat.mul_two, Nat.mul_comm (2 ^ n) 2, Nat.mul_assoc]
    congr 2
    rw [Nat.add_mul, Nat.mul_add, Nat.mul_assoc 2 q, ← Nat.mul_assoc q 2 x, Nat.mul_comm q 2, Nat.mul_assoc 2 q x]
    omega
theorem uu_shift (n k : Nat) : ∃ q, uu (k + 2 ^ n) = uu k + 2 ^ n * (2 * q + 1) := by
  obtain ⟨q, e⟩ := uu_two n
  refine ⟨4 * (q * uu k) + q + 2 * uu k, ?_⟩
  rw [uu_add, uu5]
  have h : uu k * (4 * uu (2 ^ n) + 1) + uu (2 ^ n) = uu k + uu (2 ^ n) * (4 * uu k + 1) := by
    rw [Nat.mul_add, Nat.mul_add, Nat.mul_left_comm, Nat.mul_left_comm (uu (2 ^ n)) 4, Nat.mul_comm (uu k) (uu (2 ^ n))]; omega
  rw [h, e, Nat.mul_assoc (2 ^ n)]
  congr 2
  generalize uu k = x
  rw [Nat.add_mul, Nat.mul_add, Nat.mul_assoc 2 q, Nat.mul_left_comm q 4 x, Nat.mul_one, Nat.mul_add, Nat.one_mul]
  omega
theorem uu_onto : ∀ n j, j < 2 ^ n → ∃ k, k < 2 ^ n ∧ uu k % 2 ^ n = j
  | 0, j, h => ⟨0, by simp, by simp at h; simp [h, uu]⟩
  | n + 1, j, h => by
    have hp : 0 < 2 ^ n := Nat.pow_pos (by decide)
    have e2 : 2 ^ (n + 1) = 2 ^ n * 2 := Nat.pow_succ ..
    obtain ⟨k, hk, e⟩ := uu_onto n (j % 2 ^ n) (Nat.mod_lt _ hp)
    -- the residue by the double
    have two : ∀ x : Nat, x % (2 ^ n * 2) = x % 2 ^ n + 2 ^ n * (x / 2 ^ n % 2) := fun x => Nat.mod_mul
    by_cases c : uu k % 2 ^ (n + 1) = j
    · exact ⟨k, by omega, c⟩
    · obtain ⟨q, s⟩ := uu_shift n k
      refine ⟨k + 2 ^ n, by omega, ?_⟩
      rw [s, e2, two]
      rw [e2, two] at c
      have hj : j = j % 2 ^ n + 2 ^ n * (j / 2 ^ n % 2) := by
        have := two j
        rw [Nat.mod_eq_of_lt (by omega)] at this
        exact this
      have m1 : (uu k + 2 ^ n * (2 * q + 1)) % 2 ^ n = uu k % 2 ^ n := Nat.add_mul_mod_self_left ..
      have m2 : (uu k + 2 ^ n * (2 * q + 1)) / 2 ^ n = uu k / 2 ^ n + (2 * q + 1) := Nat.add_mul_div_left _ _ hp
      rw [m1, m2, e]
      rw [e] at c
      have p1 : uu k / 2 ^ n % 2 = 0 ∨ uu k / 2 ^ n % 2 = 1 := by omega
      have p2 : j / 2 ^ n % 2 = 0 ∨ j / 2 ^ n % 2 = 1 := by omega
      have p3 : uu k / 2 ^ n % 2 ≠ j / 2 ^ n % 2 := fun z => c (by rw [z]; exact hj.symm)
      have p4 : (uu k / 2 ^ n + (2 * q + 1)) % 2 = j / 2 ^ n % 2 := by omega
      rw [p4]
      exact hj.symm
/-- the masks of a table -/
def MaskG (m : Nat) : Prop := ∃ n, 3 ≤ n ∧ m + 1 = 2 ^ n
theorem lcg_uu (m : Nat) : ∀ k, lcgN m k = uu k % (m + 1)
  | 0 => by simp [lcgN, uu]
  | k + 1 => by
    show (lcgN m k * 5 + 1) % (m + 1) = (5 * uu k + 1) % (m + 1)
    rw [lcg_uu m k, Nat.add_mod, Nat.mod_mul_mod, ← Nat.add_mod, Nat.mul_comm]
theorem lcg_wrap {m : Nat} (hm : MaskG m) (k : Nat) : lcgN m (m + 1 + k) = lcgN m k := by
  obtain ⟨n, _, e⟩ := hm
  obtain ⟨q, s⟩ := uu_shift n k
  rw [lcg_uu, lcg_uu, e, Nat.add_comm, s, Nat.add_mul_mod_self_left]
/-- from each place the others are met -/
theorem lcg_meets {m : Nat} (hm : MaskG m) {i j : Nat} (hi : i ≤ m) (hj : j ≤ m) : ∃ k, k ≤ m ∧ lcgI m i k = j := by
  have onto : ∀ x, x ≤ m → ∃ b, b ≤ m ∧ lcgN m b = x := fun x hx => by
    obtain ⟨n, _, e⟩ := id hm
    obtain ⟨k, h1, h2⟩ := uu_onto n x (by omega)
    exact ⟨k, by omega, by rw [lcg_uu, e]; exact h2⟩
  obtain ⟨a, ha, rfl⟩ := onto i hi
  obtain ⟨b, hb, rfl⟩ := onto j hj
  by_cases c : a ≤ b
  · exact ⟨b - a, by omega, by rw [lcgN_add, show a + (b - a) = b by omega]⟩
  · exact ⟨m + 1 + b - a, by omega, by rw [lcgN_add, show a + (m + 1 + b - a) = m + 1 + b by omega, lcg_wrap hm]⟩
/-- m + 1 steps meet each place just once -/
theorem lcg_apart {m : Nat} (hm : MaskG m) {i : Nat} (hi : i ≤ m) {k l : Nat} (hk : k ≤ m) (hl : l ≤ m) (e : lcgI m i k = lcgI m i l) : k = l := by
  -- m + 1 places are met by m + 1 steps: the list of them has no repeat
  have lt : ∀ k, lcgI m i k ≤ m := fun k => by
    cases k with
    | zero => exact hi
    | succ k => exact Nat.le_of_lt_succ (Nat.mod_lt _ (Nat.succ_pos _))
  have nd : ((List.range (m + 1)).map (lcgI m i)).Nodup := by
    have sub : ∀ x ∈ List.range (m + 1), x ∈ (List.range (m + 1)).map (lcgI m i) := fun x hx => by
      obtain ⟨k, h1, h2⟩ := lcg_meets hm hi (Nat.le_of_lt_succ (List.mem_range.mp hx))
      exact List.mem_map.mpr ⟨k, List.mem_range.mpr (Nat.lt_succ_of_le h1), h2⟩
    have pm : (List.range (m + 1)).Perm ((List.range (m + 1)).map (lcgI m i)) := (perm_range (m + 1) _ (by simp) fun k hk => sub k (List.mem_range.mpr hk)).symm
    exact pm.nodup_iff.mp List.nodup_range
  have h1 : ((List.range (m + 1)).map (lcgI m i))[k]? = some (lcgI m i k) := by
    rw [List.getElem?_map, List.getElem?_range (by omega)] <;> rfl
  have h2 : ((List.range (m + 1)).map (lcgI m i))[l]? = some (lcgI m i l) := by
    rw [List.getElem?_map, List.getElem?_range (by omega)] <;> rfl
  have hkl : k < ((List.range (m + 1)).map (lcgI m i)).length := by simp; omega
  have hll : l < ((List.range (m + 1)).map (lcgI m i)).length := by simp; omega
  exact (List.getElem_inj nd (h₀ := hkl) (h₁ := hll)).mp (Option.some.inj (by rw [← List.getElem?_eq_getElem, ← List.getElem?_eq_getElem, h1, h2, e]))
theorem run_le (m b n : Nat) : runI m b n ≤ m := runI_le m b n
theorem run_far {m : Nat} (hm : MaskG m) (h : Int) {j : Nat} (hj : j ≤ m) : ∃ n, n ≤ m + 12 ∧ runI m (SetTable.bits h) n = j := by
  obtain ⟨k, hk, e⟩ := lcg_meets hm (run_le m (SetTable.bits h) 12) hj
  exact ⟨12 + k, by omega, by rw [runI_tail (bits_lt h), e]⟩
/-- the steps up to run n: at most ten for each -/
theorem way_run (m : Nat) (h : Int) (n : Nat) : ∃ k, k ≤ 10 * n ∧ way m h k = runI m (SetTable.bits h) n := by
  obtain ⟨k, hk, e⟩ := run_nth m (SetTable.bits h) n
  exact ⟨k, hk, congrArg SetTable.Probe.j e⟩
theorem way_far {m : Nat} (hm : MaskG m) (h : Int) {j : Nat} (hj : j ≤ m) : ∃ k, k < 10 * SetTable.turns m ∧ way m h k = j := by
  obtain ⟨n, hn, e⟩ := run_far hm h hj
  obtain ⟨k, hk, e2⟩ := way_run m h n
  refine ⟨k, ?_, e2.trans e⟩
  unfold SetTable.turns
  omega
theorem way_in {m : Nat} {h : Int} {k : Nat} : way m h k ≤ m := by
  have b : SetTable.bits h % (m + 1) ≤ m := Nat.le_of_lt_succ (Nat.mod_lt _ (Nat.succ_pos _))
  obtain ⟨c1, c2, c3⟩ := runEnd_bd b
  have q := nth_in k (runAt m (SetTable.bits h % (m + 1)) (SetTable.bits h)) (by
    show SetTable.bits h % (m + 1) + (SetTable.runEnd m (SetTable.bits h % (m + 1)) - SetTable.bits h % (m + 1)) ≤ m
    omega)
  exact Nat.le_trans (Nat.le_add_right _ _) q

/-! ### tables of any size -/
structure TabG (t : SetTable) (hs : List Int) : Prop where
  ris : Ris t.place.toList
  dm : t.dummies = #[]
  sz : t.place.size = hs.length
  mg : MaskG t.mask
  bd : ∀ x ∈ t.place.toList, x ≤ t.mask
  reach : ∀ (i : Nat) (h : Int) (j : Nat), hs[i]? = some h → t.place.toList[i]? = some j → ∃ k, way t.mask h k = j ∧ ∀ k', k' < k → way t.mask h k' ∈ t.place.toList
section
variable {t : SetTable} {hs : List Int}
theorem TabG.len (T : TabG t hs) : t.place.toList.length = hs.length := by rw [Array.length_toList]; exact T.sz
theorem TabG.open (T : TabG t hs) (hl : hs.length ≤ t.mask) (h : Int) : ∃ K, K < 10 * SetTable.turns t.mask ∧ way t.mask h K ∉ t.place.toList ∧ ∀ k, k < K → way t.mask h k ∈ t.place.toList := by
  obtain ⟨j, hj, hn⟩ := st_missing t.place.toList (t.mask + 1) (by rw [T.len]; omega)
  obtain ⟨k, hk, e⟩ := way_far T.mg h (Nat.le_of_lt_succ hj)
  obtain ⟨K, h1, h2, h3⟩ := st_least (p := fun k => way t.mask h k ∉ t.place.toList) k (by rw [e]; exact hn)
  exact ⟨K, by omega, h2, fun k' hk' => Classical.byContradiction fun c => h3 k' hk' c⟩
theorem TabG.ahead (T : TabG t hs) {h : Int} {K i j : Nat} (hK : way t.mask h K ∉ t.place.toList) (hi : hs[i]? = some h) (hj : t.place.toList[i]? = some j) : ∃ k, k < K ∧ way t.mask h k = j := by
  obtain ⟨k, e, hb⟩ := T.reach i h j hi hj
  refine ⟨k, Nat.lt_of_not_le fun c => ?_, e⟩
  rcases Nat.eq_or_lt_of_le c with c | c
  · exact hK (by rw [c, e]; exact List.mem_of_getElem? hj)
  · exact hK (hb K c)
theorem TabG.put (T : TabG t hs) {h : Int} {K : Nat} (hK : way t.mask h K ∉ t.place.toList) (hb : ∀ k, k < K → way t.mask h k ∈ t.place.toList) {j : Nat} (hj : way t.mask h K = j) :
    (t.put j).2 = SetTable.below t.place j ∧ SetTable.below t.place j ≤ hs.length ∧ TabG (t.put j).1 (hs.take (SetTable.below t.place j) ++ h :: hs.drop (SetTable.below t.place j)) ∧
    (t.put j).1.mask = t.mask ∧ (t.put j).1.led = t.led ∧ (t.put j).1.fill = hs.length + 1 := by
  have hjm : j ≤ t.mask := by rw [← hj]; exact way_in
  rw [hj] at hK
  obtain ⟨c1, _, _⟩ := below_cut T.ris j
  generalize hp : SetTable.below t.place j = p at c1 ⊢
  have hpl : p ≤ t.place.toList.length := by rw [Array.length_toList]; exact c1
  have hph : p ≤ hs.length := by rw [← T.sz]; exact c1
  have hpp : (t.put j).1.place.toList = t.place.toList.take p ++ j :: t.place.toList.drop p := by rw [put_place, hp]
  have hsize : (t.put j).1.place.size = hs.length + 1 := by rw [← Array.length_toList, hpp, len_ins _ hpl, T.len]
  have up : ∀ {x : Nat}, x ∈ t.place.toList → x ∈ (t.put j).1.place.toList := fun hx => by rw [hpp]; exact mem_ins.2 (.inr hx)
  have hnp : t.place[SetTable.below t.place j]? ≠ some j := fun e => hK (List.mem_of_getElem? (by rw [Array.getElem?_toList]; exact e))
  refine ⟨hp, hph, ⟨ris_insert T.ris hnp, put_dm T.dm j, by rw [len_ins _ hph]; exact hsize, T.mg, fun x hx => ?_, fun i h' j' h1 h2 => ?_⟩, rfl, rfl, ?_⟩
  · rw [hpp] at hx
    rcases mem_ins.1 hx with z | z
    · rw [z]; exact hjm
    · exact T.bd x z
  · rw [tins_get hs hph] at h1
    rw [hpp, tins_get _ hpl] at h2
    have old : ∀ {i : Nat}, hs[i]? = some h' → t.place.toList[i]? = some j' → ∃ k, way t.mask h' k = j' ∧ ∀ k', k' < k → way t.mask h' k' ∈ (t.put j).1.place.toList := fun a b => by
      obtain ⟨k, e, z⟩ := T.reach _ h' j' a b
      exact ⟨k, e, fun k' hk' => up (z k' hk')⟩
    show ∃ k, way t.mask h' k = j' ∧ ∀ k', k' < k → way t.mask h' k' ∈ (t.put j).1.place.toList
    by_cases c : i < p
    · rw [if_pos c] at h1 h2; exact old h1 h2
    · rw [if_neg c] at h1 h2
      by_cases d : i = p
      · rw [if_pos d] at h1 h2
        cases h1
        cases h2
        exact ⟨K, hj, fun k' hk' => up (hb k' hk')⟩
      · rw [if_neg d] at h1 h2; exact old h1 h2
  · show (t.put j).1.place.size + (t.put j).1.dummies.size = hs.length + 1
    rw [hsize, put_dm T.dm j] <;> rfl
end

/-! ### a table laid anew -/
section
variable {m : Nat}
theorem free_at (hm : MaskG m) (owner : Array (Option Nat)) (h : Int) {j : Nat} (hj : j ≤ m) (hf : oAt owner j = none) :
    ∃ K, SetTable.layClean.free m owner (SetTable.turns m) (SetTable.bits h % (m + 1)) (SetTable.bits h) = some (way m h K) ∧ oAt owner (way m h K) = none ∧ ∀ k, k < K → oAt owner (way m h k) ≠ none := by
  obtain ⟨n, hn, e⟩ := run_far hm h hj
  generalize hb : SetTable.bits h = b at e
  have hw : (nth m (runAt m (b % (m + 1)) b) (off m (b % (m + 1)) b n)).j = j := by rw [nth_off, itL_run]; exact e
  have wb : ∀ k, way m h k = (nth m (runAt m (b % (m + 1)) b) k).j := fun k => by rw [← hb]
  obtain ⟨K, k1, k2, k3⟩ := st_least (p := fun k => oAt owner (way m h k) = none) (off m (b % (m + 1)) b n) (by rw [wb, hw]; exact hf)
  refine ⟨K, ?_, k2, k3⟩
  rw [wb]
  refine free_spec m owner _ n _ _ K (by unfold SetTable.turns; omega) k1 (fun k hk => ?_) (by rw [← wb, k2]; rfl)
  have q := k3 k hk
  rw [wb] at q
  exact Option.isNone_eq_false_iff.mpr (Option.isSome_iff_ne_none.mpr q)
theorem own_step (hm : MaskG m) {done : List Int} {owner : Array (Option Nat)} (W : Own m done owner) (hl : done.length ≤ m) (h : Int) :
    ∃ j, SetTable.layClean.free m owner (SetTable.turns m) (SetTable.bits h % (m + 1)) (SetTable.bits h) = some j ∧ Own m (done ++ [h]) (owner.setIfInBounds j (some done.length)) := by
  obtain ⟨ps, hps, hin⟩ := W.ps
  obtain ⟨j0, h0, hn0⟩ := st_missing ps (m + 1) (by omega)
  have hj0 : oAt owner j0 = none := Classical.byContradiction fun c => hn0 (hin j0 (Nat.le_of_lt_succ h0) c)
  obtain ⟨K, e1, e2, e3⟩ := free_at hm owner h (Nat.le_of_lt_succ h0) hj0
  generalize hj : way m h K = j at e1 e2
  have hjm : j ≤ m := by rw [← hj]; exact way_in
  have hself := oAt_set_self (owner := owner) (some done.length) (show j < owner.size by rw [W.sz]; exact Nat.lt_succ_of_le hjm)
  have mono : ∀ {i : Nat}, oAt owner i ≠ none → oAt (owner.setIfInBounds j (some done.length)) i ≠ none := fun {i} hi => by
    by_cases c : i = j
    · rw [c, hself]; exact fun e => nomatch e
    · rw [oAt_set_ne _ c]; exact hi
  refine ⟨j, e1, by rw [Array.size_setIfInBounds]; exact W.sz, fun i k hi e => ?_, fun k hk => ?_, j :: ps, by simp [hps], fun i hi e => ?_⟩
  · by_cases c : i = j
    · rw [c, hself] at e
      cases e
      exact ⟨h, K, by simp, hj.trans c.symm, fun k' hk' => mono (e3 k' hk')⟩
    · rw [oAt_set_ne _ c] at e
      obtain ⟨h', K', a1, a2, a3⟩ := W.at_ i k hi e
      exact ⟨h', K', by rw [List.getElem?_append_left (List.getElem?_eq_some_iff.mp a1).1]; exact a1, a2, fun k' hk' => mono (a3 k' hk')⟩
  · by_cases c : k < done.length
    · obtain ⟨i, hi, e⟩ := W.all k c
      exact ⟨i, hi, by rw [oAt_set_ne _ (fun z => by rw [z, e2] at e; cases e)]; exact e⟩
    · have ek : k = done.length := by rw [List.length_append] at hk; simp at hk; omega
      rw [ek]
      exact ⟨j, hjm, hself⟩
  · by_cases c : i = j
    · rw [c]; exact List.mem_cons_self
    · rw [oAt_set_ne _ c] at e
      exact List.mem_cons_of_mem _ (hin i hi e)
theorem fold_at (hm : MaskG m) : ∀ (rest done : List Int) (owner : Array (Option Nat)), Own m done owner → done.length + rest.length ≤ m → ∃ owner', rest.foldl (stepF m) (some (owner, done.length)) = some (owner', (done ++ rest).length) ∧ Own m (done ++ rest) owner'
  | [], done, owner, W, _ => ⟨owner, by simp, by simpa using W⟩
  | h :: rest, done, owner, W, hl => by
    rw [List.length_cons] at hl
    obtain ⟨j, e, W'⟩ := own_step hm W (by omega) h
    obtain ⟨owner', f, W2⟩ := fold_at hm rest (done ++ [h]) _ W' (by simp; omega)
    rw [List.append_assoc, List.singleton_append] at f W2
    rw [List.length_append, List.length_singleton] at f
    exact ⟨owner', by rw [List.foldl_cons, stepF_some e]; exact f, W2⟩
theorem clean_at (hm : MaskG m) {hs : Array Int} (hn : hs.size ≤ m) : ∃ owner, SetTable.layClean m hs = some owner ∧ Own m hs.toList owner := by
  obtain ⟨owner, f, W⟩ := fold_at hm hs.toList [] _ (Own.init m) (by simpa using hn)
  rw [List.nil_append] at f W
  exact ⟨owner, by rw [layClean_eq]; rw [show ([] : List Int).length = 0 from rfl] at f; rw [f]; rfl, W⟩
theorem relaid_at (t : SetTable) {hs : Array Int} {wanted : Nat} (hw : SetTable.sizeAbove wanted - 1 = m) (hm : MaskG m) (hn : hs.size ≤ m) :
    ∃ t' order, t.relaid hs wanted = some (t', order) ∧ order.toList.Perm (List.range hs.size) ∧ TabG t' (order.toList.map fun i => hs.getD i 0) ∧ t'.mask = m ∧ t'.led = t.led ∧ t'.dummies = #[] := by
  obtain ⟨owner, e, W⟩ := clean_at hm hn
  generalize hl : liveOf m owner = live
  have hr : t.relaid hs wanted = some (tabOf t m owner, (live.map (·.2)).toArray) := by rw [relaid_eq, hw, e, ← hl]; rfl
  have ris := ris_live (fun j => owner.getD j none) (List.range (m + 1)) (by unfold Ris; first | exact List.pairwise_lt_range | exact List.pairwise_lt_range _)
  have mem : ∀ {j k : Nat}, (j, k) ∈ live ↔ j ≤ m ∧ oAt owner j = some k := by rw [← hl]; exact mem_live W.sz
  have r1 : Ris (live.map (·.1)) := by rw [← hl]; exact ris.1
  have r2 : ∀ x ∈ live.map (·.1), x ∈ List.range (m + 1) := by rw [← hl]; exact ris.2
  have all2 : ∀ k, k < hs.size → k ∈ live.map (·.2) := fun k hk => by
    obtain ⟨j, b1, b2⟩ := W.all k (by rw [Array.length_toList]; exact hk)
    exact List.mem_map.mpr ⟨(j, k), mem.2 ⟨b1, b2⟩, rfl⟩
  have hlen : live.length = hs.size := by
    obtain ⟨ps, p1, p2⟩ := W.ps
    have nd : (live.map (·.1)).Nodup := List.Pairwise.imp (fun h => Nat.ne_of_lt h) r1
    have a := nat_nodup_len (live.map (·.1)) ps nd fun x hx => by
      obtain ⟨⟨y, k⟩, hq, rfl⟩ := List.mem_map.mp hx
      obtain ⟨b1, b2⟩ := mem.1 hq
      exact p2 y b1 (by rw [b2]; exact fun z => nomatch z)
    have b := nat_nodup_len (List.range hs.size) (live.map (·.2)) List.nodup_range fun k hk => all2 k (List.mem_range.mp hk)
    rw [List.length_map] at a b
    rw [List.length_range] at b
    rw [p1] at a
    have hz : hs.toList.length = hs.size := rfl
    omega
  have pl : (tabOf t m owner).place.toList = live.map (·.1) := by rw [← hl]; rfl
  refine ⟨tabOf t m owner, (live.map (·.2)).toArray, hr, perm_range hs.size _ (by simpa using hlen) fun k hk => by simpa using all2 k hk, ⟨by rw [pl]; exact r1, rfl, ?_, hm, fun x hx => ?_, fun i h j h1 h2 => ?_⟩, rfl, rfl, rfl⟩
  · rw [← Array.length_toList, pl]; simp
  · rw [pl] at hx; exact Nat.le_of_lt_succ (List.mem_range.mp (r2 x hx))
  · rw [pl, List.getElem?_map] at h2
    have h1 : ((live.map (·.2)).map fun i => hs.getD i 0)[i]? = some h := h1
    rw [List.getElem?_map, List.getElem?_map] at h1
    cases hq : live[i]? with
    | none => rw [hq] at h2; cases h2
    | some q =>
      obtain ⟨y, k⟩ := q
      rw [hq] at h1 h2
      have ej : y = j := Option.some.inj h2
      have eh : hs.getD k 0 = h := Option.some.inj h1
      subst ej
      obtain ⟨b1, b2⟩ := mem.1 (List.mem_of_getElem? hq)
      obtain ⟨h0, K, a1, a2, a3⟩ := W.at_ y k b1 b2
      have e0 : h0 = h := by
        rw [← eh, Array.getD_eq_getD_getElem?, ← Array.getElem?_toList, a1] <;> rfl
      subst e0
      refine ⟨K, a2, fun k' hk' => ?_⟩
      rw [pl]
      obtain ⟨k2, z⟩ := Option.ne_none_iff_exists'.mp (a3 k' hk')
      exact List.mem_map.mpr ⟨(way m h0 k', k2), mem.2 ⟨way_in, z⟩, rfl⟩
end
end L3
namespace L3
open PySem PySem.Spec PyProof.Rows L2

/-! ### how often a search asks -/
/-- the slots that have the hash h -/
def slotsH : List Nat → List Int → Int → List Nat
  | j :: js, x :: xs, h => if x = h then j :: slotsH js xs h else slotsH js xs h
  | _, _, _ => []
theorem slotsH_len : ∀ (js : List Nat) (xs : List Int) (h : Int), (slotsH js xs h).length ≤ xs.count h
  | [], _, _ => by simp [slotsH]
  | _ :: _, [], _ => by simp [slotsH]
  | j :: js, x :: xs, h => by
    rw [slotsH, List.count_cons]
    have := slotsH_len js xs h
    by_cases c : x = h
    · rw [if_pos c, List.length_cons]; simp [c]; exact this
    · rw [if_neg c]; simp [c]; exact this
theorem slotsH_mem : ∀ {js : List Nat} {xs : List Int} {h : Int} {i j : Nat}, js[i]? = some j → xs[i]? = some h → j ∈ slotsH js xs h
  | [], _, _, _, _, a, _ => by simp at a
  | _ :: _, [], _, _, _, _, b => by simp at b
  | j0 :: js, x :: xs, h, 0, j, a, b => by
    have a : j0 = j := by simpa using a
    have b : x = h := by simpa using b
    rw [slotsH, if_pos b, a]
    exact List.mem_cons_self
  | j0 :: js, x :: xs, h, i + 1, j, a, b => by
    have q := slotsH_mem (js := js) (xs := xs) (h := h) (i := i) (j := j) (by simpa using a) (by simpa using b)
    rw [slotsH]
    split
    · exact List.mem_cons_of_mem _ q
    · exact q
/-- of the first k steps those that ask -/
def cnt (S : List Nat) (f : Nat → Nat) : Nat → Nat
  | 0 => 0
  | k + 1 => cnt S f k + if f k ∈ S then 1 else 0
theorem cnt_up (S : List Nat) (f : Nat → Nat) (k : Nat) : ∀ d, cnt S f k ≤ cnt S f (k + d) ∧ cnt S f (k + d) ≤ cnt S f k + d
  | 0 => ⟨Nat.le_refl _, Nat.le_refl _⟩
  | d + 1 => by
    obtain ⟨a, b⟩ := cnt_up S f k d
    show _ ≤ cnt S f (k + d) + _ ∧ cnt S f (k + d) + _ ≤ _
    split <;> omega
theorem cnt_mono (S : List Nat) (f : Nat → Nat) {k l : Nat} (h : k ≤ l) : cnt S f k ≤ cnt S f l := by
  obtain ⟨d, rfl⟩ := Nat.le.dest h
  exact (cnt_up S f k d).1
theorem cnt_first (S : List Nat) (f : Nat → Nat) (k d : Nat) : cnt S f (k + (d + 1)) ≤ cnt S f k + d + if f k ∈ S then 1 else 0 := by
  have h := (cnt_up S f (k + 1) d).2
  have e : k + (d + 1) = k + 1 + d := by omega
  have e2 : cnt S f (k + 1) = cnt S f k + if f k ∈ S then 1 else 0 := rfl
  rw [e]
  omega
theorem off_back (m : Nat) : ∀ (n i b : Nat), off m i b (n + 1) = off m i b n + (SetTable.runEnd m (itL m i b n).1 - (itL m i b n).1 + 1)
  | 0, i, b => by simp [off, itL]
  | n + 1, i, b => by
    have ih := off_back m n (SetTable.leap m i b).1 (SetTable.leap m i b).2
    show _ + off m (SetTable.leap m i b).1 (SetTable.leap m i b).2 (n + 1) = _ + off m (SetTable.leap m i b).1 (SetTable.leap m i b).2 n + _
    rw [ih]
    show _ = _ + (SetTable.runEnd m (itL m (SetTable.leap m i b).1 (SetTable.leap m i b).2 n).1 - (itL m (SetTable.leap m i b).1 (SetTable.leap m i b).2 n).1 + 1)
    omega
/-- where run n begins -/
def runO (m : Nat) (h : Int) (n : Nat) : Nat := off m (SetTable.bits h % (m + 1)) (SetTable.bits h) n
theorem runO_way (m : Nat) (h : Int) (n : Nat) : way m h (runO m h n) = runI m (SetTable.bits h) n := by
  unfold runO way
  rw [nth_off, itL_run]
  rfl
theorem runO_next (m : Nat) (h : Int) (n : Nat) : ∃ d, d ≤ 9 ∧ runO m h (n + 1) = runO m h n + (d + 1) := by
  refine ⟨SetTable.runEnd m (itL m (SetTable.bits h % (m + 1)) (SetTable.bits h) n).1 - (itL m (SetTable.bits h % (m + 1)) (SetTable.bits h) n).1, ?_, off_back ..⟩
  rw [itL_run]
  have := runEnd_bd (run_le m (SetTable.bits h) n)
  show SetTable.runEnd m (runI m (SetTable.bits h) n) - runI m (SetTable.bits h) n ≤ 9
  omega
/-- at most nine asks in a run, and one where it begins -/
theorem cnt_run (S : List Nat) (m : Nat) (h : Int) : ∀ n, cnt S (way m h) (runO m h n) ≤ 9 * n + ((List.range n).filter fun r => decide (runI m (SetTable.bits h) r ∈ S)).length
  | 0 => by simp [runO, off, cnt]
  | n + 1 => by
    obtain ⟨d, hd, e⟩ := runO_next m h n
    have ih := cnt_run S m h n
    have c := cnt_first S (way m h) (runO m h n) d
    rw [runO_way] at c
    rw [e, List.range_succ, List.filter_append, List.length_append, List.filter_cons]
    by_cases q : runI m (SetTable.bits h) n ∈ S
    · rw [if_pos q] at c
      simp [q]
      omega
    · rw [if_neg q] at c
      simp [q]
      omega
theorem inj_filter {S : List Nat} {f : Nat → Nat} {lo n : Nat} (inj : ∀ k l, lo ≤ k → k < n → lo ≤ l → l < n → f k = f l → k = l) : ((List.range n).filter fun r => decide (f r ∈ S)).length ≤ lo + S.length := by
  have split_ : (List.range n).filter (fun r => decide (f r ∈ S)) = ((List.range n).filter fun r => decide (f r ∈ S)).filter (fun r => decide (r < lo)) ++ ((List.range n).filter fun r => decide (f r ∈ S)).filter (fun r => !decide (r < lo)) ∨ True := .inr trivial
  have h1 : (((List.range n).filter fun r => decide (f r ∈ S)).filter fun r => decide (r < lo)).length ≤ lo := by
    have := nat_nodup_len (((List.range n).filter fun r => decide (f r ∈ S)).filter fun r => decide (r < lo)) (List.range lo) ((List.nodup_range.filter _).filter _) fun x hx => by
      have := (List.mem_filter.mp hx).2
      exact List.mem_range.mpr (of_decide_eq_true this)
    simpa using this
  have h2 : (((List.range n).filter fun r => decide (f r ∈ S)).filter fun r => !decide (r < lo)).length ≤ S.length := by
    have nd : ((((List.range n).filter fun r => decide (f r ∈ S)).filter fun r => !decide (r < lo)).map f).Nodup := by
      refine List.pairwise_map.mpr (List.Pairwise.imp_of_mem (fun {a b} ha hb hne e => ?_) ((List.nodup_range.filter _).filter _))
      have pa := List.mem_filter.mp ha
      have pb := List.mem_filter.mp hb
      have la : lo ≤ a := by have := pa.2; simp at this; omega
      have lb : lo ≤ b := by have := pb.2; simp at this; omega
      have na := List.mem_range.mp (List.mem_filter.mp pa.1).1
      have nb := List.mem_range.mp (List.mem_filter.mp pb.1).1
      exact hne (inj a b la na lb nb e)
    have := nat_nodup_len _ S nd fun x hx => by
      obtain ⟨r, hr, rfl⟩ := List.mem_map.mp hx
      exact of_decide_eq_true (List.mem_filter.mp (List.mem_filter.mp hr).1).2
    rwa [List.length_map] at this
  have h3 : ((List.range n).filter fun r => decide (f r ∈ S)).length = (((List.range n).filter fun r => decide (f r ∈ S)).filter fun r => decide (r < lo)).length + (((List.range n).filter fun r => decide (f r ∈ S)).filter fun r => !decide (r < lo)).length := by
    generalize (List.range n).filter (fun r => decide (f r ∈ S)) = l
    clear h1 h2 split_ inj
    induction l with
    | nil => rfl
    | cons x l ih =>
      rw [List.filter_cons, List.filter_cons]
      by_cases c : x < lo <;> simp [c] <;> omega
  omega
/-- the asks of a search are few -/
theorem asks_few {t : SetTable} {hs : List Int} (T : TabG t hs) (hl : hs.length ≤ t.mask) (h : Int) {K : Nat} (hb : ∀ k, k < K → way t.mask h k ∈ t.place.toList) :
    cnt (slotsH t.place.toList hs h) (way t.mask h) K ≤ 120 + 9 * hs.length + hs.count h := by
  have hm := T.mg
  generalize hmm : t.mask = m at hm hl hb ⊢
  have tail := runI_tail (m := m) (bits_lt h)
  have i0 := run_le m (SetTable.bits h) 12
  have apart : ∀ k l, 12 ≤ k → k ≤ m + 12 → 12 ≤ l → l ≤ m + 12 → runI m (SetTable.bits h) k = runI m (SetTable.bits h) l → k = l := fun k l a1 a2 b1 b2 e => by
    obtain ⟨k', rfl⟩ := Nat.le.dest a1
    obtain ⟨l', rfl⟩ := Nat.le.dest b1
    rw [tail, tail] at e
    have := lcg_apart hm i0 (by omega) (by omega) e
    omega
  -- a run that begins at a free slot
  obtain ⟨q, hq, hfree⟩ : ∃ q, q ≤ hs.length ∧ runI m (SetTable.bits h) (12 + q) ∉ t.place.toList := by
    refine Classical.byContradiction fun c => ?_
    have all : ∀ q, q ≤ hs.length → runI m (SetTable.bits h) (12 + q) ∈ t.place.toList := fun q hq => Classical.byContradiction fun z => c ⟨q, hq, z⟩
    have nd : ((List.range (hs.length + 1)).map fun q => runI m (SetTable.bits h) (12 + q)).Nodup := by
      refine List.pairwise_map.mpr (List.Pairwise.imp_of_mem (fun {a b} ha hb hne e => ?_) List.nodup_range)
      have na := List.mem_range.mp ha
      have nb := List.mem_range.mp hb
      have := apart (12 + a) (12 + b) (by omega) (by omega) (by omega) (by omega) e
      exact hne (by omega)
    have := nat_nodup_len _ t.place.toList nd fun x hx => by
      obtain ⟨r, hr, rfl⟩ := List.mem_map.mp hx
      exact all r (Nat.le_of_lt_succ (List.mem_range.mp hr))
    rw [List.length_map, List.length_range, T.len] at this
    omega
  have hK : K ≤ runO m h (12 + q) := Nat.le_of_not_lt fun c => hfree (by rw [← runO_way]; exact hb _ c)
  have c1 := cnt_mono (slotsH t.place.toList hs h) (way m h) hK
  have c2 := cnt_run (slotsH t.place.toList hs h) m h (12 + q)
  have c3 := inj_filter (S := slotsH t.place.toList hs h) (f := fun r => runI m (SetTable.bits h) r) (lo := 12) (n := 12 + q) fun k l a1 a2 b1 b2 e => apart k l a1 (by omega) b1 (by omega) e
  have c4 := slotsH_len t.place.toList hs h
  omega

/-! ### how a table grows -/
theorem size_go : ∀ (f n a : Nat), 3 ≤ a → n < 2 ^ a * 2 ^ f → ∃ b, 3 ≤ b ∧ SetTable.sizeAbove.go n f (2 ^ a) = 2 ^ b ∧ n < 2 ^ b ∧ (b = a ∨ 2 ^ b ≤ 2 * n)
  | 0, n, a, ha, hn => ⟨a, ha, rfl, by simpa using hn, .inl rfl⟩
  | f + 1, n, a, ha, hn => by
    unfold SetTable.sizeAbove.go
    by_cases c : 2 ^ a ≤ n
    · rw [if_pos c, ← Nat.pow_succ]
      obtain ⟨b, h1, h2, h3, h4⟩ := size_go f n (a + 1) (by omega) (by
        rw [Nat.pow_succ, Nat.mul_assoc, ← Nat.pow_succ']; exact hn)
      refine ⟨b, h1, h2, h3, .inr ?_⟩
      rcases h4 with h4 | h4
      · rw [h4, Nat.pow_succ]; omega
      · exact h4
    · rw [if_neg c]
      exact ⟨a, ha, rfl, by omega, .inl rfl⟩
theorem size_above {n : Nat} (h : n < 2 ^ 60) : ∃ m, SetTable.sizeAbove n = m + 1 ∧ MaskG m ∧ n < m + 1 ∧ (m = 7 ∨ m + 1 ≤ 2 * n) := by
  obtain ⟨b, h1, h2, h3, h4⟩ := size_go 64 n 3 (Nat.le_refl _) (Nat.lt_of_lt_of_le h (by decide))
  have h0 : SetTable.sizeAbove n = 2 ^ b := h2
  have p : 0 < 2 ^ b := Nat.pow_pos (by decide)
  refine ⟨2 ^ b - 1, by omega, ⟨b, h1, by omega⟩, by omega, ?_⟩
  rcases h4 with h4 | h4
  · left; rw [h4]
  · right; omega
end L3
namespace L3
open PySem PySem.Spec PyProof.Rows L2

/-! ### what the model asks of a key -/
section
variable {P : Program} {w : World} {A : Around} {E : Value → Shared → Prop}
mutual
theorem ofAClass_key : ∀ (k : NestedKey) (v : Value) (n : Nat) (s : Shared) (Q : Bool → Shared → Prop), NestedIs s.heap k v → k.depth ≤ n → Q false s → wpAny (model P w) A (ofAClassStatement n v) Q E s
  | .none, _, n, s, Q, x, _, h => by cases x; cases n <;> exact wpAny_pure h
  | .num i, _, n, s, Q, x, _, h => by cases x <;> cases n <;> exact wpAny_pure h
  | .text y, _, n, s, Q, x, _, h => by cases x; cases n <;> exact wpAny_pure h
  | .tup ks, _, n, s, Q, x, hn, h => by
    cases x with
    | @tup a o vs m _ ho hc hd hk =>
      simp only [NestedKey.depth] at hn
      cases n with
      | zero => omega
      | succ n =>
        unfold ofAClassStatement
        refine wpAny_bind (wpAny_typeOf (T := "tuple") ⟨o, ho, hc⟩ ?_)
        dsimp only
        rw [show (("tuple" : String) == "tuple") = true by decide]
        simp only [if_true, Bool.not_true, Bool.false_eq_true, if_false]
        try refine wpAny_bind (wpAny_pure ?_)
        try simp only [Bool.not_true, Bool.false_eq_true, if_false]
        refine wpAny_bind (show wpAny _ _ (seqItems? (.ref a)) _ _ s from wpAny_seqItems ho hd ?_)
        dsimp only
        refine wpAny_bind (show wpAny _ _ (forIn vs _ _) _ _ s from ?_)
        rw [← Array.forIn_toList]
        refine wpAny_forIn_list _ (fun rest r s' => r.1 = none ∧ s' = s ∧ ∀ u ∈ rest, ∀ Q' : Bool → Shared → Prop, Q' false s → wpAny (model P w) A (ofAClassStatement n u) Q' E s) _ ?_ ?_ _ _ ⟨rfl, rfl, ofAClass_keys ks vs.toList n s hk (by omega)⟩
        · rintro u rest r s' ⟨hr, rfl, hall⟩
          refine wpAny_bind (hall u List.mem_cons_self _ ?_)
          simp only [Bool.false_eq_true, if_false]
          exact wpAny_pure ⟨rfl, rfl, fun x hx => hall x (List.mem_cons_of_mem _ hx)⟩
        · rintro ⟨r1, r2⟩ s' ⟨hr, rfl, _⟩
          simp only at hr
          subst hr
          exact wpAny_pure h
theorem ofAClass_keys : ∀ (ks : List NestedKey) (vs : List Value) (n : Nat) (s : Shared), NestedAll s.heap ks vs → NestedKey.depthAll ks ≤ n → ∀ v ∈ vs, ∀ Q : Bool → Shared → Prop, Q false s → wpAny (model P w) A (ofAClassStatement n v) Q E s
  | [], _, n, s, x, _, v, hv, Q, h => by cases x; cases hv
  | k :: ks, _, n, s, x, hn, v, hv, Q, h => by
    cases x with
    | cons x1 x2 =>
      simp only [NestedKey.depthAll] at hn
      rcases List.mem_cons.mp hv with e | hv
      · rw [e]; exact ofAClass_key k _ n s Q x1 (by omega) h
      · exact ofAClass_keys ks _ n s x2 (by omega) v hv Q h
end
mutual
theorem hashBy_key : ∀ (k : NestedKey) (v : Value) (n : Nat) (s : Shared) (Q : Bool → Shared → Prop), NestedIs s.heap k v → (∀ b, Q b s) → wpAny (model P w) A (hashByValue n v) Q E s
  | .none, _, n, s, Q, x, h => by cases x; cases n <;> exact wpAny_pure (h _)
  | .num i, _, n, s, Q, x, h => by cases x <;> cases n <;> exact wpAny_pure (h _)
  | .text y, _, n, s, Q, x, h => by cases x; cases n <;> exact wpAny_pure (h _)
  | .tup ks, _, n, s, Q, x, h => by
    cases x with
    | @tup a o vs m _ ho hc hd hk =>
      cases n with
      | zero => exact wpAny_pure (h _)
      | succ n =>
        unfold hashByValue
        refine wpAny_bind (wpAny_specialOf (T := "tuple") ⟨o, ho, hc⟩ F.slot_tuple_hash.lookup ?_)
        refine wpAny_bind (show wpAny _ _ (seqItems? (.ref a)) _ _ s from wpAny_seqItems ho hd ?_)
        refine wpAny_bind (show wpAny _ _ (forIn vs _ _) _ _ s from ?_)
        rw [← Array.forIn_toList]
        refine wpAny_forIn_list _ (fun rest r s' => s' = s ∧ r.1 = none ∧ ∀ u ∈ rest, ∀ Q' : Bool → Shared → Prop, (∀ b, Q' b s) → wpAny (model P w) A (hashByValue n u) Q' E s) _ ?_ ?_ _ _ ⟨rfl, rfl, hashBy_keys ks vs.toList n s hk⟩
        · rintro u rest r s' ⟨rfl, hr, hall⟩
          refine wpAny_bind (hall u List.mem_cons_self _ fun b => ?_)
          cases b with
          | true =>
            simp only [Bool.not_true, Bool.false_eq_true, if_false]
            exact wpAny_pure ⟨rfl, rfl, fun x hx => hall x (List.mem_cons_of_mem _ hx)⟩
          | false =>
            simp only [Bool.not_false, if_true]
            exact wpAny_pure (wpAny_pure (h _))
        · rintro ⟨r1, r2⟩ s' ⟨rfl, hr, _⟩
          simp only at hr
          subst hr
          exact wpAny_pure (h _)
theorem hashBy_keys : ∀ (ks : List NestedKey) (vs : List Value) (n : Nat) (s : Shared), NestedAll s.heap ks vs → ∀ v ∈ vs, ∀ Q : Bool → Shared → Prop, (∀ b, Q b s) → wpAny (model P w) A (hashByValue n v) Q E s
  | [], _, n, s, x, v, hv, Q, h => by cases x; cases hv
  | k :: ks, _, n, s, x, v, hv, Q, h => by
    cases x with
    | cons x1 x2 =>
      rcases List.mem_cons.mp hv with e | hv
      · rw [e]; exact hashBy_key k _ n s Q x1 h
      · exact hashBy_keys ks _ n s x2 v hv Q h
end
end

/-! ### sets of tuples -/
/-- the value is the key k -/
def IsK (h : Heap) (k : NestedKey) (v : Value) : Prop := NestedIs h k v ∧ k.depth ≤ 8
theorem IsK.inj {h : Heap} {k j : NestedKey} {a : Value} (x : IsK h k a) (y : IsK h j a) : k = j := NestedIs.inj _ _ _ x.1 y.1
theorem IsK.at {h h' : Heap} {k : NestedKey} {a : Value} (x : IsK h k a) (kp : ∀ b o vs n, h.get? b = some o → o.data = .seq vs n → h'.get? b = some o) : IsK h' k a := ⟨NestedIs.at kp _ _ x.1, x.2⟩
theorem IsK.keep {h h' : Heap} {k : NestedKey} {a : Value} (x : IsK h k a) (kp : ∀ b o, h.get? b = some o → h'.get? b = some o) : IsK h' k a := x.at fun b o _ _ e _ => kp b o e
/-- a tuple is no set -/
theorem IsK.but {h h' : Heap} {k : NestedKey} {a : Addr} {b : Value} {o : Obj} {es : Array (Int × Value)} {ep : Nat} {t : SetTable} (x : IsK h k b) (ho : h.get? a = some o) (hd : o.data = .set es ep t) (hs : Heap.SameBut a h h') : IsK h' k b := x.at fun c q vs n hq hc => by
  refine (hs.2 c fun z => ?_).trans hq
  subst z
  rw [ho] at hq
  cases hq
  rw [hd] at hc
  cases hc
abbrev KL := List (Value × NestedKey)
def rowsG (w : World) (L : KL) : List (Int × Value) := L.map fun p => (p.2.hash w, p.1)
def hashG (w : World) (L : KL) : List Int := L.map fun p => p.2.hash w
def keysG (L : KL) : List NestedKey := L.map (·.2)
structure SetG (w : World) (h : Heap) (a : Addr) (L : KL) (es : Array (Int × Value)) (ep : Nat) (t : SetTable) : Prop where
  ob : ∃ o, h.get? a = some o ∧ o.ExactSet ∧ o.data = .set es ep t
  rows : es.toList = rowsG w L
  tab : TabG t (hashG w L)
  nd : (keysG L).Nodup
  key : ∀ p ∈ L, IsK h p.2 p.1
  led : w.params.followText "set-order" = true ∨ t.led = true
  room : L.length * 5 < t.mask * 3
/-- a search ends in time -/
def FitK (w : World) (ks : List NestedKey) : Prop := ∀ g : Int, 120 + 9 * ks.length + (ks.map (NestedKey.hash w)).count g < 100000
section
variable {P : Program} {w : World} {A : Around} {E : Value → Shared → Prop} {s : Shared} {a : Addr} {L : KL} {es : Array (Int × Value)} {ep : Nat} {t : SetTable}
theorem rowsG_len (hr : es.toList = rowsG w L) : es.size = L.length := by
  have h := congrArg List.length hr
  simpa [rowsG] using h
theorem hashG_len (L : KL) : (hashG w L).length = L.length := List.length_map _
theorem SetG.size (R : SetG w s.heap a L es ep t) : es.size = L.length := rowsG_len R.rows
theorem fits_of (hz : t.place.size = es.size) (hd : t.dummies = #[]) (hm : es.size ≤ t.mask) : t.fits es.size = true := by
  unfold SetTable.fits SetTable.fill
  rw [hd, Bool.and_eq_true, beq_iff_eq, decide_eq_true_eq]
  exact ⟨hz, by show t.place.size + 0 ≤ _; omega⟩
theorem SetG.fits (R : SetG w s.heap a L es ep t) : t.fits es.size = true := by
  have h1 := R.tab.sz
  rw [hashG_len] at h1
  have h2 := R.size
  have h3 := R.room
  exact fits_of (by omega) R.tab.dm (by omega)
theorem rowsG_at (hr : es.toList = rowsG w L) {i : Nat} {p : Value × NestedKey} (h : L[i]? = some p) : es[i]? = some (p.2.hash w, p.1) := by
  rw [← Array.getElem?_toList, hr]
  simp [rowsG, h]
theorem MaskG.odd {m : Nat} (h : MaskG m) : m % 2 = 1 := by
  obtain ⟨n, hn, e⟩ := h
  obtain ⟨k, rfl⟩ := Nat.le.dest hn
  have : 2 ^ (3 + k) = 2 * 2 ^ (2 + k) := by rw [show 3 + k = (2 + k) + 1 by omega, Nat.pow_succ, Nat.mul_comm]
  omega
theorem SetG.stays (R : SetG w s.heap a L es ep t) : ¬ t.gaveWay = true := by
  have := R.tab.mg.odd
  simp [SetTable.gaveWay, this]
theorem seen_key {k : NestedKey} {b : Addr} {Q : Bool → Shared → Prop} (hk : IsK s.heap k (.ref b)) {ys : List Value} (hy : ∀ y ∈ ys, ∃ j c, y = Value.ref c ∧ IsK s.heap j (.ref c)) (h : Q false s) : wpAny (model P w) A (searchCouldBeSeen (.ref b) ys) Q E s := by
  unfold searchCouldBeSeen
  refine wpAny_bind (wpAny_forIn_list _ (fun rest r s' => r.1 = none ∧ s' = s ∧ ∀ y ∈ rest, ∃ j c, y = Value.ref c ∧ IsK s.heap j (.ref c)) _ ?_ ?_ _ _ ⟨rfl, rfl, hy⟩)
  · rintro v rest r s' ⟨hr, e, hall⟩
    subst e
    obtain ⟨j, c, ev, hc⟩ := hall v List.mem_cons_self
    subst ev
    have more : ∀ y ∈ rest, ∃ j c, y = Value.ref c ∧ IsK s'.heap j (.ref c) := fun u hu => hall u (List.mem_cons_of_mem _ hu)
    dsimp only
    by_cases hv : (b == c || (carriedByValue (.ref b) && carriedByValue (.ref c))) = true
    · exact wp_if_pos hv (wpAny_pure ⟨rfl, rfl, more⟩)
    · refine wp_if_neg hv (wpAny_bind (quiet_key _ _ 8 _ hk.1 hk.2 _ _ _ ?_))
      simp only [Bool.not_true, Bool.false_eq_true, if_false]
      refine wpAny_bind (quiet_key _ _ 8 _ hc.1 hc.2 _ _ _ ?_)
      simp only [Bool.not_true, Bool.false_eq_true, if_false]
      refine wpAny_bind (ofAClass_key _ _ 8 _ _ hk.1 hk.2 ?_)
      simp only [Bool.false_eq_true, if_false]
      refine wpAny_bind (ofAClass_key _ _ 8 _ _ hc.1 hc.2 ?_)
      simp only [Bool.false_eq_true, if_false]
      exact wpAny_pure ⟨rfl, rfl, more⟩
  · rintro ⟨r1, r2⟩ s' ⟨hr, e, _⟩
    simp only at hr
    subst hr e
    exact wpAny_pure h

/-- the search from step c on -/
theorem search_go (R : SetG w s.heap a L es ep t) (hf0 : ∀ p ∈ L, ∃ b, p.1 = Value.ref b) {x : Addr} {k : NestedKey} (hx : IsK s.heap k (.ref x)) (hu : A.units + 8 < cLine) {g : Int} (hg : k.hash w = g) {K : Nat} (hKf : K < 10 * SetTable.turns t.mask)
    (hK : way t.mask g K ∉ t.place.toList) (hKb : ∀ c, c < K → way t.mask g c ∈ t.place.toList) {Q : SetFound → Shared → Prop} (hin : k ∈ keysG L → Q (.there none) s) (hout : k ∉ keysG L → Q (.free (way t.mask g K) false) s)
    {p0 : SetTable.Probe} (hp0 : runAt t.mask (SetTable.bits g % (t.mask + 1)) (SetTable.bits g) = p0) :
    ∀ (f c : Nat) (stand : Option SetTable.Probe), stand.getD (t.probeStart g) = nth t.mask p0 c → c ≤ K → cnt (slotsH t.place.toList (hashG w L) g) (way t.mask g) K - cnt (slotsH t.place.toList (hashG w L) g) (way t.mask g) c < f →
      (∀ (i : Nat) p, L[i]? = some p → p.2 = k → ∃ c', c ≤ c' ∧ c' < K ∧ t.place.toList[i]? = some (way t.mask g c')) → wpAny (model P w) A (setSearchFrom a (.ref x) g true f stand) Q E s
  | 0, c, stand, _, _, hf, _ => absurd hf (Nat.not_lt_zero _)
  | f + 1, c, stand, hst, hc, hf, hre => by
    obtain ⟨o, ho, hex, hd⟩ := R.ob
    rw [setSearchFrom_succ]
    refine wpAny_bind (wpAny_setState_of ho hd R.fits ?_)
    dsimp only
    refine wp_if_neg R.stays ?_
    try refine wpAny_bind (wpAny_pure ?_)
    have wq : ∀ q, (nth t.mask (nth t.mask p0 c) q).j = way t.mask g (c + q) := fun q => by rw [← nth_add, ← hp0]
    have nod : ∀ (n : Nat) (p : SetTable.Probe), p.dummy = none → (nth t.mask p n).dummy = none := by
      intro n
      induction n with
      | zero => exact fun p h => h
      | succ n ih => exact fun p h => ih _ (by unfold adv; split <;> exact h)
    have hashAt : ∀ (i : Nat) p, L[i]? = some p → (es[i]?.map (·.1)).getD 0 = p.2.hash w := fun i p hp => by rw [rowsG_at R.rows hp]; rfl
    have spec := go_spec t R.tab.ris R.tab.dm (fun i => (es[i]?.map (·.1)).getD 0) g (10 * SetTable.turns t.mask) (K - c) (nth t.mask p0 c) (nod _ _ (by rw [← hp0]; rfl)) (by omega) (fun q hq => by rw [wq]; exact hKb (c + q) (by omega)) (by rw [wq, show c + (K - c) = K by omega]; exact hK)
    have pe : t.probe (fun i => (es[i]?.map (·.1)).getD 0) g (stand.getD (t.probeStart g)) = SetTable.probe.go t (fun i => (es[i]?.map (·.1)).getD 0) g (10 * SetTable.turns t.mask) (nth t.mask p0 c) := by rw [hst]; rfl
    rcases spec with ⟨q, i, hq, hi, hh, hno, hpr⟩ | ⟨hno, hpr⟩
    · rw [pe, hpr, wq]
      dsimp only
      rw [wq] at hi
      have hil : i < L.length := by
        have h1 := (List.getElem?_eq_some_iff.mp hi).1
        rw [R.tab.len, hashG_len] at h1
        exact h1
      obtain ⟨p, hp⟩ : ∃ p, L[i]? = some p := ⟨_, List.getElem?_eq_getElem hil⟩
      have hmem : p ∈ L := List.mem_of_getElem? hp
      have hsl : t.slot (way t.mask g (c + q)) = .live i := slot_live R.tab.ris hi
      -- this step asks
      have ask : way t.mask g (c + q) ∈ slotsH t.place.toList (hashG w L) g := slotsH_mem hi (by
        have e := hashAt i p hp
        rw [show (es[i]?.map (·.1)).getD 0 = g from hh] at e
        simp [hashG, hp, e])
      have step : cnt (slotsH t.place.toList (hashG w L) g) (way t.mask g) c + 1 ≤ cnt (slotsH t.place.toList (hashG w L) g) (way t.mask g) (c + (q + 1)) := by
        have h1 := cnt_mono (slotsH t.place.toList (hashG w L) g) (way t.mask g) (Nat.le_add_right c q)
        have h2 : cnt (slotsH t.place.toList (hashG w L) g) (way t.mask g) (c + q + 1) = cnt (slotsH t.place.toList (hashG w L) g) (way t.mask g) (c + q) + 1 := by
          show _ + (if _ then 1 else 0) = _
          rw [if_pos ask]
        rw [← Nat.add_assoc, h2]
        omega
      have top : cnt (slotsH t.place.toList (hashG w L) g) (way t.mask g) (c + (q + 1)) ≤ cnt (slotsH t.place.toList (hashG w L) g) (way t.mask g) K := cnt_mono _ _ (by omega)
      have rest : wpAny (model P w) A (searchRest a (.ref x) g true f es t (way t.mask g (c + q)) i (nth t.mask (nth t.mask p0 c) (q + 1))) Q E s := by
        unfold searchRest
        obtain ⟨pv, pk⟩ := p
        obtain ⟨pb, hpb⟩ := hf0 _ hmem
        have hpb : pv = .ref pb := hpb
        subst hpb
        rw [rowsG_at R.rows hp]
        dsimp only
        refine wpAny_bind (wpAny_holding ((nestedKind P w).eqBool hu (R.key _ hmem) hx (wpAny_bind (wpAny_setState_of ho hd R.fits ?_))))
        dsimp only
        by_cases hkk : pk = k
        · exact wp_if_pos (by simp [hkk]) (wpAny_pure (hin (List.mem_map.mpr ⟨_, hmem, hkk⟩)))
        · refine wp_if_neg (by simp [hkk]) ?_
          try refine wpAny_bind (wpAny_pure ?_)
          rw [sameMem]
          dsimp only
          simp only [if_true, hsl, rowsG_at R.rows hp]
          refine wpAny_bind (wpAny_isSame_ref_self (wpAny_bind (wpAny_pure ?_)))
          simp only [if_true]
          refine wp_if_neg (by simp [hkk]) (search_go R hf0 hx hu hg hKf hK hKb hin hout hp0 f (c + (q + 1)) _ (by rw [← nth_add]; rfl) (by omega) (by omega) fun i0 p1 h0 hk0 => ?_)
          obtain ⟨c', a1, a2, a3⟩ := hre i0 p1 h0 hk0
          refine ⟨c', ?_, a2, a3⟩
          have z3 : c' < c + q ∨ c' = c + q ∨ c + (q + 1) ≤ c' := by omega
          rcases z3 with z | z | z
          · exact absurd ((hashAt i0 p1 h0).trans (by rw [hk0]; exact hg)) (hno (c' - c) i0 (by omega) (by rw [wq, show c + (c' - c) = c' by omega]; exact a3))
          · rw [z] at a3
            have s0 := slot_live R.tab.ris a3
            rw [hsl] at s0
            injection s0 with s0
            rw [← s0, hp] at h0
            cases h0
            exact absurd hk0 hkk
          · exact z
      by_cases hl : t.led = true
      · refine wp_if_neg (by simp [hl]) ?_
        try refine wpAny_bind (wpAny_pure ?_)
        exact rest
      · refine wp_if_pos (by simp [hl]) (wpAny_bind (seen_key hx (fun y hy => ?_) ?_))
        · obtain ⟨e, he, ee⟩ := List.mem_map.mp hy
          have he2 : e ∈ es.toList := by
            have he1 : e ∈ es ∧ e.1 = g := by simpa using he
            simpa using he1.1
          rw [R.rows] at he2
          obtain ⟨p2, hp2, e2⟩ := List.mem_map.mp he2
          obtain ⟨b2, hb2⟩ := hf0 p2 hp2
          refine ⟨p2.2, b2, by rw [← ee, ← e2, ← hb2], ?_⟩
          rw [← hb2]
          exact R.key p2 hp2
        · refine wp_if_neg (by decide) ?_
          try refine wpAny_bind (wpAny_pure ?_)
          exact rest
    · rw [pe, hpr, wq, show c + (K - c) = K by omega]
      dsimp only
      refine wpAny_pure (hout fun hm => ?_)
      obtain ⟨p1, h0, hk0⟩ := List.mem_map.mp hm
      obtain ⟨i0, hi0, e0⟩ := List.getElem_of_mem h0
      have h00 : L[i0]? = some p1 := by rw [List.getElem?_eq_getElem hi0, e0]
      obtain ⟨c', a1, a2, a3⟩ := hre i0 p1 h00 hk0
      exact hno (c' - c) i0 (by omega) (by rw [wq, show c + (c' - c) = c' by omega]; exact a3) ((hashAt i0 p1 h00).trans (by rw [hk0]; exact hg))
theorem search_key (R : SetG w s.heap a L es ep t) (hf0 : ∀ p ∈ L, ∃ b, p.1 = Value.ref b) {x : Addr} {k : NestedKey} (hx : IsK s.heap k (.ref x)) (hu : A.units + 8 < cLine) (fit : FitK w (keysG L)) {g : Int} (hg : k.hash w = g) {Q : SetFound → Shared → Prop} (hin : k ∈ keysG L → Q (.there none) s)
    (hout : ∀ K, k ∉ keysG L → way t.mask g K ∉ t.place.toList → (∀ c, c < K → way t.mask g c ∈ t.place.toList) → Q (.free (way t.mask g K) false) s) : wpAny (model P w) A (setSearch a (.ref x) g true) Q E s := by
  have hroom := R.room
  obtain ⟨K, hKf, hK, hKb⟩ := R.tab.open (by rw [hashG_len]; omega) g
  have few := asks_few R.tab (by rw [hashG_len]; omega) g hKb
  have bd := fit g
  have e1 : (keysG L).map (NestedKey.hash w) = hashG w L := by simp [keysG, hashG, Function.comp_def]
  rw [e1, show (keysG L).length = L.length from List.length_map _] at bd
  rw [hashG_len] at few
  unfold setSearch
  refine search_go R hf0 hx hu hg hKf hK hKb hin (fun hn => hout K hn hK hKb) rfl 100000 0 none rfl (Nat.zero_le _) (by show _ - 0 < _; omega) fun i p hp hk => ?_
  have hi : (hashG w L)[i]? = some g := by simp [hashG, hp, hk, hg]
  have hil : i < t.place.toList.length := by rw [R.tab.len, hashG_len]; exact (List.getElem?_eq_some_iff.mp hp).1
  obtain ⟨c, hc, e⟩ := R.tab.ahead hK hi (List.getElem?_eq_getElem hil)
  exact ⟨c, Nat.zero_le _, hc, by rw [List.getElem?_eq_getElem hil, e]⟩
end
end L3
namespace L3
open PySem PySem.Spec PyProof.Rows L2

section
variable {P : Program} {w : World} {A : Around} {E : Value → Shared → Prop} {s : Shared} {a : Addr} {L : KL} {es : Array (Int × Value)} {ep : Nat} {t : SetTable}
theorem keysG_nd {L2 : KL} (pm : L2.Perm L) (nd : (keysG L).Nodup) : (keysG L2).Nodup := (List.Perm.map (fun p : Value × NestedKey => p.2) pm).nodup_iff.mpr nd
/-- the rows, laid in another order -/
theorem rowsG_order {order : Array Nat} (hr : es.toList = rowsG w L) (hp : order.toList.Perm (List.range L.length)) :
    ∃ L2 : KL, (order.filterMap (es[·]?)).toList = rowsG w L2 ∧ L2.Perm L ∧ hashG w L2 = order.toList.map fun i => (es.map (·.1)).getD i 0 := by
  have key : ∀ l : List Nat, (∀ i ∈ l, i < L.length) → ∃ L2 : KL, l.filterMap (fun i => es[i]?) = rowsG w L2 ∧ L2 = l.filterMap (fun i => L[i]?) ∧ hashG w L2 = l.map fun i => (es.map (·.1)).getD i 0 := by
    intro l
    induction l with
    | nil => exact fun _ => ⟨[], rfl, rfl, rfl⟩
    | cons i l ih =>
      intro hl
      have hi := hl i List.mem_cons_self
      obtain ⟨L2, e1, e2, e3⟩ := ih fun j hj => hl j (List.mem_cons_of_mem _ hj)
      have ei := rowsG_at hr (List.getElem?_eq_getElem hi)
      refine ⟨L[i] :: L2, ?_, ?_, ?_⟩
      · rw [List.filterMap_cons_some ei, e1]; rfl
      · rw [List.filterMap_cons_some (List.getElem?_eq_getElem hi), e2]
      · have e5 : (es.map (·.1))[i]? = some ((L[i]).2.hash w) := by rw [Array.getElem?_map, ei]; rfl
        show (L[i]).2.hash w :: hashG w L2 = _ :: _
        rw [e3]
        congr 1
        simp [Array.getD_eq_getD_getElem?, e5]
  obtain ⟨L2, e1, e2, e3⟩ := key order.toList fun i hi => List.mem_range.mp (hp.mem_iff.mp hi)
  refine ⟨L2, by rw [Array.toList_filterMap]; exact e1, ?_, e3⟩
  have h2 : (List.range L.length).filterMap (fun i => L[i]?) = L := by
    apply List.ext_getElem?
    intro i
    have k2 : ∀ n, n ≤ L.length → (List.range n).filterMap (fun i => L[i]?) = L.take n := by
      intro n
      induction n with
      | zero => exact fun _ => rfl
      | succ n ih =>
        intro hn
        have e := List.getElem?_eq_getElem (l := L) (i := n) hn
        rw [List.range_succ, List.filterMap_append, ih (Nat.le_of_lt hn), List.take_succ, List.filterMap_cons_some e, e]
        rfl
    rw [k2 _ (Nat.le_refl _), List.take_length]
  rw [e2]
  have := hp.filterMap fun i => L[i]?
  rwa [h2] at this
theorem mask_room {n m : Nat} (h : SetTable.sizeAbove (SetTable.grown n) = m + 1) (h2 : SetTable.grown n < m + 1) (hn : 1 ≤ n) (hs : n ≤ 50000) : n * 5 < m * 3 ∧ n ≤ m := by
  unfold SetTable.grown at h2
  rw [if_neg (by omega)] at h2
  omega
/-- the table laid anew -/
theorem relayG {o : Obj} (ho : s.heap.get? a = some o) (hex : o.ExactSet) (hd : o.data = .set es ep t) (hr : es.toList = rowsG w L) (T : TabG t (hashG w L)) (hfl : L.length ≤ t.mask) (nd : (keysG L).Nodup) (key : ∀ p ∈ L, IsK s.heap p.2 p.1)
    (ld : w.params.followText "set-order" = true ∨ t.led = true) (h1 : 1 ≤ L.length) (h2 : L.length ≤ 50000) {Q : Unit → Shared → Prop} (hQ : ∀ h' L' es' ep' t', Heap.SameBut a s.heap h' → SetG w h' a L' es' ep' t' → L'.Perm L → Q () { s with heap := h' }) :
    wpAny (model P w) A (setRelay a (SetTable.grown L.length)) Q E s := by
  have hsl := rowsG_len hr
  have hts : t.place.size = es.size := by rw [T.sz, hashG_len, hsl]
  have hg : SetTable.grown L.length = L.length * 4 := by unfold SetTable.grown; rw [if_neg (by omega)]
  obtain ⟨m, e0, hm, hlt, hup⟩ := size_above (n := SetTable.grown L.length) (by rw [hg]; exact Nat.lt_of_le_of_lt (show L.length * 4 ≤ 200000 by omega) (by decide))
  obtain ⟨r1, r2⟩ := mask_room e0 hlt h1 h2
  obtain ⟨t', order, e, hp, T', em, el, ed⟩ := relaid_at t (hs := es.map (·.1)) (wanted := SetTable.grown L.length) (m := m) (by rw [e0]; rfl) hm (by rw [Array.size_map, hsl]; exact r2)
  rw [Array.size_map, hsl] at hp
  obtain ⟨L2, q1, q2, q3⟩ := rowsG_order hr hp
  rw [← q3] at T'
  have hs2 : (order.filterMap (es[·]?)).size = es.size := by rw [rowsG_len q1, q2.length_eq, hsl]
  rw [setRelay_eq]
  refine wpAny_bind (wpAny_setState_of ho hd (fits_of hts T.dm (by omega)) ?_)
  dsimp only
  refine wp_if_neg (by rw [e0, sizeLine_eq]; omega) ?_
  try refine wpAny_bind (wpAny_pure ?_)
  rw [e]
  dsimp only
  refine wpAny_bind (wp_if_neg (by rw [hs2]; simp) ?_)
  try refine wpAny_bind (wpAny_pure ?_)
  refine wpAny_pure (show wpAny _ _ (storeSet a _ _) _ _ _ from wpAny_storeSet_of ho hd ?_ (by rw [hs2, hsl, sizeLine_eq]; omega))
  have sb : Heap.SameBut a s.heap (s.heap.update a (Obj.putSet (order.filterMap (es[·]?)) t')) := Heap.SameBut.update ..
  exact hQ _ L2 _ (ep + 1) t' sb ⟨⟨_, store_at ho hd, ⟨hex.1, hex.2.1, hex.2.2⟩, rfl⟩, q1, T', keysG_nd q2 nd, fun p hpm => (key p (q2.mem_iff.mp hpm)).but ho hd sb, by rw [el]; exact ld, by rw [q2.length_eq, em]; exact r1⟩ q2
/-- a member put in -/
theorem addG (R : SetG w s.heap a L es ep t) (hf0 : ∀ p ∈ L, ∃ b, p.1 = Value.ref b) {x : Addr} {k : NestedKey} (hx : IsK s.heap k (.ref x)) (hu : A.units + 8 < cLine) (fit : FitK w (keysG L)) (hfew : L.length < 50000) {g : Int} (hg : k.hash w = g) {Q : Bool → Shared → Prop}
    (hQ : ∀ b h' L' es' ep' t', Heap.SameBut a s.heap h' → SetG w h' a L' es' ep' t' → (k ∈ keysG L → L' = L) → (k ∉ keysG L → L'.Perm ((Value.ref x, k) :: L)) → Q b { s with heap := h' }) : wpAny (model P w) A (setAddHashed a (.ref x) g) Q E s := by
  obtain ⟨o, ho, hex, hd⟩ := R.ob
  have hroom := R.room
  unfold setAddHashed
  refine wpAny_holding ?_
  rw [show (100000 : Nat) = Nat.succ 99999 from rfl, setAddHashedIn_succ]
  refine wpAny_bind (wpAny_setState_of ho hd R.fits ?_)
  dsimp only
  refine wp_if_neg (by simp [byScan, Value.scannable]) ?_
  try refine wpAny_bind (wpAny_pure ?_)
  refine wpAny_bind (search_key R hf0 hx hu fit hg (fun hm => wpAny_pure (hQ false s.heap L es ep t (Heap.SameBut.refl a s.heap) R (fun _ => rfl) fun z => absurd hm z)) fun K hm hK hb => ?_)
  dsimp only
  refine wpAny_bind (wpAny_setState_of ho hd R.fits ?_)
  dsimp only
  generalize hj : way t.mask g K = j
  obtain ⟨q1, q2, q3, q4, q5, q6⟩ := R.tab.put hK hb hj
  generalize t.put j = pt at q1 q3 q4 q5 q6 ⊢
  obtain ⟨t1, n⟩ := pt
  dsimp only at q1 q3 q4 q5 q6 ⊢
  subst q1
  generalize SetTable.below t.place j = n at q2 q3 ⊢
  rw [hashG_len] at q2 q6
  have pm := put_perm L n (Value.ref x, k)
  have hin : (SetTable.insertAt es n (g, Value.ref x)).toList = rowsG w (L.take n ++ (Value.ref x, k) :: L.drop n) := by
    rw [SetTable.toList_insertAt, R.rows]
    simp [rowsG, hg, List.map_take, List.map_drop]
  have hh : hashG w (L.take n ++ (Value.ref x, k) :: L.drop n) = (hashG w L).take n ++ g :: (hashG w L).drop n := by simp [hashG, hg, List.map_take, List.map_drop]
  rw [← hh] at q3
  generalize L.take n ++ (Value.ref x, k) :: L.drop n = L1 at pm hin q3
  have hlen : L1.length = L.length + 1 := pm.length_eq
  have hes : (SetTable.insertAt es n (g, Value.ref x)).size = L.length + 1 := by rw [rowsG_len hin, hlen]
  generalize SetTable.insertAt es n (g, Value.ref x) = es1 at hin hes ⊢
  have nd1 : (keysG L1).Nodup := keysG_nd pm (List.nodup_cons.mpr ⟨hm, R.nd⟩)
  -- whatever is known of the hashes
  have tail : ∀ t2 : SetTable, TabG t2 (hashG w L1) → t2.mask = t.mask → t2.led = t.led → t2.fill = L.length + 1 → wpAny (model P w) A (do
      storeSet a es1 t2
      if (!false && t2.tooFull) = true then setRelay a (SetTable.grown (es.size + 1))
      return true) Q E s := fun t2 T em el ef => by
    refine wpAny_bind (wpAny_storeSet_of ho hd ?_ (by rw [hes, sizeLine_eq]; omega))
    have sb : Heap.SameBut a s.heap (s.heap.update a (Obj.putSet es1 t2)) := Heap.SameBut.update ..
    have ho1 := store_at (es' := es1) (t' := t2) ho hd
    generalize s.heap.update a (Obj.putSet es1 t2) = h1 at sb ho1 ⊢
    have key1 : ∀ p ∈ L1, IsK h1 p.2 p.1 := fun p hp => by
      rcases List.mem_cons.mp (pm.mem_iff.mp hp) with e | hp
      · rw [e]; exact hx.but ho hd sb
      · exact (R.key p hp).but ho hd sb
    have ld1 : w.params.followText "set-order" = true ∨ t2.led = true := by rw [el]; exact R.led
    by_cases hf : t2.tooFull = true
    · have go : wpAny (model P w) A (setRelay a (SetTable.grown L1.length)) (fun _ s' => wpAny (model P w) A (pure true) Q E s') E { s with heap := h1 } :=
        relayG (s := { s with heap := h1 }) ho1 ⟨hex.1, hex.2.1, hex.2.2⟩ rfl hin T (by rw [hlen, em]; omega) nd1 key1 ld1 (by omega) (by omega) fun h2 L2 es2 ep2 t3 sb2 R2 pm2 => wpAny_pure (hQ true h2 L2 es2 ep2 t3 (sb.trans sb2) R2 (fun z => absurd z hm) fun _ => pm2.trans pm)
      rw [hlen, ← R.size] at go
      first
        | exact wpAny_bind (wp_if_pos (by simp [hf]) go)
        | exact wp_if_pos (by simp [hf]) (wpAny_bind go)
    · have fin : wpAny (model P w) A (pure true) Q E { s with heap := h1 } := wpAny_pure (hQ true h1 L1 es1 (ep + 1) t2 sb ⟨⟨_, ho1, ⟨hex.1, hex.2.1, hex.2.2⟩, rfl⟩, hin, T, nd1, key1, ld1, by
        unfold SetTable.tooFull at hf
        rw [decide_eq_true_eq, ef] at hf
        rw [hlen]
        omega⟩ (fun z => absurd z hm) fun _ => pm)
      first
        | exact wp_if_neg (by simp [hf]) fin
        | exact wpAny_bind (wp_if_neg (by simp [hf]) (wpAny_pure fin))
  have noplain : TabG { t1 with plain := false } (hashG w L1) := ⟨q3.ris, q3.dm, q3.sz, q3.mg, q3.bd, q3.reach⟩
  cases hpl : t1.plain with
  | true =>
    simp only [hpl, if_true]
    refine wpAny_bind (hashBy_key k _ 8 s _ hx.1 fun b => ?_)
    cases b with
    | true => exact tail t1 q3 q4 q5 q6
    | false => exact tail { t1 with plain := false } noplain q4 q5 q6
  | false =>
    simp only [hpl, Bool.false_eq_true, if_false]
    refine wpAny_bind (wpAny_pure ?_)
    exact tail t1 q3 q4 q5 q6
end
end L3
namespace L3
open PySem PySem.Spec PyProof.Rows L2

/-! ### a set's members, gathered -/
section
variable {P : Program} {w : World} {A : Around} {E : Value → Shared → Prop} {s : Shared} {a : Addr} {es : Array (Int × Value)} {ep : Nat} {t : SetTable}
theorem iterG {Q : Value → Shared → Prop} (sa : SetAt s.heap a es ep t) (fi : t.fits es.size = true) (few : es.size ≤ sizeLine) (ri : Ris t.place.toList) (ld : w.params.followText "set-order" = true ∨ t.led = true)
    (fin : ∀ s2 I, SetIt P w s a es s2 I → Q (.ref I) s2) : wpAny (model P w) A (pyIter (.ref a)) Q E s := by
  obtain ⟨ob, ho, hc, hd⟩ := id sa
  have ty : s.TypeIs (.ref a) "set" := ⟨ob, ho, hc⟩
  have alt : a < s.heap.objs.size := Heap.lt_size ho
  refine wpAny_pyIter_slot ty F.slot_set_iter (wpAny_call_entry F.slot_set_iter ty entry_s_iter ?_ (F.args_set_iter_1 _))
  unfold Builtin.«frozenset.__iter__» Builtin.Frozenset.sizeOf
  refine wpAny_bind (m := Builtin.Frozenset.slot0 "__iter__" _) (wpAny_of_eq (a := a) (by rfl) ?_)
  refine wpAny_bind (wpAny_bind (wpAny_setEntries_of ho hd fi (wpAny_pure ?_)))
  first | refine wpAny_bind (setDrawn_at sa fi ?_) | refine wpAny_bind (wpAny_bind (setDrawn_at sa fi ?_))
  -- where the order is that of a list l
  have newIt : ∀ {first : Value} {n : Nat}, (s.heap.push { cls := .type "set_iterator", data := .fields #[first, .int ((0 : Nat) : Int) 0, .ref a, .int (es.size : Int) 0, .int (ep : Int) 0] }).get? s.heap.objs.size = some { cls := .type "set_iterator", data := .fields #[first, .int ((0 : Nat) : Int) 0, .ref a, .int (es.size : Int) 0, .int (ep : Int) 0] } := Heap.get?_push_size _ rfl
  have ne1 : a ≠ s.heap.objs.size := Nat.ne_of_lt alt
  have fpo : ∀ b ∈ [s.heap.objs.size, a], b = a ∨ s.heap.objs.size ≤ b := fun b hb => by
    rcases List.mem_cons.mp hb with z | z
    · exact .inr (Nat.le_of_eq z.symm)
    · exact .inl (List.mem_singleton.mp z)
  cases q : w.params.followText "set-order" with
  | true =>
    refine wp_if_neg (by simp) ?_
    first | refine wpAny_bind (wpAny_pure ?_) | refine wpAny_pure ?_
    refine wpAny_bind (wpAny_setEpoch_of ho hd fi (wpAny_bind (wpAny_newObj_type (wpAny_pure ⟨_, rfl, "set_iterator", _, ⟨_, Heap.get?_push_size _ rfl, rfl⟩, slot_si_next.lookup, ?_⟩))))
    refine fin _ _ (SetIt.of (n := (pickOrder (w.params.setOrder a ep) es).size) (out := (pickOrder (w.params.setOrder a ep) es).toList.map (·.2)) (fun A' hA' => walks_text (P := P) (ep := ep) hA' ne1 fi q) (by simp) (fun b u e => Heap.get?_push_of_some _ e) rfl rfl rfl (Nat.le_refl _) fpo ((pick_perm _ es).map _) (fun j v z => by rw [List.getElem?_map, Array.getElem?_toList]; exact z)
      ⟨⟨_, Heap.get?_push_size _ rfl, rfl, rfl⟩, sa.at fun u e => Heap.get?_push_of_some _ e⟩)
  | false =>
    have led : t.led = true := ld.resolve_left (by rw [q]; exact Bool.false_ne_true)
    cases dr : (!t.plain && decide (es.size > 1)) with
    | false =>
      refine wp_if_neg (by simp) ?_
      first | refine wpAny_bind (wpAny_pure ?_) | refine wpAny_pure ?_
      refine wpAny_bind (wpAny_setEpoch_of ho hd fi (wpAny_bind (wpAny_newObj_type (wpAny_pure ⟨_, rfl, "set_iterator", _, ⟨_, Heap.get?_push_size _ rfl, rfl⟩, slot_si_next.lookup, ?_⟩))))
      refine fin _ _ (SetIt.of (n := es.size) (out := es.toList.map (·.2)) (fun A' hA' => walks_led (P := P) (ep := ep) hA' ne1 fi ri q dr led) (by simp) (fun b u e => Heap.get?_push_of_some _ e) rfl rfl rfl (Nat.le_refl _) fpo (List.Perm.refl _) (fun j v z => by rw [List.getElem?_map, Array.getElem?_toList]; exact z)
        ⟨⟨_, Heap.get?_push_size _ rfl, rfl, rfl⟩, sa.at fun u e => Heap.get?_push_of_some _ e⟩)
    | true =>
      refine wp_if_pos rfl (wpAny_bind (drawOrder_at _ _ _ _ (Nat.le_of_eq List.length_range) fun ys d pm => ?_))
      have yl : ys.length = es.size := by rw [pm.length_eq, List.length_range]
      have ylen : (ys.map fun (k : Nat) => rawInt (k : Int)).length ≤ sizeLine := by rw [List.length_map, yl]; exact few
      first | refine wpAny_bind (wpAny_newTuple ?_ ylen) | refine wpAny_newTuple ?_ ylen
      have up : ∀ (x : Obj) b u, s.heap.get? b = some u → (s.heap.push x).get? b = some u := fun x b u e => Heap.get?_push_of_some _ e
      refine wpAny_bind (wpAny_setEpoch_of (up _ _ _ ho) hd fi (wpAny_bind (wpAny_newObj_type (wpAny_pure ⟨_, rfl, "set_iterator", _, ⟨_, Heap.get?_push_size _ rfl, rfl⟩, slot_si_next.lookup, ?_⟩))))
      have sz2 : ∀ x : Obj, (s.heap.push x).objs.size = s.heap.objs.size + 1 := fun x => size_push' _ _
      have inr : ∀ j ∈ ys, j < es.size := fun j hj => List.mem_range.mp (pm.mem_iff.mp hj)
      have outp : (ys.map fun q => ((es[q]?).map (·.2)).getD Value.none).Perm (es.toList.map (·.2)) := by
        have := pm.map fun q => ((es[q]?).map (·.2)).getD Value.none
        rwa [range_map es] at this
      have iz := sz2 { cls := .type "tuple", data := .seq (ys.map fun (k : Nat) => rawInt (k : Int)).toArray }
      refine fin _ _ (SetIt.of (n := ys.length) (fun A' hA' => walks_drawn (P := P) (w := w) (ep := ep) (t := t) (p := s.heap.objs.size) hA' (by rw [iz]; exact Nat.ne_of_lt (Nat.lt_succ_of_lt alt)) (by rw [iz]; exact Nat.ne_of_lt (Nat.lt_succ_self _)) fi inr) (List.length_map _) (fun b u e => Heap.get?_push_of_some _ (up _ b u e)) rfl rfl rfl (by rw [iz]; exact Nat.le_succ _) (fun b hb => ?_) outp
        (fun j v z => ?_) ⟨⟨_, Heap.get?_push_size _ rfl, rfl, rfl⟩, sa.at fun u e => Heap.get?_push_of_some _ (up _ a u e), Heap.get?_push_of_some _ (Heap.get?_push_size _ rfl)⟩)
      · simp only [List.mem_cons, List.not_mem_nil, or_false] at hb
        rcases hb with z | z | z
        · right; rw [z, iz]; exact Nat.le_succ _
        · exact .inl z
        · right; rw [z]; exact Nat.le_refl _
      · rw [List.getElem?_map]
        cases hy : ys[j]? with
        | none => rw [hy] at z; cases z
        | some k =>
          rw [hy] at z
          show some (((es[k]?).map (·.2)).getD Value.none) = some v
          rw [show (es[k]?).map (·.2) = some v from z]
          rfl

theorem collectG {Q : List Value → Shared → Prop} (hh : A.handled = none) (sa : SetAt s.heap a es ep t) (fi : t.fits es.size = true) (few : es.size ≤ sizeLine) (ri : Ris t.place.toList) (ld : w.params.followText "set-order" = true ∨ t.led = true)
    (fin : ∀ s' out, (∀ b o, s.heap.get? b = some o → s'.heap.get? b = some o) → s.heap.objs.size ≤ s'.heap.objs.size → s'.gens = s.gens → s'.os = s.os → out.Perm (es.toList.map (·.2)) → Q out s') : wpAny (model P w) A (collect (.ref a)) Q E s := by
  obtain ⟨ob, ho, hc, hd⟩ := id sa
  have alt : a < s.heap.objs.size := Heap.lt_size ho
  have neS : s.heap.objs.size ≠ a := Nat.ne_of_gt alt
  unfold collect
  refine wpAny_bind (wpAny_runValue (codeAny_builtin F.entry_proto_collect ?_))
  rw [Around.under_plainId F.plain_proto_collect _]
  refine wpAny_bind (show wpAny _ A.in1 (newList []) _ _ s from wpAny_newObj_type (wpAny_pure ⟨plainId_quiet F.plain_list_iadd _, codeAny_builtin F.entry_list_iadd ?_⟩))
  rw [Around.under_plainId F.plain_list_iadd _]
  generalize hp1 : s.heap.push { cls := .type "list", data := .seq ([] : List Value).toArray } = h1
  have atS : h1.get? s.heap.objs.size = some { cls := .type "list", data := .seq ([] : List Value).toArray } := by rw [← hp1]; exact Heap.get?_push_size _ rfl
  have up1 : ∀ b u, s.heap.get? b = some u → h1.get? b = some u := fun b u e => by rw [← hp1]; exact Heap.get?_push_of_some _ e
  have z1 : h1.objs.size = s.heap.objs.size + 1 := by rw [← hp1]; exact size_push' _ _
  show wpAny _ A.in1 (Builtin.List.listExtendWith (.ref s.heap.objs.size) (.ref a) (.ref s.heap.objs.size)) _ _ { s with heap := h1 }
  unfold Builtin.List.listExtendWith
  refine wpAny_bind (wpAny_typeOf (T := "set") ⟨ob, up1 _ _ ho, hc⟩ ?_)
  rw [show Builtin.List.listSameRef (.ref s.heap.objs.size) (.ref a) = false by simp [Builtin.List.listSameRef, neS], show (Value.type "set" == Value.type "list") = false by decide, show (Value.type "set" == Value.type "tuple") = false by decide]
  simp only [Bool.or_false, Bool.false_eq_true, if_false]
  refine wpAny_bind (iterG (s := { s with heap := h1 }) (sa.at fun u e => up1 a u e) fi few ri ld fun s2 I it2 => ?_)
  obtain ⟨fp, Sn, out, Pv, k2, g2, o2, t2, hI, hfp, hp, hW, hPv, hst⟩ := it2
  have hI1 : s.heap.objs.size + 1 ≤ I := by rw [← z1]; exact hI
  have offS : s.heap.objs.size ∉ fp := fun hm => by
    rcases hfp _ hm with z | z
    · exact neS z
    · have : h1.objs.size ≤ s.heap.objs.size := z
      omega
  have ho2 := k2 a ob (up1 _ _ ho)
  have ty2 : s2.TypeIs (.ref a) "set" := ⟨ob, ho2, hc⟩
  refine wpAny_bind (wpAny_holding ?_)
  unfold Builtin.List.listLengthHint
  refine wpAny_bind (wpAny_specialOf ty2 F.slot_set_len.lookup ?_)
  (generalize hi0 : ("set.__len__" : String) = i0; (fail_if_success (clear hi0 i0)); wp_delta; rw [show splitId i0 = some ("set", "__len__") from by subst hi0; decide +kernel]; subst hi0)
  refine wpAny_bind (wpAny_isInstance (b := true) ty2 sub_set_self (wpAny_bind (wpAny_typeOf ty2 (wpAny_pure ?_))))
  refine wpAny_bind (show wpAny _ A.in1 (rule "list.extend.makes-room") _ _ _ from wpAny_rule ?_)
  have at2 := k2 _ _ atS
  refine wpAny_bind (show wpAny _ A.in1 (updateSeq s.heap.objs.size (·.push .none) >>= fun _ => updateSeq s.heap.objs.size (·.pop)) _ _ _ from wpAny_bind (wpAny_updateSeq at2 rfl ?_))
  have at3 := Heap.get?_update_self (Obj.mapSeq (·.push Value.none)) at2 rfl
  refine wpAny_updateSeq at3 rfl ?_
  have at4 := Heap.get?_update_self (Obj.mapSeq (·.pop)) at3 rfl
  generalize hp4 : (s2.heap.update s.heap.objs.size (Obj.mapSeq (·.push Value.none))).update s.heap.objs.size (Obj.mapSeq (·.pop)) = h4 at at4
  have oth : ∀ b u, b ≠ s.heap.objs.size → s2.heap.get? b = some u → h4.get? b = some u := fun b u hb e => by
    rw [← hp4]
    exact (Heap.get?_update_other _ _ (Ne.symm hb)).trans ((Heap.get?_update_other _ _ (Ne.symm hb)).trans e)
  have lenO : out.length ≤ sizeLine := by rw [hp.length_eq, List.length_map, Array.length_toList]; exact few
  have Wk := hW A.in1 hh
  have st4 : Sn 0 h4 := Wk.frame 0 _ _ hst fun b hb u e => oth b u (fun z => offS (z ▸ hb)) e
  refine wpAny_pure ⟨plainId_quiet F.plain_extend_loop _, codeAny_extend_loopS Wk.toS lenO _ offS _ out.length 0 _ _ _ rfl (Nat.zero_le _) st4 at4 (ItemsOf.nil Pv) fun s' acc c' hm hS' hacc => ?_⟩
  refine wpAny_bind (show wpAny _ A (load s.heap.objs.size) _ _ s' from wpAny_load hS' (wpAny_pure ?_))
  show Q acc.toList s'
  rw [items_out hacc hPv]
  refine fin s' out (fun b u e => ?_) (Nat.le_of_lt (Heap.lt_size hS')) (Eq.trans hm.gens g2) (Eq.trans hm.os o2) hp
  have bl : b < s.heap.objs.size := Heap.lt_size e
  refine hm.heap b u (fun z => ?_) (oth b u (Nat.ne_of_lt bl) (k2 b u (up1 b u e)))
  simp only [List.mem_cons, List.not_mem_nil, or_false] at z
  rcases z with z | z
  · first | (rw [z] at bl; exact Nat.lt_irrefl _ bl) | (rw [z] at bl; exact Nat.not_lt_of_le (Nat.le_of_succ_le hI1) bl)
  · first | (rw [z] at bl; exact Nat.lt_irrefl _ bl) | (rw [z] at bl; exact Nat.not_lt_of_le (Nat.le_of_succ_le hI1) bl)
/-- sorted(set), whatever the members stand for -/
theorem sortedG {β : Type} {enc : β → PyData} {R : Value → β → Prop} {Q : Value → Shared → Prop} (hh : A.handled = none) (sa : SetAt s.heap a es ep t) (fi : t.fits es.size = true) (few : es.size ≤ sizeLine) (ri : Ris t.place.toList) (ld : w.params.followText "set-order" = true ∨ t.led = true)
    (hR : ∀ vs, vs.Perm (es.toList.map (·.2)) → ∃ bs, PySem.W.EachIs R vs bs ∧ (∀ v b, R v b → Reads s.heap v (enc b) []) ∧ PySem.W.AllAlike (bs.map enc) ∧ PySem.W.Sortable (bs.map enc) ∧ (∀ b ∈ bs, A.units + 2 + (enc b).depth < cLine) ∧
      ∀ s' p out c, (∀ b o, s.heap.get? b = some o → s'.heap.get? b = some o) → s'.gens = s.gens → s'.os = s.os → s.heap.objs.size ≤ p → s'.heap.get? p = some (seqObj "list" (List.toArray out) c) → PySem.W.EachIs R out (bs.mergeSort (PySem.W.dataLe false enc)) → Q (.ref p) s') :
    wpAny (model P w) A (call (.builtin "sorted") [.ref a]) Q E s := by
  refine Calls.call_function_entry kind_sorted plain_sorted entry_sorted (args_sorted1 _) ?_
  unfold Builtin.«sorted»
  refine wpAny_bind (m := checkCount "sorted" 1 1 _) (wpAny_pure (wpAny_bind (collectG (A := A.in1) hh sa fi few ri ld fun s1 vs k1 hz g1 o1 pm => ?_)))
  obtain ⟨bs, e1, e2, e3, e4, e5, hQ⟩ := hR vs pm
  have vl : vs.length ≤ sizeLine := by rw [pm.length_eq, List.length_map, Array.length_toList]; exact few
  refine wpAny_bind (wpAny_newList ?_ vl)
  have atL : (s1.heap.push (seqObj "list" vs.toArray 0)).get? s1.heap.objs.size = some (seqObj "list" vs.toArray 0) := Heap.get?_push_size _ rfl
  have kp : ∀ b o, s.heap.get? b = some o → (s1.heap.push (seqObj "list" vs.toArray 0)).get? b = some o := fun b o e => Heap.get?_push_of_some _ (k1 b o e)
  have k0 : ∀ (s2 : Shared) (vs : List Value) (bs : List β), PySem.W.EachIs R vs bs → (∀ b o, s.heap.get? b = some o → s2.heap.get? b = some o) → PySem.W.EachIs (fun v b => ∃ as, Reads s2.heap v (enc b) as ∧ s1.heap.objs.size ∉ as) vs bs := fun s2 vs bs e k => e.mono fun v b r => ⟨[], PyProof.Rows.Reads.keeps k (e2 v b r), by simp⟩
  refine wpAny_bind (wpAny_holding (PySem.W.list_sort_data (s := { s1 with heap := s1.heap.push (seqObj "list" vs.toArray 0) }) (n := 0) (bs := bs) (enc := enc) (R := R) atL e1 (k0 _ vs bs e1 kp) e3 e4 (by rw [← e1.length]; exact vl) (fun b hb => by
    have := e5 b hb
    simp only [Around.in1_units]
    omega) fun out ho eo => ?_))
  obtain ⟨c, hc⟩ := sortedHeap_at (vs := vs) (out := out.toArray) atL
  refine wpAny_pure ⟨_, rfl, hQ _ s1.heap.objs.size out c (fun b u e => ?_) g1 o1 hz hc eo⟩
  have q := k1 b u e
  have hlt := Heap.lt_size q
  show (sortedHeap (s1.heap.push (seqObj "list" vs.toArray 0)) s1.heap.objs.size vs out.toArray).get? b = some u
  rw [sortedHeap_old (Nat.ne_of_lt hlt) (by rw [size_push']; exact Nat.lt_succ_of_lt hlt)]
  exact Heap.get?_push_of_some _ q
end
end L3
set_option maxHeartbeats 3200000
namespace L3
open PySem PySem.Spec PyProof.Rows L2

section
variable {P : Program} {w : World} {A : Around} {E : Value → Shared → Prop} {s : Shared} {a : Addr} {L : KL} {es : Array (Int × Value)} {ep : Nat} {t : SetTable}
/-- all members are tuples (or the like) -/
def Refs (L : KL) : Prop := ∀ p ∈ L, ∃ b, p.1 = Value.ref b
abbrev freshSet (w : World) : Obj := { cls := .type "set", dict := none, data := .set #[] 0 (.fresh 0 0 (!w.params.followText "set-order")) }
theorem setG_new {h : Heap} (ho : h.get? a = some (freshSet w)) : SetG w h a [] #[] 0 (.fresh 0 0 (!w.params.followText "set-order")) where
  ob := ⟨_, ho, ⟨rfl, rfl, rfl⟩, rfl⟩
  rows := rfl
  tab := ⟨List.Pairwise.nil, rfl, rfl, ⟨3, Nat.le_refl _, rfl⟩, (fun x hx => nomatch hx), fun i h j hi => by simp [hashG] at hi⟩
  nd := List.nodup_nil
  key := fun p hp => nomatch hp
  led := by
    show _ ∨ (!w.params.followText "set-order") = true
    cases w.params.followText "set-order"
    · exact .inr rfl
    · exact .inl rfl
  room := by
    show 0 * 5 < 7 * 3
    decide
theorem SetG.keep {h h' : Heap} (R : SetG w h a L es ep t) (ha : ∀ o, h.get? a = some o → h'.get? a = some o) (hk : ∀ p ∈ L, IsK h' p.2 p.1) : SetG w h' a L es ep t := by
  obtain ⟨o, ho, r⟩ := R.ob
  exact ⟨⟨o, ha o ho, r⟩, R.rows, R.tab, R.nd, hk, R.led, R.room⟩
/-- o.add(v), within the call -/
theorem set_put (R : SetG w s.heap a L es ep t) (rf : Refs L) {x : Addr} {k : NestedKey} (hx : IsK s.heap k (.ref x)) (hu : A.units + 9 < cLine) (fit : FitK w (keysG L)) (few : L.length < 50000) {Q : Bool → Shared → Prop}
    (hQ : ∀ b h' L' es' ep' t', Heap.SameBut a s.heap h' → SetG w h' a L' es' ep' t' → (k ∈ keysG L → L' = L) → (k ∉ keysG L → L'.Perm ((Value.ref x, k) :: L)) → Q b { s with heap := h', toks := s.toks + k.draws }) : wpAny (model P w) A (setAdd a (.ref x)) Q E s := by
  unfold setAdd
  exact wpAny_holding (wpAny_bind (pyHash_key _ _ _ _ _ hx.1 (by have := hx.2; omega) (addG (s := { s with toks := s.toks + k.draws }) R rf hx (by omega) fit few rfl fun b h' L' es' ep' t' sb R' c1 c2 => hQ b h' L' es' ep' t' sb R' c1 c2)))
theorem call_put (R : SetG w s.heap a L es ep t) (rf : Refs L) {x : Addr} {k : NestedKey} (hx : IsK s.heap k (.ref x)) (hu : A.units + 10 < cLine) (fit : FitK w (keysG L)) (few : L.length < 50000) {Q : Value → Shared → Prop}
    (hQ : ∀ h' L' es' ep' t', Heap.SameBut a s.heap h' → SetG w h' a L' es' ep' t' → (k ∈ keysG L → L' = L) → (k ∉ keysG L → L'.Perm ((Value.ref x, k) :: L)) → Q .none { s with heap := h', toks := s.toks + k.draws }) : wpAny (model P w) A (call (.builtin "set.add") [.ref a, .ref x]) Q E s := by
  obtain ⟨o, ho, hex, hd⟩ := R.ob
  refine wpAny_call_entry F.slot_set_add ⟨o, ho, hex.1⟩ F.entry_set_add ?_ (F.args_set_add_2 _ _)
  unfold Builtin.«set.add» Builtin.Frozenset.oneOther
  simp only [List.isEmpty_nil, bind_assoc]
  unfold Builtin.Frozenset.addrOf
  refine wpAny_bind (wpAny_pure ?_)
  try dsimp only
  refine wpAny_bind (wpAny_pure ?_)
  try dsimp only
  refine wpAny_bind (set_put (A := A.in1) R rf hx (by rw [Around.in1_units]; omega) fit few fun b h' L' es' ep' t' sb R' c1 c2 => ?_)
  show wpAny _ _ (ret Value.none) _ _ _
  exact wpAny_pure ⟨_, rfl, hQ h' L' es' ep' t' sb R' c1 c2⟩

/-! ### what a row of members makes of a set -/
structure Took (ks : KL) (i : Nat) (L : KL) : Prop where
  sub : ∀ p ∈ L, p ∈ ks.take i
  all : ∀ p ∈ ks.take i, p.2 ∈ keysG L
theorem Took.zero (ks : KL) : Took ks 0 [] := ⟨(fun p h => nomatch h), fun p h => by simp at h⟩
theorem Took.next {ks L L' : KL} {i : Nat} {x : Value × NestedKey} (g : Took ks i L) (h : ks[i]? = some x) (c1 : x.2 ∈ keysG L → L' = L) (c2 : x.2 ∉ keysG L → L'.Perm (x :: L)) : Took ks (i + 1) L' := by
  have tk : ks.take (i + 1) = ks.take i ++ [x] := by rw [List.take_succ, h]; rfl
  by_cases c : x.2 ∈ keysG L
  · rw [c1 c]
    refine ⟨fun p hp => by rw [tk]; exact List.mem_append_left _ (g.sub p hp), fun p hp => ?_⟩
    rw [tk] at hp
    rcases List.mem_append.mp hp with z | z
    · exact g.all p z
    · rw [List.mem_singleton.mp z]; exact c
  · have pm := c2 c
    have pk : (keysG L').Perm (x.2 :: keysG L) := List.Perm.map (fun p : Value × NestedKey => p.2) pm
    refine ⟨fun p hp => ?_, fun p hp => ?_⟩
    · rw [tk]
      rcases List.mem_cons.mp (pm.mem_iff.mp hp) with e | z
      · rw [e]; exact List.mem_append_right _ (List.mem_singleton.mpr rfl)
      · exact List.mem_append_left _ (g.sub p z)
    · rw [pk.mem_iff]
      rw [tk] at hp
      rcases List.mem_append.mp hp with z | z
      · exact List.mem_cons_of_mem _ (g.all p z)
      · rw [List.mem_singleton.mp z]; exact List.mem_cons_self
theorem count_le_of_nodup {α : Type} [DecidableEq α] {f : α → Int} {h : Int} : ∀ {l m : List α}, l.Nodup → (∀ x ∈ l, x ∈ m) → (l.map f).count h ≤ (m.map f).count h ∧ l.length ≤ m.length
  | [], m, _, _ => ⟨Nat.zero_le _, Nat.zero_le _⟩
  | x :: l, m, nd, sub => by
    obtain ⟨n1, n2⟩ := List.nodup_cons.mp nd
    have hx : x ∈ m := sub x List.mem_cons_self
    have ih := count_le_of_nodup (f := f) (h := h) (l := l) (m := m.erase x) n2 fun y hy => (List.mem_erase_of_ne (fun e => by subst e; exact n1 hy)).mpr (sub y (List.mem_cons_of_mem _ hy))
    have pm := List.perm_cons_erase hx
    have e1 := (pm.map f).count_eq h
    have e2 := pm.length_eq
    rw [List.map_cons, List.count_cons] at e1 ⊢
    rw [List.length_cons] at e2 ⊢
    omega
/-- enough room for a set of these at most -/
theorem FitK.of_sub {ks js : List NestedKey} (fit : FitK w ks) (nd : js.Nodup) (sub : ∀ k ∈ js, k ∈ ks) : FitK w js := fun g => by
  have := fit g
  obtain ⟨c1, c2⟩ := count_le_of_nodup (f := NestedKey.hash w) (h := g) nd sub
  omega
theorem Took.fit {ks L : KL} {i : Nat} (g : Took ks i L) (nd : (keysG L).Nodup) (fit : FitK w (keysG ks)) : FitK w (keysG L) ∧ L.length ≤ ks.length := by
  have sub : ∀ k ∈ keysG L, k ∈ keysG ks := fun k hk => by
    obtain ⟨p, hp, rfl⟩ := List.mem_map.mp hk
    exact List.mem_map.mpr ⟨p, List.mem_of_mem_take (g.sub p hp), rfl⟩
  refine ⟨fit.of_sub nd sub, ?_⟩
  have := (count_le_of_nodup (f := fun _ => (0 : Int)) (h := 0) nd sub).2
  simpa [keysG] using this
theorem FitK.small {ks : List NestedKey} (fit : FitK w ks) : ks.length < 50000 := by
  have := fit 0
  omega

/-! ### set(xs), xs a list of tuples -/
theorem set_loop {I : Addr} {fp wr : List Addr} {G : Array GenState → Array GenState → Prop} {n : Nat} {Pv : Nat → Value → Prop} {Sn : Nat → Shared → Prop} {R : Result → Shared → Prop}
    (W : WalksS P w A.in1 I fp wr G n Pv Sn) (S : Addr) (hSf : S ∉ fp) (ks : KL) (rf : Refs ks) (hn : n = ks.length) (fit : FitK w (keysG ks)) (hval : ∀ i v, Pv i v → ∃ p, ks[i]? = some p ∧ v = p.1)
    (h0 : Heap) (hk : ∀ p ∈ ks, IsK h0 p.2 p.1) (hS0 : h0.get? S = none) (hw0 : ∀ b ∈ wr, h0.get? b = none) (hu : A.units + 10 < cLine) :
    ∀ (k i : Nat) (s : Shared), n - i = k → i ≤ n → Sn i s → (∀ b o, h0.get? b = some o → s.heap.get? b = some o) → (∃ L es ep t, SetG w s.heap S L es ep t ∧ Took ks i L) →
      (∀ s' L es ep t, Moved (S :: wr) G s s' → SetG w s'.heap S L es ep t → Took ks n L → (∀ b o, h0.get? b = some o → s'.heap.get? b = some o) → R (.ok (.ret .none)) s') →
      codeAny (model P w) A (.builtin "set.update.loop" ⟨[.ref S, .ref I], []⟩) R s := by
  have hSw : S ∉ wr := fun h => hSf (W.sub _ h)
  have up : ∀ b ∈ wr, b ∈ S :: wr := fun b hb => List.mem_cons_of_mem _ hb
  have kp : ∀ {s s' : Shared}, Moved wr G s s' → (∀ b o, h0.get? b = some o → s.heap.get? b = some o) → ∀ b o, h0.get? b = some o → s'.heap.get? b = some o := fun hm k b o e => hm.heap b o (fun hb => by rw [hw0 b hb] at e; cases e) (k b o e)
  have ofL : ∀ {L : KL} {i : Nat}, Took ks i L → ∀ p ∈ L, p ∈ ks := fun g p hp => List.mem_of_mem_take (g.sub p hp)
  intro k
  induction k with
  | zero =>
    intro i s hk' hi hst hkp ⟨L, es, ep, t, hS, g⟩ hR
    obtain rfl : i = n := by omega
    refine codeAny_builtin F.entry_set_update_loop ?_
    rw [Around.under_plainId F.plain_set_update_loop _]
    refine wpAny_bind (show wpAny _ A.in1 (pyNext (.ref I)) _ _ s from W.done s _ _ hst fun s' hm => ?_)
    have kq := kp hm hkp
    exact (show wpAny _ A.in1 (ret Value.none) _ _ s' from wpAny_pure (hR s' L es ep t (hm.mono up) (hS.keep (fun o e => hm.heap S o hSw e) fun p hp => (hk p (ofL g p hp)).keep kq) g kq))
  | succ k ih =>
    intro i s hk' hi hst hkp ⟨L, es, ep, t, hS, g⟩ hR
    have hlt : i < n := by omega
    refine codeAny_builtin F.entry_set_update_loop ?_
    rw [Around.under_plainId F.plain_set_update_loop _]
    refine wpAny_bind (show wpAny _ A.in1 (pyNext (.ref I)) _ _ s from W.item i s _ _ hlt hst fun v s' hP hst' hm => ?_)
    obtain ⟨⟨pv, pk⟩, hp, ev⟩ := hval i v hP
    obtain ⟨x, hx0⟩ := rf _ (List.mem_of_getElem? hp)
    have hx0 : pv = .ref x := hx0
    subst ev hx0
    have kq := kp hm hkp
    have hS' : SetG w s'.heap S L es ep t := hS.keep (fun o e => hm.heap S o hSw e) fun q hq => (hk q (ofL g q hq)).keep kq
    have hx : IsK s'.heap pk (.ref x) := (hk _ (List.mem_of_getElem? hp)).keep kq
    obtain ⟨f1, f2⟩ := g.fit hS.nd fit
    have f3 := fit.small
    rw [show (keysG ks).length = ks.length from List.length_map _] at f3
    refine wpAny_bind (show wpAny _ A.in1 (holding [Value.ref x] (setAdd S (.ref x))) _ _ s' from wpAny_holding (set_put hS' (fun q hq => rf q (ofL g q hq)) hx (by rw [Around.in1_units]; omega) f1 (by omega) fun b h' L' es' ep' t' sb R2 c1 c2 => ?_))
    have g' : Took ks (i + 1) L' := g.next hp c1 c2
    have kr : ∀ b o, h0.get? b = some o → h'.get? b = some o := fun b o e => (sb.2 b (fun z => by rw [z, hS0] at e; cases e)).trans (kq b o e)
    refine wpAny_pure ⟨plainId_quiet F.plain_set_update_loop _, ih (i + 1) _ (by omega) hlt (W.frame _ s' _ _ hst' (Nat.le_add_right _ _) fun b hb o e => ?_) kr ⟨L', es', ep', t', R2, g'⟩ fun s2 L2 es2 ep2 t2 hm2 hS2 g2 k2 => ?_⟩
    · rw [sb.2 b (fun z : b = S => hSf (by rw [← z]; exact hb))]; exact e
    · refine hR s2 L2 es2 ep2 t2 (Moved.trans W.gtrans ((hm.mono up).then_heap (Nat.le_add_right _ _) fun b o hb e => ?_) hm2) hS2 g2 k2
      rw [sb.2 b (fun z : b = S => hb (by rw [z]; exact List.mem_cons_self))]; exact e
theorem call_setG {l : Addr} {items : Array Value} (ks : KL) (rf : Refs ks) {Q : Value → Shared → Prop} (hh : A.handled = none) (hl : s.heap.IsList l items) (hit : items.toList = ks.map (·.1)) (hk : ∀ p ∈ ks, IsK s.heap p.2 p.1) (fit : FitK w (keysG ks)) (hu : A.units + 14 < cLine)
    (fin : ∀ (h' : Heap) (tk : Nat) L es ep t, SetG w h' s.heap.objs.size L es ep t → Took ks ks.length L → (∀ b o, s.heap.get? b = some o → h'.get? b = some o) → Q (.ref s.heap.objs.size) { s with heap := h', toks := tk }) : wpAny (model P w) A (call (.type "set") [.ref l]) Q E s := by
  have nk : items.size = ks.length := by
    have q := congrArg List.length hit
    simpa using q
  have c1 := F.called_set.made
  have c2 := F.called_set.sub
  have c3 := F.called_set.notType
  have c4 := F.called_set.canCreate
  have c5 := F.typeCall_set_1 (.ref l)
  obtain ⟨mc, mt, c6⟩ := F.called_set.mro
  refine wpAny_call (codeAny_of_tree (show wpAny _ _ (callAny (.type "set") _) _ _ _ from wpAny_pure ⟨Code.quiet_builtin _ (by decide +kernel), codeAny_builtin F.entry_type_call ?_⟩))
  rw [Around.under_plain (weight_type_call_type "set" [.ref l] []) rfl]
  repeat (any_goals (first | assumption | wp_step))
  generalize hp1 : s.heap.push (freshSet w) = h1
  refine codeAny_mono (code_set_led1 (.ref l) (E := E) (Q₁ := fun obj s1 => obj = .ref s.heap.objs.size ∧ s1 = { s with heap := h1 }) ⟨rfl, by rw [← hp1]⟩) fun r s1 hr => ?_
  rcases r with e | fl
  · exact hr
  cases fl with
  | ret obj =>
    obtain ⟨rfl, rfl⟩ := hr
    have up1 : ∀ b u, s.heap.get? b = some u → h1.get? b = some u := fun b u e => by rw [← hp1]; exact Heap.get?_push_of_some _ e
    have z1 : h1.objs.size = s.heap.objs.size + 1 := by rw [← hp1]; exact size_push' _ _
    have atS : h1.get? s.heap.objs.size = some (freshSet w) := by rw [← hp1]; exact Heap.get?_push_size _ rfl
    have ty : Shared.TypeIs { s with heap := h1 } (.ref s.heap.objs.size) "set" := ⟨_, atS, rfl⟩
    have c7 := F.called_set.init.lookup
    have c8 := F.called_set.init.bind (.ref s.heap.objs.size)
    repeat (any_goals (first | assumption | wp_step))
    refine codeAny_mono (codeAny_call_builtin (R := wants (fun r s2 => r = .none ∧ ∃ h' tk L es ep t, s2 = { s with heap := h', toks := tk } ∧ SetG w h' s.heap.objs.size L es ep t ∧ Took ks ks.length L ∧ (∀ b o, s.heap.get? b = some o → h'.get? b = some o)) E) F.called_set.init.plain F.entry_set_init (check_set_init_1 ty ?_)) fun r2 s2 hr2 => ?_
    · obtain ⟨⟨oc, od, odt, osl⟩, hol, hc, nl, hd⟩ := hl
      simp only at hc hd
      subst hc hd
      have hol1 := up1 _ _ hol
      have d1 := F.sub_list_set
      have d2 := F.sub_list_frozenset
      have d3 : (Value.type "list" == Value.type "dict") = false := by decide
      have hl1 : h1.IsList l items := ⟨_, hol1, rfl, nl, rfl⟩
      unfold Builtin.«set.__init__» noKeywords Builtin.Frozenset.updateFrom
      generalize hPI : pyIter = PI
      wp_walk
      subst hPI
      refine wpAny_pyIter_list hl1 (wpAny_bind (wpAny_runValue ?_))
      have lS : l < s.heap.objs.size := Heap.lt_size hol
      have hh3 : A.in1.in1.in1.handled = none := by simp [hh]
      have neI : l ≠ h1.objs.size := by rw [z1]; exact Nat.ne_of_lt (Nat.lt_succ_of_lt lS)
      have noneAt : ∀ b, s.heap.objs.size ≤ b → s.heap.get? b = none := fun b hb => by
        cases q : s.heap.get? b with
        | none => rfl
        | some o => exact absurd (Heap.lt_size q) (Nat.not_lt_of_le hb)
      refine set_loop (P := P) (A := A.in1.in1) (Walks.list hh3 _ l neI items).toS s.heap.objs.size (by simp only [List.mem_cons, List.not_mem_nil, or_false, not_or]; exact ⟨by rw [z1]; exact Nat.ne_of_lt (Nat.lt_succ_self _), Nat.ne_of_gt lS⟩) ks rf nk fit (fun i v hv => ?_) s.heap hk (noneAt _ (Nat.le_refl _))
        (fun b hb => noneAt b (by rw [List.mem_singleton.mp hb, z1]; exact Nat.le_succ _)) (show A.units + 1 + 1 + 10 < cLine by omega) (items.size - 0) 0 _ (by omega) (Nat.zero_le _) ⟨⟨_, Heap.get?_push_size _ rfl, rfl, rfl⟩, hl1.push _⟩ (fun b o e => Heap.get?_push_of_some _ (up1 b o e))
        ⟨[], #[], 0, _, setG_new (Heap.get?_push_of_some _ atS), Took.zero ks⟩ fun s' L es ep t hm hS' g' hkp => ?_
      · have q : items.toList[i]? = some v := by rw [Array.getElem?_toList]; exact hv
        rw [hit, List.getElem?_map] at q
        obtain ⟨p, hp, e⟩ := Option.map_eq_some_iff.mp q
        exact ⟨p, hp, e.symm⟩
      · obtain ⟨h', g2, d', tk', os'⟩ := s'
        have e1 : g2 = s.gens := hm.gens
        have e2 : d' = s.drawn := hm.drawn
        have e3 : os' = s.os := hm.os
        subst e1 e2 e3
        show wpAny _ _ _ _ _ _
        refine wpAny_pure ?_
        show wpAny _ _ (ret Value.none) _ _ _
        rw [nk] at g'
        exact wpAny_pure ⟨rfl, h', tk', L, es, ep, t, rfl, hS', g', hkp⟩
    · rcases r2 with e | fl2
      · exact hr2
      cases fl2 with
      | ret r =>
        obtain ⟨rfl, h', tk, L, es, ep, t, rfl, hS', g', kq⟩ := hr2
        repeat (any_goals (first | assumption | wp_step))
        exact fin _ _ _ _ _ _ hS' g' kq
      | _ => exact hr2.elim
  | _ => exact hr.elim
end
end L3
/-! L3: a layer of plain functions over the hand layer: values with tuples by value, a store of lists by number. -/
namespace L3
open PySem PySem.Spec PyProof.Rows L2

/-! ### plain values and objects -/
inductive D where
  | non | bl (b : Bool) | int (i : Int) | str (x : Str) | tup (xs : List D) | frl (xs : List D) | ref (n : Nat) | ty (n : String) | glo (a : Addr)
  deriving Inhabited
mutual
def eqb : D → D → Bool
  | .non, .non => true
  | .bl a, .bl b => a == b
  | .int a, .int b => decide (a = b)
  | .str a, .str b => decide (a = b)
  | .tup a, .tup b => eqbs a b
  | .frl a, .frl b => eqbs a b
  | .ref a, .ref b => decide (a = b)
  | .ty a, .ty b => decide (a = b)
  | .glo a, .glo b => decide (a = b)
  | _, _ => false
def eqbs : List D → List D → Bool
  | [], [] => true
  | a :: l, b :: m => eqb a b && eqbs l m
  | _, _ => false
end
mutual
theorem eqb_iff : ∀ a b : D, eqb a b = true ↔ a = b
  | .non, b => by cases b <;> simp [eqb]
  | .bl a, b => by cases b <;> simp [eqb]
  | .int a, b => by cases b <;> simp [eqb]
  | .str a, b => by cases b <;> simp [eqb]
  | .tup a, b => by
    cases b with
    | tup b => simp only [eqb, D.tup.injEq]; exact eqbs_iff a b
    | _ => simp [eqb]
  | .frl a, b => by
    cases b with
    | frl b => simp only [eqb, D.frl.injEq]; exact eqbs_iff a b
    | _ => simp [eqb]
  | .ref a, b => by cases b <;> simp [eqb]
  | .ty a, b => by cases b <;> simp [eqb]
  | .glo a, b => by cases b <;> simp [eqb]
theorem eqbs_iff : ∀ a b : List D, eqbs a b = true ↔ a = b
  | [], b => by cases b <;> simp [eqbs]
  | x :: a, b => by
    cases b with
    | nil => simp [eqbs]
    | cons y b =>
      simp only [eqbs, Bool.and_eq_true, List.cons.injEq]
      rw [eqb_iff x y, eqbs_iff a b]
end
instance : DecidableEq D := fun a b => decidable_of_iff _ (eqb_iff a b)

/-- what a number in the store stands for -/
inductive Ob where
  | lst (xs : List D)
  | dic (kvs : List (D × D))
  | set (xs : List D)
  deriving DecidableEq, Inhabited
abbrev Sto := List Ob
abbrev En := List (Option D)
/-- what comes of a step: a value and the store; an exception (its class, its own fields); nothing is said -/
inductive R (α : Type) where
  | ok (a : α) (st : Sto)
  | exn (c : Addr) (fs : List (Str × D)) (st : Sto)
  | stuck
def R.bind {α β : Type} (r : R α) (f : α → Sto → R β) : R β := match r with
  | .ok a st => f a st
  | .exn c fs st => .exn c fs st
  | .stuck => .stuck
@[simp] theorem bind_ok {α β : Type} (a : α) (st : Sto) (f : α → Sto → R β) : (R.ok a st).bind f = f a st := rfl
@[simp] theorem bind_exn {α β : Type} (c : Addr) (fs : List (Str × D)) (st : Sto) (f : α → Sto → R β) : (R.exn c fs st).bind f = .exn c fs st := rfl
@[simp] theorem bind_stuck {α β : Type} (f : α → Sto → R β) : (R.stuck : R α).bind f = .stuck := rfl
abbrev Mo (α : Type) := En → Sto → R α
/-- how a statement ends -/
inductive F where
  | nx (env : En) | rt (d : D) | bk (env : En) | ct (env : En)
abbrev MS := En → Sto → R F

/-! ### what a plain value is in the abstract heap -/
/-- what is written at the top, and the world -/
structure KW where
  F : PySem.W.Frag
  w : World
instance : Coe KW PySem.W.Frag := ⟨KW.F⟩
abbrev _root_.L2.Cx.kw (X : Cx) : KW := ⟨X.K, X.w⟩
/-- a list that nobody writes: it is frozen, or written at the top -/
def FrL (K : KW) (H : Hp) (a : Addr) (vs : List V) : Prop :=
  (∃ o, H a = some (.frz o (.lst vs))) ∨ ∃ (o : Obj) (its : Array Value) (n : Nat), K.F.lookup a = some o ∧ o.cls = .type "list" ∧ o.dict = none ∧ o.data = .seq its n ∧ its.size ≤ sizeLine ∧ Vals vs its.toList
theorem FrL.sq {K : KW} {H : Hp} {a : Addr} {vs : List V} (h : FrL K H a vs) : SqL K H a vs := h.elim (fun q => .inl (.inr q)) .inr
mutual
def VR (K : KW) (H : Hp) (ρ : List Addr) : D → V → Prop
  | .non, v => v = .non
  | .bl b, v => v = .bl b
  | .int i, v => v = .int i
  | .str x, v => v = .str x
  | .ty n, v => v = .ty n
  | .glo a, v => v = .ref a
  | .ref n, v => ∃ a, ρ[n]? = some a ∧ v = .ref a
  | .tup xs, v => ∃ a vs, v = .ref a ∧ SqT K H a vs ∧ VRs K H ρ xs vs
  | .frl xs, v => ∃ a vs, v = .ref a ∧ FrL K H a vs ∧ VRs K H ρ xs vs
def VRs (K : KW) (H : Hp) (ρ : List Addr) : List D → List V → Prop
  | [], vs => vs = []
  | x :: xs, vs => ∃ v r, vs = v :: r ∧ VR K H ρ x v ∧ VRs K H ρ xs r
end
/-- a thing that changes stands at a: no tuple, nothing frozen -/
def NoT (H : Hp) (a : Addr) : Prop := ∃ o, H a = some o ∧ (∀ xs, o ≠ .tup xs) ∧ ∀ ob u, o ≠ .frz ob u
structure Grow (H : Hp) (ρ : List Addr) (H' : Hp) (ρ' : List Addr) : Prop where
  pre : ∃ more, ρ' = ρ ++ more ∧ ∀ a ∈ more, a ∉ ρ ∧ H a = none
  keep : ∀ a o, H a = some o → a ∉ ρ → H' a = some o
theorem Grow.refl (H : Hp) (ρ : List Addr) : Grow H ρ H ρ := ⟨⟨[], by simp, by simp⟩, fun _ _ h _ => h⟩
theorem Grow.trans {H H1 H2 : Hp} {ρ ρ1 ρ2 : List Addr} (a : Grow H ρ H1 ρ1) (b : Grow H1 ρ1 H2 ρ2) : Grow H ρ H2 ρ2 := by
  obtain ⟨m, e, f⟩ := a.pre
  obtain ⟨m2, e2, f2⟩ := b.pre
  have notin : ∀ x o, H x = some o → x ∉ ρ → x ∉ ρ1 := fun x o h hn hm => by
    rw [e] at hm
    rcases List.mem_append.mp hm with z | z
    · exact hn z
    · rw [(f x z).2] at h; cases h
  refine ⟨⟨m ++ m2, by rw [e2, e, List.append_assoc], fun x hx => ?_⟩, fun x o h hn => b.keep x o (a.keep x o h hn) (notin x o h hn)⟩
  rcases List.mem_append.mp hx with z | z
  · exact f x z
  · obtain ⟨h1, h2⟩ := f2 x z
    have hm : x ∉ ρ := fun q => h1 (by rw [e]; exact List.mem_append_left _ q)
    refine ⟨hm, ?_⟩
    cases q : H x with
    | none => rfl
    | some o => rw [a.keep x o q hm] at h2; cases h2
/-- a number of the store stays the same place -/
theorem Grow.at {H H' : Hp} {ρ ρ' : List Addr} (g : Grow H ρ H' ρ') {i : Nat} {a : Addr} (h : ρ[i]? = some a) : ρ'[i]? = some a := by
  obtain ⟨m, e, _⟩ := g.pre
  rw [e, List.getElem?_append_left (List.getElem?_eq_some_iff.mp h).1]
  exact h
theorem Grow.new {H : Hp} {ρ : List Addr} {a : Addr} {o : HO} (hn : H a = none) (hr : a ∉ ρ) : Grow H ρ (upd H a o) (ρ ++ [a]) :=
  ⟨⟨[a], rfl, fun x hx => by rw [List.mem_singleton.mp hx]; exact ⟨hr, hn⟩⟩, fun x u e _ => by rw [upd_ne (ne_of_none e hn)]; exact e⟩
/-- a new thing that the store does not name (a tuple) -/
theorem Grow.aside {H : Hp} {ρ : List Addr} {a : Addr} {o : HO} (hn : H a = none) : Grow H ρ (upd H a o) ρ :=
  ⟨⟨[], by simp, by simp⟩, fun x u e _ => by rw [upd_ne (ne_of_none e hn)]; exact e⟩
/-- a thing that the store names is written -/
theorem Grow.write {H : Hp} {ρ : List Addr} {a : Addr} {o : HO} (hr : a ∈ ρ) : Grow H ρ (upd H a o) ρ :=
  ⟨⟨[], by simp, by simp⟩, fun x u e hx => by rw [upd_ne (fun z => hx (by rw [z]; exact hr))]; exact e⟩

/-- the key of a dict -/
def keyD : D → Option Key
  | .int i => some (.inl i)
  | .str x => some (.inr x)
  | _ => none
/-- the entries of a dict with int and text keys -/
inductive KVR (K : KW) (H : Hp) (ρ : List Addr) : List (D × D) → List (Key × V) → Prop where
  | nil : KVR K H ρ [] []
  | cons {k : D} {d : D} {k' : Key} {v : V} {r : List (D × D)} {r' : List (Key × V)} : keyD k = some k' → VR K H ρ d v → KVR K H ρ r r' → KVR K H ρ ((k, d) :: r) ((k', v) :: r')
mutual
/-- what may be a member of a set -/
def nkD : D → Option NestedKey
  | .int i => some (.num i)
  | .str x => some (.text x)
  | .tup xs => match nkDs xs with
    | some ks => some (.tup ks)
    | none => none
  | _ => none
def nkDs : List D → Option (List NestedKey)
  | [] => some []
  | x :: xs => match nkD x, nkDs xs with
    | some k, some ks => some (k :: ks)
    | _, _ => none
end
/-- to depth 8 -/
def key8 (d : D) : Option NestedKey := match nkD d with
  | some k => if k.depth ≤ 8 then some k else none
  | none => none
theorem key8_nk {d : D} {k : NestedKey} (h : key8 d = some k) : nkD d = some k ∧ k.depth ≤ 8 := by
  unfold key8 at h
  split at h
  · rename_i j e
    split at h
    · rename_i hd
      cases h
      exact ⟨e, hd⟩
    · cases h
  · cases h
/-- the set at a, its members told by value -/
def SetGO (w : World) (a : Addr) (M : List (V × NestedKey)) : HO := .ext fun h => ∃ L : KL, Paired (fun m l => RelV m.1 l.1 ∧ m.2 = l.2) M L ∧ ∃ (es : Array (Int × Value)) (ep : Nat) (t : SetTable), (∃ o, h.get? a = some o ∧ o.ExactSet ∧ o.data = .set es ep t) ∧ es.toList = rowsG w L ∧ TabG t (hashG w L) ∧ (keysG L).Nodup ∧
  (w.params.followText "set-order" = true ∨ t.led = true) ∧ L.length * 5 < t.mask * 3
def MemOf (K : KW) (H : Hp) (ρ : List Addr) (xs : List D) (M : List (V × NestedKey)) : Prop := (∀ m ∈ M, ∃ d ∈ xs, VR K H ρ d m.1 ∧ key8 d = some m.2) ∧ ∀ d ∈ xs, ∃ m ∈ M, key8 d = some m.2
def OR (K : KW) (H : Hp) (ρ : List Addr) (a : Addr) : Ob → Prop
  | .lst xs => ∃ vs, H a = some (.lst vs) ∧ VRs K H ρ xs vs
  | .dic kvs => ∃ es, H a = some (.dK es) ∧ KVR K H ρ kvs es
  | .set xs => xs.Nodup ∧ ∃ M, H a = some (SetGO K.w a M) ∧ MemOf K H ρ xs M
structure SR (K : KW) (H : Hp) (ρ : List Addr) (st : Sto) : Prop where
  len : ρ.length = st.length
  nd : ρ.Nodup
  ob : ∀ (i : Nat) (a : Addr) (o : Ob), ρ[i]? = some a → st[i]? = some o → OR K H ρ a o
  nt : ∀ a ∈ ρ, NoT H a
/-- names -/
structure ER (K : KW) (H : Hp) (ρ : List Addr) (env : En) (σ : L2.St) : Prop where
  len : env.length = σ.length
  at_ : ∀ (i : Nat) (d : D), env[i]? = some (some d) → ∃ v, σ[i]? = some (some v) ∧ VR K H ρ d v

section
variable {K : KW} {H H' : Hp} {ρ ρ' S : List Addr}
theorem rd_keep (hk : ∀ a o, H a = some o → a ∉ S → H' a = some o) (hn : ∀ a ∈ S, NoT H a) {a : Addr} {o : Obj} {u : HO} (h : H a = some (.frz o u)) : H' a = some (.frz o u) := hk _ _ h fun hm => by
  obtain ⟨o', e, _, n⟩ := hn a hm
  rw [h] at e
  exact n _ _ (Option.some.inj e).symm
theorem sqT_keep (hk : ∀ a o, H a = some o → a ∉ S → H' a = some o) (hn : ∀ a ∈ S, NoT H a) {a : Addr} {vs : List V} (h : SqT K H a vs) : SqT K H' a vs := by
  rcases h with h | h
  · refine .inl ?_
    rcases h with h | ⟨o, h⟩
    · refine .inl (hk _ _ h fun hm => ?_)
      obtain ⟨o', e, n, _⟩ := hn a hm
      rw [h] at e
      exact n _ (Option.some.inj e).symm
    · exact .inr ⟨o, rd_keep hk hn h⟩
  · exact .inr h
mutual
theorem VR.keep (hk : ∀ a o, H a = some o → a ∉ S → H' a = some o) (hp : ∀ (i : Nat) (a : Addr), ρ[i]? = some a → ρ'[i]? = some a) (hn : ∀ a ∈ S, NoT H a) : ∀ {d : D} {v : V}, VR K H ρ d v → VR K H' ρ' d v
  | .non, _, h => h
  | .bl _, _, h => h
  | .int _, _, h => h
  | .str _, _, h => h
  | .ty _, _, h => h
  | .glo _, _, h => h
  | .ref n, _, ⟨a, h, e⟩ => ⟨a, hp n a h, e⟩
  | .tup xs, _, ⟨a, vs, e, h, r⟩ => ⟨a, vs, e, sqT_keep hk hn h, VRs.keep hk hp hn r⟩
  | .frl xs, _, ⟨a, vs, e, h, r⟩ => ⟨a, vs, e, h.imp (fun ⟨o, q⟩ => ⟨o, rd_keep hk hn q⟩) id, VRs.keep hk hp hn r⟩
theorem VRs.keep (hk : ∀ a o, H a = some o → a ∉ S → H' a = some o) (hp : ∀ (i : Nat) (a : Addr), ρ[i]? = some a → ρ'[i]? = some a) (hn : ∀ a ∈ S, NoT H a) : ∀ {ds : List D} {vs : List V}, VRs K H ρ ds vs → VRs K H' ρ' ds vs
  | [], _, h => h
  | _ :: _, _, ⟨v, r, e, h, hr⟩ => ⟨v, r, e, VR.keep hk hp hn h, VRs.keep hk hp hn hr⟩
end
theorem VR.grow (g : Grow H ρ H' ρ') {st : Sto} (s : SR K H ρ st) {d : D} {v : V} (h : VR K H ρ d v) : VR K H' ρ' d v := VR.keep g.keep (fun _ _ => g.at) s.nt h
theorem VRs.grow (g : Grow H ρ H' ρ') {st : Sto} (s : SR K H ρ st) {ds : List D} {vs : List V} (h : VRs K H ρ ds vs) : VRs K H' ρ' ds vs := VRs.keep g.keep (fun _ _ => g.at) s.nt h
theorem ER.grow (g : Grow H ρ H' ρ') {st : Sto} (s : SR K H ρ st) {env : En} {σ : L2.St} (h : ER K H ρ env σ) : ER K H' ρ' env σ :=
  ⟨h.len, fun i d e => let ⟨v, a, b⟩ := h.at_ i d e; ⟨v, a, b.grow g s⟩⟩
theorem VRs.length : ∀ {ds : List D} {vs : List V}, VRs K H ρ ds vs → ds.length = vs.length
  | [], _, h => by rw [show _ = [] from h]; rfl
  | _ :: _, _, ⟨v, r, e, _, hr⟩ => by rw [e, List.length_cons, List.length_cons, VRs.length hr]
theorem VRs.get : ∀ {ds : List D} {vs : List V} {i : Nat} {d : D}, VRs K H ρ ds vs → ds[i]? = some d → ∃ v, vs[i]? = some v ∧ VR K H ρ d v
  | [], _, _, _, _, e => by simp at e
  | x :: xs, _, 0, d, ⟨v, r, e, h, _⟩, q => by
    have : x = d := by simpa using q
    subst this e
    exact ⟨v, rfl, h⟩
  | x :: xs, _, i + 1, d, ⟨v, r, e, _, hr⟩, q => by
    subst e
    obtain ⟨u, h1, h2⟩ := VRs.get (i := i) (d := d) hr (by simpa using q)
    exact ⟨u, by simpa using h1, h2⟩
theorem VRs.append : ∀ {ds es : List D} {vs us : List V}, VRs K H ρ ds vs → VRs K H ρ es us → VRs K H ρ (ds ++ es) (vs ++ us)
  | [], _, _, _, h, k => by rw [show _ = _ from h]; exact k
  | _ :: _, _, _, _, ⟨v, r, e, h, hr⟩, k => by subst e; exact ⟨v, _, rfl, h, VRs.append hr k⟩
theorem VRs.set : ∀ {ds : List D} {vs : List V} (i : Nat) {d : D} {v : V}, VRs K H ρ ds vs → VR K H ρ d v → VRs K H ρ (ds.set i d) (vs.set i v)
  | [], _, _, _, _, h, _ => by rw [show _ = _ from h]; exact rfl
  | _ :: _, _, 0, _, _, ⟨v, r, e, h, hr⟩, k => by subst e; exact ⟨_, r, rfl, k, hr⟩
  | _ :: _, _, i + 1, _, _, ⟨v, r, e, h, hr⟩, k => by subst e; exact ⟨v, _, rfl, h, VRs.set i hr k⟩
theorem VRs.take : ∀ {ds : List D} {vs : List V} (n : Nat), VRs K H ρ ds vs → VRs K H ρ (ds.take n) (vs.take n)
  | _, _, 0, _ => by simp [VRs]
  | [], _, n + 1, h => by rw [show _ = _ from h]; exact rfl
  | _ :: _, _, n + 1, ⟨v, r, e, h, hr⟩ => by subst e; exact ⟨v, _, rfl, h, VRs.take n hr⟩
theorem VRs.drop : ∀ {ds : List D} {vs : List V} (n : Nat), VRs K H ρ ds vs → VRs K H ρ (ds.drop n) (vs.drop n)
  | _, _, 0, h => h
  | [], _, n + 1, h => by rw [show _ = _ from h]; exact rfl
  | _ :: _, _, n + 1, ⟨v, r, e, h, hr⟩ => by subst e; exact VRs.drop n hr
end
end L3
namespace L3
open PySem PySem.Spec PyProof.Rows L2

/-! ### what is no more named is dropped -/
mutual
def blw (n : Nat) : D → Bool
  | .ref k => decide (k < n)
  | .tup xs => blws n xs
  | .frl xs => blws n xs
  | _ => true
def blws (n : Nat) : List D → Bool
  | [] => true
  | x :: xs => blw n x && blws n xs
end
def blwE (n : Nat) : List (D × D) → Bool
  | [] => true
  | p :: r => blw n p.1 && blw n p.2 && blwE n r
def blwO (n : Nat) : Ob → Bool
  | .lst xs => blws n xs
  | .dic kvs => blwE n kvs
  | .set xs => blws n xs
def kept (n : Nat) : Sto → Sto → Bool
  | [], _ => true
  | o :: st, o' :: st' => (decide (o' = o) || blwO n o') && kept n st st'
  | _ :: _, [] => false
/-- the store behind a call: what the caller knows, and what is handed back -/
def gc (st : Sto) (d : D) (st' : Sto) : R D :=
  if kept st.length st st' then
    if blw st.length d then .ok d (st'.take st.length) else
    match d with
    | .ref k => match st'[k]? with
      | some o => if blwO st.length o then .ok (.ref st.length) (st'.take st.length ++ [o]) else .ok d st'
      | none => .ok d st'
    | _ => .ok d st'
  else .ok d st'

section
variable {K : KW} {H H' : Hp} {ρ ρ' : List Addr} {n : Nat}
mutual
theorem VR.lt : ∀ {d : D} {v : V}, VR K H ρ d v → blw ρ.length d = true
  | .non, _, _ | .bl _, _, _ | .int _, _, _ | .str _, _, _ | .ty _, _, _ | .glo _, _, _ => by simp [blw]
  | .ref k, _, ⟨a, h, _⟩ => by
    have := (List.getElem?_eq_some_iff.mp h).1
    simp [blw, this]
  | .tup xs, _, ⟨_, _, _, _, r⟩ => by rw [blw]; exact VRs.lt r
  | .frl xs, _, ⟨_, _, _, _, r⟩ => by rw [blw]; exact VRs.lt r
theorem VRs.lt : ∀ {ds : List D} {vs : List V}, VRs K H ρ ds vs → blws ρ.length ds = true
  | [], _, _ => by simp [blws]
  | _ :: _, _, ⟨_, _, _, h, r⟩ => by rw [blws, VR.lt h, VRs.lt r]; rfl
end
mutual
theorem VR.cut : ∀ {d : D} {v : V}, VR K H ρ d v → blw n d = true → VR K H (ρ.take n) d v
  | .non, _, h, _ | .bl _, _, h, _ | .int _, _, h, _ | .str _, _, h, _ | .ty _, _, h, _ | .glo _, _, h, _ => h
  | .ref k, _, ⟨a, h, e⟩, b => ⟨a, by
    have b : k < n := by simpa [blw] using b
    rw [List.getElem?_take_of_lt b]; exact h, e⟩
  | .tup xs, _, ⟨a, vs, e, h, r⟩, b => ⟨a, vs, e, h, VRs.cut r (by rw [blw] at b; exact b)⟩
  | .frl xs, _, ⟨a, vs, e, h, r⟩, b => ⟨a, vs, e, h, VRs.cut r (by rw [blw] at b; exact b)⟩
theorem VRs.cut : ∀ {ds : List D} {vs : List V}, VRs K H ρ ds vs → blws n ds = true → VRs K H (ρ.take n) ds vs
  | [], _, h, _ => h
  | _ :: _, _, ⟨v, r, e, h, hr⟩, b => by
    rw [blws, Bool.and_eq_true] at b
    exact ⟨v, r, e, VR.cut h b.1, VRs.cut hr b.2⟩
end
theorem KVR.lt : ∀ {kvs : List (D × D)} {es : List (Key × V)}, KVR K H ρ kvs es → blwE ρ.length kvs = true
  | _, _, .nil => rfl
  | (k, d) :: _, _, .cons hk h r => by
    have b : blw ρ.length k = true := by cases k <;> simp [keyD] at hk <;> simp [blw]
    show (blw ρ.length k && blw ρ.length d && _) = true
    rw [b, h.lt, KVR.lt r]; rfl
theorem KVR.cut : ∀ {kvs : List (D × D)} {es : List (Key × V)}, KVR K H ρ kvs es → blwE n kvs = true → KVR K H (ρ.take n) kvs es
  | _, _, .nil, _ => .nil
  | (k, d) :: _, _, .cons hk h r, b => by
    have b : (blw n k && blw n d && _) = true := b
    rw [Bool.and_eq_true, Bool.and_eq_true] at b
    exact .cons hk (h.cut b.1.2) (KVR.cut r b.2)
theorem KVR.keep {S : List Addr} (hk : ∀ a o, H a = some o → a ∉ S → H' a = some o) (hp : ∀ (i : Nat) (a : Addr), ρ[i]? = some a → ρ'[i]? = some a) (hn : ∀ a ∈ S, NoT H a) :
    ∀ {kvs : List (D × D)} {es : List (Key × V)}, KVR K H ρ kvs es → KVR K H' ρ' kvs es
  | _, _, .nil => .nil
  | _, _, .cons k h r => .cons k (h.keep hk hp hn) (KVR.keep hk hp hn r)
theorem KVR.grow (g : Grow H ρ H' ρ') {st : Sto} (s : SR K H ρ st) {kvs : List (D × D)} {es : List (Key × V)} (h : KVR K H ρ kvs es) : KVR K H' ρ' kvs es := KVR.keep g.keep (fun _ _ => g.at) s.nt h
mutual
theorem nk_blw : ∀ {d : D} {k : NestedKey}, nkD d = some k → blw n d = true
  | .int _, _, _ | .str _, _, _ => by simp [blw]
  | .tup xs, k, e => by
    rw [nkD] at e
    split at e
    · rename_i ks h
      rw [blw]
      exact nks_blw h
    · cases e
  | .non, _, e | .bl _, _, e | .frl _, _, e | .ref _, _, e | .ty _, _, e | .glo _, _, e => by simp [nkD] at e
theorem nks_blw : ∀ {ds : List D} {ks : List NestedKey}, nkDs ds = some ks → blws n ds = true
  | [], _, _ => by simp [blws]
  | d :: ds, ks, e => by
    rw [nkDs] at e
    split at e
    · rename_i k ks' h1 h2
      rw [blws, nk_blw h1, nks_blw h2]
      rfl
    · cases e
end
theorem all_blw : ∀ {ds : List D}, (∀ d ∈ ds, blw n d = true) → blws n ds = true
  | [], _ => by simp [blws]
  | d :: ds, h => by rw [blws, h d List.mem_cons_self, all_blw fun x hx => h x (List.mem_cons_of_mem _ hx)]; rfl
theorem MemOf.cut {xs : List D} {M : List (V × NestedKey)} (h : MemOf K H ρ xs M) : MemOf K H (ρ.take n) xs M :=
  ⟨fun m hm => let ⟨d, hd, r, e⟩ := h.1 m hm; ⟨d, hd, r.cut (nk_blw (key8_nk e).1), e⟩, h.2⟩
theorem MemOf.keep {S : List Addr} (hk : ∀ a o, H a = some o → a ∉ S → H' a = some o) (hp : ∀ (i : Nat) (a : Addr), ρ[i]? = some a → ρ'[i]? = some a) (hn : ∀ a ∈ S, NoT H a) {xs : List D} {M : List (V × NestedKey)} (h : MemOf K H ρ xs M) : MemOf K H' ρ' xs M :=
  ⟨fun m hm => let ⟨d, hd, r, e⟩ := h.1 m hm; ⟨d, hd, r.keep hk hp hn, e⟩, h.2⟩
theorem OR.lt {a : Addr} {o : Ob} (h : OR K H ρ a o) : blwO ρ.length o = true := by
  cases o with
  | lst xs => obtain ⟨vs, _, r⟩ := h; exact r.lt
  | dic kvs => obtain ⟨es, _, r⟩ := h; exact r.lt
  | set xs =>
    obtain ⟨_, M, _, r⟩ := h
    exact all_blw fun d hd => let ⟨m, _, e⟩ := r.2 d hd; nk_blw (key8_nk e).1
theorem OR.cut {a : Addr} {o : Ob} (h : OR K H ρ a o) (b : blwO n o = true) : OR K H (ρ.take n) a o := by
  cases o with
  | lst xs => obtain ⟨vs, e, r⟩ := h; exact ⟨vs, e, r.cut b⟩
  | dic kvs => obtain ⟨es, e, r⟩ := h; exact ⟨es, e, r.cut b⟩
  | set xs => obtain ⟨nd, M, e, r⟩ := h; exact ⟨nd, M, e, r.cut⟩
theorem kept_at : ∀ {st st' : Sto}, kept n st st' = true → ∀ {i : Nat} {o : Ob}, st[i]? = some o → ∃ o', st'[i]? = some o' ∧ (o' = o ∨ blwO n o' = true)
  | [], _, _, _, _, e => by simp at e
  | x :: st, [], h, _, _, _ => by simp [kept] at h
  | x :: st, y :: st', h, i, o, e => by
    rw [kept, Bool.and_eq_true, Bool.or_eq_true, decide_eq_true_eq] at h
    cases i with
    | zero =>
      have e : x = o := by simpa using e
      subst e
      exact ⟨y, rfl, h.1⟩
    | succ i =>
      obtain ⟨o', a, b⟩ := kept_at h.2 (i := i) (o := o) (by simpa using e)
      exact ⟨o', by simpa using a, b⟩
theorem kept_len : ∀ {st st' : Sto}, kept n st st' = true → st.length ≤ st'.length
  | [], _, _ => Nat.zero_le _
  | _ :: _, [], h => by simp [kept] at h
  | _ :: st, _ :: st', h => by
    rw [kept, Bool.and_eq_true] at h
    have := kept_len h.2
    simpa using this
theorem Grow.len (g : Grow H ρ H' ρ') : ρ.length ≤ ρ'.length := by
  obtain ⟨m, e, _⟩ := g.pre
  rw [e, List.length_append]; omega
theorem Grow.take (g : Grow H ρ H' ρ') : ρ'.take ρ.length = ρ := by
  obtain ⟨m, e, _⟩ := g.pre
  rw [e, List.take_left]
theorem Grow.cut (g : Grow H ρ H' ρ') : Grow H ρ H' ρ := ⟨⟨[], by simp, by simp⟩, g.keep⟩
/-- the store behind, cut to what stood ahead -/
theorem SR.cut {st st' : Sto} (s : SR K H ρ st) (g : Grow H ρ H' ρ') (s' : SR K H' ρ' st') (k : kept st.length st st' = true) : SR K H' ρ (st'.take st.length) := by
  have hl : ρ.length = st.length := s.len
  have hle := kept_len k
  refine ⟨by rw [List.length_take, hl]; omega, s.nd, fun i a o e1 e2 => ?_, fun a ha => s'.nt a (by
    obtain ⟨m, e, _⟩ := g.pre
    rw [e]; exact List.mem_append_left _ ha)⟩
  have hi : i < st.length := by rw [← hl]; exact (List.getElem?_eq_some_iff.mp e1).1
  rw [List.getElem?_take_of_lt hi] at e2
  have h := s'.ob i a o (g.at e1) e2
  have e0 := List.getElem?_eq_getElem hi
  obtain ⟨o', q1, q2⟩ := kept_at k e0
  rw [e2] at q1
  cases q1
  have hb : blwO st.length o = true := by
    rcases q2 with q2 | q2
    · have := (s.ob i a _ e1 e0).lt
      rw [hl, ← q2] at this
      exact this
    · exact q2
  have := h.cut (n := st.length) hb
  rw [← hl, g.take] at this
  exact this
theorem gc_ok {st st' : Sto} {d : D} {v : V} (s : SR K H ρ st) (g : Grow H ρ H' ρ') (s' : SR K H' ρ' st') (h : VR K H' ρ' d v) : ∃ d2 st2 ρ2, gc st d st' = .ok d2 st2 ∧ Grow H ρ H' ρ2 ∧ SR K H' ρ2 st2 ∧ VR K H' ρ2 d2 v := by
  unfold gc
  have hl : ρ.length = st.length := s.len
  have same : ∃ d2 st2 ρ2, R.ok d st' = .ok d2 st2 ∧ Grow H ρ H' ρ2 ∧ SR K H' ρ2 st2 ∧ VR K H' ρ2 d2 v := ⟨d, st', ρ', rfl, g, s', h⟩
  split
  · rename_i hk
    split
    · rename_i hb
      refine ⟨d, _, ρ, rfl, g.cut, s.cut g s' hk, ?_⟩
      have := h.cut (n := st.length) hb
      rw [← hl, g.take] at this
      exact this
    · split
      · rename_i k hb
        split
        · rename_i o ho
          split
          · rename_i hbo
            obtain ⟨a, ha, ev⟩ := h
            have hk2 : ¬ k < st.length := by simpa [blw] using hb
            have sc := s.cut g s' hk
            have oa := (s'.ob k a o ha ho).cut (n := st.length) hbo
            rw [← hl, g.take] at oa
            -- a is none of the old places
            have hna : a ∉ ρ := fun hm => by
              obtain ⟨i, hi, e⟩ := List.getElem_of_mem hm
              have e1 : ρ'[i]? = some a := g.at (by rw [List.getElem?_eq_getElem hi, e])
              have hi' : i < ρ'.length := (List.getElem?_eq_some_iff.mp e1).1
              have hk' : k < ρ'.length := (List.getElem?_eq_some_iff.mp ha).1
              have e2 : i = k := (List.getElem_inj s'.nd (h₀ := hi') (h₁ := hk')).mp (Option.some.inj (by rw [← List.getElem?_eq_getElem, ← List.getElem?_eq_getElem, e1, ha]))
              omega
            have hin : a ∈ ρ' := List.mem_of_getElem? ha
            have hfresh : H a = none := by
              obtain ⟨m, e, f⟩ := g.pre
              rw [e] at hin
              rcases List.mem_append.mp hin with z | z
              · exact absurd z hna
              · exact (f a z).2
            have g2 : Grow H ρ H' (ρ ++ [a]) := ⟨⟨[a], rfl, fun x hx => by rw [List.mem_singleton.mp hx]; exact ⟨hna, hfresh⟩⟩, g.keep⟩
            have up : ∀ (i : Nat) (x : Addr), ρ[i]? = some x → (ρ ++ [a])[i]? = some x := fun i x e => by
              rw [List.getElem?_append_left (List.getElem?_eq_some_iff.mp e).1]; exact e
            have lift : ∀ {x : Addr} {u : Ob}, OR K H' ρ x u → OR K H' (ρ ++ [a]) x u := fun {x u} q => by
              have nt : ∀ b ∈ ρ, NoT H' b := sc.nt
              cases u with
              | lst xs => obtain ⟨vs, e, r⟩ := q; exact ⟨vs, e, VRs.keep (S := ρ) (fun _ _ e _ => e) up nt r⟩
              | dic kvs => obtain ⟨es, e, r⟩ := q; exact ⟨es, e, KVR.keep (S := ρ) (fun _ _ e _ => e) up nt r⟩
              | set xs => obtain ⟨nd, M, e, r⟩ := q; exact ⟨nd, M, e, r.keep (S := ρ) (fun _ _ e _ => e) up nt⟩
            refine ⟨_, _, ρ ++ [a], rfl, g2, ⟨by rw [List.length_append, List.length_append, sc.len]; rfl, ?_, fun i x u e1 e2 => ?_, fun x hx => ?_⟩, ⟨a, by rw [← hl]; simp, ev⟩⟩
            · rw [List.nodup_append]
              exact ⟨s.nd, by simp, fun x hx y hy => by rw [List.mem_singleton.mp hy]; intro z; exact hna (z ▸ hx)⟩
            · by_cases hi : i < ρ.length
              · rw [List.getElem?_append_left hi] at e1
                rw [List.getElem?_append_left (by rw [← sc.len]; exact hi)] at e2
                exact lift (sc.ob i x u e1 e2)
              · rw [List.getElem?_append_right (by omega)] at e1
                rw [List.getElem?_append_right (by rw [← sc.len]; omega), ← sc.len] at e2
                have : i - ρ.length = 0 := by
                  have := (List.getElem?_eq_some_iff.mp e1).1
                  simpa using this
                rw [this] at e1 e2
                cases e1
                cases e2
                exact lift oa
            · rcases List.mem_append.mp hx with z | z
              · exact sc.nt x z
              · rw [List.mem_singleton.mp z]; exact s'.nt a hin
          · exact same
        · exact same
      · exact same
  · exact same
end
/-! ### what never changes stays -/
def Imm (o : HO) : Prop := (∃ xs, o = .tup xs) ∨ ∃ ob u, o = .frz ob u
/-- the store's places stay, and what never changes; lists may change -/
structure Still (H : Hp) (ρ : List Addr) (H' : Hp) (ρ' : List Addr) : Prop where
  pre : ∃ more, ρ' = ρ ++ more
  imm : ∀ a o, H a = some o → Imm o → H' a = some o
section
variable {K : KW} {H H' H2 : Hp} {ρ ρ' ρ2 : List Addr}
theorem Still.refl (H : Hp) (ρ : List Addr) : Still H ρ H ρ := ⟨⟨[], by simp⟩, fun _ _ h _ => h⟩
theorem Still.trans (a : Still H ρ H' ρ') (b : Still H' ρ' H2 ρ2) : Still H ρ H2 ρ2 := by
  obtain ⟨m, e⟩ := a.pre
  obtain ⟨m2, e2⟩ := b.pre
  exact ⟨⟨m ++ m2, by rw [e2, e, List.append_assoc]⟩, fun x o h i => b.imm x o (a.imm x o h i) i⟩
theorem Grow.still (g : Grow H ρ H' ρ') {st : Sto} (s : SR K H ρ st) : Still H ρ H' ρ' := by
  obtain ⟨m, e, _⟩ := g.pre
  refine ⟨⟨m, e⟩, fun a o h i => g.keep a o h fun hm => ?_⟩
  obtain ⟨o', e', n1, n2⟩ := s.nt a hm
  rw [h] at e'
  cases e'
  rcases i with ⟨xs, i⟩ | ⟨ob, u, i⟩
  · exact n1 xs i
  · exact n2 ob u i
theorem Still.at (g : Still H ρ H' ρ') {i : Nat} {a : Addr} (h : ρ[i]? = some a) : ρ'[i]? = some a := by
  obtain ⟨m, e⟩ := g.pre
  rw [e, List.getElem?_append_left (List.getElem?_eq_some_iff.mp h).1]
  exact h
theorem Still.rd (g : Still H ρ H' ρ') {a : Addr} {o : Obj} {u : HO} (h : H a = some (.frz o u)) : H' a = some (.frz o u) := g.imm _ _ h (.inr ⟨o, u, rfl⟩)
theorem Still.sqT (g : Still H ρ H' ρ') {a : Addr} {vs : List V} (h : SqT K H a vs) : SqT K H' a vs := by
  rcases h with (h | ⟨o, h⟩) | h
  · exact .inl (.inl (g.imm _ _ h (.inl ⟨vs, rfl⟩)))
  · exact .inl (.inr ⟨o, g.rd h⟩)
  · exact .inr h
mutual
theorem VR.still (g : Still H ρ H' ρ') : ∀ {d : D} {v : V}, VR K H ρ d v → VR K H' ρ' d v
  | .non, _, h => h
  | .bl _, _, h => h
  | .int _, _, h => h
  | .str _, _, h => h
  | .ty _, _, h => h
  | .glo _, _, h => h
  | .ref n, _, ⟨a, h, e⟩ => ⟨a, g.at h, e⟩
  | .tup xs, _, ⟨a, vs, e, h, r⟩ => ⟨a, vs, e, g.sqT h, VRs.still g r⟩
  | .frl xs, _, ⟨a, vs, e, h, r⟩ => ⟨a, vs, e, h.imp (fun ⟨o, q⟩ => ⟨o, g.rd q⟩) id, VRs.still g r⟩
theorem VRs.still (g : Still H ρ H' ρ') : ∀ {ds : List D} {vs : List V}, VRs K H ρ ds vs → VRs K H' ρ' ds vs
  | [], _, h => h
  | _ :: _, _, ⟨v, r, e, h, hr⟩ => ⟨v, r, e, VR.still g h, VRs.still g hr⟩
end
theorem ER.still (g : Still H ρ H' ρ') {env : En} {σ : L2.St} (h : ER K H ρ env σ) : ER K H' ρ' env σ :=
  ⟨h.len, fun i d e => let ⟨v, a, b⟩ := h.at_ i d e; ⟨v, a, b.still g⟩⟩
theorem MemOf.still (g : Still H ρ H' ρ') {xs : List D} {M : List (V × NestedKey)} (h : MemOf K H ρ xs M) : MemOf K H' ρ' xs M :=
  ⟨fun m hm => let ⟨d, hd, r, e⟩ := h.1 m hm; ⟨d, hd, r.still g, e⟩, h.2⟩
end
/-! what the store looks like to gc -/
theorem kept_self (n : Nat) : ∀ (st g : Sto), kept n st (st ++ g) = true
  | [], _ => rfl
  | o :: st, g => by simp [kept, kept_self n st g]
theorem kept_set (n : Nat) : ∀ (st g : Sto) (k : Nat) (o : Ob), blwO n o = true → kept n st (st.set k o ++ g) = true
  | [], _, _, _, _ => rfl
  | o' :: st, g, 0, o, h => by simp [kept, h, kept_self n st g]
  | o' :: st, g, k + 1, o, h => by simp [kept, kept_set n st g k o h]
end L3
namespace L3
open PySem PySem.Spec PyProof.Rows L2

/-! ### what is wanted behind a step -/
inductive FR (K : KW) (H : Hp) (ρ : List Addr) : List (Str × D) → List (Str × V) → Prop where
  | nil : FR K H ρ [] []
  | cons {x : Str} {d : D} {v : V} {r : List (Str × D)} {r' : List (Str × V)} : VR K H ρ d v → FR K H ρ r r' → FR K H ρ ((x, d) :: r) ((x, v) :: r')
def XR (K : KW) (H : Hp) (ρ : List Addr) : Option Addr → List (Str × D) → Prop
  | none, fs => fs = []
  | some d, fs => ∃ es, H d = some (.xd es) ∧ FR K H ρ fs es
def Post {α : Type} (K : KW) (E : XK) (H : Hp) (ρ : List Addr) (r : R α) (T : α → Sto → Hp → List Addr → Prop) : Prop := match r with
  | .ok a st => ∀ H' ρ', Grow H ρ H' ρ' → SR K H' ρ' st → T a st H' ρ'
  | .exn c fs st => ∀ od H' ρ', Grow H ρ H' ρ' → SR K H' ρ' st → XR K H' ρ' od fs → E (.ref c) od H'
  | .stuck => False
section
variable {α β : Type} {K : KW} {E : XK} {H H' : Hp} {ρ ρ' : List Addr} {r : R α} {T T' : α → Sto → Hp → List Addr → Prop}
theorem Post.from (g : Grow H ρ H' ρ') (p : Post K E H ρ r T) : Post K E H' ρ' r T := by
  cases r with
  | ok a st => exact fun H2 ρ2 g2 s2 => p H2 ρ2 (g.trans g2) s2
  | exn c fs st => exact fun od H2 ρ2 g2 s2 => p od H2 ρ2 (g.trans g2) s2
  | stuck => exact p
theorem Post.mono (p : Post K E H ρ r T) (h : ∀ a st H' ρ', Grow H ρ H' ρ' → SR K H' ρ' st → T a st H' ρ' → T' a st H' ρ') : Post K E H ρ r T' := by
  cases r with
  | ok a st => exact fun H2 ρ2 g2 s2 => h a st H2 ρ2 g2 s2 (p H2 ρ2 g2 s2)
  | exn c fs st => exact p
  | stuck => exact p
theorem Post.bind {f : α → Sto → R β} {T : β → Sto → Hp → List Addr → Prop} (p : Post K E H ρ (r.bind f) T) : Post K E H ρ r (fun a st H1 ρ1 => Post K E H1 ρ1 (f a st) T) := by
  cases r with
  | ok a st => exact fun H1 ρ1 g1 _ => Post.from g1 p
  | exn c fs st => exact p
  | stuck => exact p
theorem Post.bind0 {f : α → Sto → R β} {T : β → Sto → Hp → List Addr → Prop} (p : Post K E H ρ (r.bind f) T) : Post K E H ρ r (fun a st _ _ => Post K E H ρ (f a st) T) := by
  cases r with
  | ok a st => exact fun _ _ _ _ => p
  | exn c fs st => exact p
  | stuck => exact p
/-- the end is met at once -/
theorem Post.here {a : α} {st : Sto} (p : Post K E H ρ (.ok a st) T) (s : SR K H ρ st) : T a st H ρ := p H ρ (Grow.refl H ρ) s
end

def tD (K : KW) (E : XK) (m : Mo D) : TE := fun σ H Q => ∃ ρ env st, ER K H ρ env σ ∧ SR K H ρ st ∧ Post K E H ρ (m env st) fun d _ H' ρ' => ∀ v, VR K H' ρ' d v → Q v H'
def tT (K : KW) (E : XK) (m : Mo Bool) : TT := fun σ H Q => ∃ ρ env st, ER K H ρ env σ ∧ SR K H ρ st ∧ Post K E H ρ (m env st) fun b _ H' _ => Q b H'
def tA (K : KW) (E : XK) (m : Mo (List D)) : TA := fun σ H Q => ∃ ρ env st, ER K H ρ env σ ∧ SR K H ρ st ∧ Post K E H ρ (m env st) fun ds _ H' ρ' => ∀ vs, VRs K H' ρ' ds vs → Q vs H'
def tO (K : KW) (E : XK) (m : Mo (Option Int)) : TO := fun σ H Q => ∃ ρ env st, ER K H ρ env σ ∧ SR K H ρ st ∧ Post K E H ρ (m env st) fun o _ H' _ => Q o H'
def EndR (K : KW) (De : Ends) (f : F) (H : Hp) (ρ : List Addr) : Prop := match f with
  | .nx env => ∀ σ, ER K H ρ env σ → De.nx σ H
  | .rt d => ∀ v, VR K H ρ d v → De.rt v H
  | .bk env => ∀ σ, ER K H ρ env σ → De.bk σ H
  | .ct env => ∀ σ, ER K H ρ env σ → De.ct σ H
def tS (K : KW) (E : XK) (m : MS) : TS := fun De σ H => ∃ ρ env st, ER K H ρ env σ ∧ SR K H ρ st ∧ Post K E H ρ (m env st) fun f _ H' ρ' => EndR K De f H' ρ'
def tG (K : KW) (E : XK) (g : D → En → Sto → R En) : TG := fun v σ H Q => ∃ ρ env st d, ER K H ρ env σ ∧ SR K H ρ st ∧ VR K H ρ d v ∧ Post K E H ρ (g d env st) fun env' _ H' ρ' => ∀ σ', ER K H' ρ' env' σ' → Q σ' H'
def tGs (K : KW) (E : XK) (g : List D → En → Sto → R En) : TGs := fun vs σ H Q => ∃ ρ env st ds, ER K H ρ env σ ∧ SR K H ρ st ∧ VRs K H ρ ds vs ∧ Post K E H ρ (g ds env st) fun env' _ H' ρ' => ∀ σ', ER K H' ρ' env' σ' → Q σ' H'
abbrev DE (X : Cx) (E : XK) (e : Expr) (m : Mo D) : Prop := PE X e (tD X.kw E m)
abbrev DT (X : Cx) (E : XK) (e : Expr) (m : Mo Bool) : Prop := PT X e (tT X.kw E m)
abbrev DW (X : Cx) (E : XK) (e : Expr) (m : Mo Bool) : Prop := PW X e (tT X.kw E m)
abbrev DA (X : Cx) (E : XK) (es : List Expr) (m : Mo (List D)) : Prop := PA X es (tA X.kw E m)
abbrev DO (X : Cx) (E : XK) (e : Option Expr) (m : Mo (Option Int)) : Prop := PO X e (tO X.kw E m)
abbrev DS (X : Cx) (E : XK) (s : Stmt) (m : MS) : Prop := PS X s (tS X.kw E m)
abbrev DSs (X : Cx) (E : XK) (s : List Stmt) (m : MS) : Prop := PSs X s (tS X.kw E m)
abbrev DG (X : Cx) (E : XK) (e : Expr) (g : D → En → Sto → R En) : Prop := PG X e (tG X.kw E g)
abbrev DGs (X : Cx) (E : XK) (es : List Expr) (g : List D → En → Sto → R En) : Prop := PGs X es (tGs X.kw E g)

section
variable {X : Cx}
theorem _root_.L2.PE.imp {e : Expr} {t t' : TE} (h : PE X e t) (k : ∀ σ H Q, t' σ H Q → t σ H Q) : PE X e t' := ⟨fun pins s σ H Q I q => h.run pins s σ H Q I (k σ H Q q)⟩
theorem _root_.L2.PT.imp {e : Expr} {t t' : TT} (h : PT X e t) (k : ∀ σ H Q, t' σ H Q → t σ H Q) : PT X e t' := ⟨fun pins s σ H Q I q => h.run pins s σ H Q I (k σ H Q q)⟩
theorem _root_.L2.PW.imp {e : Expr} {t t' : TT} (h : PW X e t) (k : ∀ σ H Q, t' σ H Q → t σ H Q) : PW X e t' := ⟨fun wh pins s σ H Q I q => h.run wh pins s σ H Q I (k σ H Q q)⟩
theorem _root_.L2.PA.imp {es : List Expr} {t t' : TA} (h : PA X es t) (k : ∀ σ H Q, t' σ H Q → t σ H Q) : PA X es t' := ⟨fun pos pins s σ H Q I q => h.run pos pins s σ H Q I (k σ H Q q)⟩
theorem _root_.L2.PO.imp {e : Option Expr} {t t' : TO} (h : PO X e t) (k : ∀ σ H Q, t' σ H Q → t σ H Q) : PO X e t' := by
  obtain ⟨run⟩ := h
  exact ⟨fun pins s σ H Q I q => run pins s σ H Q I (k σ H Q q)⟩
theorem _root_.L2.PS.imp {s : Stmt} {t t' : TS} (h : PS X s t) (k : ∀ De σ H, t' De σ H → t De σ H) : PS X s t' := ⟨fun pins s σ H De I q => h.run pins s σ H De I (k De σ H q)⟩
theorem _root_.L2.PSs.imp {s : List Stmt} {t t' : TS} (h : PSs X s t) (k : ∀ De σ H, t' De σ H → t De σ H) : PSs X s t' := ⟨fun pins s σ H De I q => h.run pins s σ H De I (k De σ H q)⟩
theorem _root_.L2.PG.imp {e : Expr} {t t' : TG} (h : PG X e t) (k : ∀ v σ H Q, t' v σ H Q → t v σ H Q) : PG X e t' := ⟨fun pins s σ H v u Q I r q => h.run pins s σ H v u Q I r (k v σ H Q q)⟩
theorem _root_.L2.PGs.imp {e : List Expr} {t t' : TGs} (h : PGs X e t) (k : ∀ v σ H Q, t' v σ H Q → t v σ H Q) : PGs X e t' := ⟨fun pins s σ H v u Q I r q => h.run pins s σ H v u Q I r (k v σ H Q q)⟩
end

/-! ### names, constants -/
@[simp] def mVar (i : Nat) : Mo D := fun env st => match env[i]? with
  | some (some d) => .ok d st
  | _ => .stuck
@[simp] def mC (d : D) : Mo D := fun _ st => .ok d st
section
variable {X : Cx} {E : XK}
theorem de_var (i : Nat) {x : Str} {pos : Pos} (hN : X.N[i]? = some x := by rfl) (hv : Vis X.env.scope x := by first | exact Or.inl rfl | exact Or.inr (Or.inl rfl) | exact Or.inr (Or.inr rfl)) (hd : (x == ("__debug__" : Str)) = false := by decide)
    (hcd : (x == ("__classdict__" : Str)) = false := by decide) : DE X E (.Name x pos) (mVar i) := (pe_var hN hv hd hcd).imp fun σ H Q ⟨ρ, env, st, er, sr, p⟩ => by
  unfold mVar at p
  split at p
  · rename_i d e
    obtain ⟨v, h1, h2⟩ := er.at_ i d e
    exact ⟨v, h1, p.here sr v h2⟩
  · exact p.elim
theorem de_c {e : Expr} {d : D} {v : V} (h : PE X e (tC v)) (r : ∀ H ρ, VR X.kw H ρ d v) : DE X E e (mC d) := h.imp fun σ H Q ⟨ρ, env, st, er, sr, p⟩ => p.here sr v (r H ρ)
theorem de_int {i j pos} : DE X E (.Constant (.int i) j pos) (mC (.int i)) := de_c pe_int fun _ _ => rfl
theorem de_bl {b j pos} : DE X E (.Constant (.bool b) j pos) (mC (.bl b)) := de_c pe_bl fun _ _ => rfl
theorem de_non {j pos} : DE X E (.Constant .none j pos) (mC .non) := de_c pe_non fun _ _ => rfl
theorem de_str {x j pos} : DE X E (.Constant (.str x) j pos) (mC (.str x)) := de_c pe_str fun _ _ => rfl
/-- a name of the module: a written number, text; a class or a def -/
theorem de_glob {x : Str} {d : D} {v : V} {u : Value} {pos : Pos} (hm : X.mg x = some u) (r : RelV v u) (hd : ∀ H ρ, VR X.kw H ρ d v) (hg : Gl X x := by rfl) (hdb : (x == ("__debug__" : Str)) = false := by decide) : DE X E (.Name x pos) (mC d) :=
  de_c (pe_glob hg hm r hdb) hd
/-- a built-in class as a value -/
theorem de_ty {x : Str} {T : String} {pos : Pos} (hm : X.mg x = none) (hv : bootBuiltins x = some (.type T)) (hg : Gl X x := by rfl) (hn : x ≠ "__name__" := by decide) (hdb : (x == ("__debug__" : Str)) = false := by decide) : DE X E (.Name x pos) (mC (.ty T)) :=
  de_c (pe_bltn hg hm hv (show RelV (.ty T) (.type T) from rfl) hn hdb) fun _ _ => rfl

/-! ### operators -/
def rD (K : KW) (E : XK) (f : D → D → Sto → R D) : R2 := fun x y H Q => ∃ ρ st dx dy, SR K H ρ st ∧ VR K H ρ dx x ∧ VR K H ρ dy y ∧ Post K E H ρ (f dx dy st) fun d _ H' ρ' => ∀ v, VR K H' ρ' d v → Q v H'
def rU (K : KW) (E : XK) (f : D → Sto → R D) : V → Hp → VK → Prop := fun x H Q => ∃ ρ st dx, SR K H ρ st ∧ VR K H ρ dx x ∧ Post K E H ρ (f dx st) fun d _ H' ρ' => ∀ v, VR K H' ρ' d v → Q v H'
def rC (K : KW) (E : XK) (f : List D → Sto → R D) : List V → Hp → VK → Prop := fun vs H Q => ∃ ρ st ds, SR K H ρ st ∧ VRs K H ρ ds vs ∧ Post K E H ρ (f ds st) fun d _ H' ρ' => ∀ v, VR K H' ρ' d v → Q v H'
@[simp] def mOp (f : D → D → Sto → R D) (ma mb : Mo D) : Mo D := fun env st => (ma env st).bind fun x st1 => (mb env st1).bind fun y st2 => f x y st2
@[simp] def mUn (f : D → Sto → R D) (ma : Mo D) : Mo D := fun env st => (ma env st).bind fun x st1 => f x st1
theorem tD_op {K : KW} {f : D → D → Sto → R D} {ma mb : Mo D} {σ : L2.St} {H : Hp} {Q : VK} (h : tD K E (mOp f ma mb) σ H Q) : tOp (rD K E f) (tD K E ma) (tD K E mb) σ H Q := by
  obtain ⟨ρ, env, st, er, sr, p⟩ := h
  exact ⟨ρ, env, st, er, sr, p.bind.mono fun dx st1 H1 ρ1 g1 s1 p1 v hv =>
    ⟨ρ1, env, st1, er.grow g1 sr, s1, p1.bind.mono fun dy st2 H2 ρ2 g2 s2 p2 w hw => ⟨ρ2, st2, dx, dy, s2, hv.grow g2 s1, hw, p2⟩⟩⟩
theorem de_op {op : Operator} {f : D → D → Sto → R D} {a b : Expr} {ma mb : Mo D} {pos : Pos} (ho : OpR X (binaryOp op) (rD X.kw E f)) (ha : DE X E a ma) (hb : DE X E b mb) : DE X E (.BinOp a op b pos) (mOp f ma mb) := (pe_op ho ha hb).imp fun _ _ _ h => tD_op h
theorem de_cmp {op : CmpOp} {f : D → D → Sto → R D} {a b : Expr} {ma mb : Mo D} {pos : Pos} (ho : OpR X (compareOp op) (rD X.kw E f)) (ha : DE X E a ma) (hb : DE X E b mb) (hm : behindInMarks op b = false := by first | exact nomark _ | rfl) : DE X E (.Compare a [op] [b] pos) (mOp f ma mb) :=
  (pe_cmpR ho ha hb hm).imp fun _ _ _ h => tD_op h
theorem de_un {op : UnaryOp} {f : D → Sto → R D} {a : Expr} {ma : Mo D} {pos : Pos} (ho : UnR X (unaryOp op) (rU X.kw E f)) (ha : DE X E a ma) : DE X E (.UnaryOp op a pos) (mUn f ma) :=
  (pe_un ho ha).imp fun _ _ _ ⟨ρ, env, st, er, sr, p⟩ => ⟨ρ, env, st, er, sr, p.bind.mono fun dx st1 H1 ρ1 g1 s1 p1 v hv => ⟨ρ1, st1, dx, s1, hv, p1⟩⟩
theorem de_ix {f : D → D → Sto → R D} {a b : Expr} {ma mb : Mo D} {pos : Pos} (ho : IxR X (rD X.kw E f)) (ha : DE X E a ma) (hb : DE X E b mb) (hs : PlainIx b := by exact fun _ _ => rfl) : DE X E (.Subscript a b pos) (mOp f ma mb) := (pe_ix ho ha hb hs).imp fun _ _ _ h => tD_op h

/-! ### tests -/
@[simp] def mB (m : Mo D) : Mo Bool := fun env st => (m env st).bind fun d st1 => match d with
  | .bl b => .ok b st1
  | _ => .stuck
theorem tT_B {K : KW} {m : Mo D} {σ : L2.St} {H : Hp} {Q : Bool → Hp → Prop} (h : tT K E (mB m) σ H Q) : tD K E m σ H fun x H' => ∃ k, x = .bl k ∧ Q k H' := by
  obtain ⟨ρ, env, st, er, sr, p⟩ := h
  refine ⟨ρ, env, st, er, sr, p.bind.mono fun d st1 H1 ρ1 g1 s1 p1 v hv => ?_⟩
  cases d with
  | bl b => exact ⟨b, hv, p1.here s1⟩
  | _ => exact p1.elim
theorem dt_val {e : Expr} {m : Mo D} (h : DE X E e m) (he : ∀ whole, isTrue e X.env whole = (do let v ← whole; standAt e.pos; holding [v] (truthy v)) := by intro _; rfl) : DT X E e (mB m) := (pt_val h he).imp fun _ _ _ q => tT_B q
theorem dt_cmp {op : CmpOp} {f : D → D → Sto → R D} {a b : Expr} {ma mb : Mo D} {pos : Pos} (ho : OpR X (compareOp op) (rD X.kw E f)) (ha : DE X E a ma) (hb : DE X E b mb) (hm : behindInMarks op b = false := by first | exact nomark _ | rfl) : DT X E (.Compare a [op] [b] pos) (mB (mOp f ma mb)) :=
  (pt_cmpR ho ha hb hm).imp fun _ _ _ h => tD_op (tT_B h)
@[simp] def mNot (m : Mo Bool) : Mo Bool := fun env st => (m env st).bind fun b st1 => .ok (!b) st1
@[simp] def mAnd (m n : Mo Bool) : Mo Bool := fun env st => (m env st).bind fun b st1 => if b = true then n env st1 else .ok false st1
@[simp] def mOr (m n : Mo Bool) : Mo Bool := fun env st => (m env st).bind fun b st1 => if b = true then .ok true st1 else n env st1
theorem dt_not {a : Expr} {m : Mo Bool} {pos : Pos} (ha : DT X E a m) : DT X E (.UnaryOp .Not a pos) (mNot m) := (pt_not ha).imp fun _ _ _ ⟨ρ, env, st, er, sr, p⟩ => ⟨ρ, env, st, er, sr, p.bind.mono fun b st1 H1 ρ1 g1 s1 p1 => p1.here s1⟩
theorem tT_and {K : KW} {m n : Mo Bool} {σ : L2.St} {H : Hp} {Q : Bool → Hp → Prop} (h : tT K E (mAnd m n) σ H Q) : tAnd (tT K E m) (tT K E n) σ H Q := by
  obtain ⟨ρ, env, st, er, sr, p⟩ := h
  refine ⟨ρ, env, st, er, sr, p.bind.mono fun b st1 H1 ρ1 g1 s1 p1 => ?_⟩
  cases b with
  | true => exact ⟨ρ1, env, st1, er.grow g1 sr, s1, p1⟩
  | false => exact p1.here s1
theorem tT_or {K : KW} {m n : Mo Bool} {σ : L2.St} {H : Hp} {Q : Bool → Hp → Prop} (h : tT K E (mOr m n) σ H Q) : tOr (tT K E m) (tT K E n) σ H Q := by
  obtain ⟨ρ, env, st, er, sr, p⟩ := h
  refine ⟨ρ, env, st, er, sr, p.bind.mono fun b st1 H1 ρ1 g1 s1 p1 => ?_⟩
  cases b with
  | true => exact p1.here s1
  | false => exact ⟨ρ1, env, st1, er.grow g1 sr, s1, p1⟩
theorem dw_and1 {a : Expr} {m : Mo Bool} {pos : Pos} (ha : DT X E a m) : DW X E (.BoolOp .And [a] pos) m := pw_and1 ha
theorem dw_or1 {a : Expr} {m : Mo Bool} {pos : Pos} (ha : DT X E a m) : DW X E (.BoolOp .Or [a] pos) m := pw_or1 ha
theorem dw_and {a b : Expr} {rest : List Expr} {m n : Mo Bool} {pos : Pos} (ha : DT X E a m) (hb : DW X E (.BoolOp .And (b :: rest) pos) n) : DW X E (.BoolOp .And (a :: b :: rest) pos) (mAnd m n) := (pw_and ha hb).imp fun _ _ _ h => tT_and h
theorem dw_or {a b : Expr} {rest : List Expr} {m n : Mo Bool} {pos : Pos} (ha : DT X E a m) (hb : DW X E (.BoolOp .Or (b :: rest) pos) n) : DW X E (.BoolOp .Or (a :: b :: rest) pos) (mOr m n) := (pw_or ha hb).imp fun _ _ _ h => tT_or h
theorem dt_w {e : Expr} {m : Mo Bool} (h : DW X E e m) : DT X E e m := h.pt
/-- and, or as values: all but the last True or False -/
@[simp] def mAndV (m : Mo D) (n : Mo D) : Mo D := fun env st => (m env st).bind fun d st1 => match d with
  | .bl true => n env st1
  | .bl false => .ok (.bl false) st1
  | _ => .stuck
@[simp] def mOrV (m : Mo D) (n : Mo D) : Mo D := fun env st => (m env st).bind fun d st1 => match d with
  | .bl true => .ok (.bl true) st1
  | .bl false => n env st1
  | _ => .stuck
theorem de_one {op} {a : Expr} {m : Mo D} {pos : Pos} (h : DE X E a m) : DE X E (.BoolOp op [a] pos) m := pe_one h
theorem de_and {a b : Expr} {rest : List Expr} {m n : Mo D} {pos : Pos} (ha : DE X E a m) (hb : DE X E (.BoolOp .And (b :: rest) pos) n) : DE X E (.BoolOp .And (a :: b :: rest) pos) (mAndV m n) := (pe_and ha hb).imp fun _ _ _ ⟨ρ, env, st, er, sr, p⟩ =>
  ⟨ρ, env, st, er, sr, p.bind.mono fun d st1 H1 ρ1 g1 s1 p1 v hv => by
    cases d with
    | bl b =>
      cases b with
      | true => exact ⟨true, hv, ρ1, env, st1, er.grow g1 sr, s1, p1⟩
      | false => exact ⟨false, hv, p1.here s1 _ rfl⟩
    | _ => exact p1.elim⟩
theorem de_or {a b : Expr} {rest : List Expr} {m n : Mo D} {pos : Pos} (ha : DE X E a m) (hb : DE X E (.BoolOp .Or (b :: rest) pos) n) : DE X E (.BoolOp .Or (a :: b :: rest) pos) (mOrV m n) := (pe_or ha hb).imp fun _ _ _ ⟨ρ, env, st, er, sr, p⟩ =>
  ⟨ρ, env, st, er, sr, p.bind.mono fun d st1 H1 ρ1 g1 s1 p1 v hv => by
    cases d with
    | bl b =>
      cases b with
      | true => exact ⟨true, hv, p1.here s1 _ rfl⟩
      | false => exact ⟨false, hv, ρ1, env, st1, er.grow g1 sr, s1, p1⟩
    | _ => exact p1.elim⟩
@[simp] def mNotV (m : Mo D) : Mo D := fun env st => (m env st).bind fun d st1 => match d with
  | .bl b => .ok (.bl (!b)) st1
  | _ => .stuck
theorem de_not {a : Expr} {m : Mo D} {pos : Pos} (ha : DE X E a m) : DE X E (.UnaryOp .Not a pos) (mNotV m) := (pe_not ha).imp fun _ _ _ ⟨ρ, env, st, er, sr, p⟩ => ⟨ρ, env, st, er, sr, p.bind.mono fun d st1 H1 ρ1 g1 s1 p1 v hv => by
    cases d with
    | bl b => exact ⟨b, hv, p1.here s1 _ rfl⟩
    | _ => exact p1.elim⟩
@[simp] def mIte (c : Mo Bool) (m n : Mo D) : Mo D := fun env st => (c env st).bind fun b st1 => if b = true then m env st1 else n env st1
theorem de_ite {c a b : Expr} {mc : Mo Bool} {m n : Mo D} {pos : Pos} (hc : DT X E c mc) (ha : DE X E a m) (hb : DE X E b n) : DE X E (.IfExp c a b pos) (mIte mc m n) := (pe_ifExp hc ha hb).imp fun _ _ _ ⟨ρ, env, st, er, sr, p⟩ =>
  ⟨ρ, env, st, er, sr, p.bind.mono fun b st1 H1 ρ1 g1 s1 p1 => by
    cases b with
    | true => exact ⟨ρ1, env, st1, er.grow g1 sr, s1, p1⟩
    | false => exact ⟨ρ1, env, st1, er.grow g1 sr, s1, p1⟩⟩

/-! ### arguments, displays -/
@[simp] def mNil : Mo (List D) := fun _ st => .ok [] st
@[simp] def mCons (m : Mo D) (n : Mo (List D)) : Mo (List D) := fun env st => (m env st).bind fun d st1 => (n env st1).bind fun ds st2 => .ok (d :: ds) st2
theorem da_nil : DA X E [] mNil := (pa_nil).imp fun _ _ _ ⟨ρ, env, st, er, sr, p⟩ => p.here sr [] rfl
theorem da_cons {e : Expr} {es : List Expr} {m : Mo D} {n : Mo (List D)} (h : DE X E e m) (hr : DA X E es n) (hs : starEach (e :: es) X.env = (false, eval e X.env) :: starEach es X.env := by rfl) : DA X E (e :: es) (mCons m n) :=
  (pa_cons h hr hs).imp fun _ _ _ ⟨ρ, env, st, er, sr, p⟩ => ⟨ρ, env, st, er, sr, p.bind.mono fun d st1 H1 ρ1 g1 s1 p1 v hv =>
    ⟨ρ1, env, st1, er.grow g1 sr, s1, p1.bind.mono fun ds st2 H2 ρ2 g2 s2 p2 vs hvs => p2.here s2 (v :: vs) ⟨v, vs, rfl, hv.grow g2 s1, hvs⟩⟩⟩
def szOk (n : Nat) : Bool := decide (n ≤ 16777216)
theorem szOk_le {n : Nat} (h : szOk n = true) : n ≤ sizeLine := by
  rw [sizeLine_eq]; exact of_decide_eq_true h
@[simp] def mTup (m : Mo (List D)) : Mo D := fun env st => (m env st).bind fun ds st1 => if szOk ds.length then .ok (.tup ds) st1 else .stuck
@[simp] def mLst (m : Mo (List D)) : Mo D := fun env st => (m env st).bind fun ds st1 => if szOk ds.length then .ok (.ref st1.length) (st1 ++ [.lst ds]) else .stuck
end
/-- a new list of the store -/
theorem SR.fresh {K : KW} {H : Hp} {ρ : List Addr} {st : Sto} (s : SR K H ρ st) {p : Addr} (hp : H p = none) : p ∉ ρ := fun hm => by
  obtain ⟨o, e, _⟩ := s.nt p hm
  rw [hp] at e; cases e
theorem OR.keep {K : KW} {H H' : Hp} {ρ ρ' S : List Addr} {a : Addr} {o : Ob} (hk : ∀ a o, H a = some o → a ∉ S → H' a = some o) (hp : ∀ (i : Nat) (a : Addr), ρ[i]? = some a → ρ'[i]? = some a) (hn : ∀ a ∈ S, NoT H a) (ha : H' a = H a) (h : OR K H ρ a o) : OR K H' ρ' a o := by
  cases o with
  | lst xs => obtain ⟨vs, e, r⟩ := h; exact ⟨vs, ha.trans e, r.keep hk hp hn⟩
  | dic kvs => obtain ⟨es, e, r⟩ := h; exact ⟨es, ha.trans e, r.keep hk hp hn⟩
  | set xs => obtain ⟨nd, M, e, r⟩ := h; exact ⟨nd, M, ha.trans e, r.keep hk hp hn⟩
theorem SR.new {K : KW} {H : Hp} {ρ : List Addr} {st : Sto} (s : SR K H ρ st) {p : Addr} {o : HO} {ob : Ob} (hp : H p = none) (h : OR K (upd H p o) (ρ ++ [p]) p ob) (nt : NoT (upd H p o) p) : SR K (upd H p o) (ρ ++ [p]) (st ++ [ob]) := by
  have hf := s.fresh hp
  have up : ∀ (i : Nat) (x : Addr), ρ[i]? = some x → (ρ ++ [p])[i]? = some x := fun i x e => by
    rw [List.getElem?_append_left (List.getElem?_eq_some_iff.mp e).1]; exact e
  have hk : ∀ a u, H a = some u → a ∉ ρ → (upd H p o) a = some u := fun a u e _ => by rw [upd_ne (ne_of_none e hp)]; exact e
  refine ⟨by simp [s.len], ?_, fun i x u e1 e2 => ?_, fun x hx => ?_⟩
  · rw [List.nodup_append]
    exact ⟨s.nd, by simp, fun x hx y hy => by rw [List.mem_singleton.mp hy]; intro z; exact hf (z ▸ hx)⟩
  · by_cases hi : i < ρ.length
    · rw [List.getElem?_append_left hi] at e1
      rw [List.getElem?_append_left (by rw [← s.len]; exact hi)] at e2
      exact (s.ob i x u e1 e2).keep hk up s.nt (upd_ne (fun z => hf (z ▸ List.mem_of_getElem? e1)))
    · rw [List.getElem?_append_right (by omega)] at e1
      rw [List.getElem?_append_right (by rw [← s.len]; omega), ← s.len] at e2
      have : i - ρ.length = 0 := by
        have := (List.getElem?_eq_some_iff.mp e1).1
        simpa using this
      rw [this] at e1 e2
      cases e1
      cases e2
      exact h
  · rcases List.mem_append.mp hx with z | z
    · obtain ⟨u, e, n1, n2⟩ := s.nt x z
      exact ⟨u, by rw [upd_ne (fun q : x = p => hf (by rw [← q]; exact z))]; exact e, n1, n2⟩
    · rw [List.mem_singleton.mp z]; exact nt
theorem SR.newL {K : KW} {H : Hp} {ρ : List Addr} {st : Sto} (s : SR K H ρ st) {p : Addr} {ds : List D} {vs : List V} (hp : H p = none) (h : VRs K H ρ ds vs) : Grow H ρ (upd H p (.lst vs)) (ρ ++ [p]) ∧ SR K (upd H p (.lst vs)) (ρ ++ [p]) (st ++ [.lst ds]) ∧ VR K (upd H p (.lst vs)) (ρ ++ [p]) (.ref st.length) (.ref p) := by
  have g : Grow H ρ (upd H p (.lst vs)) (ρ ++ [p]) := Grow.new hp (s.fresh hp)
  refine ⟨g, s.new hp ⟨vs, upd_same, h.grow g s⟩ ⟨_, upd_same, (fun _ z => nomatch z), (fun _ _ z => nomatch z)⟩, p, ?_, rfl⟩
  rw [← s.len]; simp
/-- a list of the store written -/
theorem SR.write {K : KW} {H : Hp} {ρ : List Addr} {st : Sto} (s : SR K H ρ st) {k : Nat} {p : Addr} {o : HO} {ob : Ob} (hk : ρ[k]? = some p) (h : OR K (upd H p o) ρ p ob) (nt : NoT (upd H p o) p) : Grow H ρ (upd H p o) ρ ∧ SR K (upd H p o) ρ (st.set k ob) := by
  have hm : p ∈ ρ := List.mem_of_getElem? hk
  have g : Grow H ρ (upd H p o) ρ := Grow.write hm
  have hkl : k < ρ.length := (List.getElem?_eq_some_iff.mp hk).1
  refine ⟨g, by simp [s.len], s.nd, fun i x u e1 e2 => ?_, fun x hx => ?_⟩
  · by_cases hi : i = k
    · subst hi
      rw [hk] at e1; cases e1
      rw [List.getElem?_set_self (by rw [← s.len]; exact hkl)] at e2
      cases e2
      exact h
    · rw [List.getElem?_set_ne (Ne.symm hi)] at e2
      have hx : x ≠ p := fun z => by
        subst z
        have hil : i < ρ.length := (List.getElem?_eq_some_iff.mp e1).1
        exact hi ((List.getElem_inj s.nd (h₀ := hil) (h₁ := hkl)).mp (Option.some.inj (by rw [← List.getElem?_eq_getElem, ← List.getElem?_eq_getElem, e1, hk])))
      exact (s.ob i x u e1 e2).keep g.keep (fun _ _ e => e) s.nt (upd_ne hx)
  · by_cases hq : x = p
    · rw [hq]; exact nt
    · obtain ⟨u, e, n1, n2⟩ := s.nt x hx
      exact ⟨u, by rw [upd_ne hq]; exact e, n1, n2⟩
theorem SR.aside {K : KW} {H : Hp} {ρ : List Addr} {st : Sto} (s : SR K H ρ st) {p : Addr} {o : HO} (hp : H p = none) : Grow H ρ (upd H p o) ρ ∧ SR K (upd H p o) ρ st := by
  have hf := s.fresh hp
  have g : Grow H ρ (upd H p o) ρ := Grow.aside hp
  refine ⟨g, s.len, s.nd, fun i x u e1 e2 => (s.ob i x u e1 e2).keep g.keep (fun _ _ e => e) s.nt (upd_ne (fun z => hf (z ▸ List.mem_of_getElem? e1))), fun x hx => ?_⟩
  obtain ⟨u, e, n1, n2⟩ := s.nt x hx
  exact ⟨u, by rw [upd_ne (fun q : x = p => hf (by rw [← q]; exact hx))]; exact e, n1, n2⟩
theorem SR.tup {K : KW} {H : Hp} {ρ : List Addr} {st : Sto} (s : SR K H ρ st) {p : Addr} {ds : List D} {vs : List V} (hp : H p = none) (h : VRs K H ρ ds vs) : Grow H ρ (upd H p (.tup vs)) ρ ∧ SR K (upd H p (.tup vs)) ρ st ∧ VR K (upd H p (.tup vs)) ρ (.tup ds) (.ref p) := by
  obtain ⟨g, s'⟩ := s.aside (o := .tup vs) hp
  exact ⟨g, s', p, vs, rfl, SqT.of upd_same, h.grow g s⟩
section
variable {X : Cx} {E : XK}
theorem de_tup {es : List Expr} {m : Mo (List D)} {x1} {pos : Pos} (h : DA X E es m) : DE X E (.Tuple es x1 pos) (mTup m) := (pe_tup h).imp fun _ _ _ ⟨ρ, env, st, er, sr, p⟩ => ⟨ρ, env, st, er, sr, p.bind.mono fun ds st1 H1 ρ1 g1 s1 p1 vs hvs => by
    split at p1
    · rename_i hz
      refine ⟨by rw [← hvs.length]; exact szOk_le hz, fun q hq => ?_⟩
      obtain ⟨g2, s2, r2⟩ := s1.tup hq hvs
      exact p1 _ _ g2 s2 _ r2
    · exact p1.elim⟩
theorem de_lst {es : List Expr} {m : Mo (List D)} {pos : Pos} (h : DA X E es m) : DE X E (.List es pos) (mLst m) := (pe_lst h).imp fun _ _ _ ⟨ρ, env, st, er, sr, p⟩ => ⟨ρ, env, st, er, sr, p.bind.mono fun ds st1 H1 ρ1 g1 s1 p1 vs hvs => by
    split at p1
    · rename_i hz
      refine ⟨by rw [← hvs.length]; exact szOk_le hz, fun q hq => ?_⟩
      obtain ⟨g2, s2, r2⟩ := s1.newL hq hvs
      exact p1 _ _ g2 s2 _ r2
    · exact p1.elim⟩
/-- what a value leaves behind is dropped -/
@[simp] def mGc (m : Mo D) : Mo D := fun env st => (m env st).bind fun d st1 => gc st d st1
theorem de_gc {e : Expr} {m : Mo D} (h : DE X E e m) : DE X E e (mGc m) := h.imp fun _ _ _ ⟨ρ, env, st, er, sr, p⟩ => ⟨ρ, env, st, er, sr, p.bind0.mono fun d st1 H1 ρ1 g1 s1 p1 v hv => by
    obtain ⟨d2, st2, ρ2, e, g2, s2, r2⟩ := gc_ok sr g1 s1 hv
    rw [e] at p1
    exact p1 _ _ g2 s2 _ r2⟩
end
end L3
namespace L3
open PySem PySem.Spec PyProof.Rows L2

/-! ### targets: names, and tuples of targets -/
inductive Tg where
  | nm (i : Nat) | tp (ts : List Tg)
mutual
def setT : Tg → D → En → Option En
  | .nm i, d, env => some (env.set i (some d))
  | .tp ts, .tup ds, env => setTs ts ds env
  | .tp _, _, _ => none
def setTs : List Tg → List D → En → Option En
  | [], [], env => some env
  | t :: ts, d :: ds, env => match setT t d env with
    | some env1 => setTs ts ds env1
    | none => none
  | _, _, _ => none
end
mutual
def gT (K : KW) : Tg → TG
  | .nm i => gName i
  | .tp ts => gTup K ts.length (gTs K ts)
def gTs (K : KW) : List Tg → TGs
  | [] => gNil
  | t :: ts => gCons (gT K t) (gTs K ts)
end
mutual
def namesT : Tg → List Nat
  | .nm i => [i]
  | .tp ts => namesTs ts
def namesTs : List Tg → List Nat
  | [] => []
  | t :: ts => namesT t ++ namesTs ts
end
theorem ER.set {K : KW} {H : Hp} {ρ : List Addr} {env : En} {σ : L2.St} (h : ER K H ρ env σ) (i : Nat) {d : D} {v : V} (r : VR K H ρ d v) : ER K H ρ (env.set i (some d)) (σ.set i (some v)) := by
  refine ⟨by simp [h.len], fun j d' e => ?_⟩
  by_cases hj : i = j
  · subst hj
    have hi : i < env.length := by
      have := (List.getElem?_eq_some_iff.mp e).1
      simpa using this
    rw [List.getElem?_set_self hi] at e
    cases e
    exact ⟨v, by rw [List.getElem?_set_self (by rw [← h.len]; exact hi)], r⟩
  · rw [List.getElem?_set_ne hj] at e
    obtain ⟨w, a, b⟩ := h.at_ j d' e
    exact ⟨w, by rw [List.getElem?_set_ne hj]; exact a, b⟩
theorem wipe_set {σ : L2.St} {i : Nat} {x : Option V} : ∀ {vs : List Nat}, i ∈ vs → wipe (σ.set i x) vs = wipe σ vs
  | [], h => by cases h
  | v :: vs, h => by
    show (wipe (σ.set i x) vs).set v none = (wipe σ vs).set v none
    by_cases hv : i ∈ vs
    · rw [wipe_set hv]
    · have e : i = v := by
        rcases List.mem_cons.mp h with z | z
        · exact z
        · exact absurd z hv
      subst e
      have comm : ∀ (vs : List Nat), i ∉ vs → wipe (σ.set i x) vs = (wipe σ vs).set i x := by
        intro vs
        induction vs with
        | nil => intro _; rfl
        | cons u us ih =>
          intro hn
          rw [List.mem_cons, not_or] at hn
          show (wipe (σ.set i x) us).set u none = ((wipe σ us).set u none).set i x
          rw [ih hn.2, List.set_comm _ _ hn.1]
      rw [comm vs hv, List.set_set]
theorem setT_ok_names {K : KW} : True := trivial
mutual
theorem setT_ok {K : KW} {H : Hp} {ρ : List Addr} : ∀ {t : Tg} {d : D} {v : V} {env env' : En} {σ : L2.St} {Q : L2.St → Hp → Prop}, ER K H ρ env σ → VR K H ρ d v → setT t d env = some env' →
    (∀ σ2, ER K H ρ env' σ2 → (∀ vs : List Nat, (∀ i ∈ namesT t, i ∈ vs) → wipe σ2 vs = wipe σ vs) → Q σ2 H) → gT K t v σ H Q
  | .nm i, d, v, env, env', σ, Q, er, hv, e, q => by
    rw [setT] at e
    cases e
    rw [gT]
    exact q _ (er.set i hv) fun vs hvs => wipe_set (hvs i (by simp [namesT]))
  | .tp ts, .tup ds, v, env, env', σ, Q, er, hv, e, q => by
    rw [setT] at e
    obtain ⟨a, xs, ev, hq, r⟩ := hv
    rw [gT]
    refine ⟨a, xs, ev, hq, ?_, setTs_ok er r e fun σ2 e2 w2 => q σ2 e2 fun vs hvs => w2 vs (by rw [namesT] at hvs; exact hvs)⟩
    rw [← r.length]
    exact (setTs_len e).symm
  | .tp ts, .non, v, env, env', σ, Q, er, hv, e, q | .tp ts, .bl _, v, env, env', σ, Q, er, hv, e, q | .tp ts, .int _, v, env, env', σ, Q, er, hv, e, q | .tp ts, .str _, v, env, env', σ, Q, er, hv, e, q
  | .tp ts, .frl _, v, env, env', σ, Q, er, hv, e, q | .tp ts, .ref _, v, env, env', σ, Q, er, hv, e, q | .tp ts, .ty _, v, env, env', σ, Q, er, hv, e, q | .tp ts, .glo _, v, env, env', σ, Q, er, hv, e, q => by simp [setT] at e
theorem setTs_ok {K : KW} {H : Hp} {ρ : List Addr} : ∀ {ts : List Tg} {ds : List D} {vs : List V} {env env' : En} {σ : L2.St} {Q : L2.St → Hp → Prop}, ER K H ρ env σ → VRs K H ρ ds vs → setTs ts ds env = some env' →
    (∀ σ2, ER K H ρ env' σ2 → (∀ ws : List Nat, (∀ i ∈ namesTs ts, i ∈ ws) → wipe σ2 ws = wipe σ ws) → Q σ2 H) → gTs K ts vs σ H Q
  | [], [], vs, env, env', σ, Q, er, hv, e, q => by
    rw [setTs] at e
    cases e
    rw [gTs]
    exact ⟨hv, q σ er fun _ _ => rfl⟩
  | t :: ts, d :: ds, vs, env, env', σ, Q, er, ⟨v, r, ev, h, hr⟩, e, q => by
    rw [setTs] at e
    cases e1 : setT t d env with
    | none => rw [e1] at e; cases e
    | some env1 =>
      rw [e1] at e
      rw [gTs]
      refine ⟨v, r, ev, setT_ok er h e1 fun σ2 e2 w2 => setTs_ok e2 hr e fun σ3 e3 w3 => q σ3 e3 fun ws hws => ?_⟩
      rw [namesTs] at hws
      exact (w3 ws fun i hi => hws i (List.mem_append_right _ hi)).trans (w2 ws fun i hi => hws i (List.mem_append_left _ hi))
  | [], _ :: _, vs, env, env', σ, Q, er, hv, e, q => by simp [setTs] at e
  | _ :: _, [], vs, env, env', σ, Q, er, hv, e, q => by simp [setTs] at e
theorem setTs_len : ∀ {ts : List Tg} {ds : List D} {env env' : En}, setTs ts ds env = some env' → ts.length = ds.length
  | [], [], _, _, _ => rfl
  | t :: ts, d :: ds, env, env', e => by
    rw [setTs] at e
    cases e1 : setT t d env with
    | none => rw [e1] at e; cases e
    | some env1 => rw [e1] at e; rw [List.length_cons, List.length_cons, setTs_len e]
  | [], _ :: _, _, _, e => by simp [setTs] at e
  | _ :: _, [], _, _, e => by simp [setTs] at e
end
/-- a target of the text -/
abbrev PT' (X : Cx) (e : Expr) (t : Tg) : Prop := PG X e (gT X.kw t)
abbrev PTs' (X : Cx) (es : List Expr) (ts : List Tg) : Prop := PGs X es (gTs X.kw ts)
section
variable {X : Cx}
theorem tg_nm (i : Nat) {x : Str} {pos : Pos} (hN : X.N.Nodup) (hi : X.N[i]? = some x := by rfl) (hx : Loc X.env.scope x := by first | exact Or.inl rfl | exact Or.inr rfl) (hf : X.fn x = true ∨ X.env.scope.names.lookup x = some .local := by first | exact .inl rfl | exact .inr rfl | assumption) : PT' X (.Name x pos) (.nm i) := by
  show PG X _ (gT X.kw (.nm i))
  rw [gT]
  exact pg_name hN hi hx hf
theorem tgs_nil : PTs' X [] [] := by
  show PGs X _ (gTs X.kw [])
  rw [gTs]; exact pgs_nil
theorem tgs_cons {e : Expr} {es : List Expr} {t : Tg} {ts : List Tg} (h : PT' X e t) (hr : PTs' X es ts) (hs : (assignEach (e :: es) X.env).map (·.2) = assign e X.env :: (assignEach es X.env).map (·.2) := by rfl) : PTs' X (e :: es) (t :: ts) := by
  show PGs X _ (gTs X.kw (t :: ts))
  rw [gTs]; exact pgs_cons h hr hs
theorem tg_tp {es : List Expr} {k : Nat} {ts : List Tg} {pos : Pos} (hc : X.calm = true) (h : PTs' X es ts) (hn : (assignEach es X.env).length = ts.length := by rfl) (hst : (assignEach es X.env).findIdx? (·.1) = none := by rfl) : PT' X (.Tuple es k pos) (.tp ts) := by
  show PG X _ (gT X.kw (.tp ts))
  rw [gT]; exact pg_tup hc h hn hst
end

/-! ### statements -/
@[simp] def sNil : MS := fun env st => .ok (.nx env) st
@[simp] def sSeq (m n : MS) : MS := fun env st => (m env st).bind fun f st1 => match f with
  | .nx env1 => n env1 st1
  | .rt d => .ok (.rt d) st1
  | .bk e => .ok (.bk e) st1
  | .ct e => .ok (.ct e) st1
@[simp] def sBreak : MS := fun env st => .ok (.bk env) st
@[simp] def sCont : MS := fun env st => .ok (.ct env) st
@[simp] def sDrop (m : Mo D) : MS := fun env st => (m env st).bind fun _ st1 => .ok (.nx env) st1
@[simp] def sRet (m : Mo D) : MS := fun env st => (m env st).bind fun d st1 => .ok (.rt d) st1
@[simp] def sRetN : MS := fun _ st => .ok (.rt .non) st
@[simp] def sIf (c : Mo Bool) (m n : MS) : MS := fun env st => (c env st).bind fun b st1 => if b = true then m env st1 else n env st1
/-- target = value -/
@[simp] def sAsg (m : Mo D) (t : Tg) : MS := fun env st => (m env st).bind fun d st1 => match setT t d env with
  | some env1 => .ok (.nx env1) st1
  | none => .stuck
@[simp] def sNever : MS := fun _ _ => .stuck
section
variable {X : Cx} {E : XK}
theorem dss_nil : DSs X E [] sNil := pss_nil.imp fun _ _ _ ⟨ρ, env, st, er, sr, p⟩ => p.here sr _ er
theorem dss_cons {s : Stmt} {r : List Stmt} {m n : MS} (h : DS X E s m) (hr : DSs X E r n) : DSs X E (s :: r) (sSeq m n) := (pss_cons h hr).imp fun De _ _ ⟨ρ, env, st, er, sr, p⟩ =>
  ⟨ρ, env, st, er, sr, p.bind.mono fun f st1 H1 ρ1 g1 s1 p1 => by
    cases f with
    | nx env1 => exact fun σ' er' => ⟨ρ1, env1, st1, er', s1, p1⟩
    | rt d => exact p1.here s1
    | bk e => exact p1.here s1
    | ct e => exact p1.here s1⟩
theorem dss_one {s : Stmt} {m : MS} (h : DS X E s m) : DSs X E [s] m := pss_one h
theorem ds_pass {pos : Pos} : DS X E (.Pass pos) sNil := ps_pass.imp fun _ _ _ ⟨ρ, env, st, er, sr, p⟩ => p.here sr _ er
theorem ds_break {pos : Pos} : DS X E (.Break pos) sBreak := ps_break.imp fun _ _ _ ⟨ρ, env, st, er, sr, p⟩ => p.here sr _ er
theorem ds_cont {pos : Pos} : DS X E (.Continue pos) sCont := ps_continue.imp fun _ _ _ ⟨ρ, env, st, er, sr, p⟩ => p.here sr _ er
theorem ds_expr {e : Expr} {m : Mo D} {pos : Pos} (h : DE X E e m) (hs : swapsWith e none pos.line X.env = pure false := by rfl) : DS X E (.Expr e pos) (sDrop m) := (ps_expr h hs).imp fun _ _ _ ⟨ρ, env, st, er, sr, p⟩ =>
  ⟨ρ, env, st, er, sr, p.bind.mono fun d st1 H1 ρ1 g1 s1 p1 v hv => p1.here s1 _ (er.grow g1 sr)⟩
theorem ds_ret {e : Expr} {m : Mo D} {pos : Pos} (h : DE X E e m) : DS X E (.Return (some e) pos) (sRet m) := (ps_ret h).imp fun _ _ _ ⟨ρ, env, st, er, sr, p⟩ =>
  ⟨ρ, env, st, er, sr, p.bind.mono fun d st1 H1 ρ1 g1 s1 p1 v hv => p1.here s1 v hv⟩
theorem ds_retN {pos : Pos} : DS X E (.Return none pos) sRetN := ps_retN.imp fun _ _ _ ⟨ρ, env, st, er, sr, p⟩ => p.here sr _ rfl
theorem ds_if {c : Expr} {a b : List Stmt} {mc : Mo Bool} {m n : MS} {pos : Pos} (hc : DT X E c mc) (ha : DSs X E a m) (hb : DSs X E b n) : DS X E (.If c a b pos) (sIf mc m n) := (ps_if hc ha hb).imp fun _ _ _ ⟨ρ, env, st, er, sr, p⟩ =>
  ⟨ρ, env, st, er, sr, p.bind.mono fun b st1 H1 ρ1 g1 s1 p1 => by
    cases b with
    | true => exact ⟨ρ1, env, st1, er.grow g1 sr, s1, p1⟩
    | false => exact ⟨ρ1, env, st1, er.grow g1 sr, s1, p1⟩⟩
theorem ds_never {s : Stmt} : DS X E s sNever := ps_never.imp fun _ _ _ ⟨_, _, _, _, _, p⟩ => p
theorem dss_never {s : List Stmt} : DSs X E s sNever := pss_never.imp fun _ _ _ ⟨_, _, _, _, _, p⟩ => p
theorem tS_asg {K : KW} {m : Mo D} {t : Tg} {De : Ends} {σ : L2.St} {H : Hp} (h : tS K E (sAsg m t) De σ H) : tAsg (tD K E m) (gT K t) De σ H := by
  obtain ⟨ρ, env, st, er, sr, p⟩ := h
  refine ⟨ρ, env, st, er, sr, p.bind.mono fun d st1 H1 ρ1 g1 s1 p1 v hv => ?_⟩
  split at p1
  · rename_i env1 e1
    exact setT_ok (er.grow g1 sr) hv e1 fun σ2 e2 _ => p1.here s1 _ e2
  · exact p1.elim
theorem ds_set (i : Nat) {x : Str} {e : Expr} {m : Mo D} {pos' pos : Pos} (h : DE X E e m) (hN : X.N.Nodup) (hi : X.N[i]? = some x := by rfl) (hx : Loc X.env.scope x := by first | exact Or.inl rfl | exact Or.inr rfl) (hs : swapsWith e (some (.Name x pos')) pos.line X.env = pure false := by rfl)
    (hf : X.fn x = true ∨ X.env.scope.names.lookup x = some .local := by first | exact .inl rfl | exact .inr rfl | assumption) : DS X E (.Assign [.Name x pos'] e pos) (sAsg m (.nm i)) :=
  (ps_set hN hi hx h hs hf).imp fun _ _ _ q => by
    have := tS_asg q
    rw [gT] at this
    exact this
theorem ds_asg {tg e : Expr} {m : Mo D} {t : Tg} {pos : Pos} (h : DE X E e m) (ht : PT' X tg t) (hs : swapsWithSole [tg] e pos.line X.env = pure false := by rfl) (hw : swappedStores [tg] e X.env = pure none := by rfl) (h1 : (assignEach [tg] X.env).map (·.2) = [assign tg X.env] := by rfl) :
    DS X E (.Assign [tg] e pos) (sAsg m t) := (ps_asg h ht hs hw h1).imp fun _ _ _ q => tS_asg q
/-- a, b, .. = a list -/
@[simp] def sUnl (m : Mo D) (ts : List Tg) : MS := fun env st => (m env st).bind fun d st1 => match d with
  | .ref k => match st1[k]? with
    | some (.lst xs) => match setTs ts xs env with
      | some env1 => .ok (.nx env1) st1
      | none => .stuck
    | _ => .stuck
  | _ => .stuck
theorem ds_unl {es : List Expr} {k : Nat} {e : Expr} {m : Mo D} {ts : List Tg} {p2 pos : Pos} (hc : X.calm = true) (h : DE X E e m) (ht : PTs' X es ts) (hn : (assignEach es X.env).length = ts.length := by rfl) (hst : (assignEach es X.env).findIdx? (·.1) = none := by rfl)
    (hs : swapsWithSole [.Tuple es k p2] e pos.line X.env = pure false := by rfl) (hw : swappedStores [.Tuple es k p2] e X.env = pure none := by rfl) (h1 : (assignEach [.Tuple es k p2] X.env).map (·.2) = [assign (.Tuple es k p2) X.env] := by rfl) :
    DS X E (.Assign [.Tuple es k p2] e pos) (sUnl m ts) := (ps_asg h (pg_unl hc ht hn hst) hs hw h1).imp fun De _ _ ⟨ρ, env, st, er, sr, p⟩ =>
  ⟨ρ, env, st, er, sr, p.bind.mono fun d st1 H1 ρ1 g1 s1 p1 v hv => by
    cases d with
    | ref j =>
      obtain ⟨a, ha, ev⟩ := hv
      dsimp only at p1
      split at p1
      · rename_i xs hx
        split at p1
        · rename_i env1 e1
          obtain ⟨vs, hvs, r⟩ := s1.ob j a _ ha hx
          exact ⟨a, vs, ev, SqL.of hvs, by rw [← r.length]; exact (setTs_len e1).symm, setTs_ok (er.grow g1 sr) r e1 fun σ2 e2 _ => p1.here s1 _ e2⟩
        · exact p1.elim
      · exact p1.elim
    | _ => exact p1.elim⟩
/-- a, b = x, y: both written, two local names -/
@[simp] def sPar (i j : Nat) (m : Mo (List D)) : MS := fun env st => (m env st).bind fun ds st1 => match ds with
  | [x, y] => .ok (.nx ((env.set i (some x)).set j (some y))) st1
  | _ => .stuck
theorem ds_par (i j : Nat) {x y : Str} {a b : Expr} {m : Mo (List D)} {px py pt : Pos} {kt k2 : Nat} {pt2 pos : Pos} (hc : X.calm = true) (hN : X.N.Nodup) (ha : DA X E [a, b] m) (hi : X.N[i]? = some x := by rfl) (hj : X.N[j]? = some y := by rfl) (hij : i ≠ j := by decide)
    (hx : X.env.scope.names.lookup x = some .local := by rfl) (hy : X.env.scope.names.lookup y = some .local := by rfl) (hw : swappedStores [.Tuple [.Name x px, .Name y py] kt pt] (.Tuple [a, b] k2 pt2) X.env = pure (some [x, y]) := by rfl)
    (hs : swapsWithSole [.Tuple [.Name x px, .Name y py] kt pt] (.Tuple [a, b] k2 pt2) pos.line X.env = pure false := by rfl) :
    DS X E (.Assign [.Tuple [.Name x px, .Name y py] kt pt] (.Tuple [a, b] k2 pt2) pos) (sPar i j m) := (ps_par hc hN hi hj hij hx hy ha hw hs).imp fun De _ _ ⟨ρ, env, st, er, sr, p⟩ =>
  ⟨ρ, env, st, er, sr, p.bind.mono fun ds st1 H1 ρ1 g1 s1 p1 vs hvs => by
    split at p1
    · rename_i d1 d2
      obtain ⟨v1, r1, e1, h1, w1⟩ := hvs
      obtain ⟨v2, r2, e2, h2, w2⟩ := w1
      have w2 : r2 = [] := w2
      subst e1 e2 w2
      exact ⟨v1, v2, rfl, p1.here s1 _ (((er.grow g1 sr).set i h1).set j h2)⟩
    · exact p1.elim⟩

/-! ### what is walked -/
def ItOk (K : KW) (J : It) (H0 : Hp) (ρ0 : List Addr) (xs : List D) (ok : Sto → Bool) : Prop :=
  ∀ (i : Nat) (H : Hp) (ρ : List Addr) (st : Sto), Still H0 ρ0 H ρ → SR K H ρ st → ok st = true →
    (∀ d, xs[i]? = some d → J.go i H ∧ ∀ x H', J.yld i H x H' → Grow H ρ H' ρ ∧ SR K H' ρ st ∧ VR K H' ρ d x) ∧ (xs.length ≤ i → J.stop i H)
abbrev Src := List D × (Sto → Bool)
def tI (K : KW) (E : XK) (m : Mo Src) : TI := fun σ H R => ∃ ρ env st, ER K H ρ env σ ∧ SR K H ρ st ∧ Post K E H ρ (m env st) fun src _ H' ρ' => ∀ J, ItOk K J H' ρ' src.1 src.2 → R J H'
abbrev DI (X : Cx) (E : XK) (tg e : Expr) (m : Mo Src) : Prop := PI X tg e (tI X.kw E m)
theorem _root_.L2.PI.imp {tg e : Expr} {t t' : TI} (h : PI X tg e t) (k : ∀ σ H R, t' σ H R → t σ H R) : PI X tg e t' := ⟨fun pins s σ H R I q => h.run pins s σ H R I (k σ H R q)⟩
theorem SqL.inj' {K : KW} {H : Hp} {a : Addr} {xs ys : List V} (h : H a = some (.lst xs)) (h' : Rd H a (.lst ys)) : xs = ys := by
  rcases h' with h' | ⟨o, h'⟩
  · rw [h] at h'; injection h' with h'; injection h'
  · rw [h] at h'; cases h'
/-- over a tuple, a frozen list, a list of the store that stays as it is -/
@[simp] def iterF (d : D) (st1 : Sto) : R Src := match d with
  | .tup xs => .ok (xs, fun _ => true) st1
  | .ref k => match st1[k]? with
    | some (.lst xs) => .ok (xs, fun s => decide (s[k]? = some (.lst xs))) st1
    | _ => .stuck
  | _ => .stuck
@[simp] def mIter (m : Mo D) : Mo Src := fun env st => (m env st).bind iterF
end
section
variable {X : Cx} {E : XK}
/-- the items of a tuple -/
theorem itOk_tup {K : KW} {H0 : Hp} {ρ0 : List Addr} {st0 : Sto} (s0 : SR K H0 ρ0 st0) {a : Addr} {xs : List D} {vs : List V} (h : SqT K H0 a vs) (r : VRs K H0 ρ0 xs vs) : ItOk K (Itt K a) H0 ρ0 xs (fun _ => true) := fun i H ρ st g s _ => by
  have hT := g.sqT h
  have r' := r.still g
  refine ⟨fun d e => ?_, fun hi => ⟨vs, hT, by rw [← r.length]; exact hi⟩⟩
  obtain ⟨v, hv, rv⟩ := r'.get e
  refine ⟨⟨vs, v, hT, hv⟩, fun x H' y => ?_⟩
  obtain ⟨e1, y⟩ := y
  subst e1
  have := y vs hT
  rw [hv] at this
  cases this
  exact ⟨Grow.refl _ _, s, rv⟩
theorem itOk_lst {K : KW} {H0 : Hp} {ρ0 : List Addr} {a : Addr} {k : Nat} {xs : List D} (ha : ρ0[k]? = some a) : ItOk K (Itl K a) H0 ρ0 xs (fun s => decide (s[k]? = some (.lst xs))) := fun i H ρ st g s hok => by
  obtain ⟨vs, hL, r⟩ := s.ob k a _ (g.at ha) (of_decide_eq_true hok)
  have hq : SqL K H a vs := SqL.of hL
  refine ⟨fun d e => ?_, fun hi => ⟨vs, hq, by rw [← r.length]; exact hi⟩⟩
  obtain ⟨v, hv, rv⟩ := r.get e
  refine ⟨⟨vs, v, hq, hv⟩, fun x H' y => ?_⟩
  obtain ⟨e1, y⟩ := y
  subst e1
  have := y vs hq
  rw [hv] at this
  cases this
  exact ⟨Grow.refl _ _, s, rv⟩
theorem di_seq {tg e : Expr} {m : Mo D} (h : DE X E e m) : DI X E tg e (mIter m) := ⟨fun pins s σ H R I ⟨ρ, env, st, er, sr, p⟩ => by
  simp only [mIter] at p
  cases hm : m env st with
  | stuck => rw [hm] at p; exact p.elim
  | exn c fs st1 =>
    rw [hm] at p
    refine (pi_tup (tg := tg) h).run pins s σ H R I ⟨ρ, env, st, er, sr, ?_⟩
    rw [hm]
    exact p
  | ok d st1 =>
    rw [hm] at p
    rw [bind_ok] at p
    cases d with
    | tup xs =>
      refine (pi_tup (tg := tg) h).run pins s σ H R I ⟨ρ, env, st, er, sr, ?_⟩
      rw [hm]
      intro H1 ρ1 g1 s1 v hv
      obtain ⟨a, vs, ev, hq, r⟩ := hv
      exact ⟨a, ev, ⟨vs, hq⟩, p H1 ρ1 g1 s1 _ (itOk_tup s1 hq r)⟩
    | ref k =>
      refine (pi_list (tg := tg) h).run pins s σ H R I ⟨ρ, env, st, er, sr, ?_⟩
      rw [hm]
      intro H1 ρ1 g1 s1 v hv
      obtain ⟨a, ha, ev⟩ := hv
      simp only [iterF] at p
      split at p
      · rename_i xs hx
        obtain ⟨vs, hL, _⟩ := s1.ob k a _ ha hx
        exact ⟨a, ev, ⟨vs, SqL.of hL⟩, p H1 ρ1 g1 s1 _ (itOk_lst ha)⟩
      · exact p.elim
    | _ => exact p.elim⟩
def upto (lo : Int) : Nat → List D
  | 0 => []
  | n + 1 => .int lo :: upto (lo + 1) n
theorem upto_get : ∀ (n : Nat) (lo : Int) (i : Nat) (d : D), (upto lo n)[i]? = some d → i < n ∧ d = .int (lo + i)
  | 0, _, _, _, e => by simp [upto] at e
  | n + 1, lo, 0, d, e => by
    simp [upto] at e
    subst e
    exact ⟨by omega, by simp⟩
  | n + 1, lo, i + 1, d, e => by
    simp only [upto, List.getElem?_cons_succ] at e
    obtain ⟨a, b⟩ := upto_get n (lo + 1) i d e
    refine ⟨by omega, ?_⟩
    rw [b]
    congr 1
    omega
theorem upto_len : ∀ (n : Nat) (lo : Int), (upto lo n).length = n
  | 0, _ => rfl
  | n + 1, lo => by rw [upto, List.length_cons, upto_len n]
def rgOk (i : Int) : Bool := decide (-(2 ^ 62) ≤ i) && decide (i < 2 ^ 62)
theorem rgOk_iff {i : Int} : rgOk i = true ↔ -(2 ^ 62) ≤ i ∧ i < 2 ^ 62 := by
  unfold rgOk
  rw [Bool.and_eq_true, decide_eq_true_eq, decide_eq_true_eq]
theorem itOk_rng {K : KW} {H0 : Hp} {ρ0 : List Addr} (lo : Int) (n : Nat) : ItOk K (Itr lo n) H0 ρ0 (upto lo n) (fun _ => true) := fun i H ρ st g s _ =>
  ⟨fun d e => ⟨(upto_get n lo i d e).1, fun x H' y => by
    obtain ⟨e1, e2⟩ := y
    subst e1 e2
    rw [(upto_get n lo i d e).2]
    exact ⟨Grow.refl _ _, s, rfl⟩⟩, fun hi => by rw [upto_len] at hi; exact hi⟩
@[simp] def rngF (ds : List D) (st1 : Sto) : R Src := match ds with
  | [.int j] => if rgOk j then .ok (upto 0 j.toNat, fun _ => true) st1 else .stuck
  | [.int i, .int j] => if rgOk i && rgOk j then .ok (upto i (j - i).toNat, fun _ => true) st1 else .stuck
  | _ => .stuck
@[simp] def mRng (m : Mo (List D)) : Mo Src := fun env st => (m env st).bind rngF
theorem di_rng1 {tg a : Expr} {m : Mo (List D)} {p pos : Pos} (hm : X.mg "range" = none) (ha : DA X E [a] m) (hg : Gl X "range" := by rfl) (hs : starEach [a] X.env = [(false, eval a X.env)] := by rfl) (h1 : ∀ env st ds st1, m env st = .ok ds st1 → ds.length = 1) :
    DI X E tg (.Call (.Name "range" p) [a] [] pos) (mRng m) := (pi_range1 hg hm ha hs).imp fun σ H R ⟨ρ, env, st, er, sr, p⟩ => ⟨ρ, env, st, er, sr, by
  have hl := h1 env st
  simp only [mRng] at p
  cases hm : m env st with
  | stuck => rw [hm] at p; exact p.elim
  | exn c fs st1 => rw [hm] at p; exact p
  | ok ds st1 =>
    rw [hm] at p
    have hl := hl ds st1 hm
    intro H1 ρ1 g1 s1 vs hvs
    rw [bind_ok] at p
    match ds, hl with
    | [d], _ =>
      cases d with
      | int j =>
        simp only [rngF] at p
        split at p
        · rename_i hj
          obtain ⟨v, r, e, h, w⟩ := hvs
          have w : r = [] := w
          have h : v = .int j := h
          subst e w h
          have hj := rgOk_iff.mp hj
          exact ⟨j, rfl, hj.1, hj.2, p H1 ρ1 g1 s1 _ (itOk_rng 0 j.toNat)⟩
        · exact p.elim
      | _ => exact p.elim⟩
theorem mCons1_len {m : Mo D} : ∀ env st ds st1, mCons m mNil env st = .ok ds st1 → ds.length = 1 := fun env st ds st1 e => by
  simp only [mCons, mNil] at e
  cases hm : m env st with
  | ok d st2 => rw [hm] at e; cases e; rfl
  | exn c fs st2 => rw [hm] at e; cases e
  | stuck => rw [hm] at e; cases e
theorem mCons2_len {m n : Mo D} : ∀ env st ds st1, mCons m (mCons n mNil) env st = .ok ds st1 → ds.length = 2 := fun env st ds st1 e => by
  simp only [mCons, mNil] at e
  cases hm : m env st with
  | ok d st2 =>
    rw [hm] at e
    simp only [bind_ok] at e
    cases hn : n env st2 with
    | ok d2 st3 => rw [hn] at e; cases e; rfl
    | exn c fs st3 => rw [hn] at e; cases e
    | stuck => rw [hn] at e; cases e
  | exn c fs st2 => rw [hm] at e; cases e
  | stuck => rw [hm] at e; cases e
/-- range(e) -/
theorem di_range1 {tg a : Expr} {m : Mo D} {p pos : Pos} (hm : X.mg "range" = none) (ha : DE X E a m) (hg : Gl X "range" := by rfl) (hs : starEach [a] X.env = [(false, eval a X.env)] := by rfl) : DI X E tg (.Call (.Name "range" p) [a] [] pos) (mRng (mCons m mNil)) :=
  di_rng1 hm (da_cons ha da_nil hs) hg hs mCons1_len
theorem di_range2 {tg a b : Expr} {m n : Mo D} {p pos : Pos} (hm : X.mg "range" = none) (ha : DE X E a m) (hb : DE X E b n) (hg : Gl X "range" := by rfl) (hs : starEach [a, b] X.env = [(false, eval a X.env), (false, eval b X.env)] := by rfl) (hs2 : starEach [b] X.env = [(false, eval b X.env)] := by rfl) :
    DI X E tg (.Call (.Name "range" p) [a, b] [] pos) (mRng (mCons m (mCons n mNil))) := (pi_range2 hg hm (da_cons ha (da_cons hb da_nil hs2) (by rw [hs, hs2])) hs hs2).imp fun σ H R ⟨ρ, env, st, er, sr, p⟩ => ⟨ρ, env, st, er, sr, by
  have hl := mCons2_len (m := m) (n := n) env st
  generalize mCons m (mCons n mNil) = mm at p hl
  simp only [mRng] at p
  cases hm : mm env st with
  | stuck => rw [hm] at p; exact p.elim
  | exn c fs st1 => rw [hm] at p; exact p
  | ok ds st1 =>
    rw [hm] at p
    have hl := hl ds st1 hm
    intro H1 ρ1 g1 s1 vs hvs
    rw [bind_ok] at p
    match ds, hl with
    | [d, d'], _ =>
      cases d with
      | int i =>
        cases d' with
        | int j =>
          simp only [rngF] at p
          split at p
          · rename_i hj
            obtain ⟨v, r, e, h, v2, r2, e2, h2, w⟩ := hvs
            have w : r2 = [] := w
            have h : v = .int i := h
            have h2 : v2 = .int j := h2
            subst e e2 w h h2
            rw [Bool.and_eq_true] at hj
            have h1 := rgOk_iff.mp hj.1
            have h2 := rgOk_iff.mp hj.2
            exact ⟨i, j, rfl, ⟨h1.1, h1.2, h2.1, h2.2⟩, p H1 ρ1 g1 s1 _ (itOk_rng i (j - i).toNat)⟩
          · exact p.elim
        | _ => exact p.elim
      | _ => exact p.elim⟩

/-! ### for -/
def forGo (t : Tg) (ok : Sto → Bool) (body : MS) : List D → En → Sto → R F
  | [], env, st => if ok st then .ok (.nx env) st else .stuck
  | x :: xs, env, st => if ok st then
      match setT t x env with
      | some env1 => (body env1 st).bind fun f st2 => match f with
        | .nx env2 => forGo t ok body xs env2 st2
        | .ct env2 => forGo t ok body xs env2 st2
        | .bk env2 => .ok (.nx env2) st2
        | .rt d => .ok (.rt d) st2
      | none => .stuck
    else .stuck
@[simp] def sFor (m : Mo Src) (t : Tg) (body : MS) : MS := fun env st => (m env st).bind fun src st1 => forGo t src.2 body src.1 env st1
theorem ds_for {tg iter : Expr} {body : List Stmt} {m : Mo Src} {t : Tg} {mb : MS} {pos : Pos} (hp : PassesOwn (model X.prog X.w) X.A X.env X.xe) (hc : X.calm = true) (hi : DI X E tg iter m) (ht : PT' X tg t) (hb : DSs X E body mb) (hs : ∀ x, foldedSetIterable iter X.env x = pure x := by intro _; rfl) :
    DS X E (.For tg iter body [] pos) (sFor m t mb) := (ps_for hp hc hi ht hb hs).imp fun De σ H ⟨ρ, env, st, er, sr, p⟩ =>
  ⟨ρ, env, st, er, sr, p.bind.mono fun src st1 H1 ρ1 g1 s1 p1 J hJ => by
    obtain ⟨xs, ok⟩ := src
    dsimp only at p1 hJ
    refine ⟨fun i m σ H => m = xs.length - i ∧ i ≤ xs.length ∧ ∃ ρ env st, Grow H1 ρ1 H ρ ∧ ER X.kw H ρ env σ ∧ SR X.kw H ρ st ∧ Post X.kw E H ρ (forGo t ok mb (xs.drop i) env st) fun f _ H' ρ' => EndR X.kw De f H' ρ',
      ⟨xs.length, by simp, Nat.zero_le _, ρ1, env, st1, Grow.refl _ _, er.grow g1 sr, s1, p1⟩, ?_⟩
    rintro i m σ2 H2 ⟨rfl, hi, ρ2, env2, st2, g2, er2, s2, p2⟩
    by_cases hlt : i < xs.length
    · rw [List.drop_eq_getElem_cons hlt, forGo] at p2
      split at p2
      · rename_i hok
        obtain ⟨hgo, hyl⟩ := (hJ i H2 ρ2 st2 (g2.still s1) s2 hok).1 xs[i] (List.getElem?_eq_getElem hlt)
        refine .inr ⟨hgo, fun σ' H' => ∃ ρ env st, Grow H1 ρ1 H' ρ ∧ ER X.kw H' ρ env σ' ∧ SR X.kw H' ρ st ∧ Post X.kw E H' ρ (forGo t ok mb (xs.drop (i + 1)) env st) fun f _ H' ρ' => EndR X.kw De f H' ρ', fun σ' H' h' => ⟨_, by omega, rfl, hlt, h'⟩, fun x H' y => ?_⟩
        obtain ⟨g3, s3, r3⟩ := hyl x H' y
        split at p2
        · rename_i env3 e3
          refine setT_ok (er2.grow g3 s2) r3 e3 fun σ3 er3 _ => ⟨ρ2, env3, st2, er3, s3, ((Post.from g3 p2).bind).mono fun f st4 H4 ρ4 g4 s4 p4 => ?_⟩
          have gg : Grow H1 ρ1 H4 ρ4 := (g2.trans g3).trans g4
          cases f with
          | nx env4 => exact fun σ4 er4 => ⟨ρ4, env4, st4, gg, er4, s4, p4⟩
          | ct env4 => exact fun σ4 er4 => ⟨ρ4, env4, st4, gg, er4, s4, p4⟩
          | bk env4 => exact p4.here s4
          | rt d => exact p4.here s4
        · exact p2.elim
      · exact p2.elim
    · have e : i = xs.length := by omega
      subst e
      rw [List.drop_length, forGo] at p2
      split at p2
      · rename_i hok
        exact .inl ⟨(hJ _ H2 ρ2 st2 (g2.still s1) s2 hok).2 (Nat.le_refl _), p2.here s2 _ er2⟩
      · exact p2.elim⟩
/-! ### while, with fuel -/
def whGo (c : Mo Bool) (body : MS) : Nat → En → Sto → R F
  | 0, _, _ => .stuck
  | n + 1, env, st => (c env st).bind fun b st1 => if b = true then (body env st1).bind fun f st2 => match f with
      | .nx env2 => whGo c body n env2 st2
      | .ct env2 => whGo c body n env2 st2
      | .bk env2 => .ok (.nx env2) st2
      | .rt d => .ok (.rt d) st2
    else .ok (.nx env) st1
def fuel : Nat := 1000000000
@[simp] def sWhile (c : Mo Bool) (body : MS) : MS := fun env st => whGo c body fuel env st
theorem ds_while {c : Expr} {body : List Stmt} {mc : Mo Bool} {mb : MS} {pos : Pos} (hp : PassesOwn (model X.prog X.w) X.A X.env X.xe) (hc : DT X E c mc) (hb : DSs X E body mb) : DS X E (.While c body [] pos) (sWhile mc mb) := (ps_while hp hc hb).imp fun De σ H ⟨ρ, env, st, er, sr, p⟩ => by
  refine ⟨fun m σ H => ∃ ρ env st, ER X.kw H ρ env σ ∧ SR X.kw H ρ st ∧ Post X.kw E H ρ (whGo mc mb m env st) fun f _ H' ρ' => EndR X.kw De f H' ρ', ⟨fuel, ρ, env, st, er, sr, p⟩, ?_⟩
  rintro m σ2 H2 ⟨ρ2, env2, st2, er2, s2, p2⟩
  cases m with
  | zero => exact p2.elim
  | succ n =>
    rw [whGo] at p2
    refine ⟨ρ2, env2, st2, er2, s2, p2.bind.mono fun b st3 H3 ρ3 g3 s3 p3 => ?_⟩
    have er3 := er2.grow g3 s2
    cases b with
    | true =>
      refine ⟨fun σ' H' => ∃ ρ env st, ER X.kw H' ρ env σ' ∧ SR X.kw H' ρ st ∧ Post X.kw E H' ρ (whGo mc mb n env st) fun f _ H' ρ' => EndR X.kw De f H' ρ', fun σ' H' h' => ⟨n, by omega, h'⟩, ρ3, env2, st3, er3, s3, p3.bind.mono fun f st4 H4 ρ4 g4 s4 p4 => ?_⟩
      cases f with
      | nx env4 => exact fun σ4 er4 => ⟨ρ4, env4, st4, er4, s4, p4⟩
      | ct env4 => exact fun σ4 er4 => ⟨ρ4, env4, st4, er4, s4, p4⟩
      | bk env4 => exact p4.here s4
      | rt d => exact p4.here s4
    | false => exact p3.here s3 _ er3
end
end L3
namespace L3
open PySem PySem.Spec PyProof.Rows L2

/-! ### list comprehensions -/
/-- an exception within a comprehension is not told -/
def R.nox {α : Type} (r : R α) : R α := match r with
  | .ok a st => .ok a st
  | _ => .stuck
@[simp] theorem nox_ok {α : Type} (a : α) (st : Sto) : (R.ok a st).nox = .ok a st := rfl
@[simp] theorem nox_stuck {α : Type} : (R.stuck : R α).nox = .stuck := rfl
@[simp] theorem nox_exn {α : Type} (c : Addr) (fs : List (Str × D)) (st : Sto) : (R.exn c fs st : R α).nox = .stuck := rfl
theorem Post.nox {α : Type} {K : KW} {E E' : XK} {H : Hp} {ρ : List Addr} {r : R α} {T : α → Sto → Hp → List Addr → Prop} (p : Post K E H ρ r.nox T) : Post K E' H ρ r T := by
  cases r with
  | ok a st => exact p
  | exn c fs st => exact p.elim
  | stuck => exact p.elim
def wipeE (env : En) : List Nat → En
  | [] => env
  | v :: vs => (wipeE env vs).set v none
theorem wipeE_len (env : En) : ∀ vs, (wipeE env vs).length = env.length
  | [] => rfl
  | v :: vs => by rw [wipeE, List.length_set, wipeE_len env vs]
theorem wipe_at {σ : L2.St} {i : Nat} : ∀ {vs : List Nat}, i ∉ vs → (wipe σ vs)[i]? = σ[i]?
  | [], _ => rfl
  | v :: vs, h => by
    rw [List.mem_cons, not_or] at h
    show ((wipe σ vs).set v none)[i]? = _
    rw [List.getElem?_set_ne (Ne.symm h.1), wipe_at h.2]
theorem wipe_wipe {σ : L2.St} {vs : List Nat} : ∀ {us : List Nat}, (∀ i ∈ us, i ∈ vs) → wipe (wipe σ us) vs = wipe σ vs
  | [], _ => rfl
  | u :: us, h => by
    show wipe ((wipe σ us).set u none) vs = _
    rw [wipe_set (h u List.mem_cons_self), wipe_wipe fun i hi => h i (List.mem_cons_of_mem _ hi)]
theorem wipeE_at {env : En} {i : Nat} {d : D} : ∀ {vs : List Nat}, (wipeE env vs)[i]? = some (some d) → env[i]? = some (some d) ∧ i ∉ vs
  | [], h => ⟨h, by simp⟩
  | v :: vs, h => by
    rw [wipeE] at h
    by_cases hv : v = i
    · subst hv
      by_cases hl : v < (wipeE env vs).length
      · rw [List.getElem?_set_self hl] at h; cases h
      · rw [List.getElem?_eq_none (by simpa using hl)] at h; cases h
    · rw [List.getElem?_set_ne hv] at h
      obtain ⟨a, b⟩ := wipeE_at h
      exact ⟨a, by simp only [List.mem_cons, not_or]; exact ⟨fun e => hv e.symm, b⟩⟩
theorem ER.wipe {K : KW} {H : Hp} {ρ : List Addr} {env : En} {σ : L2.St} (h : ER K H ρ env σ) (vs : List Nat) : ER K H ρ (wipeE env vs) (L2.wipe σ vs) := by
  refine ⟨by rw [wipeE_len, wipe_length]; exact h.len, fun i d e => ?_⟩
  obtain ⟨a, b⟩ := wipeE_at e
  obtain ⟨v, c, r⟩ := h.at_ i d a
  exact ⟨v, by rw [wipe_at b]; exact c, r⟩
/-- a clause's tests -/
abbrev DTs (X : Cx) (E : XK) (es : List Expr) (m : Mo Bool) : Prop := PTs X es (tT X.kw E m)
@[simp] def mYes : Mo Bool := fun _ st => .ok true st
theorem _root_.L2.PTs.imp {X : Cx} {es : List Expr} {t t' : TT} (h : PTs X es t) (k : ∀ σ H Q, t' σ H Q → t σ H Q) : PTs X es t' := ⟨fun pins s σ H Q I q => h.run pins s σ H Q I (k σ H Q q)⟩
theorem dts_nil {X : Cx} {E : XK} : DTs X E [] mYes := pts_nil.imp fun _ _ _ ⟨ρ, env, st, er, sr, p⟩ => p.here sr
theorem dts_one {X : Cx} {E : XK} {c : Expr} {m : Mo Bool} (h : DT X E c m) : DTs X E [c] m := pts_one h
/-- the turns of a comprehension; env: the names, the block's own forgotten -/
def lcGo (t : Tg) (ok : Sto → Bool) (c : Mo Bool) (e : Mo D) (env : En) : List D → Sto → R (List D)
  | [], st => if ok st then .ok [] st else .stuck
  | x :: xs, st => if ok st then
      match setT t x env with
      | some env1 => (c env1 st).nox.bind fun b st2 => if b = true then (e env1 st2).nox.bind fun d st3 => (lcGo t ok c e env xs st3).bind fun r st4 => .ok (d :: r) st4 else lcGo t ok c e env xs st2
      | none => .stuck
    else .stuck
@[simp] def mLc (vs : List Nat) (m : Mo Src) (t : Tg) (c : Mo Bool) (e : Mo D) : Mo D := fun env st => (m env st).bind fun src st1 => (lcGo t src.2 c e (wipeE env vs) src.1 st1).bind fun r st2 =>
  if szOk r.length then .ok (D.ref st2.length) (st2 ++ [.lst r]) else .stuck
/-- a thing that the store does not name, and that is no tuple, is written -/
theorem SR.off {K : KW} {H : Hp} {ρ : List Addr} {st : Sto} (s : SR K H ρ st) {p : Addr} {o : HO} {xs : List V} (hp : H p = some (.lst xs)) (hn : p ∉ ρ) : SR K (upd H p o) ρ st ∧ (∀ {d : D} {v : V}, VR K H ρ d v → VR K (upd H p o) ρ d v) ∧ ∀ {ds : List D} {vs : List V}, VRs K H ρ ds vs → VRs K (upd H p o) ρ ds vs := by
  -- the tuples and the frozen lists stand elsewhere
  have nt : ∀ a ∈ p :: ρ, NoT H a := fun a ha => by
    rcases List.mem_cons.mp ha with z | z
    · rw [z]; exact ⟨_, hp, (fun _ e => nomatch e), (fun _ _ e => nomatch e)⟩
    · exact s.nt a z
  have hk : ∀ a u, H a = some u → a ∉ p :: ρ → (upd H p o) a = some u := fun a u e ha => by
    rw [upd_ne (fun z => ha (by rw [z]; exact List.mem_cons_self))]; exact e
  refine ⟨⟨s.len, s.nd, fun i x u e1 e2 => (s.ob i x u e1 e2).keep hk (fun _ _ e => e) nt (upd_ne fun z => hn (z ▸ List.mem_of_getElem? e1)), fun x hx => ?_⟩, fun h => h.keep hk (fun _ _ e => e) nt, fun h => h.keep hk (fun _ _ e => e) nt⟩
  obtain ⟨u, e, n1, n2⟩ := s.nt x hx
  exact ⟨u, by rw [upd_ne (fun q : x = p => hn (by rw [← q]; exact hx))]; exact e, n1, n2⟩
section
variable {X : Cx} {E : XK}
theorem tD_lc {K : KW} {vs : List Nat} {m : Mo Src} {t : Tg} {c : Mo Bool} {e : Mo D} {σ : L2.St} {H : Hp} {Q : VK} (hn : ∀ i ∈ namesT t, i ∈ vs) (h : tD K E (mLc vs m t c e) σ H Q) : tLc (tI K E m) (gT K t) (tT K E0 c) (tD K E0 e) vs σ H Q := by
  obtain ⟨ρ, env, st, er, sr, p⟩ := h
  refine ⟨ρ, env, st, er, sr, p.bind.mono fun src st1 H1 ρ1 g1 s1 p1 J hJ Dl hD => ?_⟩
  obtain ⟨xs, ok⟩ := src
  dsimp only at p1 hJ
  have er1 := (er.grow g1 sr).wipe vs
  -- the turns that are left, with what is made so far
  let Left (i : Nat) (acc : List D) (st : Sto) : R D := (lcGo t ok c e (wipeE env vs) (xs.drop i) st).bind fun r st2 => if szOk (acc ++ r).length then .ok (D.ref st2.length) (st2 ++ [.lst (acc ++ r)]) else .stuck
  let Pv (i : Nat) (H2 : Hp) : Prop := ∃ ρ2 st2 acc vacc, Grow H1 ρ1 H2 ρ2 ∧ SR K H2 ρ2 st2 ∧ H2 Dl = some (.lst vacc) ∧ Dl ∉ ρ2 ∧ VRs K H2 ρ2 acc vacc ∧ Post K E H1 ρ1 (Left i acc st2) fun d _ H' ρ' => ∀ v, VR K H' ρ' d v → Q v H'
  have hDn : Dl ∉ ρ1 := s1.fresh hD
  refine ⟨fun i m H2 => m = xs.length - i ∧ i ≤ xs.length ∧ Pv i H2, ⟨xs.length, by simp, Nat.zero_le _, ρ1, st1, [], [], Grow.aside hD, (s1.aside hD).2, upd_same, hDn, rfl, ?_⟩, ?_⟩
  · show Post K E H1 ρ1 ((lcGo t ok c e (wipeE env vs) (xs.drop 0) st1).bind fun r st2 => if szOk ([] ++ r).length then .ok (D.ref st2.length) (st2 ++ [.lst ([] ++ r)]) else .stuck) _
    exact p1
  rintro i m H2 ⟨rfl, hi, ρ2, st2, acc, vacc, g2, s2, hv, hn2, ra, p2⟩
  have er2 : ER K H2 ρ2 (wipeE env vs) (wipe σ vs) := er1.grow g2 s1
  by_cases hlt : i < xs.length
  · have p2 : Post K E H1 ρ1 ((lcGo t ok c e (wipeE env vs) (xs.drop i) st2).bind fun r st2 => if szOk (acc ++ r).length then .ok (D.ref st2.length) (st2 ++ [.lst (acc ++ r)]) else .stuck) _ := p2
    rw [List.drop_eq_getElem_cons hlt, lcGo] at p2
    split at p2
    · rename_i hok
      obtain ⟨hgo, hyl⟩ := (hJ i H2 ρ2 st2 (g2.still s1) s2 hok).1 xs[i] (List.getElem?_eq_getElem hlt)
      refine .inr ⟨hgo, Pv (i + 1), fun H' h' => ⟨_, by omega, rfl, hlt, h'⟩, fun x H3 y => ?_⟩
      obtain ⟨g3, s3, r3⟩ := hyl x H3 y
      have hv3 : H3 Dl = some (.lst vacc) := g3.keep _ _ hv hn2
      split at p2
      · rename_i env3 e3
        refine setT_ok (er2.grow g3 s2) r3 e3 fun σ3 er3 w3 => ⟨(w3 vs hn).trans (wipe_wipe fun _ h => h), ρ2, env3, st2, er3, s3, ?_⟩
        -- the test
        cases hc : c env3 st2 with
        | stuck => rw [hc] at p2; exact p2.elim
        | exn a fs st4 => rw [hc] at p2; exact p2.elim
        | ok b st4 =>
          rw [hc, nox_ok, bind_ok] at p2
          intro H4 ρ4 g4 s4
          have g24 : Grow H1 ρ1 H4 ρ4 := (g2.trans g3).trans g4
          have hv4 : H4 Dl = some (.lst vacc) := g4.keep _ _ hv3 hn2
          have nin : ∀ {Ha Hb : Hp} {ρa ρb : List Addr} {v : List V}, Grow Ha ρa Hb ρb → Ha Dl = some (.lst v) → Dl ∉ ρa → Dl ∉ ρb := fun {Ha Hb ρa ρb v} g h hn hm => by
            obtain ⟨m, em, f⟩ := g.pre
            rw [em] at hm
            rcases List.mem_append.mp hm with z | z
            · exact hn z
            · rw [(f Dl z).2] at h; cases h
          have hn4 : Dl ∉ ρ4 := nin g4 hv3 hn2
          cases b with
          | false =>
            rw [if_neg Bool.false_ne_true] at p2
            refine iteF ?_
            exact ⟨ρ4, st4, acc, vacc, g24, s4, hv4, hn4, (ra.grow g3 s2).grow g4 s3, p2⟩
          | true =>
            rw [if_pos rfl] at p2
            refine iteT ?_
            refine ⟨ρ4, env3, st4, er3.grow g4 s3, s4, ?_⟩
            cases he : e env3 st4 with
            | stuck => rw [he] at p2; exact p2.elim
            | exn a fs st5 => rw [he] at p2; exact p2.elim
            | ok d st5 =>
              rw [he, nox_ok, bind_ok] at p2
              intro H5 ρ5 g5 s5 y hy
              have hv5 : H5 Dl = some (.lst vacc) := g5.keep _ _ hv4 hn4
              have hn5 : Dl ∉ ρ5 := nin g5 hv4 hn4
              have ra5 : VRs K H5 ρ5 acc vacc := ((ra.grow g3 s2).grow g4 s3).grow g5 s4
              obtain ⟨s6, k6, ks6⟩ := s5.off (o := .lst (vacc ++ [y])) hv5 hn5
              have eq : ((lcGo t ok c e (wipeE env vs) (xs.drop (i + 1)) st5).bind fun r st4 => R.ok (d :: r) st4).bind (fun r st2 => if szOk (acc ++ r).length then R.ok (D.ref st2.length) (st2 ++ [.lst (acc ++ r)]) else .stuck)
                  = (lcGo t ok c e (wipeE env vs) (xs.drop (i + 1)) st5).bind fun r st2 => if szOk ((acc ++ [d]) ++ r).length then R.ok (D.ref st2.length) (st2 ++ [.lst ((acc ++ [d]) ++ r)]) else .stuck := by
                cases lcGo t ok c e (wipeE env vs) (xs.drop (i + 1)) st5 with
                | ok r st6 => simp
                | exn _ _ _ => rfl
                | stuck => rfl
              rw [eq] at p2
              have small : vacc.length < sizeLine := by
                cases hl : lcGo t ok c e (wipeE env vs) (xs.drop (i + 1)) st5 with
                | stuck => rw [hl] at p2; exact p2.elim
                | exn a fs st6 => exact absurd hl (by
                    have : ∀ (l : List D) (s : Sto), lcGo t ok c e (wipeE env vs) l s ≠ .exn a fs st6 := by
                      intro l
                      induction l with
                      | nil => intro s; rw [lcGo]; split <;> simp
                      | cons z l ih =>
                        intro s
                        rw [lcGo]
                        split
                        · split
                          · rename_i env9 _
                            cases c env9 s with
                            | stuck => simp
                            | exn _ _ _ => simp
                            | ok b9 s9 =>
                              simp only [nox_ok, bind_ok]
                              split
                              · cases e env9 s9 with
                                | stuck => simp
                                | exn _ _ _ => simp
                                | ok d9 s10 =>
                                  simp only [nox_ok, bind_ok]
                                  have := ih s10
                                  revert this
                                  cases lcGo t ok c e (wipeE env vs) l s10 <;> simp
                              · exact ih s9
                          · simp
                        · simp
                    exact this _ _)
                | ok r st6 =>
                  rw [hl, bind_ok] at p2
                  split at p2
                  · rename_i hz
                    have h1 := szOk_le hz
                    rw [List.length_append, List.length_append] at h1
                    have h2 := ra5.length
                    simp only [List.length_cons, List.length_nil] at h1
                    omega
                  · exact p2.elim
              refine ⟨vacc, hv5, small, ρ5, st5, acc ++ [d], vacc ++ [y], ?_, s6, upd_same, hn5, VRs.append (ks6 ra5) ⟨y, [], rfl, k6 hy, rfl⟩, p2⟩
              have g25 := g24.trans g5
              exact ⟨g25.pre, fun a o ha hna => by rw [upd_ne (ne_of_none ha hD)]; exact g25.keep a o ha hna⟩
      · exact p2.elim
    · exact p2.elim
  · have e0 : i = xs.length := by omega
    subst e0
    have p2 : Post K E H1 ρ1 ((lcGo t ok c e (wipeE env vs) (xs.drop xs.length) st2).bind fun r st2 => if szOk (acc ++ r).length then .ok (D.ref st2.length) (st2 ++ [.lst (acc ++ r)]) else .stuck) _ := p2
    rw [List.drop_length, lcGo] at p2
    split at p2
    · rename_i hok
      refine .inl ⟨(hJ _ H2 ρ2 st2 (g2.still s1) s2 hok).2 (Nat.le_refl _), ?_⟩
      rw [bind_ok, List.append_nil] at p2
      split at p2
      · rename_i hz
        -- the list is now named by the store
        have up : ∀ (i : Nat) (x : Addr), ρ2[i]? = some x → (ρ2 ++ [Dl])[i]? = some x := fun i x e => by
          rw [List.getElem?_append_left (List.getElem?_eq_some_iff.mp e).1]; exact e
        have idk : ∀ a o, H2 a = some o → a ∉ ρ2 → H2 a = some o := fun _ _ h _ => h
        refine p2 H2 (ρ2 ++ [Dl]) ⟨?_, g2.keep⟩ ⟨by simp [s2.len], ?_, fun i x u e1 e2 => ?_, fun x hx => ?_⟩ (.ref Dl) ⟨Dl, by rw [← s2.len]; simp, rfl⟩
        · obtain ⟨m, em, f⟩ := g2.pre
          refine ⟨m ++ [Dl], by rw [em, List.append_assoc], fun a ha => ?_⟩
          rcases List.mem_append.mp ha with z | z
          · exact f a z
          · rw [List.mem_singleton.mp z]; exact ⟨hDn, hD⟩
        · rw [List.nodup_append]
          exact ⟨s2.nd, by simp, fun x hx y hy => by rw [List.mem_singleton.mp hy]; intro z; exact hn2 (z ▸ hx)⟩
        · by_cases hi : i < ρ2.length
          · rw [List.getElem?_append_left hi] at e1
            rw [List.getElem?_append_left (by rw [← s2.len]; exact hi)] at e2
            exact (s2.ob i x u e1 e2).keep idk up s2.nt rfl
          · rw [List.getElem?_append_right (by omega)] at e1
            rw [List.getElem?_append_right (by rw [← s2.len]; omega), ← s2.len] at e2
            have : i - ρ2.length = 0 := by
              have := (List.getElem?_eq_some_iff.mp e1).1
              simpa using this
            rw [this] at e1 e2
            cases e1
            cases e2
            exact ⟨vacc, hv, VRs.keep idk up s2.nt ra⟩
        · rcases List.mem_append.mp hx with z | z
          · exact s2.nt x z
          · rw [List.mem_singleton.mp z]; exact ⟨_, hv, (fun _ e => nomatch e), (fun _ _ e => nomatch e)⟩
      · exact p2.elim
    · exact p2.elim
/-- the context of a block -/
abbrev Blk (X : Cx) (scope : Scope) (P : Cx → Prop) : Prop := ∀ (s : Shared) (H : Hp) (C : Addr) (cl : List (Str × Addr)) (fp : List Addr), P (X.blk s H scope (compEnvC scope cl C X.env) fp)
theorem de_lc (own : List (Str × Nat)) {elt tg iter : Expr} {ifs : List Expr} {scope : Scope} {pos : Pos} {m : Mo Src} {t : Tg} {c : Mo Bool} {e : Mo D} (hc : X.calm = true) (hN : X.N.Nodup) (hi : DI X E tg iter m) (ok : BlkOk X.N X.env.scope scope own)
    (hg : Blk X scope fun Y => PT' Y tg t) (ht : Blk X scope fun Y => DTs Y E0 ifs c) (he : Blk X scope fun Y => DE Y E0 elt e) (hn : ∀ i ∈ namesT t, i ∈ own.map (·.2)) (hs : ∀ x, foldedSetIterable iter X.env x = pure x := by intro _; rfl) :
    DE X E (.ListComp elt [⟨tg, iter, ifs, 0⟩] scope pos) (mLc (own.map (·.2)) m t c e) :=
  (pe_lc hc hN hi ok hg ht he hs).imp fun _ _ _ q => tD_lc hn q
/-- name = [..] on one line -/
theorem ds_setLc (i : Nat) (own : List (Str × Nat)) {y : Str} {py : Pos} {elt tg iter : Expr} {ifs : List Expr} {scope : Scope} {pos spos : Pos} {m : Mo Src} {t : Tg} {c : Mo Bool} {e : Mo D} (hc : X.calm = true) (hN : X.N.Nodup) (hi : DI X E tg iter m) (ok : BlkOk X.N X.env.scope scope own)
    (hg : Blk X scope fun Y => PT' Y tg t) (ht : Blk X scope fun Y => DTs Y E0 ifs c) (he : Blk X scope fun Y => DE Y E0 elt e) (hn : ∀ i ∈ namesT t, i ∈ own.map (·.2)) (hsw : swapsWith (.ListComp elt [⟨tg, iter, ifs, 0⟩] scope pos) (some (.Name y py)) spos.line X.env = pure true)
    (hy : X.N[i]? = some y := by rfl) (hyl : X.env.scope.names.lookup y = some .local := by rfl) (hs : ∀ x, foldedSetIterable iter X.env x = pure x := by intro _; rfl) :
    DS X E (.Assign [.Name y py] (.ListComp elt [⟨tg, iter, ifs, 0⟩] scope pos) spos) (sAsg (mLc (own.map (·.2)) m t c e) (.nm i)) :=
  (ps_setLc hc hN hy hyl hsw hi ok hg ht he hs).imp fun De σ H ⟨ρ, env, st, er, sr, p⟩ => by
    refine tD_lc (E := E) hn ⟨ρ, env, st, er, sr, p.bind.mono fun d st1 H1 ρ1 g1 s1 p1 v hv => ?_⟩
    have := setT_ok (Q := De.nx) (t := .nm i) (er.grow g1 sr) hv (by rw [setT]) fun σ2 e2 _ => p1.here s1 σ2 e2
    rw [gT] at this
    exact this
end
end L3
namespace L3
open PySem PySem.Spec PyProof.Rows L2

/-! ### defs -/
/-- what a def does, by its body: the arguments and the store in, a value and the store out -/
def defF (N : Nat) (m : MS) (ds : List D) (st : Sto) : R D := (m (ds.map some ++ List.replicate (N - ds.length) none) st).bind fun f st1 => match f with
  | .rt d => gc st d st1
  | .nx _ => gc st .non st1
  | _ => .stuck
/-- the promise: it does what F says -/
def spD (K : KW) (n : Nat) (F : List D → Sto → R D) : Sp := fun vs H Q _ => ∃ ρ st ds, SR K H ρ st ∧ VRs K H ρ ds vs ∧ ds.length = n ∧ Post K E0 H ρ (F ds st) fun d _ H' ρ' => ∀ v, VR K H' ρ' d v → Q v H'
theorem spD.len {K : KW} {n : Nat} {F : List D → Sto → R D} {vs : List V} {H : Hp} {Q : VK} {E : XK} (h : spD K n F vs H Q E) : vs.length = n := by
  obtain ⟨ρ, st, ds, s, r, e, _⟩ := h
  rw [← r.length, e]
theorem er_start {K : KW} {H : Hp} {ρ : List Addr} {ds : List D} {vs : List V} (N : List Str) (r : VRs K H ρ ds vs) : ER K H ρ (ds.map some ++ List.replicate (N.length - ds.length) none) (L2.start N vs) := by
  have hl := r.length
  refine ⟨by unfold L2.start; simp [hl], fun i d e => ?_⟩
  by_cases hi : i < ds.length
  · rw [List.getElem?_append_left (by simpa using hi), List.getElem?_map] at e
    cases q : ds[i]? with
    | none => rw [q] at e; cases e
    | some d' =>
      rw [q] at e
      cases e
      obtain ⟨v, a, b⟩ := r.get q
      refine ⟨v, ?_, b⟩
      unfold L2.start
      rw [List.getElem?_append_left (by simpa [← hl] using hi), List.getElem?_map, a] <;> rfl
  · rw [List.getElem?_append_right (by simpa using hi), List.getElem?_replicate] at e
    split at e <;> cases e
/-- the reading of a body at its entry -/
theorem body_read {K : KW} {H : Hp} {N : List Str} {m : MS} {vs : List V} {Q : VK} {E : XK} {ρ : List Addr} {st : Sto} {ds : List D} (s : SR K H ρ st) (r : VRs K H ρ ds vs) (p : Post K E H ρ (defF N.length m ds st) fun d _ H' ρ' => ∀ v, VR K H' ρ' d v → Q v H') :
    tS K E m { nx := fun _ H' => Q .non H', rt := Q } (L2.start N vs) H := by
  refine ⟨ρ, _, st, er_start N r, s, p.bind0.mono fun f st1 H1 ρ1 g1 s1 p1 => ?_⟩
  cases f with
  | rt d =>
    intro v hv
    obtain ⟨d2, st2, ρ2, e, g2, s2, r2⟩ := gc_ok s g1 s1 hv
    have p1 : Post K E H ρ (gc st d st1) _ := p1
    rw [e] at p1
    exact p1 _ _ g2 s2 _ r2
  | nx env =>
    intro σ _
    obtain ⟨d2, st2, ρ2, e, g2, s2, r2⟩ := gc_ok s g1 s1 (d := .non) (v := .non) rfl
    have p1 : Post K E H ρ (gc st .non st1) _ := p1
    rw [e] at p1
    exact p1 _ _ g2 s2 _ r2
  | bk e => exact p1.elim
  | ct e => exact p1.elim
/-- room for k calls, and nothing is being shown -/
structure Rm (k : Nat) (A : Around) : Prop where
  room : Room k A
  gd : A.guards = some []
theorem Rm.mono {j k : Nat} {A : Around} (r : Rm k A) (h : j ≤ k) : Rm j A := ⟨r.room.mono h, r.gd⟩
theorem Rm.deeper {k : Nat} {A : Around} (r : Rm (k + 1) A) (env : Env) : Rm k (A.deeper env) := ⟨r.room.deeper env, r.gd⟩
/-- a def keeps a promise, called with positional values where nothing is being shown -/
structure FnG (P : Program) (w : World) (K : PySem.W.Frag) (mg : Str → Option Value) (base : Heap) (CX : CXT) (k : Nat) (f : Addr) (sp : Sp) : Prop where
  run : ∀ (A : Around) (outer : List Env) (s : Shared) (H : Hp) (us : List Value) (vs : List V) (Q : VK) (E : XK), Rm k A → Env0 P w K mg base A outer s H → Vals vs us → sp vs H Q E →
    codeAny (model P w) A (.call (.ref f) ⟨us, []⟩) (CR CX outer P w H s Q E) s
section
variable {P : Program} {w : World} {K : PySem.W.Frag} {mg : Str → Option Value} {base : Heap} {CX : CXT}
theorem FnG.mono {j k : Nat} {f : Addr} {sp : Sp} (F : FnG P w K mg base CX j f sp) (h : j ≤ k) : FnG P w K mg base CX k f sp := ⟨fun A outer s H us vs Q E hr => F.run A outer s H us vs Q E (hr.mono h)⟩
theorem FnG.imp {k : Nat} {f : Addr} {sp sp' : Sp} (F : FnG P w K mg base CX k f sp) (h : ∀ vs H Q E, sp' vs H Q E → sp vs H Q E) : FnG P w K mg base CX k f sp' := ⟨fun A outer s H us vs Q E hr e0 r hs => F.run A outer s H us vs Q E hr e0 r (h _ _ _ _ hs)⟩
/-- THE RULE for a def whose arguments are bound one to one -/
theorem okG {x qual : Str} {st : Stmt} {f : Addr} {fd : FuncData} {N ps : List Str} {k n : Nat} {m : MS} (F : Fun K x qual st f fd) (S : FnScope N ps (defScope st)) (hn : n = ps.length)
    (hb : ∀ (kV doc pm : Value) (an : Option Addr) (cdv ct : Value) (us : List Value), us.length = ps.length → bindArgs (PySem.W.fnOf x qual (defArgs st) (defBody st) (defScope st) .none kV doc pm an cdv ct) ⟨us, []⟩ = pure (ps.zip us))
    (hbody : ∀ (cdv : Value) (A : Around) (outer : List Env) (s : Shared) (H : Hp) (E : XK), Rm k (A.deeper (envOfC qual (defScope st) s.heap.objs.size f cdv)) →
      DSs (cxOf CX0 P w K mg base N qual (defScope st) f cdv A outer s H E).nox E0 (defBody st) m) : FnG P w K mg base CX0 (k + 1) f (spD ⟨K, w⟩ n (defF N.length m)) := by
  refine ⟨fun A outer s H us vs Q E hr e0 rv hs => ?_⟩
  obtain ⟨oc, od, kV, doc, pm, an, cdv, ct, osl, efd, lk, hcd⟩ := F.ex
  subst efd
  have hl : vs.length = ps.length := by rw [hs.len, hn]
  have hlu : us.length = ps.length := by rw [← rv.length]; exact hl
  refine StX.run_bnd (G := fun vs' H' => vs' = vs ∧ H' = H) lk hcd S hr.room e0 (fun A' Ex Q' h => ?_) fun s2 H2 vs2 g hr2 => ?_
  · rw [hb kV doc pm an cdv ct us hlu]
    exact wpAny_pure (h s H vs us e0 Un.refl rfl (fun _ _ z => z) rv hl ⟨rfl, rfl⟩)
  · obtain ⟨rfl, rfl⟩ := g
    obtain ⟨ρ, st0, ds, s0, r, _, p⟩ := hs
    exact ⟨_, (hbody cdv A outer s2 H2 E (hr.deeper _)).nox, body_read s0 r p⟩
/-- a def with *args alone: the arguments come as one tuple -/
theorem okStar {x qual : Str} {st : Stmt} {f : Addr} {fd : FuncData} {N : List Str} {pv : Str} {k n : Nat} {m : MS} (F : Fun K x qual st f fd) (S : FnScope N [pv] (defScope st)) (hz : n ≤ 16777216)
    (hb : ∀ (kV doc pm : Value) (an : Option Addr) (cdv ct : Value) (us : List Value), us.length = n → bindArgs (PySem.W.fnOf x qual (defArgs st) (defBody st) (defScope st) .none kV doc pm an cdv ct) ⟨us, []⟩ = (newTuple us >>= fun t => pure [(pv, t)]))
    (hbody : ∀ (cdv : Value) (A : Around) (outer : List Env) (s : Shared) (H : Hp) (E : XK), Rm k (A.deeper (envOfC qual (defScope st) s.heap.objs.size f cdv)) →
      DSs (cxOf CX0 P w K mg base N qual (defScope st) f cdv A outer s H E).nox E0 (defBody st) m) : FnG P w K mg base CX0 (k + 1) f (spD ⟨K, w⟩ n fun ds => defF N.length m [.tup ds]) := by
  refine ⟨fun A outer s H us vs Q E hr e0 rv hs => ?_⟩
  obtain ⟨oc, od, kV, doc, pm, an, cdv, ct, osl, efd, lk, hcd⟩ := F.ex
  subst efd
  have hl : vs.length = n := hs.len
  have hlu : us.length = n := by rw [← rv.length]; exact hl
  have hzl : n ≤ sizeLine := by rw [sizeLine_eq]; exact hz
  have hn : H s.heap.objs.size = Option.none := e0.hok.fresh (Nat.le_refl _)
  refine StX.run_bnd (G := fun vs' H' => ∃ p, H p = none ∧ vs' = [V.ref p] ∧ H' = upd H p (.tup vs)) lk hcd S hr.room e0 (fun A' Ex Q' h => ?_) fun s2 H2 vs2 g hr2 => ?_
  · rw [hb kV doc pm an cdv ct us hlu]
    refine wpAny_bind (wpAny_newTuple (wpAny_pure ?_) (by rw [hlu]; exact hzl))
    have new : ObjOk P w (upd H s.heap.objs.size (.tup vs)) (s.heap.push ({ cls := .type "tuple", data := .seq us.toArray } : Obj)) s.heap.objs.size (.tup vs) := ⟨by rw [hl]; exact hzl, us, rv, ⟨_, Heap.get?_push_size _ rfl, rfl, _, rfl⟩⟩
    exact h _ _ [V.ref s.heap.objs.size] [Value.ref s.heap.objs.size] (StX.env0_laid e0 new) (StX.un_laid hn) rfl (fun _ _ z => z.elim) (.cons rfl .nil) rfl ⟨_, hn, rfl, rfl⟩
  · obtain ⟨p, hp, rfl, rfl⟩ := g
    obtain ⟨ρ, st0, ds, s0, r, _, p0⟩ := hs
    obtain ⟨g1, s1, r1⟩ := s0.tup hp r
    exact ⟨_, (hbody cdv A outer s2 _ E (hr.deeper _)).nox, body_read s1 (ds := [.tup ds]) (vs := [.ref p]) ⟨_, [], rfl, r1, rfl⟩ ((Post.from g1 p0).mono fun _ _ _ _ _ _ q => q)⟩
/-- a promise with another function that says the same where it says something -/
def Le (F G : List D → Sto → R D) : Prop := ∀ ds st, F ds st = .stuck ∨ F ds st = G ds st
theorem spD_le {n : Nat} {F G : List D → Sto → R D} (h : Le F G) {vs : List V} {H : Hp} {Q : VK} {E : XK} (q : spD ⟨K, w⟩ n F vs H Q E) : spD ⟨K, w⟩ n G vs H Q E := by
  obtain ⟨ρ, st, ds, s, r, e, p⟩ := q
  refine ⟨ρ, st, ds, s, r, e, ?_⟩
  rcases h ds st with z | z
  · rw [z] at p; exact p.elim
  · rw [← z]; exact p
theorem fn_le {n k : Nat} {f : Addr} {F G : List D → Sto → R D} (h : Le F G) (ok : FnG P w K mg base CX k f (spD ⟨K, w⟩ n G)) : FnG P w K mg base CX k f (spD ⟨K, w⟩ n F) := ok.imp fun _ _ _ _ q => spD_le h q
end
@[simp] def mCall (n : Nat) (F : List D → Sto → R D) (m : Mo (List D)) : Mo D := fun env st => (m env st).bind fun ds st1 => if ds.length = n then F ds st1 else .stuck
section
variable {X : Cx}
theorem tD_call {K : KW} {n : Nat} {F : List D → Sto → R D} {m : Mo (List D)} {σ : L2.St} {H : Hp} {Q : VK} (h : tD K E0 (mCall n F m) σ H Q) : tA K E0 m σ H fun vs H1 => spD K n F vs H1 Q E0 := by
  obtain ⟨ρ, env, st, er, sr, p⟩ := h
  refine ⟨ρ, env, st, er, sr, p.bind.mono fun ds st1 H1 ρ1 g1 s1 p1 vs hvs => ?_⟩
  split at p1
  · rename_i hl
    exact ⟨ρ1, st1, ds, s1, hvs, hl, p1⟩
  · exact p1.elim
theorem run_G {CX : CXT} {k : Nat} {f : Addr} {sp : Sp} {E : XK} {Q : VK} {us : List Value} {vs : List V} {pins : List (Addr × Obj)} {σ : L2.St} {H : Hp} {s : Shared} (F : FnG X.prog X.w X.K X.mg X.base CX k f sp) (hr : Rm k X.A) (hx : Passes CX X E) (I : Inv X pins σ H s) (r : Vals vs us) (h : sp vs H Q E) :
    wpAny (model X.prog X.w) X.A (call (.ref f) us) (EP X pins σ Q) X.xe s := wpAny_call (codeAny_mono (F.run X.A X.stack s H us vs Q E hr I.env0 r h) fun res s' hq => by
  rcases res with e | fl
  · exact hx pins σ H s e s' I hq
  · cases fl with
    | ret u => exact I.after hq
    | _ => exact hq.elim)
theorem de_call {x : Str} {f : Addr} {k n : Nat} {F : List D → Sto → R D} {e : Expr} {es : List Expr} {m : Mo (List D)} {p pos : Pos} (G : FnG X.prog X.w X.K X.mg X.base CX0 k f (spD X.kw n F)) (hr : Rm k X.A) (hm : X.mg x = some (.ref f)) (hk : PySem.W.keepIn X.K (.ref f) = true)
    (ha : DA X E0 (e :: es) m) (hg : Gl X x := by rfl) (hdb : (x == ("__debug__" : Str)) = false := by decide) (he : starEach (e :: es) X.env = (false, eval e X.env) :: starEach es X.env := by rfl) (hpl : (backTo pos (starEach es X.env)).any (·.1) = false := by rfl) :
    DE X E0 (.Call (.Name x p) (e :: es) [] pos) (mCall n F m) := ⟨fun pins s σ H Q I h => by
  refine wpAny_Call_Name_kw (ld_glob I hg hm ?_ hdb)
  exact PySem.W.callWith_K (h₀ := X.base) I.ok.mod.kin hk (thn (ha.run pos pins s σ H _ I (tD_call h)) fun us s1 ⟨vs, H1, I1, r, q⟩ => ⟨I1.kIn, run_G G hr pass0 I1 r q⟩) he hpl⟩
theorem de_call0 {x : Str} {f : Addr} {k n : Nat} {F : List D → Sto → R D} {p pos : Pos} (G : FnG X.prog X.w X.K X.mg X.base CX0 k f (spD X.kw n F)) (hr : Rm k X.A) (hm : X.mg x = some (.ref f)) (hk : PySem.W.keepIn X.K (.ref f) = true) (hg : Gl X x := by rfl) (hdb : (x == ("__debug__" : Str)) = false := by decide) :
    DE X E0 (.Call (.Name x p) [] [] pos) (mCall n F mNil) := ⟨fun pins s σ H Q I ⟨ρ, env, st, er, sr, q⟩ => by
  refine wpAny_Call_Name_kw (ld_glob I hg hm ?_ hdb)
  refine PySem.W.callWith_K0 I.kIn hk (run_G (us := []) (vs := []) G hr pass0 I .nil ?_)
  have q : Post X.kw E0 H ρ (if ([] : List D).length = n then F [] st else .stuck) _ := q
  split at q
  · rename_i hl
    exact ⟨ρ, st, [], sr, rfl, hl, q⟩
  · exact q.elim⟩

/-! ### calls of built-ins, methods -/
@[simp] def mF (F : List D → Sto → R D) (m : Mo (List D)) : Mo D := fun env st => (m env st).bind F
theorem tD_F {K : KW} {E : XK} {F : List D → Sto → R D} {m : Mo (List D)} {σ : L2.St} {H : Hp} {Q : VK} (h : tD K E (mF F m) σ H Q) : tA K E m σ H fun vs H1 => rC K E F vs H1 Q := by
  obtain ⟨ρ, env, st, er, sr, p⟩ := h
  exact ⟨ρ, env, st, er, sr, p.bind.mono fun ds st1 H1 ρ1 g1 s1 p1 vs hvs => ⟨ρ1, st1, ds, s1, hvs, p1⟩⟩
theorem de_callB {id : String} {x : Str} {E : XK} {F : List D → Sto → R D} {e : Expr} {es : List Expr} {m : Mo (List D)} {p pos : Pos} (hc : CallR X (.builtin id) (rC X.kw E F)) (hm : X.mg x = none) (hv : bootBuiltins x = some (.builtin id)) (ha : DA X E (e :: es) m) (hg : Gl X x := by rfl) (hn : x ≠ "__name__" := by decide) (hdb : (x == ("__debug__" : Str)) = false := by decide)
    (he : starEach (e :: es) X.env = (false, eval e X.env) :: starEach es X.env := by rfl) (hpl : (backTo pos (starEach es X.env)).any (·.1) = false := by rfl) : DE X E (.Call (.Name x p) (e :: es) [] pos) (mF F m) := (pe_callB hc hg hm hv ha hn hdb he hpl).imp fun _ _ _ h => tD_F h
theorem de_callT {T : String} {x : Str} {E : XK} {F : List D → Sto → R D} {e : Expr} {es : List Expr} {m : Mo (List D)} {p pos : Pos} (hc : CallR X (.type T) (rC X.kw E F)) (hm : X.mg x = none) (hv : bootBuiltins x = some (.type T)) (ha : DA X E (e :: es) m) (hg : Gl X x := by rfl) (hn : x ≠ "__name__" := by decide) (hdb : (x == ("__debug__" : Str)) = false := by decide)
    (he : starEach (e :: es) X.env = (false, eval e X.env) :: starEach es X.env := by rfl) (hpl : (backTo pos (starEach es X.env)).any (·.1) = false := by rfl) : DE X E (.Call (.Name x p) (e :: es) [] pos) (mF F m) := (pe_callTy hc hg hm hv ha hn hdb he hpl).imp fun _ _ _ h => tD_F h
/-- o.m(..): a method of a built-in type -/
def rM (K : KW) (E : XK) (F : D → List D → Sto → R D) : V → List V → Hp → VK → Prop := fun x vs H Q => ∃ ρ st d ds, SR K H ρ st ∧ VR K H ρ d x ∧ VRs K H ρ ds vs ∧ Post K E H ρ (F d ds st) fun d _ H' ρ' => ∀ v, VR K H' ρ' d v → Q v H'
/-- T: of what kind the receiver is (a look at the store) -/
@[simp] def mM (T : D → Sto → Bool) (F : D → List D → Sto → R D) (mo : Mo D) (m : Mo (List D)) : Mo D := fun env st => (mo env st).bind fun d st1 => if T d st1 = true then (m env st1).bind fun ds st2 => F d ds st2 else .stuck
theorem de_bm {T id : String} {name : Str} {E : XK} {Tb : D → Sto → Bool} {F : D → List D → Sto → R D} {o e : Expr} {es : List Expr} {mo : Mo D} {m : Mo (List D)} {apos cpos : Pos} (pa : PlainAttrs T) (slot : Slot T name id) (hty : typeOf (.builtin id) = pure (.type "method_descriptor")) (hm : MtR X id (rM X.kw E F))
    (hT : ∀ (H : Hp) (ρ : List Addr) (st : Sto) (d : D) (v : V), SR X.kw H ρ st → VR X.kw H ρ d v → Tb d st = true → tyV X.kw T v H) (ho : DE X E o mo) (ha : DA X E (e :: es) m)
    (hbase : attributeBase o name X.env (eval o X.env) = eval o X.env := by rfl)
    (hfew : ((backTo cpos (starEach (e :: es) X.env)).all (fun x => !x.1) && (backToKw cpos (keywordEach [] X.env)).all (fun x => x.1.isSome)
      && decide ((e :: es).length + ([] : List Keyword).length + (if ([] : List Keyword).isEmpty then 0 else 1) < 30)) = true := by rfl)
    (hline : (apos.endLine == cpos.line) = true := by rfl) (hs : starEach (e :: es) X.env = (false, eval e X.env) :: starEach es X.env := by rfl) (hplain : (backTo cpos (starEach es X.env)).any (·.1) = false := by rfl) :
    DE X E (.Call (.Attribute o name apos) (e :: es) [] cpos) (mM Tb F mo m) := (pe_bm pa slot hty hm ho ha hbase hfew hline hs hplain).imp fun σ H Q ⟨ρ, env, st, er, sr, p⟩ =>
  ⟨ρ, env, st, er, sr, p.bind.mono fun d st1 H1 ρ1 g1 s1 p1 v hv => by
    split at p1
    · rename_i hT'
      exact ⟨hT H1 ρ1 st1 d v s1 hv hT', ρ1, env, st1, er.grow g1 sr, s1, p1.bind.mono fun ds st2 H2 ρ2 g2 s2 p2 vs hvs => ⟨ρ2, st2, d, ds, s2, hv.grow g2 s1, hvs, p2⟩⟩
    · exact p1.elim⟩
theorem de_bm0 {T id : String} {name : Str} {E : XK} {Tb : D → Sto → Bool} {F : D → List D → Sto → R D} {o : Expr} {mo : Mo D} {apos cpos : Pos} (pa : PlainAttrs T) (slot : Slot T name id) (hty : typeOf (.builtin id) = pure (.type "method_descriptor")) (hm : MtR X id (rM X.kw E F))
    (hT : ∀ (H : Hp) (ρ : List Addr) (st : Sto) (d : D) (v : V), SR X.kw H ρ st → VR X.kw H ρ d v → Tb d st = true → tyV X.kw T v H) (ho : DE X E o mo)
    (hbase : attributeBase o name X.env (eval o X.env) = eval o X.env := by rfl) (hline : (apos.endLine == cpos.line) = true := by rfl) :
    DE X E (.Call (.Attribute o name apos) [] [] cpos) (mM Tb F mo mNil) := (pe_bm0 pa slot hty hm ho hbase hline).imp fun σ H Q ⟨ρ, env, st, er, sr, p⟩ =>
  ⟨ρ, env, st, er, sr, p.bind.mono fun d st1 H1 ρ1 g1 s1 p1 v hv => by
    split at p1
    · rename_i hT'
      exact ⟨hT H1 ρ1 st1 d v s1 hv hT', ρ1, st1, d, [], s1, hv, rfl, p1⟩
    · exact p1.elim⟩
end
end L3
namespace L3
open PySem PySem.Spec PyProof.Rows L2

/-! ### numbers -/
@[simp] def opSub : D → D → Sto → R D
  | .int i, .int j, st => .ok (.int (i - j)) st
  | _, _, _ => .stuck
/-- one factor below 2 ^ 64 -/
def mulOk (i j : Int) : Bool := (decide (-(2 ^ 64) < i) && decide (i < 2 ^ 64)) || (decide (-(2 ^ 64) < j) && decide (j < 2 ^ 64))
@[simp] def opMul : D → D → Sto → R D
  | .int i, .int j, st => if mulOk i j then .ok (.int (i * j)) st else .stuck
  | _, _, _ => .stuck
def divOk (j : Int) : Bool := decide (j ≠ 0) && decide (j.natAbs < 1073741824)
@[simp] def opDiv : D → D → Sto → R D
  | .int i, .int j, st => if divOk j then .ok (.int (i.fdiv j)) st else .stuck
  | _, _, _ => .stuck
@[simp] def opMod : D → D → Sto → R D
  | .int i, .int j, st => if j ≠ 0 then .ok (.int (i.fmod j)) st else .stuck
  | _, _, _ => .stuck
def powOk (i j : Int) : Bool := decide (0 ≤ j) && decide ((Builtin.Int.intBits i : Int) * j ≤ 2 ^ 27)
@[simp] def opPow : D → D → Sto → R D
  | .int i, .int j, st => if powOk i j then .ok (.int (i ^ j.toNat)) st else .stuck
  | _, _, _ => .stuck
@[simp] def opNeg : D → Sto → R D
  | .int i, st => .ok (.int (-i)) st
  | _, _ => .stuck
def opAdd : D → D → Sto → R D
  | .int i, .int j, st => .ok (.int (i + j)) st
  | .tup xs, .tup ys, st => if szOk (xs.length + ys.length) then .ok (.tup (xs ++ ys)) st else .stuck
  | .ref a, .ref b, st => match st[a]?, st[b]? with
    | some (.lst xs), some (.lst ys) => if szOk (xs.length + ys.length) then .ok (.ref st.length) (st ++ [.lst (xs ++ ys)]) else .stuck
    | _, _ => .stuck
  | _, _, _ => .stuck
@[simp] theorem opAdd_int (i j : Int) (st : Sto) : opAdd (.int i) (.int j) st = .ok (.int (i + j)) st := rfl
@[simp] theorem opAdd_tup (xs ys : List D) (st : Sto) : opAdd (.tup xs) (.tup ys) st = if szOk (xs.length + ys.length) then .ok (.tup (xs ++ ys)) st else .stuck := rfl
section
variable {X : Cx} {E : XK}
theorem or_sub : OpR X (binaryOp .Sub) (rD X.kw E opSub) := fun pins s σ H x y v u Q I r1 r2 ⟨ρ, st, dx, dy, sr, hx, hy, p⟩ => by
  cases dx with
  | int i => cases dy with
    | int j => exact op_sub pins s σ H x y v u Q I r1 r2 ⟨i, j, hx, hy, p.here sr _ rfl⟩
    | _ => exact p.elim
  | _ => exact p.elim
theorem or_mul : OpR X (binaryOp .Mult) (rD X.kw E opMul) := fun pins s σ H x y v u Q I r1 r2 ⟨ρ, st, dx, dy, sr, hx, hy, p⟩ => by
  cases dx with
  | int i => cases dy with
    | int j =>
      simp only [opMul] at p
      split at p
      · rename_i h
        refine op_mul pins s σ H x y v u Q I r1 r2 ⟨i, j, hx, hy, ?_, p.here sr _ rfl⟩
        unfold mulOk at h
        simp only [Bool.or_eq_true, Bool.and_eq_true, decide_eq_true_eq] at h
        exact h
      · exact p.elim
    | _ => exact p.elim
  | _ => exact p.elim
theorem or_div : OpR X (binaryOp .FloorDiv) (rD X.kw E opDiv) := fun pins s σ H x y v u Q I r1 r2 ⟨ρ, st, dx, dy, sr, hx, hy, p⟩ => by
  cases dx with
  | int i => cases dy with
    | int j =>
      simp only [opDiv] at p
      split at p
      · rename_i h
        refine op_fdivN pins s σ H x y v u Q I r1 r2 ⟨i, j, hx, hy, ?_, p.here sr _ rfl⟩
        unfold divOk at h
        rw [Bool.and_eq_true, decide_eq_true_eq, decide_eq_true_eq] at h
        exact h
      · exact p.elim
    | _ => exact p.elim
  | _ => exact p.elim
theorem or_mod : OpR X (binaryOp .Mod) (rD X.kw E opMod) := fun pins s σ H x y v u Q I r1 r2 ⟨ρ, st, dx, dy, sr, hx, hy, p⟩ => by
  cases dx with
  | int i => cases dy with
    | int j =>
      simp only [opMod] at p
      split at p
      · rename_i h
        exact op_modN pins s σ H x y v u Q I r1 r2 ⟨i, j, hx, hy, h, p.here sr _ rfl⟩
      · exact p.elim
    | _ => exact p.elim
  | _ => exact p.elim
theorem or_pow : OpR X (binaryOp .Pow) (rD X.kw E opPow) := fun pins s σ H x y v u Q I r1 r2 ⟨ρ, st, dx, dy, sr, hx, hy, p⟩ => by
  cases dx with
  | int i => cases dy with
    | int j =>
      simp only [opPow] at p
      split at p
      · rename_i h
        unfold powOk at h
        rw [Bool.and_eq_true, decide_eq_true_eq, decide_eq_true_eq] at h
        have hx : x = .int i := hx
        have hy : y = .int j := hy
        subst hx hy
        obtain ⟨t, rfl⟩ := r1
        obtain ⟨t', rfl⟩ := r2
        exact pow_int h.1 h.2 ⟨.int _, H, I.tok _, ⟨_, rfl⟩, p.here sr _ rfl⟩
      · exact p.elim
    | _ => exact p.elim
  | _ => exact p.elim
theorem ur_neg : UnR X (unaryOp .USub) (rU X.kw E opNeg) := fun pins s σ H x v Q I r ⟨ρ, st, dx, sr, hx, p⟩ => by
  cases dx with
  | int i => exact un_neg pins s σ H x v Q I r ⟨i, hx, p.here sr _ rfl⟩
  | _ => exact p.elim
theorem or_add : OpR X (binaryOp .Add) (rD X.kw E opAdd) := fun pins s σ H x y v u Q I r1 r2 ⟨ρ, st, dx, dy, sr, hx, hy, p⟩ => by
  cases dx with
  | int i => cases dy with
    | int j => exact op_add pins s σ H x y v u Q I r1 r2 ⟨i, j, hx, hy, p.here sr _ rfl⟩
    | _ => exact p.elim
  | tup xs => cases dy with
    | tup ys =>
      rw [opAdd_tup] at p
      split at p
      · rename_i hz
        obtain ⟨a, vs, e1, q1, w1⟩ := hx
        obtain ⟨b, us, e2, q2, w2⟩ := hy
        have hz := szOk_le hz
        rw [w1.length, w2.length] at hz
        have hcat := w1.append w2
        refine op_catA pins s σ H x y v u Q I r1 r2 ⟨a, b, vs, us, e1, e2, q1, q2, hz, fun z => ?_, fun _ z => ?_, fun _ _ q hq => ?_⟩
        · rw [z] at hcat
          exact p.here sr _ ⟨b, us, rfl, q2, hcat⟩
        · rw [z, List.append_nil] at hcat
          exact p.here sr _ ⟨a, vs, rfl, q1, hcat⟩
        · obtain ⟨g, s', r'⟩ := sr.tup hq hcat
          exact p _ _ g s' _ r'
      · exact p.elim
    | _ => exact p.elim
  | ref a => cases dy with
    | ref b =>
      simp only [opAdd] at p
      split at p
      · rename_i xs ys h1 h2
        split at p
        · rename_i hz
          obtain ⟨a', ha, e1⟩ := hx
          obtain ⟨b', hb, e2⟩ := hy
          obtain ⟨vs, k1, w1⟩ := sr.ob a a' _ ha h1
          obtain ⟨us, k2, w2⟩ := sr.ob b b' _ hb h2
          have hz := szOk_le hz
          rw [w1.length, w2.length] at hz
          refine op_cat pins s σ H x y v u Q I r1 r2 ⟨a', b', vs, us, e1, e2, k1, k2, hz, fun q hq => ?_⟩
          obtain ⟨g, s', r'⟩ := sr.newL hq (w1.append w2)
          exact p _ _ g s' _ r'
        · exact p.elim
      · exact p.elim
    | _ => exact p.elim
  | _ => exact p.elim
end

/-! ### data -/
mutual
def toPy : D → Option PyData
  | .non => some .none
  | .bl b => some (.bool b)
  | .int i => some (.int i)
  | .str x => some (.str x)
  | .tup xs => match toPys xs with
    | some ps => some (.tuple ps)
    | none => none
  | _ => none
def toPys : List D → Option (List PyData)
  | [] => some []
  | x :: xs => match toPy x, toPys xs with
    | some p, some ps => some (p :: ps)
    | _, _ => none
end
section
variable {X : Cx} {E : XK}
mutual
theorem reads {pins : List (Addr × Obj)} {σ : L2.St} {H : Hp} {s : Shared} (I : Inv X pins σ H s) {ρ : List Addr} : ∀ {d : D} {v : V} {u : Value} {p : PyData}, VR X.kw H ρ d v → RelV v u → toPy d = some p → ∃ as, Reads s.heap u p as
  | .non, v, u, p, h, r, e => by
    simp only [toPy, Option.some.injEq] at e
    have h : v = .non := h
    subst h e
    cases (show u = Value.none from r)
    exact ⟨_, .none⟩
  | .bl b, v, u, p, h, r, e => by
    simp only [toPy, Option.some.injEq] at e
    have h : v = .bl b := h
    subst h e
    cases (show u = Value.bool b from r)
    exact ⟨_, .bool b⟩
  | .int i, v, u, p, h, r, e => by
    simp only [toPy, Option.some.injEq] at e
    have h : v = .int i := h
    subst h e
    obtain ⟨t, rfl⟩ := r
    exact ⟨_, .int i t⟩
  | .str x, v, u, p, h, r, e => by
    simp only [toPy, Option.some.injEq] at e
    have h : v = .str x := h
    subst h e
    obtain ⟨t, rfl⟩ := r
    exact ⟨_, .str x t⟩
  | .tup xs, v, u, p, ⟨a, vs, ev, hq, hr⟩, r, e => by
    rw [toPy] at e
    split at e
    · rename_i ps hps
      cases e
      subst ev
      cases (show u = Value.ref a from r)
      obtain ⟨its, rv, ⟨o, ho, hc, n, hd⟩, _⟩ := I.tuple hq
      obtain ⟨as, ra⟩ := readsAll I hr rv hps
      exact ⟨as, .tuple ho hc hd (by simpa using ra)⟩
    · cases e
  | .frl _, _, _, _, _, _, e | .ref _, _, _, _, _, _, e | .ty _, _, _, _, _, _, e | .glo _, _, _, _, _, _, e => by simp [toPy] at e
theorem readsAll {pins : List (Addr × Obj)} {σ : L2.St} {H : Hp} {s : Shared} (I : Inv X pins σ H s) {ρ : List Addr} : ∀ {ds : List D} {vs : List V} {us : List Value} {ps : List PyData}, VRs X.kw H ρ ds vs → Vals vs us → toPys ds = some ps → ∃ as, ReadsAll s.heap us ps as
  | [], vs, us, ps, h, r, e => by
    simp only [toPys, Option.some.injEq] at e
    have h : vs = [] := h
    subst h e
    cases r
    exact ⟨_, .nil⟩
  | d :: ds, vs, us, ps, ⟨v, w, ev, h, hr⟩, r, e => by
    rw [toPys] at e
    split at e
    · rename_i p ps' h1 h2
      cases e
      subst ev
      cases r with
      | cons r rr =>
        obtain ⟨as, ra⟩ := reads I h r h1
        obtain ⟨bs, rb⟩ := readsAll I hr rr h2
        exact ⟨_, .cons ra rb⟩
    · cases e
end

/-! ### == and < of data -/
def eqF (neg : Bool) (a b : D) (st : Sto) : R D := match toPy a, toPy b with
  | some p, some q => if SeqAt.shaped p && SeqAt.shaped q then .ok (.bl (neg ^^ PyData.eqv p q)) st else .stuck
  | _, _ => .stuck
def opEq (neg : Bool) (a b : D) (st : Sto) : R D := match a, b with
  | .str x, .str y => .ok (.bl (neg ^^ decide (x = y))) st
  | .int x, .int y => .ok (.bl (neg ^^ decide (x = y))) st
  | a, b => eqF neg a b st
@[simp] theorem opEq_str (neg : Bool) (x y : Str) (st : Sto) : opEq neg (.str x) (.str y) st = .ok (.bl (neg ^^ decide (x = y))) st := rfl
@[simp] theorem opEq_int (neg : Bool) (x y : Int) (st : Sto) : opEq neg (.int x) (.int y) st = .ok (.bl (neg ^^ decide (x = y))) st := rfl
@[simp] theorem opEq_tup (neg : Bool) (x y : List D) (st : Sto) : opEq neg (.tup x) (.tup y) st = eqF neg (.tup x) (.tup y) st := rfl
theorem or_eq (hu : X.A.units + 64 < cLine) : OpR X (compareOp .Eq) (rD X.kw E (opEq false)) := fun pins s σ H x y v u Q I r1 r2 ⟨ρ, st, dx, dy, sr, hx, hy, p⟩ => by
  unfold opEq at p
  split at p
  · rename_i a b
    have hx : x = .str a := hx
    have hy : y = .str b := hy
    refine op_eq pins s σ H x y v u Q I r1 r2 ⟨by rw [hx, hy] <;> rfl, ?_⟩
    have e : decide (x = y) = decide (a = b) := by rw [hx, hy]; simp
    rw [e]
    exact p.here sr _ (by simp [VR])
  · rename_i a b
    have hx : x = .int a := hx
    have hy : y = .int b := hy
    refine op_eq pins s σ H x y v u Q I r1 r2 ⟨by rw [hx, hy] <;> rfl, ?_⟩
    have e : decide (x = y) = decide (a = b) := by rw [hx, hy]; simp
    rw [e]
    exact p.here sr _ (by simp [VR])
  · unfold eqF at p
    split at p
    · rename_i a b ha hb
      split at p
      · rename_i hs
        rw [Bool.and_eq_true] at hs
        obtain ⟨as, ra⟩ := reads I hx r1 ha
        obtain ⟨bs, rb⟩ := reads I hy r2 hb
        refine PyProof.Rows.eq_dataH ra rb hs.1 hs.2 hu ⟨.bl _, H, I, rfl, ?_⟩
        exact p.here sr (.bl (PyData.eqv a b)) (by simp [VR])
      · exact p.elim
    · exact p.elim
theorem or_ne (hu : X.A.units + 64 < cLine) : OpR X (compareOp .NotEq) (rD X.kw E (opEq true)) := fun pins s σ H x y v u Q I r1 r2 ⟨ρ, st, dx, dy, sr, hx, hy, p⟩ => by
  unfold opEq at p
  split at p
  · rename_i a b
    have hx : x = .str a := hx
    have hy : y = .str b := hy
    refine op_ne pins s σ H x y v u Q I r1 r2 ⟨by rw [hx, hy] <;> rfl, ?_⟩
    have e : decide (x = y) = decide (a = b) := by rw [hx, hy]; simp
    rw [e]
    exact p.here sr _ (by simp [VR])
  · rename_i a b
    have hx : x = .int a := hx
    have hy : y = .int b := hy
    refine op_ne pins s σ H x y v u Q I r1 r2 ⟨by rw [hx, hy] <;> rfl, ?_⟩
    have e : decide (x = y) = decide (a = b) := by rw [hx, hy]; simp
    rw [e]
    exact p.here sr _ (by simp [VR])
  · unfold eqF at p
    split at p
    · rename_i a b ha hb
      split at p
      · rename_i hs
        rw [Bool.and_eq_true] at hs
        obtain ⟨as, ra⟩ := reads I hx r1 ha
        obtain ⟨bs, rb⟩ := reads I hy r2 hb
        refine PyProof.Rows.ne_dataH ra rb hs.1 hs.2 hu ⟨.bl _, H, I, rfl, ?_⟩
        exact p.here sr (.bl (!PyData.eqv a b)) (by simp [VR])
      · exact p.elim
    · exact p.elim
def isNone : PyData → Bool
  | .none => true
  | _ => false
def opLt (a b : D) (st : Sto) : R D := match toPy a, toPy b with
  | some p, some q => if PySem.W.alike p q && !isNone p && decide (p.depth ≤ 64) then .ok (.bl (PySem.W.dataLt p q)) st else .stuck
  | _, _ => .stuck
theorem or_lt (hu : X.A.units + 64 < cLine) : OpR X (compareOp .Lt) (rD X.kw E opLt) := fun pins s σ H x y v u Q I r1 r2 ⟨ρ, st, dx, dy, sr, hx, hy, p⟩ => by
  unfold opLt at p
  split at p
  · rename_i a b ha hb
    split at p
    · rename_i hs
      rw [Bool.and_eq_true, Bool.and_eq_true, decide_eq_true_eq] at hs
      obtain ⟨as, ra⟩ := reads I hx r1 ha
      obtain ⟨bs, rb⟩ := reads I hy r2 hb
      have hn : a ≠ .none := fun z => by rw [z] at hs; exact absurd hs.1.2 (by decide)
      exact PySem.W.rcLt_alike a b X.A s v u as bs ra rb hs.1.1 hn (Nat.lt_of_le_of_lt (Nat.add_le_add_left (Nat.le_trans (Nat.min_le_left _ _) hs.2) _) hu) X.prog X.w X.xe _ ⟨.bl _, H, I, rfl, p.here sr _ rfl⟩
    · exact p.elim
  · exact p.elim
@[simp] def opLe : D → D → Sto → R D
  | .int i, .int j, st => .ok (.bl (decide (i ≤ j))) st
  | _, _, _ => .stuck
@[simp] def opGt : D → D → Sto → R D
  | .int i, .int j, st => .ok (.bl (decide (j < i))) st
  | _, _, _ => .stuck
@[simp] def opGe : D → D → Sto → R D
  | .int i, .int j, st => .ok (.bl (decide (j ≤ i))) st
  | _, _, _ => .stuck
theorem or_le : OpR X (compareOp .LtE) (rD X.kw E opLe) := fun pins s σ H x y v u Q I r1 r2 ⟨ρ, st, dx, dy, sr, hx, hy, p⟩ => by
  cases dx with
  | int i => cases dy with
    | int j => exact op_le pins s σ H x y v u Q I r1 r2 ⟨i, j, hx, hy, p.here sr _ rfl⟩
    | _ => exact p.elim
  | _ => exact p.elim
theorem or_gt : OpR X (compareOp .Gt) (rD X.kw E opGt) := fun pins s σ H x y v u Q I r1 r2 ⟨ρ, st, dx, dy, sr, hx, hy, p⟩ => by
  cases dx with
  | int i => cases dy with
    | int j => exact op_gt pins s σ H x y v u Q I r1 r2 ⟨i, j, hx, hy, p.here sr _ rfl⟩
    | _ => exact p.elim
  | _ => exact p.elim
theorem or_ge : OpR X (compareOp .GtE) (rD X.kw E opGe) := fun pins s σ H x y v u Q I r1 r2 ⟨ρ, st, dx, dy, sr, hx, hy, p⟩ => by
  cases dx with
  | int i => cases dy with
    | int j => exact op_ge pins s σ H x y v u Q I r1 r2 ⟨i, j, hx, hy, p.here sr _ rfl⟩
    | _ => exact p.elim
  | _ => exact p.elim

/-! ### items, slices, stores -/
/-- the items of a tuple, a frozen list, a list of the store -/
def itemsD (d : D) (st : Sto) : Option (List D) := match d with
  | .tup xs => some xs
  | .frl xs => some xs
  | .ref k => match st[k]? with
    | some (.lst xs) => some xs
    | _ => none
  | _ => none
@[simp] theorem itemsD_tup (xs : List D) (st : Sto) : itemsD (.tup xs) st = some xs := rfl
@[simp] theorem itemsD_frl (xs : List D) (st : Sto) : itemsD (.frl xs) st = some xs := rfl
theorem itemsD_ref {k : Nat} {st : Sto} {xs : List D} (h : st[k]? = some (.lst xs)) : itemsD (.ref k) st = some xs := by simp [itemsD, h]
theorem itemsD_ok {K : KW} {H : Hp} {ρ : List Addr} {st : Sto} (s : SR K H ρ st) {d : D} {v : V} {xs : List D} (h : VR K H ρ d v) (e : itemsD d st = some xs) : ∃ a vs, v = .ref a ∧ (SqL K H a vs ∨ SqT K H a vs) ∧ VRs K H ρ xs vs := by
  cases d with
  | tup ys => cases e; obtain ⟨a, vs, e1, e2, e3⟩ := h; exact ⟨a, vs, e1, .inr e2, e3⟩
  | frl ys => cases e; obtain ⟨a, vs, e1, e2, e3⟩ := h; exact ⟨a, vs, e1, .inl e2.sq, e3⟩
  | ref k =>
    simp only [itemsD] at e
    split at e
    · rename_i ys hy
      cases e
      obtain ⟨a, ha, e1⟩ := h
      obtain ⟨vs, k1, r⟩ := s.ob k a _ ha hy
      exact ⟨a, vs, e1, .inl (SqL.of k1), r⟩
    · cases e
  | _ => cases e
def opIx (a b : D) (st : Sto) : R D := match itemsD a st, b with
  | some xs, .int i => match atI xs i with
    | some d => .ok d st
    | none => .stuck
  | _, _ => .stuck
theorem VRs.atI {K : KW} {H : Hp} {ρ : List Addr} {ds : List D} {vs : List V} (r : VRs K H ρ ds vs) {i : Int} {d : D} (h : L2.atI ds i = some d) : ∃ v, L2.atI vs i = some v ∧ VR K H ρ d v := by
  unfold L2.atI at h ⊢
  rw [← r.length]
  cases q : ixN ds.length i with
  | none => rw [q] at h; cases h
  | some j =>
    rw [q] at h
    exact r.get h
theorem ix_D : IxR X (rD X.kw E opIx) := fun value slice pins s σ H x y v u Q I r1 r2 ⟨ρ, st, dx, dy, sr, hx, hy, p⟩ hsub => by
  unfold opIx at p
  split at p
  · rename_i xs i hi
    split at p
    · rename_i d hd
      obtain ⟨a, vs, ev, hq, r⟩ := itemsD_ok sr hx hi
      obtain ⟨w, hw, rw'⟩ := r.atI hd
      have hy : y = .int i := hy
      rcases hq with hq | hq
      · exact ix_list value slice pins s σ H x y v u Q I r1 r2 ⟨a, vs, i, w, ev, hy, hq, hw, p.here sr _ rw'⟩ hsub
      · exact ix_tup value slice pins s σ H x y v u Q I r1 r2 ⟨a, vs, i, w, ev, hy, hq, hw, p.here sr _ rw'⟩ hsub
    · exact p.elim
  · exact p.elim
def cutD (xs : List D) (lo hi : Option Int) : List D := (xs.drop (HT.sIx xs.length 0 lo)).take (HT.sIx xs.length xs.length hi - HT.sIx xs.length 0 lo)
theorem VRs.cutV {K : KW} {H : Hp} {ρ : List Addr} {ds : List D} {vs : List V} (r : VRs K H ρ ds vs) (lo hi : Option Int) : VRs K H ρ (cutD ds lo hi) (L2.cutV vs lo hi) := by
  unfold cutD L2.cutV
  rw [r.length]
  exact (r.drop _).take _
def opSl (d : D) (lo hi : Option Int) (st : Sto) : R D := match d with
  | .tup xs => .ok (.tup (cutD xs lo hi)) st
  | .ref k => match st[k]? with
    | some (.lst xs) => .ok (.ref st.length) (st ++ [.lst (cutD xs lo hi)])
    | _ => .stuck
  | _ => .stuck
@[simp] theorem opSl_tup (xs : List D) (lo hi : Option Int) (st : Sto) : opSl (.tup xs) lo hi st = .ok (.tup (cutD xs lo hi)) st := rfl
def rS (K : KW) (E : XK) (f : D → Option Int → Option Int → Sto → R D) : V → Option Int → Option Int → Hp → VK → Prop := fun x lo hi H Q => ∃ ρ st d, SR K H ρ st ∧ VR K H ρ d x ∧ Post K E H ρ (f d lo hi st) fun d _ H' ρ' => ∀ v, VR K H' ρ' d v → Q v H'
@[simp] def mSl (f : D → Option Int → Option Int → Sto → R D) (m : Mo D) (lo hi : Mo (Option Int)) : Mo D := fun env st => (m env st).bind fun d st1 => (lo env st1).bind fun l st2 => (hi env st2).bind fun h st3 => f d l h st3
@[simp] def mNoPart : Mo (Option Int) := fun _ st => .ok none st
@[simp] def mPart (m : Mo D) : Mo (Option Int) := fun env st => (m env st).bind fun d st1 => match d with
  | .int i => .ok (some i) st1
  | _ => .stuck
theorem do_none : DO X E none mNoPart := po_none.imp fun _ _ _ ⟨ρ, env, st, er, sr, p⟩ => p.here sr
theorem do_some {e : Expr} {m : Mo D} (h : DE X E e m) : DO X E (some e) (mPart m) := (po_some h).imp fun _ _ _ ⟨ρ, env, st, er, sr, p⟩ => ⟨ρ, env, st, er, sr, p.bind.mono fun d st1 H1 ρ1 g1 s1 p1 v hv => by
  cases d with
  | int i => exact ⟨i, hv, p1.here s1⟩
  | _ => exact p1.elim⟩
theorem de_slice {e : Expr} {lo hi : Option Expr} {f : D → Option Int → Option Int → Sto → R D} {m : Mo D} {ml mh : Mo (Option Int)} {p2 pos : Pos} (hr : SlR X (rS X.kw E f)) (he : DE X E e m) (hl : DO X E lo ml) (hh : DO X E hi mh) : DE X E (.Subscript e (.Slice lo hi none p2) pos) (mSl f m ml mh) :=
  (pe_slice hr he hl hh).imp fun _ _ _ ⟨ρ, env, st, er, sr, p⟩ => ⟨ρ, env, st, er, sr, p.bind.mono fun d st1 H1 ρ1 g1 s1 p1 v hv => ⟨ρ1, env, st1, er.grow g1 sr, s1, p1.bind.mono fun l st2 H2 ρ2 g2 s2 p2 =>
    ⟨ρ2, env, st2, (er.grow g1 sr).grow g2 s1, s2, p2.bind.mono fun h st3 H3 ρ3 g3 s3 p3 => ⟨ρ3, st3, d, s3, (hv.grow g2 s1).grow g3 s2, p3⟩⟩⟩⟩
theorem sl_D : SlR X (rS X.kw E opSl) := fun pins s σ H x v vl vu lo hi sl Q I rx hs pl pu ⟨ρ, st, d, sr, hv, p⟩ => by
  cases d with
  | tup xs =>
    obtain ⟨a, vs, ev, hq, r⟩ := hv
    have rc := r.cutV lo hi
    refine sl_tupA pins s σ H x v vl vu lo hi sl Q I rx hs pl pu ⟨a, vs, ev, hq, fun hw => p.here sr _ ⟨a, vs, rfl, hq, ?_⟩, fun _ q hq' => ?_⟩
    · have e : cutV vs lo hi = vs := by unfold cutV; rw [hw.1, hw.2]; simp
      rw [e] at rc
      exact rc
    · obtain ⟨g, s', r'⟩ := sr.tup hq' rc
      exact p _ _ g s' _ r'
  | ref k =>
    simp only [opSl] at p
    split at p
    · rename_i xs hx
      obtain ⟨a, ha, ev⟩ := hv
      obtain ⟨vs, k1, r⟩ := sr.ob k a _ ha hx
      refine sl_list pins s σ H x v vl vu lo hi sl Q I rx hs pl pu ⟨a, vs, ev, SqL.of k1, fun q hq' => ?_⟩
      obtain ⟨g, s', r'⟩ := sr.newL hq' (r.cutV lo hi)
      exact p _ _ g s' _ r'
    · exact p.elim
  | _ => exact p.elim
/-- o[i] = v -/
def setIx (o i v : D) (st : Sto) : R Unit := match o, i with
  | .ref k, .int j => match st[k]? with
    | some (.lst xs) => match ixN xs.length j with
      | some n => .ok () (st.set k (.lst (xs.set n v)))
      | none => .stuck
    | _ => .stuck
  | _, _ => .stuck
/-- o[i] = e: the value first -/
@[simp] def sSub (mo mi mv : Mo D) : MS := fun env st => (mv env st).bind fun v st1 => (mo env st1).bind fun o st2 => (mi env st2).bind fun i st3 => (setIx o i v st3).bind fun _ st4 => .ok (.nx env) st4
theorem ds_sub {o i e : Expr} {mo mi mv : Mo D} {p2 pos : Pos} (hv : DE X E e mv) (ho : DE X E o mo) (hi : DE X E i mi) (hs : swapsWithSole [.Subscript o i p2] e pos.line X.env = pure false := by rfl) (hw : swappedStores [.Subscript o i p2] e X.env = pure none := by rfl) (h1 : (assignEach [.Subscript o i p2] X.env).map (·.2) = [assign (.Subscript o i p2) X.env] := by rfl)
    (ha : ∀ v, assign (.Subscript o i p2) X.env v = (do
      let ov ← holding [v] (eval o X.env)
      let iv ← holding [v, ov] (eval i X.env)
      standAt p2
      holding [v, ov, iv] (setItem ov iv v)
      release [v, ov, iv] []) := by intro _; rfl) : DS X E (.Assign [.Subscript o i p2] e pos) (sSub mo mi mv) :=
  (ps_asg hv (pg_sub ho hi set_list ha) hs hw h1).imp fun De _ _ ⟨ρ, env, st, er, sr, p⟩ => ⟨ρ, env, st, er, sr, p.bind.mono fun dv st1 H1 ρ1 g1 s1 p1 v hv =>
    ⟨ρ1, env, st1, er.grow g1 sr, s1, p1.bind.mono fun d_o st2 H2 ρ2 g2 s2 p2 vo hvo => ⟨ρ2, env, st2, (er.grow g1 sr).grow g2 s1, s2, p2.bind.mono fun di st3 H3 ρ3 g3 s3 p3 vi hvi => by
      unfold setIx at p3
      split at p3
      · rename_i k j
        split at p3
        · rename_i xs hx
          split at p3
          · rename_i n hn
            obtain ⟨a, ha, ev⟩ := hvo.grow g3 s2
            obtain ⟨vs, k1, r⟩ := s3.ob k a _ ha hx
            have hvi : vi = .int j := hvi
            refine ⟨a, vs, j, n, ev, hvi, k1, by rw [← r.length]; exact hn, ?_⟩
            have hv3 := (hv.grow g2 s1).grow g3 s2
            have hm : a ∈ ρ3 := List.mem_of_getElem? ha
            obtain ⟨g4, s4⟩ := s3.write (o := .lst (vs.set n v)) (ob := .lst (xs.set n dv)) ha ⟨_, upd_same, VRs.grow (Grow.write hm) s3 (r.set n hv3)⟩ ⟨_, upd_same, (fun _ z => nomatch z), (fun _ _ z => nomatch z)⟩
            have p4 := p3 _ _ g4 s4
            exact p4 _ (((er.grow g1 sr).grow g2 s1 |>.grow g3 s2).grow g4 s3)
          · exact p3.elim
        · exact p3.elim
      · exact p3.elim⟩⟩⟩
end
end L3
namespace L3
open PySem PySem.Spec PyProof.Rows L2

/-! ### isinstance -/
/-- the built-in type of a value -/
def tyD (d : D) (st : Sto) : Option String := match d with
  | .non => some "NoneType"
  | .bl _ => some "bool"
  | .int _ => some "int"
  | .str _ => some "str"
  | .tup _ => some "tuple"
  | .frl _ => some "list"
  | .ref k => match st[k]? with
    | some (.lst _) => some "list"
    | some (.dic _) => some "dict"
    | _ => none
  | _ => none
def tyNames : List String := ["NoneType", "bool", "int", "str", "tuple", "list", "dict"]
def isiB (a b : String) : Option Bool := if tyNames.contains a && tyNames.contains b then some (decide (a = b) || (decide (a = "bool") && decide (b = "int"))) else none
theorem isiB_all : (tyNames.all fun a => tyNames.all fun b => kitB a b == isiB a b) = true := by decide +kernel
theorem isiB_kit {a b : String} {r : Bool} (h : isiB a b = some r) : kitB a b = some r := by
  have h0 := h
  unfold isiB at h
  split at h
  · rename_i c
    rw [Bool.and_eq_true, List.contains_iff_mem, List.contains_iff_mem] at c
    have := List.all_eq_true.mp (List.all_eq_true.mp isiB_all a c.1) b c.2
    rw [beq_iff_eq] at this
    rw [this]; exact h0
  · cases h
theorem tyD_ok {K : KW} {H : Hp} {ρ : List Addr} {st : Sto} (s : SR K H ρ st) {d : D} {v : V} {T : String} (h : VR K H ρ d v) (e : tyD d st = some T) : TyX K H v (.type T) := by
  cases d with
  | non => cases e; cases (show v = .non from h); exact .base .non
  | bl b => cases e; cases (show v = .bl b from h); exact .base (.bl b)
  | int i => cases e; cases (show v = .int i from h); exact .base (.int i)
  | str x => cases e; cases (show v = .str x from h); exact .base (.str x)
  | tup xs =>
    cases e
    obtain ⟨a, vs, rfl, q, _⟩ := h
    rcases q with (q | ⟨o, q⟩) | ⟨o, its, n, q, c, _⟩
    · exact .base (.tup q)
    · exact .fTuple q
    · exact .kTuple q c
  | frl xs =>
    cases e
    obtain ⟨a, vs, rfl, q, _⟩ := h
    rcases q with ⟨o, q⟩ | ⟨o, its, n, q, c, _⟩
    · exact .base (.frz q)
    · exact .kList q c
  | ref k =>
    simp only [tyD] at e
    obtain ⟨a, ha, rfl⟩ := h
    split at e
    · rename_i xs hx
      cases e
      obtain ⟨vs, q, _⟩ := s.ob k a _ ha hx
      exact .base (.lst q)
    · rename_i xs hx
      cases e
      obtain ⟨vs, q, _⟩ := s.ob k a _ ha hx
      exact .base (.dK q)
    · cases e
  | ty n => cases e
  | glo a => cases e
def cIsi (ds : List D) (st : Sto) : R D := match ds with
  | [d, .ty T] => match tyD d st with
    | some S => match isiB S T with
      | some b => .ok (.bl b) st
      | none => .stuck
    | none => .stuck
  | _ => .stuck
section
variable {X : Cx} {E : XK}
theorem c_isi : CallR X (.builtin "isinstance") (rC X.kw E cIsi) := fun pins s σ H xs us Q I r ⟨ρ, st, ds, sr, hv, p⟩ => by
  unfold cIsi at p
  split at p
  · rename_i d T
    split at p
    · rename_i S hS
      split at p
      · rename_i b hb
        obtain ⟨v, r1, e1, h1, v2, r2, e2, h2, e3⟩ := hv
        have e3 : r2 = [] := e3
        have h2 : v2 = .ty T := h2
        subst e1 e2 e3 h2
        exact call_isi pins s σ H _ us Q I r ⟨v, .ty T, .type S, .type T, b, rfl, .ty T, tyD_ok sr h1 hS, kit_ty (isiB_kit hb), p.here sr _ rfl⟩
      · exact p.elim
    · exact p.elim
  · exact p.elim

/-! ### len, all, any, tuple, list, int, abs, max, min -/
def cLen (ds : List D) (st : Sto) : R D := match ds with
  | [.str x] => if szOk x.length then .ok (.int x.length) st else .stuck
  | [d] => match itemsD d st with
    | some xs => .ok (.int xs.length) st
    | none => .stuck
  | _ => .stuck
theorem c_len : CallR X (.builtin "len") (rC X.kw E cLen) := fun pins s σ H xs us Q I r ⟨ρ, st, ds, sr, hv, p⟩ => by
  unfold cLen at p
  split at p
  · rename_i x
    split at p
    · rename_i hz
      obtain ⟨v, r1, e1, h1, e2⟩ := hv
      have e2 : r1 = [] := e2
      have h1 : v = .str x := h1
      subst e1 e2 h1
      exact call_len_str pins s σ H _ us Q I r ⟨x, rfl, szOk_le hz, p.here sr _ rfl⟩
    · exact p.elim
  · rename_i d _
    split at p
    · rename_i xs hx
      obtain ⟨v, r1, e1, h1, e2⟩ := hv
      have e2 : r1 = [] := e2
      subst e1 e2
      obtain ⟨a, vs, ev, hq, rr⟩ := itemsD_ok sr h1 hx
      subst ev
      exact call_len_seq pins s σ H _ us Q I r ⟨a, vs, rfl, hq, p.here sr _ (by rw [rr.length]; rfl)⟩
    · exact p.elim
  · exact p.elim
def blsOf : List D → Option (List Bool)
  | [] => some []
  | .bl b :: r => (blsOf r).map (b :: ·)
  | _ => none
theorem blsOf_ok {K : KW} {H : Hp} {ρ : List Addr} : ∀ {ds : List D} {vs : List V} {bs : List Bool}, VRs K H ρ ds vs → blsOf ds = some bs → vs = bs.map V.bl
  | [], vs, bs, h, e => by
    cases e
    exact h
  | .bl b :: r, vs, bs, ⟨v, r1, e1, h1, hr⟩, e => by
    simp only [blsOf, Option.map_eq_some_iff] at e
    obtain ⟨bs', e, rfl⟩ := e
    have h1 : v = .bl b := h1
    subst e1 h1
    rw [blsOf_ok hr e]
    rfl
  | .non :: _, _, _, _, e | .int _ :: _, _, _, _, e | .str _ :: _, _, _, _, e | .tup _ :: _, _, _, _, e | .frl _ :: _, _, _, _, e | .ref _ :: _, _, _, _, e | .ty _ :: _, _, _, _, e | .glo _ :: _, _, _, _, e => by simp [blsOf] at e
def cAll (g : List Bool → Bool) (ds : List D) (st : Sto) : R D := match ds with
  | [.ref k] => match st[k]? with
    | some (.lst xs) => match blsOf xs with
      | some bs => .ok (.bl (g bs)) st
      | none => .stuck
    | _ => .stuck
  | _ => .stuck
theorem cAll_in {K : KW} {g : List Bool → Bool} {xs : List V} {H : Hp} {Q : VK} (h : rC K E (cAll g) xs H Q) : ∃ (a : Addr) (bs : List Bool), xs = [V.ref a] ∧ SqL K H a (bs.map V.bl) ∧ Q (.bl (g bs)) H := by
  obtain ⟨ρ, st, ds, sr, hv, p⟩ := h
  unfold cAll at p
  split at p
  · rename_i k
    split at p
    · rename_i ys hy
      split at p
      · rename_i bs hb
        obtain ⟨v, r1, e1, ⟨a, ha, h1⟩, e2⟩ := hv
        have e2 : r1 = [] := e2
        subst e1 e2 h1
        obtain ⟨vs, q, rr⟩ := sr.ob k a _ ha hy
        rw [blsOf_ok rr hb] at q
        exact ⟨a, bs, rfl, SqL.of q, p.here sr _ rfl⟩
      · exact p.elim
    · exact p.elim
  · exact p.elim
theorem c_all (hc : X.calm = true) : CallR X (.builtin "all") (rC X.kw E (cAll fun bs => bs.all id)) := fun pins s σ H xs us Q I r h => cr_all hc pins s σ H xs us Q I r (cAll_in h)
theorem c_any (hc : X.calm = true) : CallR X (.builtin "any") (rC X.kw E (cAll fun bs => bs.any id)) := fun pins s σ H xs us Q I r h => cr_any hc pins s σ H xs us Q I r (cAll_in h)
def cTuple (ds : List D) (st : Sto) : R D := match ds with
  | [d] => match itemsD d st with
    | some xs => .ok (.tup xs) st
    | none => .stuck
  | _ => .stuck
theorem c_tuple : CallR X (.type "tuple") (rC X.kw E cTuple) := fun pins s σ H xs us Q I r ⟨ρ, st, ds, sr, hv, p⟩ => by
  unfold cTuple at p
  split at p
  · rename_i d
    split at p
    · rename_i ys hy
      obtain ⟨v, r1, e1, h1, e2⟩ := hv
      have e2 : r1 = [] := e2
      subst e1 e2
      obtain ⟨a, vs, ev, hq, rr⟩ := itemsD_ok sr h1 hy
      subst ev
      refine call_tuple_of pins s σ H _ us Q I r ⟨a, vs, rfl, ?_⟩
      rcases hq with hq | hq
      · refine .inl ⟨hq, fun l hl => ?_⟩
        obtain ⟨g, s', r'⟩ := sr.tup hl rr
        exact p _ _ g s' _ r'
      · exact .inr ⟨hq, p.here sr _ ⟨a, vs, rfl, hq, rr⟩⟩
    · exact p.elim
  · exact p.elim
def cList (ds : List D) (st : Sto) : R D := match ds with
  | [d] => match itemsD d st with
    | some xs => .ok (.ref st.length) (st ++ [.lst xs])
    | none => .stuck
  | _ => .stuck
theorem c_list : CallR X (.type "list") (rC X.kw E cList) := fun pins s σ H xs us Q I r ⟨ρ, st, ds, sr, hv, p⟩ => by
  unfold cList at p
  split at p
  · rename_i d
    split at p
    · rename_i ys hy
      obtain ⟨v, r1, e1, h1, e2⟩ := hv
      have e2 : r1 = [] := e2
      subst e1 e2
      obtain ⟨a, vs, ev, hq, rr⟩ := itemsD_ok sr h1 hy
      subst ev
      refine call_list_of pins s σ H _ us Q I r ⟨a, vs, rfl, hq, fun l hl => ?_⟩
      obtain ⟨g, s', r'⟩ := sr.newL hl rr
      exact p _ _ g s' _ r'
    · exact p.elim
  · exact p.elim
def cInt (ds : List D) (st : Sto) : R D := match ds with
  | [.int i] => .ok (.int i) st
  | [.bl b] => .ok (.int (if b then 1 else 0)) st
  | _ => .stuck
theorem c_int : CallR X (.type "int") (rC X.kw E cInt) := fun pins s σ H xs us Q I r ⟨ρ, st, ds, sr, hv, p⟩ => by
  unfold cInt at p
  split at p
  · rename_i i
    obtain ⟨v, r1, e1, h1, e2⟩ := hv
    have e2 : r1 = [] := e2
    have h1 : v = .int i := h1
    subst e1 e2 h1
    exact call_int1 pins s σ H _ us Q I r (.inl ⟨i, rfl, p.here sr _ rfl⟩)
  · rename_i b
    obtain ⟨v, r1, e1, h1, e2⟩ := hv
    have e2 : r1 = [] := e2
    have h1 : v = .bl b := h1
    subst e1 e2 h1
    exact call_int1 pins s σ H _ us Q I r (.inr ⟨b, rfl, p.here sr _ rfl⟩)
  · exact p.elim
def cAbs (ds : List D) (st : Sto) : R D := match ds with
  | [.int i] => .ok (.int (if i < 0 then -i else i)) st
  | _ => .stuck
theorem c_abs : CallR X (.builtin "abs") (rC X.kw E cAbs) := fun pins s σ H xs us Q I r ⟨ρ, st, ds, sr, hv, p⟩ => by
  unfold cAbs at p
  split at p
  · rename_i i
    obtain ⟨v, r1, e1, h1, e2⟩ := hv
    have e2 : r1 = [] := e2
    have h1 : v = .int i := h1
    subst e1 e2 h1
    exact call_abs pins s σ H _ us Q I r ⟨i, rfl, p.here sr _ rfl⟩
  · exact p.elim
def cMax (ds : List D) (st : Sto) : R D := match ds with
  | [.int i, .int j] => .ok (.int (if j > i then j else i)) st
  | _ => .stuck
def cMin (ds : List D) (st : Sto) : R D := match ds with
  | [.int i, .int j] => .ok (.int (if j < i then j else i)) st
  | _ => .stuck
theorem c_max (hc : X.calm = true) : CallR X (.builtin "max") (rC X.kw E cMax) := fun pins s σ H xs us Q I r ⟨ρ, st, ds, sr, hv, p⟩ => by
  unfold cMax at p
  split at p
  · rename_i i j
    obtain ⟨v, r1, e1, h1, v2, r2, e2, h2, e3⟩ := hv
    have e3 : r2 = [] := e3
    have h1 : v = .int i := h1
    have h2 : v2 = .int j := h2
    subst e1 e2 e3 h1 h2
    exact call_max2 hc pins s σ H _ us Q I r ⟨i, j, rfl, p.here sr _ rfl⟩
  · exact p.elim
theorem c_min (hc : X.calm = true) : CallR X (.builtin "min") (rC X.kw E cMin) := fun pins s σ H xs us Q I r ⟨ρ, st, ds, sr, hv, p⟩ => by
  unfold cMin at p
  split at p
  · rename_i i j
    obtain ⟨v, r1, e1, h1, v2, r2, e2, h2, e3⟩ := hv
    have e3 : r2 = [] := e3
    have h1 : v = .int i := h1
    have h2 : v2 = .int j := h2
    subst e1 e2 e3 h1 h2
    exact call_min2 hc pins s σ H _ us Q I r ⟨i, j, rfl, p.here sr _ rfl⟩
  · exact p.elim

/-! ### repr of data in a tuple -/
def cRepr (ds : List D) (st : Sto) : R D := match ds with
  | [.tup xs] => match toPy (.tup xs) with
    | some p => if p.showable && decide (p.depth ≤ 60) && szOk p.shown.length then .ok (.str p.shown) st else .stuck
    | none => .stuck
  | _ => .stuck
mutual
theorem noDict : ∀ {d : D} {p : PyData}, toPy d = some p → p.hasDict = false
  | .non, p, e | .bl _, p, e | .int _, p, e | .str _, p, e => by
    simp only [toPy, Option.some.injEq] at e
    subst e
    rfl
  | .tup xs, p, e => by
    rw [toPy] at e
    split at e
    · rename_i ps hps
      cases e
      have := noDicts hps
      simpa [PyData.hasDict] using this
    · cases e
  | .frl _, _, e | .ref _, _, e | .ty _, _, e | .glo _, _, e => by simp [toPy] at e
theorem noDicts : ∀ {ds : List D} {ps : List PyData}, toPys ds = some ps → PyData.hasDictAll ps = false
  | [], ps, e => by
    simp only [toPys, Option.some.injEq] at e
    subst e
    rfl
  | d :: ds, ps, e => by
    rw [toPys] at e
    split at e
    · rename_i q qs h1 h2
      cases e
      rw [PyData.hasDictAll, noDict h1, noDicts h2]
      rfl
    · cases e
end
theorem c_repr (hu : X.A.units + 64 < cLine) (hg : X.A.guards = some []) : CallR X (.builtin "repr") (rC X.kw E cRepr) := fun pins s σ H xs us Q I r ⟨ρ, st, ds, sr, hv, p⟩ => by
  unfold cRepr at p
  split at p
  · rename_i ys
    split at p
    · rename_i q hq
      split at p
      · rename_i hz
        rw [Bool.and_eq_true, Bool.and_eq_true, decide_eq_true_eq] at hz
        obtain ⟨v, r1, e1, h1, e2⟩ := hv
        have e2 : r1 = [] := e2
        subst e1 e2
        obtain ⟨u, rfl, ru⟩ := r.one
        obtain ⟨as, ra⟩ := reads I h1 ru hq
        obtain ⟨a, vs, rfl, _⟩ := h1
        cases (show u = Value.ref a from ru)
        exact repr_of_reads' ra hz.1.1 (fun z => by rw [noDict hq] at z; cases z) hg (by omega) (fun _ _ h => h) (fun h' u tk k => ⟨.str q.shown, H, I.kept k, ⟨_, rfl⟩, p.here sr _ rfl⟩) (szOk_le hz.2)
      · exact p.elim
    · exact p.elim
  · exact p.elim

/-! ### append, extend -/
def isLst (d : D) (st : Sto) : Bool := match d with
  | .ref k => match st[k]? with
    | some (.lst _) => true
    | _ => false
  | _ => false
theorem isLst_ty {K : KW} {H : Hp} {ρ : List Addr} {st : Sto} {d : D} {v : V} (s : SR K H ρ st) (h : VR K H ρ d v) (e : isLst d st = true) : tyV K "list" v H := by
  cases d with
  | ref k =>
    simp only [isLst] at e
    obtain ⟨a, ha, rfl⟩ := h
    split at e
    · rename_i xs hx
      obtain ⟨vs, q, _⟩ := s.ob k a _ ha hx
      exact .inl ⟨rfl, vs, SqL.of q⟩
    · cases e
  | _ => cases e
def fAppend (d : D) (ds : List D) (st : Sto) : R D := match d, ds with
  | .ref k, [x] => match st[k]? with
    | some (.lst xs) => if szOk (xs.length + 1) then .ok .non (st.set k (.lst (xs ++ [x]))) else .stuck
    | _ => .stuck
  | _, _ => .stuck
def fExtend (d : D) (ds : List D) (st : Sto) : R D := match d, ds with
  | .ref k, [.ref j] => match st[k]?, st[j]? with
    | some (.lst xs), some (.lst ys) => if szOk (xs.length + ys.length) then .ok .non (st.set k (.lst (xs ++ ys))) else .stuck
    | _, _ => .stuck
  | _, _ => .stuck
theorem szOk_lt {n : Nat} (h : szOk (n + 1) = true) : n < sizeLine := Nat.lt_of_succ_le (szOk_le h)
/-- a list of the store gets other items -/
theorem SR.wrL {K : KW} {H : Hp} {ρ : List Addr} {st : Sto} (s : SR K H ρ st) {k : Nat} {a : Addr} {ds : List D} {vs : List V} (hk : ρ[k]? = some a) (r : VRs K H ρ ds vs) : Grow H ρ (upd H a (.lst vs)) ρ ∧ SR K (upd H a (.lst vs)) ρ (st.set k (.lst ds)) :=
  s.write (o := .lst vs) (ob := .lst ds) hk ⟨_, upd_same, VRs.grow (Grow.write (List.mem_of_getElem? hk)) s r⟩ ⟨_, upd_same, (fun _ z => nomatch z), (fun _ _ z => nomatch z)⟩
theorem m_append : MtR X "list.append" (rM X.kw E fAppend) := fun pins s σ H x vs v us Q I rx rv ⟨ρ, st, d, ds, sr, hx, hv, p⟩ => by
  unfold fAppend at p
  split at p
  · rename_i k y
    split at p
    · rename_i xs hk
      split at p
      · rename_i hz
        obtain ⟨a, ha, rfl⟩ := hx
        obtain ⟨w, r1, e1, h1, e2⟩ := hv
        have e2 : r1 = [] := e2
        subst e1 e2
        obtain ⟨ws, q, rr⟩ := sr.ob k a _ ha hk
        refine mt_append pins s σ H _ _ v us Q I rx rv ⟨a, ws, w, rfl, rfl, q, by rw [← rr.length]; exact szOk_lt hz, ?_⟩
        obtain ⟨g, s'⟩ := sr.wrL ha (rr.append (show VRs X.kw H ρ [y] [w] from ⟨w, [], rfl, h1, rfl⟩))
        exact p _ _ g s' _ rfl
      · exact p.elim
    · exact p.elim
  · exact p.elim
theorem m_extend : MtR X "list.extend" (rM X.kw E fExtend) := fun pins s σ H x vs v us Q I rx rv ⟨ρ, st, d, ds, sr, hx, hv, p⟩ => by
  unfold fExtend at p
  split at p
  · rename_i k j
    split at p
    · rename_i xs ys hk hj
      split at p
      · rename_i hz
        obtain ⟨a, ha, rfl⟩ := hx
        obtain ⟨w, r1, e1, ⟨b, hb, h1⟩, e2⟩ := hv
        have e2 : r1 = [] := e2
        subst e1 e2 h1
        obtain ⟨ws, q, rr⟩ := sr.ob k a _ ha hk
        obtain ⟨ws2, q2, rr2⟩ := sr.ob j b _ hb hj
        refine mt_extend pins s σ H _ _ v us Q I rx rv ⟨a, b, ws, ws2, rfl, rfl, q, q2, by rw [← rr.length, ← rr2.length]; exact szOk_le hz, ?_⟩
        obtain ⟨g, s'⟩ := sr.wrL ha (rr.append rr2)
        exact p _ _ g s' _ rfl
      · exact p.elim
    · exact p.elim
  · exact p.elim
theorem de_append {o e : Expr} {mo me : Mo D} {apos cpos : Pos} (ho : DE X E o mo) (he : DE X E e me)
    (hbase : attributeBase o "append" X.env (eval o X.env) = eval o X.env := by rfl)
    (hfew : ((backTo cpos (starEach [e] X.env)).all (fun x => !x.1) && (backToKw cpos (keywordEach [] X.env)).all (fun x => x.1.isSome)
      && decide (([e] : List Expr).length + ([] : List Keyword).length + (if ([] : List Keyword).isEmpty then 0 else 1) < 30)) = true := by rfl)
    (hline : (apos.endLine == cpos.line) = true := by rfl) (hs : starEach [e] X.env = (false, eval e X.env) :: starEach [] X.env := by rfl) (hplain : (backTo cpos (starEach [] X.env)).any (·.1) = false := by rfl) :
    DE X E (.Call (.Attribute o "append" apos) [e] [] cpos) (mM isLst fAppend mo (mCons me mNil)) :=
  de_bm PySem.F.plainAttrs_list PySem.F.slot_list_append PySem.F.type_list_append m_append (fun _ _ _ _ _ s h e => isLst_ty s h e) ho (da_cons he da_nil hs) hbase hfew hline hs hplain
theorem de_extend {o e : Expr} {mo me : Mo D} {apos cpos : Pos} (ho : DE X E o mo) (he : DE X E e me)
    (hbase : attributeBase o "extend" X.env (eval o X.env) = eval o X.env := by rfl)
    (hfew : ((backTo cpos (starEach [e] X.env)).all (fun x => !x.1) && (backToKw cpos (keywordEach [] X.env)).all (fun x => x.1.isSome)
      && decide (([e] : List Expr).length + ([] : List Keyword).length + (if ([] : List Keyword).isEmpty then 0 else 1) < 30)) = true := by rfl)
    (hline : (apos.endLine == cpos.line) = true := by rfl) (hs : starEach [e] X.env = (false, eval e X.env) :: starEach [] X.env := by rfl) (hplain : (backTo cpos (starEach [] X.env)).any (·.1) = false := by rfl) :
    DE X E (.Call (.Attribute o "extend" apos) [e] [] cpos) (mM isLst fExtend mo (mCons me mNil)) :=
  de_bm PySem.F.plainAttrs_list PySem.F.slot_list_extend PySem.F.type_list_extend m_extend (fun _ _ _ _ _ s h e => isLst_ty s h e) ho (da_cons he da_nil hs) hbase hfew hline hs hplain
end
end L3
namespace L3
open PySem PySem.Spec PyProof.Rows L2

/-! ### dicts with int and text keys -/
def valD (kvs : List (D × D)) (k : D) : Option D := match kvs with
  | [] => none
  | p :: r => if p.1 = k then some p.2 else valD r k
def putD (kvs : List (D × D)) (k d : D) : List (D × D) := match kvs with
  | [] => [(k, d)]
  | p :: r => if p.1 = k then (p.1, d) :: r else p :: putD r k d
@[simp] theorem valD_nil (k : D) : valD [] k = none := rfl
theorem keyD_inj {a b : D} {k : Key} (h : keyD a = some k) (h' : keyD b = some k) : a = b := by
  cases a <;> simp [keyD] at h <;> cases b <;> simp [keyD] at h' <;> subst h <;> first | (cases h'; rfl) | (simp at h')
theorem keyD_v {K : KW} {H : Hp} {ρ : List Addr} {d : D} {v : V} {k : Key} (h : VR K H ρ d v) (e : keyD d = some k) : v = kV k := by
  cases d <;> simp [keyD] at e <;> subst e <;> exact h
section
variable {K : KW} {H : Hp} {ρ : List Addr}
theorem KVR.len : ∀ {kvs : List (D × D)} {es : List (Key × V)}, KVR K H ρ kvs es → kvs.length = es.length
  | _, _, .nil => rfl
  | _, _, .cons _ _ r => by rw [List.length_cons, List.length_cons, r.len]
theorem KVR.val : ∀ {kvs : List (D × D)} {es : List (Key × V)} {d : D} {k : Key}, KVR K H ρ kvs es → keyD d = some k →
    (valD kvs d = none ∧ valV es k = none) ∨ ∃ x v, valD kvs d = some x ∧ valV es k = some v ∧ VR K H ρ x v
  | _, _, _, _, .nil, _ => .inl ⟨rfl, rfl⟩
  | (k0, d0) :: r, (k1, v1) :: r', d, k, .cons hk h hr, e => by
    by_cases c : k0 = d
    · have c2 : k1 = k := by subst c; rw [hk] at e; exact Option.some.inj e
      exact .inr ⟨d0, v1, by rw [valD, if_pos c], by rw [valV_pos (p := (k1, v1)) c2], h⟩
    · have c2 : ¬ k1 = k := fun z => c (by subst z; exact keyD_inj hk e)
      rw [valD, if_neg c, valV_neg (p := (k1, v1)) c2]
      exact hr.val e
theorem putK_none {es : List (Key × V)} {k : Key} {v : V} (h : valV es k = none) : putK es k v = es ++ [(k, v)] := by
  unfold putK
  rw [valV_any k es, h]
  rfl
theorem KVR.snoc : ∀ {kvs : List (D × D)} {es : List (Key × V)} {d x : D} {k : Key} {v : V}, KVR K H ρ kvs es → keyD d = some k → VR K H ρ x v → valV es k = none → KVR K H ρ (putD kvs d x) (es ++ [(k, v)])
  | _, _, _, _, _, _, .nil, e, h, _ => .cons e h .nil
  | (k0, d0) :: r, (k1, v1) :: r', d, x, k, v, .cons hk h0 hr, e, h, hn => by
    by_cases c2 : k1 = k
    · rw [valV_pos (p := (k1, v1)) c2] at hn; cases hn
    · rw [valV_neg (p := (k1, v1)) c2] at hn
      have c : ¬ k0 = d := fun z => c2 (by subst z; rw [hk] at e; exact Option.some.inj e)
      rw [putD, if_neg c]
      exact .cons hk h0 (hr.snoc e h hn)
end
@[simp] def mDic0 : Mo D := fun _ st => .ok (.ref st.length) (st ++ [.dic []])
/-- the dict that a value is -/
def dicAt (d : D) (st : Sto) : Option (Nat × List (D × D)) := match d with
  | .ref k => match st[k]? with
    | some (.dic kvs) => some (k, kvs)
    | _ => none
  | _ => none
theorem dicAt_ref {k : Nat} {st : Sto} {kvs : List (D × D)} (h : st[k]? = some (.dic kvs)) : dicAt (.ref k) st = some (k, kvs) := by simp [dicAt, h]
theorem dicAt_ok {K : KW} {H : Hp} {ρ : List Addr} {st : Sto} (s : SR K H ρ st) {d : D} {v : V} {k : Nat} {kvs : List (D × D)} (h : VR K H ρ d v) (e : dicAt d st = some (k, kvs)) :
    ∃ a es, d = .ref k ∧ st[k]? = some (.dic kvs) ∧ ρ[k]? = some a ∧ v = .ref a ∧ H a = some (.dK es) ∧ KVR K H ρ kvs es := by
  cases d with
  | ref j =>
    simp only [dicAt] at e
    split at e
    · rename_i kvs' hj
      cases e
      obtain ⟨a, ha, rfl⟩ := h
      obtain ⟨es, q, r⟩ := s.ob k a _ ha hj
      exact ⟨a, es, rfl, hj, ha, rfl, q, r⟩
    · cases e
  | _ => cases e
@[simp] def mGet2 (md mk mx : Mo D) : Mo D := fun env st => (md env st).bind fun d st1 => if (dicAt d st1).isSome = true then (mk env st1).bind fun k st2 => (mx env st2).bind fun x st3 =>
    match dicAt d st3 with
    | some (_, kvs) => if (keyD k).isSome = true then .ok ((valD kvs k).getD x) st3 else .stuck
    | none => .stuck
  else .stuck
@[simp] def mSetd (md mk mx : Mo D) : Mo D := fun env st => (md env st).bind fun d st1 => if (dicAt d st1).isSome = true then (mk env st1).bind fun k st2 => (mx env st2).bind fun x st3 =>
    match dicAt d st3 with
    | some (n, kvs) => if (keyD k).isSome && szOk (kvs.length + 1) then match valD kvs k with
        | some v => .ok v st3
        | none => .ok x (st3.set n (.dic (putD kvs k x)))
      else .stuck
    | none => .stuck
  else .stuck
section
variable {X : Cx} {E : XK}
theorem SR.newD {K : KW} {H : Hp} {ρ : List Addr} {st : Sto} (s : SR K H ρ st) {p : Addr} (hp : H p = none) : Grow H ρ (upd H p (.dK [])) (ρ ++ [p]) ∧ SR K (upd H p (.dK [])) (ρ ++ [p]) (st ++ [.dic []]) ∧ VR K (upd H p (.dK [])) (ρ ++ [p]) (.ref st.length) (.ref p) := by
  have g : Grow H ρ (upd H p (.dK [])) (ρ ++ [p]) := Grow.new hp (s.fresh hp)
  refine ⟨g, s.new hp ⟨[], upd_same, .nil⟩ ⟨_, upd_same, (fun _ z => nomatch z), (fun _ _ z => nomatch z)⟩, p, ?_, rfl⟩
  rw [← s.len]; simp
theorem de_dic0 {pos : Pos} : DE X E (.Dict [] [] pos) mDic0 := pe_dnewK.imp fun _ _ _ ⟨ρ, env, st, er, sr, p⟩ q hq => by
  obtain ⟨g, s', r'⟩ := sr.newD hq
  exact p _ _ g s' _ r'
theorem de_get2 {o e f : Expr} {md mk mx : Mo D} {apos cpos : Pos} (hu : X.A.units + 1 < cLine) (ho : DE X E o md) (he : DE X E e mk) (hf : DE X E f mx) (m : M2 X o "get" apos e f cpos := by exact ⟨rfl, rfl, rfl, rfl⟩) :
    DE X E (.Call (.Attribute o "get" apos) [e, f] [] cpos) (mGet2 md mk mx) := (pe_dget2 hu ho he hf m).imp fun σ H Q ⟨ρ, env, st, er, sr, p⟩ => ⟨ρ, env, st, er, sr, p.bind.mono fun d st1 H1 ρ1 g1 s1 p1 v hv => by
  split at p1
  · rename_i hd
    obtain ⟨⟨n, kvs⟩, hd⟩ := Option.isSome_iff_exists.mp hd
    obtain ⟨a, es, ed, _, ha, ev, hq, hr⟩ := dicAt_ok s1 hv hd
    refine ⟨a, ev, .inl ⟨es, .inl hq⟩, ρ1, env, st1, er.grow g1 sr, s1, p1.bind.mono fun k st2 H2 ρ2 g2 s2 p2 y hy => ⟨ρ2, env, st2, (er.grow g1 sr).grow g2 s1, s2, p2.bind.mono fun x st3 H3 ρ3 g3 s3 p3 z hz => ?_⟩⟩
    have hv3 := (hv.grow g2 s1).grow g3 s2
    have hy3 := hy.grow g3 s2
    split at p3
    · rename_i n3 kvs3 hd3
      split at p3
      · rename_i hk
        obtain ⟨k', hk⟩ := Option.isSome_iff_exists.mp hk
        obtain ⟨a3, es3, _, _, ha3, ev3, hq3, hr3⟩ := dicAt_ok s3 hv3 hd3
        rw [ev] at ev3
        cases ev3
        refine ⟨valV es3 k', .inl ⟨es3, k', .inl hq3, keyD_v hy3 hk, rfl⟩, ?_⟩
        rcases hr3.val hk with ⟨e1, e2⟩ | ⟨x', v', e1, e2, r⟩
        · rw [e2]; rw [e1] at p3; exact p3.here s3 _ hz
        · rw [e2]; rw [e1] at p3; exact p3.here s3 _ r
      · exact p3.elim
    · exact p3.elim
  · exact p1.elim⟩
theorem de_setd {o e f : Expr} {md mk mx : Mo D} {apos cpos : Pos} (ho : DE X E o md) (he : DE X E e mk) (hf : DE X E f mx) (m : M2 X o "setdefault" apos e f cpos := by exact ⟨rfl, rfl, rfl, rfl⟩) :
    DE X E (.Call (.Attribute o "setdefault" apos) [e, f] [] cpos) (mSetd md mk mx) := (pe_dsetd ho he hf m).imp fun σ H Q ⟨ρ, env, st, er, sr, p⟩ => ⟨ρ, env, st, er, sr, p.bind.mono fun d st1 H1 ρ1 g1 s1 p1 v hv => by
  split at p1
  · rename_i hd
    obtain ⟨⟨n, kvs⟩, hd⟩ := Option.isSome_iff_exists.mp hd
    obtain ⟨a, es, ed, _, ha, ev, hq, hr⟩ := dicAt_ok s1 hv hd
    refine ⟨a, ev, .inl ⟨es, .inl hq⟩, ρ1, env, st1, er.grow g1 sr, s1, p1.bind.mono fun k st2 H2 ρ2 g2 s2 p2 y hy => ⟨ρ2, env, st2, (er.grow g1 sr).grow g2 s1, s2, p2.bind.mono fun x st3 H3 ρ3 g3 s3 p3 z hz => ?_⟩⟩
    have hv3 := (hv.grow g2 s1).grow g3 s2
    have hy3 := hy.grow g3 s2
    split at p3
    · rename_i n3 kvs3 hd3
      split at p3
      · rename_i hk
        rw [Bool.and_eq_true] at hk
        obtain ⟨hk, hsz⟩ := hk
        obtain ⟨k', hk⟩ := Option.isSome_iff_exists.mp hk
        obtain ⟨a3, es3, ed3, hst3, ha3, ev3, hq3, hr3⟩ := dicAt_ok s3 hv3 hd3
        rw [ev] at ev3
        cases ev3
        refine ⟨es3, k', hq3, keyD_v hy3 hk, by rw [← hr3.len]; exact szOk_lt hsz, fun w hw => ?_, fun hw => ?_⟩
        · rcases hr3.val hk with ⟨e1, e2⟩ | ⟨x', v', e1, e2, r⟩
          · rw [e2] at hw; cases hw
          · rw [e2] at hw
            cases hw
            rw [e1] at p3
            exact p3.here s3 _ r
        · rcases hr3.val hk with ⟨e1, e2⟩ | ⟨x', v', e1, e2, r⟩
          · rw [e1] at p3
            rw [putK_none e2]
            have hm : a ∈ ρ3 := List.mem_of_getElem? ha3
            obtain ⟨g4, s4⟩ := s3.write (o := .dK (es3 ++ [(k', z)])) (ob := .dic (putD kvs3 k x)) ha3 ⟨_, upd_same, KVR.grow (Grow.write hm) s3 (hr3.snoc hk hz hw)⟩ ⟨_, upd_same, (fun _ q => nomatch q), (fun _ _ q => nomatch q)⟩
            exact p3 _ _ g4 s4 _ (hz.grow g4 s3)
          · rw [e2] at hw; cases hw
      · exact p3.elim
    · exact p3.elim
  · exact p1.elim⟩

/-! ### zip of two tuples -/
@[simp] def zipF (ds : List D) (st1 : Sto) : R Src := match ds with
  | [.tup xs, .tup ys] => .ok (List.zipWith (fun x y => D.tup [x, y]) xs ys, fun _ => true) st1
  | _ => .stuck
@[simp] def mZip (m : Mo (List D)) : Mo Src := fun env st => (m env st).bind zipF
theorem itOk_zip {K : KW} {H0 : Hp} {ρ0 : List Addr} {st0 : Sto} (s0 : SR K H0 ρ0 st0) {a b : Addr} {xs ys : List D} {vs us : List V} (h : SqT K H0 a vs) (r : VRs K H0 ρ0 xs vs) (h2 : SqT K H0 b us) (r2 : VRs K H0 ρ0 ys us) :
    ItOk K (RZ.ItzT K a b) H0 ρ0 (List.zipWith (fun x y => D.tup [x, y]) xs ys) (fun _ => true) := fun i H ρ st g s _ => by
  have hT := g.sqT h
  have hT2 := g.sqT h2
  have q := r.still g
  have q2 := r2.still g
  refine ⟨fun d e => ?_, fun hi => ⟨vs, us, hT, hT2, ?_⟩⟩
  · rw [List.getElem?_zipWith] at e
    cases e1 : xs[i]? with
    | none => rw [e1] at e; simp at e
    | some x =>
      cases e2 : ys[i]? with
      | none => rw [e1, e2] at e; simp at e
      | some y =>
        rw [e1, e2] at e
        have e : D.tup [x, y] = d := by simpa using e
        obtain ⟨v, hv, rv⟩ := q.get e1
        obtain ⟨u, hu, ru⟩ := q2.get e2
        refine ⟨⟨vs, us, v, u, hT, hT2, hv, hu⟩, fun w H' z => ?_⟩
        obtain ⟨T, x', y', rfl, hn, rfl, f1, f2⟩ := z
        have c1 := f1 vs hT
        have c2 := f2 us hT2
        rw [hv] at c1
        rw [hu] at c2
        cases c1
        cases c2
        obtain ⟨g3, s3, r3⟩ := s.tup hn (show VRs K H ρ [x, y] [v, u] from ⟨v, [u], rfl, rv, u, [], rfl, ru, rfl⟩)
        rw [← e]
        exact ⟨g3, s3, r3⟩
  · rw [List.length_zipWith] at hi
    have l1 := r.length
    have l2 := r2.length
    omega
theorem di_zip {e e2 : Expr} {m n : Mo D} {p pos tpos : Pos} {elts : List Expr} {kk : Nat} (hm : X.mg "zip" = none) (h1 : DE X E e m) (h2 : DE X E e2 n) (hg : Gl X "zip" := by rfl)
    (hs : starEach [e, e2] X.env = (false, eval e X.env) :: starEach [e2] X.env := by rfl) (hs2 : starEach [e2] X.env = (false, eval e2 X.env) :: starEach [] X.env := by rfl) (hpl : (backTo pos (starEach [e2] X.env)).any (·.1) = false := by rfl) :
    DI X E (.Tuple elts kk tpos) (.Call (.Name "zip" p) [e, e2] [] pos) (mZip (mCons m (mCons n mNil))) := (RZ.pi_zipA hg hm (da_cons h1 (da_cons h2 da_nil hs2) hs) hs hpl).imp fun σ H R ⟨ρ, env, st, er, sr, p⟩ => ⟨ρ, env, st, er, sr, by
  generalize mCons m (mCons n mNil) = mm at p
  refine p.bind.mono fun ds st1 H1 ρ1 g1 s1 p1 vs hvs => ?_
  unfold zipF at p1
  split at p1
  · rename_i xs ys
    obtain ⟨v1, r1, e1, ⟨a, us1, e3, q1, w1⟩, v2, r2, e2, ⟨b, us2, e4, q2, w2⟩, e5⟩ := hvs
    have e5 : r2 = [] := e5
    subst e1 e2 e3 e4 e5
    exact ⟨a, b, us1, us2, rfl, .inr ⟨q1, q2, p1.here s1 _ (itOk_zip s1 q1 w1 q2 w2)⟩⟩
  · exact p1.elim⟩

/-! ### sorted of a list of data -/
def encD (d : D) : PyData := (toPy d).getD .none
def allAlike (ps : List PyData) : Bool := ps.all fun p => ps.all fun q => PySem.W.alike p q
def fullTup : PyData → Bool
  | .tuple (_ :: _) => true
  | _ => false
def noTup : PyData → Bool
  | .none => false
  | .tuple _ => false
  | _ => true
def sortOk (xs : List D) : Bool := (xs.all fun d => (toPy d).isSome && decide ((encD d).depth ≤ 60)) && allAlike (xs.map encD) && ((xs.map encD).all fullTup || (xs.map encD).all noTup) && szOk xs.length
def sortD (xs : List D) : List D := xs.mergeSort (PySem.W.dataLe false encD)
def cSortL (ds : List D) (st : Sto) : R D := match ds with
  | [d] => match itemsD d st with
    | some xs => if isLst d st && sortOk xs then .ok (.ref st.length) (st ++ [.lst (sortD xs)]) else .stuck
    | none => .stuck
  | _ => .stuck
theorem allAlike_ok {ps : List PyData} (h : allAlike ps = true) : PySem.W.AllAlike ps := fun d hd d' hd' => by
  exact List.all_eq_true.mp (List.all_eq_true.mp h d hd) d' hd'
theorem sortable_ok {ps : List PyData} (h : (ps.all fullTup || ps.all noTup) = true) : PySem.W.Sortable ps := by
  rw [Bool.or_eq_true] at h
  rcases h with h | h
  · refine .inl fun d hd => ?_
    have := List.all_eq_true.mp h d hd
    cases d with
    | tuple xs => cases xs with
      | nil => simp [fullTup] at this
      | cons x r => exact ⟨x, r, rfl⟩
    | _ => simp [fullTup] at this
  · refine .inr fun d hd => ?_
    have := List.all_eq_true.mp h d hd
    cases d with
    | tuple xs => simp [noTup] at this
    | none => simp [noTup] at this
    | _ => exact ⟨(fun z => nomatch z), fun xs z => nomatch z⟩
/-- what an item stands for -/
def Stands (K : KW) (H : Hp) (ρ : List Addr) (u : Value) (d : D) : Prop := ∃ v, RelV v u ∧ VR K H ρ d v
theorem stands_of {K : KW} {H : Hp} {ρ : List Addr} : ∀ {ds : List D} {vs : List V} {us : List Value}, VRs K H ρ ds vs → Vals vs us → PySem.W.EachIs (Stands K H ρ) us ds
  | [], vs, us, h, r => by
    have h : vs = [] := h
    subst h
    cases r
    exact .nil
  | d :: ds, vs, us, ⟨v, w, ev, h, hr⟩, r => by
    subst ev
    cases r with
    | cons r rr => exact .cons ⟨v, r, h⟩ (stands_of hr rr)
theorem of_stands {K : KW} {H : Hp} {ρ : List Addr} : ∀ {us : List Value} {ds : List D}, PySem.W.EachIs (Stands K H ρ) us ds → ∃ vs, VRs K H ρ ds vs ∧ Vals vs us
  | _, _, .nil => ⟨[], rfl, .nil⟩
  | _, _, .cons ⟨v, r, h⟩ t => by
    obtain ⟨vs, a, b⟩ := of_stands t
    exact ⟨v :: vs, ⟨v, vs, rfl, h, a⟩, .cons r b⟩
theorem reads_each {pins : List (Addr × Obj)} {σ : L2.St} {H : Hp} {s : Shared} (I : Inv X pins σ H s) {ρ : List Addr} : ∀ {ds : List D} {us : List Value}, PySem.W.EachIs (Stands X.kw H ρ) us ds → (∀ d ∈ ds, (toPy d).isSome = true) →
    PySem.W.EachIs (fun v b => ∃ as, Reads s.heap v (encD b) as) us ds
  | _, _, .nil, _ => .nil
  | _, _, .cons ⟨v, r, h⟩ t, hs => .cons (by
      obtain ⟨p, hp⟩ := Option.isSome_iff_exists.mp (hs _ List.mem_cons_self)
      rw [show encD _ = p by unfold encD; rw [hp]; rfl]
      exact reads I h r hp) (reads_each I t fun d hd => hs d (List.mem_cons_of_mem _ hd))
theorem c_sortL (hu : X.A.units + 64 < cLine) : CallR X (.builtin "sorted") (rC X.kw E cSortL) := fun pins s σ H xs us Q I r ⟨ρ, st, ds, sr, hv, p⟩ => by
  unfold cSortL at p
  split at p
  · rename_i d
    split at p
    · rename_i ys hy
      split at p
      · rename_i hz
        rw [Bool.and_eq_true] at hz
        obtain ⟨hl, hz⟩ := hz
        unfold sortOk at hz
        rw [Bool.and_eq_true, Bool.and_eq_true, Bool.and_eq_true] at hz
        obtain ⟨⟨⟨z1, z2⟩, z3⟩, z4⟩ := hz
        have z1 : ∀ d ∈ ys, (toPy d).isSome = true ∧ (encD d).depth ≤ 60 := fun d hd => by
          have := List.all_eq_true.mp z1 d hd
          rw [Bool.and_eq_true, decide_eq_true_eq] at this
          exact this
        obtain ⟨v, r1, e1, h1, e2⟩ := hv
        have e2 : r1 = [] := e2
        subst e1 e2
        obtain ⟨u, rfl, ru⟩ := r.one
        cases d with
        | ref k =>
          obtain ⟨a, ha, rfl⟩ := h1
          cases (show u = Value.ref a from ru)
          simp only [itemsD] at hy
          split at hy
          · rename_i ys' hk
            cases hy
            obtain ⟨vs, q, rr⟩ := sr.ob k a _ ha hk
            obtain ⟨its, rv, pl, hsz⟩ := I.list (SqL.of q)
            have e := stands_of rr rv
            refine PySem.W.sorted_data (bs := ys) (enc := encD) (R := Stands X.kw H ρ) pl.isList e (reads_each I e fun d hd => (z1 d hd).1) (allAlike_ok z2) (sortable_ok z3) (szOk_le z4) (fun b hb => by have := (z1 b hb).2; omega) fun out ho eo => ?_
            obtain ⟨ws, w1, w2⟩ := of_stands eo
            obtain ⟨c, hc⟩ := PyProof.Rows.sortedAll_at s.heap its out.toArray
            have hfr : H (s.heap.objs.size + 1) = none := I.hok.fresh (Nat.le_succ _)
            obtain ⟨g, s', r'⟩ := sr.newL hfr w1
            have hlen : ws.length ≤ sizeLine := by rw [w2.length, ho]; exact szOk_le z4
            refine ⟨.ref (s.heap.objs.size + 1), upd H (s.heap.objs.size + 1) (.lst ws), I.laid (t' := s.toks) (fun _ _ h => PyProof.Rows.sortedAll_old h) (Nat.le_succ _) ⟨hlen, out, c, w2, hc⟩, rfl, p _ _ g s' _ r'⟩
          · cases hy
        | _ => simp [isLst] at hl
      · exact p.elim
    · exact p.elim
  · exact p.elim
end
end L3
namespace L3
open PySem PySem.Spec PyProof.Rows L2

/-! ### members -/
mutual
theorem nkD_inj : ∀ {a b : D} {k : NestedKey}, nkD a = some k → nkD b = some k → a = b
  | .int i, b, k, h, e => by
    simp only [nkD, Option.some.injEq] at h
    subst h
    cases b <;> simp [nkD] at e
    · rw [e]
    · split at e <;> simp at e
  | .str x, b, k, h, e => by
    simp only [nkD, Option.some.injEq] at h
    subst h
    cases b <;> simp [nkD] at e
    · rw [e]
    · split at e <;> simp at e
  | .tup xs, b, k, h, e => by
    rw [nkD] at h
    split at h
    · rename_i ks hks
      cases h
      cases b <;> simp [nkD] at e
      rename_i ys
      split at e
      · rename_i js hjs
        simp at e
        subst e
        rw [nkDs_inj hks hjs]
      · cases e
    · cases h
  | .non, _, _, h, _ | .bl _, _, _, h, _ | .frl _, _, _, h, _ | .ref _, _, _, h, _ | .ty _, _, _, h, _ | .glo _, _, _, h, _ => by simp [nkD] at h
theorem nkDs_inj : ∀ {a b : List D} {ks : List NestedKey}, nkDs a = some ks → nkDs b = some ks → a = b
  | [], b, ks, h, e => by
    simp only [nkDs, Option.some.injEq] at h
    subst h
    cases b with
    | nil => rfl
    | cons y ys =>
      rw [nkDs] at e
      split at e
      · cases e
      · cases e
  | x :: xs, b, ks, h, e => by
    rw [nkDs] at h
    split at h
    · rename_i k ks' h1 h2
      cases h
      cases b with
      | nil => simp [nkDs] at e
      | cons y ys =>
        rw [nkDs] at e
        split at e
        · rename_i j js e1 e2
          cases e
          rw [nkD_inj h1 e1, nkDs_inj h2 e2]
        · cases e
    · cases h
end
theorem key8_inj {a b : D} {k : NestedKey} (h : key8 a = some k) (e : key8 b = some k) : a = b := nkD_inj (key8_nk h).1 (key8_nk e).1
section
variable {X : Cx}
mutual
theorem key_is {pins : List (Addr × Obj)} {σ : L2.St} {H : Hp} {s : Shared} (I : Inv X pins σ H s) {ρ : List Addr} : ∀ {d : D} {v : V} {u : Value} {k : NestedKey}, VR X.kw H ρ d v → RelV v u → nkD d = some k → NestedIs s.heap k u
  | .int i, v, u, k, h, r, e => by
    simp only [nkD, Option.some.injEq] at e
    have h : v = .int i := h
    subst h e
    obtain ⟨t, rfl⟩ := r
    exact .int i t
  | .str x, v, u, k, h, r, e => by
    simp only [nkD, Option.some.injEq] at e
    have h : v = .str x := h
    subst h e
    obtain ⟨t, rfl⟩ := r
    exact .text x t
  | .tup xs, v, u, k, ⟨a, vs, ev, hq, hr⟩, r, e => by
    rw [nkD] at e
    split at e
    · rename_i ks hks
      cases e
      subst ev
      cases (show u = Value.ref a from r)
      obtain ⟨its, rv, ⟨o, ho, hc, n, hd⟩, _⟩ := I.tuple hq
      exact .tup ho hc hd (by simpa using keys_are I hr rv hks)
    · cases e
  | .non, _, _, _, _, _, e | .bl _, _, _, _, _, _, e | .frl _, _, _, _, _, _, e | .ref _, _, _, _, _, _, e | .ty _, _, _, _, _, _, e | .glo _, _, _, _, _, _, e => by simp [nkD] at e
theorem keys_are {pins : List (Addr × Obj)} {σ : L2.St} {H : Hp} {s : Shared} (I : Inv X pins σ H s) {ρ : List Addr} : ∀ {ds : List D} {vs : List V} {us : List Value} {ks : List NestedKey}, VRs X.kw H ρ ds vs → Vals vs us → nkDs ds = some ks → NestedAll s.heap ks us
  | [], vs, us, ks, h, r, e => by
    simp only [nkDs, Option.some.injEq] at e
    have h : vs = [] := h
    subst h e
    cases r
    exact .nil
  | d :: ds, vs, us, ks, ⟨v, w, ev, h, hr⟩, r, e => by
    rw [nkDs] at e
    split at e
    · rename_i k ks' h1 h2
      cases e
      subst ev
      cases r with
      | cons r rr => exact .cons (key_is I h r h1) (keys_are I hr rr h2)
    · cases e
end
end

/-! ### room in the table -/
mutual
def hash0 : NestedKey → Option Int
  | .none => none
  | .num i => some (hashInt i)
  | .text _ => none
  | .tup ks => match hashes0 ks with
    | some hs => some (reduceHash (Builtin.Tuple.tupleHashOf hs))
    | none => none
def hashes0 : List NestedKey → Option (List Int)
  | [] => some []
  | k :: ks => match hash0 k, hashes0 ks with
    | some h, some hs => some (h :: hs)
    | _, _ => none
end
mutual
theorem hash0_ok {w : World} : ∀ {k : NestedKey} {h : Int}, hash0 k = some h → k.hash w = h
  | .none, h, e => by simp [hash0] at e
  | .num i, h, e => by simp only [hash0, Option.some.injEq] at e; rw [← e]; rfl
  | .text _, h, e => by simp [hash0] at e
  | .tup ks, h, e => by
    rw [hash0] at e
    split at e
    · rename_i hs q
      cases e
      rw [NestedKey.hash, hashes0_ok q]
    · cases e
theorem hashes0_ok {w : World} : ∀ {ks : List NestedKey} {hs : List Int}, hashes0 ks = some hs → NestedKey.hashes w ks = hs
  | [], hs, e => by simp only [hashes0, Option.some.injEq] at e; rw [← e]; rfl
  | k :: ks, hs, e => by
    rw [hashes0] at e
    split at e
    · rename_i h hs' h1 h2
      cases e
      rw [NestedKey.hashes, hash0_ok h1, hashes0_ok h2]
    · cases e
end
def differ (p : NestedKey × NestedKey) : Bool := match hash0 p.1, hash0 p.2 with
  | some x, some y => decide (x ≠ y)
  | _, _ => false
/-- two hundred pairs whose hashes differ -/
def spread (ks : List NestedKey) : Bool := ((ks.take 200).zip ((ks.drop 5000).take 200)).all differ && decide (5200 ≤ ks.length)
def keyOfD (d : D) : NestedKey := (key8 d).getD .none
def fitD (xs : List D) : Bool := (xs.all fun d => (key8 d).isSome) && (decide (xs.length ≤ 9987) || (decide (xs.length ≤ 10000) && spread (xs.map keyOfD)))
theorem count_pairs {g : Int} : ∀ {as bs : List Int}, as.length = bs.length → (∀ p ∈ as.zip bs, p.1 ≠ p.2) → as.count g + bs.count g ≤ as.length
  | [], [], _, _ => by simp
  | [], _ :: _, h, _ => by simp at h
  | _ :: _, [], h, _ => by simp at h
  | a :: as, b :: bs, h, e => by
    have ih := count_pairs (g := g) (as := as) (bs := bs) (by simpa using h) fun p hp => e p (by simp [hp])
    have hne := e (a, b) (by simp)
    rw [List.count_cons, List.count_cons, List.length_cons]
    by_cases c1 : a = g
    · have c2 : ¬ b = g := fun z => hne (c1.trans z.symm)
      simp [c1, c2]; omega
    · simp [c1]
      split <;> omega
theorem fitD_ok {w : World} {xs : List D} (h : fitD xs = true) : FitK w (xs.map keyOfD) := by
  unfold fitD at h
  rw [Bool.and_eq_true, Bool.or_eq_true, Bool.and_eq_true, decide_eq_true_eq, decide_eq_true_eq] at h
  intro g
  rw [List.length_map]
  have c := List.count_le_length (a := g) (l := (xs.map keyOfD).map (NestedKey.hash w))
  rw [List.length_map, List.length_map] at c
  rcases h.2 with h | ⟨h, sp⟩
  · omega
  · unfold spread at sp
    rw [Bool.and_eq_true, decide_eq_true_eq] at sp
    generalize hk : xs.map keyOfD = ks at c sp ⊢
    have hl : ks.length = xs.length := by rw [← hk, List.length_map]
    have e1 : ks.map (NestedKey.hash w) = (ks.take 200).map (NestedKey.hash w) ++ (((ks.drop 200).take 4800).map (NestedKey.hash w) ++ (((ks.drop 5000).take 200).map (NestedKey.hash w) ++ (ks.drop 5200).map (NestedKey.hash w))) := by
      rw [← List.map_append, ← List.map_append, ← List.map_append]
      congr 1
      have d1 : ks.drop 5000 = (ks.drop 5000).take 200 ++ ks.drop 5200 := by
        have := (List.take_append_drop 200 (ks.drop 5000)).symm
        rwa [List.drop_drop] at this
      have d2 : ks.drop 200 = (ks.drop 200).take 4800 ++ ks.drop 5000 := by
        have := (List.take_append_drop 4800 (ks.drop 200)).symm
        rwa [List.drop_drop] at this
      rw [← d1, ← d2, List.take_append_drop]
    have cp := count_pairs (g := g) (as := (ks.take 200).map (NestedKey.hash w)) (bs := ((ks.drop 5000).take 200).map (NestedKey.hash w)) (by simp; omega) fun p hp => by
      rw [List.zip_map] at hp
      obtain ⟨q, hq, rfl⟩ := List.mem_map.mp hp
      have dq := List.all_eq_true.mp sp.1 q hq
      unfold differ at dq
      split at dq
      · rename_i x y hx hy
        show NestedKey.hash w q.1 ≠ NestedKey.hash w q.2
        rw [hash0_ok hx, hash0_ok hy]
        exact of_decide_eq_true dq
      · cases dq
    rw [e1, List.count_append, List.count_append, List.count_append]
    have c2 := List.count_le_length (a := g) (l := ((ks.drop 200).take 4800).map (NestedKey.hash w))
    have c3 := List.count_le_length (a := g) (l := (ks.drop 5200).map (NestedKey.hash w))
    simp only [List.length_map, List.length_take, List.length_drop] at c2 c3 cp
    omega
end L3
namespace L3
open PySem PySem.Spec PyProof.Rows L2

/-! ### the order of members is one -/
mutual
theorem eqv_nk : ∀ {a b : D} {j k : NestedKey} {p q : PyData}, nkD a = some j → nkD b = some k → toPy a = some p → toPy b = some q → PyData.eqv p q = true → a = b
  | .int i, b, j, k, p, q, h1, h2, h3, h4, e => by
    simp only [toPy, Option.some.injEq] at h3
    subst h3
    cases b with
    | int i2 => simp only [toPy, Option.some.injEq] at h4; subst h4; simp only [PyData.eqv, beq_iff_eq] at e; rw [e]
    | str x => simp only [toPy, Option.some.injEq] at h4; subst h4; simp [PyData.eqv] at e
    | tup xs =>
      rw [toPy] at h4
      split at h4
      · cases h4; simp [PyData.eqv] at e
      · cases h4
    | _ => simp [nkD] at h2
  | .str x, b, j, k, p, q, h1, h2, h3, h4, e => by
    simp only [toPy, Option.some.injEq] at h3
    subst h3
    cases b with
    | int i2 => simp only [toPy, Option.some.injEq] at h4; subst h4; simp [PyData.eqv] at e
    | str x => simp only [toPy, Option.some.injEq] at h4; subst h4; simp only [PyData.eqv, beq_iff_eq] at e; rw [e]
    | tup xs =>
      rw [toPy] at h4
      split at h4
      · cases h4; simp [PyData.eqv] at e
      · cases h4
    | _ => simp [nkD] at h2
  | .tup xs, b, j, k, p, q, h1, h2, h3, h4, e => by
    rw [toPy] at h3
    rw [nkD] at h1
    split at h3
    · rename_i ps hps
      cases h3
      split at h1
      · rename_i js hjs
        cases b with
        | int i2 => simp only [toPy, Option.some.injEq] at h4; subst h4; simp [PyData.eqv] at e
        | str x => simp only [toPy, Option.some.injEq] at h4; subst h4; simp [PyData.eqv] at e
        | tup ys =>
          rw [toPy] at h4
          rw [nkD] at h2
          split at h4
          · rename_i qs hqs
            cases h4
            split at h2
            · rename_i ks hks
              rw [eqv_nks hjs hks hps hqs (by simpa [PyData.eqv] using e)]
            · cases h2
          · cases h4
        | _ => simp [nkD] at h2
      · cases h1
    · cases h3
  | .non, _, _, _, _, _, h, _, _, _, _ | .bl _, _, _, _, _, _, h, _, _, _, _ | .frl _, _, _, _, _, _, h, _, _, _, _ | .ref _, _, _, _, _, _, h, _, _, _, _ | .ty _, _, _, _, _, _, h, _, _, _, _ | .glo _, _, _, _, _, _, h, _, _, _, _ => by simp [nkD] at h
theorem eqv_nks : ∀ {a b : List D} {j k : List NestedKey} {p q : List PyData}, nkDs a = some j → nkDs b = some k → toPys a = some p → toPys b = some q → PyData.eqvAll p q = true → a = b
  | [], b, j, k, p, q, _, _, h3, h4, e => by
    simp only [toPys, Option.some.injEq] at h3
    subst h3
    cases b with
    | nil => rfl
    | cons y ys =>
      rw [toPys] at h4
      split at h4
      · cases h4; simp [PyData.eqvAll] at e
      · cases h4
  | x :: xs, b, j, k, p, q, h1, h2, h3, h4, e => by
    rw [toPys] at h3
    rw [nkDs] at h1
    split at h3
    · rename_i px pxs e1 e2
      cases h3
      split at h1
      · rename_i jx jxs e3 e4
        cases b with
        | nil => simp only [toPys, Option.some.injEq] at h4; subst h4; simp [PyData.eqvAll] at e
        | cons y ys =>
          rw [toPys] at h4
          rw [nkDs] at h2
          split at h4
          · rename_i py pys e5 e6
            cases h4
            split at h2
            · rename_i ky kys e7 e8
              rw [PySem.W.eqv_all_cons, Bool.and_eq_true] at e
              rw [eqv_nk e3 e7 e1 e5 e.1, eqv_nks e4 e8 e2 e6 e.2]
            · cases h2
          · cases h4
      · cases h1
    · cases h3
end
theorem toks_same {x y : PyData} (h : PySem.W.alike x y = true) (e : PySem.W.keyToks x = PySem.W.keyToks y) : PyData.eqv x y = true := by
  cases q : PyData.eqv x y with
  | true => rfl
  | false =>
    have h1 := (PySem.W.toks_eqv x y h).2 q [] [Sum.inl 0]
    rw [List.append_nil, ← e, PyProof.Rows.lex_irrefl] at h1
    have h2 := PySem.W.lex_pre (PySem.W.keyToks x) [] [Sum.inl 0]
    rw [List.append_nil, h1] at h2
    exact absurd h2 (by simp [PyProof.Rows.lexLt])
theorem dataLe_anti {a b : D} {j k : NestedKey} (h1 : key8 a = some j) (h2 : key8 b = some k) (p1 : (toPy a).isSome = true) (p2 : (toPy b).isSome = true) (al : PySem.W.alike (encD a) (encD b) = true) (le1 : PySem.W.dataLe false encD a b = true) (le2 : PySem.W.dataLe false encD b a = true) : a = b := by
  have e1 : PySem.W.dataLt (encD b) (encD a) = false := by
    have : (!PySem.W.dataLt (encD b) (encD a)) = true := le1
    simpa using this
  have e2 : PySem.W.dataLt (encD a) (encD b) = false := by
    have : (!PySem.W.dataLt (encD a) (encD b)) = true := le2
    simpa using this
  have e3 := PyProof.Rows.lex_total _ _ e2 e1
  obtain ⟨p, hp⟩ := Option.isSome_iff_exists.mp p1
  obtain ⟨q, hq⟩ := Option.isSome_iff_exists.mp p2
  have ep : encD a = p := by unfold encD; rw [hp]; rfl
  have eq : encD b = q := by unfold encD; rw [hq]; rfl
  rw [ep, eq] at e3 al
  exact eqv_nk (key8_nk h1).1 (key8_nk h2).1 hp hq (toks_same al e3)
theorem sorted_one {α : Type} {le : α → α → Bool} : ∀ {l m : List α}, l.Perm m → l.Pairwise (fun a b => le a b = true) → m.Pairwise (fun a b => le a b = true) → (∀ a ∈ l, ∀ b ∈ l, le a b = true → le b a = true → a = b) → l = m
  | [], m, pm, _, _, _ => by rw [List.nil_perm.mp pm]
  | a :: l, [], pm, _, _, _ => by cases List.perm_nil.mp pm
  | a :: l, b :: m, pm, s1, s2, anti => by
    obtain ⟨q1, q2⟩ := List.pairwise_cons.mp s1
    obtain ⟨q3, q4⟩ := List.pairwise_cons.mp s2
    have e : a = b := by
      have ha : a ∈ b :: m := pm.mem_iff.mp List.mem_cons_self
      have hb : b ∈ a :: l := pm.mem_iff.mpr List.mem_cons_self
      rcases List.mem_cons.mp ha with z | ha
      · exact z
      · rcases List.mem_cons.mp hb with z | hb'
        · exact z.symm
        · exact anti a List.mem_cons_self b hb (q1 b hb') (q3 a ha)
    subst e
    rw [sorted_one (List.perm_cons a |>.mp pm) q2 q4 fun x hx y hy => anti x (List.mem_cons_of_mem _ hx) y (List.mem_cons_of_mem _ hy)]
/-- sorting does not see the order -/
theorem sortD_perm {xs ys : List D} (pm : xs.Perm ys) (hk : ∀ d ∈ xs, (key8 d).isSome = true) (ok : sortOk xs = true) : sortD xs = sortD ys := by
  unfold sortOk at ok
  rw [Bool.and_eq_true, Bool.and_eq_true, Bool.and_eq_true] at ok
  have al := allAlike_ok ok.1.1.2
  have tp : ∀ d ∈ xs, (toPy d).isSome = true := fun d hd => by
    have := List.all_eq_true.mp ok.1.1.1 d hd
    rw [Bool.and_eq_true] at this
    exact this.1
  have T := PySem.W.sortLe_total (listOrd PyProof.Rows.itemOrd) false fun b : D => PySem.W.keyToks (encD b)
  have p1 := List.mergeSort_perm xs (PySem.W.dataLe false encD)
  have p2 := List.mergeSort_perm ys (PySem.W.dataLe false encD)
  refine sorted_one ((p1.trans pm).trans p2.symm) (PySem.W.sort_pairwise T xs) (PySem.W.sort_pairwise T ys) fun a ha b hb h1 h2 => ?_
  have ha := p1.mem_iff.mp ha
  have hb := p1.mem_iff.mp hb
  obtain ⟨j, hj⟩ := Option.isSome_iff_exists.mp (hk a ha)
  obtain ⟨k, hk⟩ := Option.isSome_iff_exists.mp (hk b hb)
  exact dataLe_anti hj hk (tp a ha) (tp b hb) (al _ (List.mem_map.mpr ⟨a, ha, rfl⟩) _ (List.mem_map.mpr ⟨b, hb, rfl⟩)) h1 h2
mutual
theorem nk_py : ∀ {d : D} {k : NestedKey}, nkD d = some k → (toPy d).isSome = true
  | .int _, _, _ | .str _, _, _ => by simp [toPy]
  | .tup xs, k, e => by
    rw [nkD] at e
    split at e
    · rename_i ks h
      obtain ⟨ps, hp⟩ := Option.isSome_iff_exists.mp (nks_py h)
      simp [toPy, hp]
    · cases e
  | .non, _, e | .bl _, _, e | .frl _, _, e | .ref _, _, e | .ty _, _, e | .glo _, _, e => by simp [nkD] at e
theorem nks_py : ∀ {ds : List D} {ks : List NestedKey}, nkDs ds = some ks → (toPys ds).isSome = true
  | [], _, _ => by simp [toPys]
  | d :: ds, ks, e => by
    rw [nkDs] at e
    split at e
    · rename_i k ks' h1 h2
      obtain ⟨p, hp⟩ := Option.isSome_iff_exists.mp (nk_py h1)
      obtain ⟨ps, hps⟩ := Option.isSome_iff_exists.mp (nks_py h2)
      simp [toPys, hp, hps]
    · cases e
end
mutual
theorem reads_nil {h : Heap} : ∀ {d : D} {p : PyData} {u : Value} {as : List Addr}, toPy d = some p → Reads h u p as → as = []
  | .non, p, u, as, e, r => by
    simp only [toPy, Option.some.injEq] at e
    subst e
    cases r; rfl
  | .bl _, p, u, as, e, r => by
    simp only [toPy, Option.some.injEq] at e
    subst e
    cases r; rfl
  | .int _, p, u, as, e, r => by
    simp only [toPy, Option.some.injEq] at e
    subst e
    cases r; rfl
  | .str _, p, u, as, e, r => by
    simp only [toPy, Option.some.injEq] at e
    subst e
    cases r; rfl
  | .tup xs, p, u, as, e, r => by
    rw [toPy] at e
    split at e
    · rename_i ps hps
      cases e
      cases r with
      | tuple h1 h2 h3 h4 => exact readsAll_nil hps h4
    · cases e
  | .frl _, _, _, _, e, _ | .ref _, _, _, _, e, _ | .ty _, _, _, _, e, _ | .glo _, _, _, _, e, _ => by simp [toPy] at e
theorem readsAll_nil {h : Heap} : ∀ {ds : List D} {ps : List PyData} {us : List Value} {as : List Addr}, toPys ds = some ps → ReadsAll h us ps as → as = []
  | [], ps, us, as, e, r => by
    simp only [toPys, Option.some.injEq] at e
    subst e
    cases r; rfl
  | d :: ds, ps, us, as, e, r => by
    rw [toPys] at e
    split at e
    · rename_i p ps' h1 h2
      cases e
      cases r with
      | cons r1 r2 => rw [reads_nil h1 r1, readsAll_nil h2 r2]; rfl
    · cases e
end

/-! ### sets of the store -/
/-- each once, in the order of coming -/
def dedupD : List D → List D → List D
  | _, [] => []
  | seen, x :: xs => if x ∈ seen then dedupD seen xs else x :: dedupD (x :: seen) xs
theorem mem_dedupD {x : D} : ∀ {seen xs : List D}, x ∈ dedupD seen xs ↔ x ∈ xs ∧ x ∉ seen
  | _, [] => by simp [dedupD]
  | seen, y :: ys => by
    rw [dedupD]
    split
    · rename_i h
      rw [mem_dedupD (seen := seen) (xs := ys), List.mem_cons]
      constructor
      · exact fun ⟨a, b⟩ => ⟨.inr a, b⟩
      · rintro ⟨a | a, b⟩
        · exact absurd (a ▸ h) b
        · exact ⟨a, b⟩
    · rename_i h
      rw [List.mem_cons, mem_dedupD (seen := y :: seen) (xs := ys), List.mem_cons, List.mem_cons, not_or]
      constructor
      · rintro (a | ⟨a, b, c⟩)
        · exact ⟨.inl a, by rw [a]; exact h⟩
        · exact ⟨.inr a, c⟩
      · rintro ⟨a | a, b⟩
        · exact .inl a
        · by_cases c : x = y
          · exact .inl c
          · exact .inr ⟨a, c, b⟩
theorem nodup_dedupD : ∀ {seen xs : List D}, (dedupD seen xs).Nodup
  | _, [] => List.nodup_nil
  | seen, y :: ys => by
    rw [dedupD]
    split
    · exact nodup_dedupD
    · exact List.nodup_cons.mpr ⟨fun h => (mem_dedupD.mp h).2 List.mem_cons_self, nodup_dedupD⟩
def isTup : D → Bool
  | .tup _ => true
  | _ => false
/-- the abstract value of a member -/
def vOf : Value → V
  | .ref a => .ref a
  | .int i _ => .int i
  | .str x _ => .str x
  | _ => .non
theorem vOf_eq {K : KW} {H : Hp} {ρ : List Addr} {d : D} {v : V} {u : Value} {k : NestedKey} (h : VR K H ρ d v) (r : RelV v u) (e : nkD d = some k) : vOf u = v := by
  cases d with
  | int i => cases (show v = .int i from h); obtain ⟨t, rfl⟩ := r; rfl
  | str x => cases (show v = .str x from h); obtain ⟨t, rfl⟩ := r; rfl
  | tup xs => obtain ⟨a, vs, rfl, _⟩ := h; cases (show u = Value.ref a from r); rfl
  | _ => simp [nkD] at e
def mOf (L : KL) : List (V × NestedKey) := L.map fun l => (vOf l.1, l.2)
theorem paired_mOf {L : KL} (h : ∀ l ∈ L, RelV (vOf l.1) l.1) : Paired (fun (m : V × NestedKey) (l : Value × NestedKey) => RelV m.1 l.1 ∧ m.2 = l.2) (mOf L) L := by
  induction L with
  | nil => exact .nil
  | cons x L ih => exact .cons ⟨h x List.mem_cons_self, rfl⟩ (ih fun l hl => h l (List.mem_cons_of_mem _ hl))
theorem paired_right {α β : Type} {F : α → β → Prop} : ∀ {l : List α} {m : List β}, Paired F l m → ∀ b ∈ m, ∃ a ∈ l, F a b
  | _, _, .nil, b, hb => nomatch hb
  | _, _, .cons h t, b, hb => by
    rcases List.mem_cons.mp hb with e | hb
    · exact ⟨_, List.mem_cons_self, e ▸ h⟩
    · obtain ⟨a, ha, r⟩ := paired_right t b hb
      exact ⟨a, List.mem_cons_of_mem _ ha, r⟩
theorem paired_left {α β : Type} {F : α → β → Prop} : ∀ {l : List α} {m : List β}, Paired F l m → ∀ a ∈ l, ∃ b ∈ m, F a b
  | _, _, .nil, a, ha => nomatch ha
  | _, _, .cons h t, a, ha => by
    rcases List.mem_cons.mp ha with e | ha
    · exact ⟨_, List.mem_cons_self, e ▸ h⟩
    · obtain ⟨b, hb, r⟩ := paired_left t a ha
      exact ⟨b, List.mem_cons_of_mem _ hb, r⟩
theorem MemOf.congr {K : KW} {H : Hp} {ρ : List Addr} {xs ys : List D} {M : List (V × NestedKey)} (e : ∀ d, d ∈ xs ↔ d ∈ ys) (h : MemOf K H ρ xs M) : MemOf K H ρ ys M :=
  ⟨fun m hm => let ⟨d, hd, r⟩ := h.1 m hm; ⟨d, (e d).mp hd, r⟩, fun d hd => h.2 d ((e d).mpr hd)⟩
section
variable {X : Cx} {pins : List (Addr × Obj)} {σ : L2.St} {H : Hp} {s : Shared} {ρ : List Addr}
theorem setGO_new {P : Program} {w : World} {h : Heap} {a : Addr} {L : KL} {es : Array (Int × Value)} {ep : Nat} {t : SetTable} (R : SetG w h a L es ep t) (hv : ∀ l ∈ L, RelV (vOf l.1) l.1) : ObjOk P w H h a (SetGO w a (mOf L)) := by
  obtain ⟨o, ho, r⟩ := R.ob
  refine ⟨⟨L, paired_mOf hv, es, ep, t, ⟨o, ho, r⟩, R.rows, R.tab, R.nd, R.led, R.room⟩, ⟨o, ho⟩, fun h1 h2 p k => ?_⟩
  obtain ⟨L', q1, es', ep', t', ⟨o', ho', r'⟩, q2⟩ := p
  exact ⟨L', q1, es', ep', t', ⟨o', k o' ho', r'⟩, q2⟩
/-- what stands behind a set of the store -/
theorem setGO_get (I : Inv X pins σ H s) {a : Addr} {M : List (V × NestedKey)} {xs : List D} (ha : H a = some (SetGO X.w a M)) (mem : MemOf X.kw H ρ xs M) :
    ∃ L es ep t, SetG X.w s.heap a L es ep t ∧ (∀ l ∈ L, ∃ d ∈ xs, key8 d = some l.2 ∧ Stands X.kw H ρ l.1 d) ∧ (∀ d ∈ xs, ∃ l ∈ L, key8 d = some l.2) ∧ M = mOf L ∧ ∀ l ∈ L, RelV (vOf l.1) l.1 := by
  obtain ⟨L, pr, es, ep, t, ob, r, T, nd, ld, rm⟩ := (I.hok a _ ha).1
  have st : ∀ l ∈ L, ∃ d ∈ xs, key8 d = some l.2 ∧ Stands X.kw H ρ l.1 d := fun l hl => by
    obtain ⟨m, hm, r1, e1⟩ := paired_right pr l hl
    obtain ⟨d, hd, r2, e2⟩ := mem.1 m hm
    exact ⟨d, hd, by rw [← e1]; exact e2, m.1, r1, r2⟩
  have rv : ∀ l ∈ L, RelV (vOf l.1) l.1 := fun l hl => by
    obtain ⟨d, _, e, v, r1, r2⟩ := st l hl
    rw [vOf_eq r2 r1 (key8_nk e).1]; exact r1
  refine ⟨L, es, ep, t, ⟨ob, r, T, nd, fun l hl => ?_, ld, rm⟩, st, fun d hd => ?_, ?_, rv⟩
  · obtain ⟨d, _, e, v, r1, r2⟩ := st l hl
    exact ⟨key_is I r2 r1 (key8_nk e).1, (key8_nk e).2⟩
  · obtain ⟨m, hm, e⟩ := mem.2 d hd
    obtain ⟨l, hl, _, e1⟩ := paired_left pr m hm
    exact ⟨l, hl, by rw [← e1]; exact e⟩
  · clear st rv r T nd ld rm ob
    have key : ∀ m ∈ M, ∃ d, VR X.kw H ρ d m.1 ∧ (key8 d).isSome = true := fun m hm => by
      obtain ⟨d, _, r2, e2⟩ := mem.1 m hm
      exact ⟨d, r2, by rw [e2]; rfl⟩
    clear mem ha
    induction pr with
    | nil => rfl
    | @cons m l M L h t ih =>
      rw [ih fun m hm => key m (List.mem_cons_of_mem _ hm)]
      obtain ⟨d, r2, e2⟩ := key m List.mem_cons_self
      obtain ⟨k, e2⟩ := Option.isSome_iff_exists.mp e2
      show _ = (vOf l.1, l.2) :: mOf L
      rw [vOf_eq r2 h.1 (key8_nk e2).1, ← h.2]
end
end L3
namespace L3
open PySem PySem.Spec PyProof.Rows L2

section
variable {X : Cx} {E : XK}
/-- what a row of values is, as members -/
theorem ks_of {K : KW} {H : Hp} {ρ : List Addr} : ∀ {us : List Value} {ds : List D}, PySem.W.EachIs (Stands K H ρ) us ds → (∀ d ∈ ds, (key8 d).isSome = true) →
    ∃ ks : KL, us = ks.map (·.1) ∧ keysG ks = ds.map keyOfD ∧ (∀ p ∈ ks, ∃ d ∈ ds, key8 d = some p.2 ∧ Stands K H ρ p.1 d) ∧ ∀ d ∈ ds, ∃ p ∈ ks, key8 d = some p.2
  | _, _, .nil, _ => ⟨[], rfl, rfl, fun p hp => (nomatch hp), fun d hd => (nomatch hd)⟩
  | u :: us, d :: ds, .cons h t, hs => by
    obtain ⟨ks, e1, e2, e3, e4⟩ := ks_of t fun x hx => hs x (List.mem_cons_of_mem _ hx)
    obtain ⟨k, hk⟩ := Option.isSome_iff_exists.mp (hs d List.mem_cons_self)
    refine ⟨(u, k) :: ks, by rw [e1]; rfl, ?_, fun p hp => ?_, fun x hx => ?_⟩
    · show k :: keysG ks = keyOfD d :: ds.map keyOfD
      rw [e2]
      unfold keyOfD
      rw [hk]; rfl
    · rcases List.mem_cons.mp hp with e | hp
      · rw [e]; exact ⟨d, List.mem_cons_self, hk, h⟩
      · obtain ⟨x, hx, r⟩ := e3 p hp
        exact ⟨x, List.mem_cons_of_mem _ hx, r⟩
    · rcases List.mem_cons.mp hx with e | hx
      · rw [e]; exact ⟨(u, k), List.mem_cons_self, hk⟩
      · obtain ⟨p, hp, r⟩ := e4 x hx
        exact ⟨p, List.mem_cons_of_mem _ hp, r⟩
theorem stands_ref {K : KW} {H : Hp} {ρ : List Addr} {u : Value} {d : D} (h : Stands K H ρ u d) (t : isTup d = true) : ∃ b, u = Value.ref b := by
  cases d with
  | tup xs =>
    obtain ⟨v, r, a, vs, rfl, _⟩ := h
    exact ⟨a, r⟩
  | _ => simp [isTup] at t
theorem stands_vOf {K : KW} {H : Hp} {ρ : List Addr} {u : Value} {d : D} {k : NestedKey} (h : Stands K H ρ u d) (e : key8 d = some k) : RelV (vOf u) u ∧ VR K H ρ d (vOf u) := by
  obtain ⟨v, r, vr⟩ := h
  rw [vOf_eq vr r (key8_nk e).1]
  exact ⟨r, vr⟩
/-- a new set of the store -/
theorem SR.newS {K : KW} {H : Hp} {ρ : List Addr} {st : Sto} (s : SR K H ρ st) {p : Addr} {xs : List D} {M : List (V × NestedKey)} (hp : H p = none) (nd : xs.Nodup) (h : MemOf K H ρ xs M) :
    Grow H ρ (upd H p (SetGO K.w p M)) (ρ ++ [p]) ∧ SR K (upd H p (SetGO K.w p M)) (ρ ++ [p]) (st ++ [.set xs]) ∧ VR K (upd H p (SetGO K.w p M)) (ρ ++ [p]) (.ref st.length) (.ref p) := by
  have g : Grow H ρ (upd H p (SetGO K.w p M)) (ρ ++ [p]) := Grow.new hp (s.fresh hp)
  refine ⟨g, s.new hp ⟨nd, M, upd_same, h.keep g.keep (fun _ _ => g.at) s.nt⟩ ⟨_, upd_same, (fun _ z => nomatch z), (fun _ _ z => nomatch z)⟩, p, ?_, rfl⟩
  rw [← s.len]; simp
def cSet (ds : List D) (st : Sto) : R D := match ds with
  | [d] => match itemsD d st with
    | some xs => if isLst d st && xs.all isTup && fitD xs then .ok (.ref st.length) (st ++ [.set (dedupD [] xs)]) else .stuck
    | none => .stuck
  | _ => .stuck
theorem dedup_same {xs : List D} : ∀ d, d ∈ xs ↔ d ∈ dedupD [] xs := fun d => by rw [mem_dedupD]; simp
theorem fitD_key {xs : List D} (h : fitD xs = true) : ∀ d ∈ xs, (key8 d).isSome = true := by
  unfold fitD at h
  rw [Bool.and_eq_true] at h
  exact fun d hd => List.all_eq_true.mp h.1 d hd
theorem fitD_len {xs : List D} (h : fitD xs = true) : xs.length ≤ 10000 := by
  unfold fitD at h
  rw [Bool.and_eq_true, Bool.or_eq_true, Bool.and_eq_true, decide_eq_true_eq, decide_eq_true_eq] at h
  omega
theorem c_set (hc : X.calm = true) (hu : X.A.units + 64 < cLine) : CallR X (.type "set") (rC X.kw E cSet) := fun pins s σ H xs us Q I r ⟨ρ, st, ds, sr, hv, p⟩ => by
  unfold cSet at p
  split at p
  · rename_i d
    split at p
    · rename_i ys hy
      split at p
      · rename_i hz
        rw [Bool.and_eq_true, Bool.and_eq_true] at hz
        obtain ⟨⟨hl, ht⟩, hf⟩ := hz
        obtain ⟨v, r1, e1, h1, e2⟩ := hv
        have e2 : r1 = [] := e2
        subst e1 e2
        obtain ⟨u, rfl, ru⟩ := r.one
        cases d with
        | ref k =>
          obtain ⟨a, ha, rfl⟩ := h1
          cases (show u = Value.ref a from ru)
          simp only [itemsD] at hy
          split at hy
          · rename_i ys' hk
            cases hy
            obtain ⟨vs, q, rr⟩ := sr.ob k a _ ha hk
            obtain ⟨its, rv, pl, hsz⟩ := I.list (SqL.of q)
            obtain ⟨ks, k1, k2, k3, k4⟩ := ks_of (stands_of rr rv) (fitD_key hf)
            have rf : Refs ks := fun p hp => by
              obtain ⟨d, hd, _, sd⟩ := k3 p hp
              exact stands_ref sd (List.all_eq_true.mp ht d hd)
            refine call_setG (P := X.prog) (w := X.w) ks rf (I.ok.hd hc) pl.isList (by simpa using k1) (fun p hp => ?_) (by rw [k2]; exact fitD_ok hf) (by omega) fun h' tk L es ep t R tk2 kp => ?_
            · obtain ⟨d, hd, e, v, r3, r4⟩ := k3 p hp
              exact ⟨key_is I r4 r3 (key8_nk e).1, (key8_nk e).2⟩
            · have hfr : H s.heap.objs.size = none := I.hok.fresh (Nat.le_refl _)
              have mk : ∀ l ∈ L, ∃ d ∈ ys, key8 d = some l.2 ∧ Stands X.kw H ρ l.1 d := fun l hl => k3 l (List.mem_of_mem_take (tk2.sub l hl))
              have rvl : ∀ l ∈ L, RelV (vOf l.1) l.1 := fun l hl => by
                obtain ⟨d, _, e, sd⟩ := mk l hl
                exact (stands_vOf sd e).1
              have mem : MemOf X.kw H ρ ys (mOf L) := ⟨fun m hm => by
                obtain ⟨l, hl, rfl⟩ := List.mem_map.mp hm
                obtain ⟨d, hd, e, sd⟩ := mk l hl
                exact ⟨d, hd, (stands_vOf sd e).2, e⟩, fun d hd => by
                obtain ⟨p, hp, e⟩ := k4 d hd
                obtain ⟨l, hl, e2⟩ := List.mem_map.mp (tk2.all p (by rw [List.take_length]; exact hp))
                exact ⟨(vOf l.1, l.2), List.mem_map.mpr ⟨l, hl, rfl⟩, by rw [e, ← e2]⟩⟩
              obtain ⟨g, s', r'⟩ := sr.newS hfr nodup_dedupD (mem.congr dedup_same)
              exact ⟨.ref s.heap.objs.size, _, I.laid (t' := tk) kp (Nat.le_refl _) (setGO_new R rvl), rfl, p _ _ g s' _ r'⟩
          · cases hy
        | _ => simp [isLst] at hl
      · exact p.elim
    · exact p.elim
  · exact p.elim
theorem each_right {α β : Type} {R : α → β → Prop} : ∀ {as : List α} {bs : List β}, PySem.W.EachIs R as bs → ∀ b ∈ bs, ∃ a, R a b
  | _, _, .nil, b, hb => nomatch hb
  | _, _, .cons h t, b, hb => by
    rcases List.mem_cons.mp hb with z | hb
    · exact ⟨_, z ▸ h⟩
    · exact each_right t b hb
theorem each_perm {α β : Type} {R : α → β → Prop} {as as' : List α} (pm : as.Perm as') : ∀ {bs : List β}, PySem.W.EachIs R as bs → ∃ bs', bs.Perm bs' ∧ PySem.W.EachIs R as' bs' := by
  induction pm with
  | nil => exact fun e => ⟨_, .refl _, e⟩
  | cons x _ ih =>
    intro bs e
    cases e with
    | cons h t =>
      obtain ⟨bs', p, e'⟩ := ih t
      exact ⟨_, p.cons _, .cons h e'⟩
  | swap x y l =>
    intro bs e
    cases e with
    | cons h t =>
      cases t with
      | cons h2 t => exact ⟨_, .swap .., .cons h2 (.cons h t)⟩
  | trans _ _ ih1 ih2 =>
    intro bs e
    obtain ⟨b1, p1, e1⟩ := ih1 e
    obtain ⟨b2, p2, e2⟩ := ih2 e1
    exact ⟨b2, p1.trans p2, e2⟩
/-- sorted of a set, of a list -/
def setAt (d : D) (st : Sto) : Option (List D) := match d with
  | .ref k => match st[k]? with
    | some (.set xs) => some xs
    | _ => none
  | _ => none
def cSorted (ds : List D) (st : Sto) : R D := match ds with
  | [d] => match setAt d st with
    | some xs => if sortOk xs then .ok (.ref st.length) (st ++ [.lst (sortD xs)]) else .stuck
    | none => cSortL [d] st
  | _ => .stuck
theorem c_sorted (hc : X.calm = true) (hu : X.A.units + 64 < cLine) : CallR X (.builtin "sorted") (rC X.kw E cSorted) := fun pins s σ H xs us Q I r ⟨ρ, st, ds, sr, hv, p⟩ => by
  unfold cSorted at p
  split at p
  · rename_i d
    split at p
    · rename_i ys hy
      split at p
      · rename_i hz
        have hz0 := hz
        unfold sortOk at hz
        rw [Bool.and_eq_true, Bool.and_eq_true, Bool.and_eq_true] at hz
        obtain ⟨⟨⟨z1, z2⟩, z3⟩, z4⟩ := hz
        obtain ⟨v, r1, e1, h1, e2⟩ := hv
        have e2 : r1 = [] := e2
        subst e1 e2
        obtain ⟨u, rfl, ru⟩ := r.one
        cases d with
        | ref k =>
          obtain ⟨a, ha, rfl⟩ := h1
          cases (show u = Value.ref a from ru)
          simp only [setAt] at hy
          split at hy
          · rename_i ys' hk
            cases hy
            obtain ⟨nd, M, q, mem⟩ := sr.ob k a _ ha hk
            obtain ⟨L, es, ep, t, R, m1, m2, _, rvl⟩ := setGO_get I q mem
            obtain ⟨o, ho, hex, hd⟩ := R.ob
            -- the members in the table's order, as plain values
            have mk : ∀ L' : KL, (∀ l ∈ L', ∃ d ∈ ys, key8 d = some l.2 ∧ Stands X.kw H ρ l.1 d) → ∃ ds : List D, PySem.W.EachIs (fun u d => d ∈ ys ∧ Stands X.kw H ρ u d) (L'.map (·.1)) ds ∧ ds.map key8 = L'.map (fun l => some l.2) := by
              intro L'
              induction L' with
              | nil => exact fun _ => ⟨[], .nil, rfl⟩
              | cons l L' ih =>
                intro h
                obtain ⟨ds, e, f⟩ := ih fun x hx => h x (List.mem_cons_of_mem _ hx)
                obtain ⟨d, hd, ek, sd⟩ := h l List.mem_cons_self
                exact ⟨d :: ds, .cons ⟨hd, sd⟩ e, by rw [List.map_cons, List.map_cons, ek, f]⟩
            obtain ⟨ds, e, f⟩ := mk L m1
            have ndk : (ds.map key8).Nodup := by
              rw [f]
              have := R.nd
              unfold keysG at this
              rw [show (L.map fun l => some l.2) = (L.map (·.2)).map some by simp [Function.comp_def]]
              exact List.pairwise_map.mpr (this.imp fun h z => h (Option.some.inj z))
            have ndd : ds.Nodup := List.Pairwise.of_map key8 (fun _ _ h z => h (by rw [z])) ndk
            have in1 : ∀ d ∈ ds, d ∈ ys := fun d hd => (each_right e d hd).elim fun _ h => h.1
            have in2 : ∀ d ∈ ys, d ∈ ds := fun d hd => by
              obtain ⟨l, hl, ek⟩ := m2 d hd
              have : key8 d ∈ ds.map key8 := by rw [f, ek]; exact List.mem_map.mpr ⟨l, hl, rfl⟩
              obtain ⟨d', hd', e'⟩ := List.mem_map.mp this
              rw [ek] at e'
              rw [← key8_inj e' ek]; exact hd'
            have pmd : ds.Perm ys := (List.perm_ext_iff_of_nodup ndd nd).mpr fun d => ⟨in1 d, in2 d⟩
            have z1 : ∀ d ∈ ys, (toPy d).isSome = true ∧ (encD d).depth ≤ 60 := fun d hd => by
              have := List.all_eq_true.mp z1 d hd
              rw [Bool.and_eq_true, decide_eq_true_eq] at this
              exact this
            have keyed : ∀ d ∈ ys, (key8 d).isSome = true := fun d hd => by
              obtain ⟨l, _, ek⟩ := m2 d hd
              rw [ek]; rfl
            have len : L.length = ys.length := by
              have h1 := pmd.length_eq
              have h2 := e.length
              rw [List.length_map] at h2
              omega
            have few : es.size ≤ sizeLine := by rw [R.size, len]; exact szOk_le z4
            refine sortedG (β := D) (enc := encD) (R := fun u d => d ∈ ys ∧ Stands X.kw H ρ u d) (I.ok.hd hc) ⟨o, ho, hex.1, hd⟩ R.fits few R.tab.ris R.led fun vs pm => ?_
            have pm2 : (L.map (·.1)).Perm vs := by
              rw [R.rows] at pm
              have : (rowsG X.w L).map (·.2) = L.map (·.1) := by simp [rowsG, Function.comp_def]
              rw [this] at pm
              exact pm.symm
            obtain ⟨bs, pb, eb⟩ := each_perm pm2 e
            have pby : bs.Perm ys := pb.symm.trans pmd
            refine ⟨bs, eb, fun v b ⟨hb, v', rv', vr⟩ => ?_, fun x hx y hy => ?_, ?_, fun b hb => ?_, fun s' p' out c k g o' hp hc' eo => ?_⟩
            · obtain ⟨pp, hpp⟩ := Option.isSome_iff_exists.mp (z1 b hb).1
              obtain ⟨as, ra⟩ := reads I vr rv' hpp
              have en : encD b = pp := by unfold encD; rw [hpp]; rfl
              rw [en]
              rw [reads_nil hpp ra] at ra
              exact ra
            · exact allAlike_ok z2 x ((pby.map encD).mem_iff.mp hx) y ((pby.map encD).mem_iff.mp hy)
            · rcases sortable_ok z3 with h | h
              · exact .inl fun x hx => h x ((pby.map encD).mem_iff.mp hx)
              · exact .inr fun x hx => h x ((pby.map encD).mem_iff.mp hx)
            · have := (z1 b (pby.mem_iff.mp hb)).2
              omega
            · have es' : bs.mergeSort (PySem.W.dataLe false encD) = sortD ys := (sortD_perm pby.symm keyed hz0).symm
              rw [es'] at eo
              obtain ⟨ws, w1, w2⟩ := of_stands (eo.mono fun _ _ h => h.2)
              have hfr : H p' = none := I.hok.fresh hp
              obtain ⟨g4, s4, r4⟩ := sr.newL hfr w1
              have wl : ws.length ≤ sizeLine := by
                rw [← w1.length]
                show (ys.mergeSort _).length ≤ _
                rw [List.length_mergeSort]
                exact szOk_le z4
              have J : Inv X pins σ (upd H p' (.lst ws)) { s with heap := s'.heap, gens := s'.gens, drawn := s'.drawn, toks := s'.toks } := I.call (ch := []) (Un.laid k hp hfr) (I.hok.laid k hp ⟨wl, out, c, w2, hc'⟩) (by rw [g]; exact I.bare) (fun _ z => nomatch z)
              have e3 : s' = { s with heap := s'.heap, gens := s'.gens, drawn := s'.drawn, toks := s'.toks } := by
                cases s'
                cases s
                cases o'
                rfl
              rw [e3]
              exact ⟨.ref p', _, J, rfl, p _ _ g4 s4 _ r4⟩
          · cases hy
        | _ => simp [setAt] at hy
      · exact p.elim
    · exact c_sortL hu pins s σ H _ us Q I r ⟨ρ, st, _, sr, hv, p⟩
  · exact p.elim
end
end L3
namespace L3
open PySem PySem.Spec PyProof.Rows L2

/-! ### a set comprehension with two fors: the code's own steps -/
section
variable {prog : Program} {w : World} {A : Around} {R : Result → Shared → Prop} {s : Shared} {env : Env} {elt t1 it1 t2 it2 : Expr} {ifs1 ifs2 : List Expr} {scope : Scope} {pos : Pos} {it acc : Value}
abbrev sc2 (elt t1 it1 t2 it2 : Expr) (ifs1 ifs2 : List Expr) (scope : Scope) (pos : Pos) : Expr := .SetComp elt [⟨t1, it1, ifs1, 0⟩, ⟨t2, it2, ifs2, 0⟩] scope pos
theorem sc2_turn1 : compTurn (sc2 elt t1 it1 t2 it2 ifs1 ifs2 scope pos) 1 it acc env = (do
      standAt it2.pos
      match ← pyNext it with
      | none => pure (.done .next)
      | some u =>
        letOwnedTupleGo t2 it u
        assign t2 env u
        let mut ok := true
        for c in ifs2 do
          if ok then ok ← isTrue c env (eval c env)
        if ok then
          (do let x ← eval elt env; standAt elt.pos; let _ ← call (.builtin "set.add") [acc, x])
        again (.compLoop (sc2 elt t1 it1 t2 it2 ifs1 ifs2 scope pos) 1 it acc env)) := by rfl
theorem sc2_turn0 : compTurn (sc2 elt t1 it1 t2 it2 ifs1 ifs2 scope pos) 0 it acc env = (do
      standAt it1.pos
      match ← pyNext it with
      | none => pure (.done .next)
      | some u =>
        letOwnedTupleGo t1 it u
        assign t1 env u
        let mut ok := true
        for c in ifs1 do
          if ok then ok ← isTrue c env (eval c env)
        if ok then
          let y ← eval it2 env
          standAt it2.pos
          let y ← foldedSetIterable it2 env y
          let _ ← runOwn (.compStart (sc2 elt t1 it1 t2 it2 ifs1 ifs2 scope pos) 1 (← holding [y] (pyIter y)) acc env) env
        again (.compLoop (sc2 elt t1 it1 t2 it2 ifs1 ifs2 scope pos) 0 it acc env)) := by rfl
abbrev NoE : Value → Shared → Prop := fun _ _ => False
abbrev tests (ifs : List Expr) (env : Env) : Sem Bool := forIn ifs true fun c r => if r = true then do let ok ← isTrue c env (eval c env); pure (ForInStep.yield ok) else pure (ForInStep.yield r)
theorem sc2_loop1 (I : Nat → Shared → Prop)
    (turn : ∀ n s, I n s → wpAny (model prog w) A (pyNext it) (fun r s1 => match r with
      | none => R (.ok .next) s1
      | some u => wpAny (model prog w) A (letOwnedTupleGo t2 it u) (fun _ s2 => wpAny (model prog w) A (assign t2 env u) (fun _ s3 => wpAny (model prog w) A (tests ifs2 env) (fun ok s4 =>
          if ok = true then wpAny (model prog w) A (eval elt env) (fun x s5 => wpAny (model prog w) A (call (.builtin "set.add") [acc, x]) (fun _ s6 => ∃ m, m < n ∧ I m s6) NoE s5) NoE s4 else ∃ m, m < n ∧ I m s4) NoE s3) NoE s2) NoE s1) NoE s)
    (n : Nat) (h : I n s) : codeAny (model prog w) A (.compLoop (sc2 elt t1 it1 t2 it2 ifs1 ifs2 scope pos) 1 it acc env) R s := by
  refine codeAny_loop rfl I (fun n s hI => ?_) n h
  refine (show wpAny _ A ((compTurn (sc2 elt t1 it1 t2 it2 ifs1 ifs2 scope pos) 1 it acc env).onRaise (fun x => do noteFrame x env; theTreesLotGoes x)) _ _ s from wpAny_noted ?_)
  rw [sc2_turn1]
  refine wpAny_bind (wpAny_standAt (wpAny_bind (thnF (turn n s hI) fun r s1 q1 => ?_)))
  cases r with
  | none => exact wpAny_pure q1
  | some u =>
    refine wpAny_bind (thnF q1 fun _ s2 q2 => wpAny_bind (thnF q2 fun _ s3 q3 => wpAny_bind (thnF q3 fun ok s4 q4 => ?_)))
    cases ok with
    | false => exact wpAny_pure ⟨rfl, q4⟩
    | true => exact wpAny_bind (wpAny_bind (thnF q4 fun x s5 q5 => wpAny_bind (wpAny_standAt (wpAny_bind (thnF q5 fun _ s6 q6 => wpAny_pure (wpAny_pure ⟨rfl, q6⟩))))))
theorem sc2_start1 (h0 : codeAny (model prog w) A (.compLoop (sc2 elt t1 it1 t2 it2 ifs1 ifs2 scope pos) 1 it acc env) R s)
    (h : wpAny (model prog w) A (pyIter it) (fun it' s' => codeAny (model prog w) A (.compLoop (sc2 elt t1 it1 t2 it2 ifs1 ifs2 scope pos) 1 it' acc env) R s') NoE s) : codeAny (model prog w) A (.compStart (sc2 elt t1 it1 t2 it2 ifs1 ifs2 scope pos) 1 it acc env) R s := by
  refine codeAny_of_tree (show wpAny _ A ((compStart (sc2 elt t1 it1 t2 it2 ifs1 ifs2 scope pos) 1 it acc env).onRaise (fun x => do noteFrame x env; standAt theWindowsPlace)) _ _ s from wpAny_notedAt ?_)
  unfold compStart
  refine (show wpAny _ A (ask >>= _) _ _ s from wpAny_bind (wpAny_askSetting (wpAny_ite ?_)))
  split
  · first
      | exact wpAny_bind (wpAny_pure (wpAny_pure (And.intro rfl h0)))
      | exact wpAny_pure (And.intro rfl h0)
  · first
      | exact wpAny_bind (wpAny_rule (wpAny_bind (wpAny_standAt (wpAny_bind (thnF h fun it' s' h' => wpAny_pure (And.intro rfl h'))))))
      | (refine wpAny_bind (wpAny_rule ?_); show wpAny _ A (standAt it2.pos >>= _) _ _ s; exact wpAny_bind (wpAny_standAt (wpAny_bind (thnF h fun it' s' h' => wpAny_pure (And.intro rfl h')))))
theorem sc2_loop0 (I : Nat → Shared → Prop) (hs : ∀ x, foldedSetIterable it2 env x = pure x)
    (turn : ∀ n s, I n s → wpAny (model prog w) A (pyNext it) (fun r s1 => match r with
      | none => R (.ok .next) s1
      | some u => wpAny (model prog w) A (letOwnedTupleGo t1 it u) (fun _ s2 => wpAny (model prog w) A (assign t1 env u) (fun _ s3 => wpAny (model prog w) A (tests ifs1 env) (fun ok s4 =>
          if ok = true then wpAny (model prog w) A (eval it2 env) (fun y s5 => wpAny (model prog w) A (pyIter y) (fun z s6 => (∀ (Q : Value → Shared → Prop), Q z s6 → wpAny (model prog w) A (pyIter z) Q NoE s6) ∧
            codeAny (model prog w) A (.compLoop (sc2 elt t1 it1 t2 it2 ifs1 ifs2 scope pos) 1 z acc env) (fun r s7 => r = .ok .next ∧ ∃ m, m < n ∧ I m s7) s6) NoE s5) NoE s4 else ∃ m, m < n ∧ I m s4) NoE s3) NoE s2) NoE s1) NoE s)
    (n : Nat) (h : I n s) : codeAny (model prog w) A (.compLoop (sc2 elt t1 it1 t2 it2 ifs1 ifs2 scope pos) 0 it acc env) R s := by
  refine codeAny_loop rfl I (fun n s hI => ?_) n h
  refine (show wpAny _ A ((compTurn (sc2 elt t1 it1 t2 it2 ifs1 ifs2 scope pos) 0 it acc env).onRaise (fun x => do noteFrame x env; theTreesLotGoes x)) _ _ s from wpAny_noted ?_)
  rw [sc2_turn0]
  refine wpAny_bind (wpAny_standAt (wpAny_bind (thnF (turn n s hI) fun r s1 q1 => ?_)))
  cases r with
  | none => exact wpAny_pure q1
  | some u =>
    refine wpAny_bind (thnF q1 fun _ s2 q2 => wpAny_bind (thnF q2 fun _ s3 q3 => wpAny_bind (thnF q3 fun ok s4 q4 => ?_)))
    cases ok with
    | false => exact wpAny_pure ⟨rfl, q4⟩
    | true =>
      refine wpAny_bind (thnF q4 fun y s5 q5 => wpAny_bind (wpAny_standAt (wpAny_bind (wpAny_of_eq (hs y) (wpAny_bind (wpAny_holding (thnF q5 fun z s6 ⟨self, q6⟩ => wpAny_bind (wpAny_runOwn ?_))))))))
      have lp := codeAny_mono q6 (R' := fun r s' => match r with
        | .ok f => wpAny (model prog w) A (again (.compLoop (sc2 elt t1 it1 t2 it2 ifs1 ifs2 scope pos) 0 it acc env)) (fun fin s' => match fin with
            | .done f => R (.ok f) s'
            | .again c' => c' = .compLoop (sc2 elt t1 it1 t2 it2 ifs1 ifs2 scope pos) 0 it acc env ∧ ∃ m, m < n ∧ I m s') (notedBy (model prog w) A env fun e s' => R (.error e) s') s'
        | .error e => cameBackBy (model prog w) A env (notedBy (model prog w) A env fun e s' => R (.error e) s') e s') fun r s' ⟨e, q⟩ => by
          subst e
          exact wpAny_pure ⟨rfl, q⟩
      exact sc2_start1 lp (self _ lp)
end
end L3
namespace L3
open PySem PySem.Spec PyProof.Rows L2

/-! ### the turns of two fors -/
def lcGo2 (t1 : Tg) (ok1 : Sto → Bool) (c1 : Mo Bool) (m2 : Mo Src) (t2 : Tg) (c2 : Mo Bool) (e : Mo D) (env : En) : List D → Sto → R (List D)
  | [], st => if ok1 st then .ok [] st else .stuck
  | x :: xs, st => if ok1 st then
      match setT t1 x env with
      | some env1 => (c1 env1 st).nox.bind fun b st2 => if b = true then (m2 env1 st2).nox.bind fun src st3 => (lcGo t2 src.2 c2 e (wipeE env1 (namesT t2)) src.1 st3).bind fun r1 st4 => (lcGo2 t1 ok1 c1 m2 t2 c2 e env xs st4).bind fun r st5 => .ok (r1 ++ r) st5
          else lcGo2 t1 ok1 c1 m2 t2 c2 e env xs st2
      | none => .stuck
    else .stuck
def setOkD (l : List D) : Bool := l.all isTup && fitD l
def scFin (l : List D) (st : Sto) : R D := if setOkD l then .ok (.ref st.length) (st ++ [.set (dedupD [] l)]) else .stuck
@[simp] def mSc2 (vs : List Nat) (m : Mo Src) (t1 : Tg) (c1 : Mo Bool) (m2 : Mo Src) (t2 : Tg) (c2 : Mo Bool) (e : Mo D) : Mo D := fun env st => (m env st).bind fun src st1 => (lcGo2 t1 src.2 c1 m2 t2 c2 e (wipeE env vs) src.1 st1).bind scFin
theorem R.bind_bind {α β γ : Type} (r : R α) (f : α → Sto → R β) (g : β → Sto → R γ) : (r.bind f).bind g = r.bind fun a s => (f a s).bind g := by cases r <;> rfl
/-- no exception comes of the turns -/
def NoX {α : Type} (r : R α) : Prop := ∀ c fs st, r ≠ .exn c fs st
theorem NoX.nox {α : Type} (r : R α) : NoX r.nox := fun c fs st => by cases r <;> simp
theorem NoX.bind {α β : Type} {r : R α} {f : α → Sto → R β} (h : NoX r) (k : ∀ a s, NoX (f a s)) : NoX (r.bind f) := fun c fs st => by
  cases r with
  | ok a s => exact k a s c fs st
  | exn a b s => exact absurd rfl (h a b s)
  | stuck => exact fun z => nomatch z
theorem NoX.ok {α : Type} (a : α) (s : Sto) : NoX (.ok a s) := fun c fs st z => nomatch z
theorem NoX.stuck {α : Type} : NoX (.stuck : R α) := fun c fs st z => nomatch z
theorem lcGo_nox (t : Tg) (ok : Sto → Bool) (c : Mo Bool) (e : Mo D) (env : En) : ∀ (xs : List D) (st : Sto), NoX (lcGo t ok c e env xs st)
  | [], st => by
    rw [lcGo]
    split
    · exact NoX.ok _ _
    · exact NoX.stuck
  | x :: xs, st => by
    rw [lcGo]
    split
    · split
      · refine (NoX.nox _).bind fun b s => ?_
        split
        · exact (NoX.nox _).bind fun d s => (lcGo_nox t ok c e env xs s).bind fun r s => NoX.ok _ _
        · exact lcGo_nox t ok c e env xs s
      · exact NoX.stuck
    · exact NoX.stuck
theorem lcGo2_nox (t1 : Tg) (ok1 : Sto → Bool) (c1 : Mo Bool) (m2 : Mo Src) (t2 : Tg) (c2 : Mo Bool) (e : Mo D) (env : En) : ∀ (xs : List D) (st : Sto), NoX (lcGo2 t1 ok1 c1 m2 t2 c2 e env xs st)
  | [], st => by
    rw [lcGo2]
    split
    · exact NoX.ok _ _
    · exact NoX.stuck
  | x :: xs, st => by
    rw [lcGo2]
    split
    · split
      · refine (NoX.nox _).bind fun b s => ?_
        split
        · exact (NoX.nox _).bind fun src s => NoX.bind (lcGo_nox t2 src.2 c2 e _ src.1 s) fun r s => NoX.bind (lcGo2_nox t1 ok1 c1 m2 t2 c2 e env xs s) fun r s => NoX.ok _ _
        · exact lcGo2_nox t1 ok1 c1 m2 t2 c2 e env xs s
      · exact NoX.stuck
    · exact NoX.stuck
theorem Post.some {α β : Type} {K : KW} {E : XK} {H : Hp} {ρ : List Addr} {r : R α} {f : α → Sto → R β} {T : β → Sto → Hp → List Addr → Prop} (n : NoX r) (p : Post K E H ρ (r.bind f) T) : ∃ a s, r = .ok a s ∧ Post K E H ρ (f a s) T := by
  cases r with
  | ok a s => exact ⟨a, s, rfl, p⟩
  | exn a b s => exact absurd rfl (n a b s)
  | stuck => exact p.elim
theorem scFin_ok {K : KW} {E : XK} {H : Hp} {ρ : List Addr} {l : List D} {st : Sto} {T : D → Sto → Hp → List Addr → Prop} (p : Post K E H ρ (scFin l st) T) : setOkD l = true := by
  unfold scFin at p
  split at p
  · assumption
  · exact p.elim

/-! ### a thing beside the store -/
theorem KVR.still {K : KW} {H H' : Hp} {ρ ρ' : List Addr} (g : Still H ρ H' ρ') : ∀ {kvs : List (D × D)} {es : List (Key × V)}, KVR K H ρ kvs es → KVR K H' ρ' kvs es
  | _, _, .nil => .nil
  | _, _, .cons k h r => .cons k (h.still g) (KVR.still g r)
theorem SR.offN {K : KW} {H : Hp} {ρ : List Addr} {st : Sto} (s : SR K H ρ st) {p : Addr} {o : HO} (hp : NoT H p) (hn : p ∉ ρ) : Still H ρ (upd H p o) ρ ∧ SR K (upd H p o) ρ st := by
  have g : Still H ρ (upd H p o) ρ := ⟨⟨[], by simp⟩, fun a u e i => by
    rw [upd_ne]
    · exact e
    · intro z
      subst z
      obtain ⟨u', e', n1, n2⟩ := hp
      rw [e] at e'
      cases e'
      rcases i with ⟨xs, i⟩ | ⟨ob, w, i⟩
      · exact n1 xs i
      · exact n2 ob w i⟩
  refine ⟨g, s.len, s.nd, fun i x u e1 e2 => ?_, fun x hx => ?_⟩
  · have ne : x ≠ p := fun z => hn (z ▸ List.mem_of_getElem? e1)
    have h := s.ob i x u e1 e2
    cases u with
    | lst xs => obtain ⟨vs, e, r⟩ := h; exact ⟨vs, (upd_ne ne).trans e, r.still g⟩
    | dic kvs => obtain ⟨es, e, r⟩ := h; exact ⟨es, (upd_ne ne).trans e, r.still g⟩
    | set xs => obtain ⟨nd, M, e, r⟩ := h; exact ⟨nd, M, (upd_ne ne).trans e, r.still g⟩
  · obtain ⟨u, e, n1, n2⟩ := s.nt x hx
    exact ⟨u, by rw [upd_ne (fun q : x = p => hn (by rw [← q]; exact hx))]; exact e, n1, n2⟩
theorem noT_set {H : Hp} {p : Addr} {w : World} {M : List (V × NestedKey)} (h : H p = some (SetGO w p M)) : NoT H p := ⟨_, h, (fun _ z => nomatch z), (fun _ _ z => nomatch z)⟩

section
variable {Y : Cx} {pins : List (Addr × Obj)} {σ : L2.St} {H : Hp} {s : Shared} {ρ : List Addr}
/-- set.add of a member -/
theorem addS_ok {E : Value → Shared → Prop} {p : Addr} {M : List (V × NestedKey)} {acc tot : List D} {d : D} {v : V} {u : Value} {Q : Value → Shared → Prop} (hu : Y.A.units + 64 < cLine) (I : Inv Y pins σ H s) (hp : H p = some (SetGO Y.w p M)) (mem : MemOf Y.kw H ρ acc M)
    (hv : VR Y.kw H ρ d v) (r : RelV v u) (ok : setOkD tot = true) (sub : ∀ x ∈ acc ++ [d], x ∈ tot) (fin : ∀ s' M', Inv Y pins σ (upd H p (SetGO Y.w p M')) s' → MemOf Y.kw H ρ (acc ++ [d]) M' → Q .none s') : wpAny (model Y.prog Y.w) Y.A (call (.builtin "set.add") [.ref p, u]) Q E s := by
  unfold setOkD at ok
  rw [Bool.and_eq_true] at ok
  have fit := fitD_ok (w := Y.w) ok.2
  have tups : ∀ x ∈ tot, isTup x = true := fun x hx => List.all_eq_true.mp ok.1 x hx
  have keyed := fitD_key ok.2
  obtain ⟨L, es, ep, t, R, m1, m2, eM, rvl⟩ := setGO_get I hp mem
  obtain ⟨k, hk⟩ := Option.isSome_iff_exists.mp (keyed d (sub d (by simp)))
  have sd : Stands Y.kw H ρ u d := ⟨v, r, hv⟩
  obtain ⟨x, hx⟩ := stands_ref sd (tups d (sub d (by simp)))
  subst hx
  have isK : IsK s.heap k (.ref x) := ⟨key_is I hv r (key8_nk hk).1, (key8_nk hk).2⟩
  have kin : ∀ {e : D}, e ∈ tot → ∀ {j : NestedKey}, key8 e = some j → j ∈ tot.map keyOfD := fun {e} he {j} hj => List.mem_map.mpr ⟨e, he, by unfold keyOfD; rw [hj]; rfl⟩
  have subL : ∀ j ∈ keysG L, j ∈ tot.map keyOfD := fun j hj => by
    obtain ⟨l, hl, rfl⟩ := List.mem_map.mp hj
    obtain ⟨e, he, ek, _⟩ := m1 l hl
    exact kin (sub e (List.mem_append_left _ he)) ek
  have fitL : FitK Y.w (keysG L) := fit.of_sub R.nd subL
  have few : L.length < 50000 := by
    have := fitL.small
    rwa [show (keysG L).length = L.length from List.length_map _] at this
  refine call_put (P := Y.prog) R (fun l hl => ?_) isK (by omega) fitL few fun h' L' es' ep' t' sb R' c1 c2 => ?_
  · obtain ⟨e, he, _, se⟩ := m1 l hl
    exact stands_ref se (tups e (sub e (List.mem_append_left _ he)))
  have mem' : ∀ l, l ∈ L' ↔ l ∈ L ∨ (k ∉ keysG L ∧ l = (Value.ref x, k)) := fun l => by
    by_cases c : k ∈ keysG L
    · rw [c1 c]; simp [c]
    · rw [(c2 c).mem_iff, List.mem_cons]
      constructor
      · rintro (z | z)
        · exact .inr ⟨c, z⟩
        · exact .inl z
      · rintro (z | ⟨_, z⟩)
        · exact .inr z
        · exact .inl z
  have rvl' : ∀ l ∈ L', RelV (vOf l.1) l.1 := fun l hl => by
    rcases (mem' l).mp hl with z | ⟨_, z⟩
    · exact rvl l z
    · rw [z]; exact (stands_vOf sd hk).1
  refine fin _ (mOf L') (I.write (e := p) (t' := s.toks + k.draws) (by rw [hp]; trivial) (.inl rfl) (fun b u hb hu => (sb.2 b hb).trans hu) (let ⟨o, ho, _⟩ := R'.ob; ⟨o, ho⟩) (setGO_new R' rvl')) ⟨fun m hm => ?_, fun e he => ?_⟩
  · obtain ⟨l, hl, rfl⟩ := List.mem_map.mp hm
    rcases (mem' l).mp hl with z | ⟨_, z⟩
    · obtain ⟨e, he, ek, se⟩ := m1 l z
      exact ⟨e, List.mem_append_left _ he, (stands_vOf se ek).2, ek⟩
    · rw [z]; exact ⟨d, by simp, (stands_vOf sd hk).2, hk⟩
  · rcases List.mem_append.mp he with he | he
    · obtain ⟨l, hl, ek⟩ := m2 e he
      exact ⟨(vOf l.1, l.2), List.mem_map.mpr ⟨l, (mem' l).mpr (.inl hl), rfl⟩, ek⟩
    · rw [List.mem_singleton.mp he]
      by_cases c : k ∈ keysG L
      · obtain ⟨l, hl, el⟩ := List.mem_map.mp c
        exact ⟨(vOf l.1, l.2), List.mem_map.mpr ⟨l, (mem' l).mpr (.inl hl), rfl⟩, by rw [hk, ← el]⟩
      · exact ⟨(vOf (.ref x), k), List.mem_map.mpr ⟨(.ref x, k), (mem' _).mpr (.inr ⟨c, rfl⟩), rfl⟩, hk⟩
end
end L3
namespace L3
open PySem PySem.Spec PyProof.Rows L2

theorem Grow.out {H H' : Hp} {ρ ρ' : List Addr} (g : Grow H ρ H' ρ') {p : Addr} {o : HO} (h : H p = some o) (hn : p ∉ ρ) : p ∉ ρ' := fun hm => by
  obtain ⟨m, em, f⟩ := g.pre
  rw [em] at hm
  rcases List.mem_append.mp hm with z | z
  · exact hn z
  · rw [(f p z).2] at h; cases h
theorem Grow.beside {H H' : Hp} {ρ ρ' : List Addr} (g : Grow H ρ H' ρ') {p : Addr} {o : HO} (h : H p = none) : Grow H ρ (upd H' p o) ρ' := ⟨g.pre, fun a u ha hna => by rw [upd_ne (ne_of_none ha h)]; exact g.keep a u ha hna⟩
/-- a thing that stands beside the store gets a number -/
theorem SR.name {K : KW} {H : Hp} {ρ : List Addr} {st : Sto} (s : SR K H ρ st) {p : Addr} {ob : Ob} (hn : p ∉ ρ) (h : OR K H (ρ ++ [p]) p ob) (nt : NoT H p) : SR K H (ρ ++ [p]) (st ++ [ob]) ∧ VR K H (ρ ++ [p]) (.ref st.length) (.ref p) := by
  have up : ∀ (i : Nat) (x : Addr), ρ[i]? = some x → (ρ ++ [p])[i]? = some x := fun i x e => by
    rw [List.getElem?_append_left (List.getElem?_eq_some_iff.mp e).1]; exact e
  refine ⟨⟨by simp [s.len], ?_, fun i x u e1 e2 => ?_, fun x hx => ?_⟩, p, by rw [← s.len]; simp, rfl⟩
  · rw [List.nodup_append]
    exact ⟨s.nd, by simp, fun x hx y hy => by rw [List.mem_singleton.mp hy]; intro z; exact hn (z ▸ hx)⟩
  · by_cases hi : i < ρ.length
    · rw [List.getElem?_append_left hi] at e1
      rw [List.getElem?_append_left (by rw [← s.len]; exact hi)] at e2
      exact (s.ob i x u e1 e2).keep (fun _ _ e _ => e) up s.nt rfl
    · rw [List.getElem?_append_right (by omega)] at e1
      rw [List.getElem?_append_right (by rw [← s.len]; omega), ← s.len] at e2
      have : i - ρ.length = 0 := by
        have := (List.getElem?_eq_some_iff.mp e1).1
        simpa using this
      rw [this] at e1 e2
      cases e1
      cases e2
      exact h
  · rcases List.mem_append.mp hx with z | z
    · exact s.nt x z
    · rw [List.mem_singleton.mp z]; exact nt
theorem nox_is {α : Type} {r : R α} {a : α} {s : Sto} (h : r.nox = .ok a s) : r = .ok a s := by
  cases r <;> simp at h
  obtain ⟨rfl, rfl⟩ := h
  rfl

section
variable {Y : Cx} {pins : List (Addr × Obj)} {s : Shared} {elt t1e it1 t2e it2 : Expr} {ifs1 ifs2 : List Expr} {scope : Scope} {pos : Pos} {E : XK}
/-- the state between turns: p is the new set, beside the store -/
structure ScSt (Y : Cx) (E : XK) (pins : List (Addr × Obj)) (σ : L2.St) (H1 : Hp) (ρ1 : List Addr) (p : Addr) (C : List D → Sto → R D) (T : D → Sto → Hp → List Addr → Prop) (H' : Hp) (ρ' : List Addr) (st : Sto) (acc : List D) (s : Shared) : Prop where
  inv : Inv Y pins σ H' s
  g : Grow H1 ρ1 H' ρ'
  sr : SR Y.kw H' ρ' st
  set : ∃ M, H' p = some (SetGO Y.w p M) ∧ MemOf Y.kw H' ρ' acc M
  out : p ∉ ρ'
  post : Post Y.kw E H1 ρ1 (C acc st) T
/-- the inner loop -/
theorem sc2_inner (hc : Y.calm = true) (hxe : Y.xe = NoE) (hu : Y.A.units + 64 < cLine) {t2 : Tg} {c2 : Mo Bool} {e : Mo D} (hg : PT' Y t2e t2) (ht : DTs Y E0 ifs2 c2) (he : DE Y E0 elt e)
    {ys : List D} {ok2 : Sto → Bool} {J : It} {z p : Addr} {fp2 : List Addr} {tn2 : Nat → Heap → Prop} (T2 : Turn Y.prog Y.w Y.K t2e J fp2 z tn2) {env2 : En} {σ2 : L2.St} {Hb H1 : Hp} {ρb ρ1 : List Addr} (er : ER Y.kw Hb ρb env2 σ2) (hw : wipe σ2 (namesT t2) = σ2) (hJ : ItOk Y.kw J Hb ρb ys ok2)
    (hp1 : H1 p = none) {Kc : List D → Sto → R D} {T : D → Sto → Hp → List Addr → Prop} (hK : ∀ l st, Post Y.kw E H1 ρ1 (Kc l st) T → ∃ r, setOkD (l ++ r) = true) {stB : Sto} {acc : List D} (tn0 : tn2 0 s.heap) (f2 : ∀ b ∈ fp2, FpOk Y pins Hb b)
    (S0 : ScSt Y E pins σ2 H1 ρ1 p (fun acc st => (lcGo t2 ok2 c2 e env2 ys st).bind fun r st4 => Kc (acc ++ r) st4) T Hb ρb stB acc s) :
    codeAny (model Y.prog Y.w) Y.A (.compLoop (sc2 elt t1e it1 t2e it2 ifs1 ifs2 scope pos) 1 (.ref z) (.ref p) Y.env) (fun r s' => r = .ok .next ∧ ∃ H' ρ' st' acc', Still Hb ρb H' ρ' ∧ ScSt Y E pins σ2 H1 ρ1 p Kc T H' ρ' st' acc' s') s := by
  refine sc2_loop1 (fun n s' => ∃ j H' ρ' st' acc', n = ys.length - j ∧ j ≤ ys.length ∧ tn2 j s'.heap ∧ (∀ b ∈ fp2, H' b = none) ∧ Still Hb ρb H' ρ' ∧ ScSt Y E pins σ2 H1 ρ1 p (fun acc st => (lcGo t2 ok2 c2 e env2 (ys.drop j) st).bind fun r st4 => Kc (acc ++ r) st4) T H' ρ' st' acc' s')
    ?_ ys.length ⟨0, Hb, ρb, stB, acc, by simp, Nat.zero_le _, tn0, fun b hb => (f2 b hb).1, Still.refl _ _, S0⟩
  rintro n s5 ⟨j, H5, ρ5, st5, acc5, rfl, hj, tnj, n5, still5, S5⟩
  have stat : ∀ {H' : Hp}, (∀ b ∈ fp2, H' b = none) → ∀ b ∈ fp2, FpOk Y pins H' b := fun hn b hb => ⟨hn b hb, (f2 b hb).2⟩
  obtain ⟨M5, hp5, mem5⟩ := S5.set
  have p5 := S5.post
  by_cases hlt : j < ys.length
  · rw [List.drop_eq_getElem_cons hlt, lcGo] at p5
    split at p5
    · rename_i hok
      obtain ⟨hgo, hyl⟩ := (hJ j H5 ρ5 st5 still5 S5.sr hok).1 ys[j] (List.getElem?_eq_getElem hlt)
      refine thnF (T2.item Y rfl rfl rfl hc j pins s5 σ2 H5 NoE S5.inv (stat n5) tnj hgo) fun r s6 ⟨u, hr, h6⟩ => ?_
      subst hr
      refine thnF h6 fun _ s7 ⟨x, H7, I7, r7, y7, tn7, n7⟩ => ?_
      obtain ⟨g7, s7', v7⟩ := hyl x H7 y7
      have I7' := I7.pinned (stat n7) (T2.obj _ _ tn7)
      split at p5
      · rename_i env3 e3
        have er7 : ER Y.kw H7 ρ5 env2 σ2 := (er.still still5).grow g7 S5.sr
        have as := hg.run _ s7 σ2 H7 x u (fun σ8 H8 => H8 = H7 ∧ ER Y.kw H7 ρ5 env3 σ8 ∧ wipe σ8 (namesT t2) = σ2) I7' r7 (setT_ok er7 v7 e3 fun σ8 er8 w8 => ⟨rfl, er8, (w8 _ fun i hi => hi).trans hw⟩)
        rw [hxe] at as
        refine thnF as fun _ s8 ⟨σ8, H8, I8, e8, er8, w8⟩ => ?_
        subst e8
        obtain ⟨b, st9, eb, p6⟩ := Post.some (NoX.nox _) (by rw [R.bind_bind] at p5; exact p5)
        have eb := nox_is eb
        dsimp only at p6
        have ts := ht.run _ s8 σ8 H8 (fun b' H9 => b' = b ∧ ∃ ρ9, Grow H8 ρ5 H9 ρ9 ∧ SR Y.kw H9 ρ9 st9) I8 ⟨ρ5, env3, st5, er8, s7', by rw [eb]; exact fun H9 ρ9 g9 s9 => ⟨rfl, ρ9, g9, s9⟩⟩
        rw [hxe] at ts
        refine thnF ts fun b' s9 ⟨H9, I9, e9, ρ9, g9, s9'⟩ => ?_
        subst e9
        have g59 : Grow H5 ρ5 H9 ρ9 := g7.trans g9
        have hp9 : H9 p = some (SetGO Y.w p M5) := g59.keep _ _ hp5 S5.out
        have pn9 : p ∉ ρ9 := g59.out hp5 S5.out
        have st59 : Still Hb ρb H9 ρ9 := still5.trans (g59.still S5.sr)
        have mem9 : MemOf Y.kw H9 ρ9 acc5 M5 := mem5.still (g59.still S5.sr)
        -- the turn's end
        have close : ∀ {s' : Shared} {H' : Hp} {ρ' : List Addr} {st' : Sto} {acc' : List D}, Inv Y (pins ++ pinsAt fp2 s7.heap) σ8 H' s' → Still Hb ρb H' ρ' → Grow H1 ρ1 H' ρ' → SR Y.kw H' ρ' st' → (∃ M, H' p = some (SetGO Y.w p M) ∧ MemOf Y.kw H' ρ' acc' M) → p ∉ ρ' → Post Y.kw E H1 ρ1 ((lcGo t2 ok2 c2 e env2 (ys.drop (j + 1)) st').bind fun r st4 => Kc (acc' ++ r) st4) T →
            ∃ m, m < ys.length - j ∧ ∃ j' H'' ρ'' st'' acc'', m = ys.length - j' ∧ j' ≤ ys.length ∧ tn2 j' s'.heap ∧ (∀ b ∈ fp2, H'' b = none) ∧ Still Hb ρb H'' ρ'' ∧ ScSt Y E pins σ2 H1 ρ1 p (fun acc st => (lcGo t2 ok2 c2 e env2 (ys.drop j') st).bind fun r st4 => Kc (acc ++ r) st4) T H'' ρ'' st'' acc'' s' := fun {s' H' ρ' st' acc'} I' sl gg ss se oo pp => by
          have pin' : ∀ b ∈ fp2, ∀ o, s7.heap.get? b = some o → s'.heap.get? b = some o ∧ H' b = none := fun b hb o e =>
            let z := I'.pin (b, o) (List.mem_append_right _ (List.mem_append_right _ (mem_pinsAt hb e)))
            ⟨z.1, z.2.1⟩
          have hl : σ2.length = σ8.length := by rw [← w8, wipe_length]
          refine ⟨ys.length - (j + 1), by omega, j + 1, H', ρ', st', acc', rfl, hlt, T2.keep _ _ _ tn7 fun b hb o e => (pin' b hb o e).1, fun b hb => ?_, sl, ⟨(I'.unpinned (pins := pins)).weak hl fun i v ev => ?_, gg, ss, se, oo, pp⟩⟩
          · obtain ⟨o, eo, _⟩ := T2.obj _ _ tn7 b hb
            exact (pin' b hb o eo).2
          · rw [← w8] at ev
            exact (wipe_some ev).1
        cases b' with
        | false =>
          rw [if_neg Bool.false_ne_true] at p6
          simp only [Bool.false_eq_true, if_false]
          exact close I9 st59 (S5.g.trans g59) s9' ⟨M5, hp9, mem9⟩ pn9 p6
        | true =>
          rw [if_pos rfl, R.bind_bind] at p6
          simp only [if_true]
          obtain ⟨d, st10, ed, p7⟩ := Post.some (NoX.nox _) p6
          have ed := nox_is ed
          rw [R.bind_bind] at p7
          have p7 : Post Y.kw E H1 ρ1 ((lcGo t2 ok2 c2 e env2 (ys.drop (j + 1)) st10).bind fun r st4 => Kc ((acc5 ++ [d]) ++ r) st4) T := by
            have e1 : (fun (r : List D) (st4 : Sto) => Kc ((acc5 ++ [d]) ++ r) st4) = fun r st4 => (R.ok (d :: r) st4).bind fun r st4 => Kc (acc5 ++ r) st4 := by
              funext r st4
              rw [bind_ok, List.append_assoc, List.singleton_append]
            rw [e1]; exact p7
          have ev := he.run _ s9 σ8 H9 (fun v H10 => ∃ ρ10, Grow H9 ρ9 H10 ρ10 ∧ SR Y.kw H10 ρ10 st10 ∧ VR Y.kw H10 ρ10 d v) I9 ⟨ρ9, env3, st9, er8.grow g9 s7', s9', by rw [ed]; exact fun H10 ρ10 g10 s10 v hv => ⟨ρ10, g10, s10, hv⟩⟩
          rw [hxe] at ev
          refine thnF ev fun y s10 ⟨v, H10, I10, r10, ρ10, g10, s10', hv⟩ => ?_
          have hp10 : H10 p = some (SetGO Y.w p M5) := g10.keep _ _ hp9 pn9
          have pn10 : p ∉ ρ10 := g10.out hp9 pn9
          have mem10 := mem9.still (g10.still s9')
          obtain ⟨r, st11, _, p8⟩ := Post.some (lcGo_nox t2 ok2 c2 e env2 (ys.drop (j + 1)) st10) p7
          obtain ⟨r', ok'⟩ := hK _ _ p8
          refine addS_ok hu I10 hp10 mem10 hv r10 ok' (fun x hx => by rw [List.append_assoc]; exact List.mem_append_left _ hx) fun s11 M' I11 mem11 => ?_
          obtain ⟨st12, s12⟩ := s10'.offN (o := SetGO Y.w p M') (noT_set hp10) pn10
          exact close I11 ((st59.trans (g10.still s9')).trans st12) ((S5.g.trans (g59.trans g10)).beside hp1) s12 ⟨M', upd_same, mem11.still st12⟩ pn10 p7
      · exact p5.elim
    · exact p5.elim
  · have e0 : j = ys.length := by omega
    subst e0
    rw [List.drop_length, lcGo] at p5
    split at p5
    · rename_i hok
      refine thnF (T2.done Y rfl rfl rfl hc _ pins s5 σ2 H5 NoE S5.inv (stat n5) tnj ((hJ _ H5 ρ5 st5 still5 S5.sr hok).2 (Nat.le_refl _))) fun r s6 ⟨hr, I6⟩ => ?_
      subst hr
      rw [bind_ok, List.append_nil] at p5
      exact ⟨rfl, H5, ρ5, st5, acc5, still5, I6, S5.g, S5.sr, S5.set, S5.out, p5⟩
    · exact p5.elim
end
end L3
namespace L3
open PySem PySem.Spec PyProof.Rows L2

section
variable {Y : Cx} {pins : List (Addr × Obj)} {s : Shared} {elt t1e it1 t2e it2 : Expr} {ifs1 ifs2 : List Expr} {scope : Scope} {pos : Pos} {E : XK}
/-- the outer loop -/
theorem sc2_outer (hc : Y.calm = true) (hxe : Y.xe = NoE) (hu : Y.A.units + 64 < cLine) {t1 t2 : Tg} {c1 c2 : Mo Bool} {m2 : Mo Src} {e : Mo D} (hg1 : PT' Y t1e t1) (ht1 : DTs Y E0 ifs1 c1) (hi2 : DI Y E0 t2e it2 m2) (hg2 : PT' Y t2e t2) (ht2 : DTs Y E0 ifs2 c2) (he : DE Y E0 elt e)
    (hs2 : ∀ x, foldedSetIterable it2 Y.env x = pure x) {vs : List Nat} (hn1 : ∀ i ∈ namesT t1, i ∈ vs) (hn2 : ∀ i ∈ namesT t2, i ∈ vs)
    {xs : List D} {ok1 : Sto → Bool} {J : It} {z p : Addr} {fp : List Addr} {tn : Nat → Heap → Prop} (T1 : Turn Y.prog Y.w Y.K t1e J fp z tn) {env0 : En} {σ0 : L2.St} {Hb H1 : Hp} {ρb ρ1 : List Addr} (er : ER Y.kw Hb ρb env0 σ0) (hw : wipe σ0 vs = σ0) (hJ : ItOk Y.kw J Hb ρb xs ok1)
    (hp1 : H1 p = none) {T : D → Sto → Hp → List Addr → Prop} {RR : Result → Shared → Prop} {stB : Sto} {acc : List D} (tn0 : tn 0 s.heap) (f1 : ∀ b ∈ fp, Hb b = none) (stat : ∀ {H' : Hp} {s' : Shared}, Inv Y [] σ0 H' s' → (∀ b ∈ fp, H' b = none) → ∀ b ∈ fp, FpOk Y [] H' b)
    (S0 : ScSt Y E [] σ0 H1 ρ1 p (fun acc st => (lcGo2 t1 ok1 c1 m2 t2 c2 e env0 xs st).bind fun r st' => scFin (acc ++ r) st') T Hb ρb stB acc s)
    (fin : ∀ H' ρ' st' acc' s', Still Hb ρb H' ρ' → ScSt Y E [] σ0 H1 ρ1 p scFin T H' ρ' st' acc' s' → RR (.ok .next) s') :
    codeAny (model Y.prog Y.w) Y.A (.compLoop (sc2 elt t1e it1 t2e it2 ifs1 ifs2 scope pos) 0 (.ref z) (.ref p) Y.env) RR s := by
  refine sc2_loop0 (fun n s' => ∃ j H' ρ' st' acc', n = xs.length - j ∧ j ≤ xs.length ∧ tn j s'.heap ∧ (∀ b ∈ fp, H' b = none) ∧ Still Hb ρb H' ρ' ∧ ScSt Y E [] σ0 H1 ρ1 p (fun acc st => (lcGo2 t1 ok1 c1 m2 t2 c2 e env0 (xs.drop j) st).bind fun r st' => scFin (acc ++ r) st') T H' ρ' st' acc' s')
    hs2 ?_ xs.length ⟨0, Hb, ρb, stB, acc, by simp, Nat.zero_le _, tn0, f1, Still.refl _ _, S0⟩
  rintro n s5 ⟨j, H5, ρ5, st5, acc5, rfl, hj, tnj, n5, still5, S5⟩
  obtain ⟨M5, hp5, mem5⟩ := S5.set
  have p5 := S5.post
  by_cases hlt : j < xs.length
  · rw [List.drop_eq_getElem_cons hlt, lcGo2] at p5
    split at p5
    · rename_i hok
      obtain ⟨hgo, hyl⟩ := (hJ j H5 ρ5 st5 still5 S5.sr hok).1 xs[j] (List.getElem?_eq_getElem hlt)
      refine thnF (T1.item Y rfl rfl rfl hc j [] s5 σ0 H5 NoE S5.inv (stat S5.inv n5) tnj hgo) fun r s6 ⟨u, hr, h6⟩ => ?_
      subst hr
      refine thnF h6 fun _ s7 ⟨x, H7, I7, r7, y7, tn7, n7⟩ => ?_
      obtain ⟨g7, s7', v7⟩ := hyl x H7 y7
      have I7' := I7.pinned (stat I7 n7) (T1.obj _ _ tn7)
      split at p5
      · rename_i env3 e3
        have er7 : ER Y.kw H7 ρ5 env0 σ0 := (er.still still5).grow g7 S5.sr
        have as := hg1.run _ s7 σ0 H7 x u (fun σ8 H8 => H8 = H7 ∧ ER Y.kw H7 ρ5 env3 σ8 ∧ wipe σ8 vs = σ0) I7' r7 (setT_ok er7 v7 e3 fun σ8 er8 w8 => ⟨rfl, er8, (w8 _ hn1).trans hw⟩)
        rw [hxe] at as
        refine thnF as fun _ s8 ⟨σ8, H8, I8, e8, er8, w8⟩ => ?_
        subst e8
        obtain ⟨b, st9, eb, p6⟩ := Post.some (NoX.nox _) (by rw [R.bind_bind] at p5; exact p5)
        have eb := nox_is eb
        dsimp only at p6
        have ts := ht1.run _ s8 σ8 H8 (fun b' H9 => b' = b ∧ ∃ ρ9, Grow H8 ρ5 H9 ρ9 ∧ SR Y.kw H9 ρ9 st9) I8 ⟨ρ5, env3, st5, er8, s7', by rw [eb]; exact fun H9 ρ9 g9 s9 => ⟨rfl, ρ9, g9, s9⟩⟩
        rw [hxe] at ts
        refine thnF ts fun b' s9 ⟨H9, I9, e9, ρ9, g9, s9'⟩ => ?_
        subst e9
        have g59 : Grow H5 ρ5 H9 ρ9 := g7.trans g9
        have hp9 : H9 p = some (SetGO Y.w p M5) := g59.keep _ _ hp5 S5.out
        have pn9 : p ∉ ρ9 := g59.out hp5 S5.out
        have st59 : Still Hb ρb H9 ρ9 := still5.trans (g59.still S5.sr)
        have mem9 : MemOf Y.kw H9 ρ9 acc5 M5 := mem5.still (g59.still S5.sr)
        have close : ∀ {s' : Shared} {σ' : L2.St} {H' : Hp} {ρ' : List Addr} {st' : Sto} {acc' : List D}, Inv Y ([] ++ pinsAt fp s7.heap) σ' H' s' → wipe σ' vs = σ0 → Still Hb ρb H' ρ' → Grow H1 ρ1 H' ρ' → SR Y.kw H' ρ' st' → (∃ M, H' p = some (SetGO Y.w p M) ∧ MemOf Y.kw H' ρ' acc' M) → p ∉ ρ' → Post Y.kw E H1 ρ1 ((lcGo2 t1 ok1 c1 m2 t2 c2 e env0 (xs.drop (j + 1)) st').bind fun r st' => scFin (acc' ++ r) st') T →
            ∃ m, m < xs.length - j ∧ ∃ j' H'' ρ'' st'' acc'', m = xs.length - j' ∧ j' ≤ xs.length ∧ tn j' s'.heap ∧ (∀ b ∈ fp, H'' b = none) ∧ Still Hb ρb H'' ρ'' ∧ ScSt Y E [] σ0 H1 ρ1 p (fun acc st => (lcGo2 t1 ok1 c1 m2 t2 c2 e env0 (xs.drop j') st).bind fun r st' => scFin (acc ++ r) st') T H'' ρ'' st'' acc'' s' := fun {s' σ' H' ρ' st' acc'} I' w' sl gg ss se oo pp => by
          have pin' : ∀ b ∈ fp, ∀ o, s7.heap.get? b = some o → s'.heap.get? b = some o ∧ H' b = none := fun b hb o e =>
            let z := I'.pin (b, o) (List.mem_append_right _ (List.mem_append_right _ (mem_pinsAt hb e)))
            ⟨z.1, z.2.1⟩
          have hl : σ0.length = σ'.length := by rw [← w', wipe_length]
          refine ⟨xs.length - (j + 1), by omega, j + 1, H', ρ', st', acc', rfl, hlt, T1.keep _ _ _ tn7 fun b hb o e => (pin' b hb o e).1, fun b hb => ?_, sl, ⟨(I'.unpinned (pins := [])).weak hl fun i v ev => ?_, gg, ss, se, oo, pp⟩⟩
          · obtain ⟨o, eo, _⟩ := T1.obj _ _ tn7 b hb
            exact (pin' b hb o eo).2
          · rw [← w'] at ev
            exact (wipe_some ev).1
        cases b' with
        | false =>
          rw [if_neg Bool.false_ne_true] at p6
          simp only [Bool.false_eq_true, if_false]
          exact close I9 w8 st59 (S5.g.trans g59) s9' ⟨M5, hp9, mem9⟩ pn9 p6
        | true =>
          rw [if_pos rfl, R.bind_bind] at p6
          simp only [if_true]
          obtain ⟨src, st10, ed, p7⟩ := Post.some (NoX.nox _) p6
          have ed := nox_is ed
          obtain ⟨ys, ok2⟩ := src
          dsimp only at p7
          rw [R.bind_bind] at p7
          -- what is left behind the inner loop
          let Kc : List D → Sto → R D := fun l st => (lcGo2 t1 ok1 c1 m2 t2 c2 e env0 (xs.drop (j + 1)) st).bind fun r st' => scFin (l ++ r) st'
          have p7 : Post Y.kw E H1 ρ1 ((lcGo t2 ok2 c2 e (wipeE env3 (namesT t2)) ys st10).bind fun r st4 => Kc (acc5 ++ r) st4) T := by
            have e1 : (fun (r : List D) (st4 : Sto) => Kc (acc5 ++ r) st4) = fun r1 st4 => ((lcGo2 t1 ok1 c1 m2 t2 c2 e env0 (xs.drop (j + 1)) st4).bind fun r st5 => R.ok (r1 ++ r) st5).bind fun r st' => scFin (acc5 ++ r) st' := by
              funext r1 st4
              rw [R.bind_bind]
              show (lcGo2 t1 ok1 c1 m2 t2 c2 e env0 (xs.drop (j + 1)) st4).bind _ = _
              congr 1
              funext r st'
              rw [bind_ok, List.append_assoc]
            rw [e1]; exact p7
          have ev := hi2.run _ s9 σ8 H9 (fun J2 H10 => ∃ ρ10, Grow H9 ρ9 H10 ρ10 ∧ SR Y.kw H10 ρ10 st10 ∧ ItOk Y.kw J2 H10 ρ10 ys ok2) I9 ⟨ρ9, env3, st9, er8.grow g9 s7', s9', by rw [ed]; exact fun H10 ρ10 g10 s10 J2 hJ2 => ⟨ρ10, g10, s10, hJ2⟩⟩
          rw [hxe] at ev
          refine thnF ev fun y s10 h10 => thnF h10 fun zv s11 h11 => ?_
          obtain ⟨z2, fp2, tn2, J2, H11, ez, I11, T2, tn20, f2, ρ11, g11, s11', hJ2⟩ := h11
          subst ez
          have hp11 : H11 p = some (SetGO Y.w p M5) := g11.keep _ _ hp9 pn9
          have pn11 : p ∉ ρ11 := g11.out hp9 pn9
          have st11 : Still Hb ρb H11 ρ11 := st59.trans (g11.still s9')
          have mem11 : MemOf Y.kw H11 ρ11 acc5 M5 := mem9.still (g11.still s9')
          have er11 : ER Y.kw H11 ρ11 (wipeE env3 (namesT t2)) (wipe σ8 (namesT t2)) := ((er8.grow g9 s7').grow g11 s9').wipe _
          have I11' : Inv Y ([] ++ pinsAt fp s7.heap) (wipe σ8 (namesT t2)) H11 s11 := I11.weak (wipe_length ..) fun i v ev => (wipe_some ev).1
          refine ⟨fun Q q => T2.self Y.A 0 _ _ _ tn20 q, codeAny_mono (sc2_inner (Hb := H11) (ρb := ρ11) hc hxe hu hg2 ht2 he T2 er11 (wipe_wipe fun _ h => h) hJ2 hp1 (fun l st q => ?_) tn20 f2 ⟨I11', S5.g.trans (g59.trans g11), s11', ⟨M5, hp11, mem11⟩, pn11, p7⟩) fun r s12 ⟨er12, H12, ρ12, st12, acc12, st1112, S12⟩ => ⟨er12, ?_⟩⟩
          · obtain ⟨r, st', _, q⟩ := Post.some (lcGo2_nox t1 ok1 c1 m2 t2 c2 e env0 (xs.drop (j + 1)) st) q
            exact ⟨r, scFin_ok q⟩
          · exact close S12.inv ((wipe_wipe hn2).trans w8) (st11.trans st1112) S12.g S12.sr S12.set S12.out S12.post
      · exact p5.elim
    · exact p5.elim
  · have e0 : j = xs.length := by omega
    subst e0
    rw [List.drop_length, lcGo2] at p5
    split at p5
    · rename_i hok
      refine thnF (T1.done Y rfl rfl rfl hc _ [] s5 σ0 H5 NoE S5.inv (stat S5.inv n5) tnj ((hJ _ H5 ρ5 st5 still5 S5.sr hok).2 (Nat.le_refl _))) fun r s6 ⟨hr, I6⟩ => ?_
      subst hr
      rw [bind_ok, List.append_nil] at p5
      exact fin H5 ρ5 st5 acc5 s6 still5 ⟨I6, S5.g, S5.sr, S5.set, S5.out, p5⟩
    · exact p5.elim
end

section
variable {X : Cx} {E : XK}
/-- {e for t1 in it1 if .. for t2 in it2 if ..}, tuples -/
theorem de_sc2 (own : List (Str × Nat)) {elt t1e it1 t2e it2 : Expr} {ifs1 ifs2 : List Expr} {scope : Scope} {pos : Pos} {m : Mo Src} {t1 t2 : Tg} {c1 c2 : Mo Bool} {m2 : Mo Src} {e : Mo D} (hc : X.calm = true) (hu : X.A.units + 64 < cLine) (hN : X.N.Nodup) (hi : DI X E t1e it1 m) (ok : BlkOk X.N X.env.scope scope own)
    (hg1 : Blk X scope fun Y => PT' Y t1e t1) (ht1 : Blk X scope fun Y => DTs Y E0 ifs1 c1) (hi2 : Blk X scope fun Y => DI Y E0 t2e it2 m2) (hg2 : Blk X scope fun Y => PT' Y t2e t2) (ht2 : Blk X scope fun Y => DTs Y E0 ifs2 c2) (he : Blk X scope fun Y => DE Y E0 elt e)
    (hn1 : ∀ i ∈ namesT t1, i ∈ own.map (·.2)) (hn2 : ∀ i ∈ namesT t2, i ∈ own.map (·.2)) (hs : ∀ x, foldedSetIterable it1 X.env x = pure x := by intro _; rfl) (hs2 : Blk X scope fun Y => ∀ x, foldedSetIterable it2 Y.env x = pure x := by intro _ _ _ _ _ _; rfl) :
    DE X E (sc2 elt t1e it1 t2e it2 ifs1 ifs2 scope pos) (mSc2 (own.map (·.2)) m t1 c1 m2 t2 c2 e) := by
  refine ⟨fun pins s σ H Q I ⟨ρ, env, st, er, sr, pp⟩ => ?_⟩
  rw [PpSet.eval_SetComp]
  have hfree : ∀ y ∈ scope.names, y.2 = .free → ∃ c, X.env.cells.lookup y.1 = some c := fun y hy e => (ok.free y hy e).elim (fun k => I.ok.has _ (.inl k)) fun k => I.ok.has _ (.inr k)
  let T : D → Sto → Hp → List Addr → Prop := fun d _ H' ρ' => ∀ v, VR X.kw H' ρ' d v → Q v H'
  have first := hi.run pins s σ H (fun J H1 => ∃ ρ1 st1 xs ok1, Grow H ρ H1 ρ1 ∧ SR X.kw H1 ρ1 st1 ∧ ItOk X.kw J H1 ρ1 xs ok1 ∧ Post X.kw E H1 ρ1 ((lcGo2 t1 ok1 c1 m2 t2 c2 e (wipeE env (own.map (·.2))) xs st1).bind scFin) T) I
    ⟨ρ, env, st, er, sr, (Post.bind (T := T) (show Post X.kw E H ρ ((m env st).bind fun src st1 => (lcGo2 t1 src.2 c1 m2 t2 c2 e (wipeE env (own.map (·.2))) src.1 st1).bind scFin) T from pp)).mono fun src st1 H1 ρ1 g1 s1 p1 J hJ => ⟨ρ1, st1, src.1, src.2, g1, s1, hJ, p1⟩⟩
  refine wpAny_comprehension_free rfl hs (closure_ok hfree) ok.kind (fun y hy e => by rw [ok.uniq y hy, e]) (thn first fun xv s1 hx => thn hx fun itv s2 h2 => ?_)
  obtain ⟨it, fp, tn, J, H2, e0, I2, T1, st2, f2, ρ2, stB, xs, ok1, g2, s2', hJ, post⟩ := h2
  subst e0
  refine PpSet.newSet_ok (newEnv_comp ?_)
  generalize hp : s2.heap.objs.size = p
  have pNone : H2 p = none := I2.hok.fresh (Nat.le_of_eq hp)
  have atP : (s2.heap.push (freshSet X.w)).get? p = some (freshSet X.w) := by rw [← hp]; exact Heap.get?_push_size _ rfl
  have up3 : ∀ b o, s2.heap.get? b = some o → (s2.heap.push (freshSet X.w)).get? b = some o := fun b o e => Heap.get?_push_of_some _ e
  have z3 : (s2.heap.push (freshSet X.w)).objs.size = s2.heap.objs.size + 1 := size_push' _ _
  have I3 : Inv X pins σ (upd H2 p (SetGO X.w p [])) { s2 with heap := s2.heap.push (freshSet X.w) } := I2.laid (t' := s2.toks) up3 (Nat.le_of_eq hp) (setGO_new (L := []) (setG_new (w := X.w) atP) fun l hl => nomatch hl)
  generalize hs3 : ({ s2 with heap := s2.heap.push (freshSet X.w) } : Shared) = s3 at I3
  have h3 : s3.heap = s2.heap.push (freshSet X.w) := by rw [← hs3]
  have fpLt : ∀ b ∈ fp, b < s2.heap.objs.size := fun b hb => let ⟨o, e, _⟩ := T1.obj _ _ st2 b hb; Heap.lt_size e
  generalize hH3 : upd H2 p (SetGO X.w p []) = H3 at I3
  have f3 : ∀ b ∈ fp, FpOk X pins H3 b ∧ b < s3.heap.objs.size := fun b hb => by
    have lt := fpLt b hb
    refine ⟨⟨?_, (f2 b hb).2⟩, by rw [h3, z3]; exact Nat.lt_succ_of_lt lt⟩
    rw [← hH3, upd_ne (by rw [← hp]; exact Nat.ne_of_lt lt)]
    exact (f2 b hb).1
  have st3 : tn 0 s3.heap := T1.keep _ _ _ st2 fun b _ o e => by rw [h3]; exact up3 b o e
  have I4 := block_start I3 ok hN f3
  have pn2 : p ∉ ρ2 := s2'.fresh pNone
  obtain ⟨ga, sa⟩ := s2'.aside (o := SetGO X.w p []) pNone
  have still23 : Still H2 ρ2 H3 ρ2 := by rw [← hH3]; exact ga.still s2'
  have sr3 : SR X.kw H3 ρ2 stB := by rw [← hH3]; exact sa
  have goal : codeAny (model X.prog X.w) X.A (.compStart (sc2 elt t1e it1 t2e it2 ifs1 ifs2 scope pos) 0 (.ref it) (.ref p) (compEnvC scope (cellsFrom (s3.heap.objs.size + 1) scope.names (cloFrom X.env.cells scope.names [])) s3.heap.objs.size X.env)) (compPost (model X.prog X.w) X.A X.xe none (EP X pins σ Q) (.ref p) s3.heap.objs.size) { s3 with heap := pushCells (s3.heap.push { cls := .type "dict", data := .dict #[] }) scope.names } := by
    have q1 := hg1 s3 H3 s3.heap.objs.size (cellsFrom (s3.heap.objs.size + 1) scope.names (cloFrom X.env.cells scope.names [])) fp
    have q2 := ht1 s3 H3 s3.heap.objs.size (cellsFrom (s3.heap.objs.size + 1) scope.names (cloFrom X.env.cells scope.names [])) fp
    have q3 := hi2 s3 H3 s3.heap.objs.size (cellsFrom (s3.heap.objs.size + 1) scope.names (cloFrom X.env.cells scope.names [])) fp
    have q4 := hg2 s3 H3 s3.heap.objs.size (cellsFrom (s3.heap.objs.size + 1) scope.names (cloFrom X.env.cells scope.names [])) fp
    have q5 := ht2 s3 H3 s3.heap.objs.size (cellsFrom (s3.heap.objs.size + 1) scope.names (cloFrom X.env.cells scope.names [])) fp
    have q6 := he s3 H3 s3.heap.objs.size (cellsFrom (s3.heap.objs.size + 1) scope.names (cloFrom X.env.cells scope.names [])) fp
    have q7 := hs2 s3 H3 s3.heap.objs.size (cellsFrom (s3.heap.objs.size + 1) scope.names (cloFrom X.env.cells scope.names [])) fp
    generalize hce : compEnvC scope (cellsFrom (s3.heap.objs.size + 1) scope.names (cloFrom X.env.cells scope.names [])) s3.heap.objs.size X.env = ce at I4 q1 q2 q3 q4 q5 q6 q7 ⊢
    have cL : ce.locals = s3.heap.objs.size := by subst hce; rfl
    generalize hs4 : ({ s3 with heap := pushCells (s3.heap.push { cls := .type "dict", data := .dict #[] }) scope.names } : Shared) = s4 at I4 ⊢
    have st4 : tn 0 s4.heap := T1.keep _ _ _ st3 fun b _ o e => by rw [← hs4]; exact pushCells_keeps _ _ _ _ (Heap.get?_push_of_some _ e)
    have lp : codeAny (model X.prog X.w) X.A (.compLoop (sc2 elt t1e it1 t2e it2 ifs1 ifs2 scope pos) 0 (.ref it) (.ref p) ce) (compPost (model X.prog X.w) X.A X.xe none (EP X pins σ Q) (.ref p) s3.heap.objs.size) s4 := by
      refine sc2_outer (Y := X.blk s3 H3 scope ce fp) (E := E) (Hb := H3) (ρb := ρ2) (H1 := H2) (ρ1 := ρ2) (T := T) (acc := []) hc rfl hu q1 q2 q3 q4 q5 q6 q7 hn1 hn2 T1 (((er.grow g2 sr).still still23).wipe _) (wipe_wipe fun _ h => h) (fun i Hx ρx sx sl sy => hJ i Hx ρx sx (still23.trans sl) sy) pNone st4 (fun b hb => (f3 b hb).1.1)
        (fun {H' s'} I' hn b hb => ⟨hn b hb, (I'.ok.exf b hb).1, I'.ok.exfs b hb, .inl hb, fun x c e => (I'.ok.exf b hb).2 x c e, fun p hp => absurd (show p ∈ ([] : List (Addr × Obj)) ++ [] from hp) (by simp)⟩)
        ⟨I4, by rw [← hH3]; exact ga, sr3, ⟨[], by rw [← hH3]; exact upd_same, ⟨fun m hm => (nomatch hm), fun d hd => (nomatch hd)⟩⟩, pn2, by simpa using post⟩ fun H' ρ' st' acc' s' sl S => ?_
      obtain ⟨M, hpM, mem⟩ := S.set
      have I7 : Inv X pins σ H' s' := I3.call' (ch := fp) S.inv.os S.inv.base S.inv.hok S.inv.bare fun b hb => ⟨(f3 b hb).1.2.2.2.1, (f3 b hb).1.2.1, (f3 b hb).1.2.2.2.2.1, (f3 b hb).1.2.2.2.2.2⟩
      have nC : H' s3.heap.objs.size = none := by
        have z : H' ce.locals = none := S.inv.free
        rw [cL] at z
        exact z
      obtain ⟨mm, hn, _⟩ := S.inv.loc
      have hn : s'.heap.Ns ce.locals mm := hn
      rw [cL] at hn
      obtain ⟨k0, k1, k2, k3, k4, k5⟩ := I3.fpOk (Nat.le_refl _) nC
      refine ⟨mm, hn, fun h2 sb => ?_⟩
      have po := S.post
      unfold scFin at po
      split at po
      · have stl : Still H' ρ' H' (ρ' ++ [p]) := ⟨⟨[p], rfl⟩, fun _ _ h _ => h⟩
        obtain ⟨sN, vN⟩ := S.sr.name (ob := .set (dedupD [] acc')) S.out ⟨nodup_dedupD, M, hpM, (mem.still stl).congr dedup_same⟩ (noT_set hpM)
        have gN : Grow H2 ρ2 H' (ρ' ++ [p]) := by
          obtain ⟨mo, em, ff⟩ := S.g.pre
          refine ⟨⟨mo ++ [p], by rw [em, List.append_assoc], fun x hx => ?_⟩, S.g.keep⟩
          rcases List.mem_append.mp hx with z | z
          · exact ff x z
          · rw [List.mem_singleton.mp z]; exact ⟨pn2, pNone⟩
        exact ⟨.ref p, H', I7.turned (t' := s'.toks) (fun b o hb e => (sb.2 b hb).trans e) k0 k1 k3 k4 k5, rfl, po _ _ gN sN _ vN⟩
      · exact po.elim
    exact PpSet.codeAny_compStart_set lp (T1.self X.A 0 _ _ _ st4 lp)
  exact goal
end
end L3
namespace L3
open PySem PySem.Spec PyProof.Rows L2

/-! ### the end: the law's def, called with the script -/
/-- the script alone is tracked, unless it stands in the written part -/
def only (K : PySem.W.Frag) (a : Addr) (o : Obj) (xs : List V) : Hp := fun b => if b = a ∧ K.lookup a = none then some (.frz o (.lst xs)) else none
theorem only_some {K : PySem.W.Frag} {a b : Addr} {o : Obj} {xs : List V} {u : HO} (h : only K a o xs b = some u) : b = a ∧ K.lookup a = none ∧ u = .frz o (.lst xs) := by
  unfold only at h
  split at h
  · rename_i q
    exact ⟨q.1, q.2, (Option.some.inj h).symm⟩
  · cases h
theorem law_G {P : Program} {w : World} {K : PySem.W.Frag} {mg mb : Str → Option Value} {k : Nat} {fa a : Addr} {G : List D → Sto → R D} {s : Shared} {vs : List Value} {ns : List Int}
    (KX : K.In s.heap) (hns : s.heap.Ns mainGlobals mg) (hb : s.heap.Ns builtinsNs mb) (hbb : ∀ x : Str, x ≠ "__name__" → mb x = bootBuiltins x) (hlim : s.heap.NoLimit) (hg : s.gens = #[])
    (ha : s.heap.get? a = some { cls := .type "list", data := .seq vs.toArray }) (hi : IntsAre vs ns) (hl : ns.length ≤ sizeLine) (hr : Rm k callerA)
    (Fn : ∀ base : Heap, K.In base → base.Ns mainGlobals mg → FnG P w K mg base CX0 k fa (spD ⟨K, w⟩ 1 G)) (hG : ∃ st, G [.frl (ns.map .int)] [] = .ok (.bl true) st) :
    codeAny (model P w) callerA (.call (.ref fa) ⟨[.ref a], []⟩) (fun r s' => r = .ok (.ret (.bool true)) ∧ OldK s.heap s'.heap ∧ s'.os = s.os ∧ AllBare s'.gens) s := by
  obtain ⟨stE, eG⟩ := hG
  have rv : Vals (ns.map V.int) vs := vals_ints hi
  have rd : ∀ (H : Hp) (ρ : List Addr), VRs ⟨K, w⟩ H ρ (ns.map D.int) (ns.map V.int) := fun H ρ => by
    clear hi hl eG rv
    induction ns with
    | nil => exact rfl
    | cons n r ih => exact ⟨.int n, r.map V.int, rfl, rfl, ih⟩
  generalize hob : ({ cls := .type "list", data := .seq vs.toArray } : Obj) = ob at ha
  let H : Hp := only K a ob (ns.map V.int)
  have hH : ∀ {b : Addr} {u : HO}, H b = some u → b = a ∧ K.lookup a = none ∧ u = .frz ob (.lst (ns.map V.int)) := only_some
  -- the script as the def gets it
  have fr : FrL ⟨K, w⟩ H a (ns.map V.int) := by
    cases q : K.lookup a with
    | none => exact .inl ⟨ob, by show only K a ob _ a = _; unfold only; rw [if_pos ⟨rfl, q⟩]⟩
    | some o =>
      have e := KX a o q
      rw [ha] at e
      cases e
      subst hob
      exact .inr ⟨_, vs.toArray, _, q, rfl, rfl, rfl, by rw [List.size_toArray, hi.length]; exact hl, by simpa using rv⟩
  have hok : HOk P w H s.heap := fun b u e => by
    obtain ⟨rfl, _, rfl⟩ := hH e
    subst hob
    exact ⟨ha, by rw [List.length_map]; exact hl, vs, _, rv, ha⟩
  -- the rest of the heap, as the base
  have keep : ∀ {b : Addr} {o : Obj}, s.heap.get? b = some o → H b = none → (hidT s.heap H).get? b = some o := fun e n => hidT_get e n
  have free : ∀ {b : Addr}, (∀ (o : Obj), s.heap.get? b = some o → o ≠ ob) ∨ (∃ o, K.lookup b = some o) → (∃ o, s.heap.get? b = some o) → H b = none := fun {b} h ho => by
    cases q : H b with
    | none => rfl
    | some u =>
      obtain ⟨rfl, hk, _⟩ := hH q
      rcases h with h | ⟨o, h⟩
      · exact absurd rfl (h _ ha)
      · rw [hk] at h; cases h
  have ns_ : ∀ {b : Addr} {m : Str → Option Value}, s.heap.Ns b m → (hidT s.heap H).Ns b m := fun {b m} ⟨o, es, ep, e, d, r⟩ => ⟨o, es, ep, keep e (free (.inl fun o' e' z => by
    rw [e] at e'
    cases e'
    rw [z, ← hob] at d
    cases d) ⟨o, e⟩), d, r⟩
  have kin : K.In (hidT s.heap H) := fun b o e => keep (KX b o e) (free (.inr ⟨o, e⟩) ⟨o, KX b o e⟩)
  have e0 : Env0 P w K mg (hidT s.heap H) callerA [] s H :=
    ⟨rfl, ⟨kin, ns_ hns, ⟨mb, ns_ hb, hbb⟩, let ⟨mc, h1, h2⟩ := hlim; ⟨mc, ns_ h1, h2⟩⟩, fun b o e => of_hidT e, Nat.le_of_eq (hidT_size _ _), trivial, fun b hb => (nomatch hb), hok, .of_eq hg⟩
  have sp : spD ⟨K, w⟩ 1 G [.ref a] H (fun v _ => v = .bl true) (fun _ _ _ => False) :=
    ⟨[], [], [.frl (ns.map .int)], ⟨rfl, List.nodup_nil, fun i a o e => by simp at e, fun a h => (nomatch h)⟩, ⟨.ref a, [], rfl, ⟨a, ns.map V.int, rfl, fr, rd H []⟩, rfl⟩, rfl, by
      rw [eG]
      exact fun _ _ _ _ v hv => hv⟩
  refine codeAny_mono ((Fn _ kin (ns_ hns)).run callerA [] s H [.ref a] [.ref a] _ _ hr e0 (.cons rfl .nil) sp) fun res s' h => ?_
  rcases res with e | fl
  · exact h.elim
  cases fl with
  | ret u =>
    obtain ⟨v, H', hos, bare, un, hok', r', q⟩ := h
    have q : v = .bl true := q
    subst q
    obtain rfl : u = Value.bool true := r'
    refine ⟨rfl, OldK.of_keep fun b o e => ?_, hos, bare⟩
    cases hb' : H b with
    | none => exact un.keep b o e hb' (fun z => (nomatch z)) (by simp)
    | some u =>
      obtain ⟨rfl, hk, rfl⟩ := hH hb'
      have e1 := (hok _ _ hb').1
      have e2 := (hok' _ _ (un.frzs _ _ _ hb')).1
      rw [e] at e1
      cases e1
      exact e2
  | _ => exact h.elim
/-- the goal that the head leaves -/
theorem walk_G {l : PySem.W.OpenLaw} {n k : Nat} {q : Program} {loose : List Str} {XP : (Str → Option Value) → Heap → Prop} {YP : World → Heap → Prop} {d : DefRec} {K : Params → PySem.W.Frag} {G : List D → Sto → R D}
    (hn : l.most = some n) (hn2 : n ≤ sizeLine) (hdf : d.params.defaults = []) (hr : Rm k callerA) (hY : ∀ (w : World) (h : Heap), YP w h → (K w.params).In h)
    (Fn : ∀ (w : World) (mg : Str → Option Value) (fa : Addr) (h : Heap), (K w.params).In h → h.Ns mainGlobals mg → mg d.name = some (.ref fa) → ∀ base : Heap, (K w.params).In base → base.Ns mainGlobals mg → FnG l.prog w (K w.params) mg base CX0 k fa (spD ⟨K w.params, w⟩ 1 G))
    (hG : ∀ ns : List Int, ns.length ≤ n → ∃ st, G [.frl (ns.map .int)] [] = .ok (.bl true) st) : PySem.W.WalkO q loose XP YP l.row.toRowW d [] (fun f vs => PySem.call f vs) := by
  refine Att.attach_call hn hdf fun w s0 s1 mg mb fa o pm cd doc a vs ns G' Y ho hd hcd hmg hobj hints hlen hg => ?_
  have KX := hY w _ Y
  exact law_G KX G'.T.g G'.T.b G'.T.builtins G'.T.nolimit hg hobj hints (Nat.le_trans hlen hn2) hr (Fn w mg fa _ KX G'.T.g hmg) (hG ns hlen)
end L3
set_option maxHeartbeats 0
namespace L3
open PySem PySem.Spec PyProof.Rows L2
/-! printed by gen.py: the bodies as plain functions, and their derivations -/
def topS (i : Nat) : Stmt := PySem.Challenge.pw_pagewise_k60_products.main.body.getD i (.Pass ⟨0, 0, 0, 0⟩)
def b_is_integer : MS := (sRet (mAndV (mF cIsi (mCons (mVar 0) (mCons (mC (.ty "int")) mNil))) (mNotV (mF cIsi (mCons (mVar 0) (mCons (mC (.ty "bool")) mNil))))))
def f_is_integer (ds : List D) (st : Sto) : R D := defF 1 b_is_integer ds st
def b_is_relation : MS := (sSeq (sIf (mOr (mNot (mB (mF cIsi (mCons (mVar 0) (mCons (mC (.ty "tuple")) mNil))))) (mB (mOp opGt (mF cLen (mCons (mVar 0) mNil)) (mC (.int 100))))) (sRet (mC (.bl false))) sNil)
  (sSeq (sFor (mIter (mVar 0)) (.nm 1) (sIf (mOr (mNot (mB (mF cIsi (mCons (mVar 1) (mCons (mC (.ty "tuple")) mNil))))) (mOr (mB (mOp (opEq true) (mF cLen (mCons (mVar 1) mNil)) (mC (.int 2)))) (mNot (mB (mF (cAll fun bs => bs.all id) (mCons (mLc [2] (mIter (mVar 1)) (.nm 2) mYes (mCall 1 f_is_integer (mCons (mVar 2) mNil))) mNil)))))) (sRet (mC (.bl false))) sNil))
  (sRet (mF (cAll fun bs => bs.all id) (mCons (mLc [2, 3] (mZip (mCons (mVar 0) (mCons (mSl opSl (mVar 0) (mPart (mC (.int 1))) mNoPart) mNil))) (.tp [(.nm 2), (.nm 3)]) mYes (mOp opLt (mVar 2) (mVar 3))) mNil)))))
def f_is_relation (ds : List D) (st : Sto) : R D := defF 4 b_is_relation ds st
def b_require_relations : MS := (sFor (mIter (mVar 0)) (.nm 1) (sIf (mNot (mB (mCall 1 f_is_relation (mCons (mVar 1) mNil)))) sNever sNil))
def f_require_relations (ds : List D) (st : Sto) : R D := defF 2 b_require_relations [.tup ds] st
def b_product_in : MS := (sSeq (sAsg mDic0 (.nm 2))
  (sSeq (sFor (mIter (mVar 1)) (.tp [(.nm 3), (.nm 4)]) (sDrop (mM isLst fAppend (mSetd (mVar 2) (mVar 3) (mLst mNil)) (mCons (mVar 4) mNil))))
  (sRet (mF cTuple (mCons (mF cSorted (mCons (mSc2 [3, 4, 5] (mIter (mVar 0)) (.tp [(.nm 3), (.nm 4)]) mYes (mIter (mGet2 (mVar 2) (mVar 4) (mLst mNil))) (.nm 5) mYes (mTup (mCons (mVar 3) (mCons (mVar 5) mNil)))) mNil)) mNil)))))
def f_product_in (ds : List D) (st : Sto) : R D := defF 6 b_product_in ds st
def b_product : MS := (sSeq (sDrop (mCall 2 f_require_relations (mCons (mVar 0) (mCons (mVar 1) mNil))))
  (sRet (mCall 2 f_product_in (mCons (mVar 0) (mCons (mVar 1) mNil)))))
def f_product (ds : List D) (st : Sto) : R D := defF 2 b_product ds st
def b_x_law_stream : MS := (sSeq (sAsg (mOp opAdd (mOp opMul (mC (.int 19)) (mVar 1)) (mC (.int 5))) (.nm 2))
  (sSeq (sIf (mB (mOp opLt (mVar 1) (mF cLen (mCons (mVar 0) mNil)))) (sAsg (mOp opIx (mVar 0) (mVar 1)) (.nm 2)) sNil)
  (sSeq (sAsg (mOp opMod (mF cInt (mCons (mF cAbs (mCons (mVar 2) mNil)) mNil)) (mOp opPow (mOp opPow (mC (.int 10)) (mC (.int 60))) (mC (.int 10)))) (.nm 3))
  (sSeq (sAsg (mOp opAdd (mOp opAdd (mOp opAdd (mOp opMul (mOp opMod (mF cInt (mCons (mVar 3) mNil)) (mC (.int 2147483543))) (mC (.int 52361))) (mOp opMul (mC (.int 3011)) (mVar 1))) (mOp opMul (mC (.int 11)) (mF cInt (mCons (mOp opLt (mVar 2) (mC (.int 0))) mNil)))) (mC (.int 31))) (.nm 4))
  (sRet (mLst (mCons (mF cMax (mCons (mC (.int 0)) (mCons (mOp opSub (mVar 3) (mOp opPow (mC (.int 10)) (mC (.int 18)))) mNil))) (mCons (mOp opMod (mF cInt (mCons (mVar 4) mNil)) (mC (.int 2147483399))) (mCons (mC (.int 0)) mNil)))))))))
def f_x_law_stream (ds : List D) (st : Sto) : R D := defF 5 b_x_law_stream ds st
def b_x_law_draw : MS := (sSeq (sIf (mB (mOp opGt (mOp opIx (mVar 0) (mC (.int 0))) (mC (.int 0)))) (sSeq (sAsg (mOp opMod (mF cInt (mCons (mOp opIx (mVar 0) (mC (.int 0))) mNil)) (mVar 1)) (.nm 2))
  (sSeq (sSub (mVar 0) (mC (.int 0)) (mOp opDiv (mOp opIx (mVar 0) (mC (.int 0))) (mVar 1)))
  (sRet (mVar 2)))) sNil)
  (sSeq (sSub (mVar 0) (mC (.int 2)) (mOp opAdd (mOp opIx (mVar 0) (mC (.int 2))) (mC (.int 1))))
  (sSeq (sAsg (mOp opMod (mF cInt (mCons (mOp opAdd (mOp opIx (mVar 0) (mC (.int 1))) (mOp opMul (mC (.int 1000117)) (mOp opIx (mVar 0) (mC (.int 2))))) mNil)) (mC (.int 2305843009213693951))) (.nm 3))
  (sSeq (sAsg (mOp opAdd (mOp opMul (mOp opMod (mF cInt (mCons (mOp opMul (mVar 3) (mVar 3)) mNil)) (mC (.int 2305843009213693921))) (mVar 3)) (mOp opMul (mC (.int 7951)) (mOp opIx (mVar 0) (mC (.int 2))))) (.nm 4))
  (sSeq (sAsg (mOp opMod (mF cInt (mCons (mVar 4) mNil)) (mC (.int 2305843009213693907))) (.nm 4))
  (sRet (mOp opMod (mF cInt (mCons (mOp opDiv (mVar 4) (mC (.int 4096))) mNil)) (mVar 1))))))))
def f_x_law_draw (ds : List D) (st : Sto) : R D := defF 5 b_x_law_draw ds st
def b_x_law_pick : MS := (sRet (mOp opIx (mVar 1) (mCall 2 f_x_law_draw (mCons (mVar 0) (mCons (mF cLen (mCons (mVar 1) mNil)) mNil)))))
def f_x_law_pick (ds : List D) (st : Sto) : R D := defF 2 b_x_law_pick ds st
def b_x_law_relation : MS := (sSeq (sAsg (mLst mNil) (.nm 3))
  (sSeq (sFor (mRng (mCons (mCall 2 f_x_law_draw (mCons (mVar 0) (mCons (mOp opAdd (mVar 1) (mC (.int 1))) mNil))) mNil)) (.nm 4) (sDrop (mM isLst fAppend (mVar 3) (mCons (mTup (mCons (mCall 2 f_x_law_draw (mCons (mVar 0) (mCons (mVar 2) mNil))) (mCons (mCall 2 f_x_law_draw (mCons (mVar 0) (mCons (mVar 2) mNil))) mNil))) mNil))))
  (sSeq (sIf (mB (mOp (opEq false) (mCall 2 f_x_law_draw (mCons (mVar 0) (mCons (mC (.int 5)) mNil))) (mC (.int 0)))) (sDrop (mM isLst fAppend (mVar 3) (mCons (mTup (mCons (mCall 2 f_x_law_pick (mCons (mVar 0) (mCons (mLst (mCons (mUn opNeg (mC (.int 1))) (mCons (mOp opPow (mC (.int 10)) (mC (.int 39))) (mCons (mC (.int 0)) mNil)))) mNil))) (mCons (mCall 2 f_x_law_pick (mCons (mVar 0) (mCons (mLst (mCons (mOp opSub (mC (.int 0)) (mOp opPow (mC (.int 10)) (mC (.int 38)))) (mCons (mC (.int 2)) (mCons (mUn opNeg (mC (.int 1))) mNil)))) mNil))) mNil))) mNil))) sNil)
  (sRet (mF cTuple (mCons (mF cSorted (mCons (mF cSet (mCons (mVar 3) mNil)) mNil)) mNil))))))
def f_x_law_relation (ds : List D) (st : Sto) : R D := defF 5 b_x_law_relation ds st
def b_x_law_product : MS := (sSeq (sAsg (mLst mNil) (.nm 2))
  (sSeq (sFor (mIter (mVar 0)) (.tp [(.nm 3), (.nm 4)]) (sDrop (mM isLst fExtend (mVar 2) (mCons (mLc [5, 6] (mIter (mVar 1)) (.tp [(.nm 5), (.nm 6)]) (mB (mOp (opEq false) (mVar 5) (mVar 4))) (mTup (mCons (mVar 3) (mCons (mVar 6) mNil)))) mNil))))
  (sRet (mF cTuple (mCons (mF cSorted (mCons (mF cSet (mCons (mVar 2) mNil)) mNil)) mNil)))))
def f_x_law_product (ds : List D) (st : Sto) : R D := defF 7 b_x_law_product ds st
def b_x_law_turned : MS := (sRet (mF cTuple (mCons (mF cSorted (mCons (mLc [1, 2] (mIter (mVar 0)) (.tp [(.nm 1), (.nm 2)]) mYes (mTup (mCons (mVar 2) (mCons (mVar 1) mNil)))) mNil)) mNil)))
def f_x_law_turned (ds : List D) (st : Sto) : R D := defF 3 b_x_law_turned ds st
def b_x_law_right : MS := (sSeq (sAsg (mOp opAdd (mC (.int 1)) (mCall 2 f_x_law_draw (mCons (mVar 0) (mCons (mC (.int 6)) mNil)))) (.nm 1))
  (sSeq (sUnl (mLc [5] (mRng (mCons (mC (.int 3)) mNil)) (.nm 5) mYes (mCall 3 f_x_law_relation (mCons (mVar 0) (mCons (mC (.int 12)) (mCons (mVar 1) mNil))))) [(.nm 2), (.nm 3), (.nm 4)])
  (sSeq (sAsg (mCall 2 f_product (mCons (mVar 2) (mCons (mVar 3) mNil))) (.nm 6))
  (sSeq (sIf (mOr (mB (mOp (opEq true) (mVar 6) (mCall 2 f_x_law_product (mCons (mVar 2) (mCons (mVar 3) mNil))))) (mB (mOp (opEq true) (mF cRepr (mCons (mVar 6) mNil)) (mF cRepr (mCons (mCall 2 f_x_law_product (mCons (mVar 2) (mCons (mVar 3) mNil))) mNil))))) (sRet (mC (.bl false))) sNil)
  (sSeq (sIf (mB (mOp (opEq true) (mCall 2 f_product (mCons (mCall 1 f_x_law_turned (mCons (mVar 3) mNil)) (mCons (mCall 1 f_x_law_turned (mCons (mVar 2) mNil)) mNil))) (mCall 1 f_x_law_turned (mCons (mVar 6) mNil)))) (sRet (mC (.bl false))) sNil)
  (sSeq (sAsg (mCall 2 f_product (mCons (mVar 3) (mCons (mVar 4) mNil))) (.nm 7))
  (sSeq (sIf (mAnd (mB (mOp opLe (mF cLen (mCons (mVar 6) mNil)) (mC (.int 100)))) (mAnd (mB (mOp opLe (mF cLen (mCons (mVar 7) mNil)) (mC (.int 100)))) (mB (mOp (opEq true) (mCall 2 f_product (mCons (mVar 6) (mCons (mVar 4) mNil))) (mCall 2 f_product (mCons (mVar 2) (mCons (mVar 7) mNil))))))) (sRet (mC (.bl false))) sNil)
  (sSeq (sAsg (mF cTuple (mCons (mF cSorted (mCons (mF cSet (mCons (mLc [9, 10] (mIter (mVar 2)) (.tp [(.nm 9), (.nm 10)]) mYes (mTup (mCons (mVar 10) (mCons (mVar 10) mNil)))) mNil)) mNil)) mNil)) (.nm 8))
  (sRet (mAndV (mOp (opEq false) (mCall 2 f_product (mCons (mVar 2) (mCons (mVar 8) mNil))) (mVar 2)) (mAndV (mOp (opEq false) (mCall 2 f_product (mCons (mVar 2) (mCons (mTup mNil) mNil))) (mTup mNil)) (mOp (opEq false) (mCall 2 f_product (mCons (mTup mNil) (mCons (mVar 3) mNil))) (mTup mNil)))))))))))))
def f_x_law_right (ds : List D) (st : Sto) : R D := defF 11 b_x_law_right ds st
def b_x_law_written_right : MS := (sSeq (sAsg (mF cTuple (mCons (mLc [1] (mRng (mCons (mC (.int 100)) mNil)) (.nm 1) mYes (mTup (mCons (mOp opDiv (mF cInt (mCons (mVar 1) mNil)) (mC (.int 10))) (mCons (mOp opMod (mF cInt (mCons (mVar 1) mNil)) (mC (.int 10))) mNil)))) mNil)) (.nm 0))
  (sSeq (sPar 2 3 (mCons (mF cTuple (mCons (mLc [4] (mRng (mCons (mC (.int 100)) mNil)) (.nm 4) mYes (mTup (mCons (mVar 4) (mCons (mC (.int 7)) mNil)))) mNil)) (mCons (mF cTuple (mCons (mLc [5] (mRng (mCons (mUn opNeg (mC (.int 50))) (mCons (mC (.int 50)) mNil))) (.nm 5) mYes (mTup (mCons (mC (.int 7)) (mCons (mVar 5) mNil)))) mNil)) mNil)))
  (sSeq (sIf (mOr (mB (mOp (opEq true) (mCall 2 f_product (mCons (mVar 0) (mCons (mVar 0) mNil))) (mVar 0))) (mB (mOp (opEq true) (mF cLen (mCons (mCall 2 f_product (mCons (mVar 2) (mCons (mVar 3) mNil))) mNil)) (mC (.int 10000))))) (sRet (mC (.bl false))) sNil)
  (sSeq (sIf (mOr (mB (mOp (opEq true) (mSl opSl (mCall 2 f_product (mCons (mVar 2) (mCons (mVar 3) mNil))) mNoPart (mPart (mC (.int 2)))) (mTup (mCons (mTup (mCons (mC (.int 0)) (mCons (mUn opNeg (mC (.int 50))) mNil))) (mCons (mTup (mCons (mC (.int 0)) (mCons (mUn opNeg (mC (.int 49))) mNil))) mNil))))) (mB (mOp (opEq true) (mCall 2 f_product (mCons (mVar 3) (mCons (mVar 2) mNil))) (mTup (mCons (mTup (mCons (mC (.int 7)) (mCons (mC (.int 7)) mNil))) mNil))))) (sRet (mC (.bl false))) sNil)
  (sSeq (sAsg (mOp opSub (mOp opPow (mC (.int 10)) (mC (.int 40))) (mC (.int 1))) (.nm 6))
  (sRet (mAndV (mOp (opEq false) (mCall 2 f_product (mCons (mTup (mCons (mTup (mCons (mVar 6) (mCons (mOp opSub (mC (.int 0)) (mVar 6)) mNil))) mNil)) (mCons (mTup (mCons (mTup (mCons (mOp opSub (mC (.int 0)) (mVar 6)) (mCons (mVar 6) mNil))) mNil)) mNil))) (mTup (mCons (mTup (mCons (mVar 6) (mCons (mVar 6) mNil))) mNil))) (mOp (opEq false) (mCall 2 f_product (mCons (mTup mNil) (mCons (mTup mNil) mNil))) (mTup mNil)))))))))
def f_x_law_written_right (ds : List D) (st : Sto) : R D := defF 7 b_x_law_written_right ds st
def b_law : MS := (sSeq (sFor (mRng (mCons (mF cMax (mCons (mC (.int 1)) (mCons (mF cMin (mCons (mC (.int 10)) (mCons (mF cLen (mCons (mVar 0) mNil)) mNil))) mNil))) mNil)) (.nm 1) (sSeq (sAsg (mCall 2 f_x_law_stream (mCons (mVar 0) (mCons (mVar 1) mNil))) (.nm 2))
  (sFor (mRng (mCons (mC (.int 3)) mNil)) (.nm 3) (sIf (mNot (mB (mCall 1 f_x_law_right (mCons (mVar 2) mNil)))) (sRet (mC (.bl false))) sNil))))
  (sRet (mCall 0 f_x_law_written_right mNil)))
def f_law (ds : List D) (st : Sto) : R D := defF 4 b_law ds st
/-- what the names of the module stand for -/
structure Glo (K : PySem.W.Frag) (mg : Str → Option Value) (a_is_integer : Addr) (a_is_relation : Addr) (a_require_relations : Addr) (a_product_in : Addr) (a_product : Addr) (a_x_law_stream : Addr) (a_x_law_draw : Addr) (a_x_law_pick : Addr) (a_x_law_relation : Addr) (a_x_law_product : Addr) (a_x_law_turned : Addr) (a_x_law_right : Addr) (a_x_law_written_right : Addr) (a_law : Addr) : Prop where
  n_abs : mg "abs" = none
  n_all : mg "all" = none
  n_bool : mg "bool" = none
  n_int : mg "int" = none
  n_isinstance : mg "isinstance" = none
  n_len : mg "len" = none
  n_max : mg "max" = none
  n_min : mg "min" = none
  n_range : mg "range" = none
  n_repr : mg "repr" = none
  n_set : mg "set" = none
  n_sorted : mg "sorted" = none
  n_tuple : mg "tuple" = none
  n_zip : mg "zip" = none
  MOST_PAIRS : ∃ u, mg "MOST_PAIRS" = some u ∧ RelV (.int 100) u
  f_is_integer : mg "is_integer" = some (.ref a_is_integer) ∧ PySem.W.keepIn K (.ref a_is_integer) = true
  f_is_relation : mg "is_relation" = some (.ref a_is_relation) ∧ PySem.W.keepIn K (.ref a_is_relation) = true
  f_require_relations : mg "require_relations" = some (.ref a_require_relations) ∧ PySem.W.keepIn K (.ref a_require_relations) = true
  f_product_in : mg "product_in" = some (.ref a_product_in) ∧ PySem.W.keepIn K (.ref a_product_in) = true
  f_product : mg "product" = some (.ref a_product) ∧ PySem.W.keepIn K (.ref a_product) = true
  f_x_law_stream : mg "_law_stream" = some (.ref a_x_law_stream) ∧ PySem.W.keepIn K (.ref a_x_law_stream) = true
  f_x_law_draw : mg "_law_draw" = some (.ref a_x_law_draw) ∧ PySem.W.keepIn K (.ref a_x_law_draw) = true
  f_x_law_pick : mg "_law_pick" = some (.ref a_x_law_pick) ∧ PySem.W.keepIn K (.ref a_x_law_pick) = true
  f_x_law_relation : mg "_law_relation" = some (.ref a_x_law_relation) ∧ PySem.W.keepIn K (.ref a_x_law_relation) = true
  f_x_law_product : mg "_law_product" = some (.ref a_x_law_product) ∧ PySem.W.keepIn K (.ref a_x_law_product) = true
  f_x_law_turned : mg "_law_turned" = some (.ref a_x_law_turned) ∧ PySem.W.keepIn K (.ref a_x_law_turned) = true
  f_x_law_right : mg "_law_right" = some (.ref a_x_law_right) ∧ PySem.W.keepIn K (.ref a_x_law_right) = true
  f_x_law_written_right : mg "_law_written_right" = some (.ref a_x_law_written_right) ∧ PySem.W.keepIn K (.ref a_x_law_written_right) = true
  f_law : mg "law" = some (.ref a_law) ∧ PySem.W.keepIn K (.ref a_law) = true
section
variable {P : Program} {w : World} {K : PySem.W.Frag} {mg : Str → Option Value} {base : Heap} {a_is_integer : Addr} {a_is_relation : Addr} {a_require_relations : Addr} {a_product_in : Addr} {a_product : Addr} {a_x_law_stream : Addr} {a_x_law_draw : Addr} {a_x_law_pick : Addr} {a_x_law_relation : Addr} {a_x_law_product : Addr} {a_x_law_turned : Addr} {a_x_law_right : Addr} {a_x_law_written_right : Addr} {a_law : Addr}
theorem sc_is_integer : FnScope ["value"] ["value"] (defScope (topS 4)) := ⟨rfl, rfl, rfl, by decide +kernel, rfl, by decide +kernel, by decide +kernel⟩
theorem ok_is_integer {fd : FuncData} (F : Fun K "is_integer" "is_integer" (topS 4) a_is_integer fd) (g : Glo K mg a_is_integer a_is_relation a_require_relations a_product_in a_product a_x_law_stream a_x_law_draw a_x_law_pick a_x_law_relation a_x_law_product a_x_law_turned a_x_law_right a_x_law_written_right a_law)  : FnG P w K mg base CX0 1 a_is_integer (spD ⟨K, w⟩ 1 f_is_integer) := by
  have h0 : FnG P w K mg base CX0 1 a_is_integer (spD ⟨K, w⟩ 1 (defF 1 b_is_integer)) → FnG P w K mg base CX0 1 a_is_integer (spD ⟨K, w⟩ 1 f_is_integer) := fun h => h
  refine h0 ?_
  clear h0
  have h1 : ∀ (kV doc pm : Value) (an : Option Addr) (cdv ct : Value) (us : List Value), us.length = 1 → bindArgs (PySem.W.fnOf "is_integer" "is_integer" (defArgs (topS 4)) (defBody (topS 4)) (defScope (topS 4)) .none kV doc pm an cdv ct) ⟨us, []⟩ = pure ((["value"] : List Str).zip us) := fun _ _ _ _ _ _ us hl => match us, hl with | [_], _ => rfl
  refine @okG P w K mg base "is_integer" "is_integer" (topS 4) a_is_integer fd ["value"] ["value"] 0 1 b_is_integer F sc_is_integer rfl h1 fun cdv A outer s H E hr => ?_
  have sc := sc_is_integer
  have hu := hr.room.units
  have hu1 := hu_of hr.room
  exact (dss_one (ds_ret (de_and (de_callB (c_isi) g.n_isinstance boot_isinstance (da_cons (de_var 0) (da_cons (de_ty g.n_int boot_int) da_nil))) (de_one (de_not (de_callB (c_isi) g.n_isinstance boot_isinstance (da_cons (de_var 0) (da_cons (de_ty g.n_bool boot_bool) da_nil))))))))
theorem sc_is_relation : FnScope ["value", "pair", "one", "other"] ["value"] (defScope (topS 7)) := ⟨rfl, rfl, rfl, by decide +kernel, rfl, by decide +kernel, by decide +kernel⟩
theorem ok_is_relation {fd : FuncData} (F : Fun K "is_relation" "is_relation" (topS 7) a_is_relation fd) (g : Glo K mg a_is_integer a_is_relation a_require_relations a_product_in a_product a_x_law_stream a_x_law_draw a_x_law_pick a_x_law_relation a_x_law_product a_x_law_turned a_x_law_right a_x_law_written_right a_law) (G_is_integer : FnG P w K mg base CX0 1 a_is_integer (spD ⟨K, w⟩ 1 f_is_integer)) : FnG P w K mg base CX0 2 a_is_relation (spD ⟨K, w⟩ 1 f_is_relation) := by
  obtain ⟨u_MOST_PAIRS, h1_MOST_PAIRS, h2_MOST_PAIRS⟩ := g.MOST_PAIRS
  have h0 : FnG P w K mg base CX0 2 a_is_relation (spD ⟨K, w⟩ 1 (defF 4 b_is_relation)) → FnG P w K mg base CX0 2 a_is_relation (spD ⟨K, w⟩ 1 f_is_relation) := fun h => h
  refine h0 ?_
  clear h0
  have h1 : ∀ (kV doc pm : Value) (an : Option Addr) (cdv ct : Value) (us : List Value), us.length = 1 → bindArgs (PySem.W.fnOf "is_relation" "is_relation" (defArgs (topS 7)) (defBody (topS 7)) (defScope (topS 7)) .none kV doc pm an cdv ct) ⟨us, []⟩ = pure ((["value"] : List Str).zip us) := fun _ _ _ _ _ _ us hl => match us, hl with | [_], _ => rfl
  refine @okG P w K mg base "is_relation" "is_relation" (topS 7) a_is_relation fd ["value", "pair", "one", "other"] ["value"] 1 1 b_is_relation F sc_is_relation rfl h1 fun cdv A outer s H E hr => ?_
  have sc := sc_is_relation
  have hu := hr.room.units
  have hu1 := hu_of hr.room
  exact (dss_cons (ds_if (dt_w (dw_or (dt_not (dt_val (de_callB (c_isi) g.n_isinstance boot_isinstance (da_cons (de_var 0) (da_cons (de_ty g.n_tuple boot_tuple) da_nil))))) (dw_or1 (dt_cmp or_gt (de_callB (c_len) g.n_len boot_len (da_cons (de_var 0) da_nil)) (de_glob (d := .int 100) (v := .int 100) h1_MOST_PAIRS h2_MOST_PAIRS fun _ _ => rfl))))) (dss_one (ds_ret de_bl)) dss_nil)
    (dss_cons (ds_for PassesOwn.never rfl (di_seq (de_var 0)) (tg_nm 1 sc.nd) (dss_one (ds_if (dt_w (dw_or (dt_not (dt_val (de_callB (c_isi) g.n_isinstance boot_isinstance (da_cons (de_var 1) (da_cons (de_ty g.n_tuple boot_tuple) da_nil))))) (dw_or (dt_cmp (or_ne hu) (de_callB (c_len) g.n_len boot_len (da_cons (de_var 1) da_nil)) de_int) (dw_or1 (dt_not (dt_val (de_callB (c_all rfl) g.n_all boot_all (da_cons (de_lc [("one", 2)] rfl sc.nd (di_seq (de_var 1)) (show BlkOk ["value", "pair", "one", "other"] (defScope (topS 7)) _ [("one", 2)] from blkOk_by (by decide +kernel)) (fun _ _ _ _ _ => (tg_nm 2 sc.nd)) (fun _ _ _ _ _ => dts_nil) (fun _ _ _ _ _ => (de_call G_is_integer (hr.mono (by decide)) g.f_is_integer.1 g.f_is_integer.2 (da_cons (de_var 2) da_nil))) (by decide)) da_nil)))))))) (dss_one (ds_ret de_bl)) dss_nil)))
    (dss_one (ds_ret (de_callB (c_all rfl) g.n_all boot_all (da_cons (de_lc [("one", 2), ("other", 3)] rfl sc.nd (di_zip g.n_zip (de_var 0) (de_slice sl_D (de_var 0) (do_some de_int) do_none)) (show BlkOk ["value", "pair", "one", "other"] (defScope (topS 7)) _ [("one", 2), ("other", 3)] from blkOk_by (by decide +kernel)) (fun _ _ _ _ _ => (tg_tp rfl (tgs_cons (tg_nm 2 sc.nd) (tgs_cons (tg_nm 3 sc.nd) tgs_nil)))) (fun _ _ _ _ _ => dts_nil) (fun _ _ _ _ _ => (de_cmp (or_lt hu) (de_var 2) (de_var 3))) (by decide)) da_nil))))))
theorem sc_require_relations : FnScope ["relations", "relation"] ["relations"] (defScope (topS 8)) := ⟨rfl, rfl, rfl, by decide +kernel, rfl, by decide +kernel, by decide +kernel⟩
theorem ok_require_relations {fd : FuncData} (F : Fun K "require_relations" "require_relations" (topS 8) a_require_relations fd) (g : Glo K mg a_is_integer a_is_relation a_require_relations a_product_in a_product a_x_law_stream a_x_law_draw a_x_law_pick a_x_law_relation a_x_law_product a_x_law_turned a_x_law_right a_x_law_written_right a_law) (G_is_relation : FnG P w K mg base CX0 2 a_is_relation (spD ⟨K, w⟩ 1 f_is_relation)) : FnG P w K mg base CX0 3 a_require_relations (spD ⟨K, w⟩ 2 f_require_relations) := by
  have h0 : FnG P w K mg base CX0 3 a_require_relations (spD ⟨K, w⟩ 2 (fun ds => defF 2 b_require_relations [.tup ds])) → FnG P w K mg base CX0 3 a_require_relations (spD ⟨K, w⟩ 2 f_require_relations) := fun h => h
  refine h0 ?_
  clear h0
  have h1 : ∀ (kV doc pm : Value) (an : Option Addr) (cdv ct : Value) (us : List Value), us.length = 2 → bindArgs (PySem.W.fnOf "require_relations" "require_relations" (defArgs (topS 8)) (defBody (topS 8)) (defScope (topS 8)) .none kV doc pm an cdv ct) ⟨us, []⟩ = (newTuple us >>= fun t => pure [(("relations" : Str), t)]) := fun _ _ _ _ _ _ us hl => match us, hl with | [_, _], _ => rfl
  refine @okStar P w K mg base "require_relations" "require_relations" (topS 8) a_require_relations fd ["relations", "relation"] "relations" 2 2 b_require_relations F sc_require_relations (by decide) h1 fun cdv A outer s H E hr => ?_
  have sc := sc_require_relations
  have hu := hr.room.units
  have hu1 := hu_of hr.room
  exact (dss_one (ds_for PassesOwn.never rfl (di_seq (de_var 0)) (tg_nm 1 sc.nd) (dss_one (ds_if (dt_not (dt_val (de_call G_is_relation (hr.mono (by decide)) g.f_is_relation.1 g.f_is_relation.2 (da_cons (de_var 1) da_nil)))) (dss_one ds_never) dss_nil))))
theorem sc_product_in : FnScope ["first", "second", "behind", "one", "other", "last"] ["first", "second"] (defScope (topS 9)) := ⟨rfl, rfl, rfl, by decide +kernel, rfl, by decide +kernel, by decide +kernel⟩
theorem ok_product_in {fd : FuncData} (F : Fun K "product_in" "product_in" (topS 9) a_product_in fd) (g : Glo K mg a_is_integer a_is_relation a_require_relations a_product_in a_product a_x_law_stream a_x_law_draw a_x_law_pick a_x_law_relation a_x_law_product a_x_law_turned a_x_law_right a_x_law_written_right a_law)  : FnG P w K mg base CX0 1 a_product_in (spD ⟨K, w⟩ 2 f_product_in) := by
  have h0 : FnG P w K mg base CX0 1 a_product_in (spD ⟨K, w⟩ 2 (defF 6 b_product_in)) → FnG P w K mg base CX0 1 a_product_in (spD ⟨K, w⟩ 2 f_product_in) := fun h => h
  refine h0 ?_
  clear h0
  have h1 : ∀ (kV doc pm : Value) (an : Option Addr) (cdv ct : Value) (us : List Value), us.length = 2 → bindArgs (PySem.W.fnOf "product_in" "product_in" (defArgs (topS 9)) (defBody (topS 9)) (defScope (topS 9)) .none kV doc pm an cdv ct) ⟨us, []⟩ = pure ((["first", "second"] : List Str).zip us) := fun _ _ _ _ _ _ us hl => match us, hl with | [_, _], _ => rfl
  refine @okG P w K mg base "product_in" "product_in" (topS 9) a_product_in fd ["first", "second", "behind", "one", "other", "last"] ["first", "second"] 0 2 b_product_in F sc_product_in rfl h1 fun cdv A outer s H E hr => ?_
  have sc := sc_product_in
  have hu := hr.room.units
  have hu1 := hu_of hr.room
  exact (dss_cons (ds_set 2 de_dic0 sc.nd)
    (dss_cons (ds_for PassesOwn.never rfl (di_seq (de_var 1)) (tg_tp rfl (tgs_cons (tg_nm 3 sc.nd) (tgs_cons (tg_nm 4 sc.nd) tgs_nil))) (dss_one (ds_expr (de_append (de_setd (de_var 2) (de_var 3) (de_lst da_nil)) (de_var 4)))))
    (dss_one (ds_ret (de_callT (c_tuple) g.n_tuple boot_tuple (da_cons (de_callB (c_sorted rfl hu) g.n_sorted boot_sorted (da_cons (de_sc2 [("one", 3), ("other", 4), ("last", 5)] rfl hu sc.nd (di_seq (de_var 0)) (show BlkOk ["first", "second", "behind", "one", "other", "last"] (defScope (topS 9)) _ [("one", 3), ("other", 4), ("last", 5)] from blkOk_by (by decide +kernel)) (fun _ _ _ _ _ => (tg_tp rfl (tgs_cons (tg_nm 3 sc.nd) (tgs_cons (tg_nm 4 sc.nd) tgs_nil)))) (fun _ _ _ _ _ => dts_nil) (fun _ _ _ _ _ => (di_seq (de_get2 hu1 (de_var 2) (de_var 4) (de_lst da_nil)))) (fun _ _ _ _ _ => (tg_nm 5 sc.nd)) (fun _ _ _ _ _ => dts_nil) (fun _ _ _ _ _ => (de_tup (da_cons (de_var 3) (da_cons (de_var 5) da_nil)))) (by decide) (by decide)) da_nil)) da_nil))))))
theorem sc_product : FnScope ["first", "second"] ["first", "second"] (defScope (topS 10)) := ⟨rfl, rfl, rfl, by decide +kernel, rfl, by decide +kernel, by decide +kernel⟩
theorem ok_product {fd : FuncData} (F : Fun K "product" "product" (topS 10) a_product fd) (g : Glo K mg a_is_integer a_is_relation a_require_relations a_product_in a_product a_x_law_stream a_x_law_draw a_x_law_pick a_x_law_relation a_x_law_product a_x_law_turned a_x_law_right a_x_law_written_right a_law) (G_require_relations : FnG P w K mg base CX0 3 a_require_relations (spD ⟨K, w⟩ 2 f_require_relations)) (G_product_in : FnG P w K mg base CX0 1 a_product_in (spD ⟨K, w⟩ 2 f_product_in)) : FnG P w K mg base CX0 4 a_product (spD ⟨K, w⟩ 2 f_product) := by
  have h0 : FnG P w K mg base CX0 4 a_product (spD ⟨K, w⟩ 2 (defF 2 b_product)) → FnG P w K mg base CX0 4 a_product (spD ⟨K, w⟩ 2 f_product) := fun h => h
  refine h0 ?_
  clear h0
  have h1 : ∀ (kV doc pm : Value) (an : Option Addr) (cdv ct : Value) (us : List Value), us.length = 2 → bindArgs (PySem.W.fnOf "product" "product" (defArgs (topS 10)) (defBody (topS 10)) (defScope (topS 10)) .none kV doc pm an cdv ct) ⟨us, []⟩ = pure ((["first", "second"] : List Str).zip us) := fun _ _ _ _ _ _ us hl => match us, hl with | [_, _], _ => rfl
  refine @okG P w K mg base "product" "product" (topS 10) a_product fd ["first", "second"] ["first", "second"] 3 2 b_product F sc_product rfl h1 fun cdv A outer s H E hr => ?_
  have sc := sc_product
  have hu := hr.room.units
  have hu1 := hu_of hr.room
  exact (dss_cons (ds_expr (de_call G_require_relations (hr.mono (by decide)) g.f_require_relations.1 g.f_require_relations.2 (da_cons (de_var 0) (da_cons (de_var 1) da_nil))))
    (dss_one (ds_ret (de_call G_product_in (hr.mono (by decide)) g.f_product_in.1 g.f_product_in.2 (da_cons (de_var 0) (da_cons (de_var 1) da_nil))))))
theorem sc_x_law_stream : FnScope ["script", "at", "cell", "great", "mixed"] ["script", "at"] (defScope (topS 12)) := ⟨rfl, rfl, rfl, by decide +kernel, rfl, by decide +kernel, by decide +kernel⟩
theorem ok_x_law_stream {fd : FuncData} (F : Fun K "_law_stream" "_law_stream" (topS 12) a_x_law_stream fd) (g : Glo K mg a_is_integer a_is_relation a_require_relations a_product_in a_product a_x_law_stream a_x_law_draw a_x_law_pick a_x_law_relation a_x_law_product a_x_law_turned a_x_law_right a_x_law_written_right a_law)  : FnG P w K mg base CX0 1 a_x_law_stream (spD ⟨K, w⟩ 2 f_x_law_stream) := by
  have h0 : FnG P w K mg base CX0 1 a_x_law_stream (spD ⟨K, w⟩ 2 (defF 5 b_x_law_stream)) → FnG P w K mg base CX0 1 a_x_law_stream (spD ⟨K, w⟩ 2 f_x_law_stream) := fun h => h
  refine h0 ?_
  clear h0
  have h1 : ∀ (kV doc pm : Value) (an : Option Addr) (cdv ct : Value) (us : List Value), us.length = 2 → bindArgs (PySem.W.fnOf "_law_stream" "_law_stream" (defArgs (topS 12)) (defBody (topS 12)) (defScope (topS 12)) .none kV doc pm an cdv ct) ⟨us, []⟩ = pure ((["script", "at"] : List Str).zip us) := fun _ _ _ _ _ _ us hl => match us, hl with | [_, _], _ => rfl
  refine @okG P w K mg base "_law_stream" "_law_stream" (topS 12) a_x_law_stream fd ["script", "at", "cell", "great", "mixed"] ["script", "at"] 0 2 b_x_law_stream F sc_x_law_stream rfl h1 fun cdv A outer s H E hr => ?_
  have sc := sc_x_law_stream
  have hu := hr.room.units
  have hu1 := hu_of hr.room
  exact (dss_cons (ds_set 2 (de_op or_add (de_op or_mul de_int (de_var 1)) de_int) sc.nd)
    (dss_cons (ds_if (dt_cmp (or_lt hu) (de_var 1) (de_callB (c_len) g.n_len boot_len (da_cons (de_var 0) da_nil))) (dss_one (ds_set 2 (de_ix ix_D (de_var 0) (de_var 1)) sc.nd)) dss_nil)
    (dss_cons (ds_set 3 (de_op or_mod (de_callT (c_int) g.n_int boot_int (da_cons (de_callB (c_abs) g.n_abs boot_abs (da_cons (de_var 2) da_nil)) da_nil)) (de_op or_pow (de_op or_pow de_int de_int) de_int)) sc.nd)
    (dss_cons (ds_set 4 (de_op or_add (de_op or_add (de_op or_add (de_op or_mul (de_op or_mod (de_callT (c_int) g.n_int boot_int (da_cons (de_var 3) da_nil)) de_int) de_int) (de_op or_mul de_int (de_var 1))) (de_op or_mul de_int (de_callT (c_int) g.n_int boot_int (da_cons (de_cmp (or_lt hu) (de_var 2) de_int) da_nil)))) de_int) sc.nd)
    (dss_one (ds_ret (de_lst (da_cons (de_callB (c_max rfl) g.n_max boot_max (da_cons de_int (da_cons (de_op or_sub (de_var 3) (de_op or_pow de_int de_int)) da_nil))) (da_cons (de_op or_mod (de_callT (c_int) g.n_int boot_int (da_cons (de_var 4) da_nil)) de_int) (da_cons de_int da_nil))))))))))
theorem sc_x_law_draw : FnScope ["stream", "high", "found", "one", "two"] ["stream", "high"] (defScope (topS 13)) := ⟨rfl, rfl, rfl, by decide +kernel, rfl, by decide +kernel, by decide +kernel⟩
theorem ok_x_law_draw {fd : FuncData} (F : Fun K "_law_draw" "_law_draw" (topS 13) a_x_law_draw fd) (g : Glo K mg a_is_integer a_is_relation a_require_relations a_product_in a_product a_x_law_stream a_x_law_draw a_x_law_pick a_x_law_relation a_x_law_product a_x_law_turned a_x_law_right a_x_law_written_right a_law)  : FnG P w K mg base CX0 1 a_x_law_draw (spD ⟨K, w⟩ 2 f_x_law_draw) := by
  have h0 : FnG P w K mg base CX0 1 a_x_law_draw (spD ⟨K, w⟩ 2 (defF 5 b_x_law_draw)) → FnG P w K mg base CX0 1 a_x_law_draw (spD ⟨K, w⟩ 2 f_x_law_draw) := fun h => h
  refine h0 ?_
  clear h0
  have h1 : ∀ (kV doc pm : Value) (an : Option Addr) (cdv ct : Value) (us : List Value), us.length = 2 → bindArgs (PySem.W.fnOf "_law_draw" "_law_draw" (defArgs (topS 13)) (defBody (topS 13)) (defScope (topS 13)) .none kV doc pm an cdv ct) ⟨us, []⟩ = pure ((["stream", "high"] : List Str).zip us) := fun _ _ _ _ _ _ us hl => match us, hl with | [_, _], _ => rfl
  refine @okG P w K mg base "_law_draw" "_law_draw" (topS 13) a_x_law_draw fd ["stream", "high", "found", "one", "two"] ["stream", "high"] 0 2 b_x_law_draw F sc_x_law_draw rfl h1 fun cdv A outer s H E hr => ?_
  have sc := sc_x_law_draw
  have hu := hr.room.units
  have hu1 := hu_of hr.room
  exact (dss_cons (ds_if (dt_cmp or_gt (de_ix ix_D (de_var 0) de_int) de_int) (dss_cons (ds_set 2 (de_op or_mod (de_callT (c_int) g.n_int boot_int (da_cons (de_ix ix_D (de_var 0) de_int) da_nil)) (de_var 1)) sc.nd)
    (dss_cons (ds_sub (de_op or_div (de_ix ix_D (de_var 0) de_int) (de_var 1)) (de_var 0) de_int)
    (dss_one (ds_ret (de_var 2))))) dss_nil)
    (dss_cons (ds_sub (de_op or_add (de_ix ix_D (de_var 0) de_int) de_int) (de_var 0) de_int)
    (dss_cons (ds_set 3 (de_op or_mod (de_callT (c_int) g.n_int boot_int (da_cons (de_op or_add (de_ix ix_D (de_var 0) de_int) (de_op or_mul de_int (de_ix ix_D (de_var 0) de_int))) da_nil)) de_int) sc.nd)
    (dss_cons (ds_set 4 (de_op or_add (de_op or_mul (de_op or_mod (de_callT (c_int) g.n_int boot_int (da_cons (de_op or_mul (de_var 3) (de_var 3)) da_nil)) de_int) (de_var 3)) (de_op or_mul de_int (de_ix ix_D (de_var 0) de_int))) sc.nd)
    (dss_cons (ds_set 4 (de_op or_mod (de_callT (c_int) g.n_int boot_int (da_cons (de_var 4) da_nil)) de_int) sc.nd)
    (dss_one (ds_ret (de_op or_mod (de_callT (c_int) g.n_int boot_int (da_cons (de_op or_div (de_var 4) de_int) da_nil)) (de_var 1)))))))))
theorem sc_x_law_pick : FnScope ["stream", "items"] ["stream", "items"] (defScope (topS 14)) := ⟨rfl, rfl, rfl, by decide +kernel, rfl, by decide +kernel, by decide +kernel⟩
theorem ok_x_law_pick {fd : FuncData} (F : Fun K "_law_pick" "_law_pick" (topS 14) a_x_law_pick fd) (g : Glo K mg a_is_integer a_is_relation a_require_relations a_product_in a_product a_x_law_stream a_x_law_draw a_x_law_pick a_x_law_relation a_x_law_product a_x_law_turned a_x_law_right a_x_law_written_right a_law) (G_x_law_draw : FnG P w K mg base CX0 1 a_x_law_draw (spD ⟨K, w⟩ 2 f_x_law_draw)) : FnG P w K mg base CX0 2 a_x_law_pick (spD ⟨K, w⟩ 2 f_x_law_pick) := by
  have h0 : FnG P w K mg base CX0 2 a_x_law_pick (spD ⟨K, w⟩ 2 (defF 2 b_x_law_pick)) → FnG P w K mg base CX0 2 a_x_law_pick (spD ⟨K, w⟩ 2 f_x_law_pick) := fun h => h
  refine h0 ?_
  clear h0
  have h1 : ∀ (kV doc pm : Value) (an : Option Addr) (cdv ct : Value) (us : List Value), us.length = 2 → bindArgs (PySem.W.fnOf "_law_pick" "_law_pick" (defArgs (topS 14)) (defBody (topS 14)) (defScope (topS 14)) .none kV doc pm an cdv ct) ⟨us, []⟩ = pure ((["stream", "items"] : List Str).zip us) := fun _ _ _ _ _ _ us hl => match us, hl with | [_, _], _ => rfl
  refine @okG P w K mg base "_law_pick" "_law_pick" (topS 14) a_x_law_pick fd ["stream", "items"] ["stream", "items"] 1 2 b_x_law_pick F sc_x_law_pick rfl h1 fun cdv A outer s H E hr => ?_
  have sc := sc_x_law_pick
  have hu := hr.room.units
  have hu1 := hu_of hr.room
  exact (dss_one (ds_ret (de_ix ix_D (de_var 1) (de_call G_x_law_draw (hr.mono (by decide)) g.f_x_law_draw.1 g.f_x_law_draw.2 (da_cons (de_var 0) (da_cons (de_callB (c_len) g.n_len boot_len (da_cons (de_var 1) da_nil)) da_nil))))))
theorem sc_x_law_relation : FnScope ["stream", "high", "span", "found", "turn"] ["stream", "high", "span"] (defScope (topS 15)) := ⟨rfl, rfl, rfl, by decide +kernel, rfl, by decide +kernel, by decide +kernel⟩
theorem ok_x_law_relation {fd : FuncData} (F : Fun K "_law_relation" "_law_relation" (topS 15) a_x_law_relation fd) (g : Glo K mg a_is_integer a_is_relation a_require_relations a_product_in a_product a_x_law_stream a_x_law_draw a_x_law_pick a_x_law_relation a_x_law_product a_x_law_turned a_x_law_right a_x_law_written_right a_law) (G_x_law_draw : FnG P w K mg base CX0 1 a_x_law_draw (spD ⟨K, w⟩ 2 f_x_law_draw)) (G_x_law_pick : FnG P w K mg base CX0 2 a_x_law_pick (spD ⟨K, w⟩ 2 f_x_law_pick)) : FnG P w K mg base CX0 3 a_x_law_relation (spD ⟨K, w⟩ 3 f_x_law_relation) := by
  have h0 : FnG P w K mg base CX0 3 a_x_law_relation (spD ⟨K, w⟩ 3 (defF 5 b_x_law_relation)) → FnG P w K mg base CX0 3 a_x_law_relation (spD ⟨K, w⟩ 3 f_x_law_relation) := fun h => h
  refine h0 ?_
  clear h0
  have h1 : ∀ (kV doc pm : Value) (an : Option Addr) (cdv ct : Value) (us : List Value), us.length = 3 → bindArgs (PySem.W.fnOf "_law_relation" "_law_relation" (defArgs (topS 15)) (defBody (topS 15)) (defScope (topS 15)) .none kV doc pm an cdv ct) ⟨us, []⟩ = pure ((["stream", "high", "span"] : List Str).zip us) := fun _ _ _ _ _ _ us hl => match us, hl with | [_, _, _], _ => rfl
  refine @okG P w K mg base "_law_relation" "_law_relation" (topS 15) a_x_law_relation fd ["stream", "high", "span", "found", "turn"] ["stream", "high", "span"] 2 3 b_x_law_relation F sc_x_law_relation rfl h1 fun cdv A outer s H E hr => ?_
  have sc := sc_x_law_relation
  have hu := hr.room.units
  have hu1 := hu_of hr.room
  exact (dss_cons (ds_set 3 (de_lst da_nil) sc.nd)
    (dss_cons (ds_for PassesOwn.never rfl (di_range1 g.n_range (de_call G_x_law_draw (hr.mono (by decide)) g.f_x_law_draw.1 g.f_x_law_draw.2 (da_cons (de_var 0) (da_cons (de_op or_add (de_var 1) de_int) da_nil)))) (tg_nm 4 sc.nd) (dss_one (ds_expr (de_append (de_var 3) (de_tup (da_cons (de_call G_x_law_draw (hr.mono (by decide)) g.f_x_law_draw.1 g.f_x_law_draw.2 (da_cons (de_var 0) (da_cons (de_var 2) da_nil))) (da_cons (de_call G_x_law_draw (hr.mono (by decide)) g.f_x_law_draw.1 g.f_x_law_draw.2 (da_cons (de_var 0) (da_cons (de_var 2) da_nil))) da_nil)))))))
    (dss_cons (ds_if (dt_cmp (or_eq hu) (de_call G_x_law_draw (hr.mono (by decide)) g.f_x_law_draw.1 g.f_x_law_draw.2 (da_cons (de_var 0) (da_cons de_int da_nil))) de_int) (dss_one (ds_expr (de_append (de_var 3) (de_tup (da_cons (de_call G_x_law_pick (hr.mono (by decide)) g.f_x_law_pick.1 g.f_x_law_pick.2 (da_cons (de_var 0) (da_cons (de_lst (da_cons (de_un ur_neg de_int) (da_cons (de_op or_pow de_int de_int) (da_cons de_int da_nil)))) da_nil))) (da_cons (de_call G_x_law_pick (hr.mono (by decide)) g.f_x_law_pick.1 g.f_x_law_pick.2 (da_cons (de_var 0) (da_cons (de_lst (da_cons (de_op or_sub de_int (de_op or_pow de_int de_int)) (da_cons de_int (da_cons (de_un ur_neg de_int) da_nil)))) da_nil))) da_nil)))))) dss_nil)
    (dss_one (ds_ret (de_callT (c_tuple) g.n_tuple boot_tuple (da_cons (de_callB (c_sorted rfl hu) g.n_sorted boot_sorted (da_cons (de_callT (c_set rfl hu) g.n_set boot_set (da_cons (de_var 3) da_nil)) da_nil)) da_nil)))))))
theorem sc_x_law_product : FnScope ["one", "other", "found", "a", "b", "again", "c"] ["one", "other"] (defScope (topS 16)) := ⟨rfl, rfl, rfl, by decide +kernel, rfl, by decide +kernel, by decide +kernel⟩
theorem ok_x_law_product {fd : FuncData} (F : Fun K "_law_product" "_law_product" (topS 16) a_x_law_product fd) (g : Glo K mg a_is_integer a_is_relation a_require_relations a_product_in a_product a_x_law_stream a_x_law_draw a_x_law_pick a_x_law_relation a_x_law_product a_x_law_turned a_x_law_right a_x_law_written_right a_law)  : FnG P w K mg base CX0 1 a_x_law_product (spD ⟨K, w⟩ 2 f_x_law_product) := by
  have h0 : FnG P w K mg base CX0 1 a_x_law_product (spD ⟨K, w⟩ 2 (defF 7 b_x_law_product)) → FnG P w K mg base CX0 1 a_x_law_product (spD ⟨K, w⟩ 2 f_x_law_product) := fun h => h
  refine h0 ?_
  clear h0
  have h1 : ∀ (kV doc pm : Value) (an : Option Addr) (cdv ct : Value) (us : List Value), us.length = 2 → bindArgs (PySem.W.fnOf "_law_product" "_law_product" (defArgs (topS 16)) (defBody (topS 16)) (defScope (topS 16)) .none kV doc pm an cdv ct) ⟨us, []⟩ = pure ((["one", "other"] : List Str).zip us) := fun _ _ _ _ _ _ us hl => match us, hl with | [_, _], _ => rfl
  refine @okG P w K mg base "_law_product" "_law_product" (topS 16) a_x_law_product fd ["one", "other", "found", "a", "b", "again", "c"] ["one", "other"] 0 2 b_x_law_product F sc_x_law_product rfl h1 fun cdv A outer s H E hr => ?_
  have sc := sc_x_law_product
  have hu := hr.room.units
  have hu1 := hu_of hr.room
  exact (dss_cons (ds_set 2 (de_lst da_nil) sc.nd)
    (dss_cons (ds_for PassesOwn.never rfl (di_seq (de_var 0)) (tg_tp rfl (tgs_cons (tg_nm 3 sc.nd) (tgs_cons (tg_nm 4 sc.nd) tgs_nil))) (dss_one (ds_expr (de_extend (de_var 2) (de_lc [("again", 5), ("c", 6)] rfl sc.nd (di_seq (de_var 1)) (show BlkOk ["one", "other", "found", "a", "b", "again", "c"] (defScope (topS 16)) _ [("again", 5), ("c", 6)] from blkOk_by (by decide +kernel)) (fun _ _ _ _ _ => (tg_tp rfl (tgs_cons (tg_nm 5 sc.nd) (tgs_cons (tg_nm 6 sc.nd) tgs_nil)))) (fun _ _ _ _ _ => (dts_one (dt_cmp (or_eq hu) (de_var 5) (de_var 4)))) (fun _ _ _ _ _ => (de_tup (da_cons (de_var 3) (da_cons (de_var 6) da_nil)))) (by decide))))))
    (dss_one (ds_ret (de_callT (c_tuple) g.n_tuple boot_tuple (da_cons (de_callB (c_sorted rfl hu) g.n_sorted boot_sorted (da_cons (de_callT (c_set rfl hu) g.n_set boot_set (da_cons (de_var 2) da_nil)) da_nil)) da_nil))))))
theorem sc_x_law_turned : FnScope ["some", "a", "b"] ["some"] (defScope (topS 17)) := ⟨rfl, rfl, rfl, by decide +kernel, rfl, by decide +kernel, by decide +kernel⟩
theorem ok_x_law_turned {fd : FuncData} (F : Fun K "_law_turned" "_law_turned" (topS 17) a_x_law_turned fd) (g : Glo K mg a_is_integer a_is_relation a_require_relations a_product_in a_product a_x_law_stream a_x_law_draw a_x_law_pick a_x_law_relation a_x_law_product a_x_law_turned a_x_law_right a_x_law_written_right a_law)  : FnG P w K mg base CX0 1 a_x_law_turned (spD ⟨K, w⟩ 1 f_x_law_turned) := by
  have h0 : FnG P w K mg base CX0 1 a_x_law_turned (spD ⟨K, w⟩ 1 (defF 3 b_x_law_turned)) → FnG P w K mg base CX0 1 a_x_law_turned (spD ⟨K, w⟩ 1 f_x_law_turned) := fun h => h
  refine h0 ?_
  clear h0
  have h1 : ∀ (kV doc pm : Value) (an : Option Addr) (cdv ct : Value) (us : List Value), us.length = 1 → bindArgs (PySem.W.fnOf "_law_turned" "_law_turned" (defArgs (topS 17)) (defBody (topS 17)) (defScope (topS 17)) .none kV doc pm an cdv ct) ⟨us, []⟩ = pure ((["some"] : List Str).zip us) := fun _ _ _ _ _ _ us hl => match us, hl with | [_], _ => rfl
  refine @okG P w K mg base "_law_turned" "_law_turned" (topS 17) a_x_law_turned fd ["some", "a", "b"] ["some"] 0 1 b_x_law_turned F sc_x_law_turned rfl h1 fun cdv A outer s H E hr => ?_
  have sc := sc_x_law_turned
  have hu := hr.room.units
  have hu1 := hu_of hr.room
  exact (dss_one (ds_ret (de_callT (c_tuple) g.n_tuple boot_tuple (da_cons (de_callB (c_sorted rfl hu) g.n_sorted boot_sorted (da_cons (de_lc [("a", 1), ("b", 2)] rfl sc.nd (di_seq (de_var 0)) (show BlkOk ["some", "a", "b"] (defScope (topS 17)) _ [("a", 1), ("b", 2)] from blkOk_by (by decide +kernel)) (fun _ _ _ _ _ => (tg_tp rfl (tgs_cons (tg_nm 1 sc.nd) (tgs_cons (tg_nm 2 sc.nd) tgs_nil)))) (fun _ _ _ _ _ => dts_nil) (fun _ _ _ _ _ => (de_tup (da_cons (de_var 2) (da_cons (de_var 1) da_nil)))) (by decide)) da_nil)) da_nil))))
theorem sc_x_law_right : FnScope ["stream", "span", "one", "two", "three", "turn", "found", "behind", "alike", "a", "b"] ["stream"] (defScope (topS 18)) := ⟨rfl, rfl, rfl, by decide +kernel, rfl, by decide +kernel, by decide +kernel⟩
theorem ok_x_law_right {fd : FuncData} (F : Fun K "_law_right" "_law_right" (topS 18) a_x_law_right fd) (g : Glo K mg a_is_integer a_is_relation a_require_relations a_product_in a_product a_x_law_stream a_x_law_draw a_x_law_pick a_x_law_relation a_x_law_product a_x_law_turned a_x_law_right a_x_law_written_right a_law) (G_x_law_draw : FnG P w K mg base CX0 1 a_x_law_draw (spD ⟨K, w⟩ 2 f_x_law_draw)) (G_x_law_relation : FnG P w K mg base CX0 3 a_x_law_relation (spD ⟨K, w⟩ 3 f_x_law_relation)) (G_product : FnG P w K mg base CX0 4 a_product (spD ⟨K, w⟩ 2 f_product)) (G_x_law_product : FnG P w K mg base CX0 1 a_x_law_product (spD ⟨K, w⟩ 2 f_x_law_product)) (G_x_law_turned : FnG P w K mg base CX0 1 a_x_law_turned (spD ⟨K, w⟩ 1 f_x_law_turned)) : FnG P w K mg base CX0 5 a_x_law_right (spD ⟨K, w⟩ 1 f_x_law_right) := by
  have h0 : FnG P w K mg base CX0 5 a_x_law_right (spD ⟨K, w⟩ 1 (defF 11 b_x_law_right)) → FnG P w K mg base CX0 5 a_x_law_right (spD ⟨K, w⟩ 1 f_x_law_right) := fun h => h
  refine h0 ?_
  clear h0
  have h1 : ∀ (kV doc pm : Value) (an : Option Addr) (cdv ct : Value) (us : List Value), us.length = 1 → bindArgs (PySem.W.fnOf "_law_right" "_law_right" (defArgs (topS 18)) (defBody (topS 18)) (defScope (topS 18)) .none kV doc pm an cdv ct) ⟨us, []⟩ = pure ((["stream"] : List Str).zip us) := fun _ _ _ _ _ _ us hl => match us, hl with | [_], _ => rfl
  refine @okG P w K mg base "_law_right" "_law_right" (topS 18) a_x_law_right fd ["stream", "span", "one", "two", "three", "turn", "found", "behind", "alike", "a", "b"] ["stream"] 4 1 b_x_law_right F sc_x_law_right rfl h1 fun cdv A outer s H E hr => ?_
  have sc := sc_x_law_right
  have hu := hr.room.units
  have hu1 := hu_of hr.room
  exact (dss_cons (ds_set 1 (de_op or_add de_int (de_call G_x_law_draw (hr.mono (by decide)) g.f_x_law_draw.1 g.f_x_law_draw.2 (da_cons (de_var 0) (da_cons de_int da_nil)))) sc.nd)
    (dss_cons (ds_unl rfl (de_lc [("turn", 5)] rfl sc.nd (di_range1 g.n_range de_int) (show BlkOk ["stream", "span", "one", "two", "three", "turn", "found", "behind", "alike", "a", "b"] (defScope (topS 18)) _ [("turn", 5)] from blkOk_by (by decide +kernel)) (fun _ _ _ _ _ => (tg_nm 5 sc.nd)) (fun _ _ _ _ _ => dts_nil) (fun _ _ _ _ _ => (de_call G_x_law_relation (hr.mono (by decide)) g.f_x_law_relation.1 g.f_x_law_relation.2 (da_cons (de_var 0) (da_cons de_int (da_cons (de_var 1) da_nil))))) (by decide)) (tgs_cons (tg_nm 2 sc.nd) (tgs_cons (tg_nm 3 sc.nd) (tgs_cons (tg_nm 4 sc.nd) tgs_nil))))
    (dss_cons (ds_set 6 (de_call G_product (hr.mono (by decide)) g.f_product.1 g.f_product.2 (da_cons (de_var 2) (da_cons (de_var 3) da_nil))) sc.nd)
    (dss_cons (ds_if (dt_w (dw_or (dt_cmp (or_ne hu) (de_var 6) (de_call G_x_law_product (hr.mono (by decide)) g.f_x_law_product.1 g.f_x_law_product.2 (da_cons (de_var 2) (da_cons (de_var 3) da_nil)))) (dw_or1 (dt_cmp (or_ne hu) (de_callB (c_repr hu hr.gd) g.n_repr boot_repr (da_cons (de_var 6) da_nil)) (de_callB (c_repr hu hr.gd) g.n_repr boot_repr (da_cons (de_call G_x_law_product (hr.mono (by decide)) g.f_x_law_product.1 g.f_x_law_product.2 (da_cons (de_var 2) (da_cons (de_var 3) da_nil))) da_nil)))))) (dss_one (ds_ret de_bl)) dss_nil)
    (dss_cons (ds_if (dt_cmp (or_ne hu) (de_call G_product (hr.mono (by decide)) g.f_product.1 g.f_product.2 (da_cons (de_call G_x_law_turned (hr.mono (by decide)) g.f_x_law_turned.1 g.f_x_law_turned.2 (da_cons (de_var 3) da_nil)) (da_cons (de_call G_x_law_turned (hr.mono (by decide)) g.f_x_law_turned.1 g.f_x_law_turned.2 (da_cons (de_var 2) da_nil)) da_nil))) (de_call G_x_law_turned (hr.mono (by decide)) g.f_x_law_turned.1 g.f_x_law_turned.2 (da_cons (de_var 6) da_nil))) (dss_one (ds_ret de_bl)) dss_nil)
    (dss_cons (ds_set 7 (de_call G_product (hr.mono (by decide)) g.f_product.1 g.f_product.2 (da_cons (de_var 3) (da_cons (de_var 4) da_nil))) sc.nd)
    (dss_cons (ds_if (dt_w (dw_and (dt_cmp or_le (de_callB (c_len) g.n_len boot_len (da_cons (de_var 6) da_nil)) de_int) (dw_and (dt_cmp or_le (de_callB (c_len) g.n_len boot_len (da_cons (de_var 7) da_nil)) de_int) (dw_and1 (dt_cmp (or_ne hu) (de_call G_product (hr.mono (by decide)) g.f_product.1 g.f_product.2 (da_cons (de_var 6) (da_cons (de_var 4) da_nil))) (de_call G_product (hr.mono (by decide)) g.f_product.1 g.f_product.2 (da_cons (de_var 2) (da_cons (de_var 7) da_nil)))))))) (dss_one (ds_ret de_bl)) dss_nil)
    (dss_cons (ds_set 8 (de_callT (c_tuple) g.n_tuple boot_tuple (da_cons (de_callB (c_sorted rfl hu) g.n_sorted boot_sorted (da_cons (de_callT (c_set rfl hu) g.n_set boot_set (da_cons (de_lc [("a", 9), ("b", 10)] rfl sc.nd (di_seq (de_var 2)) (show BlkOk ["stream", "span", "one", "two", "three", "turn", "found", "behind", "alike", "a", "b"] (defScope (topS 18)) _ [("a", 9), ("b", 10)] from blkOk_by (by decide +kernel)) (fun _ _ _ _ _ => (tg_tp rfl (tgs_cons (tg_nm 9 sc.nd) (tgs_cons (tg_nm 10 sc.nd) tgs_nil)))) (fun _ _ _ _ _ => dts_nil) (fun _ _ _ _ _ => (de_tup (da_cons (de_var 10) (da_cons (de_var 10) da_nil)))) (by decide)) da_nil)) da_nil)) da_nil)) sc.nd)
    (dss_one (ds_ret (de_and (de_cmp (or_eq hu) (de_call G_product (hr.mono (by decide)) g.f_product.1 g.f_product.2 (da_cons (de_var 2) (da_cons (de_var 8) da_nil))) (de_var 2)) (de_and (de_cmp (or_eq hu) (de_call G_product (hr.mono (by decide)) g.f_product.1 g.f_product.2 (da_cons (de_var 2) (da_cons (de_tup da_nil) da_nil))) (de_tup da_nil)) (de_one (de_cmp (or_eq hu) (de_call G_product (hr.mono (by decide)) g.f_product.1 g.f_product.2 (da_cons (de_tup da_nil) (da_cons (de_var 3) da_nil))) (de_tup da_nil)))))))))))))))
theorem sc_x_law_written_right : FnScope ["wide", "at", "fan", "back", "a", "c", "great"] [] (defScope (topS 19)) := ⟨rfl, rfl, rfl, by decide +kernel, rfl, by decide +kernel, by decide +kernel⟩
theorem ok_x_law_written_right {fd : FuncData} (F : Fun K "_law_written_right" "_law_written_right" (topS 19) a_x_law_written_right fd) (g : Glo K mg a_is_integer a_is_relation a_require_relations a_product_in a_product a_x_law_stream a_x_law_draw a_x_law_pick a_x_law_relation a_x_law_product a_x_law_turned a_x_law_right a_x_law_written_right a_law) (G_product : FnG P w K mg base CX0 4 a_product (spD ⟨K, w⟩ 2 f_product)) : FnG P w K mg base CX0 5 a_x_law_written_right (spD ⟨K, w⟩ 0 f_x_law_written_right) := by
  have h0 : FnG P w K mg base CX0 5 a_x_law_written_right (spD ⟨K, w⟩ 0 (defF 7 b_x_law_written_right)) → FnG P w K mg base CX0 5 a_x_law_written_right (spD ⟨K, w⟩ 0 f_x_law_written_right) := fun h => h
  refine h0 ?_
  clear h0
  have h1 : ∀ (kV doc pm : Value) (an : Option Addr) (cdv ct : Value) (us : List Value), us.length = 0 → bindArgs (PySem.W.fnOf "_law_written_right" "_law_written_right" (defArgs (topS 19)) (defBody (topS 19)) (defScope (topS 19)) .none kV doc pm an cdv ct) ⟨us, []⟩ = pure (([] : List Str).zip us) := fun _ _ _ _ _ _ us hl => match us, hl with | [], _ => rfl
  refine @okG P w K mg base "_law_written_right" "_law_written_right" (topS 19) a_x_law_written_right fd ["wide", "at", "fan", "back", "a", "c", "great"] [] 4 0 b_x_law_written_right F sc_x_law_written_right rfl h1 fun cdv A outer s H E hr => ?_
  have sc := sc_x_law_written_right
  have hu := hr.room.units
  have hu1 := hu_of hr.room
  exact (dss_cons (ds_set 0 (de_callT (c_tuple) g.n_tuple boot_tuple (da_cons (de_lc [("at", 1)] rfl sc.nd (di_range1 g.n_range de_int) (show BlkOk ["wide", "at", "fan", "back", "a", "c", "great"] (defScope (topS 19)) _ [("at", 1)] from blkOk_by (by decide +kernel)) (fun _ _ _ _ _ => (tg_nm 1 sc.nd)) (fun _ _ _ _ _ => dts_nil) (fun _ _ _ _ _ => (de_tup (da_cons (de_op or_div (de_callT (c_int) g.n_int boot_int (da_cons (de_var 1) da_nil)) de_int) (da_cons (de_op or_mod (de_callT (c_int) g.n_int boot_int (da_cons (de_var 1) da_nil)) de_int) da_nil)))) (by decide)) da_nil)) sc.nd)
    (dss_cons (ds_par 2 3 rfl sc.nd (da_cons (de_callT (c_tuple) g.n_tuple boot_tuple (da_cons (de_lc [("a", 4)] rfl sc.nd (di_range1 g.n_range de_int) (show BlkOk ["wide", "at", "fan", "back", "a", "c", "great"] (defScope (topS 19)) _ [("a", 4)] from blkOk_by (by decide +kernel)) (fun _ _ _ _ _ => (tg_nm 4 sc.nd)) (fun _ _ _ _ _ => dts_nil) (fun _ _ _ _ _ => (de_tup (da_cons (de_var 4) (da_cons de_int da_nil)))) (by decide)) da_nil)) (da_cons (de_callT (c_tuple) g.n_tuple boot_tuple (da_cons (de_lc [("c", 5)] rfl sc.nd (di_range2 g.n_range (de_un ur_neg de_int) de_int) (show BlkOk ["wide", "at", "fan", "back", "a", "c", "great"] (defScope (topS 19)) _ [("c", 5)] from blkOk_by (by decide +kernel)) (fun _ _ _ _ _ => (tg_nm 5 sc.nd)) (fun _ _ _ _ _ => dts_nil) (fun _ _ _ _ _ => (de_tup (da_cons de_int (da_cons (de_var 5) da_nil)))) (by decide)) da_nil)) da_nil)))
    (dss_cons (ds_if (dt_w (dw_or (dt_cmp (or_ne hu) (de_call G_product (hr.mono (by decide)) g.f_product.1 g.f_product.2 (da_cons (de_var 0) (da_cons (de_var 0) da_nil))) (de_var 0)) (dw_or1 (dt_cmp (or_ne hu) (de_callB (c_len) g.n_len boot_len (da_cons (de_call G_product (hr.mono (by decide)) g.f_product.1 g.f_product.2 (da_cons (de_var 2) (da_cons (de_var 3) da_nil))) da_nil)) de_int)))) (dss_one (ds_ret de_bl)) dss_nil)
    (dss_cons (ds_if (dt_w (dw_or (dt_cmp (or_ne hu) (de_slice sl_D (de_call G_product (hr.mono (by decide)) g.f_product.1 g.f_product.2 (da_cons (de_var 2) (da_cons (de_var 3) da_nil))) do_none (do_some de_int)) (de_tup (da_cons (de_tup (da_cons de_int (da_cons (de_un ur_neg de_int) da_nil))) (da_cons (de_tup (da_cons de_int (da_cons (de_un ur_neg de_int) da_nil))) da_nil)))) (dw_or1 (dt_cmp (or_ne hu) (de_call G_product (hr.mono (by decide)) g.f_product.1 g.f_product.2 (da_cons (de_var 3) (da_cons (de_var 2) da_nil))) (de_tup (da_cons (de_tup (da_cons de_int (da_cons de_int da_nil))) da_nil)))))) (dss_one (ds_ret de_bl)) dss_nil)
    (dss_cons (ds_set 6 (de_op or_sub (de_op or_pow de_int de_int) de_int) sc.nd)
    (dss_one (ds_ret (de_and (de_cmp (or_eq hu) (de_call G_product (hr.mono (by decide)) g.f_product.1 g.f_product.2 (da_cons (de_tup (da_cons (de_tup (da_cons (de_var 6) (da_cons (de_op or_sub de_int (de_var 6)) da_nil))) da_nil)) (da_cons (de_tup (da_cons (de_tup (da_cons (de_op or_sub de_int (de_var 6)) (da_cons (de_var 6) da_nil))) da_nil)) da_nil))) (de_tup (da_cons (de_tup (da_cons (de_var 6) (da_cons (de_var 6) da_nil))) da_nil))) (de_one (de_cmp (or_eq hu) (de_call G_product (hr.mono (by decide)) g.f_product.1 g.f_product.2 (da_cons (de_tup da_nil) (da_cons (de_tup da_nil) da_nil))) (de_tup da_nil)))))))))))
theorem sc_law : FnScope ["script", "at", "stream", "turn"] ["script"] (defScope (topS 20)) := ⟨rfl, rfl, rfl, by decide +kernel, rfl, by decide +kernel, by decide +kernel⟩
theorem ok_law {fd : FuncData} (F : Fun K "law" "law" (topS 20) a_law fd) (g : Glo K mg a_is_integer a_is_relation a_require_relations a_product_in a_product a_x_law_stream a_x_law_draw a_x_law_pick a_x_law_relation a_x_law_product a_x_law_turned a_x_law_right a_x_law_written_right a_law) (G_x_law_stream : FnG P w K mg base CX0 1 a_x_law_stream (spD ⟨K, w⟩ 2 f_x_law_stream)) (G_x_law_right : FnG P w K mg base CX0 5 a_x_law_right (spD ⟨K, w⟩ 1 f_x_law_right)) (G_x_law_written_right : FnG P w K mg base CX0 5 a_x_law_written_right (spD ⟨K, w⟩ 0 f_x_law_written_right)) : FnG P w K mg base CX0 6 a_law (spD ⟨K, w⟩ 1 f_law) := by
  have h0 : FnG P w K mg base CX0 6 a_law (spD ⟨K, w⟩ 1 (defF 4 b_law)) → FnG P w K mg base CX0 6 a_law (spD ⟨K, w⟩ 1 f_law) := fun h => h
  refine h0 ?_
  clear h0
  have h1 : ∀ (kV doc pm : Value) (an : Option Addr) (cdv ct : Value) (us : List Value), us.length = 1 → bindArgs (PySem.W.fnOf "law" "law" (defArgs (topS 20)) (defBody (topS 20)) (defScope (topS 20)) .none kV doc pm an cdv ct) ⟨us, []⟩ = pure ((["script"] : List Str).zip us) := fun _ _ _ _ _ _ us hl => match us, hl with | [_], _ => rfl
  refine @okG P w K mg base "law" "law" (topS 20) a_law fd ["script", "at", "stream", "turn"] ["script"] 5 1 b_law F sc_law rfl h1 fun cdv A outer s H E hr => ?_
  have sc := sc_law
  have hu := hr.room.units
  have hu1 := hu_of hr.room
  exact (dss_cons (ds_for PassesOwn.never rfl (di_range1 g.n_range (de_callB (c_max rfl) g.n_max boot_max (da_cons de_int (da_cons (de_callB (c_min rfl) g.n_min boot_min (da_cons de_int (da_cons (de_callB (c_len) g.n_len boot_len (da_cons (de_var 0) da_nil)) da_nil))) da_nil)))) (tg_nm 1 sc.nd) (dss_cons (ds_set 2 (de_call G_x_law_stream (hr.mono (by decide)) g.f_x_law_stream.1 g.f_x_law_stream.2 (da_cons (de_var 0) (da_cons (de_var 1) da_nil))) sc.nd)
    (dss_one (ds_for PassesOwn.never rfl (di_range1 g.n_range de_int) (tg_nm 3 sc.nd) (dss_one (ds_if (dt_not (dt_val (de_call G_x_law_right (hr.mono (by decide)) g.f_x_law_right.1 g.f_x_law_right.2 (da_cons (de_var 2) da_nil)))) (dss_one (ds_ret de_bl)) dss_nil))))))
    (dss_one (ds_ret (de_call0 G_x_law_written_right (hr.mono (by decide)) g.f_x_law_written_right.1 g.f_x_law_written_right.2))))
end
end L3
namespace L3
open PySem PySem.Spec PyProof.Rows L2

/-! ### pairs of whole numbers -/
abbrev PI2 := Int × Int
def prD (p : PI2) : D := .tup [.int p.1, .int p.2]
def relD (l : List PI2) : D := .tup (l.map prD)
def ltP (p q : PI2) : Prop := p.1 < q.1 ∨ (p.1 = q.1 ∧ p.2 < q.2)
instance (p q : PI2) : Decidable (ltP p q) := inferInstanceAs (Decidable (_ ∨ _))
def leP (p q : PI2) : Bool := decide (p.1 < q.1 ∨ (p.1 = q.1 ∧ p.2 ≤ q.2))
def Asc (l : List PI2) : Prop := l.Pairwise ltP
theorem toPy_pr (p : PI2) : toPy (prD p) = some (.tuple [.int p.1, .int p.2]) := by simp [prD, toPy, toPys]
theorem encD_pr (p : PI2) : encD (prD p) = .tuple [.int p.1, .int p.2] := by unfold encD; rw [toPy_pr]; rfl
theorem prD_inj {p q : PI2} (h : prD p = prD q) : p = q := by
  simp [prD] at h
  exact Prod.ext h.1 h.2
theorem key8_pr (p : PI2) : key8 (prD p) = some (.tup [.num p.1, .num p.2]) := by
  simp [key8, prD, nkD, nkDs, NestedKey.depth, NestedKey.depthAll]
theorem opLt_pr (p q : PI2) (st : Sto) : opLt (prD p) (prD q) st = .ok (.bl (decide (ltP p q))) st := by
  unfold opLt
  rw [toPy_pr, toPy_pr]
  have h1 : PySem.W.alike (.tuple [.int p.1, .int p.2]) (.tuple [.int q.1, .int q.2]) = true := by simp [PySem.W.alike, PySem.W.alikeAll]
  have h2 : (PyData.tuple [.int p.1, .int p.2]).depth ≤ 64 := by simp [PyData.depth, PyData.depthAll]
  simp only [h1, isNone, Bool.not_false, Bool.true_and, decide_eq_true h2, if_true]
  rw [PySem.W.dataLt_ii]
  congr 2
/-! ### the store behind a call -/
theorem gc_plain {st g : Sto} {d : D} (h : blw st.length d = true) : gc st d (st ++ g) = .ok d st := by
  unfold gc
  rw [kept_self, if_pos rfl, if_pos h]
  simp
theorem gc_plain0 {st : Sto} {d : D} (h : blw st.length d = true) : gc st d st = .ok d st := by
  have := gc_plain (g := []) h
  simpa using this
theorem gc_setk {st g : Sto} {d : D} {k : Nat} {o : Ob} (h : blw st.length d = true) (ho : blwO st.length o = true) : gc st d (st.set k o ++ g) = .ok d (st.set k o) := by
  unfold gc
  rw [kept_set _ _ _ _ _ ho, if_pos rfl, if_pos h]
  have : st.length = (st.set k o).length := by simp
  rw [this, List.take_left]
theorem blw_pr (n : Nat) (p : PI2) : blw n (prD p) = true := by simp [prD, blw, blws]
theorem blws_rel (n : Nat) : ∀ l : List PI2, blws n (l.map prD) = true
  | [] => by simp [blws]
  | p :: l => by rw [List.map_cons, blws, blw_pr, blws_rel n l]; rfl
theorem blw_rel (n : Nat) (l : List PI2) : blw n (relD l) = true := by rw [relD, blw]; exact blws_rel n l
/-! ### turns that leave the store as it is -/
theorem lcGo_pure {t : Tg} {ok : Sto → Bool} {e : Mo D} {env : En} {st : Sto} (F : D → D) (hok : ok st = true) : ∀ {xs : List D}, (∀ x ∈ xs, ∃ env1, setT t x env = some env1 ∧ e env1 st = .ok (F x) st) → lcGo t ok mYes e env xs st = .ok (xs.map F) st
  | [], _ => by rw [lcGo, if_pos hok]; rfl
  | x :: xs, h => by
    obtain ⟨env1, h1, h2⟩ := h x List.mem_cons_self
    rw [lcGo, if_pos hok, h1]
    simp only [mYes, nox_ok, bind_ok, if_true, h2, lcGo_pure F hok fun y hy => h y (List.mem_cons_of_mem _ hy), List.map_cons]

/-! ### is_integer, is_relation -/
theorem is_integer_ok (i : Int) (st : Sto) : f_is_integer [.int i] st = .ok (.bl true) st := by
  have h : gc st (.bl true) st = .ok (.bl true) st := gc_plain0 (by simp [blw])
  simp [f_is_integer, defF, b_is_integer, cIsi, tyD, isiB, tyNames, h]
def body_rel : MS := (sIf (mOr (mNot (mB (mF cIsi (mCons (mVar 1) (mCons (mC (.ty "tuple")) mNil))))) (mOr (mB (mOp (opEq true) (mF cLen (mCons (mVar 1) mNil)) (mC (.int 2)))) (mNot (mB (mF (cAll fun bs => bs.all id) (mCons (mLc [2] (mIter (mVar 1)) (.nm 2) mYes (mCall 1 f_is_integer (mCons (mVar 2) mNil))) mNil)))))) (sRet (mC (.bl false))) sNil)
theorem body_rel_ok (v : D) (p : PI2) (st : Sto) : body_rel [some v, some (prD p), none, none] st = .ok (.nx [some v, some (prD p), none, none]) (st ++ [.lst [.bl true, .bl true]]) := by
  simp [body_rel, cIsi, tyD, isiB, tyNames, prD, cLen, itemsD, szOk, lcGo, setT, is_integer_ok, cAll, blsOf, wipeE]
theorem loop_rel : ∀ (l : List PI2) (v : D) (x : Option D) (st : Sto), ∃ g x', forGo (.nm 1) (fun _ => true) body_rel (l.map prD) [some v, x, none, none] st = .ok (.nx [some v, x', none, none]) (st ++ g)
  | [], v, x, st => ⟨[], x, by simp [forGo]⟩
  | p :: l, v, x, st => by
    obtain ⟨g, x', h⟩ := loop_rel l v (some (prD p)) (st ++ [.lst [.bl true, .bl true]])
    refine ⟨[.lst [.bl true, .bl true]] ++ g, x', ?_⟩
    rw [List.map_cons, forGo]
    simp only [if_true, setT, List.set_cons_succ, List.set_cons_zero, body_rel_ok, bind_ok, h, List.append_assoc]
theorem asc_next : ∀ {l : List PI2}, Asc l → ((l.zip l.tail).all fun q => decide (ltP q.1 q.2)) = true
  | [], _ => rfl
  | [p], _ => rfl
  | p :: q :: r, h => by
    obtain ⟨h1, h2⟩ := List.pairwise_cons.mp h
    have ih := asc_next h2
    simp only [List.tail_cons, List.zip_cons_cons, List.all_cons, Bool.and_eq_true, decide_eq_true_eq] at ih ⊢
    exact ⟨h1 q List.mem_cons_self, ih⟩
theorem zip_map2 (l m : List PI2) : List.zipWith (fun x y => D.tup [x, y]) (l.map prD) (m.map prD) = (l.zip m).map fun q => D.tup [prD q.1, prD q.2] := by
  induction l generalizing m with
  | nil => simp
  | cons p l ih => cases m with
    | nil => simp
    | cons q m => simp [ih]
theorem blsOf_map (bs : List Bool) : blsOf (bs.map D.bl) = some bs := by
  induction bs with
  | nil => rfl
  | cons b bs ih => simp [blsOf, ih]
theorem blsOf_comp {α : Type} (f : α → Bool) (xs : List α) : blsOf (xs.map (D.bl ∘ f)) = some (xs.map f) := by
  rw [← List.map_map, blsOf_map]
theorem cut_tail (xs : List D) : cutD xs (some 1) none = xs.tail := by
  unfold cutD
  rw [HT.sIx_none]
  cases xs with
  | nil => simp [HT.sIx]
  | cons x r =>
    have : HT.sIx (x :: r).length 0 (some 1) = 1 := by simp [HT.sIx]
    rw [this]
    simp
theorem is_relation_ok {l : List PI2} (h : Asc l) (hl : l.length ≤ 100) (st : Sto) : f_is_relation [relD l] st = .ok (.bl true) st := by
  obtain ⟨g, x', hg⟩ := loop_rel l (relD l) none st
  have hlen : ¬ (100 : Int) < (l.length : Int) := by omega
  have hz : szOk (l.zip l.tail).length = true := by simp [szOk]; omega
  have lc : ∀ st', lcGo (.tp [.nm 2, .nm 3]) (fun _ => true) mYes (mOp opLt (mVar 2) (mVar 3)) (wipeE [some (relD l), x', none, none] [2, 3]) ((l.zip l.tail).map fun q => D.tup [prD q.1, prD q.2]) st' = .ok ((l.zip l.tail).map fun q => D.bl (decide (ltP q.1 q.2))) st' := fun st' => by
    have := lcGo_pure (t := .tp [.nm 2, .nm 3]) (ok := fun _ => true) (e := mOp opLt (mVar 2) (mVar 3)) (env := wipeE [some (relD l), x', none, none] [2, 3]) (st := st') (fun d => match d with | .tup [a, b] => (match opLt a b st' with | .ok r _ => r | _ => .non) | _ => .non) rfl
      (xs := (l.zip l.tail).map fun q => D.tup [prD q.1, prD q.2]) fun x hx => by
        obtain ⟨q, _, rfl⟩ := List.mem_map.mp hx
        exact ⟨[some (relD l), x', some (prD q.1), some (prD q.2)], by simp [setT, setTs, wipeE], by simp [opLt_pr]⟩
    rw [this, List.map_map]
    congr 1
    refine List.map_congr_left fun q _ => ?_
    simp [opLt_pr]
  have e1 : List.zipWith (fun x y => D.tup [x, y]) (l.map prD) (cutD (l.map prD) (some 1) none) = (l.zip l.tail).map fun q => D.tup [prD q.1, prD q.2] := by
    rw [cut_tail, ← List.map_tail, zip_map2]
  have all1 : ((l.zip l.tail).map fun q => decide (ltP q.1 q.2)).all id = true := by
    rw [List.all_map]
    exact asc_next h
  have e2 : ((l.zip l.tail).map fun q => D.bl (decide (ltP q.1 q.2))) = ((l.zip l.tail).map fun q => decide (ltP q.1 q.2)).map D.bl := by simp [Function.comp_def]
  have gcb : ∀ b g', gc st (.bl b) (st ++ g') = .ok (.bl b) st := fun b g' => gc_plain (by simp [blw])
  have hz2 : l.length ≤ 16777217 := by omega
  have all2 : ∀ x ∈ l.zip l.tail, ltP x.1 x.2 := fun x hx => of_decide_eq_true (List.all_eq_true.mp (asc_next h) x hx)
  unfold f_is_relation defF b_is_relation
  rw [show (sIf (mOr (mNot (mB (mF cIsi (mCons (mVar 1) (mCons (mC (.ty "tuple")) mNil))))) (mOr (mB (mOp (opEq true) (mF cLen (mCons (mVar 1) mNil)) (mC (.int 2)))) (mNot (mB (mF (cAll fun bs => bs.all id) (mCons (mLc [2] (mIter (mVar 1)) (.nm 2) mYes (mCall 1 f_is_integer (mCons (mVar 2) mNil))) mNil)))))) (sRet (mC (.bl false))) sNil) = body_rel from rfl]
  simp only [relD] at hg lc ⊢
  simp [cIsi, tyD, isiB, tyNames, cLen, itemsD, hlen, hg, e1, lc, hz2, cAll, e2, blsOf_comp, blsOf_map, all1, all2, gcb, szOk]
end L3
namespace L3
open PySem PySem.Spec PyProof.Rows L2

/-! ### rows in order, each once -/
def ddP : List PI2 → List PI2 → List PI2
  | _, [] => []
  | seen, x :: xs => if x ∈ seen then ddP seen xs else x :: ddP (x :: seen) xs
theorem mem_ddP {x : PI2} : ∀ {seen xs : List PI2}, x ∈ ddP seen xs ↔ x ∈ xs ∧ x ∉ seen
  | _, [] => by simp [ddP]
  | seen, y :: ys => by
    rw [ddP]
    split
    · rename_i h
      rw [mem_ddP (seen := seen) (xs := ys), List.mem_cons]
      constructor
      · exact fun ⟨a, b⟩ => ⟨.inr a, b⟩
      · rintro ⟨a | a, b⟩
        · exact absurd (a ▸ h) b
        · exact ⟨a, b⟩
    · rename_i h
      rw [List.mem_cons, mem_ddP (seen := y :: seen) (xs := ys), List.mem_cons, List.mem_cons, not_or]
      constructor
      · rintro (a | ⟨a, b, c⟩)
        · exact ⟨.inl a, by rw [a]; exact h⟩
        · exact ⟨.inr a, c⟩
      · rintro ⟨a | a, b⟩
        · exact .inl a
        · by_cases c : x = y
          · exact .inl c
          · exact .inr ⟨a, c, b⟩
theorem nodup_ddP : ∀ {seen xs : List PI2}, (ddP seen xs).Nodup
  | _, [] => List.nodup_nil
  | seen, y :: ys => by
    rw [ddP]
    split
    · exact nodup_ddP
    · exact List.nodup_cons.mpr ⟨fun h => (mem_ddP.mp h).2 List.mem_cons_self, nodup_ddP⟩
theorem mem_map_pr {p : PI2} {l : List PI2} : prD p ∈ l.map prD ↔ p ∈ l := by
  rw [List.mem_map]
  exact ⟨fun ⟨q, hq, e⟩ => prD_inj e ▸ hq, fun h => ⟨p, h, rfl⟩⟩
theorem dedup_pr : ∀ (seen l : List PI2), dedupD (seen.map prD) (l.map prD) = (ddP seen l).map prD
  | _, [] => rfl
  | seen, p :: l => by
    rw [List.map_cons, dedupD, ddP]
    by_cases c : p ∈ seen
    · rw [if_pos c, if_pos (mem_map_pr.mpr c), dedup_pr seen l]
    · rw [if_neg c, if_neg (fun h => c (mem_map_pr.mp h)), List.map_cons, ← dedup_pr (p :: seen) l, List.map_cons]
theorem dataLe_pr (p q : PI2) : PySem.W.dataLe false encD (prD p) (prD q) = leP p q := by
  have h := congrFun (congrFun (PySem.W.dataLe_ii (β := PI2) Prod.fst Prod.snd) p) q
  have e : PySem.W.dataLe false encD (prD p) (prD q) = PySem.W.dataLe false (fun b : PI2 => PyData.tuple [.int b.1, .int b.2]) p q := by
    show (!PySem.W.dataLt (encD (prD q)) (encD (prD p))) = (!PySem.W.dataLt _ _)
    rw [encD_pr, encD_pr]
  rw [e, h]
  rfl
theorem sortD_pr (l : List PI2) : sortD (l.map prD) = (l.mergeSort leP).map prD := by
  unfold sortD
  exact (List.map_mergeSort (f := prD) fun a _ b _ => (dataLe_pr a b).symm).symm
theorem leP_total : ∀ p q : PI2, (leP p q || leP q p) = true := fun p q => by
  simp only [leP, Bool.or_eq_true, decide_eq_true_eq]; omega
theorem leP_trans : ∀ p q r : PI2, leP p q = true → leP q r = true → leP p r = true := fun p q r => by
  simp only [leP, decide_eq_true_eq]; omega
theorem leP_anti {p q : PI2} (h1 : leP p q = true) (h2 : leP q p = true) : p = q := by
  simp only [leP, decide_eq_true_eq] at h1 h2
  exact Prod.ext (by omega) (by omega)
def sortP (l : List PI2) : List PI2 := l.mergeSort leP
theorem sortP_le (l : List PI2) : (sortP l).Pairwise (fun a b => leP a b = true) := List.pairwise_mergeSort leP_trans leP_total l
theorem sortP_perm (l : List PI2) : (sortP l).Perm l := List.mergeSort_perm l leP
theorem asc_of {l : List PI2} (h : l.Pairwise (fun a b => leP a b = true)) (nd : l.Nodup) : Asc l := by
  refine List.Pairwise.imp_of_mem (R := fun a b => leP a b = true ∧ a ≠ b) (fun _ _ ⟨h1, h2⟩ => ?_) (List.Pairwise.and h nd)
  simp only [leP, decide_eq_true_eq] at h1
  unfold ltP
  rcases h1 with h1 | ⟨h1, h3⟩
  · exact .inl h1
  · refine .inr ⟨h1, ?_⟩
    have : ¬ _ := fun z => h2 (Prod.ext h1 z)
    omega
theorem asc_le {l : List PI2} (h : Asc l) : l.Pairwise (fun a b => leP a b = true) := List.Pairwise.imp (fun {a b} h => by
  unfold ltP at h
  simp only [leP, decide_eq_true_eq]
  omega) h
theorem asc_nodup {l : List PI2} (h : Asc l) : l.Nodup := List.Pairwise.imp (fun {a b} h e => by
  subst e
  unfold ltP at h
  omega) h
/-- the rows in order, each once -/
def canon (l : List PI2) : List PI2 := sortP (ddP [] l)
theorem mem_canon {p : PI2} {l : List PI2} : p ∈ canon l ↔ p ∈ l := by
  unfold canon
  rw [(sortP_perm _).mem_iff, mem_ddP]
  simp
theorem asc_canon (l : List PI2) : Asc (canon l) := asc_of (sortP_le _) ((sortP_perm _).nodup_iff.mpr nodup_ddP)
theorem asc_ext {l m : List PI2} (hl : Asc l) (hm : Asc m) (h : ∀ p, p ∈ l ↔ p ∈ m) : l = m :=
  sorted_one ((List.perm_ext_iff_of_nodup (asc_nodup hl) (asc_nodup hm)).mpr h) (asc_le hl) (asc_le hm) fun _ _ _ _ h1 h2 => leP_anti h1 h2
theorem canon_ext {l m : List PI2} (h : ∀ p, p ∈ l ↔ p ∈ m) : canon l = canon m := asc_ext (asc_canon l) (asc_canon m) fun p => by rw [mem_canon, mem_canon, h]
theorem canon_asc {l m : List PI2} (hl : Asc l) (h : ∀ p, p ∈ m ↔ p ∈ l) : canon m = l := asc_ext (asc_canon m) hl fun p => by rw [mem_canon, h]
theorem canon_len (l : List PI2) : (canon l).length ≤ l.length := by
  have sub : ∀ x ∈ ddP [] l, x ∈ l := fun x hx => (mem_ddP.mp hx).1
  have := (count_le_of_nodup (f := fun _ : PI2 => (0 : Int)) (h := 0) nodup_ddP sub).2
  unfold canon
  rw [(sortP_perm _).length_eq]
  exact this
theorem sortP_nodup {l : List PI2} (nd : l.Nodup) : sortP l = canon l := asc_ext (asc_of (sortP_le _) ((sortP_perm _).nodup_iff.mpr nd)) (asc_canon l) fun p => by rw [(sortP_perm _).mem_iff, mem_canon]
/-! ### what the tables ask -/
theorem sortOk_pr {l : List PI2} (h : l.length ≤ 16777216) : sortOk (l.map prD) = true := by
  unfold sortOk
  rw [Bool.and_eq_true, Bool.and_eq_true, Bool.and_eq_true]
  refine ⟨⟨⟨List.all_eq_true.mpr fun d hd => ?_, ?_⟩, ?_⟩, by simpa [szOk] using h⟩
  · obtain ⟨p, _, rfl⟩ := List.mem_map.mp hd
    rw [toPy_pr, encD_pr]
    simp [PyData.depth, PyData.depthAll]
  · unfold allAlike
    refine List.all_eq_true.mpr fun a ha => List.all_eq_true.mpr fun b hb => ?_
    obtain ⟨d, hd, rfl⟩ := List.mem_map.mp ha
    obtain ⟨e, he, rfl⟩ := List.mem_map.mp hb
    obtain ⟨p, _, rfl⟩ := List.mem_map.mp hd
    obtain ⟨q, _, rfl⟩ := List.mem_map.mp he
    rw [encD_pr, encD_pr]
    simp [PySem.W.alike, PySem.W.alikeAll]
  · rw [Bool.or_eq_true]
    left
    refine List.all_eq_true.mpr fun a ha => ?_
    obtain ⟨d, hd, rfl⟩ := List.mem_map.mp ha
    obtain ⟨p, _, rfl⟩ := List.mem_map.mp hd
    rw [encD_pr]; rfl
theorem fitD_pr {l : List PI2} (h : l.length ≤ 9987) : fitD (l.map prD) = true := by
  unfold fitD
  rw [Bool.and_eq_true, Bool.or_eq_true]
  refine ⟨List.all_eq_true.mpr fun d hd => ?_, .inl (by simpa using h)⟩
  obtain ⟨p, _, rfl⟩ := List.mem_map.mp hd
  rw [key8_pr]; rfl
theorem isTup_pr (l : List PI2) : (l.map prD).all isTup = true := List.all_eq_true.mpr fun d hd => by
  obtain ⟨p, _, rfl⟩ := List.mem_map.mp hd
  rfl
theorem setOk_pr {l : List PI2} (h : fitD (l.map prD) = true) : setOkD (l.map prD) = true := by
  unfold setOkD
  rw [isTup_pr, h]; rfl
/-- tuple(sorted(the set of them)) -/
theorem sorted_dedup (l : List PI2) : sortD (dedupD [] (l.map prD)) = (canon l).map prD := by
  have := dedup_pr [] l
  rw [List.map_nil] at this
  rw [this, sortD_pr]
  rfl
theorem sorted_set {l : List PI2} {st : Sto} {k : Nat} (hl : l.length ≤ 16777216) (h : st[k]? = some (.set (dedupD [] (l.map prD)))) : cSorted [.ref k] st = .ok (.ref st.length) (st ++ [.lst ((canon l).map prD)]) := by
  unfold cSorted
  simp only [setAt, h]
  have e := dedup_pr [] l
  rw [List.map_nil] at e
  have ok : sortOk (dedupD [] (l.map prD)) = true := by
    rw [e]
    refine sortOk_pr (Nat.le_trans ?_ hl)
    have sub : ∀ x ∈ ddP [] l, x ∈ l := fun x hx => (mem_ddP.mp hx).1
    exact (count_le_of_nodup (f := fun _ : PI2 => (0 : Int)) (h := 0) nodup_ddP sub).2
  rw [if_pos ok, sorted_dedup]
/-- tuple(sorted(set(xs))) -/
theorem tss_ok {l : List PI2} {st : Sto} {k : Nat} (hf : fitD (l.map prD) = true) (h : st[k]? = some (.lst (l.map prD))) :
    ((cSet [.ref k] st).bind fun d st1 => (cSorted [d] st1).bind fun d st2 => cTuple [d] st2) = .ok (relD (canon l)) (st ++ [.set (dedupD [] (l.map prD))] ++ [.lst ((canon l).map prD)]) := by
  have hl : l.length ≤ 16777216 := by
    have := fitD_len hf
    rw [List.length_map] at this
    omega
  have e1 : cSet [.ref k] st = .ok (.ref st.length) (st ++ [.set (dedupD [] (l.map prD))]) := by
    have hi : isLst (.ref k) st = true := by simp only [isLst, h]
    have hj : itemsD (.ref k) st = some (l.map prD) := itemsD_ref h
    unfold cSet
    simp only [hj, hi, isTup_pr, hf, Bool.and_self, if_true]
  rw [e1, bind_ok, sorted_set hl (by simp), bind_ok]
  simp [cTuple, itemsD, relD]
end L3
namespace L3
open PySem PySem.Spec PyProof.Rows L2

/-! ### product_in -/
section
variable {st G : Sto} {o o' x : Ob} {j : Nat}
theorem st_at : (st ++ o :: G)[st.length]? = some o := by simp
theorem st_at2 : (st ++ o :: G)[st.length + 1 + j]? = G[j]? := by
  rw [List.getElem?_append_right (by omega), show st.length + 1 + j - st.length = j + 1 by omega, List.getElem?_cons_succ]
theorem st_set : (st ++ o :: G).set st.length o' = st ++ o' :: G := by
  rw [List.set_append_right _ _ (Nat.le_refl _)]; simp
theorem st_set2 : (st ++ o :: G).set (st.length + 1 + j) x = st ++ o :: G.set j x := by
  rw [List.set_append_right _ _ (by omega), show st.length + 1 + j - st.length = j + 1 by omega, List.set_cons_succ]
theorem st_len : (st ++ o :: G).length = st.length + 1 + G.length := by simp; omega
end
def oth (l : List PI2) (y : Int) : List D := (l.filter fun p => decide (p.1 = y)).map fun p => D.int p.2
theorem oth_snoc (l : List PI2) (p : PI2) (y : Int) : oth (l ++ [p]) y = if p.1 = y then oth l y ++ [.int p.2] else oth l y := by
  unfold oth
  rw [List.filter_append, List.map_append]
  by_cases c : p.1 = y <;> simp [c]
theorem oth_len (l : List PI2) (y : Int) : (oth l y).length ≤ l.length := by
  unfold oth
  rw [List.length_map]
  exact List.length_filter_le _ _
theorem valD_put {kvs : List (D × D)} {k d : D} (j : D) : valD (putD kvs k d) j = if j = k then some d else valD kvs j := by
  induction kvs with
  | nil =>
    show (if k = j then some d else none) = if j = k then some d else none
    by_cases c : k = j
    · rw [if_pos c, if_pos c.symm]
    · rw [if_neg c, if_neg (fun z => c z.symm)]
  | cons p r ih =>
    rw [putD]
    by_cases c : p.1 = k
    · rw [if_pos c, valD, valD]
      by_cases e : p.1 = j
      · rw [if_pos e, if_pos (e.symm.trans c)]
      · rw [if_neg e, if_neg (fun z => e (c.trans z.symm)), if_neg e]
    · rw [if_neg c, valD, valD, ih]
      by_cases e : p.1 = j
      · rw [if_pos e, if_pos e, if_neg (fun z => c (e.trans z))]
      · rw [if_neg e, if_neg e]
theorem putD_len {k d : D} : ∀ {kvs : List (D × D)}, (putD kvs k d).length ≤ kvs.length + 1
  | [] => by simp [putD]
  | p :: r => by
    rw [putD]
    split
    · simp
    · simp only [List.length_cons]
      have := putD_len (k := k) (d := d) (kvs := r)
      omega
/-- what stands behind: the others of each one -/
structure Beh (n : Nat) (kvs : List (D × D)) (G : Sto) (l : List PI2) : Prop where
  kl : kvs.length ≤ l.length
  gl : G.length = l.length
  at_ : ∀ y : Int, (valD kvs (.int y) = none ∧ oth l y = []) ∨ ∃ j, valD kvs (.int y) = some (.ref (n + 1 + j)) ∧ G[j]? = some (.lst (oth l y))
  inj : ∀ (y y' : Int) (j : Nat), valD kvs (.int y) = some (.ref (n + 1 + j)) → valD kvs (.int y') = some (.ref (n + 1 + j)) → y = y'
def body_in : MS := (sDrop (mM isLst fAppend (mSetd (mVar 2) (mVar 3) (mLst mNil)) (mCons (mVar 4) mNil)))
theorem body_in_ok {st G : Sto} {kvs : List (D × D)} {l : List PI2} {v0 v1 : Option D} {y z : Int} (B : Beh st.length kvs G l) (hl : l.length < 16777216) :
    ∃ kvs' G', body_in [v0, v1, some (.ref st.length), some (.int y), some (.int z), none] (st ++ .dic kvs :: G) = .ok (.nx [v0, v1, some (.ref st.length), some (.int y), some (.int z), none]) (st ++ .dic kvs' :: G') ∧ Beh st.length kvs' G' (l ++ [(y, z)]) := by
  have dic : ∀ kvs G, dicAt (.ref st.length) (st ++ .dic kvs :: G) = some (st.length, kvs) := fun kvs G => dicAt_ref st_at
  have e1 : (st ++ Ob.dic kvs :: G) ++ [.lst []] = st ++ .dic kvs :: (G ++ [.lst []]) := by simp
  have sz0 : szOk 0 = true := by decide
  have sz1 : szOk (kvs.length + 1) = true := by
    have := B.kl
    simp [szOk]; omega
  have app : ∀ (kvs : List (D × D)) (G : Sto) (j : Nat) (xs : List D), G[j]? = some (.lst xs) → xs.length + 1 ≤ 16777216 → isLst (.ref (st.length + 1 + j)) (st ++ .dic kvs :: G) = true ∧ fAppend (.ref (st.length + 1 + j)) [.int z] (st ++ .dic kvs :: G) = .ok .non (st ++ .dic kvs :: G.set j (.lst (xs ++ [.int z]))) := fun kvs G j xs h hz => by
    have h' : (st ++ Ob.dic kvs :: G)[st.length + 1 + j]? = some (.lst xs) := by rw [st_at2]; exact h
    have hs : szOk (xs.length + 1) = true := by simp [szOk]; omega
    refine ⟨by simp only [isLst, h'], ?_⟩
    simp only [fAppend, h', hs, if_true, st_set2]
  have ol := oth_len l y
  rcases B.at_ y with ⟨hn, ho⟩ | ⟨j, hj, hG⟩
  · -- a new one
    have hg : (G ++ [Ob.lst []])[G.length]? = some (.lst []) := by simp
    obtain ⟨a1, a2⟩ := app (putD kvs (.int y) (.ref (st.length + 1 + G.length))) (G ++ [.lst []]) G.length [] hg (by simp)
    refine ⟨putD kvs (.int y) (.ref (st.length + 1 + G.length)), (G ++ [Ob.lst []]).set G.length (Ob.lst ([] ++ [D.int z])), ?_, ?_, ?_, fun y' => ?_, fun y1 y2 j h1 h2 => ?_⟩
    · have sd : mSetd (mVar 2) (mVar 3) (mLst mNil) [v0, v1, some (.ref st.length), some (.int y), some (.int z), none] (st ++ .dic kvs :: G) = .ok (.ref (st.length + 1 + G.length)) (st ++ .dic (putD kvs (.int y) (.ref (st.length + 1 + G.length))) :: (G ++ [.lst []])) := by
        simp only [mSetd, mVar, mLst, mNil, List.getElem?_cons_succ, List.getElem?_cons_zero, bind_ok, dic, Option.isSome_some, if_true, List.length_nil, sz0, e1, keyD, sz1, Bool.and_self, hn, st_set, st_len]
      simp only [body_in, sDrop, mM, sd, bind_ok, a1, if_true, mCons, mNil, mVar, List.getElem?_cons_succ, List.getElem?_cons_zero, a2]
    · have := putD_len (k := .int y) (d := .ref (st.length + 1 + G.length)) (kvs := kvs)
      have := B.kl
      rw [List.length_append, List.length_singleton]
      omega
    · have := B.gl
      simp; omega
    · rw [valD_put, oth_snoc]
      by_cases c : y' = y
      · subst c
        rw [if_pos rfl, if_pos rfl, ho]
        exact .inr ⟨G.length, rfl, by simp⟩
      · have c2 : ¬ (D.int y' = D.int y) := fun e => c (by cases e; rfl)
        have c3 : ¬ (y = y') := fun e => c e.symm
        rw [if_neg c2]
        simp only [c3, if_false]
        rcases B.at_ y' with h | ⟨j, h1, h2⟩
        · exact .inl h
        · have hlt : j < G.length := (List.getElem?_eq_some_iff.mp h2).1
          exact .inr ⟨j, h1, by rw [List.getElem?_set_ne (by omega), List.getElem?_append_left hlt]; exact h2⟩
    · rw [valD_put] at h1 h2
      have old : ∀ y', valD kvs (.int y') = some (.ref (st.length + 1 + j)) → j < G.length := fun y' h => by
        rcases B.at_ y' with ⟨q, _⟩ | ⟨i, q1, q2⟩
        · rw [q] at h; cases h
        · rw [q1] at h
          simp only [Option.some.injEq, D.ref.injEq] at h
          have := (List.getElem?_eq_some_iff.mp q2).1
          omega
      by_cases c1 : D.int y1 = D.int y
      · by_cases c2 : D.int y2 = D.int y
        · cases c1; cases c2; rfl
        · rw [if_pos c1] at h1
          rw [if_neg c2] at h2
          simp only [Option.some.injEq, D.ref.injEq] at h1
          exact absurd (old y2 h2) (by omega)
      · rw [if_neg c1] at h1
        by_cases c2 : D.int y2 = D.int y
        · rw [if_pos c2] at h2
          simp only [Option.some.injEq, D.ref.injEq] at h2
          exact absurd (old y1 h1) (by omega)
        · rw [if_neg c2] at h2
          exact B.inj y1 y2 j h1 h2
  · have hlt : j < G.length := (List.getElem?_eq_some_iff.mp hG).1
    have hg : (G ++ [Ob.lst []])[j]? = some (.lst (oth l y)) := by rw [List.getElem?_append_left hlt]; exact hG
    obtain ⟨a1, a2⟩ := app kvs (G ++ [.lst []]) j (oth l y) hg (by omega)
    refine ⟨kvs, (G ++ [Ob.lst []]).set j (Ob.lst (oth l y ++ [D.int z])), ?_, ?_, ?_, fun y' => ?_, B.inj⟩
    · have sd : mSetd (mVar 2) (mVar 3) (mLst mNil) [v0, v1, some (.ref st.length), some (.int y), some (.int z), none] (st ++ .dic kvs :: G) = .ok (.ref (st.length + 1 + j)) (st ++ .dic kvs :: (G ++ [.lst []])) := by
        simp only [mSetd, mVar, mLst, mNil, List.getElem?_cons_succ, List.getElem?_cons_zero, bind_ok, dic, Option.isSome_some, if_true, List.length_nil, sz0, e1, keyD, sz1, Bool.and_self, hj]
      simp only [body_in, sDrop, mM, sd, bind_ok, a1, if_true, mCons, mNil, mVar, List.getElem?_cons_succ, List.getElem?_cons_zero, a2]
    · have := B.kl
      rw [List.length_append, List.length_singleton]
      omega
    · have := B.gl
      simp; omega
    · rw [oth_snoc]
      by_cases c : y = y'
      · subst c
        simp only [if_true]
        exact .inr ⟨j, hj, by rw [List.getElem?_set_self (by simp; omega)]⟩
      · simp only [c, if_false]
        rcases B.at_ y' with h | ⟨i, h1, h2⟩
        · exact .inl h
        · have hi : i < G.length := (List.getElem?_eq_some_iff.mp h2).1
          refine .inr ⟨i, h1, ?_⟩
          rw [List.getElem?_set_ne (fun e => c (B.inj y y' j hj (by rw [e]; exact h1))), List.getElem?_append_left hi]
          exact h2
theorem loop_in {st : Sto} {v0 v1 : Option D} : ∀ (b l : List PI2) (kvs : List (D × D)) (G : Sto) (x3 x4 : Option D), Beh st.length kvs G l → l.length + b.length < 16777216 →
    ∃ kvs' G' y3 y4, forGo (.tp [.nm 3, .nm 4]) (fun _ => true) body_in (b.map prD) [v0, v1, some (.ref st.length), x3, x4, none] (st ++ .dic kvs :: G) = .ok (.nx [v0, v1, some (.ref st.length), y3, y4, none]) (st ++ .dic kvs' :: G') ∧ Beh st.length kvs' G' (l ++ b)
  | [], l, kvs, G, x3, x4, B, _ => ⟨kvs, G, x3, x4, by simp [forGo], by simpa using B⟩
  | p :: b, l, kvs, G, x3, x4, B, hl => by
    rw [List.length_cons] at hl
    obtain ⟨kvs1, G1, e1, B1⟩ := body_in_ok (v0 := v0) (v1 := v1) (y := p.1) (z := p.2) B (by omega)
    obtain ⟨kvs2, G2, y3, y4, e2, B2⟩ := loop_in b (l ++ [p]) kvs1 G1 (some (.int p.1)) (some (.int p.2)) B1 (by simp; omega)
    refine ⟨kvs2, G2, y3, y4, ?_, by simpa using B2⟩
    rw [List.map_cons, forGo]
    simp [prD, setT, setTs, e1]
    exact e2
/-- the pairs that two rows of pairs make -/
def joins (a b : List PI2) : List PI2 := a.flatMap fun p => (b.filter fun q => decide (q.1 = p.2)).map fun q => (p.1, q.2)
theorem joins_oth (p : PI2) (b : List PI2) : ((b.filter fun q => decide (q.1 = p.2)).map fun q => ((p.1, q.2) : PI2)).map prD = (oth b p.2).map fun d => D.tup [.int p.1, d] := by
  unfold oth
  simp [Function.comp_def, prD]
theorem inner_in {st G : Sto} {kvs : List (D × D)} {b : List PI2} (B : Beh st.length kvs G b) {v0 v1 : Option D} (p : PI2) (S : Sto) (hS : ∃ g, S = st ++ .dic kvs :: (G ++ g)) :
    ∃ src, (mIter (mGet2 (mVar 2) (mVar 4) (mLst mNil))) [v0, v1, some (.ref st.length), some (.int p.1), some (.int p.2), none] S = .ok src (S ++ [.lst []]) ∧
      lcGo (.nm 5) src.2 mYes (mTup (mCons (mVar 3) (mCons (mVar 5) mNil))) [v0, v1, some (.ref st.length), some (.int p.1), some (.int p.2), none] src.1 (S ++ [.lst []]) = .ok ((oth b p.2).map fun d => D.tup [.int p.1, d]) (S ++ [.lst []]) := by
  obtain ⟨g, rfl⟩ := hS
  have dic : ∀ G, dicAt (.ref st.length) (st ++ .dic kvs :: G) = some (st.length, kvs) := fun G => dicAt_ref st_at
  have sz0 : szOk 0 = true := by decide
  have e1 : (st ++ Ob.dic kvs :: (G ++ g)) ++ [.lst []] = st ++ .dic kvs :: (G ++ (g ++ [.lst []])) := by simp
  have lc : ∀ (xs : List D) (ok : Sto → Bool) (S' : Sto), ok S' = true → lcGo (.nm 5) ok mYes (mTup (mCons (mVar 3) (mCons (mVar 5) mNil))) [v0, v1, some (.ref st.length), some (.int p.1), some (.int p.2), none] xs S' = .ok (xs.map fun d => D.tup [.int p.1, d]) S' := fun xs ok S' hok =>
    lcGo_pure (fun d => D.tup [.int p.1, d]) hok fun x _ => ⟨[v0, v1, some (.ref st.length), some (.int p.1), some (.int p.2), some x], by simp [setT], by simp [szOk]⟩
  rcases B.at_ p.2 with ⟨hn, ho⟩ | ⟨j, hj, hG⟩
  · refine ⟨([], fun s => decide (s[(st ++ Ob.dic kvs :: (G ++ g)).length]? = some (.lst []))), ?_, ?_⟩
    · simp [dic, sz0, e1, keyD, hn, iterF]
    · rw [lc _ _ _ (by simp), ho]
  · have hlt : j < G.length := (List.getElem?_eq_some_iff.mp hG).1
    have hat : ∀ g', (st ++ Ob.dic kvs :: (G ++ g'))[st.length + 1 + j]? = some (.lst (oth b p.2)) := fun g' => by rw [st_at2, List.getElem?_append_left hlt]; exact hG
    refine ⟨(oth b p.2, fun s => decide (s[st.length + 1 + j]? = some (.lst (oth b p.2)))), ?_, ?_⟩
    · simp only [mIter, mGet2, mVar, mLst, mNil, List.getElem?_cons_succ, List.getElem?_cons_zero, bind_ok, dic, Option.isSome_some, if_true, List.length_nil, sz0, e1, keyD, hj, Option.getD_some, iterF, hat]
    · rw [lc _ _ _ (by rw [e1]; exact decide_eq_true (hat _))]
theorem outer_in {st G : Sto} {kvs : List (D × D)} {b : List PI2} (B : Beh st.length kvs G b) {v0 v1 : Option D} : ∀ (a : List PI2) (g : Sto), ∃ g', lcGo2 (.tp [.nm 3, .nm 4]) (fun _ => true) mYes (mIter (mGet2 (mVar 2) (mVar 4) (mLst mNil))) (.nm 5) mYes (mTup (mCons (mVar 3) (mCons (mVar 5) mNil))) [v0, v1, some (.ref st.length), none, none, none] (a.map prD) (st ++ .dic kvs :: (G ++ g)) = .ok ((joins a b).map prD) (st ++ .dic kvs :: (G ++ g'))
  | [], g => ⟨g, by simp [lcGo2, joins]⟩
  | p :: a, g => by
    obtain ⟨src, i1, i2⟩ := inner_in B (v0 := v0) (v1 := v1) p _ ⟨g, rfl⟩
    have e1 : (st ++ Ob.dic kvs :: (G ++ g)) ++ [.lst []] = st ++ .dic kvs :: (G ++ (g ++ [.lst []])) := by simp
    obtain ⟨g', h⟩ := outer_in (v0 := v0) (v1 := v1) B a (g ++ [Ob.lst []])
    refine ⟨g', ?_⟩
    rw [e1] at i1 i2
    rw [List.map_cons, lcGo2]
    have st1 : setT (.tp [.nm 3, .nm 4]) (prD p) [v0, v1, some (.ref st.length), none, none, none] = some [v0, v1, some (.ref st.length), some (.int p.1), some (.int p.2), none] := by simp [setT, setTs, prD]
    have wp : wipeE [v0, v1, some (.ref st.length), some (.int p.1), some (.int p.2), none] (namesT (.nm 5)) = [v0, v1, some (.ref st.length), some (.int p.1), some (.int p.2), none] := by simp [namesT, wipeE]
    simp only [if_true, st1, mYes, nox_ok, bind_ok, i1, wp, i2, h]
    congr 1
    unfold joins
    rw [List.flatMap_cons, List.map_append, ← joins_oth]
theorem product_in_ok {a b : List PI2} (hb : b.length ≤ 10000) (hf : fitD ((joins a b).map prD) = true) (st : Sto) : f_product_in [relD a, relD b] st = .ok (relD (canon (joins a b))) st := by
  obtain ⟨kvs, G, y3, y4, e1, B⟩ := loop_in (st := st) (v0 := some (relD a)) (v1 := some (relD b)) b [] [] [] none none ⟨Nat.le_refl _, rfl, fun y => .inl ⟨rfl, rfl⟩, fun _ _ _ h => nomatch h⟩ (by simp; omega)
  rw [List.nil_append] at B
  obtain ⟨g', e2⟩ := outer_in B (v0 := some (relD a)) (v1 := some (relD b)) a []
  rw [List.append_nil] at e2
  have hl : (joins a b).length ≤ 16777216 := by
    have := fitD_len hf
    rw [List.length_map] at this
    omega
  have ss : ∀ S : Sto, cSorted [.ref S.length] (S ++ [.set (dedupD [] ((joins a b).map prD))]) = .ok (.ref (S.length + 1)) (S ++ [.set (dedupD [] ((joins a b).map prD))] ++ [.lst ((canon (joins a b)).map prD)]) := fun S => by
    rw [sorted_set hl (by simp)]
    simp
  have tt : ∀ S : Sto, cTuple [.ref (S.length + 1)] (S ++ [.set (dedupD [] ((joins a b).map prD))] ++ [.lst ((canon (joins a b)).map prD)]) = .ok (relD (canon (joins a b))) (S ++ [.set (dedupD [] ((joins a b).map prD))] ++ [.lst ((canon (joins a b)).map prD)]) := fun S => by
    have hi := itemsD_ref (k := S.length + 1) (st := S ++ [.set (dedupD [] ((joins a b).map prD))] ++ [.lst ((canon (joins a b)).map prD)]) (xs := (canon (joins a b)).map prD) (by simp)
    simp only [cTuple, hi]
    rfl
  have gce : ∀ g, gc st (relD (canon (joins a b))) (st ++ g) = .ok (relD (canon (joins a b))) st := fun g => gc_plain (blw_rel _ _)
  unfold f_product_in defF b_product_in
  rw [show (sDrop (mM isLst fAppend (mSetd (mVar 2) (mVar 3) (mLst mNil)) (mCons (mVar 4) mNil))) = body_in from rfl]
  have w1 : wipeE [some (relD a), some (relD b), some (.ref st.length), y3, y4, none] [3, 4, 5] = [some (relD a), some (relD b), some (.ref st.length), none, none, none] := by simp [wipeE]
  simp only [relD] at e1 e2 w1 tt gce ⊢
  simp only [sSeq, sAsg, mDic0, sFor, mIter, mVar, sRet, mF, mSc2, mCons, mNil, List.map_cons, List.map_nil, List.length_cons, List.length_nil, List.replicate, List.cons_append, List.nil_append, List.append_nil, bind_ok, setT, List.set_cons_succ, List.set_cons_zero, List.getElem?_cons_succ, List.getElem?_cons_zero, iterF, e1, e2, w1, scFin, setOk_pr hf, if_true, ss, tt]
  rw [List.append_assoc, List.append_assoc]
  exact gce _
end L3
namespace L3
open PySem PySem.Spec PyProof.Rows L2

/-! ### product -/
theorem require_ok {a b : List PI2} (ha : Asc a) (hb : Asc b) (la : a.length ≤ 100) (lb : b.length ≤ 100) (st : Sto) : f_require_relations [relD a, relD b] st = .ok .non st := by
  have g0 : gc st .non st = .ok .non st := gc_plain0 (by simp [blw])
  simp [f_require_relations, defF, b_require_relations, forGo, setT, is_relation_ok ha la, is_relation_ok hb lb, g0, iterF]
theorem product_ok {a b : List PI2} (ha : Asc a) (hb : Asc b) (la : a.length ≤ 100) (lb : b.length ≤ 100) (hf : fitD ((joins a b).map prD) = true) (st : Sto) : f_product [relD a, relD b] st = .ok (relD (canon (joins a b))) st := by
  have g0 : gc st (relD (canon (joins a b))) st = .ok (relD (canon (joins a b))) st := gc_plain0 (blw_rel _ _)
  simp [f_product, defF, b_product, require_ok ha hb la lb, product_in_ok (by omega : b.length ≤ 10000) hf, g0]

/-! ### the draws -/
theorem opLt_int (i j : Int) (st : Sto) : opLt (.int i) (.int j) st = .ok (.bl (decide (i < j))) st := by
  unfold opLt
  have h1 : PySem.W.alike (.int i) (.int j) = true := by simp [PySem.W.alike]
  simp [toPy, h1, isNone, PyData.depth, PySem.W.dataLt_int]
theorem pow60 (st : Sto) : opPow (.int 10) (.int 60) st = .ok (.int (10 ^ 60)) st := by
  have h : powOk 10 60 = true := by decide +kernel
  simp only [opPow, h, if_true]
  rfl
theorem pow600 (st : Sto) : opPow (.int (10 ^ 60)) (.int 10) st = .ok (.int ((10 ^ 60) ^ 10)) st := by
  have h : powOk (10 ^ 60) 10 = true := by decide +kernel
  simp only [opPow, h, if_true]
  rfl
theorem pow18 (st : Sto) : opPow (.int 10) (.int 18) st = .ok (.int (10 ^ 18)) st := by
  have h : powOk 10 18 = true := by decide +kernel
  simp only [opPow, h, if_true]
  rfl
theorem ne600 : ((10 : Int) ^ 60) ^ 10 ≠ 0 := by decide +kernel
theorem mulL (i j : Int) (h : (-(2 ^ 64) < i ∧ i < 2 ^ 64)) (st : Sto) : opMul (.int i) (.int j) st = .ok (.int (i * j)) st := by
  have : mulOk i j = true := by unfold mulOk; simp only [decide_eq_true h.1, decide_eq_true h.2, Bool.and_self, Bool.true_or]
  simp only [opMul, this, if_true]
theorem mulR (i j : Int) (h : (-(2 ^ 64) < j ∧ j < 2 ^ 64)) (st : Sto) : opMul (.int i) (.int j) st = .ok (.int (i * j)) st := by
  have : mulOk i j = true := by unfold mulOk; simp only [decide_eq_true h.1, decide_eq_true h.2, Bool.and_self, Bool.or_true]
  simp only [opMul, this, if_true]
theorem atI_in {xs : List D} {i : Int} (h0 : 0 ≤ i) (h1 : i < xs.length) : ∃ d, L2.atI xs i = some d ∧ d ∈ xs := by
  unfold L2.atI L2.ixN
  have hlt : i.toNat < xs.length := by omega
  refine ⟨xs[i.toNat], ?_, List.getElem_mem hlt⟩
  first
    | simp [h0, h1, hlt]
    | (simp [h0, h1]; omega)
theorem seq_nx {m n : MS} {env env1 : En} {st st1 : Sto} (h : m env st = .ok (.nx env1) st1) : sSeq m n env st = n env1 st1 := by simp [h]
abbrev i3 (a b c : Int) : Ob := .lst [.int a, .int b, .int c]
theorem stream_ok {ns : List Int} {i : Int} (h0 : 0 ≤ i) (hl : ns.length ≤ 63) (st : Sto) : ∃ a b c, f_x_law_stream [.frl (ns.map .int), .int i] st = .ok (.ref st.length) (st ++ [i3 a b c]) := by
  have sz : szOk 3 = true := by decide
  have gcf : ∀ a b c : Int, gc st (.ref st.length) (st ++ [i3 a b c]) = .ok (.ref st.length) (st ++ [i3 a b c]) := fun a b c => by
    unfold gc
    rw [kept_self, if_pos rfl]
    simp [blw, blwO, blws]
  -- the cell
  have cell : ∃ z : Int, ∀ c0 : Option D, (sIf (mB (mOp opLt (mVar 1) (mF cLen (mCons (mVar 0) mNil)))) (sAsg (mOp opIx (mVar 0) (mVar 1)) (.nm 2)) sNil) [some (.frl (ns.map .int)), some (.int i), some (.int (19 * i + 5)), none, none] st = .ok (.nx [some (.frl (ns.map .int)), some (.int i), some (.int z), none, none]) st := by
    by_cases c : i < (ns.length : Int)
    · obtain ⟨d, hd, hm⟩ := atI_in (xs := ns.map D.int) h0 (by simpa using c)
      obtain ⟨z, _, rfl⟩ := List.mem_map.mp hm
      exact ⟨z, fun _ => by simp [cLen, itemsD, opLt_int, c, opIx, hd, setT]⟩
    · exact ⟨19 * i + 5, fun _ => by simp [cLen, itemsD, opLt_int, c]⟩
  obtain ⟨z, hz⟩ := cell
  have hz := hz none
  have m1 : ∀ x : Int, opMul (.int (x.fmod 2147483543)) (.int 52361) st = .ok (.int (x.fmod 2147483543 * 52361)) st := fun x => mulR _ _ (by decide) _
  have m2 : ∀ x : Int, opMul (.int 3011) (.int x) st = .ok (.int (3011 * x)) st := fun x => mulL _ _ (by decide) _
  have m3 : ∀ x : Int, opMul (.int 11) (.int x) st = .ok (.int (11 * x)) st := fun x => mulL _ _ (by decide) _
  have m4 : opMul (.int 19) (.int i) st = .ok (.int (19 * i)) st := mulL _ _ (by decide) _
  have s1 : (sAsg (mOp opAdd (mOp opMul (mC (.int 19)) (mVar 1)) (mC (.int 5))) (.nm 2)) [some (.frl (ns.map .int)), some (.int i), none, none, none] st = .ok (.nx [some (.frl (ns.map .int)), some (.int i), some (.int (19 * i + 5)), none, none]) st := by
    simp [-opMul, m4, setT]
  generalize hG : (if z < 0 then -z else z).fmod ((10 ^ 60) ^ 10) = G
  have s3 : (sAsg (mOp opMod (mF cInt (mCons (mF cAbs (mCons (mVar 2) mNil)) mNil)) (mOp opPow (mOp opPow (mC (.int 10)) (mC (.int 60))) (mC (.int 10)))) (.nm 3)) [some (.frl (ns.map .int)), some (.int i), some (.int z), none, none] st = .ok (.nx [some (.frl (ns.map .int)), some (.int i), some (.int z), some (.int G), none]) st := by
    simp only [sAsg, mOp, mF, mCons, mVar, mNil, mC, List.getElem?_cons_succ, List.getElem?_cons_zero, bind_ok, cAbs, cInt, pow60, pow600, opMod, ne600, ne_eq, not_false_eq_true, if_true, setT, List.set_cons_succ, List.set_cons_zero, hG]
  generalize hM : G.fmod 2147483543 * 52361 + 3011 * i + 11 * (if decide (z < 0) = true then 1 else 0) + 31 = M
  have s4 : (sAsg (mOp opAdd (mOp opAdd (mOp opAdd (mOp opMul (mOp opMod (mF cInt (mCons (mVar 3) mNil)) (mC (.int 2147483543))) (mC (.int 52361))) (mOp opMul (mC (.int 3011)) (mVar 1))) (mOp opMul (mC (.int 11)) (mF cInt (mCons (mOp opLt (mVar 2) (mC (.int 0))) mNil)))) (mC (.int 31))) (.nm 4)) [some (.frl (ns.map .int)), some (.int i), some (.int z), some (.int G), none] st
      = .ok (.nx [some (.frl (ns.map .int)), some (.int i), some (.int z), some (.int G), some (.int M)]) st := by
    simp only [sAsg, mOp, mF, mCons, mVar, mNil, mC, List.getElem?_cons_succ, List.getElem?_cons_zero, bind_ok, cInt, opMod, m1, m2, m3, opLt_int, opAdd_int, ne_eq, show ¬ ((2147483543 : Int) = 0) by decide, not_false_eq_true, if_true, setT, List.set_cons_succ, List.set_cons_zero, hM]
  have s5 : (sRet (mLst (mCons (mF cMax (mCons (mC (.int 0)) (mCons (mOp opSub (mVar 3) (mOp opPow (mC (.int 10)) (mC (.int 18)))) mNil))) (mCons (mOp opMod (mF cInt (mCons (mVar 4) mNil)) (mC (.int 2147483399))) (mCons (mC (.int 0)) mNil))))) [some (.frl (ns.map .int)), some (.int i), some (.int z), some (.int G), some (.int M)] st
      = .ok (.rt (.ref st.length)) (st ++ [i3 (if G - 10 ^ 18 > 0 then G - 10 ^ 18 else 0) (M.fmod 2147483399) 0]) := by
    simp only [sRet, mLst, mOp, mF, mCons, mVar, mNil, mC, List.getElem?_cons_succ, List.getElem?_cons_zero, bind_ok, cInt, cMax, opMod, opSub, pow18, ne_eq, show ¬ ((2147483399 : Int) = 0) by decide, not_false_eq_true, if_true, List.length_cons, List.length_nil, sz]
  refine ⟨if G - 10 ^ 18 > 0 then G - 10 ^ 18 else 0, M.fmod 2147483399, 0, ?_⟩
  · unfold f_x_law_stream defF b_x_law_stream
    simp only [List.map_cons, List.map_nil, List.length_cons, List.length_nil, List.replicate, List.cons_append, List.nil_append]
    rw [seq_nx s1, seq_nx hz, seq_nx s3, seq_nx s4, s5]
    exact gcf _ _ _
end L3
namespace L3
open PySem PySem.Spec PyProof.Rows L2

/-! ### draws -/
def IsStr (st : Sto) (k : Nat) : Prop := ∃ a b c, st[k]? = some (i3 a b c)
def Drawn (k : Nat) (st st' : Sto) : Prop := ∃ a b c, st' = st.set k (i3 a b c)
theorem IsStr.lt {st : Sto} {k : Nat} (h : IsStr st k) : k < st.length := let ⟨_, _, _, e⟩ := h; (List.getElem?_eq_some_iff.mp e).1
theorem Drawn.refl {k : Nat} {st : Sto} (h : IsStr st k) : Drawn k st st := by
  obtain ⟨a, b, c, e⟩ := h
  refine ⟨a, b, c, ?_⟩
  obtain ⟨hl, e⟩ := List.getElem?_eq_some_iff.mp e
  rw [← e, List.set_getElem_self]
theorem Drawn.trans {k : Nat} {s1 s2 s3 : Sto} (h : Drawn k s1 s2) (h' : Drawn k s2 s3) : Drawn k s1 s3 := by
  obtain ⟨a, b, c, rfl⟩ := h
  obtain ⟨a', b', c', rfl⟩ := h'
  exact ⟨a', b', c', by rw [List.set_set]⟩
theorem Drawn.str {k : Nat} {s1 s2 : Sto} (h : IsStr s1 k) (d : Drawn k s1 s2) : IsStr s2 k := by
  obtain ⟨a, b, c, rfl⟩ := d
  exact ⟨a, b, c, by rw [List.getElem?_set_self h.lt]⟩
theorem Drawn.len {k : Nat} {s1 s2 : Sto} (d : Drawn k s1 s2) : s2.length = s1.length := by
  obtain ⟨a, b, c, rfl⟩ := d
  simp
theorem IsStr.app {st : Sto} {k : Nat} (h : IsStr st k) (g : Sto) : IsStr (st ++ g) k := by
  obtain ⟨a, b, c, e⟩ := h
  exact ⟨a, b, c, by rw [List.getElem?_append_left (List.getElem?_eq_some_iff.mp e).1]; exact e⟩
theorem Drawn.split {k : Nat} {st g S : Sto} (h : IsStr st k) (d : Drawn k (st ++ g) S) : ∃ st', S = st' ++ g ∧ Drawn k st st' := by
  obtain ⟨a, b, c, rfl⟩ := d
  exact ⟨_, List.set_append_left _ _ h.lt, a, b, c, rfl⟩
theorem Drawn.gc {k : Nat} {st st' g : Sto} {d : D} (dr : Drawn k st st') (h : blw st.length d = true) : gc st d (st' ++ g) = .ok d st' := by
  obtain ⟨a, b, c, rfl⟩ := dr
  exact gc_setk h (by simp [blwO, blws, blw])
theorem Drawn.gc0 {k : Nat} {st st' : Sto} {d : D} (dr : Drawn k st st') (h : blw st.length d = true) : L3.gc st d st' = .ok d st' := by
  have := dr.gc (g := []) h
  simpa using this
section
variable {st : Sto} {k : Nat} {a b c v : Int}
theorem ix_0 (h : st[k]? = some (i3 a b c)) : opIx (.ref k) (.int 0) st = .ok (.int a) st := by
  have := itemsD_ref h
  simp [opIx, this, L2.atI, L2.ixN]
theorem ix_1 (h : st[k]? = some (i3 a b c)) : opIx (.ref k) (.int 1) st = .ok (.int b) st := by
  have := itemsD_ref h
  simp [opIx, this, L2.atI, L2.ixN]
theorem ix_2 (h : st[k]? = some (i3 a b c)) : opIx (.ref k) (.int 2) st = .ok (.int c) st := by
  have := itemsD_ref h
  simp [opIx, this, L2.atI, L2.ixN]
theorem set_0 (h : st[k]? = some (i3 a b c)) : setIx (.ref k) (.int 0) (.int v) st = .ok () (st.set k (i3 v b c)) := by
  simp [setIx, h, L2.ixN]
theorem set_2 (h : st[k]? = some (i3 a b c)) : setIx (.ref k) (.int 2) (.int v) st = .ok () (st.set k (i3 a b v)) := by
  simp [setIx, h, L2.ixN]
end
theorem opEq_i (i j : Int) (st : Sto) : opEq false (.int i) (.int j) st = .ok (.bl (decide (i = j))) st := by simp
theorem draw_ok {st : Sto} {k : Nat} {h : Int} (hs : IsStr st k) (h1 : 1 ≤ h) (h2 : h < 1073741824) : ∃ r st', 0 ≤ r ∧ r < h ∧ f_x_law_draw [.ref k, .int h] st = .ok (.int r) st' ∧ Drawn k st st' := by
  have hne : ¬ h = 0 := by omega
  have hdv : divOk h = true := by
    unfold divOk
    rw [Bool.and_eq_true, decide_eq_true_eq, decide_eq_true_eq]
    omega
  have hlt := hs.lt
  obtain ⟨a, b, c, e⟩ := id hs
  have fm : ∀ x m : Int, 0 < m → 0 ≤ x.fmod m ∧ x.fmod m < m := fun x m hm => ⟨Int.fmod_nonneg_of_pos _ hm, Int.fmod_lt_of_pos _ hm⟩
  have gcr : ∀ (r : Int) (o : Ob), blwO st.length o = true → L3.gc st (.int r) (st.set k o) = .ok (.int r) (st.set k o) := fun r o ho => by
    have := gc_setk (g := []) (d := .int r) (k := k) (by simp [blw]) ho
    simpa using this
  have bo : ∀ x y z : Int, blwO st.length (i3 x y z) = true := fun x y z => by simp [blwO, blws, blw]
  by_cases ca : 0 < a
  · obtain ⟨r0, r1⟩ := fm a h (by omega)
    refine ⟨a.fmod h, st.set k (i3 (a.fdiv h) b c), r0, r1, ?_, _, _, _, rfl⟩
    unfold f_x_law_draw defF b_x_law_draw
    simp only [sSeq, sIf, sAsg, sSub, sRet, mB, mOp, mF, mCons, mNil, mVar, mC, List.map_cons, List.map_nil, List.length_cons, List.length_nil, List.replicate, List.cons_append, List.nil_append, List.getElem?_cons_succ, List.getElem?_cons_zero, bind_ok, ix_0 e, opGt, decide_eq_true ca, if_true, cInt, opMod, ne_eq, hne, not_false_eq_true, setT, List.set_cons_succ, List.set_cons_zero, opDiv, hdv, set_0 e, gcr _ _ (bo _ _ _)]
  · have e2 : (st.set k (i3 a b (c + 1)))[k]? = some (i3 a b (c + 1)) := by rw [List.getElem?_set_self hlt]
    obtain ⟨p0, p1⟩ := fm (b + 1000117 * (c + 1)) 2305843009213693951 (by decide)
    generalize hone : (b + 1000117 * (c + 1)).fmod 2305843009213693951 = one at p0 p1
    have m1 : ∀ S : Sto, opMul (.int 1000117) (.int (c + 1)) S = .ok (.int (1000117 * (c + 1))) S := fun S => mulL _ _ (by decide) _
    have m2 : ∀ S : Sto, opMul (.int one) (.int one) S = .ok (.int (one * one)) S := fun S => mulL _ _ (by omega) _
    have m3 : ∀ (x : Int) (S : Sto), opMul (.int x) (.int one) S = .ok (.int (x * one)) S := fun x S => mulR _ _ (by omega) _
    have m4 : ∀ S : Sto, opMul (.int 7951) (.int (c + 1)) S = .ok (.int (7951 * (c + 1))) S := fun S => mulL _ _ (by decide) _
    have d4 : divOk 4096 = true := by decide
    obtain ⟨r0, r1⟩ := fm ((((one * one).fmod 2305843009213693921 * one + 7951 * (c + 1)).fmod 2305843009213693907).fdiv 4096) h (by omega)
    refine ⟨_, st.set k (i3 a b (c + 1)), r0, r1, ?_, _, _, _, rfl⟩
    unfold f_x_law_draw defF b_x_law_draw
    simp only [sSeq, sIf, sAsg, sSub, sRet, sNil, mB, mOp, mF, mCons, mNil, mVar, mC, List.map_cons, List.map_nil, List.length_cons, List.length_nil, List.replicate, List.cons_append, List.nil_append, List.getElem?_cons_succ, List.getElem?_cons_zero, bind_ok, ix_0 e, ix_2 e, opGt, decide_eq_false ca, Bool.false_eq_true, if_false, opAdd_int, set_2 e, ix_1 e2, ix_2 e2, m1, cInt, opMod, ne_eq, hne, hone, not_false_eq_true, if_true,
      show ¬ ((2305843009213693951 : Int) = 0) by decide, show ¬ ((2305843009213693921 : Int) = 0) by decide, show ¬ ((2305843009213693907 : Int) = 0) by decide, setT, List.set_cons_succ, List.set_cons_zero, m2, m3, m4, opDiv, d4, gcr _ _ (bo _ _ _)]
/-! ### picks -/
theorem pick_ok {st : Sto} {k m : Nat} {xs : List D} (hs : IsStr st k) (hm : st[m]? = some (.lst xs)) (hk : m ≠ k) (h0 : 0 < xs.length) (h1 : xs.length ≤ 1000) (hb : ∀ x ∈ xs, ∃ i : Int, x = .int i) : ∃ x st', x ∈ xs ∧ f_x_law_pick [.ref k, .ref m] st = .ok x st' ∧ Drawn k st st' := by
  obtain ⟨r, st', r0, r1, e, dr⟩ := draw_ok (h := (xs.length : Int)) hs (by omega) (by omega)
  obtain ⟨x, hx, hmem⟩ := atI_in (xs := xs) r0 r1
  have hm' : st'[m]? = some (.lst xs) := by
    obtain ⟨a, b, c, rfl⟩ := dr
    rw [List.getElem?_set_ne (Ne.symm hk)]; exact hm
  have i1 : itemsD (.ref m) st = some xs := itemsD_ref hm
  have i2 : itemsD (.ref m) st' = some xs := itemsD_ref hm'
  obtain ⟨i, rfl⟩ := hb x hmem
  refine ⟨.int i, st', hmem, ?_, dr⟩
  have g0 : gc st (.int i) st' = .ok (.int i) st' := dr.gc0 (by simp [blw])
  simp [f_x_law_pick, defF, b_x_law_pick, cLen, i1, e, opIx, i2, hx, g0]
end L3
namespace L3
open PySem PySem.Spec PyProof.Rows L2

/-! ### drawn relations -/
def Small (i : Int) : Prop := i.natAbs.log2 < 1920
def SmallP (p : PI2) : Prop := Small p.1 ∧ Small p.2
theorem small_of {r : Int} (h0 : 0 ≤ r) (h1 : r < 6) : Small r := by
  have : r.natAbs.log2 ≤ r.natAbs := Nat.log2_le_self _
  unfold Small
  omega
def body_lr : MS := (sDrop (mM isLst fAppend (mVar 3) (mCons (mTup (mCons (mCall 2 f_x_law_draw (mCons (mVar 0) (mCons (mVar 2) mNil))) (mCons (mCall 2 f_x_law_draw (mCons (mVar 0) (mCons (mVar 2) mNil))) mNil))) mNil)))
theorem at_end (st : Sto) (o : Ob) : (st ++ [o])[st.length]? = some o := by simp
theorem at_end2 (st : Sto) (o : Ob) (g : Sto) : (st ++ o :: g)[st.length]? = some o := by simp
theorem set_end (st : Sto) (o o' : Ob) (g : Sto) : (st ++ o :: g).set st.length o' = st ++ o' :: g := st_set
theorem app_end {st g : Sto} {n : Nat} {xs : List D} {y : D} (hn : n = st.length) (hx : xs.length < 1000) : isLst (.ref n) (st ++ .lst xs :: g) = true ∧ fAppend (.ref n) [y] (st ++ .lst xs :: g) = .ok .non (st ++ .lst (xs ++ [y]) :: g) := by
  subst hn
  have h := at_end2 st (.lst xs) g
  have hs : szOk (xs.length + 1) = true := by simp [szOk]; omega
  refine ⟨by simp only [isLst, h], ?_⟩
  simp only [fAppend, h, hs, if_true, set_end]
theorem body_lr_ok {st : Sto} {k n : Nat} {v1 v4 : Option D} {span : Int} {l : List PI2} (hs : IsStr st k) (hn : n = st.length) (h1 : 1 ≤ span) (h2 : span ≤ 6) (hl : l.length < 1000) :
    ∃ (p : PI2) (st' : Sto), body_lr [some (.ref k), v1, some (.int span), some (.ref n), v4] (st ++ [.lst (l.map prD)]) = .ok (.nx [some (.ref k), v1, some (.int span), some (.ref n), v4]) (st' ++ [.lst ((l ++ [p]).map prD)]) ∧ Drawn k st st' ∧ SmallP p := by
  obtain ⟨r1, S1, a0, a1, e1, d1⟩ := draw_ok (h := span) (hs.app [.lst (l.map prD)]) h1 (by omega)
  obtain ⟨s1, hSs1, d1'⟩ := d1.split hs
  subst hSs1
  replace d1 := d1'
  obtain ⟨r2, S2, b0, b1, e2, d2⟩ := draw_ok (h := span) ((d1.str hs).app [.lst (l.map prD)]) h1 (by omega)
  obtain ⟨s2, hSs2, d2'⟩ := d2.split (d1.str hs)
  subst hSs2
  replace d2 := d2'
  have i1 := (app_end (st := st) (g := []) (y := .non) (xs := l.map prD) hn (by simpa using hl)).1
  have i2 := (app_end (st := s2) (g := []) (y := .tup [.int r1, .int r2]) (xs := l.map prD) (hn.trans (by rw [d2.len, d1.len])) (by simpa using hl)).2
  refine ⟨(r1, r2), s2, ?_, d1.trans d2, small_of a0 (by omega), small_of b0 (by omega)⟩
  have z2 : szOk 2 = true := by decide
  simp only [body_lr, sDrop, mM, mVar, mCons, mNil, mTup, mCall, List.getElem?_cons_succ, List.getElem?_cons_zero, bind_ok, i1, if_true, List.length_cons, List.length_nil, e1, e2, z2, i2]
  simp [prD]
theorem loop_lr {k n : Nat} {v1 : Option D} {span : Int} (h1 : 1 ≤ span) (h2 : span ≤ 6) : ∀ (m : Nat) (lo : Int) (l : List PI2) (st : Sto) (v4 : Option D), IsStr st k → n = st.length → l.length + m < 1000 → (∀ p ∈ l, SmallP p) →
    ∃ (l' : List PI2) (st' : Sto) (v4' : Option D), forGo (.nm 4) (fun _ => true) body_lr (upto lo m) [some (.ref k), v1, some (.int span), some (.ref n), v4] (st ++ [.lst (l.map prD)]) = .ok (.nx [some (.ref k), v1, some (.int span), some (.ref n), v4']) (st' ++ [.lst (l'.map prD)]) ∧ Drawn k st st' ∧ l'.length = l.length + m ∧ ∀ p ∈ l', SmallP p
  | 0, lo, l, st, v4, hs, hn, hl, hp => ⟨l, st, v4, by simp [upto, forGo], Drawn.refl hs, rfl, hp⟩
  | m + 1, lo, l, st, v4, hs, hn, hl, hp => by
    obtain ⟨p, s1, e1, d1, sp⟩ := body_lr_ok (v1 := v1) (v4 := some (.int lo)) hs hn h1 h2 (show l.length < 1000 by omega)
    obtain ⟨l', s2, v4', e2, d2, hl2, hp2⟩ := loop_lr (v1 := v1) h1 h2 m (lo + 1) (l ++ [p]) s1 (some (.int lo)) (d1.str hs) (hn.trans d1.len.symm) (by simp; omega) fun q hq => by
      rcases List.mem_append.mp hq with z | z
      · exact hp q z
      · rw [List.mem_singleton.mp z]; exact sp
    refine ⟨l', s2, v4', ?_, d1.trans d2, by rw [hl2]; simp; omega, hp2⟩
    rw [upto, forGo]
    simp only [if_true, setT, List.set_cons_succ, List.set_cons_zero, e1, bind_ok, e2]
theorem pow39 (st : Sto) : opPow (.int 10) (.int 39) st = .ok (.int (10 ^ 39)) st := by
  have h : powOk 10 39 = true := by decide +kernel
  simp only [opPow, h, if_true]
  rfl
theorem pow38 (st : Sto) : opPow (.int 10) (.int 38) st = .ok (.int (10 ^ 38)) st := by
  have h : powOk 10 38 = true := by decide +kernel
  simp only [opPow, h, if_true]
  rfl
abbrev its1 : List D := [.int (-1), .int (10 ^ 39), .int 0]
abbrev its2 : List D := [.int (0 - 10 ^ 38), .int 2, .int (-1)]
theorem its1_small : ∀ x ∈ its1, ∃ i : Int, x = .int i ∧ Small i := fun x hx => by
  simp only [its1, List.mem_cons, List.not_mem_nil, or_false] at hx
  rcases hx with h | h | h <;> exact ⟨_, h, by unfold Small; decide +kernel⟩
theorem its2_small : ∀ x ∈ its2, ∃ i : Int, x = .int i ∧ Small i := fun x hx => by
  simp only [its2, List.mem_cons, List.not_mem_nil, or_false] at hx
  rcases hx with h | h | h <;> exact ⟨_, h, by unfold Small; decide +kernel⟩
def if_lr : MS := (sIf (mB (mOp (opEq false) (mCall 2 f_x_law_draw (mCons (mVar 0) (mCons (mC (.int 5)) mNil))) (mC (.int 0)))) (sDrop (mM isLst fAppend (mVar 3) (mCons (mTup (mCons (mCall 2 f_x_law_pick (mCons (mVar 0) (mCons (mLst (mCons (mUn opNeg (mC (.int 1))) (mCons (mOp opPow (mC (.int 10)) (mC (.int 39))) (mCons (mC (.int 0)) mNil)))) mNil))) (mCons (mCall 2 f_x_law_pick (mCons (mVar 0) (mCons (mLst (mCons (mOp opSub (mC (.int 0)) (mOp opPow (mC (.int 10)) (mC (.int 38)))) (mCons (mC (.int 2)) (mCons (mUn opNeg (mC (.int 1))) mNil)))) mNil))) mNil))) mNil))) sNil)
theorem if_lr_ok {st : Sto} {k n : Nat} {v1 v2 v4 : Option D} {l : List PI2} (hs : IsStr st k) (hn : n = st.length) (hl : l.length < 1000) (hp : ∀ p ∈ l, SmallP p) :
    ∃ (l' : List PI2) (st' g : Sto), if_lr [some (.ref k), v1, v2, some (.ref n), v4] (st ++ [.lst (l.map prD)]) = .ok (.nx [some (.ref k), v1, v2, some (.ref n), v4]) (st' ++ .lst (l'.map prD) :: g) ∧ Drawn k st st' ∧ l'.length ≤ l.length + 1 ∧ ∀ p ∈ l', SmallP p := by
  obtain ⟨r, S1, a0, a1, e1, d1⟩ := draw_ok (h := 5) (hs.app [.lst (l.map prD)]) (by decide) (by decide)
  obtain ⟨s1, hSs1, d1'⟩ := d1.split hs
  subst hSs1
  replace d1 := d1'
  have hs1 := d1.str hs
  have hn1 : n = s1.length := hn.trans d1.len.symm
  by_cases c : r = 0
  · -- the first pick
    have z3 : szOk 3 = true := by decide
    have lt1 := hs1.lt
    obtain ⟨x1, S2, m1, e2, d2⟩ := pick_ok (st := (s1 ++ [.lst (l.map prD)]) ++ [.lst its1]) (m := (s1 ++ [Ob.lst (l.map prD)]).length) (xs := its1) ((hs1.app _).app _) (at_end _ _) (by simp; omega) (by decide) (by decide) fun x hx => (its1_small x hx).elim fun i h => ⟨i, h.1⟩
    rw [List.append_assoc] at d2
    obtain ⟨s2, hSs2, d2'⟩ := d2.split hs1
    subst hSs2
    replace d2 := d2'
    have hs2 := d2.str hs1
    obtain ⟨x2, S3, m2, e3, d3⟩ := pick_ok (st := (s2 ++ ([.lst (l.map prD)] ++ [.lst its1])) ++ [.lst its2]) (m := (s2 ++ ([Ob.lst (l.map prD)] ++ [Ob.lst its1])).length) (xs := its2) ((hs2.app _).app _) (at_end _ _) (by have := hs2.lt; simp; omega) (by decide) (by decide) fun x hx => (its2_small x hx).elim fun i h => ⟨i, h.1⟩
    rw [List.append_assoc] at d3
    obtain ⟨s3, hSs3, d3'⟩ := d3.split hs2
    subst hSs3
    replace d3 := d3'
    obtain ⟨i1, rfl, sm1⟩ := its1_small x1 m1
    obtain ⟨i2, rfl, sm2⟩ := its2_small x2 m2
    have hn3 : n = s3.length := hn1.trans (by rw [d3.len, d2.len])
    have q1 := (app_end (st := s1) (g := []) (y := .non) (xs := l.map prD) hn1 (by simpa using hl)).1
    have q2 := (app_end (st := s3) (g := [.lst its1, .lst its2]) (y := .tup [.int i1, .int i2]) (xs := l.map prD) hn3 (by simpa using hl)).2
    have z2 : szOk 2 = true := by decide
    have z1 : szOk 3 = true := by decide
    refine ⟨l ++ [(i1, i2)], s3, [.lst its1, .lst its2], ?_, (d1.trans d2).trans d3, by simp, fun p hp' => ?_⟩
    · simp only [if_lr, sIf, sDrop, mB, mOp, mUn, mM, mVar, mC, mCons, mNil, mTup, mCall, mLst, List.getElem?_cons_succ, List.getElem?_cons_zero, bind_ok, if_true, List.length_cons, List.length_nil, e1, opEq_i, decide_eq_true c, q1, opNeg, opSub, pow39, pow38, z1, z2, e2, e3]
      rw [show s3 ++ ([Ob.lst (l.map prD)] ++ [.lst its1] ++ [.lst its2]) = s3 ++ .lst (l.map prD) :: [.lst its1, .lst its2] from rfl, q2]
      simp [prD]
    · rcases List.mem_append.mp hp' with z | z
      · exact hp p z
      · rw [List.mem_singleton.mp z]; exact ⟨sm1, sm2⟩
  · refine ⟨l, s1, [], ?_, d1, by omega, hp⟩
    simp only [if_lr, sIf, mB, mOp, mVar, mC, mCons, mNil, mCall, List.getElem?_cons_succ, List.getElem?_cons_zero, bind_ok, if_true, List.length_cons, List.length_nil, e1, opEq_i, decide_eq_false c, Bool.false_eq_true, if_false, sNil]
theorem relation_ok {st : Sto} {k : Nat} {span : Int} (hs : IsStr st k) (h1 : 1 ≤ span) (h2 : span ≤ 6) :
    ∃ (l : List PI2) (st' : Sto), f_x_law_relation [.ref k, .int 12, .int span] st = .ok (relD l) st' ∧ Drawn k st st' ∧ Asc l ∧ l.length ≤ 13 ∧ ∀ p ∈ l, SmallP p := by
  have z0 : szOk 0 = true := by decide
  obtain ⟨r, S1, a0, a1, e1, d1⟩ := draw_ok (h := 13) (hs.app [.lst []]) (by decide) (by decide)
  obtain ⟨s1, hSs1, d1'⟩ := d1.split hs
  subst hSs1
  replace d1 := d1'
  have hs1 := d1.str hs
  have rg : rgOk r = true := by
    unfold rgOk
    rw [Bool.and_eq_true, decide_eq_true_eq, decide_eq_true_eq]
    omega
  obtain ⟨l1, s2, v4, e2, d2, hl1, hp1⟩ := loop_lr (k := k) (n := st.length) (v1 := some (.int 12)) h1 h2 r.toNat 0 [] s1 none hs1 d1.len.symm (by simp; omega) (fun p hp => nomatch hp)
  have hl1 : l1.length ≤ 12 := by
    rw [hl1]; simp; omega
  obtain ⟨l2, s3, g, e3, d3, hl2, hp2⟩ := if_lr_ok (n := st.length) (v1 := some (.int 12)) (v2 := some (.int span)) (v4 := v4) (d2.str hs1) (by rw [d2.len, d1.len]) (by omega) hp1
  have d13 := (d1.trans d2).trans d3
  have hn3 : st.length = s3.length := d13.len.symm
  have hf : fitD (l2.map prD) = true := fitD_pr (by omega)
  have at3 : (s3 ++ Ob.lst (l2.map prD) :: g)[st.length]? = some (.lst (l2.map prD)) := by rw [hn3]; exact at_end2 _ _ _
  have fin := tss_ok hf at3
  refine ⟨canon l2, s3, ?_, d13, asc_canon _, Nat.le_trans (canon_len l2) (by omega), fun p hp => hp2 p (mem_canon.mp hp)⟩
  have gce : gc st (relD (canon l2)) (s3 ++ Ob.lst (l2.map prD) :: g ++ [.set (dedupD [] (l2.map prD))] ++ [.lst ((canon l2).map prD)]) = .ok (relD (canon l2)) s3 := by
    rw [List.append_assoc, List.append_assoc]
    exact d13.gc (blw_rel _ _)
  have e12 : opAdd (.int 12) (.int 1) (st ++ [.lst []]) = .ok (.int 13) (st ++ [.lst []]) := rfl
  have s_1 : sAsg (mLst mNil) (.nm 3) [some (.ref k), some (.int 12), some (.int span), none, none] st = .ok (.nx [some (.ref k), some (.int 12), some (.int span), some (.ref st.length), none]) (st ++ [.lst []]) := by
    simp only [sAsg, mLst, mNil, bind_ok, List.length_nil, z0, if_true, setT, List.set_cons_succ, List.set_cons_zero]
  have s_2 : sFor (mRng (mCons (mCall 2 f_x_law_draw (mCons (mVar 0) (mCons (mOp opAdd (mVar 1) (mC (.int 1))) mNil))) mNil)) (.nm 4) body_lr [some (.ref k), some (.int 12), some (.int span), some (.ref st.length), none] (st ++ [.lst []]) = .ok (.nx [some (.ref k), some (.int 12), some (.int span), some (.ref st.length), v4]) (s2 ++ [.lst (l1.map prD)]) := by
    simp only [sFor, mRng, mCons, mNil, mCall, mVar, mC, mOp, List.getElem?_cons_succ, List.getElem?_cons_zero, bind_ok, e12, List.length_cons, List.length_nil, if_true, e1, rngF, rg]
    exact e2
  unfold f_x_law_relation defF b_x_law_relation
  rw [show (sDrop (mM isLst fAppend (mVar 3) (mCons (mTup (mCons (mCall 2 f_x_law_draw (mCons (mVar 0) (mCons (mVar 2) mNil))) (mCons (mCall 2 f_x_law_draw (mCons (mVar 0) (mCons (mVar 2) mNil))) mNil))) mNil))) = body_lr from rfl]
  simp only [List.map_cons, List.map_nil, List.length_cons, List.length_nil, List.replicate, List.cons_append, List.nil_append]
  unfold if_lr at e3
  rw [seq_nx s_1, seq_nx s_2, seq_nx e3]
  simp only [sRet, mF, mCons, mNil, mVar, List.getElem?_cons_succ, List.getElem?_cons_zero, bind_ok]
  have fin2 : ((((cSet [.ref st.length] (s3 ++ Ob.lst (l2.map prD) :: g)).bind fun d st1 => R.ok [d] st1).bind cSorted).bind fun d st1 => R.ok [d] st1).bind cTuple = .ok (relD (canon l2)) (s3 ++ Ob.lst (l2.map prD) :: g ++ [.set (dedupD [] (l2.map prD))] ++ [.lst ((canon l2).map prD)]) := by
    rw [← fin]
    simp only [R.bind_bind, bind_ok]
  first
    | (rw [fin2]; exact gce)
    | (simp only [R.bind_bind, bind_ok] at fin2 ⊢; simp only [fin2, bind_ok]; exact gce)
end L3
namespace L3
open PySem PySem.Spec PyProof.Rows L2

/-! ### == , len, repr of rows -/
theorem toPys_rel : ∀ l : List PI2, toPys (l.map prD) = some (l.map fun p => PyData.tuple [.int p.1, .int p.2])
  | [] => by simp [toPys]
  | p :: l => by rw [List.map_cons, toPys, toPy_pr, toPys_rel l]; rfl
theorem toPy_rel (l : List PI2) : toPy (relD l) = some (.tuple (l.map fun p => PyData.tuple [.int p.1, .int p.2])) := by rw [relD, toPy, toPys_rel]
theorem eqvAll_rel : ∀ l : List PI2, PyData.eqvAll (l.map fun p => PyData.tuple [.int p.1, .int p.2]) (l.map fun p => PyData.tuple [.int p.1, .int p.2]) = true
  | [] => by simp [PyData.eqvAll]
  | p :: l => by rw [List.map_cons, PyData.eqvAll, eqvAll_rel l]; simp [PyData.eqv, PyData.eqvAll]
theorem depthAll_rel : ∀ l : List PI2, PyData.depthAll (l.map fun p => PyData.tuple [.int p.1, .int p.2]) ≤ 1
  | [] => by simp [PyData.depthAll]
  | p :: l => by
    have := depthAll_rel l
    rw [List.map_cons, PyData.depthAll]
    simp [PyData.depth, PyData.depthAll]
    omega
theorem canLay_rel (l : List PI2) : (PyData.tuple (l.map fun p => PyData.tuple [.int p.1, .int p.2])).canLay0 = true := by
  induction l with
  | nil => simp [PyData.canLay0, PyData.canLayAll0]
  | cons p l ih =>
    simp only [PyData.canLay0, List.map_cons, PyData.canLayAll0] at ih ⊢
    simp [ih]
theorem shaped_rel (l : List PI2) : SeqAt.shaped (.tuple (l.map fun p => PyData.tuple [.int p.1, .int p.2])) = true := by
  unfold SeqAt.shaped
  rw [canLay_rel, Bool.true_and, decide_eq_true_eq]
  have := depthAll_rel l
  simp only [PyData.depth]
  omega
theorem opEq_rel (neg : Bool) (l : List PI2) (st : Sto) : opEq neg (relD l) (relD l) st = .ok (.bl (!neg)) st := by
  have h : opEq neg (relD l) (relD l) st = eqF neg (relD l) (relD l) st := rfl
  rw [h]
  unfold eqF
  rw [toPy_rel]
  simp only [shaped_rel, Bool.and_self, if_true, PyData.eqv, eqvAll_rel]
  cases neg <;> rfl
theorem cLen_rel (l : List PI2) (st : Sto) : cLen [relD l] st = .ok (.int l.length) st := by simp [cLen, itemsD, relD]
theorem showAll_rel : ∀ {l : List PI2}, (∀ p ∈ l, SmallP p) → PyData.showableAll (l.map fun p => PyData.tuple [.int p.1, .int p.2]) = true
  | [], _ => by simp [PyData.showableAll]
  | p :: l, h => by
    have hp := h p List.mem_cons_self
    rw [List.map_cons, PyData.showableAll, showAll_rel fun q hq => h q (List.mem_cons_of_mem _ hq)]
    have h1 : p.1.natAbs.log2 < 1920 := hp.1
    have h2 : p.2.natAbs.log2 < 1920 := hp.2
    simp [PyData.showable, PyData.showableAll, h1, h2]
theorem tup_len (ts : List Str) : (tupleText ts).length ≤ piled ts + 3 := by
  unfold tupleText
  rw [strLen_append, strLen_append]
  have e1 : ((("(" : String) : Str)).length = 1 := rfl
  have e3 : (((if ts.length == 1 then ",)" else ")" : String) : Str)).length ≤ 2 := by split <;> decide
  rw [e1]
  by_cases c : ts = []
  · subst c
    have : (Str.join ", " []).length = 0 := rfl
    rw [this]
    omega
  · have := join_length_add ts c
    omega
theorem len_pr {p : PI2} (h : SmallP p) : (PyData.tuple [.int p.1, .int p.2]).shown.length ≤ 3849 := by
  have h1 := PyProof.Rows.int_text_len_1921 h.1
  have h2 := PyProof.Rows.int_text_len_1921 h.2
  have h3 := tup_len [(toString p.1 : String), (toString p.2 : String)]
  simp only [PyData.shown, PyData.shownAll]
  have h4 : piled [((toString p.1 : String) : Str), ((toString p.2 : String) : Str)] ≤ 3846 := by
    rw [piled_cons, piled_cons, piled_nil]
    have e1 : (((toString p.1 : String) : Str)).length ≤ 1921 := h1
    have e2 : (((toString p.2 : String) : Str)).length ≤ 1921 := h2
    omega
  have e3 : (tupleText [((toString p.1 : String) : Str), ((toString p.2 : String) : Str)]).length ≤ 3849 := by omega
  exact e3
theorem piled_rel : ∀ {l : List PI2}, (∀ p ∈ l, SmallP p) → piled (PyData.shownAll (l.map fun p => PyData.tuple [.int p.1, .int p.2])) ≤ 3851 * l.length
  | [], _ => by simp [PyData.shownAll, piled_nil]
  | p :: l, h => by
    have h1 := len_pr (h p List.mem_cons_self)
    have h2 := piled_rel fun q hq => h q (List.mem_cons_of_mem _ hq)
    rw [List.map_cons, PyData.shownAll, piled_cons, List.length_cons]
    omega
theorem cRepr_rel {l : List PI2} (h : ∀ p ∈ l, SmallP p) (hl : l.length ≤ 4000) : ∃ x, ∀ st : Sto, cRepr [relD l] st = .ok (.str x) st := by
  have hp := toPy_rel l
  generalize hd : PyData.tuple (l.map fun p => PyData.tuple [.int p.1, .int p.2]) = d at hp
  have s1 : d.showable = true := by rw [← hd]; simp only [PyData.showable]; exact showAll_rel h
  have s2 : d.depth ≤ 60 := by
    rw [← hd]
    have := depthAll_rel l
    simp only [PyData.depth]
    omega
  have s3 : szOk d.shown.length = true := by
    have e : d.shown = tupleText (PyData.shownAll (l.map fun p => PyData.tuple [.int p.1, .int p.2])) := by rw [← hd]; simp only [PyData.shown]
    have h1 := tup_len (PyData.shownAll (l.map fun p => PyData.tuple [.int p.1, .int p.2]))
    have h2 := piled_rel h
    rw [e]
    simp only [szOk, decide_eq_true_eq]
    omega
  refine ⟨d.shown, fun st => ?_⟩
  have e : cRepr [relD l] st = (match toPy (relD l) with | some p => if p.showable && decide (p.depth ≤ 60) && szOk p.shown.length then .ok (.str p.shown) st else .stuck | none => .stuck) := rfl
  rw [e, hp]
  simp only [s1, decide_eq_true s2, s3, Bool.and_self, if_true]

/-! ### the law's own product -/
theorem lcGo_filter {t : Tg} {ok : Sto → Bool} {c : Mo Bool} {e : Mo D} {env : En} {st : Sto} (C : D → Bool) (F : D → D) (hok : ok st = true) : ∀ {xs : List D}, (∀ x ∈ xs, ∃ env1, setT t x env = some env1 ∧ c env1 st = .ok (C x) st ∧ e env1 st = .ok (F x) st) → lcGo t ok c e env xs st = .ok ((xs.filter C).map F) st
  | [], _ => by rw [lcGo, if_pos hok]; rfl
  | x :: xs, h => by
    obtain ⟨env1, h1, h2, h3⟩ := h x List.mem_cons_self
    have ih := lcGo_filter C F hok fun y hy => h y (List.mem_cons_of_mem _ hy)
    rw [lcGo, if_pos hok, h1]
    simp only [h2, nox_ok, bind_ok]
    by_cases q : C x = true
    · simp only [q, if_true, h3, nox_ok, bind_ok, ih, List.filter_cons, List.map_cons]
    · have q : C x = false := by simpa using q
      simp only [q, Bool.false_eq_true, if_false, ih, List.filter_cons]
def body_lp : MS := (sDrop (mM isLst fExtend (mVar 2) (mCons (mLc [5, 6] (mIter (mVar 1)) (.tp [(.nm 5), (.nm 6)]) (mB (mOp (opEq false) (mVar 5) (mVar 4))) (mTup (mCons (mVar 3) (mCons (mVar 6) mNil)))) mNil)))
theorem body_lp_ok {st g : Sto} {n : Nat} {v0 : Option D} {b acc : List PI2} {p : PI2} (hn : n = st.length) (hl : acc.length + b.length ≤ 16777216) :
    body_lp [v0, some (relD b), some (.ref n), some (.int p.1), some (.int p.2), none, none] (st ++ .lst (acc.map prD) :: g) = .ok (.nx [v0, some (relD b), some (.ref n), some (.int p.1), some (.int p.2), none, none]) (st ++ .lst ((acc ++ (b.filter fun q => decide (q.1 = p.2)).map fun q => (p.1, q.2)).map prD) :: (g ++ [.lst (((b.filter fun q => decide (q.1 = p.2)).map fun q => ((p.1, q.2) : PI2)).map prD)])) := by
  subst hn
  have at0 : ∀ g, (st ++ Ob.lst (acc.map prD) :: g)[st.length]? = some (.lst (acc.map prD)) := fun g => at_end2 _ _ _
  have i0 : ∀ g, isLst (.ref st.length) (st ++ Ob.lst (acc.map prD) :: g) = true := fun g => by simp only [isLst, at0]
  let C : D → Bool := fun d => match d with | .tup [.int x, _] => decide (x = p.2) | _ => false
  let F : D → D := fun d => match d with | .tup [_, y] => .tup [.int p.1, y] | _ => .non
  have lc := lcGo_filter (t := .tp [.nm 5, .nm 6]) (ok := fun _ => true) (c := mB (mOp (opEq false) (mVar 5) (mVar 4))) (e := mTup (mCons (mVar 3) (mCons (mVar 6) mNil))) (env := [v0, some (relD b), some (.ref st.length), some (.int p.1), some (.int p.2), none, none]) (st := st ++ Ob.lst (acc.map prD) :: g) C F rfl (xs := b.map prD) fun x hx => by
    obtain ⟨q, _, rfl⟩ := List.mem_map.mp hx
    exact ⟨[v0, some (relD b), some (.ref st.length), some (.int p.1), some (.int p.2), some (.int q.1), some (.int q.2)], by simp [setT, setTs, prD], by simp [prD, C], by simp [prD, F, szOk]⟩
  have e1 : ((b.map prD).filter C).map F = ((b.filter fun q => decide (q.1 = p.2)).map fun q => ((p.1, q.2) : PI2)).map prD := by
    rw [List.filter_map, List.map_map, List.map_map]
    have : C ∘ prD = fun q : PI2 => decide (q.1 = p.2) := rfl
    rw [this]
    rfl
  rw [e1] at lc
  generalize hj : ((b.filter fun q => decide (q.1 = p.2)).map fun q => ((p.1, q.2) : PI2)) = js at lc ⊢
  have jl : js.length ≤ b.length := by rw [← hj, List.length_map]; exact List.length_filter_le _ _
  have z1 : szOk (js.map prD).length = true := by simp [szOk]; omega
  have z2 : szOk ((acc.map prD).length + (js.map prD).length) = true := by simp [szOk]; omega
  have ap : (st ++ Ob.lst (acc.map prD) :: g) ++ [.lst (js.map prD)] = st ++ .lst (acc.map prD) :: (g ++ [.lst (js.map prD)]) := by simp
  have at2 : (st ++ Ob.lst (acc.map prD) :: (g ++ [.lst (js.map prD)]))[(st ++ Ob.lst (acc.map prD) :: g).length]? = some (.lst (js.map prD)) := by rw [← ap]; exact at_end _ _
  have wp : wipeE [v0, some (relD b), some (.ref st.length), some (.int p.1), some (.int p.2), none, none] [5, 6] = [v0, some (relD b), some (.ref st.length), some (.int p.1), some (.int p.2), none, none] := by simp [wipeE]
  have it : iterF (relD b) (st ++ Ob.lst (acc.map prD) :: g) = .ok (b.map prD, fun _ => true) (st ++ Ob.lst (acc.map prD) :: g) := rfl
  simp only [body_lp, sDrop, mM, mLc, mIter, mVar, mCons, mNil, List.getElem?_cons_succ, List.getElem?_cons_zero, bind_ok, i0, if_true, it, wp]
  rw [lc]
  simp only [bind_ok, z1, if_true, ap, fExtend, at0, at2, z2, set_end, List.map_append]
theorem loop_lp {st : Sto} {n : Nat} {v0 : Option D} {b : List PI2} (hn : n = st.length) : ∀ (a acc : List PI2) (g : Sto) (x3 x4 : Option D), acc.length + (a.length + 1) * b.length ≤ 16777216 →
    ∃ (g' : Sto) (y3 y4 : Option D), forGo (.tp [.nm 3, .nm 4]) (fun _ => true) body_lp (a.map prD) [v0, some (relD b), some (.ref n), x3, x4, none, none] (st ++ .lst (acc.map prD) :: g) = .ok (.nx [v0, some (relD b), some (.ref n), y3, y4, none, none]) (st ++ .lst ((acc ++ joins a b).map prD) :: g')
  | [], acc, g, x3, x4, _ => ⟨g, x3, x4, by simp [forGo, joins]⟩
  | p :: a, acc, g, x3, x4, hl => by
    rw [List.length_cons, Nat.add_mul, Nat.add_mul] at hl
    have fl := List.length_filter_le (fun q : PI2 => decide (q.1 = p.2)) b
    obtain ⟨g', y3, y4, e⟩ := loop_lp (v0 := v0) (b := b) hn a (acc ++ (b.filter fun q => decide (q.1 = p.2)).map fun q => (p.1, q.2)) (g ++ [.lst (((b.filter fun q => decide (q.1 = p.2)).map fun q => ((p.1, q.2) : PI2)).map prD)]) (some (.int p.1)) (some (.int p.2)) (by
      rw [List.length_append, List.length_map, Nat.add_mul]; omega)
    refine ⟨g', y3, y4, ?_⟩
    have st1 : setT (.tp [.nm 3, .nm 4]) (prD p) [v0, some (relD b), some (.ref n), x3, x4, none, none] = some [v0, some (relD b), some (.ref n), some (.int p.1), some (.int p.2), none, none] := by simp [setT, setTs, prD]
    have bd := body_lp_ok (v0 := v0) (g := g) (b := b) (acc := acc) (p := p) hn (by omega)
    rw [List.map_cons, forGo]
    simp only [if_true, st1, bd, bind_ok]
    rw [e]
    congr 1
    unfold joins
    rw [List.flatMap_cons, List.append_assoc]
theorem product2_ok {a b : List PI2} (h : (a.length + 1) * b.length ≤ 16777216) (hf : fitD ((joins a b).map prD) = true) (st : Sto) : f_x_law_product [relD a, relD b] st = .ok (relD (canon (joins a b))) st := by
  have z0 : szOk 0 = true := by decide
  obtain ⟨g', y3, y4, e⟩ := loop_lp (st := st) (n := st.length) (v0 := some (relD a)) (b := b) rfl a [] [] none none (by simpa using h)
  rw [List.nil_append] at e
  have at3 : (st ++ Ob.lst ((joins a b).map prD) :: g')[st.length]? = some (.lst ((joins a b).map prD)) := at_end2 _ _ _
  have fin := tss_ok hf at3
  have gce : gc st (relD (canon (joins a b))) (st ++ Ob.lst ((joins a b).map prD) :: g' ++ [.set (dedupD [] ((joins a b).map prD))] ++ [.lst ((canon (joins a b)).map prD)]) = .ok (relD (canon (joins a b))) st := by
    rw [List.append_assoc, List.append_assoc]
    exact gc_plain (blw_rel _ _)
  have s_1 : sAsg (mLst mNil) (.nm 2) [some (relD a), some (relD b), none, none, none, none, none] st = .ok (.nx [some (relD a), some (relD b), some (.ref st.length), none, none, none, none]) (st ++ [.lst []]) := by
    simp only [sAsg, mLst, mNil, bind_ok, List.length_nil, z0, if_true, setT, List.set_cons_succ, List.set_cons_zero]
  have s_2 : sFor (mIter (mVar 0)) (.tp [(.nm 3), (.nm 4)]) body_lp [some (relD a), some (relD b), some (.ref st.length), none, none, none, none] (st ++ [.lst []]) = .ok (.nx [some (relD a), some (relD b), some (.ref st.length), y3, y4, none, none]) (st ++ .lst ((joins a b).map prD) :: g') := by
    have it : iterF (relD a) (st ++ [.lst []]) = .ok (a.map prD, fun _ => true) (st ++ [.lst []]) := rfl
    simp only [sFor, mIter, mVar, List.getElem?_cons_zero, bind_ok, it]
    exact e
  unfold f_x_law_product defF b_x_law_product
  unfold body_lp at s_2
  simp only [List.map_cons, List.map_nil, List.length_cons, List.length_nil, List.replicate, List.cons_append, List.nil_append]
  rw [seq_nx s_1, seq_nx s_2]
  simp only [sRet, mF, mCons, mNil, mVar, List.getElem?_cons_succ, List.getElem?_cons_zero, bind_ok]
  simp only [R.bind_bind, bind_ok] at fin ⊢
  have fin2 := congrArg (fun r : R D => r.bind fun d st1 => gc st d st1) fin
  simp only [R.bind_bind, bind_ok] at fin2
  rw [gce] at fin2
  exact fin2
/-! ### turned -/
def swapP (p : PI2) : PI2 := (p.2, p.1)
theorem turned_ok {l : List PI2} (hl : l.length ≤ 16777216) (st : Sto) : f_x_law_turned [relD l] st = .ok (relD (sortP (l.map swapP))) st := by
  let F : D → D := fun d => match d with | .tup [x, y] => .tup [y, x] | _ => .non
  have lc := lcGo_pure (t := .tp [.nm 1, .nm 2]) (ok := fun _ => true) (e := mTup (mCons (mVar 2) (mCons (mVar 1) mNil))) (env := [some (relD l), none, none]) (st := st) F rfl (xs := l.map prD) fun x hx => by
    obtain ⟨q, _, rfl⟩ := List.mem_map.mp hx
    exact ⟨[some (relD l), some (.int q.1), some (.int q.2)], by simp [setT, setTs, prD], by simp [prD, F, szOk]⟩
  have e1 : (l.map prD).map F = (l.map swapP).map prD := by rw [List.map_map, List.map_map]; rfl
  rw [e1] at lc
  have ap : ((l.map swapP).map prD).length ≤ 16777216 := by simpa using hl
  have z1 : szOk ((l.map swapP).map prD).length = true := by simp only [szOk, decide_eq_true_eq]; exact ap
  have at1 := at_end st (.lst ((l.map swapP).map prD))
  have i1 : itemsD (.ref st.length) (st ++ [Ob.lst ((l.map swapP).map prD)]) = some ((l.map swapP).map prD) := itemsD_ref at1
  have i2 : isLst (.ref st.length) (st ++ [Ob.lst ((l.map swapP).map prD)]) = true := by simp only [isLst, at1]
  have i3' : setAt (.ref st.length) (st ++ [Ob.lst ((l.map swapP).map prD)]) = none := by simp only [setAt, at1]
  have so : cSorted [.ref st.length] (st ++ [Ob.lst ((l.map swapP).map prD)]) = .ok (.ref (st ++ [Ob.lst ((l.map swapP).map prD)]).length) (st ++ [Ob.lst ((l.map swapP).map prD)] ++ [.lst ((sortP (l.map swapP)).map prD)]) := by
    simp only [cSorted, i3', cSortL, i1, i2, sortOk_pr (l := l.map swapP) (by simpa using hl), Bool.and_self, if_true, sortD_pr]
    rfl
  have at2 := at_end (st ++ [Ob.lst ((l.map swapP).map prD)]) (.lst ((sortP (l.map swapP)).map prD))
  have tu : cTuple [.ref (st ++ [Ob.lst ((l.map swapP).map prD)]).length] (st ++ [Ob.lst ((l.map swapP).map prD)] ++ [.lst ((sortP (l.map swapP)).map prD)]) = .ok (relD (sortP (l.map swapP))) (st ++ [Ob.lst ((l.map swapP).map prD)] ++ [.lst ((sortP (l.map swapP)).map prD)]) := by
    simp only [cTuple, itemsD_ref at2]
    rfl
  have gce : gc st (relD (sortP (l.map swapP))) (st ++ [Ob.lst ((l.map swapP).map prD)] ++ [.lst ((sortP (l.map swapP)).map prD)]) = .ok (relD (sortP (l.map swapP))) st := by
    rw [List.append_assoc]; exact gc_plain (blw_rel _ _)
  have it : iterF (relD l) st = .ok (l.map prD, fun _ => true) st := rfl
  have wp : wipeE [some (relD l), none, none] [1, 2] = [some (relD l), none, none] := by simp [wipeE]
  unfold f_x_law_turned defF b_x_law_turned
  simp only [List.map_cons, List.map_nil, List.length_cons, List.length_nil, List.replicate, List.cons_append, List.nil_append, sRet, mF, mCons, mNil, mVar, mLc, mIter, mTup, List.getElem?_cons_zero, bind_ok, it, wp]
  rw [lc]
  simp only [bind_ok, z1, if_true, so, tu, gce]
end L3
namespace L3
open PySem PySem.Spec PyProof.Rows L2

/-! ### the mathematics of products -/
theorem mem_joins {p : PI2} {a b : List PI2} : p ∈ joins a b ↔ ∃ y, (p.1, y) ∈ a ∧ (y, p.2) ∈ b := by
  unfold joins
  rw [List.mem_flatMap]
  constructor
  · rintro ⟨q, hq, h⟩
    obtain ⟨r, hr, rfl⟩ := List.mem_map.mp h
    obtain ⟨h1, h2⟩ := List.mem_filter.mp hr
    have h2 : r.1 = q.2 := of_decide_eq_true h2
    exact ⟨q.2, hq, by rw [← h2]; exact h1⟩
  · rintro ⟨y, h1, h2⟩
    exact ⟨(p.1, y), h1, List.mem_map.mpr ⟨(y, p.2), List.mem_filter.mpr ⟨h2, by simp⟩, rfl⟩⟩
theorem joins_len (b : List PI2) : ∀ a : List PI2, (joins a b).length ≤ a.length * b.length
  | [] => by simp [joins]
  | p :: a => by
    have ih := joins_len b a
    have fl := List.length_filter_le (fun q : PI2 => decide (q.1 = p.2)) b
    unfold joins at ih ⊢
    rw [List.flatMap_cons, List.length_append, List.length_map, List.length_cons, Nat.add_mul]
    omega
theorem joins_fit {a b : List PI2} {n m : Nat} (ha : a.length ≤ n) (hb : b.length ≤ m) (h : n * m ≤ 9987) : fitD ((joins a b).map prD) = true := by
  refine fitD_pr (Nat.le_trans (joins_len b a) (Nat.le_trans (Nat.mul_le_mul ha hb) h))
theorem mem_swap {p : PI2} {l : List PI2} : p ∈ l.map swapP ↔ (p.2, p.1) ∈ l := by
  rw [List.mem_map]
  constructor
  · rintro ⟨q, hq, rfl⟩; exact hq
  · exact fun h => ⟨(p.2, p.1), h, rfl⟩
theorem swap_nodup {l : List PI2} (h : l.Nodup) : (l.map swapP).Nodup := List.pairwise_map.mpr (h.imp fun {a b} hne e => hne (by
  have e1 : a.2 = b.2 := congrArg Prod.fst e
  have e2 : a.1 = b.1 := congrArg Prod.snd e
  exact Prod.ext e2 e1))
theorem turned_canon {l : List PI2} (h : Asc l) : sortP (l.map swapP) = canon (l.map swapP) := sortP_nodup (swap_nodup (asc_nodup h))
theorem prod_turned (a b : List PI2) : canon (joins (canon (b.map swapP)) (canon (a.map swapP))) = canon ((canon (joins a b)).map swapP) := canon_ext fun p => by
  rw [mem_joins, mem_swap, mem_canon, mem_joins]
  constructor
  · rintro ⟨y, h1, h2⟩
    exact ⟨y, mem_swap.mp (mem_canon.mp h2), mem_swap.mp (mem_canon.mp h1)⟩
  · rintro ⟨y, h1, h2⟩
    exact ⟨y, mem_canon.mpr (mem_swap.mpr h2), mem_canon.mpr (mem_swap.mpr h1)⟩
theorem prod_assoc (a b c : List PI2) : canon (joins (canon (joins a b)) c) = canon (joins a (canon (joins b c))) := canon_ext fun p => by
  rw [mem_joins, mem_joins]
  constructor
  · rintro ⟨y, h1, h2⟩
    obtain ⟨x, h3, h4⟩ := mem_joins.mp (mem_canon.mp h1)
    exact ⟨x, h3, mem_canon.mpr (mem_joins.mpr ⟨y, h4, h2⟩)⟩
  · rintro ⟨x, h1, h2⟩
    obtain ⟨y, h3, h4⟩ := mem_joins.mp (mem_canon.mp h2)
    exact ⟨y, mem_canon.mpr (mem_joins.mpr ⟨x, h1, h3⟩), h4⟩
def likeP (p : PI2) : PI2 := (p.2, p.2)
theorem prod_like {a : List PI2} (h : Asc a) : canon (joins a (canon (a.map likeP))) = a := canon_asc h fun p => by
  rw [mem_joins]
  constructor
  · rintro ⟨y, h1, h2⟩
    obtain ⟨q, hq, e⟩ := List.mem_map.mp (mem_canon.mp h2)
    have e1 : q.2 = y := congrArg Prod.fst e
    have e2 : q.2 = p.2 := by
      have := congrArg Prod.snd e
      exact this
    rw [← e1, e2] at h1
    exact h1
  · intro hp
    exact ⟨p.2, hp, mem_canon.mpr (List.mem_map.mpr ⟨p, hp, rfl⟩)⟩
theorem canon_nil : canon [] = [] := by simp [canon, ddP, sortP]
theorem joins_nil (a : List PI2) : joins a [] = [] := by simp [joins]
theorem small_joins {a b : List PI2} (ha : ∀ p ∈ a, SmallP p) (hb : ∀ p ∈ b, SmallP p) : ∀ p ∈ canon (joins a b), SmallP p := fun p hp => by
  obtain ⟨y, h1, h2⟩ := mem_joins.mp (mem_canon.mp hp)
  exact ⟨(ha _ h1).1, (hb _ h2).2⟩

/-! ### one round of the law -/
theorem prod_at {a b : List PI2} {n m : Nat} (ha : Asc a) (hb : Asc b) (la : a.length ≤ n) (lb : b.length ≤ m) (hn : n ≤ 100) (hm : m ≤ 100) (h : n * m ≤ 9987) (st : Sto) : f_product [relD a, relD b] st = .ok (relD (canon (joins a b))) st :=
  product_ok ha hb (Nat.le_trans la hn) (Nat.le_trans lb hm) (joins_fit la lb h) st
theorem asc_nil : Asc [] := List.Pairwise.nil
theorem right_ok {st : Sto} {k : Nat} (hs : IsStr st k) : ∃ st', f_x_law_right [.ref k] st = .ok (.bl true) st' ∧ Drawn k st st' := by
  obtain ⟨r, s1, r0, r1, e1, d1⟩ := draw_ok (h := 6) hs (by decide) (by decide)
  have hs1 := d1.str hs
  obtain ⟨a, s2, ea, d2, aa, la, sa⟩ := relation_ok (span := 1 + r) hs1 (by omega) (by omega)
  have hs2 := d2.str hs1
  obtain ⟨b, s3, eb, d3, ab, lb, sb⟩ := relation_ok (span := 1 + r) hs2 (by omega) (by omega)
  have hs3 := d3.str hs2
  obtain ⟨c, s4, ec, d4, ac, lc, sc⟩ := relation_ok (span := 1 + r) hs3 (by omega) (by omega)
  have d14 := ((d1.trans d2).trans d3).trans d4
  refine ⟨s4, ?_, d14⟩
  -- what the round computes
  have e16 : ∀ S : Sto, opAdd (.int 1) (.int r) S = .ok (.int (1 + r)) S := fun _ => rfl
  have s_1 : sAsg (mOp opAdd (mC (.int 1)) (mCall 2 f_x_law_draw (mCons (mVar 0) (mCons (mC (.int 6)) mNil)))) (.nm 1) [some (.ref k), none, none, none, none, none, none, none, none, none, none] st = .ok (.nx [some (.ref k), some (.int (1 + r)), none, none, none, none, none, none, none, none, none]) s1 := by
    simp only [sAsg, mOp, mC, mCall, mCons, mNil, mVar, List.getElem?_cons_zero, bind_ok, List.length_cons, List.length_nil, if_true, e1, e16, setT, List.set_cons_succ, List.set_cons_zero]
  have rg3 : rgOk 3 = true := by decide
  have z3 : szOk 3 = true := by decide
  let S : Sto := s4 ++ [.lst [relD a, relD b, relD c]]
  have lcs : lcGo (.nm 5) (fun _ => true) mYes (mCall 3 f_x_law_relation (mCons (mVar 0) (mCons (mC (.int 12)) (mCons (mVar 1) mNil)))) [some (.ref k), some (.int (1 + r)), none, none, none, none, none, none, none, none, none] [.int 0, .int 1, .int 2] s1 = .ok [relD a, relD b, relD c] s4 := by
    simp only [lcGo, if_true, setT, List.set_cons_succ, List.set_cons_zero, mYes, nox_ok, bind_ok, mCall, mCons, mNil, mVar, mC, List.getElem?_cons_succ, List.getElem?_cons_zero, List.length_cons, List.length_nil, ea, eb, ec]
  have at4 : (s4 ++ [Ob.lst [relD a, relD b, relD c]])[s4.length]? = some (.lst [relD a, relD b, relD c]) := at_end _ _
  have s_2 : sUnl (mLc [5] (mRng (mCons (mC (.int 3)) mNil)) (.nm 5) mYes (mCall 3 f_x_law_relation (mCons (mVar 0) (mCons (mC (.int 12)) (mCons (mVar 1) mNil))))) [(.nm 2), (.nm 3), (.nm 4)] [some (.ref k), some (.int (1 + r)), none, none, none, none, none, none, none, none, none] s1 = .ok (.nx [some (.ref k), some (.int (1 + r)), some (relD a), some (relD b), some (relD c), none, none, none, none, none, none]) S := by
    have u3 : upto 0 (3 : Int).toNat = [.int 0, .int 1, .int 2] := rfl
    have wp : wipeE [some (.ref k), some (.int (1 + r)), none, none, none, none, none, none, none, none, none] [5] = [some (.ref k), some (.int (1 + r)), none, none, none, none, none, none, none, none, none] := by simp [wipeE]
    simp only [sUnl, mLc, mRng, mCons, mNil, mC, bind_ok, rngF, rg3, if_true, u3, wp]
    rw [lcs]
    simp only [bind_ok, List.length_cons, List.length_nil, z3, if_true, at4, setTs, setT, List.set_cons_succ, List.set_cons_zero]
    rfl
  generalize hF : canon (joins a b) = F
  have aF : Asc F := by rw [← hF]; exact asc_canon _
  have lF : F.length ≤ 169 := by
    rw [← hF]
    exact Nat.le_trans (canon_len _) (Nat.le_trans (joins_len b a) (Nat.le_trans (Nat.mul_le_mul la lb) (by decide)))
  have sF : ∀ p ∈ F, SmallP p := by rw [← hF]; exact small_joins sa sb
  generalize hB : canon (joins b c) = B
  have aB : Asc B := by rw [← hB]; exact asc_canon _
  have pab : ∀ S, f_product [relD a, relD b] S = .ok (relD F) S := fun S => by rw [← hF]; exact prod_at aa ab la lb (by decide) (by decide) (by decide) S
  have pbc : ∀ S, f_product [relD b, relD c] S = .ok (relD B) S := fun S => by rw [← hB]; exact prod_at ab ac lb lc (by decide) (by decide) (by decide) S
  have qab : ∀ S, f_x_law_product [relD a, relD b] S = .ok (relD F) S := fun S => by
    rw [← hF]
    exact product2_ok (Nat.le_trans (Nat.mul_le_mul (Nat.add_le_add_right la 1) lb) (by decide)) (joins_fit la lb (by decide)) S
  have ta : ∀ S, f_x_law_turned [relD a] S = .ok (relD (canon (a.map swapP))) S := fun S => by rw [← turned_canon aa]; exact turned_ok (by omega) S
  have tb : ∀ S, f_x_law_turned [relD b] S = .ok (relD (canon (b.map swapP))) S := fun S => by rw [← turned_canon ab]; exact turned_ok (by omega) S
  have tF : ∀ S, f_x_law_turned [relD F] S = .ok (relD (canon (F.map swapP))) S := fun S => by rw [← turned_canon aF]; exact turned_ok (by omega) S
  have pt : ∀ S, f_product [relD (canon (b.map swapP)), relD (canon (a.map swapP))] S = .ok (relD (canon (F.map swapP))) S := fun S => by
    rw [← hF, ← prod_turned]
    exact prod_at (asc_canon _) (asc_canon _) (n := 13) (m := 13) (Nat.le_trans (canon_len _) (by simpa using lb)) (Nat.le_trans (canon_len _) (by simpa using la)) (by decide) (by decide) (by decide) S
  obtain ⟨x, hx⟩ := cRepr_rel sF (by omega)
  let env3 : En := [some (.ref k), some (.int (1 + r)), some (relD a), some (relD b), some (relD c), none, some (relD F), none, none, none, none]
  have s_3 : sAsg (mCall 2 f_product (mCons (mVar 2) (mCons (mVar 3) mNil))) (.nm 6) [some (.ref k), some (.int (1 + r)), some (relD a), some (relD b), some (relD c), none, none, none, none, none, none] S = .ok (.nx env3) S := by
    simp only [sAsg, mCall, mCons, mNil, mVar, List.getElem?_cons_succ, List.getElem?_cons_zero, bind_ok, List.length_cons, List.length_nil, if_true, pab, setT, List.set_cons_succ, List.set_cons_zero]
    rfl
  have s_4 : sIf (mOr (mB (mOp (opEq true) (mVar 6) (mCall 2 f_x_law_product (mCons (mVar 2) (mCons (mVar 3) mNil))))) (mB (mOp (opEq true) (mF cRepr (mCons (mVar 6) mNil)) (mF cRepr (mCons (mCall 2 f_x_law_product (mCons (mVar 2) (mCons (mVar 3) mNil))) mNil))))) (sRet (mC (.bl false))) sNil env3 S = .ok (.nx env3) S := by
    simp only [env3, sIf, mOr, mB, mOp, mF, mCall, mCons, mNil, mVar, List.getElem?_cons_succ, List.getElem?_cons_zero, bind_ok, List.length_cons, List.length_nil, if_true, qab, opEq_rel, hx, opEq_str, Bool.not_true, Bool.false_eq_true, if_false, decide_true, Bool.true_bne, sNil]
  have s_5 : sIf (mB (mOp (opEq true) (mCall 2 f_product (mCons (mCall 1 f_x_law_turned (mCons (mVar 3) mNil)) (mCons (mCall 1 f_x_law_turned (mCons (mVar 2) mNil)) mNil))) (mCall 1 f_x_law_turned (mCons (mVar 6) mNil)))) (sRet (mC (.bl false))) sNil env3 S = .ok (.nx env3) S := by
    simp only [env3, sIf, mB, mOp, mCall, mCons, mNil, mVar, List.getElem?_cons_succ, List.getElem?_cons_zero, bind_ok, List.length_cons, List.length_nil, if_true, ta, tb, tF, pt, opEq_rel, Bool.not_true, Bool.false_eq_true, if_false, sNil]
  let env6 : En := [some (.ref k), some (.int (1 + r)), some (relD a), some (relD b), some (relD c), none, some (relD F), some (relD B), none, none, none]
  have s_6 : sAsg (mCall 2 f_product (mCons (mVar 3) (mCons (mVar 4) mNil))) (.nm 7) env3 S = .ok (.nx env6) S := by
    simp only [env3, sAsg, mCall, mCons, mNil, mVar, List.getElem?_cons_succ, List.getElem?_cons_zero, bind_ok, List.length_cons, List.length_nil, if_true, pbc, setT, List.set_cons_succ, List.set_cons_zero]
    rfl
  have s_7 : sIf (mAnd (mB (mOp opLe (mF cLen (mCons (mVar 6) mNil)) (mC (.int 100)))) (mAnd (mB (mOp opLe (mF cLen (mCons (mVar 7) mNil)) (mC (.int 100)))) (mB (mOp (opEq true) (mCall 2 f_product (mCons (mVar 6) (mCons (mVar 4) mNil))) (mCall 2 f_product (mCons (mVar 2) (mCons (mVar 7) mNil))))))) (sRet (mC (.bl false))) sNil env6 S = .ok (.nx env6) S := by
    by_cases c1 : (F.length : Int) ≤ 100
    · by_cases c2 : (B.length : Int) ≤ 100
      · have p1 : ∀ S, f_product [relD F, relD c] S = .ok (relD (canon (joins F c))) S := fun S => prod_at aF ac (n := 100) (m := 13) (by omega) lc (by decide) (by decide) (by decide) S
        have p2 : ∀ S, f_product [relD a, relD B] S = .ok (relD (canon (joins F c))) S := fun S => by
          rw [← hF, prod_assoc, hB]
          exact prod_at aa aB (n := 13) (m := 100) la (by omega) (by decide) (by decide) (by decide) S
        simp only [env6, sIf, mAnd, mB, mOp, mF, mC, mCall, mCons, mNil, mVar, List.getElem?_cons_succ, List.getElem?_cons_zero, bind_ok, List.length_cons, List.length_nil, if_true, cLen_rel, opLe, decide_eq_true c1, decide_eq_true c2, p1, p2, opEq_rel, Bool.not_true, Bool.false_eq_true, if_false, sNil]
      · simp only [env6, sIf, mAnd, mB, mOp, mF, mC, mCall, mCons, mNil, mVar, List.getElem?_cons_succ, List.getElem?_cons_zero, bind_ok, if_true, cLen_rel, opLe, decide_eq_true c1, decide_eq_false c2, Bool.false_eq_true, if_false, sNil]
    · simp only [env6, sIf, mAnd, mB, mOp, mF, mC, mCall, mCons, mNil, mVar, List.getElem?_cons_succ, List.getElem?_cons_zero, bind_ok, cLen_rel, opLe, decide_eq_false c1, Bool.false_eq_true, if_false, sNil]
  -- alike
  generalize hL : canon (a.map likeP) = L
  have aL : Asc L := by rw [← hL]; exact asc_canon _
  have lL : L.length ≤ 13 := by rw [← hL]; exact Nat.le_trans (canon_len _) (by simpa using la)
  let env8 : En := [some (.ref k), some (.int (1 + r)), some (relD a), some (relD b), some (relD c), none, some (relD F), some (relD B), some (relD L), none, none]
  have s_8 : ∃ g, sAsg (mF cTuple (mCons (mF cSorted (mCons (mF cSet (mCons (mLc [9, 10] (mIter (mVar 2)) (.tp [(.nm 9), (.nm 10)]) mYes (mTup (mCons (mVar 10) (mCons (mVar 10) mNil)))) mNil)) mNil)) mNil)) (.nm 8) env6 S = .ok (.nx env8) (S ++ g) := by
    let Fn : D → D := fun d => match d with | .tup [_, y] => .tup [y, y] | _ => .non
    have lg := lcGo_pure (t := .tp [.nm 9, .nm 10]) (ok := fun _ => true) (e := mTup (mCons (mVar 10) (mCons (mVar 10) mNil))) (env := env6) (st := S) Fn rfl (xs := a.map prD) fun y hy => by
      obtain ⟨q, _, rfl⟩ := List.mem_map.mp hy
      exact ⟨[some (.ref k), some (.int (1 + r)), some (relD a), some (relD b), some (relD c), none, some (relD F), some (relD B), none, some (.int q.1), some (.int q.2)], by simp [env6, setT, setTs, prD], by simp [prD, Fn, szOk]⟩
    have e2 : (a.map prD).map Fn = (a.map likeP).map prD := by rw [List.map_map, List.map_map]; rfl
    rw [e2] at lg
    have z1 : szOk ((a.map likeP).map prD).length = true := by simp [szOk]; omega
    have fin := tss_ok (st := S ++ [.lst ((a.map likeP).map prD)]) (k := S.length) (l := a.map likeP) (fitD_pr (by simp; omega)) (at_end _ _)
    have it : iterF (relD a) S = .ok (a.map prD, fun _ => true) S := rfl
    have wp : wipeE env6 [9, 10] = env6 := by simp [env6, wipeE]
    refine ⟨[.lst ((a.map likeP).map prD)] ++ [.set (dedupD [] ((a.map likeP).map prD))] ++ [.lst ((canon (a.map likeP)).map prD)], ?_⟩
    have v2 : mVar 2 env6 S = .ok (relD a) S := rfl
    have lc2 : mLc [9, 10] (mIter (mVar 2)) (.tp [(.nm 9), (.nm 10)]) mYes (mTup (mCons (mVar 10) (mCons (mVar 10) mNil))) env6 S = .ok (.ref S.length) (S ++ [.lst ((a.map likeP).map prD)]) := by
      simp only [mLc, mIter, v2, bind_ok, it, wp]
      rw [lg]
      simp only [bind_ok, z1, if_true]
    have q : (mF cTuple (mCons (mF cSorted (mCons (mF cSet (mCons (mLc [9, 10] (mIter (mVar 2)) (.tp [(.nm 9), (.nm 10)]) mYes (mTup (mCons (mVar 10) (mCons (mVar 10) mNil)))) mNil)) mNil)) mNil)) env6 S = .ok (relD L) (S ++ ([.lst ((a.map likeP).map prD)] ++ [.set (dedupD [] ((a.map likeP).map prD))] ++ [.lst ((canon (a.map likeP)).map prD)])) := by
      simp only [mF, mCons, mNil, lc2, bind_ok]
      simp only [R.bind_bind, bind_ok] at fin ⊢
      rw [fin, hL]
      simp
    simp only [sAsg, q, bind_ok, setT]
    rfl
  obtain ⟨g, s_8⟩ := s_8
  have pl : ∀ S, f_product [relD a, relD L] S = .ok (relD a) S := fun S => by
    have h := prod_at aa aL (n := 13) (m := 13) la lL (by decide) (by decide) (by decide) S
    rw [← hL, prod_like aa] at h
    rw [← hL]; exact h
  have p0 : ∀ S, f_product [relD a, relD []] S = .ok (relD []) S := fun S => by
    have h := prod_at aa asc_nil (n := 13) (m := 0) la (Nat.le_refl _) (by decide) (by decide) (by decide) S
    rwa [joins_nil, canon_nil] at h
  have p1 : ∀ S, f_product [relD [], relD b] S = .ok (relD []) S := fun S => by
    have h := prod_at asc_nil ab (n := 0) (m := 13) (Nat.le_refl _) lb (by decide) (by decide) (by decide) S
    rwa [show joins [] b = [] from rfl, canon_nil] at h
  have tn : ∀ S, (mTup mNil) env8 S = .ok (relD []) S := fun S => rfl
  have s_9 : sRet (mAndV (mOp (opEq false) (mCall 2 f_product (mCons (mVar 2) (mCons (mVar 8) mNil))) (mVar 2)) (mAndV (mOp (opEq false) (mCall 2 f_product (mCons (mVar 2) (mCons (mTup mNil) mNil))) (mTup mNil)) (mOp (opEq false) (mCall 2 f_product (mCons (mTup mNil) (mCons (mVar 3) mNil))) (mTup mNil)))) env8 (S ++ g) = .ok (.rt (.bl true)) (S ++ g) := by
    have v2 : ∀ S, mVar 2 env8 S = .ok (relD a) S := fun _ => rfl
    have v3 : ∀ S, mVar 3 env8 S = .ok (relD b) S := fun _ => rfl
    have v8 : ∀ S, mVar 8 env8 S = .ok (relD L) S := fun _ => rfl
    simp only [sRet, mAndV, mOp, mCall, mCons, mNil, v2, v3, v8, tn, bind_ok, List.length_cons, List.length_nil, if_true, pl, p0, p1, opEq_rel, Bool.not_false]
  unfold f_x_law_right defF b_x_law_right
  simp only [List.map_cons, List.map_nil, List.length_cons, List.length_nil, List.replicate, List.cons_append, List.nil_append]
  rw [seq_nx s_1, seq_nx s_2, seq_nx s_3, seq_nx s_4, seq_nx s_5, seq_nx s_6, seq_nx s_7, seq_nx s_8, s_9]
  show gc st (.bl true) (s4 ++ [Ob.lst [relD a, relD b, relD c]] ++ g) = .ok (.bl true) s4
  rw [List.append_assoc]
  exact d14.gc (by simp [blw])
end L3
namespace L3
open PySem PySem.Spec PyProof.Rows L2

/-! ### the written cases -/
def chainP : List PI2 → Bool
  | p :: q :: r => decide (ltP p q) && chainP (q :: r)
  | _ => true
theorem ltP_trans {p q r : PI2} (h1 : ltP p q) (h2 : ltP q r) : ltP p r := by
  unfold ltP at *
  omega
theorem asc_chain : ∀ {l : List PI2}, chainP l = true → Asc l
  | [], _ => List.Pairwise.nil
  | [p], _ => List.Pairwise.cons (fun _ h => nomatch h) List.Pairwise.nil
  | p :: q :: r, h => by
    rw [chainP, Bool.and_eq_true, decide_eq_true_eq] at h
    have ih := asc_chain h.2
    refine List.pairwise_cons.mpr ⟨fun x hx => ?_, ih⟩
    rcases List.mem_cons.mp hx with e | hx
    · rw [e]; exact h.1
    · exact ltP_trans h.1 ((List.pairwise_cons.mp ih).1 x hx)
def wideL : List PI2 := (List.range 100).map fun (i : Nat) => ((0 + (i : Int)).fdiv 10, (0 + (i : Int)).fmod 10)
def fanL : List PI2 := (List.range 100).map fun (i : Nat) => (0 + (i : Int), 7)
def backL : List PI2 := (List.range 100).map fun (i : Nat) => (7, -50 + (i : Int))
theorem wide_asc : Asc wideL := asc_chain (by decide +kernel)
theorem fan_asc : Asc fanL := asc_chain (by decide +kernel)
theorem back_asc : Asc backL := asc_chain (by decide +kernel)
theorem wide_1 : ((joins wideL wideL).all fun p => wideL.contains p) = true := by decide +kernel
theorem wide_2 : (wideL.all fun p => (joins wideL wideL).contains p) = true := by decide +kernel
theorem wide_prod : canon (joins wideL wideL) = wideL := canon_asc wide_asc fun p =>
  ⟨fun h => List.contains_iff_mem.mp (List.all_eq_true.mp wide_1 p h), fun h => List.contains_iff_mem.mp (List.all_eq_true.mp wide_2 p h)⟩
theorem wide_len : wideL.length = 100 := by decide +kernel
theorem fan_len : fanL.length = 100 := by decide +kernel
theorem back_len : backL.length = 100 := by decide +kernel
theorem fb_asc : Asc (joins fanL backL) := asc_chain (by decide +kernel)
theorem fb_len : (joins fanL backL).length = 10000 := by decide +kernel
theorem fb_two : (joins fanL backL).take 2 = [(0, -50), (0, -49)] := by decide +kernel
theorem fb_canon : canon (joins fanL backL) = joins fanL backL := canon_asc fb_asc fun _ => Iff.rfl
theorem fb_spread : spread ((joins fanL backL).map fun p => NestedKey.tup [.num p.1, .num p.2]) = true := by decide +kernel
theorem fb_fit : fitD ((joins fanL backL).map prD) = true := by
  unfold fitD
  rw [Bool.and_eq_true, Bool.or_eq_true, Bool.and_eq_true, decide_eq_true_eq, decide_eq_true_eq]
  refine ⟨List.all_eq_true.mpr fun d hd => ?_, .inr ⟨by rw [List.length_map, fb_len]; exact Nat.le_refl _, ?_⟩⟩
  · obtain ⟨p, _, rfl⟩ := List.mem_map.mp hd
    rw [key8_pr]; rfl
  · rw [List.map_map]
    have e : keyOfD ∘ prD = fun p : PI2 => NestedKey.tup [.num p.1, .num p.2] := by
      funext p
      show keyOfD (prD p) = _
      unfold keyOfD
      rw [key8_pr]; rfl
    rw [e]
    exact fb_spread
theorem bf_1 : ((joins backL fanL).all fun p => decide (p = (7, 7))) = true := by decide +kernel
theorem bf_2 : (joins backL fanL).contains (7, 7) = true := by decide +kernel
theorem bf_prod : canon (joins backL fanL) = [(7, 7)] := canon_asc (List.Pairwise.cons (fun _ h => nomatch h) List.Pairwise.nil) fun p =>
  ⟨fun h => by rw [of_decide_eq_true (List.all_eq_true.mp bf_1 p h)]; exact List.mem_cons_self, fun h => by rw [List.mem_singleton.mp h]; exact List.contains_iff_mem.mp bf_2⟩
theorem bf_fit : fitD ((joins backL fanL).map prD) = true := fitD_pr (by decide +kernel)
theorem wide_fit : fitD ((joins wideL wideL).map prD) = true := fitD_pr (by decide +kernel)
end L3
namespace L3
open PySem PySem.Spec PyProof.Rows L2

theorem upto_map : ∀ (n : Nat) (lo : Int), upto lo n = (List.range n).map fun (i : Nat) => D.int (lo + (i : Int))
  | 0, _ => rfl
  | n + 1, lo => by
    rw [upto, upto_map n (lo + 1), List.range_succ_eq_map, List.map_cons, List.map_map]
    congr 1
    · simp
    · refine List.map_congr_left fun i _ => ?_
      show D.int _ = D.int _
      congr 1
      simp only [Nat.succ_eq_add_one, Int.natCast_add, Int.natCast_one]
      omega
theorem tuple_end {st : Sto} {l : List PI2} : cTuple [.ref st.length] (st ++ [.lst (l.map prD)]) = .ok (relD l) (st ++ [.lst (l.map prD)]) := by
  have h := itemsD_ref (at_end st (.lst (l.map prD)))
  simp only [cTuple, h]
  rfl
/-- tuple([a pair for i in a range]) -/
theorem tup_lc {st : Sto} {env : En} {v : Nat} {m : Mo Src} {e : Mo D} {lo : Int} (f : Nat → PI2) (hw : wipeE env [v] = env) (hm : m env st = .ok (upto lo 100, fun _ => true) st) (he : ∀ i : Nat, e (env.set v (some (.int (lo + (i : Int))))) st = .ok (prD (f i)) st) :
    (mF cTuple (mCons (mLc [v] m (.nm v) mYes e) mNil)) env st = .ok (relD ((List.range 100).map f)) (st ++ [.lst (((List.range 100).map f).map prD)]) := by
  let F : D → D := fun d => match d with | .int z => prD (f (z - lo).toNat) | _ => .non
  have lc := lcGo_pure (t := .nm v) (ok := fun _ => true) (e := e) (env := env) (st := st) F rfl (xs := upto lo 100) fun x hx => by
    rw [upto_map] at hx
    obtain ⟨i, _, rfl⟩ := List.mem_map.mp hx
    refine ⟨env.set v (some (.int (lo + (i : Int)))), by simp [setT], ?_⟩
    rw [he i]
    show R.ok (prD (f i)) st = R.ok (prD (f (lo + (i : Int) - lo).toNat)) st
    rw [show (lo + (i : Int) - lo).toNat = i by omega]
  have e1 : (upto lo 100).map F = ((List.range 100).map f).map prD := by
    rw [upto_map, List.map_map, List.map_map]
    refine List.map_congr_left fun i _ => ?_
    show prD (f (lo + (i : Int) - lo).toNat) = prD (f i)
    rw [show (lo + (i : Int) - lo).toNat = i by omega]
  rw [e1] at lc
  have z1 : szOk (((List.range 100).map f).map prD).length = true := by simp [szOk]
  simp only [mF, mCons, mNil, mLc, hm, bind_ok, hw]
  rw [lc]
  simp only [bind_ok, z1, if_true, tuple_end]
theorem rngF_100 (st : Sto) : rngF [.int 100] st = .ok (upto 0 100, fun _ => true) st := by
  have h : rgOk 100 = true := by decide
  simp only [rngF, h, if_true]
  rfl
theorem rngF_50 (st : Sto) : rngF [.int (-50), .int 50] st = .ok (upto (-50) 100, fun _ => true) st := by
  have h1 : rgOk (-50) = true := by decide
  have h2 : rgOk 50 = true := by decide
  simp only [rngF, h1, h2, Bool.and_self, if_true]
  rfl
theorem pow40 (st : Sto) : opPow (.int 10) (.int 40) st = .ok (.int (10 ^ 40)) st := by
  have h : powOk 10 40 = true := by decide +kernel
  simp only [opPow, h, if_true]
  rfl
theorem cut_two (l : List PI2) : opSl (relD l) none (some 2) = fun st => .ok (relD (l.take 2)) st := by
  funext st
  have e : cutD (l.map prD) none (some 2) = (l.take 2).map prD := by
    unfold cutD
    rw [HT.sIx_none, show HT.sIx (l.map prD).length (l.map prD).length (some 2) = min 2 (l.map prD).length from HT.sIx_nat _ _ 2]
    simp only [List.drop_zero, Nat.sub_zero]
    rw [← List.map_take]
    congr 1
    rw [List.length_map]
    rcases Nat.le_total 2 l.length with h | h
    · rw [Nat.min_eq_left h]
    · rw [Nat.min_eq_right h, List.take_length, List.take_of_length_le h]
  show R.ok (D.tup (cutD (l.map prD) none (some 2))) st = _
  rw [e]
  rfl
theorem asc_one (p : PI2) : Asc [p] := List.Pairwise.cons (fun _ h => nomatch h) List.Pairwise.nil
theorem one_prod (x y z : Int) : canon (joins [(x, y)] [(y, z)]) = [(x, z)] := by
  have e : joins [(x, y)] [(y, z)] = [(x, z)] := by simp [joins]
  rw [e]
  exact canon_asc (asc_one _) fun _ => Iff.rfl
theorem written_ok (st : Sto) : f_x_law_written_right [] st = .ok (.bl true) st := by
  have z2 : szOk 2 = true := by decide
  have z1 : szOk 1 = true := by decide
  have z0 : szOk 0 = true := by decide
  have d10 : divOk 10 = true := by decide
  have w1 : wipeE [none, none, none, none, none, none, none] [1] = [none, none, none, none, none, none, none] := rfl
  have c_1 := tup_lc (st := st) (env := [none, none, none, none, none, none, none]) (v := 1) (m := mRng (mCons (mC (.int 100)) mNil)) (e := mTup (mCons (mOp opDiv (mF cInt (mCons (mVar 1) mNil)) (mC (.int 10))) (mCons (mOp opMod (mF cInt (mCons (mVar 1) mNil)) (mC (.int 10))) mNil))) (lo := 0) (fun i => ((0 + (i : Int)).fdiv 10, (0 + (i : Int)).fmod 10)) w1
    (by simp only [mRng, mCons, mNil, mC, bind_ok, rngF_100]) fun i => by
      simp only [mTup, mCons, mNil, mOp, mF, mC, mVar, List.set_cons_succ, List.set_cons_zero, List.getElem?_cons_succ, List.getElem?_cons_zero, bind_ok, cInt, opDiv, d10, if_true, opMod, ne_eq, show ¬ ((10 : Int) = 0) by decide, not_false_eq_true, List.length_cons, List.length_nil, z2]
      rfl
  rw [show (List.range 100).map (fun i : Nat => ((0 + (i : Int)).fdiv 10, (0 + (i : Int)).fmod 10)) = wideL from rfl] at c_1
  let S1 : Sto := st ++ [.lst (wideL.map prD)]
  have s_1 : sAsg (mF cTuple (mCons (mLc [1] (mRng (mCons (mC (.int 100)) mNil)) (.nm 1) mYes (mTup (mCons (mOp opDiv (mF cInt (mCons (mVar 1) mNil)) (mC (.int 10))) (mCons (mOp opMod (mF cInt (mCons (mVar 1) mNil)) (mC (.int 10))) mNil)))) mNil)) (.nm 0) [none, none, none, none, none, none, none] st = .ok (.nx [some (relD wideL), none, none, none, none, none, none]) S1 := by
    simp only [sAsg, c_1, bind_ok, setT, List.set_cons_zero]
    rfl
  have c_2 := tup_lc (st := S1) (env := [some (relD wideL), none, none, none, none, none, none]) (v := 4) (m := mRng (mCons (mC (.int 100)) mNil)) (e := mTup (mCons (mVar 4) (mCons (mC (.int 7)) mNil))) (lo := 0) (fun i => (0 + (i : Int), 7)) rfl
    (by simp only [mRng, mCons, mNil, mC, bind_ok, rngF_100]) fun i => by
      simp only [mTup, mCons, mNil, mC, mVar, List.set_cons_succ, List.set_cons_zero, List.getElem?_cons_succ, List.getElem?_cons_zero, bind_ok, List.length_cons, List.length_nil, z2, if_true]
      rfl
  rw [show (List.range 100).map (fun i : Nat => ((0 + (i : Int), 7) : PI2)) = fanL from rfl] at c_2
  let S2 : Sto := S1 ++ [.lst (fanL.map prD)]
  have c_3 := tup_lc (st := S2) (env := [some (relD wideL), none, none, none, none, none, none]) (v := 5) (m := mRng (mCons (mUn opNeg (mC (.int 50))) (mCons (mC (.int 50)) mNil))) (e := mTup (mCons (mC (.int 7)) (mCons (mVar 5) mNil))) (lo := -50) (fun i => (7, -50 + (i : Int))) rfl
    (by simp only [mRng, mUn, opNeg, mCons, mNil, mC, bind_ok, rngF_50]) fun i => by
      simp only [mTup, mCons, mNil, mC, mVar, List.set_cons_succ, List.set_cons_zero, List.getElem?_cons_succ, List.getElem?_cons_zero, bind_ok, List.length_cons, List.length_nil, z2, if_true]
      rfl
  rw [show (List.range 100).map (fun i : Nat => ((7, -50 + (i : Int)) : PI2)) = backL from rfl] at c_3
  let S3 : Sto := S2 ++ [.lst (backL.map prD)]
  let env2 : En := [some (relD wideL), none, some (relD fanL), some (relD backL), none, none, none]
  have s_2 : sPar 2 3 (mCons (mF cTuple (mCons (mLc [4] (mRng (mCons (mC (.int 100)) mNil)) (.nm 4) mYes (mTup (mCons (mVar 4) (mCons (mC (.int 7)) mNil)))) mNil)) (mCons (mF cTuple (mCons (mLc [5] (mRng (mCons (mUn opNeg (mC (.int 50))) (mCons (mC (.int 50)) mNil))) (.nm 5) mYes (mTup (mCons (mC (.int 7)) (mCons (mVar 5) mNil)))) mNil)) mNil)) [some (relD wideL), none, none, none, none, none, none] S1 = .ok (.nx env2) S3 := by
    have q : ∀ (m1 m2 : Mo D) (env : En) (S S' S'' : Sto) (d1 d2 : D), m1 env S = .ok d1 S' → m2 env S' = .ok d2 S'' → sPar 2 3 (mCons m1 (mCons m2 mNil)) env S = .ok (.nx ((env.set 2 (some d1)).set 3 (some d2))) S'' := fun m1 m2 env S S' S'' d1 d2 h1 h2 => by
      simp only [sPar, mCons, mNil, h1, h2, bind_ok]
    rw [q _ _ _ _ _ _ _ _ c_2 c_3]
    rfl
  have hw : ∀ S, f_product [relD wideL, relD wideL] S = .ok (relD wideL) S := fun S => by
    have h := product_ok wide_asc wide_asc (by rw [wide_len]; decide) (by rw [wide_len]; decide) wide_fit S
    rwa [wide_prod] at h
  have hfb : ∀ S, f_product [relD fanL, relD backL] S = .ok (relD (joins fanL backL)) S := fun S => by
    have h := product_ok fan_asc back_asc (by rw [fan_len]; decide) (by rw [back_len]; decide) fb_fit S
    rwa [fb_canon] at h
  have hbf : ∀ S, f_product [relD backL, relD fanL] S = .ok (relD [(7, 7)]) S := fun S => by
    have h := product_ok back_asc fan_asc (by rw [back_len]; decide) (by rw [fan_len]; decide) bf_fit S
    rwa [bf_prod] at h
  have opi : ∀ (i j : Int) (S : Sto), opEq true (.int i) (.int j) S = .ok (.bl (true ^^ decide (i = j))) S := fun _ _ _ => rfl
  have v0 : ∀ S, mVar 0 env2 S = .ok (relD wideL) S := fun _ => rfl
  have v2 : ∀ S, mVar 2 env2 S = .ok (relD fanL) S := fun _ => rfl
  have v3 : ∀ S, mVar 3 env2 S = .ok (relD backL) S := fun _ => rfl
  have lenE : decide (((joins fanL backL).length : Int) = 10000) = true := by rw [fb_len]; rfl
  have s_3 : sIf (mOr (mB (mOp (opEq true) (mCall 2 f_product (mCons (mVar 0) (mCons (mVar 0) mNil))) (mVar 0))) (mB (mOp (opEq true) (mF cLen (mCons (mCall 2 f_product (mCons (mVar 2) (mCons (mVar 3) mNil))) mNil)) (mC (.int 10000))))) (sRet (mC (.bl false))) sNil env2 S3 = .ok (.nx env2) S3 := by
    simp only [sIf, mOr, mB, mOp, mF, mC, mCall, mCons, mNil, v0, v2, v3, bind_ok, List.length_cons, List.length_nil, if_true, hw, hfb, opEq_rel, cLen_rel, opi, lenE, Bool.not_true, Bool.true_bne, Bool.false_eq_true, if_false, sNil]
  have t22 : (mTup (mCons (mTup (mCons (mC (.int 0)) (mCons (mUn opNeg (mC (.int 50))) mNil))) (mCons (mTup (mCons (mC (.int 0)) (mCons (mUn opNeg (mC (.int 49))) mNil))) mNil))) env2 S3 = .ok (relD [(0, -50), (0, -49)]) S3 := rfl
  have t77 : (mTup (mCons (mTup (mCons (mC (.int 7)) (mCons (mC (.int 7)) mNil))) mNil)) env2 S3 = .ok (relD [(7, 7)]) S3 := rfl
  have sl2 : (mSl opSl (mCall 2 f_product (mCons (mVar 2) (mCons (mVar 3) mNil))) mNoPart (mPart (mC (.int 2)))) env2 S3 = .ok (relD [(0, -50), (0, -49)]) S3 := by
    simp only [mSl, mCall, mCons, mNil, mC, v2, v3, bind_ok, List.length_cons, List.length_nil, if_true, hfb, mNoPart, mPart, cut_two, fb_two]
  have s_4 : sIf (mOr (mB (mOp (opEq true) (mSl opSl (mCall 2 f_product (mCons (mVar 2) (mCons (mVar 3) mNil))) mNoPart (mPart (mC (.int 2)))) (mTup (mCons (mTup (mCons (mC (.int 0)) (mCons (mUn opNeg (mC (.int 50))) mNil))) (mCons (mTup (mCons (mC (.int 0)) (mCons (mUn opNeg (mC (.int 49))) mNil))) mNil))))) (mB (mOp (opEq true) (mCall 2 f_product (mCons (mVar 3) (mCons (mVar 2) mNil))) (mTup (mCons (mTup (mCons (mC (.int 7)) (mCons (mC (.int 7)) mNil))) mNil))))) (sRet (mC (.bl false))) sNil env2 S3 = .ok (.nx env2) S3 := by
    have q1 : (mB (mOp (opEq true) (mSl opSl (mCall 2 f_product (mCons (mVar 2) (mCons (mVar 3) mNil))) mNoPart (mPart (mC (.int 2)))) (mTup (mCons (mTup (mCons (mC (.int 0)) (mCons (mUn opNeg (mC (.int 50))) mNil))) (mCons (mTup (mCons (mC (.int 0)) (mCons (mUn opNeg (mC (.int 49))) mNil))) mNil))))) env2 S3 = .ok false S3 := by
      rw [mB, mOp, sl2, bind_ok, t22, bind_ok, opEq_rel]
      rfl
    have q2 : (mB (mOp (opEq true) (mCall 2 f_product (mCons (mVar 3) (mCons (mVar 2) mNil))) (mTup (mCons (mTup (mCons (mC (.int 7)) (mCons (mC (.int 7)) mNil))) mNil)))) env2 S3 = .ok false S3 := by
      have c : (mCall 2 f_product (mCons (mVar 3) (mCons (mVar 2) mNil))) env2 S3 = .ok (relD [(7, 7)]) S3 := by
        simp only [mCall, mCons, mNil, v2, v3, bind_ok, List.length_cons, List.length_nil, if_true, hbf]
      rw [mB, mOp, c, bind_ok, t77, bind_ok, opEq_rel]
      rfl
    rw [sIf, mOr, q1, bind_ok, if_neg Bool.false_ne_true, q2, bind_ok, if_neg Bool.false_ne_true]
    rfl
  generalize hgr : (10 : Int) ^ 40 - 1 = gr
  let env5 : En := [some (relD wideL), none, some (relD fanL), some (relD backL), none, none, some (.int gr)]
  have s_5 : sAsg (mOp opSub (mOp opPow (mC (.int 10)) (mC (.int 40))) (mC (.int 1))) (.nm 6) env2 S3 = .ok (.nx env5) S3 := by
    simp only [sAsg, mOp, mC, bind_ok, pow40, opSub, hgr, setT]
    rfl
  have tg1 : (mTup (mCons (mTup (mCons (mVar 6) (mCons (mOp opSub (mC (.int 0)) (mVar 6)) mNil))) mNil)) env5 S3 = .ok (relD [(gr, 0 - gr)]) S3 := rfl
  have tg2 : (mTup (mCons (mTup (mCons (mOp opSub (mC (.int 0)) (mVar 6)) (mCons (mVar 6) mNil))) mNil)) env5 S3 = .ok (relD [(0 - gr, gr)]) S3 := rfl
  have tg3 : (mTup (mCons (mTup (mCons (mVar 6) (mCons (mVar 6) mNil))) mNil)) env5 S3 = .ok (relD [(gr, gr)]) S3 := rfl
  have tg0 : (mTup mNil) env5 S3 = .ok (relD []) S3 := rfl
  have hg : f_product [relD [(gr, 0 - gr)], relD [(0 - gr, gr)]] S3 = .ok (relD [(gr, gr)]) S3 := by
    have h := prod_at (asc_one (gr, 0 - gr)) (asc_one (0 - gr, gr)) (n := 1) (m := 1) (Nat.le_refl _) (Nat.le_refl _) (by decide) (by decide) (by decide) S3
    rwa [one_prod] at h
  have h0 : f_product [relD [], relD []] S3 = .ok (relD []) S3 := by
    have h := prod_at asc_nil asc_nil (n := 0) (m := 0) (Nat.le_refl _) (Nat.le_refl _) (by decide) (by decide) (by decide) S3
    rwa [joins_nil, canon_nil] at h
  have call2 : ∀ (m1 m2 : Mo D) (d1 d2 d : D), m1 env5 S3 = .ok d1 S3 → m2 env5 S3 = .ok d2 S3 → f_product [d1, d2] S3 = .ok d S3 → (mCall 2 f_product (mCons m1 (mCons m2 mNil))) env5 S3 = .ok d S3 := fun m1 m2 d1 d2 d h1 h2 h => by
    simp only [mCall, mCons, mNil, h1, h2, bind_ok, List.length_cons, List.length_nil, if_true, h]
  have s_6 : sRet (mAndV (mOp (opEq false) (mCall 2 f_product (mCons (mTup (mCons (mTup (mCons (mVar 6) (mCons (mOp opSub (mC (.int 0)) (mVar 6)) mNil))) mNil)) (mCons (mTup (mCons (mTup (mCons (mOp opSub (mC (.int 0)) (mVar 6)) (mCons (mVar 6) mNil))) mNil)) mNil))) (mTup (mCons (mTup (mCons (mVar 6) (mCons (mVar 6) mNil))) mNil))) (mOp (opEq false) (mCall 2 f_product (mCons (mTup mNil) (mCons (mTup mNil) mNil))) (mTup mNil))) env5 S3 = .ok (.rt (.bl true)) S3 := by
    have q1 : (mOp (opEq false) (mCall 2 f_product (mCons (mTup (mCons (mTup (mCons (mVar 6) (mCons (mOp opSub (mC (.int 0)) (mVar 6)) mNil))) mNil)) (mCons (mTup (mCons (mTup (mCons (mOp opSub (mC (.int 0)) (mVar 6)) (mCons (mVar 6) mNil))) mNil)) mNil))) (mTup (mCons (mTup (mCons (mVar 6) (mCons (mVar 6) mNil))) mNil))) env5 S3 = .ok (.bl true) S3 := by
      rw [mOp, call2 _ _ _ _ _ tg1 tg2 hg, bind_ok, tg3, bind_ok, opEq_rel]
      rfl
    have q2 : (mOp (opEq false) (mCall 2 f_product (mCons (mTup mNil) (mCons (mTup mNil) mNil))) (mTup mNil)) env5 S3 = .ok (.bl true) S3 := by
      rw [mOp, call2 _ _ _ _ _ tg0 tg0 h0, bind_ok, tg0, bind_ok, opEq_rel]
      rfl
    rw [sRet, mAndV, q1, bind_ok]
    dsimp only
    rw [q2, bind_ok]
  unfold f_x_law_written_right defF b_x_law_written_right
  simp only [List.map_nil, List.length_nil, Nat.sub_zero, List.replicate, List.nil_append]
  rw [seq_nx s_1, seq_nx s_2, seq_nx s_3, seq_nx s_4, seq_nx s_5, s_6]
  show gc st (.bl true) (st ++ [.lst (wideL.map prD)] ++ [.lst (fanL.map prD)] ++ [.lst (backL.map prD)]) = _
  rw [List.append_assoc, List.append_assoc]
  exact gc_plain (by simp [blw])
end L3
namespace L3
open PySem PySem.Spec PyProof.Rows L2

def body_l3 : MS := (sIf (mNot (mB (mCall 1 f_x_law_right (mCons (mVar 2) mNil)))) (sRet (mC (.bl false))) sNil)
theorem body_l3_ok {S : Sto} {k : Nat} {v0 v1 v3 : Option D} (h : IsStr S k) : ∃ S', body_l3 [v0, v1, some (.ref k), v3] S = .ok (.nx [v0, v1, some (.ref k), v3]) S' ∧ IsStr S' k := by
  obtain ⟨S', e, d⟩ := right_ok h
  refine ⟨S', ?_, d.str h⟩
  simp only [body_l3, sIf, mNot, mB, mCall, mCons, mNil, mVar, List.getElem?_cons_succ, List.getElem?_cons_zero, bind_ok, List.length_cons, List.length_nil, if_true, e, Bool.not_true, Bool.false_eq_true, if_false, sNil]
theorem loop_l3 {k : Nat} {v0 v1 : Option D} : ∀ (n : Nat) (lo : Int) (S : Sto) (v3 : Option D), IsStr S k → ∃ S' v3', forGo (.nm 3) (fun _ => true) body_l3 (upto lo n) [v0, v1, some (.ref k), v3] S = .ok (.nx [v0, v1, some (.ref k), v3']) S'
  | 0, lo, S, v3, _ => ⟨S, v3, by simp [upto, forGo]⟩
  | n + 1, lo, S, v3, h => by
    obtain ⟨S1, e1, h1⟩ := body_l3_ok (v0 := v0) (v1 := v1) (v3 := some (.int lo)) h
    obtain ⟨S2, v3', e2⟩ := loop_l3 (v0 := v0) (v1 := v1) n (lo + 1) S1 (some (.int lo)) h1
    refine ⟨S2, v3', ?_⟩
    rw [upto, forGo]
    simp only [if_true, setT, List.set_cons_succ, List.set_cons_zero, e1, bind_ok, e2]
def body_l1 : MS := (sSeq (sAsg (mCall 2 f_x_law_stream (mCons (mVar 0) (mCons (mVar 1) mNil))) (.nm 2))
  (sFor (mRng (mCons (mC (.int 3)) mNil)) (.nm 3) body_l3))
theorem body_l1_ok {ns : List Int} {i : Int} {v2 v3 : Option D} (h0 : 0 ≤ i) (hl : ns.length ≤ 63) (S : Sto) : ∃ S' y2 y3, body_l1 [some (.frl (ns.map .int)), some (.int i), v2, v3] S = .ok (.nx [some (.frl (ns.map .int)), some (.int i), y2, y3]) S' := by
  obtain ⟨a, b, c, e⟩ := stream_ok h0 hl S
  obtain ⟨S', v3', e2⟩ := loop_l3 (k := S.length) (v0 := some (.frl (ns.map .int))) (v1 := some (.int i)) (3 : Int).toNat 0 (S ++ [i3 a b c]) v3 ⟨a, b, c, at_end _ _⟩
  refine ⟨S', some (.ref S.length), v3', ?_⟩
  have rg3 : rgOk 3 = true := by decide
  have s1 : sAsg (mCall 2 f_x_law_stream (mCons (mVar 0) (mCons (mVar 1) mNil))) (.nm 2) [some (.frl (ns.map .int)), some (.int i), v2, v3] S = .ok (.nx [some (.frl (ns.map .int)), some (.int i), some (.ref S.length), v3]) (S ++ [i3 a b c]) := by
    simp only [sAsg, mCall, mCons, mNil, mVar, List.getElem?_cons_succ, List.getElem?_cons_zero, bind_ok, List.length_cons, List.length_nil, if_true, e, setT, List.set_cons_succ, List.set_cons_zero]
  rw [body_l1, seq_nx s1]
  simp only [sFor, mRng, mCons, mNil, mC, bind_ok, rngF, rg3, if_true, e2]
theorem loop_l1 {ns : List Int} (hl : ns.length ≤ 63) : ∀ (n : Nat) (lo : Int) (S : Sto) (v1 v2 v3 : Option D), 0 ≤ lo → ∃ S' y1 y2 y3, forGo (.nm 1) (fun _ => true) body_l1 (upto lo n) [some (.frl (ns.map .int)), v1, v2, v3] S = .ok (.nx [some (.frl (ns.map .int)), y1, y2, y3]) S'
  | 0, lo, S, v1, v2, v3, _ => ⟨S, v1, v2, v3, by simp [upto, forGo]⟩
  | n + 1, lo, S, v1, v2, v3, h => by
    obtain ⟨S1, y2, y3, e1⟩ := body_l1_ok (ns := ns) (v2 := v2) (v3 := v3) h hl S
    obtain ⟨S2, z1, z2, z3, e2⟩ := loop_l1 hl n (lo + 1) S1 (some (.int lo)) y2 y3 (by omega)
    refine ⟨S2, z1, z2, z3, ?_⟩
    rw [upto, forGo]
    simp only [if_true, setT, List.set_cons_succ, List.set_cons_zero, e1, bind_ok, e2]
theorem law_ok {ns : List Int} (hl : ns.length ≤ 63) : f_law [.frl (ns.map .int)] [] = .ok (.bl true) [] := by
  have hm : ∃ j : Int, ((mRng (mCons (mF cMax (mCons (mC (.int 1)) (mCons (mF cMin (mCons (mC (.int 10)) (mCons (mF cLen (mCons (mVar 0) mNil)) mNil))) mNil))) mNil)) [some (.frl (ns.map .int)), none, none, none] []) = .ok (upto 0 j.toNat, fun _ => true) [] := by
    have key : ∀ j : Int, 0 ≤ j → j ≤ 63 → rngF [.int j] [] = .ok (upto 0 j.toNat, fun _ => true) [] := fun j h0 h1 => by
      have : rgOk j = true := by
        unfold rgOk
        rw [Bool.and_eq_true, decide_eq_true_eq, decide_eq_true_eq]
        omega
      simp only [rngF, this, if_true]
    have cl : cLen [.frl (ns.map .int)] [] = .ok (.int ns.length) [] := by simp [cLen, itemsD]
    refine ⟨if (if (ns.length : Int) < 10 then (ns.length : Int) else 10) > 1 then (if (ns.length : Int) < 10 then (ns.length : Int) else 10) else 1, ?_⟩
    simp only [mRng, mF, mCons, mNil, mVar, mC, List.getElem?_cons_zero, bind_ok, cl, cMin, cMax]
    exact key _ (by split <;> omega) (by split <;> (try split) <;> omega)
  obtain ⟨j, hj⟩ := hm
  obtain ⟨S', y1, y2, y3, e⟩ := loop_l1 hl j.toNat 0 [] none none none (Int.le_refl 0)
  have s1 : sFor (mRng (mCons (mF cMax (mCons (mC (.int 1)) (mCons (mF cMin (mCons (mC (.int 10)) (mCons (mF cLen (mCons (mVar 0) mNil)) mNil))) mNil))) mNil)) (.nm 1) body_l1 [some (.frl (ns.map .int)), none, none, none] [] = .ok (.nx [some (.frl (ns.map .int)), y1, y2, y3]) S' := by
    rw [sFor, hj, bind_ok]
    exact e
  unfold body_l1 body_l3 at s1
  unfold f_law defF b_law
  simp only [List.map_cons, List.map_nil, List.length_cons, List.length_nil, List.replicate, List.cons_append, List.nil_append]
  rw [seq_nx s1]
  simp only [sRet, mCall, mNil, bind_ok, List.length_nil, if_true, written_ok]
  have := gc_plain (st := []) (g := S') (d := .bl true) (by simp [blw])
  simpa using this
end L3
namespace L3
open PySem PySem.Spec PyProof.Rows L2
/-! what the top has written -/
theorem all_mk {l : PySem.W.OpenLaw} {w : World} {K : PySem.W.Frag} {h : Heap} {mg : Str → Option Value} {fa : Addr} (X : K.In h) (G : h.Ns mainGlobals mg) (hfa : mg "law" = some (.ref fa))
    {a_is_integer : Addr} {od0 an0 : Option Addr} {sl0 : Array (Option Value)} {oc0 kV0 dc0 pm0 cd0 ct0 : Value} (a0 : PySem.W.nsIn K mainGlobals "is_integer" = some (some (.ref a_is_integer))) (l0 : K.lookup a_is_integer = some ⟨oc0, od0, .func (PySem.W.fnOf "is_integer" "is_integer" (defArgs (topS 4)) (defBody (topS 4)) (defScope (topS 4)) .none kV0 dc0 pm0 an0 cd0 ct0), sl0⟩) (c0 : PySem.W.codeIn K cd0 "is_integer" = true) (k0 : PySem.W.keepIn K (.ref a_is_integer) = true)
    {a_is_relation : Addr} {od1 an1 : Option Addr} {sl1 : Array (Option Value)} {oc1 kV1 dc1 pm1 cd1 ct1 : Value} (a1 : PySem.W.nsIn K mainGlobals "is_relation" = some (some (.ref a_is_relation))) (l1 : K.lookup a_is_relation = some ⟨oc1, od1, .func (PySem.W.fnOf "is_relation" "is_relation" (defArgs (topS 7)) (defBody (topS 7)) (defScope (topS 7)) .none kV1 dc1 pm1 an1 cd1 ct1), sl1⟩) (c1 : PySem.W.codeIn K cd1 "is_relation" = true) (k1 : PySem.W.keepIn K (.ref a_is_relation) = true)
    {a_require_relations : Addr} {od2 an2 : Option Addr} {sl2 : Array (Option Value)} {oc2 kV2 dc2 pm2 cd2 ct2 : Value} (a2 : PySem.W.nsIn K mainGlobals "require_relations" = some (some (.ref a_require_relations))) (l2 : K.lookup a_require_relations = some ⟨oc2, od2, .func (PySem.W.fnOf "require_relations" "require_relations" (defArgs (topS 8)) (defBody (topS 8)) (defScope (topS 8)) .none kV2 dc2 pm2 an2 cd2 ct2), sl2⟩) (c2 : PySem.W.codeIn K cd2 "require_relations" = true) (k2 : PySem.W.keepIn K (.ref a_require_relations) = true)
    {a_product_in : Addr} {od3 an3 : Option Addr} {sl3 : Array (Option Value)} {oc3 kV3 dc3 pm3 cd3 ct3 : Value} (a3 : PySem.W.nsIn K mainGlobals "product_in" = some (some (.ref a_product_in))) (l3 : K.lookup a_product_in = some ⟨oc3, od3, .func (PySem.W.fnOf "product_in" "product_in" (defArgs (topS 9)) (defBody (topS 9)) (defScope (topS 9)) .none kV3 dc3 pm3 an3 cd3 ct3), sl3⟩) (c3 : PySem.W.codeIn K cd3 "product_in" = true) (k3 : PySem.W.keepIn K (.ref a_product_in) = true)
    {a_product : Addr} {od4 an4 : Option Addr} {sl4 : Array (Option Value)} {oc4 kV4 dc4 pm4 cd4 ct4 : Value} (a4 : PySem.W.nsIn K mainGlobals "product" = some (some (.ref a_product))) (l4 : K.lookup a_product = some ⟨oc4, od4, .func (PySem.W.fnOf "product" "product" (defArgs (topS 10)) (defBody (topS 10)) (defScope (topS 10)) .none kV4 dc4 pm4 an4 cd4 ct4), sl4⟩) (c4 : PySem.W.codeIn K cd4 "product" = true) (k4 : PySem.W.keepIn K (.ref a_product) = true)
    {a_x_law_stream : Addr} {od5 an5 : Option Addr} {sl5 : Array (Option Value)} {oc5 kV5 dc5 pm5 cd5 ct5 : Value} (a5 : PySem.W.nsIn K mainGlobals "_law_stream" = some (some (.ref a_x_law_stream))) (l5 : K.lookup a_x_law_stream = some ⟨oc5, od5, .func (PySem.W.fnOf "_law_stream" "_law_stream" (defArgs (topS 12)) (defBody (topS 12)) (defScope (topS 12)) .none kV5 dc5 pm5 an5 cd5 ct5), sl5⟩) (c5 : PySem.W.codeIn K cd5 "_law_stream" = true) (k5 : PySem.W.keepIn K (.ref a_x_law_stream) = true)
    {a_x_law_draw : Addr} {od6 an6 : Option Addr} {sl6 : Array (Option Value)} {oc6 kV6 dc6 pm6 cd6 ct6 : Value} (a6 : PySem.W.nsIn K mainGlobals "_law_draw" = some (some (.ref a_x_law_draw))) (l6 : K.lookup a_x_law_draw = some ⟨oc6, od6, .func (PySem.W.fnOf "_law_draw" "_law_draw" (defArgs (topS 13)) (defBody (topS 13)) (defScope (topS 13)) .none kV6 dc6 pm6 an6 cd6 ct6), sl6⟩) (c6 : PySem.W.codeIn K cd6 "_law_draw" = true) (k6 : PySem.W.keepIn K (.ref a_x_law_draw) = true)
    {a_x_law_pick : Addr} {od7 an7 : Option Addr} {sl7 : Array (Option Value)} {oc7 kV7 dc7 pm7 cd7 ct7 : Value} (a7 : PySem.W.nsIn K mainGlobals "_law_pick" = some (some (.ref a_x_law_pick))) (l7 : K.lookup a_x_law_pick = some ⟨oc7, od7, .func (PySem.W.fnOf "_law_pick" "_law_pick" (defArgs (topS 14)) (defBody (topS 14)) (defScope (topS 14)) .none kV7 dc7 pm7 an7 cd7 ct7), sl7⟩) (c7 : PySem.W.codeIn K cd7 "_law_pick" = true) (k7 : PySem.W.keepIn K (.ref a_x_law_pick) = true)
    {a_x_law_relation : Addr} {od8 an8 : Option Addr} {sl8 : Array (Option Value)} {oc8 kV8 dc8 pm8 cd8 ct8 : Value} (a8 : PySem.W.nsIn K mainGlobals "_law_relation" = some (some (.ref a_x_law_relation))) (l8 : K.lookup a_x_law_relation = some ⟨oc8, od8, .func (PySem.W.fnOf "_law_relation" "_law_relation" (defArgs (topS 15)) (defBody (topS 15)) (defScope (topS 15)) .none kV8 dc8 pm8 an8 cd8 ct8), sl8⟩) (c8 : PySem.W.codeIn K cd8 "_law_relation" = true) (k8 : PySem.W.keepIn K (.ref a_x_law_relation) = true)
    {a_x_law_product : Addr} {od9 an9 : Option Addr} {sl9 : Array (Option Value)} {oc9 kV9 dc9 pm9 cd9 ct9 : Value} (a9 : PySem.W.nsIn K mainGlobals "_law_product" = some (some (.ref a_x_law_product))) (l9 : K.lookup a_x_law_product = some ⟨oc9, od9, .func (PySem.W.fnOf "_law_product" "_law_product" (defArgs (topS 16)) (defBody (topS 16)) (defScope (topS 16)) .none kV9 dc9 pm9 an9 cd9 ct9), sl9⟩) (c9 : PySem.W.codeIn K cd9 "_law_product" = true) (k9 : PySem.W.keepIn K (.ref a_x_law_product) = true)
    {a_x_law_turned : Addr} {od10 an10 : Option Addr} {sl10 : Array (Option Value)} {oc10 kV10 dc10 pm10 cd10 ct10 : Value} (a10 : PySem.W.nsIn K mainGlobals "_law_turned" = some (some (.ref a_x_law_turned))) (l10 : K.lookup a_x_law_turned = some ⟨oc10, od10, .func (PySem.W.fnOf "_law_turned" "_law_turned" (defArgs (topS 17)) (defBody (topS 17)) (defScope (topS 17)) .none kV10 dc10 pm10 an10 cd10 ct10), sl10⟩) (c10 : PySem.W.codeIn K cd10 "_law_turned" = true) (k10 : PySem.W.keepIn K (.ref a_x_law_turned) = true)
    {a_x_law_right : Addr} {od11 an11 : Option Addr} {sl11 : Array (Option Value)} {oc11 kV11 dc11 pm11 cd11 ct11 : Value} (a11 : PySem.W.nsIn K mainGlobals "_law_right" = some (some (.ref a_x_law_right))) (l11 : K.lookup a_x_law_right = some ⟨oc11, od11, .func (PySem.W.fnOf "_law_right" "_law_right" (defArgs (topS 18)) (defBody (topS 18)) (defScope (topS 18)) .none kV11 dc11 pm11 an11 cd11 ct11), sl11⟩) (c11 : PySem.W.codeIn K cd11 "_law_right" = true) (k11 : PySem.W.keepIn K (.ref a_x_law_right) = true)
    {a_x_law_written_right : Addr} {od12 an12 : Option Addr} {sl12 : Array (Option Value)} {oc12 kV12 dc12 pm12 cd12 ct12 : Value} (a12 : PySem.W.nsIn K mainGlobals "_law_written_right" = some (some (.ref a_x_law_written_right))) (l12 : K.lookup a_x_law_written_right = some ⟨oc12, od12, .func (PySem.W.fnOf "_law_written_right" "_law_written_right" (defArgs (topS 19)) (defBody (topS 19)) (defScope (topS 19)) .none kV12 dc12 pm12 an12 cd12 ct12), sl12⟩) (c12 : PySem.W.codeIn K cd12 "_law_written_right" = true) (k12 : PySem.W.keepIn K (.ref a_x_law_written_right) = true)
    {a_law : Addr} {od13 an13 : Option Addr} {sl13 : Array (Option Value)} {oc13 kV13 dc13 pm13 cd13 ct13 : Value} (a13 : PySem.W.nsIn K mainGlobals "law" = some (some (.ref a_law))) (l13 : K.lookup a_law = some ⟨oc13, od13, .func (PySem.W.fnOf "law" "law" (defArgs (topS 20)) (defBody (topS 20)) (defScope (topS 20)) .none kV13 dc13 pm13 an13 cd13 ct13), sl13⟩) (c13 : PySem.W.codeIn K cd13 "law" = true) (k13 : PySem.W.keepIn K (.ref a_law) = true)
    (z0 : PySem.W.nsIn K mainGlobals "abs" = some none)
    (z1 : PySem.W.nsIn K mainGlobals "all" = some none)
    (z2 : PySem.W.nsIn K mainGlobals "bool" = some none)
    (z3 : PySem.W.nsIn K mainGlobals "int" = some none)
    (z4 : PySem.W.nsIn K mainGlobals "isinstance" = some none)
    (z5 : PySem.W.nsIn K mainGlobals "len" = some none)
    (z6 : PySem.W.nsIn K mainGlobals "max" = some none)
    (z7 : PySem.W.nsIn K mainGlobals "min" = some none)
    (z8 : PySem.W.nsIn K mainGlobals "range" = some none)
    (z9 : PySem.W.nsIn K mainGlobals "repr" = some none)
    (z10 : PySem.W.nsIn K mainGlobals "set" = some none)
    (z11 : PySem.W.nsIn K mainGlobals "sorted" = some none)
    (z12 : PySem.W.nsIn K mainGlobals "tuple" = some none)
    (z13 : PySem.W.nsIn K mainGlobals "zip" = some none)
    {u0 : Value} (m0 : PySem.W.nsIn K mainGlobals "MOST_PAIRS" = some (some u0)) (r0 : RelV (.int 100) u0)
    : ∀ base : Heap, K.In base → base.Ns mainGlobals mg → FnG l.prog w K mg base CX0 6 fa (spD ⟨K, w⟩ 1 f_law) := by
  intro base _ _
  have e := hfa.symm.trans (PySem.W.mg_of X G a13)
  cases e
  have g : Glo K mg a_is_integer a_is_relation a_require_relations a_product_in a_product a_x_law_stream a_x_law_draw a_x_law_pick a_x_law_relation a_x_law_product a_x_law_turned a_x_law_right a_x_law_written_right fa := ⟨PySem.W.mg_none_of X G z0, PySem.W.mg_none_of X G z1, PySem.W.mg_none_of X G z2, PySem.W.mg_none_of X G z3, PySem.W.mg_none_of X G z4, PySem.W.mg_none_of X G z5, PySem.W.mg_none_of X G z6, PySem.W.mg_none_of X G z7, PySem.W.mg_none_of X G z8, PySem.W.mg_none_of X G z9, PySem.W.mg_none_of X G z10, PySem.W.mg_none_of X G z11, PySem.W.mg_none_of X G z12, PySem.W.mg_none_of X G z13, ⟨_, PySem.W.mg_of X G m0, r0⟩, ⟨PySem.W.mg_of X G a0, k0⟩, ⟨PySem.W.mg_of X G a1, k1⟩, ⟨PySem.W.mg_of X G a2, k2⟩, ⟨PySem.W.mg_of X G a3, k3⟩, ⟨PySem.W.mg_of X G a4, k4⟩, ⟨PySem.W.mg_of X G a5, k5⟩, ⟨PySem.W.mg_of X G a6, k6⟩, ⟨PySem.W.mg_of X G a7, k7⟩, ⟨PySem.W.mg_of X G a8, k8⟩, ⟨PySem.W.mg_of X G a9, k9⟩, ⟨PySem.W.mg_of X G a10, k10⟩, ⟨PySem.W.mg_of X G a11, k11⟩, ⟨PySem.W.mg_of X G a12, k12⟩, ⟨PySem.W.mg_of X G a13, k13⟩⟩
  have G_is_integer : FnG l.prog w K mg base CX0 1 a_is_integer (spD ⟨K, w⟩ 1 f_is_integer) := ok_is_integer (fun_mk (st := topS 4) l0 c0 k0) g 
  have G_is_relation : FnG l.prog w K mg base CX0 2 a_is_relation (spD ⟨K, w⟩ 1 f_is_relation) := ok_is_relation (fun_mk (st := topS 7) l1 c1 k1) g G_is_integer
  have G_require_relations : FnG l.prog w K mg base CX0 3 a_require_relations (spD ⟨K, w⟩ 2 f_require_relations) := ok_require_relations (fun_mk (st := topS 8) l2 c2 k2) g G_is_relation
  have G_product_in : FnG l.prog w K mg base CX0 1 a_product_in (spD ⟨K, w⟩ 2 f_product_in) := ok_product_in (fun_mk (st := topS 9) l3 c3 k3) g 
  have G_product : FnG l.prog w K mg base CX0 4 a_product (spD ⟨K, w⟩ 2 f_product) := ok_product (fun_mk (st := topS 10) l4 c4 k4) g G_require_relations G_product_in
  have G_x_law_stream : FnG l.prog w K mg base CX0 1 a_x_law_stream (spD ⟨K, w⟩ 2 f_x_law_stream) := ok_x_law_stream (fun_mk (st := topS 12) l5 c5 k5) g 
  have G_x_law_draw : FnG l.prog w K mg base CX0 1 a_x_law_draw (spD ⟨K, w⟩ 2 f_x_law_draw) := ok_x_law_draw (fun_mk (st := topS 13) l6 c6 k6) g 
  have G_x_law_pick : FnG l.prog w K mg base CX0 2 a_x_law_pick (spD ⟨K, w⟩ 2 f_x_law_pick) := ok_x_law_pick (fun_mk (st := topS 14) l7 c7 k7) g G_x_law_draw
  have G_x_law_relation : FnG l.prog w K mg base CX0 3 a_x_law_relation (spD ⟨K, w⟩ 3 f_x_law_relation) := ok_x_law_relation (fun_mk (st := topS 15) l8 c8 k8) g G_x_law_draw G_x_law_pick
  have G_x_law_product : FnG l.prog w K mg base CX0 1 a_x_law_product (spD ⟨K, w⟩ 2 f_x_law_product) := ok_x_law_product (fun_mk (st := topS 16) l9 c9 k9) g 
  have G_x_law_turned : FnG l.prog w K mg base CX0 1 a_x_law_turned (spD ⟨K, w⟩ 1 f_x_law_turned) := ok_x_law_turned (fun_mk (st := topS 17) l10 c10 k10) g 
  have G_x_law_right : FnG l.prog w K mg base CX0 5 a_x_law_right (spD ⟨K, w⟩ 1 f_x_law_right) := ok_x_law_right (fun_mk (st := topS 18) l11 c11 k11) g G_x_law_draw G_x_law_relation G_product G_x_law_product G_x_law_turned
  have G_x_law_written_right : FnG l.prog w K mg base CX0 5 a_x_law_written_right (spD ⟨K, w⟩ 0 f_x_law_written_right) := ok_x_law_written_right (fun_mk (st := topS 19) l12 c12 k12) g G_product
  have G_law : FnG l.prog w K mg base CX0 6 fa (spD ⟨K, w⟩ 1 f_law) := ok_law (fun_mk (st := topS 20) l13 c13 k13) g G_x_law_stream G_x_law_right G_x_law_written_right
  exact G_law
end L3
open PySem PySem.W PyProof.Rows
set_option maxHeartbeats 0 in
theorem PySem.Challenge.cw_pagewise_k60_products_holds : PySem.Challenge.rw_pagewise_k60_products.Holds := by
  w_on; o_law; k_head; (case hw => w_witness2)
  k_fill
  refine L3.walk_G (l := PySem.Challenge.rw_pagewise_k60_products) (n := 63) (k := 6) (G := L3.f_law) rfl (by decide) rfl ⟨⟨rfl, by decide, by decide⟩, rfl⟩ (fun w h Y => PySem.W.kIn_of Y) ?F (fun ns h => ⟨_, L3.law_ok h⟩)
  case F =>
    intro w mg fa h KX G hmg
    refine' L3.all_mk KX G hmg ?a0 ?l0 ?c0 ?k0 ?a1 ?l1 ?c1 ?k1 ?a2 ?l2 ?c2 ?k2 ?a3 ?l3 ?c3 ?k3 ?a4 ?l4 ?c4 ?k4 ?a5 ?l5 ?c5 ?k5 ?a6 ?l6 ?c6 ?k6 ?a7 ?l7 ?c7 ?k7 ?a8 ?l8 ?c8 ?k8 ?a9 ?l9 ?c9 ?k9 ?a10 ?l10 ?c10 ?k10 ?a11 ?l11 ?c11 ?k11 ?a12 ?l12 ?c12 ?k12 ?a13 ?l13 ?c13 ?k13 ?z0 ?z1 ?z2 ?z3 ?z4 ?z5 ?z6 ?z7 ?z8 ?z9 ?z10 ?z11 ?z12 ?z13 ?m0 ?r0
    (case a0 => k_is)
    (case l0 => k_is)
    (case c0 => k_is)
    (case k0 => k_is)
    (case a1 => k_is)
    (case l1 => k_is)
    (case c1 => k_is)
    (case k1 => k_is)
    (case a2 => k_is)
    (case l2 => k_is)
    (case c2 => k_is)
    (case k2 => k_is)
    (case a3 => k_is)
    (case l3 => k_is)
    (case c3 => k_is)
    (case k3 => k_is)
    (case a4 => k_is)
    (case l4 => k_is)
    (case c4 => k_is)
    (case k4 => k_is)
    (case a5 => k_is)
    (case l5 => k_is)
    (case c5 => k_is)
    (case k5 => k_is)
    (case a6 => k_is)
    (case l6 => k_is)
    (case c6 => k_is)
    (case k6 => k_is)
    (case a7 => k_is)
    (case l7 => k_is)
    (case c7 => k_is)
    (case k7 => k_is)
    (case a8 => k_is)
    (case l8 => k_is)
    (case c8 => k_is)
    (case k8 => k_is)
    (case a9 => k_is)
    (case l9 => k_is)
    (case c9 => k_is)
    (case k9 => k_is)
    (case a10 => k_is)
    (case l10 => k_is)
    (case c10 => k_is)
    (case k10 => k_is)
    (case a11 => k_is)
    (case l11 => k_is)
    (case c11 => k_is)
    (case k11 => k_is)
    (case a12 => k_is)
    (case l12 => k_is)
    (case c12 => k_is)
    (case k12 => k_is)
    (case a13 => k_is)
    (case l13 => k_is)
    (case c13 => k_is)
    (case k13 => k_is)
    (case z0 => k_is)
    (case z1 => k_is)
    (case z2 => k_is)
    (case z3 => k_is)
    (case z4 => k_is)
    (case z5 => k_is)
    (case z6 => k_is)
    (case z7 => k_is)
    (case z8 => k_is)
    (case z9 => k_is)
    (case z10 => k_is)
    (case z11 => k_is)
    (case z12 => k_is)
    (case z13 => k_is)
    (case m0 => k_is)
    (case r0 => exact ⟨_, rfl⟩)
