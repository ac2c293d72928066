import PyProof.Rows.All
import Wide.All
import OpenK.AllK
import Wide.FinOn
import HandS.ForMost
import HandS.TupSets
import HandS.SortOrd
import KE.KSortTupAny
import HandS.SortInts
import PyProof.Rows.SortStr
import HandS.Exc
import HandS.ExcOwn
import HandS.CallSlots
import HandS.ExcCtx
import HandS.Dict
import HandS.Flow
import HandS.Steps
import HandS.WordsExc
import HandS.Defaults
import HandS.TupAny
import HandS.IsInst
import HandS.Wide
import HandS.More
import HandS.NoneIn
import HandS.Deep
import HandS.ExcInit
import HandS.ExcField
import HandS.ExcIs
import HandS.HotCalls
import HandS.Head0
import HandS.Head1
import HandS.Head2
import HandS.HeadEnd
import HandS.HeadHook1
import HandS.HeadHook2
import HandS.HeadHook3
import HandS.HeadHook4
import HandS.WideBits
import PyProof.EnumMake
import KE.GoesEnum
import KE.GoesMore
import HandS.DictComp
import HandS.Conv
import PyProof.CollectStr
import PyProof.ListStr
import KE.KDictList
import KE.KDictWalk
import HandS.Text
import HandS.Strs
import HandS.Codes
import PySem.Challenge.RW_pilerecall_k00_machine_fields
set_option Elab.async false
set_option linter.all false
set_option maxRecDepth 100000
set_option maxHeartbeats 4000000
namespace GS
open PySem PySem.Spec PyProof.Rows L2

/-! ### 5 x + 1 meets every place of a power of two -/
def geo : Nat → Nat
  | 0 => 0
  | k + 1 => geo k * 5 + 1
theorem geo_add (k : Nat) : ∀ j, geo (k + j) = geo k * 5 ^ j + geo j
  | 0 => by simp [geo]
  | j + 1 => by
    show geo (k + j) * 5 + 1 = geo k * 5 ^ (j + 1) + (geo j * 5 + 1)
    rw [geo_add k j, Nat.pow_succ, Nat.add_mul, Nat.mul_assoc]
    omega
theorem geo_par (k : Nat) : geo k % 2 = k % 2 := by
  induction k with
  | zero => rfl
  | succ k ih => show (geo k * 5 + 1) % 2 = _; omega
theorem five_four (k : Nat) : 5 ^ k % 4 = 1 := by
  induction k with
  | zero => rfl
  | succ k ih => rw [Nat.pow_succ]; omega
theorem geo_dvd : ∀ (n k : Nat), 2 ^ n ∣ geo k → 2 ^ n ∣ k
  | 0, k, _ => Nat.one_dvd k
  | n + 1, k, h => by
    have h2 : 2 ∣ geo k := Nat.dvd_trans ⟨2 ^ n, by rw [Nat.pow_succ, Nat.mul_comm]⟩ h
    have hk : k % 2 = 0 := by rw [← geo_par]; omega
    obtain ⟨j, rfl⟩ : ∃ j, k = j + j := ⟨k / 2, by omega⟩
    have e : geo (j + j) = geo j * (5 ^ j + 1) := by rw [geo_add, Nat.mul_add, Nat.mul_one]
    have f := five_four j
    obtain ⟨m, hm⟩ : ∃ m, 5 ^ j + 1 = 2 * (2 * m + 1) := ⟨5 ^ j / 4, by omega⟩
    rw [e, hm, Nat.pow_succ] at h
    have h3 : 2 ^ n ∣ geo j * (2 * m + 1) := by
      obtain ⟨c, hc⟩ := h
      refine ⟨c, ?_⟩
      have : 2 * (geo j * (2 * m + 1)) = 2 * (2 ^ n * c) := by
        rw [show 2 * (geo j * (2 * m + 1)) = geo j * (2 * (2 * m + 1)) by rw [Nat.mul_left_comm], hc, Nat.mul_assoc, Nat.mul_left_comm]
      omega
    have cop : Nat.Coprime (2 ^ n) (2 * m + 1) := Nat.Coprime.pow_left n (by
      unfold Nat.Coprime
      rw [Nat.gcd_rec]
      have : (2 * m + 1) % 2 = 1 := by omega
      rw [this]
      rfl)
    have h4 := cop.dvd_of_dvd_mul_right h3
    obtain ⟨c, hc⟩ := geo_dvd n j h4
    exact ⟨c, by rw [hc, Nat.pow_succ, Nat.mul_assoc, Nat.mul_comm 2 c, ← Nat.mul_assoc]; omega⟩
/-- the masks of tables -/
def MOk (m : Nat) : Prop := ∃ n, 3 ≤ n ∧ n ≤ 13 ∧ m + 1 = 2 ^ n
theorem MOk.lo {m : Nat} (h : MOk m) : 7 ≤ m := by
  obtain ⟨n, h1, _, e⟩ := h
  have : 2 ^ 3 ≤ 2 ^ n := Nat.pow_le_pow_right (by decide) h1
  omega
theorem MOk.hi {m : Nat} (h : MOk m) : m ≤ 8191 := by
  obtain ⟨n, _, h1, e⟩ := h
  have : 2 ^ n ≤ 2 ^ 13 := Nat.pow_le_pow_right (by decide) h1
  omega
theorem MOk.odd {m : Nat} (h : MOk m) : m % 2 = 1 := by
  obtain ⟨n, h1, _, e⟩ := h
  obtain ⟨j, rfl⟩ : ∃ j, n = j + 1 := ⟨n - 1, by omega⟩
  rw [Nat.pow_succ] at e
  omega
theorem lcg_form (m i : Nat) : ∀ k, lcgI m i k % (m + 1) = (i * 5 ^ k + geo k) % (m + 1)
  | 0 => by simp [lcgI, geo]
  | k + 1 => by
    show ((lcgI m i k * 5 + 1) % (m + 1)) % (m + 1) = (i * 5 ^ (k + 1) + (geo k * 5 + 1)) % (m + 1)
    rw [Nat.mod_mod]
    have e : i * 5 ^ (k + 1) + (geo k * 5 + 1) = (i * 5 ^ k + geo k) * 5 + 1 := by
      rw [Nat.pow_succ, Nat.add_mul, ← Nat.mul_assoc]
      omega
    rw [e, Nat.add_mod, Nat.mul_mod, lcg_form m i k, ← Nat.mul_mod, ← Nat.add_mod]
theorem lcg_le {m i : Nat} (hi : i ≤ m) : ∀ k, lcgI m i k ≤ m
  | 0 => hi
  | k + 1 => Nat.le_of_lt_succ (Nat.mod_lt _ (Nat.succ_pos _))
theorem geo_five (k : Nat) : 5 ^ k = 4 * geo k + 1 := by
  induction k with
  | zero => rfl
  | succ k ih => show 5 ^ (k + 1) = 4 * (geo k * 5 + 1) + 1; rw [Nat.pow_succ]; omega
theorem lcg_shift (m i a : Nat) : ∀ k, lcgI m i (a + k) = lcgI m (lcgI m i a) k
  | 0 => rfl
  | k + 1 => by
    show (lcgI m i (a + k) * 5 + 1) % (m + 1) = (lcgI m (lcgI m i a) k * 5 + 1) % (m + 1)
    rw [lcg_shift m i a k]
/-- no place twice within a round -/
theorem lcg_inj {m i : Nat} (hm : MOk m) (hi : i ≤ m) {a b : Nat} (hab : a < b) (hb : b ≤ m) : lcgI m i a ≠ lcgI m i b := by
  intro e
  obtain ⟨n, _, _, en⟩ := hm
  obtain ⟨d, rfl⟩ : ∃ d, b = a + d := ⟨b - a, by omega⟩
  rw [lcg_shift] at e
  have hx := lcg_le (m := m) hi a
  generalize lcgI m i a = x at e hx
  have f := lcg_form m x d
  rw [← e, Nat.mod_eq_of_lt (Nat.lt_succ_of_le hx)] at f
  -- x = x 5^d + geo d mod 2^n
  have h1 : (m + 1) ∣ (x * 5 ^ d + geo d) - x := by
    refine Nat.dvd_of_mod_eq_zero ?_
    have hle : x ≤ x * 5 ^ d + geo d := Nat.le_trans (Nat.le_mul_of_pos_right _ (Nat.pow_pos (by decide))) (Nat.le_add_right _ _)
    have := Nat.sub_mod_eq_zero_of_mod_eq (m := x * 5 ^ d + geo d) (n := x) (k := m + 1) (by rw [← f, Nat.mod_eq_of_lt (Nat.lt_succ_of_le hx)])
    exact this
  have h2 : (x * 5 ^ d + geo d) - x = geo d * (2 * (2 * x) + 1) := by
    rw [geo_five d, Nat.mul_add, Nat.mul_one]
    have e1 : x * (4 * geo d) = geo d * (2 * (2 * x)) := by
      rw [← Nat.mul_assoc, Nat.mul_comm (x * 4) (geo d)]
      congr 1
      omega
    rw [e1, Nat.mul_add, Nat.mul_one]
    omega
  rw [h2, en] at h1
  have cop : Nat.Coprime (2 ^ n) (2 * (2 * x) + 1) := Nat.Coprime.pow_left n (by
    unfold Nat.Coprime
    rw [Nat.gcd_rec]
    have : (2 * (2 * x) + 1) % 2 = 1 := by omega
    rw [this]
    rfl)
  have h3 := geo_dvd n d (cop.dvd_of_dvd_mul_right h1)
  have h4 := Nat.le_of_dvd (by omega) h3
  omega
theorem lcg_meets {m : Nat} (hm : MOk m) {i j : Nat} (hi : i ≤ m) (hj : j ≤ m) : ∃ k, k ≤ m ∧ lcgI m i k = j := by
  rcases Classical.em (∃ k, k ≤ m ∧ lcgI m i k = j) with c | c
  · exact c
  · exfalso
    have nd : (j :: (List.range (m + 1)).map (lcgI m i)).Nodup := by
      refine List.nodup_cons.mpr ⟨fun h => ?_, ?_⟩
      · obtain ⟨k, hk, e⟩ := List.mem_map.mp h
        exact c ⟨k, Nat.le_of_lt_succ (List.mem_range.mp hk), e⟩
      · refine List.pairwise_map.mpr (List.Pairwise.imp_of_mem (fun {a b} ha hb hab => ?_) (List.pairwise_lt_range))
        exact lcg_inj hm hi hab (Nat.le_of_lt_succ (List.mem_range.mp hb))
    have := nat_nodup_len _ (List.range (m + 1)) nd fun x hx => by
      rcases List.mem_cons.mp hx with rfl | hx
      · exact List.mem_range.mpr (Nat.lt_succ_of_le hj)
      · obtain ⟨k, _, e⟩ := List.mem_map.mp hx
        rw [← e]
        exact List.mem_range.mpr (Nat.lt_succ_of_le (lcg_le hi k))
    rw [List.length_cons, List.length_map, List.length_range] at this
    omega
theorem runs_meet {m : Nat} (hm : MOk m) (h : Int) {j : Nat} (hj : j ≤ m) : ∃ n, n ≤ m + 12 ∧ runI m (SetTable.bits h) n = j := by
  obtain ⟨k, hk, e⟩ := lcg_meets hm (runI_le m (SetTable.bits h) 12) hj
  exact ⟨12 + k, by omega, (runI_tail (bits_lt h) k).trans e⟩
theorem way_meets {m : Nat} (hm : MOk m) (h : Int) {j : Nat} (hj : j ≤ m) : ∃ k, k < 10 * SetTable.turns m ∧ way m h k = j := by
  obtain ⟨n, hn, e⟩ := runs_meet hm h hj
  obtain ⟨k, hk, e2⟩ := run_nth m (SetTable.bits h) n
  refine ⟨k, by unfold SetTable.turns; omega, ?_⟩
  show (nth m (runAt m (SetTable.bits h % (m + 1)) (SetTable.bits h)) k).j = j
  rw [e2]
  exact e
theorem way_top {m : Nat} (h : Int) (k : Nat) : way m h k ≤ m := by
  have hi : SetTable.bits h % (m + 1) ≤ m := Nat.le_of_lt_succ (Nat.mod_lt _ (Nat.succ_pos _))
  have r := runEnd_bd hi
  have q := nth_in (m := m) k (runAt m (SetTable.bits h % (m + 1)) (SetTable.bits h)) (by
    show SetTable.bits h % (m + 1) + (SetTable.runEnd m (SetTable.bits h % (m + 1)) - SetTable.bits h % (m + 1)) ≤ m
    omega)
  show (nth m (runAt m (SetTable.bits h % (m + 1)) (SetTable.bits h)) k).j ≤ m
  omega
/-! ### the table -/
/-- every hash is found again from its start -/
structure Tb (t : SetTable) (hs : List Int) : Prop where
  ris : Ris t.place.toList
  dm : t.dummies = #[]
  sz : t.place.size = hs.length
  mok : MOk t.mask
  bd : ∀ x ∈ t.place.toList, x ≤ t.mask
  got : ∀ (i : Nat) (h : Int) (j : Nat), hs[i]? = some h → t.place.toList[i]? = some j → ∃ k, way t.mask h k = j ∧ ∀ k', k' < k → way t.mask h k' ∈ t.place.toList
theorem Tb.first {t : SetTable} {hs : List Int} (T : Tb t hs) (hl : hs.length ≤ t.mask) (h : Int) : ∃ K, K < 10 * SetTable.turns t.mask ∧ way t.mask h K ∉ t.place.toList ∧ ∀ k, k < K → way t.mask h k ∈ t.place.toList := by
  have hlen : t.place.toList.length < t.mask + 1 := by
    have := T.sz
    rw [Array.length_toList]
    omega
  obtain ⟨j, hj, hn⟩ := st_missing t.place.toList (t.mask + 1) hlen
  obtain ⟨k, hk, e⟩ := way_meets T.mok h (Nat.le_of_lt_succ hj)
  obtain ⟨K, h1, h2, h3⟩ := st_least (p := fun k => way t.mask h k ∉ t.place.toList) k (fun z => hn (e ▸ z))
  exact ⟨K, Nat.lt_of_le_of_lt h1 hk, h2, fun k' hk' => Classical.byContradiction (h3 k' hk')⟩
theorem Tb.before {t : SetTable} {hs : List Int} (T : Tb t hs) {h : Int} {K i j : Nat} (hK : way t.mask h K ∉ t.place.toList) (hi : hs[i]? = some h) (hj : t.place.toList[i]? = some j) : ∃ k, k < K ∧ way t.mask h k = j := by
  obtain ⟨k, e, hb⟩ := T.got i h j hi hj
  refine ⟨k, ?_, e⟩
  rcases Nat.lt_trichotomy k K with c | c | c
  · exact c
  · subst c
    exact absurd (List.mem_of_getElem? (e ▸ hj)) hK
  · exact absurd (hb K c) hK
theorem Tb.put {t : SetTable} {hs : List Int} (T : Tb t hs) {h : Int} {K : Nat} (hK : way t.mask h K ∉ t.place.toList) (hb : ∀ k, k < K → way t.mask h k ∈ t.place.toList) :
    SetTable.below t.place (way t.mask h K) ≤ hs.length ∧
    Tb (t.put (way t.mask h K)).1 (hs.take (SetTable.below t.place (way t.mask h K)) ++ h :: hs.drop (SetTable.below t.place (way t.mask h K))) ∧ (t.put (way t.mask h K)).1.fill = hs.length + 1 := by
  have hjm : way t.mask h K ≤ t.mask := way_top h K
  generalize hj : way t.mask h K = j at hK hjm ⊢
  obtain ⟨c1, _, _⟩ := below_cut T.ris j
  have hpl : SetTable.below t.place j ≤ t.place.toList.length := c1
  have hph : SetTable.below t.place j ≤ hs.length := T.sz ▸ c1
  have hnp : t.place[SetTable.below t.place j]? ≠ some j := fun e => hK (List.mem_of_getElem? (by rw [Array.getElem?_toList]; exact e))
  have hpp := put_place t j
  have hsize : (t.put j).1.place.size = hs.length + 1 := by
    rw [← Array.length_toList, hpp, len_ins _ hpl, Array.length_toList, T.sz]
  have up : ∀ {x : Nat}, x ∈ t.place.toList → x ∈ (t.put j).1.place.toList := fun {x} hx => by
    rw [hpp]
    exact mem_ins.2 (.inr hx)
  refine ⟨hph, ⟨ris_insert T.ris hnp, put_dm T.dm j, (len_ins hs hph h) ▸ hsize, T.mok, fun x hx => ?_, fun i h' j' h1 h2 => ?_⟩, ?_⟩
  · rw [hpp] at hx
    rcases mem_ins.1 hx with z | z
    · exact z ▸ hjm
    · exact T.bd x z
  · rw [tins_get hs hph] at h1
    rw [hpp, tins_get _ hpl] at h2
    show ∃ k, way t.mask h' k = j' ∧ ∀ k', k' < k → way t.mask h' k' ∈ (t.put j).1.place.toList
    split at h1
    · rename_i c
      rw [if_pos c] at h2
      obtain ⟨k, e, z⟩ := T.got i h' j' h1 h2
      exact ⟨k, e, fun k' hk' => up (z k' hk')⟩
    · rename_i c
      rw [if_neg c] at h2
      split at h1
      · rename_i d
        rw [if_pos d] at h2
        cases h1; cases h2
        exact ⟨K, hj, fun k' hk' => up (hb k' hk')⟩
      · rename_i d
        rw [if_neg d] at h2
        obtain ⟨k, e, z⟩ := T.got (i - 1) h' j' h1 h2
        exact ⟨k, e, fun k' hk' => up (z k' hk')⟩
  · show (t.put j).1.place.size + (t.put j).1.dummies.size = hs.length + 1
    rw [hsize, put_dm T.dm j] <;> rfl
/-! ### the table laid anew -/
theorem free_at {m : Nat} (hm : MOk m) (owner : Array (Option Nat)) (h : Int) {j : Nat} (hj : j ≤ m) (hf : oAt owner j = none) :
    ∃ K, SetTable.layClean.free m owner (SetTable.turns m) (SetTable.bits h % (m + 1)) (SetTable.bits h) = some (way m h K) ∧ oAt owner (way m h K) = none ∧ ∀ k, k < K → oAt owner (way m h k) ≠ none := by
  obtain ⟨n, hn, e⟩ := runs_meet hm h hj
  have hw : way m h (off m (SetTable.bits h % (m + 1)) (SetTable.bits h) n) = j := by
    show (nth m (runAt m (SetTable.bits h % (m + 1)) (SetTable.bits h)) (off m (SetTable.bits h % (m + 1)) (SetTable.bits h) n)).j = j
    rw [nth_off, itL_run]
    exact e
  obtain ⟨K, k1, k2, k3⟩ := st_least (p := fun k => oAt owner (way m h k) = none) _ (show oAt owner (way m h (off m (SetTable.bits h % (m + 1)) (SetTable.bits h) n)) = none by rw [hw]; exact hf)
  refine ⟨K, free_spec m owner (SetTable.turns m) n _ _ K (by unfold SetTable.turns; omega) k1 (fun k hk => ?_) ?_, k2, k3⟩
  · have q := k3 k hk
    show (oAt owner (way m h k)).isNone = false
    cases z : oAt owner (way m h k) with
    | none => exact absurd z q
    | some _ => rfl
  · show (oAt owner (way m h K)).isNone = true
    have q : oAt owner (way m h K) = none := k2
    rw [q]
    rfl
theorem own_step {m : Nat} (hm : MOk m) {done : List Int} {owner : Array (Option Nat)} (W : Own m done owner) (hl : done.length ≤ m) (h : Int) :
    ∃ j, SetTable.layClean.free m owner (SetTable.turns m) (SetTable.bits h % (m + 1)) (SetTable.bits h) = some j ∧ Own m (done ++ [h]) (owner.setIfInBounds j (some done.length)) := by
  obtain ⟨ps, hps, hin⟩ := W.ps
  obtain ⟨j0, h0, hn0⟩ := st_missing ps (m + 1) (by omega)
  have hj0 : oAt owner j0 = none := Classical.byContradiction fun z => hn0 (hin j0 (Nat.le_of_lt_succ h0) z)
  obtain ⟨K, e1, e2, e3⟩ := free_at hm owner h (Nat.le_of_lt_succ h0) hj0
  have hjm : way m h K ≤ m := way_top h K
  have hjs : way m h K < owner.size := by have := W.sz; omega
  have hself := oAt_set_self (some done.length) hjs
  have mono : ∀ {i : Nat}, oAt owner i ≠ none → oAt (owner.setIfInBounds (way m h K) (some done.length)) i ≠ none := fun {i} hi => by
    by_cases c : i = way m h K
    · rw [c, hself]; exact fun e => nomatch e
    · rw [oAt_set_ne _ c]; exact hi
  refine ⟨way m h K, e1, by rw [Array.size_setIfInBounds]; exact W.sz, fun j k hj e => ?_, fun k hk => ?_, way m h K :: ps, by simp [hps], fun j hj e => ?_⟩
  · by_cases c : j = way m h K
    · rw [c, hself] at e
      cases e
      exact ⟨h, K, by simp, c.symm, fun k' hk' => mono (e3 k' hk')⟩
    · rw [oAt_set_ne _ c] at e
      obtain ⟨h', K', a1, a2, a3⟩ := W.at_ j k hj e
      exact ⟨h', K', by rw [List.getElem?_append_left (List.getElem?_eq_some_iff.mp a1).1]; exact a1, a2, fun k' hk' => mono (a3 k' hk')⟩
  · rw [List.length_append, List.length_singleton] at hk
    by_cases c : k < done.length
    · obtain ⟨j, hj, e⟩ := W.all k c
      exact ⟨j, hj, by rw [oAt_set_ne _ fun z => by rw [z, e2] at e; cases e]; exact e⟩
    · have ek : k = done.length := by omega
      subst ek
      exact ⟨way m h K, hjm, hself⟩
  · by_cases c : j = way m h K
    · rw [c]; exact List.mem_cons_self
    · rw [oAt_set_ne _ c] at e
      exact List.mem_cons_of_mem _ (hin j hj e)
theorem lay_fold {m : Nat} (hm : MOk m) : ∀ (rest done : List Int) (owner : Array (Option Nat)), Own m done owner → done.length + rest.length ≤ m + 1 →
    ∃ owner', rest.foldl (stepF m) (some (owner, done.length)) = some (owner', (done ++ rest).length) ∧ Own m (done ++ rest) owner'
  | [], done, owner, W, _ => ⟨owner, by rw [List.append_nil]; rfl, by rw [List.append_nil]; exact W⟩
  | h :: rest, done, owner, W, hl => by
    rw [List.length_cons] at hl
    obtain ⟨j, e, W'⟩ := own_step hm W (by omega) h
    have hl' : (done ++ [h]).length = done.length + 1 := by simp
    obtain ⟨owner', f, W2⟩ := lay_fold hm rest (done ++ [h]) _ W' (by omega)
    have ea : done ++ [h] ++ rest = done ++ h :: rest := by simp
    rw [ea, hl'] at f
    rw [ea] at W2
    exact ⟨owner', by rw [List.foldl_cons, stepF_some e]; exact f, W2⟩
theorem lay_ok {m : Nat} (hm : MOk m) {hs : Array Int} (hn : hs.size ≤ m) : ∃ owner, SetTable.layClean m hs = some owner ∧ Own m hs.toList owner := by
  obtain ⟨owner, f, W⟩ := lay_fold hm hs.toList [] _ (Own.init m) (by rw [Array.length_toList]; show 0 + hs.size ≤ m + 1; omega)
  rw [List.nil_append] at W
  refine ⟨owner, ?_, W⟩
  have f' : hs.toList.foldl (stepF m) (some (Array.replicate (m + 1) none, 0)) = some (owner, ([] ++ hs.toList).length) := f
  rw [layClean_eq, f']
  rfl
theorem laid_ok (t : SetTable) {hs : Array Int} {wanted M : Nat} (hw : SetTable.sizeAbove wanted - 1 = M) (hM : MOk M) (hn : hs.size ≤ M) :
    ∃ t' order, t.relaid hs wanted = some (t', order) ∧ order.toList.Perm (List.range hs.size) ∧ Tb t' (order.toList.map fun i => hs.getD i 0) ∧ t'.mask = M ∧ t'.led = t.led ∧ t'.plain = t.plain := by
  obtain ⟨owner, e, W⟩ := lay_ok hM hn
  have hr : t.relaid hs wanted = some (tabOf t M owner, ((liveOf M owner).map (·.2)).toArray) := by
    rw [relaid_eq, hw, e]
    rfl
  have ris := ris_live (fun j => owner.getD j none) (List.range (M + 1)) List.pairwise_lt_range
  have r1 : Ris ((liveOf M owner).map (·.1)) := ris.1
  have r2 : ∀ x ∈ (liveOf M owner).map (·.1), x ∈ List.range (M + 1) := ris.2
  have nd : ((liveOf M owner).map (·.1)).Nodup := List.Pairwise.imp (fun h => Nat.ne_of_lt h) r1
  have hlen : (liveOf M owner).length = hs.size := by
    obtain ⟨ps, p1, p2⟩ := W.ps
    have a := nat_nodup_len ((liveOf M owner).map (·.1)) ps nd fun x hx => by
      obtain ⟨⟨y, k⟩, hq, ey⟩ := List.mem_map.mp hx
      obtain ⟨b1, b2⟩ := (mem_live W.sz).1 hq
      exact ey ▸ p2 y b1 (by rw [b2]; exact fun z => nomatch z)
    have b := nat_nodup_len (List.range hs.size) ((liveOf M owner).map (·.2)) List.nodup_range fun k hk => by
      obtain ⟨j, b1, b2⟩ := W.all k (by rw [Array.length_toList]; exact List.mem_range.mp hk)
      exact List.mem_map.mpr ⟨(j, k), (mem_live W.sz).2 ⟨b1, b2⟩, rfl⟩
    have hz : hs.toList.length = hs.size := Array.length_toList
    rw [List.length_map, p1, hz] at a
    rw [List.length_map, List.length_range] at b
    omega
  refine ⟨tabOf t M owner, ((liveOf M owner).map (·.2)).toArray, hr, ?_, ⟨r1, rfl, ?_, hM, fun x hx => ?_, fun i h j h1 h2 => ?_⟩, rfl, rfl, rfl⟩
  · refine perm_range hs.size _ (by rw [List.length_map]; exact hlen) fun k hk => ?_
    obtain ⟨j, b1, b2⟩ := W.all k (by rw [Array.length_toList]; exact hk)
    exact List.mem_map.mpr ⟨(j, k), (mem_live W.sz).2 ⟨b1, b2⟩, rfl⟩
  · show ((liveOf M owner).map (·.1)).toArray.size = (((liveOf M owner).map (·.2)).map fun i => hs.getD i 0).length
    simp
  · exact Nat.le_of_lt_succ (List.mem_range.mp (r2 x hx))
  · have h1' : (((liveOf M owner).map (·.2)).map fun i => hs.getD i 0)[i]? = some h := h1
    have h2' : ((liveOf M owner).map (·.1))[i]? = some j := h2
    rw [List.getElem?_map, List.getElem?_map] at h1'
    rw [List.getElem?_map] at h2'
    cases hq : (liveOf M owner)[i]? with
    | none => rw [hq] at h2'; cases h2'
    | some q =>
      obtain ⟨y, k⟩ := q
      rw [hq] at h1' h2'
      cases h2'
      have eh : hs.getD k 0 = h := Option.some.inj h1'
      obtain ⟨b1, b2⟩ := (mem_live W.sz).1 (List.mem_of_getElem? hq)
      obtain ⟨h0, K, a1, a2, a3⟩ := W.at_ y k b1 b2
      have e0 : hs.getD k 0 = h0 := by
        rw [Array.getD_eq_getD_getElem?, ← Array.getElem?_toList, a1]
        rfl
      rw [e0] at eh
      subst eh
      refine ⟨K, a2, fun k' hk' => ?_⟩
      show way M h0 k' ∈ (liveOf M owner).map (·.1)
      cases z : oAt owner (way M h0 k') with
      | none => exact absurd z (a3 k' hk')
      | some k2 => exact List.mem_map.mpr ⟨(way M h0 k', k2), (mem_live W.sz).2 ⟨way_top h0 k', z⟩, rfl⟩
/-- how large the new table is -/
theorem above_go (n : Nat) : ∀ (f j : Nat), n < 2 ^ (j + f) → ∃ k, SetTable.sizeAbove.go n f (2 ^ j) = 2 ^ k ∧ j ≤ k ∧ n < 2 ^ k ∧ (k = j ∨ 2 ^ (k - 1) ≤ n)
  | 0, j, h => ⟨j, rfl, Nat.le_refl _, h, .inl rfl⟩
  | f + 1, j, h => by
    unfold SetTable.sizeAbove.go
    by_cases c : 2 ^ j ≤ n
    · rw [if_pos c, ← Nat.pow_succ]
      obtain ⟨k, a, b, d, e⟩ := above_go n f (j + 1) (by rw [show j + 1 + f = j + (f + 1) by omega]; exact h)
      refine ⟨k, a, by omega, d, .inr ?_⟩
      rcases e with rfl | e
      · exact c
      · exact e
    · rw [if_neg c]
      exact ⟨j, rfl, Nat.le_refl _, by omega, .inl rfl⟩
theorem above_ok {n : Nat} (h : n < 8192) : ∃ M, SetTable.sizeAbove n - 1 = M ∧ MOk M ∧ n ≤ M ∧ SetTable.sizeAbove n ≤ 8192 := by
  obtain ⟨k, e, h1, h2, h3⟩ := above_go n 64 3 (Nat.lt_of_lt_of_le h (by decide))
  have e' : SetTable.sizeAbove n = 2 ^ k := e
  have hk : k ≤ 13 := by
    rcases h3 with rfl | h3
    · decide
    · rcases Nat.lt_or_ge 13 k with c | c
      · have : 2 ^ 13 ≤ 2 ^ (k - 1) := Nat.pow_le_pow_right (by decide) (by omega)
        omega
      · exact c
  have hk2 : 2 ^ k ≤ 2 ^ 13 := Nat.pow_le_pow_right (by decide) hk
  have hpos : 0 < 2 ^ k := Nat.pow_pos (by decide)
  exact ⟨2 ^ k - 1, by rw [e'], ⟨k, h1, hk, by omega⟩, by omega, by rw [e']; exact hk2⟩
end GS


set_option maxRecDepth 100000
set_option maxHeartbeats 4000000
namespace GS
open PySem PySem.Spec PyProof.Rows L2

/-! ### tuples of ints and texts as keys -/
abbrev hsh (P : Program) (w : World) (k : List Key) : Int := tupleKeyHash (mixKind P w) k
abbrev IsM (P : Program) (w : World) (h : Heap) (k : List Key) (a : Addr) : Prop := IsTupleKey (mixKind P w) h k a
/-- an int or a text, as a value -/
def Cell (v : Value) : Prop := (∃ i t, v = Value.int i t) ∨ ∃ x t, v = Value.str x t
section
variable {P : Program} {w : World} {A : Around} {E : Value → Shared → Prop} {s : Shared}
theorem cells_of {k : List Key} {vs : List Value} (h : ItemsAre (mixKind P w) k vs) : ∀ v ∈ vs, Cell v := by
  induction h with
  | nil => exact fun v hv => nomatch hv
  | @cons k0 v' ks vs h1 _ ih =>
    intro v hv
    rcases List.mem_cons.mp hv with rfl | hv
    · rcases keyIs_shape h1 with ⟨i, t, _, e⟩ | ⟨x, t, _, e⟩
      · exact .inl ⟨i, t, e⟩
      · exact .inr ⟨x, t, e⟩
    · exact ih v hv
theorem cell_cls (n : Nat) {v : Value} (c : Cell v) : ofAClassStatement n v = pure false := by
  rcases c with ⟨i, t, rfl⟩ | ⟨x, t, rfl⟩ <;> cases n <;> rfl
theorem cell_val (n : Nat) {v : Value} (c : Cell v) : ∃ b, hashByValue n v = pure b := by
  rcases c with ⟨i, t, rfl⟩ | ⟨x, t, rfl⟩ <;> cases n
  · exact ⟨true, rfl⟩
  · exact ⟨true, rfl⟩
  · exact ⟨false, rfl⟩
  · exact ⟨false, rfl⟩
theorem tup_cls {k : List Key} {b : Addr} {Q : Bool → Shared → Prop} (hk : IsM P w s.heap k b) (h : Q false s) : wpAny (model P w) A (ofAClassStatement 8 (.ref b)) Q E s := by
  have hT := hk.typeIs
  obtain ⟨o, items, n, ho, _, hd, hi⟩ := hk
  unfold ofAClassStatement
  refine wpAny_bind (wpAny_typeOf hT ?_)
  dsimp only
  have e : (("tuple" : String) == "tuple") = true := by decide
  simp only [e, if_true, Bool.not_true, Bool.false_eq_true, if_false]
  try refine wpAny_bind (wpAny_pure ?_)
  try simp only [Bool.not_true, Bool.false_eq_true, if_false]
  show wpAny _ _ (seqItems? (.ref b) >>= _) _ _ s
  refine wpAny_bind (wpAny_seqItems ho hd ?_)
  dsimp only
  refine wpAny_bind ?_
  show wpAny _ _ (forIn items _ _) _ _ s
  rw [← Array.forIn_toList]
  refine wpAny_forIn_list _ (fun rest r s' => r.1 = none ∧ s' = s ∧ ∀ v ∈ rest, Cell v) _ ?_ ?_ _ _ ⟨rfl, rfl, cells_of hi⟩
  · rintro v rest r s' ⟨hr, rfl, hall⟩
    rw [cell_cls _ (hall v List.mem_cons_self)]
    refine wpAny_bind (wpAny_pure ?_)
    simp only [Bool.false_eq_true, if_false]
    exact wpAny_pure ⟨rfl, rfl, fun u hu' => hall u (List.mem_cons_of_mem _ hu')⟩
  · rintro ⟨r1, r2⟩ s' ⟨hr, rfl, _⟩
    simp only at hr
    subst hr
    exact wpAny_pure h
theorem tup_val {k : List Key} {b : Addr} {Q : Bool → Shared → Prop} (hk : IsM P w s.heap k b) (h : ∀ c, Q c s) : wpAny (model P w) A (hashByValue 8 (.ref b)) Q E s := by
  have hT := hk.typeIs
  obtain ⟨o, items, n, ho, _, hd, hi⟩ := hk
  unfold hashByValue
  refine wpAny_bind (wpAny_specialOf hT F.slot_tuple_hash.lookup ?_)
  show wpAny _ _ (seqItems? (.ref b) >>= _) _ _ s
  refine wpAny_bind (wpAny_seqItems ho hd ?_)
  refine wpAny_bind ?_
  show wpAny _ _ (forIn items _ _) _ _ s
  rw [← Array.forIn_toList]
  refine wpAny_forIn_list _ (fun rest r s' => r.1 = none ∧ s' = s ∧ ∀ v ∈ rest, Cell v) _ ?_ ?_ _ _ ⟨rfl, rfl, cells_of hi⟩
  · rintro v rest r s' ⟨hr, rfl, hall⟩
    obtain ⟨c, ec⟩ := cell_val 7 (hall v List.mem_cons_self)
    rw [ec]
    refine wpAny_bind (wpAny_pure ?_)
    cases c with
    | true =>
      simp only [Bool.not_true, Bool.false_eq_true, if_false]
      exact wpAny_pure ⟨rfl, rfl, fun u hu' => hall u (List.mem_cons_of_mem _ hu')⟩
    | false =>
      simp only [Bool.not_false, if_true]
      exact wpAny_pure (wpAny_pure (h false))
  · rintro ⟨r1, r2⟩ s' ⟨hr, rfl, _⟩
    simp only at hr
    subst hr
    exact wpAny_pure (h true)
theorem tup_seen {k : List Key} {b : Addr} {Q : Bool → Shared → Prop} (hk : IsM P w s.heap k b) {ys : List Value} (hy : ∀ y ∈ ys, ∃ k' c, y = Value.ref c ∧ IsM P w s.heap k' c) (h : Q false s) : wpAny (model P w) A (searchCouldBeSeen (.ref b) ys) Q E s := by
  unfold searchCouldBeSeen
  refine wpAny_bind ?_
  refine wpAny_forIn_list _ (fun rest r s' => r.1 = none ∧ s' = s ∧ ∀ y ∈ rest, ∃ k' c, y = Value.ref c ∧ IsM P w s.heap k' c) _ ?_ ?_ _ _ ⟨rfl, rfl, hy⟩
  · rintro v rest r s' ⟨hr, rfl, hall⟩
    obtain ⟨k', c, rfl, hc⟩ := hall v List.mem_cons_self
    have rest' : ∀ y ∈ rest, ∃ k' c, y = Value.ref c ∧ IsM P w s'.heap k' c := fun u hu' => hall u (List.mem_cons_of_mem _ hu')
    dsimp only
    by_cases hv : (b == c || (carriedByValue (.ref b) && carriedByValue (.ref c))) = true
    · exact wp_if_pos hv (wpAny_pure ⟨rfl, rfl, rest'⟩)
    · refine wp_if_neg hv ?_
      refine wpAny_bind (wpAny_eqIsQuiet_tuple hk ?_)
      simp only [Bool.not_true, Bool.false_eq_true, if_false]
      refine wpAny_bind (wpAny_eqIsQuiet_tuple hc ?_)
      simp only [Bool.not_true, Bool.false_eq_true, if_false]
      refine wpAny_bind (tup_cls hk ?_)
      simp only [Bool.false_eq_true, if_false]
      refine wpAny_bind (tup_cls hc ?_)
      simp only [Bool.false_eq_true, if_false]
      exact wpAny_pure ⟨rfl, rfl, rest'⟩
  · rintro ⟨r1, r2⟩ s' ⟨hr, rfl, _⟩
    simp only at hr
    subst hr
    exact wpAny_pure h

/-! ### the set -/
abbrev Row := Addr × List Key
def ents (P : Program) (w : World) (L : List Row) : List (Int × Value) := L.map fun p => (hsh P w p.2, Value.ref p.1)
structure St (P : Program) (w : World) (h : Heap) (a : Addr) (L : List Row) (es : Array (Int × Value)) (ep : Nat) (t : SetTable) : Prop where
  ob : ∃ o, h.get? a = some o ∧ o.ExactSet ∧ o.data = .set es ep t
  rows : es.toList = ents P w L
  tab : Tb t (L.map fun p => hsh P w p.2)
  nd : (L.map (·.2)).Nodup
  tup : ∀ p ∈ L, IsM P w h p.2 p.1
  led : w.params.followText "set-order" = true ∨ t.led = true
  room : L.length * 5 < t.mask * 3
  few : L.length < 2048
variable {a : Addr} {L : List Row} {es : Array (Int × Value)} {ep : Nat} {t : SetTable}
theorem ents_len (hr : es.toList = ents P w L) : es.size = L.length := by
  have h := congrArg List.length hr
  unfold ents at h
  rwa [Array.length_toList, List.length_map] at h
theorem St.size (R : St P w s.heap a L es ep t) : es.size = L.length := ents_len R.rows
theorem St.psz (R : St P w s.heap a L es ep t) : t.place.size = L.length := R.tab.sz.trans (List.length_map _)
theorem fits_of (h1 : t.place.size = es.size) (h2 : t.dummies = #[]) (h3 : es.size ≤ t.mask) : t.fits es.size = true := by
  unfold SetTable.fits SetTable.fill
  rw [h2, Bool.and_eq_true, beq_iff_eq, decide_eq_true_eq]
  exact ⟨h1, by show t.place.size + 0 ≤ t.mask; omega⟩
theorem St.fits (R : St P w s.heap a L es ep t) : t.fits es.size = true := fits_of (R.psz.trans R.size.symm) R.tab.dm (by have := R.size; have := R.room; omega)
theorem St.entry (R : St P w s.heap a L es ep t) {i : Nat} {p : Row} (h : L[i]? = some p) : es[i]? = some (hsh P w p.2, Value.ref p.1) := by
  rw [← Array.getElem?_toList, R.rows]
  unfold ents
  rw [List.getElem?_map, h]
  rfl
theorem St.gw (R : St P w s.heap a L es ep t) : ¬ t.gaveWay = true := by
  unfold SetTable.gaveWay
  rw [R.tab.mok.odd]
  decide
/-- the search, from the c-th step on -/
theorem look (R : St P w s.heap a L es ep t) {x : Addr} {k : List Key} (hx : IsM P w s.heap k x) (hu : A.units < cLine) {K : Nat} (hKf : K < 10 * SetTable.turns t.mask)
    (hK : way t.mask (hsh P w k) K ∉ t.place.toList) (hKb : ∀ c, c < K → way t.mask (hsh P w k) c ∈ t.place.toList) {Q : SetFound → Shared → Prop}
    (hin : k ∈ L.map (·.2) → Q (.there none) s) (hout : k ∉ L.map (·.2) → Q (.free (way t.mask (hsh P w k) K) false) s) :
    ∀ (f c : Nat) (stand : Option SetTable.Probe), stand.getD (t.probeStart (hsh P w k)) = nth t.mask (runAt t.mask (SetTable.bits (hsh P w k) % (t.mask + 1)) (SetTable.bits (hsh P w k))) c → c ≤ K → K - c < f →
      (∀ (i : Nat) p, L[i]? = some p → p.2 = k → ∃ c', c ≤ c' ∧ c' < K ∧ t.place.toList[i]? = some (way t.mask (hsh P w k) c')) → wpAny (model P w) A (setSearchFrom a (.ref x) (hsh P w k) true f stand) Q E s
  | 0, c, stand, _, _, hf, _ => absurd hf (Nat.not_lt_zero _)
  | f + 1, c, stand, hst, hc, hf, hre => by
    obtain ⟨o, ho, hex, hd⟩ := R.ob
    rw [setSearchFrom_succ]
    refine wpAny_bind (wpAny_setState_of ho hd R.fits ?_)
    dsimp only
    refine wp_if_neg R.gw ?_
    try refine wpAny_bind (wpAny_pure ?_)
    generalize hH : hsh P w k = hh at hK hKb hin hout hst hre ⊢
    obtain ⟨p0, hp0⟩ : ∃ p0, p0 = nth t.mask (runAt t.mask (SetTable.bits hh % (t.mask + 1)) (SetTable.bits hh)) c := ⟨_, rfl⟩
    have hnd : p0.dummy = none := by
      have key : ∀ (n : Nat) (p : SetTable.Probe), p.dummy = none → (nth t.mask p n).dummy = none := by
        intro n
        induction n with
        | zero => exact fun p h => h
        | succ n ih =>
          intro p h
          refine ih (adv t.mask p) ?_
          unfold adv
          split <;> exact h
      rw [hp0]
      exact key c _ rfl
    have sh : ∀ q, nth t.mask p0 q = nth t.mask (runAt t.mask (SetTable.bits hh % (t.mask + 1)) (SetTable.bits hh)) (c + q) := fun q => by rw [hp0, nth_add]
    have e1 : ∀ q, (nth t.mask p0 q).j = way t.mask hh (c + q) := fun q => congrArg SetTable.Probe.j (sh q)
    have spec := go_spec t R.tab.ris R.tab.dm (fun i => (es[i]?.map (·.1)).getD 0) hh (10 * SetTable.turns t.mask) (K - c) p0 hnd (by omega)
      (fun q hq => by rw [e1]; exact hKb (c + q) (by omega)) (by rw [e1, show c + (K - c) = K by omega]; exact hK)
    have hashAt : ∀ (i : Nat) p, L[i]? = some p → (fun i => (es[i]?.map (·.1)).getD 0) i = hsh P w p.2 := fun i p hp => by
      show (es[i]?.map (·.1)).getD 0 = _
      rw [R.entry hp]
      rfl
    have hpr0 : t.probe (fun i => (es[i]?.map (·.1)).getD 0) hh (stand.getD (t.probeStart hh)) = SetTable.probe.go t (fun i => (es[i]?.map (·.1)).getD 0) hh (10 * SetTable.turns t.mask) p0 := by
      rw [hst, ← hp0]
      rfl
    rcases spec with ⟨q, i, hq, hi, hhi, hno, hpr⟩ | ⟨hno, hpr⟩
    · rw [hpr0, hpr]
      dsimp only
      rw [e1] at hi ⊢
      have hil : i < L.length := by
        have h1 : i < t.place.toList.length := (List.getElem?_eq_some_iff.mp hi).1
        rw [Array.length_toList, R.psz] at h1
        exact h1
      have hp : L[i]? = some L[i] := List.getElem?_eq_getElem hil
      generalize hpe : L[i] = p at hp
      have hmem : p ∈ L := List.mem_of_getElem? hp
      have hpt := R.tup p hmem
      have rest : wpAny (model P w) A (searchRest a (.ref x) hh true f es t (way t.mask hh (c + q)) i (nth t.mask p0 (q + 1))) Q E s := by
        unfold searchRest
        rw [R.entry hp]
        dsimp only
        refine wpAny_bind (wpAny_holding (wpAny_eqBool_tuple hu hpt hx ?_))
        refine wpAny_bind (wpAny_setState_of ho hd R.fits ?_)
        dsimp only
        by_cases hkk : p.2 = k
        · refine wp_if_pos (by simp [hkk]) ?_
          exact wpAny_pure (hin (List.mem_map.mpr ⟨p, hmem, hkk⟩))
        · refine wp_if_neg (by simp [hkk]) ?_
          try refine wpAny_bind (wpAny_pure ?_)
          rw [sameMem]
          dsimp only
          have hsl : t.slot (way t.mask hh (c + q)) = .live i := slot_live R.tab.ris hi
          simp only [if_true, hsl, R.entry hp]
          refine wpAny_bind (wpAny_isSame_ref_self (wpAny_bind (wpAny_pure ?_)))
          simp only [if_true]
          refine wp_if_neg (by simp [hkk]) ?_
          subst hH
          refine look R hx hu hKf hK hKb hin hout f (c + (q + 1)) _ (sh (q + 1)) (by omega) (by omega) fun i0 p0' h0 hk0 => ?_
          obtain ⟨c', a1, a2, a3⟩ := hre i0 p0' h0 hk0
          refine ⟨c', ?_, a2, a3⟩
          rcases Nat.lt_trichotomy c' (c + q) with z | z | z
          · exfalso
            refine hno (c' - c) i0 (by omega) (by rw [e1, show c + (c' - c) = c' by omega]; exact a3) ?_
            exact (hashAt i0 p0' h0).trans (congrArg (hsh P w) hk0)
          · exfalso
            rw [z] at a3
            have s0 := slot_live R.tab.ris a3
            rw [hsl] at s0
            injection s0 with s0
            rw [← s0, hp] at h0
            cases h0
            exact hkk hk0
          · omega
      by_cases hl : t.led = true
      · refine wp_if_neg (by simp [hl]) ?_
        try refine wpAny_bind (wpAny_pure ?_)
        exact rest
      · refine wp_if_pos (by simp [hl]) ?_
        refine wpAny_bind (tup_seen hx (fun y hy => ?_) ?_)
        · obtain ⟨e, he, ee⟩ := List.mem_map.mp hy
          have he1 : e ∈ es ∧ e.1 = hh := by simpa using he
          have he2 : e ∈ es.toList := by simpa using he1.1
          rw [R.rows] at he2
          obtain ⟨p2, hp2, e2⟩ := List.mem_map.mp he2
          exact ⟨p2.2, p2.1, by rw [← ee, ← e2], R.tup p2 hp2⟩
        · refine wp_if_neg (by decide) ?_
          try refine wpAny_bind (wpAny_pure ?_)
          exact rest
    · rw [hpr0, hpr, e1, show c + (K - c) = K by omega]
      dsimp only
      refine wpAny_pure (hout fun hm => ?_)
      obtain ⟨p1, h0, hk0⟩ := List.mem_map.mp hm
      obtain ⟨i0, hi0, e0⟩ := List.getElem_of_mem h0
      have h00 : L[i0]? = some p1 := by rw [List.getElem?_eq_getElem hi0, e0]
      obtain ⟨c', a1, a2, a3⟩ := hre i0 p1 h00 hk0
      refine hno (c' - c) i0 (by omega) (by rw [e1, show c + (c' - c) = c' by omega]; exact a3) ?_
      exact (hashAt i0 p1 h00).trans ((congrArg (hsh P w) hk0).trans hH)
theorem look_at (R : St P w s.heap a L es ep t) {x : Addr} {k : List Key} (hx : IsM P w s.heap k x) (hu : A.units < cLine) {Q : SetFound → Shared → Prop} (hin : k ∈ L.map (·.2) → Q (.there none) s)
    (hout : ∀ K, k ∉ L.map (·.2) → way t.mask (hsh P w k) K ∉ t.place.toList → (∀ c, c < K → way t.mask (hsh P w k) c ∈ t.place.toList) → Q (.free (way t.mask (hsh P w k) K) false) s) :
    wpAny (model P w) A (setSearch a (.ref x) (hsh P w k) true) Q E s := by
  have hroom := R.room
  obtain ⟨K, hKf, hK, hKb⟩ := R.tab.first (by rw [List.length_map]; omega) (hsh P w k)
  have hbig : K < 100000 := by
    have := R.tab.mok.hi
    unfold SetTable.turns at hKf
    omega
  unfold setSearch
  refine look R hx hu hKf hK hKb hin (fun hn => hout K hn hK hKb) 100000 0 none rfl (Nat.zero_le _) (by omega) fun i p hp hk => ?_
  have hi : (L.map fun p => hsh P w p.2)[i]? = some (hsh P w k) := by rw [List.getElem?_map, hp, ← hk]; rfl
  have hil : i < t.place.toList.length := by
    rw [Array.length_toList, R.psz]
    exact (List.getElem?_eq_some_iff.mp hp).1
  have hj := List.getElem?_eq_getElem hil
  obtain ⟨c, hc, e⟩ := R.tab.before hK hi hj
  exact ⟨c, Nat.zero_le _, hc, by rw [hj, e]⟩
/-! ### adding -/
theorem isM_same {h h' : Heap} {k : List Key} {a b : Addr} {o : Obj} {es : Array (Int × Value)} {ep : Nat} {t : SetTable} (hb : IsM P w h k b) (ho : h.get? a = some o) (hd : o.data = .set es ep t) (hs : Heap.SameBut a h h') : IsM P w h' k b := by
  obtain ⟨o', items, n, ho', r, hd', hi⟩ := hb
  have hne : b ≠ a := fun z => by
    subst z
    rw [ho] at ho'
    cases ho'
    rw [hd] at hd'
    cases hd'
  exact ⟨o', items, n, (hs.2 b hne).trans ho', r, hd', hi⟩
theorem ents_ins (L : List Row) (p : Nat) (x : Addr) (k : List Key) : ents P w (L.take p ++ (x, k) :: L.drop p) = (ents P w L).take p ++ (hsh P w k, Value.ref x) :: (ents P w L).drop p := by
  unfold ents
  rw [List.map_append, List.map_cons, List.map_take, List.map_drop]
theorem ents_order (L : List Row) (es : Array (Int × Value)) (order : Array Nat) (hr : es.toList = ents P w L) (hp : order.toList.Perm (List.range L.length)) :
    ∃ L2, (order.filterMap (es[·]?)).toList = ents P w L2 ∧ L2.Perm L ∧ (L2.map fun p => hsh P w p.2) = order.toList.map fun i => (es.map (·.1)).getD i 0 := by
  have hsz := ents_len hr
  have ent : ∀ i (h : i < L.length), es[i]? = some (hsh P w (L[i]).2, Value.ref (L[i]).1) := fun i h => by
    rw [← Array.getElem?_toList, hr]
    unfold ents
    rw [List.getElem?_map, List.getElem?_eq_getElem h]
    rfl
  have key : ∀ l : List Nat, (∀ i ∈ l, i < L.length) → l.filterMap (fun i => es[i]?) = ents P w (l.filterMap fun i => L[i]?) ∧ ((l.filterMap fun i => L[i]?).map fun p => hsh P w p.2) = l.map fun i => (es.map (·.1)).getD i 0 := by
    intro l
    induction l with
    | nil => exact fun _ => ⟨rfl, rfl⟩
    | cons i l ih =>
      intro hl
      have hi := hl i List.mem_cons_self
      obtain ⟨e1, e3⟩ := ih fun j hj => hl j (List.mem_cons_of_mem _ hj)
      have e5 : (es.map (·.1))[i]? = some (hsh P w (L[i]).2) := by rw [Array.getElem?_map, ent i hi]; rfl
      rw [List.filterMap_cons_some (ent i hi), List.filterMap_cons_some (List.getElem?_eq_getElem hi), e1, List.map_cons, List.map_cons, e3, Array.getD_eq_getD_getElem?, e5]
      exact ⟨rfl, rfl⟩
  obtain ⟨e1, e3⟩ := key order.toList fun i hi => List.mem_range.mp (hp.mem_iff.mp hi)
  refine ⟨_, by first | (rw [Array.toList_filterMap]; exact e1) | simpa using e1, ?_, e3⟩
  have h1 := hp.filterMap fun i => L[i]?
  have key2 : ∀ n, n ≤ L.length → (List.range n).filterMap (fun i => L[i]?) = L.take n := by
    intro n
    induction n with
    | zero => exact fun _ => rfl
    | succ n ih =>
      intro hn
      rw [List.range_succ, List.filterMap_append, ih (Nat.le_of_succ_le hn), List.take_succ, List.getElem?_eq_getElem hn, List.filterMap_cons_some (List.getElem?_eq_getElem hn)]
      rfl
  rw [key2 L.length (Nat.le_refl _), List.take_length] at h1
  exact h1
theorem relay {o : Obj} (ho : s.heap.get? a = some o) (hex : o.ExactSet) (hd : o.data = .set es ep t) (hrows : es.toList = ents P w L) (hsz : t.place.size = es.size) (hdm : t.dummies = #[]) (hfl : es.size ≤ t.mask)
    (nd : (L.map (·.2)).Nodup) (tup : ∀ p ∈ L, IsM P w s.heap p.2 p.1) (ld : w.params.followText "set-order" = true ∨ t.led = true) (few : L.length < 2048) {Q : Unit → Shared → Prop}
    (hQ : ∀ h' L' es' ep' t', Heap.SameBut a s.heap h' → St P w h' a L' es' ep' t' → L'.Perm L → Q () { s with heap := h' }) : wpAny (model P w) A (setRelay a (SetTable.grown L.length)) Q E s := by
  have hsl := ents_len hrows
  have eg : SetTable.grown L.length = L.length * 4 := by
    unfold SetTable.grown
    rw [if_neg (by omega)]
  obtain ⟨M, hw, hM, hM4, hM8⟩ := above_ok (n := L.length * 4) (by omega)
  rw [eg]
  have h7 := hM.lo
  obtain ⟨t', order, e, hp, T, em, el, ep'⟩ := laid_ok t (hs := es.map (·.1)) (wanted := L.length * 4) hw hM (by rw [Array.size_map, hsl]; omega)
  rw [Array.size_map, hsl] at hp
  obtain ⟨L2, r1, r2, r3⟩ := ents_order L es order hrows hp
  rw [← r3] at T
  have hs2 : (order.filterMap (es[·]?)).size = es.size := by rw [ents_len r1, r2.length_eq, hsl]
  rw [setRelay_eq]
  refine wpAny_bind (wpAny_setState_of ho hd (fits_of hsz hdm hfl) ?_)
  dsimp only
  refine wp_if_neg (by rw [sizeLine_eq]; omega) ?_
  try refine wpAny_bind (wpAny_pure ?_)
  rw [e]
  dsimp only
  refine wpAny_bind ?_
  refine wp_if_neg (by rw [hs2]; simp) ?_
  try refine wpAny_bind (wpAny_pure ?_)
  refine wpAny_pure ?_
  dsimp only
  refine wpAny_storeSet_of ho hd ?_ (by rw [hs2, hsl, sizeLine_eq]; omega)
  have sb : Heap.SameBut a s.heap (s.heap.update a (Obj.putSet (order.filterMap (es[·]?)) t')) := Heap.SameBut.update ..
  refine hQ _ L2 _ (ep + 1) t' sb ⟨⟨_, store_at ho hd, ⟨hex.1, hex.2.1, hex.2.2⟩, rfl⟩, r1, T, (r2.map (·.2)).nodup_iff.mpr nd, fun p hpm => isM_same (tup p (r2.mem_iff.mp hpm)) ho hd sb, by rw [el]; exact ld, ?_, by rw [r2.length_eq]; exact few⟩ r2
  rw [r2.length_eq, em]
  omega
theorem add (R : St P w s.heap a L es ep t) {x : Addr} {k : List Key} (hx : IsM P w s.heap k x) (hu : A.units < cLine) (hfew : L.length + 1 < 2048) {Q : Bool → Shared → Prop}
    (hQ : ∀ b h' L' es' ep' t', Heap.SameBut a s.heap h' → St P w h' a L' es' ep' t' → (k ∈ L.map (·.2) → L' = L) → (k ∉ L.map (·.2) → L'.Perm ((x, k) :: L)) → Q b { s with heap := h' }) :
    wpAny (model P w) A (setAddHashed a (.ref x) (hsh P w k)) Q E s := by
  obtain ⟨o, ho, hex, hd⟩ := R.ob
  have hsl := R.size
  have hroom := R.room
  have h7 := R.tab.mok.lo
  unfold setAddHashed
  refine wpAny_holding ?_
  rw [show (100000 : Nat) = 99999 + 1 from rfl, setAddHashedIn_succ]
  refine wpAny_bind (wpAny_setState_of ho hd R.fits ?_)
  dsimp only
  refine wp_if_neg (by simp [byScan, Value.scannable]) ?_
  try refine wpAny_bind (wpAny_pure ?_)
  refine wpAny_bind (look_at R hx hu (fun hm => ?_) fun K hm hK hb => ?_)
  · dsimp only
    exact wpAny_pure (hQ false s.heap L es ep t (Heap.SameBut.refl a s.heap) R (fun _ => rfl) fun z => absurd hm z)
  · dsimp only
    refine wpAny_bind (wpAny_setState_of ho hd R.fits ?_)
    dsimp only
    obtain ⟨q2, q3, q9⟩ := R.tab.put hK hb
    have q1 : (t.put (way t.mask (hsh P w k) K)).2 = SetTable.below t.place (way t.mask (hsh P w k) K) := rfl
    have q4 : (t.put (way t.mask (hsh P w k) K)).1.mask = t.mask := rfl
    have q5 : (t.put (way t.mask (hsh P w k) K)).1.led = t.led := rfl
    generalize hpt : t.put (way t.mask (hsh P w k) K) = pt at q1 q3 q4 q5 q9 ⊢
    obtain ⟨t1, p⟩ := pt
    dsimp only at q1 q3 q4 q5 q9 ⊢
    subst q1
    have byv : ∀ (kk : Bool → Sem Bool) (Q' : Bool → Shared → Prop), (∀ c, wpAny (model P w) A (kk c) Q' E s) → wpAny (model P w) A (if t1.plain = true then (hashByValue 8 (.ref x) >>= kk) else (pure true >>= kk)) Q' E s := fun kk Q' hq => by
      by_cases hp : t1.plain = true
      · exact wp_if_pos hp (wpAny_bind (tup_val hx hq))
      · exact wp_if_neg hp (wpAny_bind (wpAny_pure (hq true)))
    refine byv _ _ fun c => ?_
    obtain ⟨t2, ht2⟩ : ∃ t2, t2 = (if c = true then t1 else { t1 with plain := false }) := ⟨_, rfl⟩
    rw [← ht2]
    have q3' : Tb t2 (List.take (SetTable.below t.place (way t.mask (hsh P w k) K)) (List.map (fun p => hsh P w p.2) L) ++ hsh P w k :: List.drop (SetTable.below t.place (way t.mask (hsh P w k) K)) (List.map (fun p => hsh P w p.2) L)) := by
      rw [ht2]
      cases c with
      | true => exact q3
      | false => exact ⟨q3.ris, q3.dm, q3.sz, q3.mok, q3.bd, q3.got⟩
    have q4' : t2.mask = t.mask := by rw [ht2]; cases c <;> exact q4
    have q5' : t2.led = t.led := by rw [ht2]; cases c <;> exact q5
    have q9' : t2.fill = (L.map fun p => hsh P w p.2).length + 1 := by rw [ht2]; cases c <;> exact q9
    clear ht2 q3 q4 q5 q9 byv
    have q3 := q3'
    have q4 := q4'
    have q5 := q5'
    have q9 := q9'
    clear q3' q4' q5' q9'
    generalize t2 = t1 at q3 q4 q5 q9 ⊢
    have hin : (SetTable.insertAt es (SetTable.below t.place (way t.mask (hsh P w k) K)) (hsh P w k, Value.ref x)).toList = ents P w (L.take (SetTable.below t.place (way t.mask (hsh P w k) K)) ++ (x, k) :: L.drop (SetTable.below t.place (way t.mask (hsh P w k) K))) := by
      rw [SetTable.toList_insertAt, ents_ins, R.rows]
    generalize SetTable.below t.place (way t.mask (hsh P w k) K) = p at q2 q3 hin ⊢
    have pm := put_perm L p (x, k)
    have hlen : (L.take p ++ (x, k) :: L.drop p).length = L.length + 1 := pm.length_eq
    have hhs : (L.take p ++ (x, k) :: L.drop p).map (fun p => hsh P w p.2) = (L.map fun p => hsh P w p.2).take p ++ hsh P w k :: (L.map fun p => hsh P w p.2).drop p := by
      rw [List.map_append, List.map_cons, List.map_take, List.map_drop]
    rw [← hhs] at q3
    have nd1 : ((L.take p ++ (x, k) :: L.drop p).map (·.2)).Nodup := by
      refine (pm.map (·.2)).nodup_iff.mpr ?_
      exact List.nodup_cons.mpr ⟨hm, R.nd⟩
    have hes := (ents_len hin).trans hlen
    generalize SetTable.insertAt es p (hsh P w k, Value.ref x) = es1 at hin hes ⊢
    generalize L.take p ++ (x, k) :: L.drop p = L1 at pm hlen q3 nd1 hin
    refine wpAny_bind (wpAny_storeSet_of ho hd ?_ (by rw [hes, sizeLine_eq]; omega))
    have sb : Heap.SameBut a s.heap (s.heap.update a (Obj.putSet es1 t1)) := Heap.SameBut.update ..
    have ho1 := store_at (es' := es1) (t' := t1) ho hd
    generalize s.heap.update a (Obj.putSet es1 t1) = h1 at sb ho1 ⊢
    have tup1 : ∀ p ∈ L1, IsM P w h1 p.2 p.1 := fun p hp => by
      rcases List.mem_cons.mp (pm.mem_iff.mp hp) with e | hp
      · rw [e]; exact isM_same hx ho hd sb
      · exact isM_same (R.tup p hp) ho hd sb
    have ld1 : w.params.followText "set-order" = true ∨ t1.led = true := by rw [q5]; exact R.led
    rw [List.length_map] at q9
    by_cases hf : t1.tooFull = true
    · first
        | (refine wpAny_bind ?_; refine wp_if_pos (by simp [hf]) ?_)
        | (refine wp_if_pos (by simp [hf]) ?_; refine wpAny_bind ?_)
      have hsz1 : t1.place.size = es1.size := by
        have h := q3.sz
        rw [List.length_map, hlen] at h
        rw [h, hes]
      have hgl : es.size + 1 = L1.length := by rw [hsl, hlen]
      rw [hgl]
      refine relay (s := { s with heap := h1 }) ho1 ⟨hex.1, hex.2.1, hex.2.2⟩ rfl hin hsz1 q3.dm (by rw [hes, q4]; omega) nd1 tup1 ld1 (by rw [hlen]; exact hfew) ?_
      intro h2 L2 es2 ep2 t2 sb2 R2 pm2
      exact wpAny_pure (hQ true h2 L2 es2 ep2 t2 (sb.trans sb2) R2 (fun z => absurd z hm) fun _ => pm2.trans pm)
    · first
        | refine wp_if_neg (by simp [hf]) ?_
        | (refine wpAny_bind ?_; refine wp_if_neg (by simp [hf]) ?_; refine wpAny_pure ?_)
      refine wpAny_pure (hQ true h1 L1 es1 (ep + 1) t1 sb ⟨⟨_, ho1, ⟨hex.1, hex.2.1, hex.2.2⟩, rfl⟩, hin, q3, nd1, tup1, ld1, ?_, by rw [hlen]; exact hfew⟩ (fun z => absurd z hm) fun _ => pm)
      have h := hf
      unfold SetTable.tooFull at h
      rw [decide_eq_true_eq, q9] at h
      rw [hlen]
      omega
end
end GS


set_option maxRecDepth 100000
set_option maxHeartbeats 4000000
namespace GS
open PySem PySem.Spec PyProof.Rows L2

/-- what the set holds behind the first i of ks -/
structure Had (ks : List Row) (i : Nat) (L : List Row) : Prop where
  sub : ∀ p ∈ L, p ∈ ks.take i
  all : ∀ p ∈ ks.take i, p.2 ∈ L.map (·.2)
  len : L.length ≤ i
theorem take_one {α : Type} {l : List α} {i : Nat} {x : α} (h : l[i]? = some x) : l.take (i + 1) = l.take i ++ [x] := by
  rw [List.take_succ, h]
  rfl
theorem Had.next {ks L L' : List Row} {i : Nat} {x : Row} (g : Had ks i L) (h : ks[i]? = some x) (c1 : x.2 ∈ L.map (·.2) → L' = L) (c2 : x.2 ∉ L.map (·.2) → L'.Perm (x :: L)) : Had ks (i + 1) L' := by
  have e := take_one h
  rcases Classical.em (x.2 ∈ L.map (·.2)) with c | c
  · rw [c1 c]
    refine ⟨fun p hp => by rw [e]; exact List.mem_append_left _ (g.sub p hp), fun p hp => ?_, Nat.le_succ_of_le g.len⟩
    rw [e] at hp
    rcases List.mem_append.mp hp with z | z
    · exact g.all p z
    · rw [List.mem_singleton.mp z]; exact c
  · have pm := c2 c
    refine ⟨fun p hp => ?_, fun p hp => ?_, by rw [pm.length_eq]; exact Nat.succ_le_succ g.len⟩
    · rw [e]
      rcases List.mem_cons.mp (pm.mem_iff.mp hp) with rfl | z
      · exact List.mem_append_right _ (List.mem_singleton.mpr rfl)
      · exact List.mem_append_left _ (g.sub p z)
    · rw [(pm.map (·.2)).mem_iff]
      rw [e] at hp
      rcases List.mem_append.mp hp with z | z
      · exact List.mem_cons_of_mem _ (g.all p z)
      · rw [List.mem_singleton.mp z]; exact List.mem_cons_self
section
variable {P : Program} {w : World} {A : Around} {E : Value → Shared → Prop} {s : Shared}
theorem isM_keep {h h' : Heap} {k : List Key} {b : Addr} (x : IsM P w h k b) (hk : ∀ c o, h.get? c = some o → h'.get? c = some o) : IsM P w h' k b := by
  obtain ⟨o, items, n, ho, r⟩ := x
  exact ⟨o, items, n, hk b o ho, r⟩
theorem St.keep {h h' : Heap} {a : Addr} {L : List Row} {es : Array (Int × Value)} {ep : Nat} {t : SetTable} (R : St P w h a L es ep t) (ha : ∀ o, h.get? a = some o → h'.get? a = some o) (ht : ∀ p ∈ L, IsM P w h' p.2 p.1) : St P w h' a L es ep t := by
  obtain ⟨o, ho, r⟩ := R.ob
  exact ⟨⟨o, ha o ho, r⟩, R.rows, R.tab, R.nd, ht, R.led, R.room, R.few⟩
abbrev newSet (w : World) : Obj := { cls := .type "set", dict := none, data := .set #[] 0 (.fresh 0 0 (!w.params.followText "set-order")) }
theorem st_new {h : Heap} {a : Addr} (ho : h.get? a = some (newSet w)) : St P w h a [] #[] 0 (.fresh 0 0 (!w.params.followText "set-order")) where
  ob := ⟨_, ho, ⟨rfl, rfl, rfl⟩, rfl⟩
  rows := rfl
  tab := ⟨List.Pairwise.nil, rfl, rfl, ⟨3, by decide, by decide, rfl⟩, fun x hx => (by cases hx), fun i h j hi => (by simp at hi)⟩
  nd := List.nodup_nil
  tup := fun p hp => (by cases hp)
  led := by
    show _ ∨ (!w.params.followText "set-order") = true
    cases w.params.followText "set-order"
    · exact .inr rfl
    · exact .inl rfl
  room := by show 0 * 5 < 7 * 3; decide
  few := by show 0 < 2048; decide
/-- the loop of set.update -/
theorem update_loop {I : Addr} {fp wr : List Addr} {G : Array GenState → Array GenState → Prop} {n : Nat} {Pv : Nat → Value → Prop} {Sx : Nat → Shared → Prop} {R : Result → Shared → Prop}
    (W : WalksS P w A.in1 I fp wr G n Pv Sx) (S : Addr) (hSf : S ∉ fp) (ks : List Row) (hn : n = ks.length) (hfew : ks.length < 2048) (hval : ∀ i v, Pv i v → ∃ p, ks[i]? = some p ∧ v = .ref p.1)
    (h0 : Heap) (hk : ∀ p ∈ ks, IsM P w h0 p.2 p.1) (hS0 : h0.get? S = none) (hw0 : ∀ b ∈ wr, h0.get? b = none) (hu : A.in1.units < cLine) :
    ∀ (k i : Nat) (s : Shared), n - i = k → i ≤ n → Sx i s → (∀ b o, h0.get? b = some o → s.heap.get? b = some o) → (∃ L es ep t, St P w s.heap S L es ep t ∧ Had ks i L) →
      (∀ s' L es ep t, Moved (S :: wr) G s s' → St P w s'.heap S L es ep t → Had ks n L → (∀ b o, h0.get? b = some o → s'.heap.get? b = some o) → R (.ok (.ret .none)) s') →
      codeAny (model P w) A (.builtin "set.update.loop" ⟨[.ref S, .ref I], []⟩) R s := by
  have hSw : S ∉ wr := fun h => hSf (W.sub _ h)
  have hsub : ∀ b ∈ wr, b ∈ S :: wr := fun b hb => List.mem_cons_of_mem _ hb
  have keepM : ∀ {s s' : Shared}, Moved wr G s s' → (∀ b o, h0.get? b = some o → s.heap.get? b = some o) → ∀ b o, h0.get? b = some o → s'.heap.get? b = some o := fun hm hkp b o e =>
    hm.heap b o (fun hb => by rw [hw0 b hb] at e; cases e) (hkp b o e)
  intro k
  induction k with
  | zero =>
    intro i s hk' hi hst hkp ⟨L, es, ep, t, hS, g⟩ hR
    have hin : i = n := by omega
    subst hin
    refine codeAny_builtin F.entry_set_update_loop ?_
    rw [Around.under_plainId F.plain_set_update_loop _]
    show wpAny _ A.in1 (pyNext (.ref I) >>= _) _ _ s
    refine wpAny_bind (W.done s _ _ hst fun s' hm => ?_)
    show wpAny _ A.in1 (ret Value.none) _ _ s'
    have hkp' := keepM hm hkp
    exact wpAny_pure (hR s' L es ep t (hm.mono hsub) (hS.keep (fun o e => hm.heap S o hSw e) fun p hp => isM_keep (hk p (List.mem_of_mem_take (g.sub p hp))) hkp') g hkp')
  | succ k ih =>
    intro i s hk' hi hst hkp ⟨L, es, ep, t, hS, g⟩ hR
    have hlt : i < n := by omega
    refine codeAny_builtin F.entry_set_update_loop ?_
    rw [Around.under_plainId F.plain_set_update_loop _]
    show wpAny _ A.in1 (pyNext (.ref I) >>= _) _ _ s
    refine wpAny_bind (W.item i s _ _ hlt hst fun v s' hP hst' hm => ?_)
    obtain ⟨p, hp, rfl⟩ := hval i v hP
    have hkp' := keepM hm hkp
    have hS' : St P w s'.heap S L es ep t := hS.keep (fun o e => hm.heap S o hSw e) fun q hq => isM_keep (hk q (List.mem_of_mem_take (g.sub q hq))) hkp'
    have hx : IsM P w s'.heap p.2 p.1 := isM_keep (hk p (List.mem_of_getElem? hp)) hkp'
    show wpAny _ A.in1 (holding [Value.ref p.1] (setAdd S (.ref p.1)) >>= _) _ _ s'
    refine wpAny_bind (wpAny_holding ?_)
    unfold setAdd
    refine wpAny_holding ?_
    refine wpAny_bind (wpAny_pyHash_tuple hu hx ?_)
    refine add (s := { s' with toks := s'.toks + (p.2.length + 1) }) hS' hx hu (by have := g.len; omega) fun b h' L' es' ep' t' hsb hS2 c1 c2 => ?_
    have hkp2 : ∀ b o, h0.get? b = some o → h'.get? b = some o := fun b o e => (hsb.2 b (fun z => by rw [z, hS0] at e; cases e)).trans (hkp' b o e)
    refine wpAny_pure ⟨plainId_quiet F.plain_set_update_loop _, ih (i + 1) _ (by omega) hlt (W.frame _ s' _ _ hst' (Nat.le_add_right _ _) fun b hb o e => ?_) hkp2 ⟨L', es', ep', t', hS2, g.next hp c1 c2⟩ fun s'' L2 es2 ep2 t2 hm'' hS'' g'' hkp'' => ?_⟩
    · rw [hsb.2 b fun z => hSf (z ▸ hb)]; exact e
    · refine hR s'' L2 es2 ep2 t2 (Moved.trans W.gtrans ((hm.mono hsub).then_heap (Nat.le_add_right _ _) fun b o hb e => ?_) hm'') hS'' g'' hkp''
      rw [hsb.2 b fun z => hb (z ▸ List.mem_cons_self)]; exact e
/-- set(xs), xs a tuple of such tuples -/
theorem call_set {l : Addr} {items : Array Value} (ks : List Row) {Q : Value → Shared → Prop} (hh : A.handled = none) (hl : s.heap.IsTuple l items) (hit : items.toList = ks.map fun p => Value.ref p.1)
    (hk : ∀ p ∈ ks, IsM P w s.heap p.2 p.1) (hfew : ks.length < 2048) (hu : A.units + 3 < cLine)
    (h : ∀ (h' : Heap) (tk : Nat) L es ep t, St P w h' s.heap.objs.size L es ep t → Had ks ks.length L → (∀ b o, s.heap.get? b = some o → h'.get? b = some o) → Q (.ref s.heap.objs.size) { s with heap := h', toks := tk }) :
    wpAny (model P w) A (call (.type "set") [.ref l]) Q E s := by
  have hisz : items.size = ks.length := by
    have q := congrArg List.length hit
    rwa [Array.length_toList, List.length_map] at q
  obtain ⟨c, tl, hmro⟩ := F.called_set.mro
  have hmade := F.called_set.made
  have hsub := F.called_set.sub
  refine wpAny_call (codeAny_of_tree ?_)
  show wpAny _ _ (callAny (.type "set") _) _ _ _
  refine wpAny_pure ⟨Code.quiet_builtin _ (by decide +kernel), codeAny_builtin F.entry_type_call ?_⟩
  rw [Around.under_plain (weight_type_call_type "set" [.ref l] []) rfl]
  have h1 := F.called_set.notType
  have h2 := F.called_set.canCreate
  have hct := F.typeCall_set_1 (.ref l)
  repeat (any_goals (first | assumption | wp_step))
  refine codeAny_mono (code_set_led1 (.ref l) (E := E) (Q₁ := fun obj s₁ => obj = .ref s.heap.objs.size ∧ s₁ = { s with heap := s.heap.push (newSet w) }) ⟨rfl, rfl⟩) fun r s₁ hr => ?_
  cases r with
  | error e => exact hr
  | ok fl =>
    cases fl with
    | ret obj =>
      obtain ⟨rfl, rfl⟩ := hr
      have hS : (s.heap.push (newSet w)).get? s.heap.objs.size = some (newSet w) := Heap.get?_push_size _ rfl
      have hT : Shared.TypeIs { s with heap := s.heap.push (newSet w) } (.ref s.heap.objs.size) "set" := ⟨_, hS, rfl⟩
      have hli := F.called_set.init.lookup
      have hbi := F.called_set.init.bind (.ref s.heap.objs.size)
      repeat (any_goals (first | assumption | wp_step))
      refine codeAny_mono (codeAny_call_builtin (R := wants (fun r s₂ => r = .none ∧ ∃ h' tk L es ep t, s₂ = { s with heap := h', toks := tk } ∧ St P w h' s.heap.objs.size L es ep t ∧ Had ks ks.length L ∧
          (∀ b o, s.heap.get? b = some o → h'.get? b = some o)) E) F.called_set.init.plain F.entry_set_init (check_set_init_1 hT ?_)) fun r₂ s₂ hr₂ => ?_
      · obtain ⟨ol, hol, hcl, nl, hdl⟩ := hl
        obtain ⟨ocls, odict, odata, oslots⟩ := ol
        simp only at hcl hdl
        subst hcl; subst hdl
        have hol' : (s.heap.push (newSet w)).get? l = some { cls := .type "tuple", dict := odict, data := .seq items nl, slots := oslots } := Heap.get?_push_of_some _ hol
        have hl1 : (s.heap.push (newSet w)).IsTuple l items := ⟨_, hol', rfl, nl, rfl⟩
        have hne : (Value.type "tuple" == Value.type "dict") = false := by decide
        have hsls : isSubtype (.type "tuple") (.type "set") = pure false := by kernel_rfl
        have hslf : isSubtype (.type "tuple") (.type "frozenset") = pure false := by kernel_rfl
        unfold Builtin.«set.__init__» noKeywords Builtin.Frozenset.updateFrom
        generalize hPI : pyIter = PI
        wp_walk
        subst hPI
        refine wpAny_pyIter_tuple hl1 ?_
        refine wpAny_bind (wpAny_runValue ?_)
        have hlS : l < s.heap.objs.size := Heap.lt_size hol
        have hh3 : A.in1.in1.in1.handled = none := by simp [hh]
        have hneI : l ≠ (s.heap.push (newSet w)).objs.size := by rw [Heap.size_push]; exact Nat.ne_of_lt (Nat.lt_succ_of_lt hlS)
        have hSf : s.heap.objs.size ∉ [(s.heap.push (newSet w)).objs.size, l] := by
          rw [Heap.size_push]; simp only [List.mem_cons, List.not_mem_nil, or_false, not_or]
          exact ⟨Nat.ne_of_lt (Nat.lt_succ_self _), Nat.ne_of_gt hlS⟩
        have hval : ∀ (i : Nat) (v : Value), items[i]? = some v → ∃ p, ks[i]? = some p ∧ v = .ref p.1 := fun i v hv => by
          have q : items.toList[i]? = some v := by rw [Array.getElem?_toList]; exact hv
          rw [hit, List.getElem?_map] at q
          cases hq : ks[i]? with
          | none => rw [hq] at q; cases q
          | some p =>
            rw [hq] at q
            exact ⟨p, rfl, (Option.some.inj q).symm⟩
        have none_of : ∀ b, s.heap.objs.size ≤ b → s.heap.get? b = none := fun b hb => by
          cases q : s.heap.get? b with
          | none => rfl
          | some o => exact absurd (Nat.lt_of_lt_of_le (Heap.lt_size q) hb) (Nat.lt_irrefl _)
        refine update_loop ((Walks.tuple hh3 _ l hneI items).toS) s.heap.objs.size
          hSf ks hisz hfew hval s.heap hk (none_of _ (Nat.le_refl _)) (fun b hb => none_of b (by
            rw [List.mem_singleton.mp hb, Heap.size_push]
            exact Nat.le_succ _)) hu (items.size - 0) 0 _ (by omega) (Nat.zero_le _)
          ⟨⟨_, Heap.get?_push_size _ rfl, rfl, rfl⟩, (hl1.push _)⟩ (fun b o e => Heap.get?_push_of_some _ (Heap.get?_push_of_some _ e)) ?hS0 ?hR
        case hS0 =>
          exact ⟨[], #[], 0, _, st_new (Heap.get?_push_of_some _ hS), ⟨(fun p h => nomatch h), (fun p h => by simp at h), Nat.le_refl _⟩⟩
        case hR =>
          intro s' L es ep t hm hS' g' hkp
          obtain ⟨h', g2, d', tk', os'⟩ := s'
          have eg : g2 = s.gens := hm.gens
          have ed : d' = s.drawn := hm.drawn
          have eo : os' = s.os := hm.os
          subst eg; subst ed; subst eo
          show wpAny _ _ _ _ _ _
          refine wpAny_pure ?_
          show wpAny _ _ (ret Value.none) _ _ _
          rw [hisz] at g'
          exact wpAny_pure ⟨rfl, h', tk', L, es, ep, t, rfl, hS', g', hkp⟩
      · cases r₂ with
        | error e => exact hr₂
        | ok fl₂ =>
          cases fl₂ with
          | ret r =>
            obtain ⟨rfl, h', tk, L, es, ep, t, rfl, hS', g', hk'⟩ := hr₂
            repeat (any_goals (first | assumption | wp_step))
            exact h _ _ _ _ _ _ hS' g' hk'
          | _ => exact hr₂.elim
    | _ => exact hr.elim
end
end GS


set_option maxRecDepth 100000
set_option maxHeartbeats 4000000
namespace GS
open PySem PySem.Spec PyProof.Rows L2

/-! ### sorted(set): the tuples in ascending order -/
/-- a key as the sort compares it -/
def ky1 : Key → Int ⊕ List Nat
  | .inl i => .inl i
  | .inr x => .inr x.cps.toList
def ky (k : List Key) : List (Int ⊕ List Nat) := k.map ky1
theorem ky1_inj : ∀ {a b : Key}, ky1 a = ky1 b → a = b
  | .inl i, .inl j, h => by injection h with h; rw [h]
  | .inl i, .inr y, h => by cases h
  | .inr x, .inl j, h => by cases h
  | .inr x, .inr y, h => by
    injection h with h
    have hc : x.cps = y.cps := Array.toList_inj.mp h
    cases x; cases y
    simp only at hc
    subst hc
    rfl
theorem ky_inj : ∀ {a b : List Key}, ky a = ky b → a = b
  | [], [], _ => rfl
  | [], b :: bs, h => by cases h
  | a :: as, [], h => by cases h
  | a :: as, b :: bs, h => by
    have h' : ky1 a :: ky as = ky1 b :: ky bs := h
    injection h' with h1 h2
    rw [ky1_inj h1, ky_inj h2]
/-- each item is of the sort that its place says -/
def Shp (shape : Nat → Bool) : Nat → List Key → Prop
  | _, [] => True
  | i, .inl _ :: r => shape i = false ∧ Shp shape (i + 1) r
  | i, .inr _ :: r => shape i = true ∧ Shp shape (i + 1) r
/-- ascending order of keys -/
def kLt (a b : List Key) : Bool := lexLt itemOrd (ky a) (ky b)
theorem kLt_total {a b : List Key} (h1 : kLt a b = false) (h2 : kLt b a = false) : a = b := ky_inj (lex_total (O := itemOrd) _ _ h1 h2)
theorem swo_of {α : Type} (f : α → List (Int ⊕ List Nat)) : SrtO.Swo fun v u => lexLt itemOrd (f v) (f u) := by
  refine ⟨fun x y h => ?_, fun x y z h1 h2 => ?_⟩
  · cases e : lexLt itemOrd (f y) (f x) with
    | false => rfl
    | true =>
      have q := lex_trans (O := itemOrd) _ _ _ h e
      rw [lex_irrefl (O := itemOrd)] at q
      cases q
  · cases e : lexLt itemOrd (f z) (f x) with
    | false => rfl
    | true =>
      rcases lex_negTrans (O := itemOrd) _ (f y) _ e with q | q
      · rw [h2] at q; cases q
      · rw [h1] at q; cases q
section
variable {P : Program} {w : World} {A : Around} {E : Value → Shared → Prop} {s : Shared}
theorem items_ky {shape : Nat → Bool} : ∀ {k : List Key} {vs : List Value} {i : Nat}, ItemsAre (mixKind P w) k vs → Shp shape i k → tupItems shape i vs = some (ky k)
  | [], vs, i, h, _ => by
    cases h
    simp [tupItems, ky]
  | k0 :: ks, vs, i, h, hs => by
    cases h with
    | @cons _ v _ vs' h1 h2 =>
      rcases keyIs_shape h1 with ⟨j, t, e1, e2⟩ | ⟨x, t, e1, e2⟩
      · subst e1; subst e2
        have q := items_ky h2 hs.2
        rw [tupItems, if_neg (by rw [hs.1]; exact Bool.false_ne_true), q]
        rfl
      · subst e1; subst e2
        have q := items_ky h2 hs.2
        rw [tupItems, if_pos hs.1, q]
        rfl
theorem key_ky {shape : Nat → Bool} {h : Heap} {k : List Key} {b : Addr} (x : IsM P w h k b) (hs : Shp shape 0 k) : tupKey h shape (.ref b) = some (ky k) := by
  obtain ⟨o, items, n, ho, hc, hd, hi⟩ := x
  rw [tupKey]
  simp only [ho, hd]
  exact items_ky hi hs
theorem tup_of {shape : Nat → Bool} {h : Heap} {k : List Key} {b : Addr} (x : IsM P w h k b) (hs : Shp shape 0 k) (hne : k ≠ []) : ∃ f, TupOf h shape (.ref b) f := by
  obtain ⟨o, items, n, ho, hc, hd, hi⟩ := x
  match k, hne with
  | k0 :: ks, _ =>
    obtain ⟨vs, hvs⟩ : ∃ vs, vs = items.toList := ⟨_, rfl⟩
    rw [← hvs] at hi
    cases hi with
    | @cons _ v _ vs' h1 h2 =>
      have hf : items[0]? = some v := by
        rw [← Array.getElem?_toList, ← hvs]; rfl
      refine ⟨v, b, o, items, n, rfl, ho, hc, hd, hf, fun e => ?_, fun e => ?_⟩
      · rcases keyIs_shape h1 with ⟨j, t, e1, e2⟩ | ⟨x, t, e1, e2⟩
        · exact ⟨j, t, e2⟩
        · subst e1; rw [hs.1] at e; cases e
      · rcases keyIs_shape h1 with ⟨j, t, e1, e2⟩ | ⟨x, t, e1, e2⟩
        · subst e1; rw [hs.1] at e; cases e
        · exact ⟨x, t, e2⟩
theorem tups_of {shape : Nat → Bool} {h : Heap} : ∀ {vs : List Value}, (∀ v ∈ vs, ∃ f, TupOf h shape v f) → ∃ fs, TupsOf h shape vs fs ∧ fs.length = vs.length
  | [], _ => ⟨[], .nil, rfl⟩
  | v :: vs, hv => by
    obtain ⟨f, hf⟩ := hv v List.mem_cons_self
    obtain ⟨fs, h1, h2⟩ := tups_of fun u hu => hv u (List.mem_cons_of_mem _ hu)
    exact ⟨f :: fs, .cons hf h1, by rw [List.length_cons, List.length_cons, h2]⟩
/-- the key of a value of the heap -/
def kv (h : Heap) (shape : Nat → Bool) (v : Value) : List (Int ⊕ List Nat) := (tupKey h shape v).getD []
theorem tups_cmp {shape : Nat → Bool} {h0 : Heap} {vs : List Value} (hv : ∀ v ∈ vs, ∃ b k, v = Value.ref b ∧ IsM P w h0 k b ∧ IsM P w s.heap k b ∧ Shp shape 0 k) :
    SrtO.Cmp P w A s (tuples' true) (fun p => p.1 ∈ vs) (SrtO.lt2 fun v u => lexLt itemOrd (kv h0 shape v) (kv h0 shape u)) := by
  intro p q hp hq
  obtain ⟨b, k, e, x0, x, hs⟩ := hv _ hp
  obtain ⟨c, l, e', y0, y, hs'⟩ := hv _ hq
  refine tup_ltAt (shape := shape) true A _ p.1 q.1 (ky k) (ky l) ?_ ?_ ⟨rfl, ?_⟩
  · rw [e]; exact key_ky x hs
  · rw [e']; exact key_ky y hs'
  · show lexLt itemOrd (ky k) (ky l) = lexLt itemOrd (kv h0 shape p.1) (kv h0 shape q.1)
    rw [e, e', kv, kv, key_ky x0 hs, key_ky y0 hs']
    rfl
theorem tups_sortable {shape : Nat → Bool} {h0 : Heap} {a : Addr} {vs : List Value} (h0v : 0 < vs.length) (hv : ∀ v ∈ vs, ∃ b k, v = Value.ref b ∧ b ≠ a ∧ IsM P w h0 k b ∧ IsM P w s.heap k b ∧ Shp shape 0 k ∧ k ≠ []) :
    SrtO.SortableO P w A s a vs fun v u => lexLt itemOrd (kv h0 shape v) (kv h0 shape u) := by
  intro h' keep
  have hk : ∀ v ∈ vs, ∃ b k, v = Value.ref b ∧ IsM P w h0 k b ∧ IsM P w h' k b ∧ Shp shape 0 k ∧ k ≠ [] := fun v hm => by
    obtain ⟨b, k, e, hb, x0, x, hs, hn⟩ := hv v hm
    refine ⟨b, k, e, x0, ?_, hs, hn⟩
    obtain ⟨o, items, n, ho, r⟩ := x
    exact ⟨o, items, n, keep b o hb ho, r⟩
  obtain ⟨fs, h1, h2⟩ := tups_of (h := h') (shape := shape) (vs := vs) fun v hm => by
    obtain ⟨b, k, e, x0, x, hs, hn⟩ := hk v hm
    rw [e]
    exact tup_of x hs hn
  refine ⟨tuples' true, fun Q E hq => tup_kind (s := { s with heap := h' }) (shape := shape) (by omega) h1 hq, ?_⟩
  exact tups_cmp (s := { s with heap := h' }) fun v hm => by
    obtain ⟨b, k, e, x0, x, hs, hn⟩ := hk v hm
    exact ⟨b, k, e, x0, x, hs⟩
end
end GS


set_option maxRecDepth 100000
set_option maxHeartbeats 4000000
namespace GS
open PySem PySem.Spec PyProof.Rows L2

section
variable {P : Program} {w : World} {A : Around} {E : Value → Shared → Prop} {s : Shared}
/-- values that are the addresses of rows -/
theorem rows_of {L : List Row} : ∀ {vs : List Value}, (∀ v ∈ vs, ∃ q ∈ L, v = Value.ref q.1) → ∃ L1 : List Row, vs = L1.map (fun q => Value.ref q.1) ∧ ∀ q ∈ L1, q ∈ L
  | [], _ => ⟨[], rfl, fun q hq => (by cases hq)⟩
  | v :: vs, hv => by
    obtain ⟨q, hq, e⟩ := hv v List.mem_cons_self
    obtain ⟨L1, e1, hs⟩ := rows_of (vs := vs) fun u hu => hv u (List.mem_cons_of_mem _ hu)
    refine ⟨q :: L1, by rw [List.map_cons, e, e1], fun r hr => ?_⟩
    rcases List.mem_cons.mp hr with z | z
    · rw [z]; exact hq
    · exact hs r z
theorem perm_rows {L L1 : List Row} (one : ∀ q ∈ L, ∀ r ∈ L, q.1 = r.1 → q = r) (nL : L.Nodup) (hs : ∀ q ∈ L1, q ∈ L) (pm1 : (L1.map (fun q => Value.ref q.1)).Perm (L.map fun q => Value.ref q.1)) : L1.Perm L := by
  have nref : (L.map fun q => Value.ref q.1).Nodup := by
    refine List.pairwise_map.mpr (List.Pairwise.imp_of_mem (fun {q r} hq hr hne e => ?_) nL)
    injection e with e
    exact hne (one q hq r hr e)
  have n1 : L1.Nodup := nodup_of_map (pm1.nodup_iff.mpr nref)
  refine (List.perm_ext_iff_of_nodup n1 nL).mpr fun q => ⟨hs q, fun hq => ?_⟩
  have hm : Value.ref q.1 ∈ L1.map (fun q => Value.ref q.1) := pm1.mem_iff.mpr (List.mem_map.mpr ⟨q, hq, rfl⟩)
  obtain ⟨r, hr, e⟩ := List.mem_map.mp hm
  injection e with e
  rw [← one r (hs r hr) q hq e]
  exact hr
theorem sorted_set {a : Addr} {L : List Row} {es : Array (Int × Value)} {ep : Nat} {t : SetTable} {Q : Value → Shared → Prop} (R : St P w s.heap a L es ep t) (hh : A.handled = none)
    (shape : Nat → Bool) (hsh : ∀ p ∈ L, Shp shape 0 p.2 ∧ p.2 ≠ [])
    (hQ : ∀ s' p (out : Array Value) (c : Nat) (L' : List Row), (∀ b o, s.heap.get? b = some o → s'.heap.get? b = some o) → s'.gens = s.gens → s'.os = s.os → s.heap.objs.size ≤ p →
      s'.heap.get? p = some (seqObj "list" out c) → out.toList = L'.map (fun q => Value.ref q.1) → L'.Perm L → L'.Pairwise (fun q r => kLt r.2 q.2 = false) → Q (.ref p) s') :
    wpAny (model P w) A (call (.builtin "sorted") [.ref a]) Q E s := by
  obtain ⟨o, ho, hex, hd⟩ := R.ob
  have hsz := R.size
  have hfew := R.few
  refine Calls.call_function_entry kind_sorted plain_sorted entry_sorted (args_sorted1 _) ?_
  unfold Builtin.«sorted»
  refine wpAny_bind (m := checkCount "sorted" 1 1 _) (wpAny_pure ?_)
  refine wpAny_bind (collect_set (A := A.in1) hh ⟨o, ho, hex.1, hd⟩ R.fits (by unfold scanBound; omega) R.tab.ris R.led fun s1 vs k1 hz g1 o1 pm => ?_)
  have hes : es.toList.map (·.2) = L.map fun q => Value.ref q.1 := by
    rw [R.rows]
    unfold ents
    rw [List.map_map] <;> rfl
  rw [hes] at pm
  -- an address has one key
  have one : ∀ q ∈ L, ∀ r ∈ L, q.1 = r.1 → q = r := fun q hq r hr e => by
    have a1 := R.tup q hq
    have a2 := R.tup r hr
    rw [e] at a1
    have e2 : q.2 = r.2 := a1.inj a2
    exact Prod.ext e e2
  have nL : L.Nodup := nodup_of_map R.nd
  have hvl : vs.length < 2048 := by rw [pm.length_eq, List.length_map]; exact hfew
  refine wpAny_bind (wpAny_newList ?_ (by rw [sizeLine_eq]; omega))
  have hoL : (s1.heap.push (seqObj "list" vs.toArray 0)).get? s1.heap.objs.size = some (seqObj "list" vs.toArray 0) := Heap.get?_push_size _ rfl
  have k2 : ∀ b o, s.heap.get? b = some o → (s1.heap.push (seqObj "list" vs.toArray 0)).get? b = some o := fun b o e => Heap.get?_push_of_some _ (k1 b o e)
  have lt1 : ∀ q ∈ L, q.1 ≠ s1.heap.objs.size := fun q hq => by
    obtain ⟨o, items, n, ho, r⟩ := R.tup q hq
    exact Nat.ne_of_lt (Heap.lt_size (k1 _ _ ho))
  have hv : ∀ v ∈ vs, ∃ b k, v = Value.ref b ∧ b ≠ s1.heap.objs.size ∧ IsM P w s.heap k b ∧ IsM P w (s1.heap.push (seqObj "list" vs.toArray 0)) k b ∧ Shp shape 0 k ∧ k ≠ [] := fun v hm => by
    obtain ⟨q, hq, e⟩ := List.mem_map.mp (pm.mem_iff.mp hm)
    have x := R.tup q hq
    exact ⟨q.1, q.2, e.symm, lt1 q hq, x, isM_keep x k2, (hsh q hq).1, (hsh q hq).2⟩
  refine wpAny_bind (wpAny_holding (wpAny_call_entry slot_list_sort (s := { s1 with heap := s1.heap.push (seqObj "list" vs.toArray 0) }) ⟨_, hoL, rfl⟩ entry_list_sort
    (SrtO.list_sort_ord (s := { s1 with heap := s1.heap.push (seqObj "list" vs.toArray 0) }) (swo_of (kv s.heap shape)) hoL (by rw [sizeLine_eq]; omega)
      (fun h2 => tups_sortable (s := { s1 with heap := s1.heap.push (seqObj "list" vs.toArray 0) }) (h0 := s.heap) (by omega) hv) fun out hs hb => ⟨_, rfl, ?_⟩) (args_list_sort _)))
  obtain ⟨c, hc⟩ := sortedHeap_at (vs := vs) (out := out.toArray) hoL
  obtain ⟨L', e', hs'⟩ := rows_of (L := L) (vs := out) fun v hv => by
    obtain ⟨q, hq, e⟩ := List.mem_map.mp (pm.mem_iff.mp (hb.perm.mem_iff.mp hv))
    exact ⟨q, hq, e.symm⟩
  have pL : L'.Perm L := perm_rows one nL hs' (by rw [← e']; exact hb.perm.trans pm)
  have pw : L'.Pairwise (fun q r => kLt r.2 q.2 = false) := by
    rw [e'] at hs
    refine List.Pairwise.imp_of_mem (fun {q r} hq hr hle => ?_) (List.pairwise_map.mp hs)
    have f1 := key_ky (R.tup q (hs' q hq)) (hsh q (hs' q hq)).1
    have f2 := key_ky (R.tup r (hs' r hr)) (hsh r (hs' r hr)).1
    have hle' : lexLt itemOrd ((tupKey s.heap shape (.ref r.1)).getD []) ((tupKey s.heap shape (.ref q.1)).getD []) = false := hle
    rw [f1, f2] at hle'
    exact hle'
  refine wpAny_pure ⟨_, rfl, hQ _ s1.heap.objs.size out.toArray c L' (fun b u e => ?_) g1 o1 hz hc e' pL pw⟩
  have q := k1 b u e
  have hlt := Heap.lt_size q
  show (sortedHeap (s1.heap.push (seqObj "list" vs.toArray 0)) s1.heap.objs.size vs out.toArray).get? b = some u
  rw [sortedHeap_old (Nat.ne_of_lt hlt) (by rw [size_push']; exact Nat.lt_succ_of_lt hlt)]
  exact Heap.get?_push_of_some _ q
end
end GS


set_option maxRecDepth 100000
set_option maxHeartbeats 4000000
namespace GS
open PySem PySem.Spec PyProof.Rows L2

/-! ### sets of ints and texts -/
def kf (e : Int × Value) : Key := match e.2 with
  | .int k _ => .inl k
  | .str x _ => .inr x
  | _ => .inl 0
theorem kf_is {P : Program} {w : World} {e : Int × Value} {k0 : Key} (h : (mixKind P w).is k0 e.2 = true) : k0 = kf e := by
  unfold kf
  rcases keyIs_shape h with ⟨i, t, e1, e2⟩ | ⟨x, t, e1, e2⟩ <;> rw [e1, e2]
/-- the set at a holds just the keys ks -/
def SM (P : Program) (w : World) (h : Heap) (a : Addr) (ks : List Key) : Prop :=
  ∃ o es ep t, h.get? a = some o ∧ o.ExactSet ∧ o.data = .set es ep t ∧ ElemsOf (mixKind P w) es.toList ∧ (es.toList.map kf).Perm ks ∧ ks.Nodup ∧
    es.size < scanBound ∧ t.fits es.size = true ∧ Ris t.place.toList ∧ (w.params.followText "set-order" = true ∨ t.led = true)
section
variable {P : Program} {w : World} {A : Around} {E : Value → Shared → Prop} {s : Shared} {a : Addr}
theorem SM.at {h h' : Heap} {ks : List Key} (R : SM P w h a ks) (k : ∀ o, h.get? a = some o → h'.get? a = some o) : SM P w h' a ks := by
  obtain ⟨o, es, ep, t, ho, r⟩ := R
  exact ⟨o, es, ep, t, k o ho, r⟩
theorem el_is {l : List (Int × Value)} (g : ElemsOf (mixKind P w) l) {e : Int × Value} (he : e ∈ l) (k : Key) : (mixKind P w).is k e.2 = true ↔ kf e = k := by
  obtain ⟨⟨k0, h0, _⟩, _⟩ := g e he
  rw [← kf_is h0, KeyKind.is_eq_decide h0 k, decide_eq_true_eq]
  exact eq_comm
theorem el_mem {l : List (Int × Value)} (g : ElemsOf (mixKind P w) l) (k : Key) : k ∈ l.map kf ↔ ∃ e ∈ l, (mixKind P w).is k e.2 = true := by
  rw [List.mem_map]
  constructor
  · rintro ⟨e, he, q⟩
    exact ⟨e, he, (el_is g he k).2 q⟩
  · rintro ⟨e, he, q⟩
    exact ⟨e, he, (el_is g he k).1 q⟩
theorem sm_add_tail {g : Bool → Sem Unit} (hg : ∀ (b : Bool) (s₁ : Shared) (Q' : Unit → Shared → Prop), Q' () s₁ → wpAny (model P w) A (g b) Q' E s₁)
    {o : Obj} {es : Array (Int × Value)} {ep : Nat} {t : SetTable} (ho : s.heap.get? a = some o) (hex : o.ExactSet) (hd : o.data = .set es ep t)
    {es1 : Array (Int × Value)} {t2 : SetTable} {ks' : List Key} (g1 : ElemsOf (mixKind P w) es1.toList) (nd1 : ks'.Nodup) (m1 : (es1.toList.map kf).Perm ks')
    (hb1 : es1.size < scanBound) (hf2 : t2.fits es1.size = true) (hr : Ris t2.place.toList) (hl : w.params.followText "set-order" = true ∨ t2.led = true) {wasDummy : Bool} {R : Option Bool → Shared → Prop}
    (hR : ∀ h', Heap.SameBut a s.heap h' → SM P w h' a ks' → R (some true) { s with heap := h' }) :
    wpAny (model P w) A (do
        storeSet a es1 t2
        if (!wasDummy && t2.tooFull) = true then do
            g (relayAll t2 es1 (SetTable.grown es1.size)).2.2
            storeSet a (relayAll t2 es1 (SetTable.grown es1.size)).1 (relayAll t2 es1 (SetTable.grown es1.size)).2.1
            pure (some true)
          else pure (some true)) R E s := by
  refine wpAny_bind (wpAny_storeSet_of ho hd ?_ (fits_of_scanBound hb1))
  have ho1 := store_at (es' := es1) (t' := t2) ho hd
  have sb1 := Heap.SameBut.update s.heap a (Obj.putSet es1 t2)
  split
  · have pm := relayAll_perm t2 es1 (SetTable.grown es1.size)
    have hf3 := relayAll_fits t2 es1 (SetTable.grown es1.size)
    have hr3 := relayAll_ris t2 es1 (SetTable.grown es1.size)
    have hl3 := relayAll_led t2 es1 (SetTable.grown es1.size)
    generalize relayAll t2 es1 (SetTable.grown es1.size) = Z at pm hf3 hr3 hl3 ⊢
    obtain ⟨es2, t3, gave⟩ := Z
    dsimp only at pm hf3 hr3 hl3 ⊢
    have hsz : es2.size = es1.size := by rw [← Array.length_toList, pm.length_eq, Array.length_toList]
    have hb2 : es2.size < scanBound := by rw [hsz]; exact hb1
    refine wpAny_bind (hg _ _ _ ?_)
    refine wpAny_bind (wpAny_storeSet_of ho1 rfl ?_ (fits_of_scanBound hb2))
    have ho2 := store_at (es' := es2) (t' := t3) ho1 rfl
    refine wpAny_pure (hR _ (sb1.trans (Heap.SameBut.update _ a _)) ?_)
    exact ⟨_, es2, _, t3, ho2, hex, rfl, fun e he => g1 e (pm.mem_iff.mp he), (pm.map kf).trans m1, nd1, hb2, hf3, hr3,
      hl.imp id fun z => by rw [hl3]; exact z⟩
  · exact wpAny_pure (hR _ sb1 ⟨_, es1, _, t2, ho1, hex, rfl, g1, m1, nd1, hb1, hf2, hr, hl⟩)
theorem sm_add {ks : List Key} {k : Key} {v : Value} (hkey : (mixKind P w).is k v = true) {Q : Bool → Shared → Prop} (R : SM P w s.heap a ks) (room : ks.length + 1 < scanBound)
    (hQ : ∀ b h' ks', Heap.SameBut a s.heap h' → SM P w h' a ks' → (k ∈ ks → ks' = ks) → (k ∉ ks → ks' = k :: ks) → Q b { s with heap := h' }) :
    wpAny (model P w) A (setAddHashed a v ((mixKind P w).hash k)) Q E s := by
  obtain ⟨o, es, ep, t, ho, hex, hd, hel, hm, nd, hb, hf, hr, hl⟩ := R
  have hsc : v.scannable = true := by rcases keyIs_shape hkey with ⟨i, t, e1, e2⟩ | ⟨x, t, e1, e2⟩ <;> rw [e2] <;> rfl
  have hn : es.size = ks.length := by rw [← hm.length_eq, List.length_map, Array.length_toList]
  unfold setAddHashed setAddHashedIn
  refine wpAny_holding (wpAny_bind (wpAny_setState_of ho hd hf ?_))
  dsimp only
  rw [byScan_of hsc hb hel]
  simp only [↓reduceIte]
  unfold setAddByScan
  refine wpAny_bind ?_
  refine wpAny_bind (wpAny_rule ?_)
  refine wpAny_bind (wpAny_setScan_of hkey ho hd hf hel ?_)
  cases hfi : List.findIdx? (fun e => (mixKind P w).is k e.2) es.toList with
  | some j =>
    dsimp only
    obtain ⟨hj, pj, _⟩ := List.findIdx?_eq_some_iff_getElem.mp hfi
    have hk : k ∈ ks := hm.mem_iff.mp ((el_mem hel k).2 ⟨es.toList[j], List.getElem_mem hj, pj⟩)
    refine wpAny_pure (wpAny_pure ?_)
    exact hQ false s.heap ks (Heap.SameBut.refl a s.heap) ⟨o, es, ep, t, ho, hex, hd, hel, hm, nd, hb, hf, hr, hl⟩ (fun _ => rfl) fun z => absurd hk z
  | none =>
    dsimp only
    have hnk : k ∉ ks := fun z => by
      obtain ⟨e, he, q⟩ := (el_mem hel k).1 (hm.mem_iff.mpr z)
      have c := List.findIdx?_eq_none_iff.mp hfi e he
      rw [q] at c
      cases c
    have hgw : ∀ (b : Bool) {s₁ : Shared} {Q' : Unit → Shared → Prop}, Q' () s₁ → wpAny (model P w) A (match b with | true => rule "set.scan.the-table-gave-way" | false => pure ()) Q' E s₁ :=
      fun b s₁ Q' q => by cases b <;> first | exact wpAny_pure q | exact wpAny_rule q
    have pm := layNew_perm t es ((mixKind P w).hash k) v
    have hf1 := layNew_fits t es ((mixKind P w).hash k) v
    have hr1 := layNew_ris t es ((mixKind P w).hash k) v hr
    have hl1 := layNew_led t es ((mixKind P w).hash k) v
    generalize layNew t es ((mixKind P w).hash k) v = Z at pm hf1 hr1 hl1 ⊢
    obtain ⟨es1, t1, wasDummy, gave⟩ := Z
    dsimp only at pm hf1 hr1 hl1 ⊢
    rw [Array.toList_push] at pm
    have pc : es1.toList.Perm (((mixKind P w).hash k, v) :: es.toList) := pm.trans (List.perm_append_singleton _ _)
    have hkk : kf ((mixKind P w).hash k, v) = k := (kf_is (e := ((mixKind P w).hash k, v)) hkey).symm
    have pk : (es1.toList.map kf).Perm (k :: ks) := by
      have h := pc.map kf
      rw [List.map_cons, hkk] at h
      exact h.trans (hm.cons _)
    have g1 : ElemsOf (mixKind P w) es1.toList := fun e he => by
      rcases List.mem_cons.mp (pc.mem_iff.mp he) with z | z
      · rw [z]; exact ⟨⟨k, hkey, rfl⟩, hsc⟩
      · exact hel e z
    have nd1 : (k :: ks).Nodup := List.nodup_cons.mpr ⟨hnk, nd⟩
    have hsz : es1.size = ks.length + 1 := by rw [← Array.length_toList, pc.length_eq, List.length_cons, Array.length_toList, hn]
    have hb1 : es1.size < scanBound := by rw [hsz]; exact room
    have hled : w.params.followText "set-order" = true ∨ t1.led = true := hl.imp id fun z => by rw [hl1]; exact z
    have fin : ∀ h', Heap.SameBut a s.heap h' → SM P w h' a (k :: ks) → Q true { s with heap := h' } := fun h' sb r => hQ true h' _ sb r (fun z => absurd z hnk) fun _ => rfl
    refine wpAny_bind (hgw _ ?_)
    split
    · refine wpAny_bind ?_
      rw [hashByValue_scannable 8 hsc]
      refine wpAny_pure ?_
      refine sm_add_tail ?_ ho hex hd g1 nd1 pk hb1 ?_ ?_ ?_ ?_
      · intro b s₁ Q' q; cases b <;> first | exact wpAny_pure q | exact wpAny_rule q
      · first | (split <;> first | exact hf1 | exact SetTable.fits_plain_off hf1) | exact hf1
      · first | (split <;> exact hr1) | exact hr1
      · first | (split <;> exact hled) | exact hled
      · intro h' sb r; dsimp only; exact wpAny_pure (fin h' sb r)
    · refine wpAny_bind (wpAny_pure ?_)
      simp only [↓reduceIte]
      refine sm_add_tail ?_ ho hex hd g1 nd1 pk hb1 hf1 hr1 hled ?_
      · intro b s₁ Q' q; cases b <;> first | exact wpAny_pure q | exact wpAny_rule q
      · intro h' sb r; dsimp only; exact wpAny_pure (fin h' sb r)
theorem sm_new {h : Heap} (ho : h.get? a = some (newSet w)) : SM P w h a [] :=
  ⟨_, #[], 0, _, ho, ⟨rfl, rfl, rfl⟩, rfl, (fun e he => by simp at he), List.Perm.nil, List.nodup_nil, (by decide), (by rfl), List.Pairwise.nil, by
    show _ ∨ (!w.params.followText "set-order") = true
    cases w.params.followText "set-order"
    · exact .inr rfl
    · exact .inl rfl⟩
/-- what the set holds behind the first i of ks -/
structure HadK (ks : List Key) (i : Nat) (L : List Key) : Prop where
  mem : ∀ k, k ∈ L ↔ k ∈ ks.take i
  len : L.length ≤ i
theorem hadK_nil (ks : List Key) : HadK ks 0 [] := ⟨fun k => by simp, Nat.le_refl _⟩
theorem HadK.next {ks L L' : List Key} {i : Nat} {x : Key} (g : HadK ks i L) (h : ks[i]? = some x) (c1 : x ∈ L → L' = L) (c2 : x ∉ L → L' = x :: L) : HadK ks (i + 1) L' := by
  have e := take_one h
  rcases Classical.em (x ∈ L) with c | c
  · rw [c1 c]
    refine ⟨fun k => ?_, Nat.le_succ_of_le g.len⟩
    rw [e, List.mem_append, List.mem_singleton, g.mem k]
    exact ⟨.inl, fun z => z.elim id fun z => by rw [z]; exact (g.mem x).mp c⟩
  · rw [c2 c]
    refine ⟨fun k => ?_, Nat.succ_le_succ g.len⟩
    rw [e, List.mem_append, List.mem_singleton, List.mem_cons, g.mem k]
    exact Or.comm
theorem items_at : ∀ {ks : List Key} {vs : List Value} {i : Nat} {v : Value}, ItemsAre (mixKind P w) ks vs → vs[i]? = some v → ∃ k, ks[i]? = some k ∧ (mixKind P w).is k v = true
  | [], vs, i, v, h, e => by cases h; cases e
  | k0 :: ks, vs, i, v, h, e => by
    cases h with
    | @cons _ v0 _ vs' h1 h2 =>
      cases i with
      | zero => cases e; exact ⟨k0, rfl, h1⟩
      | succ i => exact items_at (i := i) h2 e
/-- the loop of set.update -/
theorem update_loopK {I : Addr} {fp wr : List Addr} {G : Array GenState → Array GenState → Prop} {n : Nat} {Pv : Nat → Value → Prop} {Sx : Nat → Shared → Prop} {R : Result → Shared → Prop}
    (W : WalksS P w A.in1 I fp wr G n Pv Sx) (S : Addr) (hSf : S ∉ fp) (ks : List Key) (hn : n = ks.length) (hfew : ks.length + 1 < scanBound) (hval : ∀ i v, Pv i v → ∃ k, ks[i]? = some k ∧ (mixKind P w).is k v = true) :
    ∀ (k i : Nat) (s : Shared), n - i = k → i ≤ n → Sx i s → (∃ L, SM P w s.heap S L ∧ HadK ks i L) →
      (∀ s' L, Moved (S :: wr) G s s' → SM P w s'.heap S L → HadK ks n L → R (.ok (.ret .none)) s') →
      codeAny (model P w) A (.builtin "set.update.loop" ⟨[.ref S, .ref I], []⟩) R s := by
  have hSw : S ∉ wr := fun h => hSf (W.sub _ h)
  have hsub : ∀ b ∈ wr, b ∈ S :: wr := fun b hb => List.mem_cons_of_mem _ hb
  intro k
  induction k with
  | zero =>
    intro i s hk' hi hst ⟨L, hS, g⟩ hR
    have hin : i = n := by omega
    subst hin
    refine codeAny_builtin F.entry_set_update_loop ?_
    rw [Around.under_plainId F.plain_set_update_loop _]
    show wpAny _ A.in1 (pyNext (.ref I) >>= _) _ _ s
    refine wpAny_bind (W.done s _ _ hst fun s' hm => ?_)
    show wpAny _ A.in1 (ret Value.none) _ _ s'
    exact wpAny_pure (hR s' L (hm.mono hsub) (hS.at (fun o e => hm.heap S o hSw e)) g)
  | succ k ih =>
    intro i s hk' hi hst ⟨L, hS, g⟩ hR
    have hlt : i < n := by omega
    refine codeAny_builtin F.entry_set_update_loop ?_
    rw [Around.under_plainId F.plain_set_update_loop _]
    show wpAny _ A.in1 (pyNext (.ref I) >>= _) _ _ s
    refine wpAny_bind (W.item i s _ _ hlt hst fun v s' hP hst' hm => ?_)
    obtain ⟨p, hp, hv⟩ := hval i v hP
    have hS' : SM P w s'.heap S L := hS.at (fun o e => hm.heap S o hSw e)
    show wpAny _ A.in1 (holding [v] (setAdd S v) >>= _) _ _ s'
    refine wpAny_bind (wpAny_holding ?_)
    unfold setAdd
    refine wpAny_holding ?_
    refine wpAny_bind ((mixKind P w).pyHash hv ?_)
    refine sm_add (s := { s' with toks := s'.toks + 1 }) hv hS' (by have := g.len; omega) fun b h' L' hsb hS2 c1 c2 => ?_
    refine wpAny_pure ⟨plainId_quiet F.plain_set_update_loop _, ih (i + 1) _ (by omega) hlt (W.frame _ s' _ _ hst' (Nat.le_succ _) fun b hb o e => ?_) ⟨L', hS2, g.next hp c1 c2⟩ fun s'' L2 hm'' hS'' g'' => ?_⟩
    · rw [hsb.2 b fun z => hSf (z ▸ hb)]; exact e
    · refine hR s'' L2 (Moved.trans W.gtrans ((hm.mono hsub).then_heap (Nat.le_succ _) fun b o hb e => ?_) hm'') hS'' g''
      rw [hsb.2 b fun z => hb (z ▸ List.mem_cons_self)]; exact e
/-- set(xs), xs a tuple of ints and texts -/
theorem call_setK {l : Addr} {items : Array Value} (ks : List Key) {Q : Value → Shared → Prop} (hh : A.handled = none) (hl : s.heap.IsTuple l items) (hit : ItemsAre (mixKind P w) ks items.toList) (hfew : ks.length + 1 < scanBound)
    (h : ∀ (h' : Heap) (tk : Nat) L, SM P w h' s.heap.objs.size L → HadK ks ks.length L → (∀ b o, s.heap.get? b = some o → h'.get? b = some o) → Q (.ref s.heap.objs.size) { s with heap := h', toks := tk }) :
    wpAny (model P w) A (call (.type "set") [.ref l]) Q E s := by
  have hisz : items.size = ks.length := by
    rw [← Array.length_toList, ← hit.length]
  obtain ⟨c, tl, hmro⟩ := F.called_set.mro
  have hmade := F.called_set.made
  have hsub := F.called_set.sub
  refine wpAny_call (codeAny_of_tree ?_)
  show wpAny _ _ (callAny (.type "set") _) _ _ _
  refine wpAny_pure ⟨Code.quiet_builtin _ (by decide +kernel), codeAny_builtin F.entry_type_call ?_⟩
  rw [Around.under_plain (weight_type_call_type "set" [.ref l] []) rfl]
  have h1 := F.called_set.notType
  have h2 := F.called_set.canCreate
  have hct := F.typeCall_set_1 (.ref l)
  repeat (any_goals (first | assumption | wp_step))
  refine codeAny_mono (code_set_led1 (.ref l) (E := E) (Q₁ := fun obj s₁ => obj = .ref s.heap.objs.size ∧ s₁ = { s with heap := s.heap.push (newSet w) }) ⟨rfl, rfl⟩) fun r s₁ hr => ?_
  cases r with
  | error e => exact hr
  | ok fl =>
    cases fl with
    | ret obj =>
      obtain ⟨rfl, rfl⟩ := hr
      have hS : (s.heap.push (newSet w)).get? s.heap.objs.size = some (newSet w) := Heap.get?_push_size _ rfl
      have hT : Shared.TypeIs { s with heap := s.heap.push (newSet w) } (.ref s.heap.objs.size) "set" := ⟨_, hS, rfl⟩
      have hli := F.called_set.init.lookup
      have hbi := F.called_set.init.bind (.ref s.heap.objs.size)
      repeat (any_goals (first | assumption | wp_step))
      refine codeAny_mono (codeAny_call_builtin (R := wants (fun r s₂ => r = .none ∧ ∃ h' tk L, s₂ = { s with heap := h', toks := tk } ∧ SM P w h' s.heap.objs.size L ∧ HadK ks ks.length L ∧
          (∀ b o, s.heap.get? b = some o → h'.get? b = some o)) E) F.called_set.init.plain F.entry_set_init (check_set_init_1 hT ?_)) fun r₂ s₂ hr₂ => ?_
      · obtain ⟨ol, hol, hcl, nl, hdl⟩ := hl
        obtain ⟨ocls, odict, odata, oslots⟩ := ol
        simp only at hcl hdl
        subst hcl; subst hdl
        have hol' : (s.heap.push (newSet w)).get? l = some { cls := .type "tuple", dict := odict, data := .seq items nl, slots := oslots } := Heap.get?_push_of_some _ hol
        have hl1 : (s.heap.push (newSet w)).IsTuple l items := ⟨_, hol', rfl, nl, rfl⟩
        have hne : (Value.type "tuple" == Value.type "dict") = false := by decide
        have hsls : isSubtype (.type "tuple") (.type "set") = pure false := by kernel_rfl
        have hslf : isSubtype (.type "tuple") (.type "frozenset") = pure false := by kernel_rfl
        unfold Builtin.«set.__init__» noKeywords Builtin.Frozenset.updateFrom
        generalize hPI : pyIter = PI
        wp_walk
        subst hPI
        refine wpAny_pyIter_tuple hl1 ?_
        refine wpAny_bind (wpAny_runValue ?_)
        have hlS : l < s.heap.objs.size := Heap.lt_size hol
        have hh3 : A.in1.in1.in1.handled = none := by simp [hh]
        have hneI : l ≠ (s.heap.push (newSet w)).objs.size := by rw [Heap.size_push]; exact Nat.ne_of_lt (Nat.lt_succ_of_lt hlS)
        have hSf : s.heap.objs.size ∉ [(s.heap.push (newSet w)).objs.size, l] := by
          rw [Heap.size_push]; simp only [List.mem_cons, List.not_mem_nil, or_false, not_or]
          exact ⟨Nat.ne_of_lt (Nat.lt_succ_self _), Nat.ne_of_gt hlS⟩
        have hval : ∀ (i : Nat) (v : Value), items[i]? = some v → ∃ k, ks[i]? = some k ∧ (mixKind P w).is k v = true := fun i v hv => by
          rw [← Array.getElem?_toList] at hv
          exact items_at hit hv
        refine update_loopK ((Walks.tuple hh3 _ l hneI items).toS) s.heap.objs.size
          hSf ks hisz hfew hval (items.size - 0) 0 _ (by omega) (Nat.zero_le _)
          ⟨⟨_, Heap.get?_push_size _ rfl, rfl, rfl⟩, (hl1.push _)⟩ ?hS0 ?hR
        case hS0 =>
          exact ⟨[], sm_new (Heap.get?_push_of_some _ hS), hadK_nil ks⟩
        case hR =>
          intro s' L hm hS' g'
          obtain ⟨h', g2, d', tk', os'⟩ := s'
          have eg : g2 = s.gens := hm.gens
          have ed : d' = s.drawn := hm.drawn
          have eo : os' = s.os := hm.os
          subst eg; subst ed; subst eo
          show wpAny _ _ _ _ _ _
          refine wpAny_pure ?_
          show wpAny _ _ (ret Value.none) _ _ _
          rw [hisz] at g'
          exact wpAny_pure ⟨rfl, h', tk', L, rfl, hS', g', fun b o e => hm.heap b o (by
            have hb := Heap.lt_size e
            simp only [List.mem_cons, List.not_mem_nil, or_false, not_or]
            exact ⟨Nat.ne_of_lt hb, Nat.ne_of_lt (by rw [Heap.size_push]; exact Nat.lt_succ_of_lt hb)⟩) (Heap.get?_push_of_some _ (Heap.get?_push_of_some _ e))⟩
      · cases r₂ with
        | error e => exact hr₂
        | ok fl₂ =>
          cases fl₂ with
          | ret r =>
            obtain ⟨rfl, h', tk, L, rfl, hS', g', hk'⟩ := hr₂
            repeat (any_goals (first | assumption | wp_step))
            exact h _ _ _ hS' g' hk'
          | _ => exact hr₂.elim
    | _ => exact hr.elim
/-- set(xs), xs a list of ints and texts -/
theorem call_setKL {l : Addr} {items : Array Value} (ks : List Key) {Q : Value → Shared → Prop} (hh : A.handled = none) (hl : s.heap.IsList l items) (hit : ItemsAre (mixKind P w) ks items.toList) (hfew : ks.length + 1 < scanBound)
    (h : ∀ (h' : Heap) (tk : Nat) L, SM P w h' s.heap.objs.size L → HadK ks ks.length L → (∀ b o, s.heap.get? b = some o → h'.get? b = some o) → Q (.ref s.heap.objs.size) { s with heap := h', toks := tk }) :
    wpAny (model P w) A (call (.type "set") [.ref l]) Q E s := by
  have hisz : items.size = ks.length := by
    rw [← Array.length_toList, ← hit.length]
  obtain ⟨c, tl, hmro⟩ := F.called_set.mro
  have hmade := F.called_set.made
  have hsub := F.called_set.sub
  refine wpAny_call (codeAny_of_tree ?_)
  show wpAny _ _ (callAny (.type "set") _) _ _ _
  refine wpAny_pure ⟨Code.quiet_builtin _ (by decide +kernel), codeAny_builtin F.entry_type_call ?_⟩
  rw [Around.under_plain (weight_type_call_type "set" [.ref l] []) rfl]
  have h1 := F.called_set.notType
  have h2 := F.called_set.canCreate
  have hct := F.typeCall_set_1 (.ref l)
  repeat (any_goals (first | assumption | wp_step))
  refine codeAny_mono (code_set_led1 (.ref l) (E := E) (Q₁ := fun obj s₁ => obj = .ref s.heap.objs.size ∧ s₁ = { s with heap := s.heap.push (newSet w) }) ⟨rfl, rfl⟩) fun r s₁ hr => ?_
  cases r with
  | error e => exact hr
  | ok fl =>
    cases fl with
    | ret obj =>
      obtain ⟨rfl, rfl⟩ := hr
      have hS : (s.heap.push (newSet w)).get? s.heap.objs.size = some (newSet w) := Heap.get?_push_size _ rfl
      have hT : Shared.TypeIs { s with heap := s.heap.push (newSet w) } (.ref s.heap.objs.size) "set" := ⟨_, hS, rfl⟩
      have hli := F.called_set.init.lookup
      have hbi := F.called_set.init.bind (.ref s.heap.objs.size)
      repeat (any_goals (first | assumption | wp_step))
      refine codeAny_mono (codeAny_call_builtin (R := wants (fun r s₂ => r = .none ∧ ∃ h' tk L, s₂ = { s with heap := h', toks := tk } ∧ SM P w h' s.heap.objs.size L ∧ HadK ks ks.length L ∧
          (∀ b o, s.heap.get? b = some o → h'.get? b = some o)) E) F.called_set.init.plain F.entry_set_init (check_set_init_1 hT ?_)) fun r₂ s₂ hr₂ => ?_
      · obtain ⟨ol, hol, hcl, nl, hdl⟩ := hl
        obtain ⟨ocls, odict, odata, oslots⟩ := ol
        simp only at hcl hdl
        subst hcl; subst hdl
        have hol' : (s.heap.push (newSet w)).get? l = some { cls := .type "list", dict := odict, data := .seq items nl, slots := oslots } := Heap.get?_push_of_some _ hol
        have hl1 : (s.heap.push (newSet w)).IsList l items := ⟨_, hol', rfl, nl, rfl⟩
        have hne : (Value.type "list" == Value.type "dict") = false := by decide
        have hsls : isSubtype (.type "list") (.type "set") = pure false := F.sub_list_set
        have hslf : isSubtype (.type "list") (.type "frozenset") = pure false := F.sub_list_frozenset
        unfold Builtin.«set.__init__» noKeywords Builtin.Frozenset.updateFrom
        generalize hPI : pyIter = PI
        wp_walk
        subst hPI
        refine wpAny_pyIter_list hl1 ?_
        refine wpAny_bind (wpAny_runValue ?_)
        have hlS : l < s.heap.objs.size := Heap.lt_size hol
        have hh3 : A.in1.in1.in1.handled = none := by simp [hh]
        have hneI : l ≠ (s.heap.push (newSet w)).objs.size := by rw [Heap.size_push]; exact Nat.ne_of_lt (Nat.lt_succ_of_lt hlS)
        have hSf : s.heap.objs.size ∉ [(s.heap.push (newSet w)).objs.size, l] := by
          rw [Heap.size_push]; simp only [List.mem_cons, List.not_mem_nil, or_false, not_or]
          exact ⟨Nat.ne_of_lt (Nat.lt_succ_self _), Nat.ne_of_gt hlS⟩
        have hval : ∀ (i : Nat) (v : Value), items[i]? = some v → ∃ k, ks[i]? = some k ∧ (mixKind P w).is k v = true := fun i v hv => by
          rw [← Array.getElem?_toList] at hv
          exact items_at hit hv
        refine update_loopK ((Walks.list hh3 _ l hneI items).toS) s.heap.objs.size
          hSf ks hisz hfew hval (items.size - 0) 0 _ (by omega) (Nat.zero_le _)
          ⟨⟨_, Heap.get?_push_size _ rfl, rfl, rfl⟩, (hl1.push _)⟩ ?hS0 ?hR
        case hS0 =>
          exact ⟨[], sm_new (Heap.get?_push_of_some _ hS), hadK_nil ks⟩
        case hR =>
          intro s' L hm hS' g'
          obtain ⟨h', g2, d', tk', os'⟩ := s'
          have eg : g2 = s.gens := hm.gens
          have ed : d' = s.drawn := hm.drawn
          have eo : os' = s.os := hm.os
          subst eg; subst ed; subst eo
          show wpAny _ _ _ _ _ _
          refine wpAny_pure ?_
          show wpAny _ _ (ret Value.none) _ _ _
          rw [hisz] at g'
          exact wpAny_pure ⟨rfl, h', tk', L, rfl, hS', g', fun b o e => hm.heap b o (by
            have hb := Heap.lt_size e
            simp only [List.mem_cons, List.not_mem_nil, or_false, not_or]
            exact ⟨Nat.ne_of_lt hb, Nat.ne_of_lt (by rw [Heap.size_push]; exact Nat.lt_succ_of_lt hb)⟩) (Heap.get?_push_of_some _ (Heap.get?_push_of_some _ e))⟩
      · cases r₂ with
        | error e => exact hr₂
        | ok fl₂ =>
          cases fl₂ with
          | ret r =>
            obtain ⟨rfl, h', tk, L, rfl, hS', g', hk'⟩ := hr₂
            repeat (any_goals (first | assumption | wp_step))
            exact h _ _ _ hS' g' hk'
          | _ => exact hr₂.elim
    | _ => exact hr.elim
end
end GS


set_option maxRecDepth 100000
set_option maxHeartbeats 4000000
namespace GS
open PySem PySem.Spec PyProof.Rows L2
section
variable {P : Program} {w : World} {A : Around} {E : Value → Shared → Prop} {s : Shared}
/-- set(xs), xs a list of such tuples -/
theorem call_set_l {l : Addr} {items : Array Value} (ks : List Row) {Q : Value → Shared → Prop} (hh : A.handled = none) (hl : s.heap.IsList l items) (hit : items.toList = ks.map fun p => Value.ref p.1)
    (hk : ∀ p ∈ ks, IsM P w s.heap p.2 p.1) (hfew : ks.length < 2048) (hu : A.units + 3 < cLine)
    (h : ∀ (h' : Heap) (tk : Nat) L es ep t, St P w h' s.heap.objs.size L es ep t → Had ks ks.length L → (∀ b o, s.heap.get? b = some o → h'.get? b = some o) → Q (.ref s.heap.objs.size) { s with heap := h', toks := tk }) :
    wpAny (model P w) A (call (.type "set") [.ref l]) Q E s := by
  have hisz : items.size = ks.length := by
    have q := congrArg List.length hit
    rwa [Array.length_toList, List.length_map] at q
  obtain ⟨c, tl, hmro⟩ := F.called_set.mro
  have hmade := F.called_set.made
  have hsub := F.called_set.sub
  refine wpAny_call (codeAny_of_tree ?_)
  show wpAny _ _ (callAny (.type "set") _) _ _ _
  refine wpAny_pure ⟨Code.quiet_builtin _ (by decide +kernel), codeAny_builtin F.entry_type_call ?_⟩
  rw [Around.under_plain (weight_type_call_type "set" [.ref l] []) rfl]
  have h1 := F.called_set.notType
  have h2 := F.called_set.canCreate
  have hct := F.typeCall_set_1 (.ref l)
  repeat (any_goals (first | assumption | wp_step))
  refine codeAny_mono (code_set_led1 (.ref l) (E := E) (Q₁ := fun obj s₁ => obj = .ref s.heap.objs.size ∧ s₁ = { s with heap := s.heap.push (newSet w) }) ⟨rfl, rfl⟩) fun r s₁ hr => ?_
  cases r with
  | error e => exact hr
  | ok fl =>
    cases fl with
    | ret obj =>
      obtain ⟨rfl, rfl⟩ := hr
      have hS : (s.heap.push (newSet w)).get? s.heap.objs.size = some (newSet w) := Heap.get?_push_size _ rfl
      have hT : Shared.TypeIs { s with heap := s.heap.push (newSet w) } (.ref s.heap.objs.size) "set" := ⟨_, hS, rfl⟩
      have hli := F.called_set.init.lookup
      have hbi := F.called_set.init.bind (.ref s.heap.objs.size)
      repeat (any_goals (first | assumption | wp_step))
      refine codeAny_mono (codeAny_call_builtin (R := wants (fun r s₂ => r = .none ∧ ∃ h' tk L es ep t, s₂ = { s with heap := h', toks := tk } ∧ St P w h' s.heap.objs.size L es ep t ∧ Had ks ks.length L ∧
          (∀ b o, s.heap.get? b = some o → h'.get? b = some o)) E) F.called_set.init.plain F.entry_set_init (check_set_init_1 hT ?_)) fun r₂ s₂ hr₂ => ?_
      · obtain ⟨ol, hol, hcl, nl, hdl⟩ := hl
        obtain ⟨ocls, odict, odata, oslots⟩ := ol
        simp only at hcl hdl
        subst hcl; subst hdl
        have hol' : (s.heap.push (newSet w)).get? l = some { cls := .type "list", dict := odict, data := .seq items nl, slots := oslots } := Heap.get?_push_of_some _ hol
        have hl1 : (s.heap.push (newSet w)).IsList l items := ⟨_, hol', rfl, nl, rfl⟩
        have hne : (Value.type "list" == Value.type "dict") = false := by decide
        have hsls : isSubtype (.type "list") (.type "set") = pure false := F.sub_list_set
        have hslf : isSubtype (.type "list") (.type "frozenset") = pure false := F.sub_list_frozenset
        unfold Builtin.«set.__init__» noKeywords Builtin.Frozenset.updateFrom
        generalize hPI : pyIter = PI
        wp_walk
        subst hPI
        refine wpAny_pyIter_list hl1 ?_
        refine wpAny_bind (wpAny_runValue ?_)
        have hlS : l < s.heap.objs.size := Heap.lt_size hol
        have hh3 : A.in1.in1.in1.handled = none := by simp [hh]
        have hneI : l ≠ (s.heap.push (newSet w)).objs.size := by rw [Heap.size_push]; exact Nat.ne_of_lt (Nat.lt_succ_of_lt hlS)
        have hSf : s.heap.objs.size ∉ [(s.heap.push (newSet w)).objs.size, l] := by
          rw [Heap.size_push]; simp only [List.mem_cons, List.not_mem_nil, or_false, not_or]
          exact ⟨Nat.ne_of_lt (Nat.lt_succ_self _), Nat.ne_of_gt hlS⟩
        have hval : ∀ (i : Nat) (v : Value), items[i]? = some v → ∃ p, ks[i]? = some p ∧ v = .ref p.1 := fun i v hv => by
          have q : items.toList[i]? = some v := by rw [Array.getElem?_toList]; exact hv
          rw [hit, List.getElem?_map] at q
          cases hq : ks[i]? with
          | none => rw [hq] at q; cases q
          | some p =>
            rw [hq] at q
            exact ⟨p, rfl, (Option.some.inj q).symm⟩
        have none_of : ∀ b, s.heap.objs.size ≤ b → s.heap.get? b = none := fun b hb => by
          cases q : s.heap.get? b with
          | none => rfl
          | some o => exact absurd (Nat.lt_of_lt_of_le (Heap.lt_size q) hb) (Nat.lt_irrefl _)
        refine update_loop ((Walks.list hh3 _ l hneI items).toS) s.heap.objs.size
          hSf ks hisz hfew hval s.heap hk (none_of _ (Nat.le_refl _)) (fun b hb => none_of b (by
            rw [List.mem_singleton.mp hb, Heap.size_push]
            exact Nat.le_succ _)) hu (items.size - 0) 0 _ (by omega) (Nat.zero_le _)
          ⟨⟨_, Heap.get?_push_size _ rfl, rfl, rfl⟩, (hl1.push _)⟩ (fun b o e => Heap.get?_push_of_some _ (Heap.get?_push_of_some _ e)) ?hS0 ?hR
        case hS0 =>
          exact ⟨[], #[], 0, _, st_new (Heap.get?_push_of_some _ hS), ⟨(fun p h => nomatch h), (fun p h => by simp at h), Nat.le_refl _⟩⟩
        case hR =>
          intro s' L es ep t hm hS' g' hkp
          obtain ⟨h', g2, d', tk', os'⟩ := s'
          have eg : g2 = s.gens := hm.gens
          have ed : d' = s.drawn := hm.drawn
          have eo : os' = s.os := hm.os
          subst eg; subst ed; subst eo
          show wpAny _ _ _ _ _ _
          refine wpAny_pure ?_
          show wpAny _ _ (ret Value.none) _ _ _
          rw [hisz] at g'
          exact wpAny_pure ⟨rfl, h', tk', L, es, ep, t, rfl, hS', g', hkp⟩
      · cases r₂ with
        | error e => exact hr₂
        | ok fl₂ =>
          cases fl₂ with
          | ret r =>
            obtain ⟨rfl, h', tk, L, es, ep, t, rfl, hS', g', hk'⟩ := hr₂
            repeat (any_goals (first | assumption | wp_step))
            exact h _ _ _ _ _ _ hS' g' hk'
          | _ => exact hr₂.elim
    | _ => exact hr.elim
end
end GS


set_option maxRecDepth 100000
set_option maxHeartbeats 4000000
namespace GS
open PySem PySem.Spec PyProof.Rows L2

/-! ### sorted(set): ints, texts -/
def kv1 (v : Value) : Key := kf (0, v)
def vLt (v u : Value) : Bool := itemLt (ky1 (kv1 v)) (ky1 (kv1 u))
theorem swo_v : SrtO.Swo vLt := by
  refine ⟨fun x y h => ?_, fun x y z h1 h2 => ?_⟩
  · cases e : vLt y x with
    | false => rfl
    | true =>
      have q := itemOrd.trans _ _ _ h e
      rw [itemOrd.irrefl] at q
      cases q
  · cases e : vLt z x with
    | false => rfl
    | true =>
      rcases itemOrd.negTrans _ (ky1 (kv1 y)) _ e with q | q
      · rw [show vLt z y = true from q] at h2; cases h2
      · rw [show vLt y x = true from q] at h1; cases h1
/-- all ints or all texts -/
def Hom (ks : List Key) : Prop := (∀ k ∈ ks, ∃ i, k = Sum.inl i) ∨ (∀ k ∈ ks, ∃ x, k = Sum.inr x)
theorem Hom.perm {ks ks' : List Key} (h : Hom ks) (p : ks'.Perm ks) : Hom ks' := h.imp (fun h k m => h k (p.mem_iff.mp m)) (fun h k m => h k (p.mem_iff.mp m))
section
variable {P : Program} {w : World} {A : Around} {E : Value → Shared → Prop} {s : Shared} {a : Addr}
theorem is_kv1 {k : Key} {v : Value} (h : (mixKind P w).is k v = true) : kv1 v = k := (kf_is (e := (0, v)) h).symm
theorem items_kv1 : ∀ {vs : List Value}, (∀ v ∈ vs, ∃ k, (mixKind P w).is k v = true) → ItemsAre (mixKind P w) (vs.map kv1) vs
  | [], _ => .nil
  | v :: vs, h => by
    obtain ⟨k, hk⟩ := h v List.mem_cons_self
    refine .cons ?_ (items_kv1 fun u hu => h u (List.mem_cons_of_mem _ hu))
    rw [is_kv1 hk]
    exact hk
theorem ints_hom {vs : List Value} (h : ∀ v ∈ vs, ∃ k, (mixKind P w).is k v = true) (hi : ∀ k ∈ vs.map kv1, ∃ i, k = Sum.inl i) : ∀ v ∈ vs, ∃ i t, v = Value.int i t := fun v hv => by
  obtain ⟨k, hk⟩ := h v hv
  obtain ⟨i, e⟩ := hi _ (List.mem_map.mpr ⟨v, hv, rfl⟩)
  rw [is_kv1 hk] at e
  rcases keyIs_shape hk with ⟨j, t, e1, e2⟩ | ⟨x, t, e1, e2⟩
  · exact ⟨j, t, e2⟩
  · rw [e] at e1; cases e1
theorem strs_hom {vs : List Value} (h : ∀ v ∈ vs, ∃ k, (mixKind P w).is k v = true) (hi : ∀ k ∈ vs.map kv1, ∃ x, k = Sum.inr x) : ∀ v ∈ vs, ∃ x t, v = Value.str x t := fun v hv => by
  obtain ⟨k, hk⟩ := h v hv
  obtain ⟨i, e⟩ := hi _ (List.mem_map.mpr ⟨v, hv, rfl⟩)
  rw [is_kv1 hk] at e
  rcases keyIs_shape hk with ⟨j, t, e1, e2⟩ | ⟨x, t, e1, e2⟩
  · rw [e] at e1; cases e1
  · exact ⟨x, t, e2⟩
theorem strs_are : ∀ {vs : List Value}, (∀ v ∈ vs, ∃ x t, v = Value.str x t) → ∃ ss, StrsAre vs ss
  | [], _ => ⟨[], .nil⟩
  | v :: vs, h => by
    obtain ⟨x, t, e⟩ := h v List.mem_cons_self
    obtain ⟨ss, hs⟩ := strs_are fun u hu => h u (List.mem_cons_of_mem _ hu)
    subst e
    exact ⟨x :: ss, .cons x t hs⟩
theorem sc_sortable {a : Addr} {vs : List Value} (h2 : 2 ≤ vs.length) (h : ∀ v ∈ vs, ∃ k, (mixKind P w).is k v = true) (hom : Hom (vs.map kv1)) : SrtO.SortableO P w A s a vs vLt := by
  intro h' _
  rcases hom with hi | hs
  · have hv := ints_hom h hi
    have hI := SrtO.ints_iv hv
    refine ⟨oneType', fun Q E hq => ?_, fun p q hm hm' => ?_⟩
    · match vs, hI, h2 with
      | v1 :: v2 :: rest, hI, _ =>
        rw [keyKind_ints hI]
        exact wpAny_pure hq
      | [], _, h => exact absurd h (by decide)
      | [v], _, h => exact absurd h (by simp)
    · obtain ⟨x, t, e⟩ := hv _ hm
      obtain ⟨y, u, e'⟩ := hv _ hm'
      show wpAny (model P w) A (keyLt' oneType' p.1 q.1) (fun r s' => s' = _ ∧ r = vLt p.1 q.1) (fun _ _ => False) _
      rw [e, e', keyLt'_oneType]
      exact oneLt_int ⟨rfl, rfl⟩
  · have hv := strs_hom h hs
    obtain ⟨ss, hS⟩ := strs_are hv
    refine ⟨oneType', fun Q E hq => ?_, fun p q hm hm' => ?_⟩
    · match vs, hS, h2 with
      | v1 :: v2 :: rest, hI, _ =>
        rw [keyKind_strs hI]
        exact wpAny_pure hq
      | [], _, h => exact absurd h (by decide)
      | [v], _, h => exact absurd h (by simp)
    · obtain ⟨x, t, e⟩ := hv _ hm
      obtain ⟨y, u, e'⟩ := hv _ hm'
      show wpAny (model P w) A (keyLt' oneType' p.1 q.1) (fun r s' => s' = _ ∧ r = vLt p.1 q.1) (fun _ _ => False) _
      rw [e, e', keyLt'_oneType]
      exact oneLt_str ⟨rfl, rfl⟩
theorem sorted_sm {ks : List Key} {Q : Value → Shared → Prop} (R : SM P w s.heap a ks) (hh : A.handled = none) (hom : Hom ks)
    (hQ : ∀ s' p (out : Array Value) (c : Nat) (ks' : List Key), (∀ b o, s.heap.get? b = some o → s'.heap.get? b = some o) → s'.gens = s.gens → s'.os = s.os → s.heap.objs.size ≤ p →
      s'.heap.get? p = some (seqObj "list" out c) → ItemsAre (mixKind P w) ks' out.toList → ks'.Perm ks → ks'.Pairwise (fun q r => itemLt (ky1 r) (ky1 q) = false) → Q (.ref p) s') :
    wpAny (model P w) A (call (.builtin "sorted") [.ref a]) Q E s := by
  obtain ⟨o, es, ep, t, ho, hex, hd, hel, hm, nd, hb, hf, hr, hl⟩ := R
  refine Calls.call_function_entry kind_sorted plain_sorted entry_sorted (args_sorted1 _) ?_
  unfold Builtin.«sorted»
  refine wpAny_bind (m := checkCount "sorted" 1 1 _) (wpAny_pure ?_)
  refine wpAny_bind (collect_set (A := A.in1) hh ⟨o, ho, hex.1, hd⟩ hf hb hr hl fun s1 vs k1 hz g1 o1 pm => ?_)
  have hes : (es.toList.map (·.2)).map kv1 = es.toList.map kf := by
    rw [List.map_map] <;> rfl
  have hkv : (vs.map kv1).Perm ks := by
    have q := pm.map kv1
    rw [hes] at q
    exact q.trans hm
  have hv : ∀ v ∈ vs, ∃ k, (mixKind P w).is k v = true := fun v hv => by
    obtain ⟨e, he, e2⟩ := List.mem_map.mp (pm.mem_iff.mp hv)
    obtain ⟨⟨k, hk, _⟩, _⟩ := hel e he
    exact ⟨k, by rw [← e2]; exact hk⟩
  have hvl : vs.length ≤ sizeLine := by
    rw [pm.length_eq, List.length_map, Array.length_toList]
    exact fits_of_scanBound hb
  refine wpAny_bind (wpAny_newList ?_ hvl)
  have hoL : (s1.heap.push (seqObj "list" vs.toArray 0)).get? s1.heap.objs.size = some (seqObj "list" vs.toArray 0) := Heap.get?_push_size _ rfl
  refine wpAny_bind (wpAny_holding (wpAny_call_entry slot_list_sort (s := { s1 with heap := s1.heap.push (seqObj "list" vs.toArray 0) }) ⟨_, hoL, rfl⟩ entry_list_sort
    (SrtO.list_sort_ord (s := { s1 with heap := s1.heap.push (seqObj "list" vs.toArray 0) }) swo_v hoL hvl
      (fun h2 => sc_sortable h2 hv (hom.perm hkv)) fun out hs hb => ⟨_, rfl, ?_⟩) (args_list_sort _)))
  obtain ⟨c, hc⟩ := sortedHeap_at (vs := vs) (out := out.toArray) hoL
  refine wpAny_pure ⟨_, rfl, hQ _ s1.heap.objs.size out.toArray c (out.map kv1) (fun b u e => ?_) g1 o1 hz hc (items_kv1 fun v hm' => hv v (hb.perm.mem_iff.mp hm')) ((hb.perm.map kv1).trans hkv) (List.pairwise_map.mpr hs)⟩
  have q := k1 b u e
  have hlt := Heap.lt_size q
  show (sortedHeap (s1.heap.push (seqObj "list" vs.toArray 0)) s1.heap.objs.size vs out.toArray).get? b = some u
  rw [sortedHeap_old (Nat.ne_of_lt hlt) (by rw [size_push']; exact Nat.lt_succ_of_lt hlt)]
  exact Heap.get?_push_of_some _ q
end
end GS


set_option maxRecDepth 100000
set_option maxHeartbeats 4000000
namespace DL
open PySem PySem.Spec PyProof.Rows L2

/-- what names of the module stand for, the program, the world -/
structure Mg where
  f : Str → Option Value
  P : Program
  w : World
instance : CoeFun Mg fun _ => Str → Option Value := ⟨Mg.f⟩
abbrev _root_.L2.Cx.M (X : Cx) : Mg := ⟨X.mg, X.prog, X.w⟩
/-- a value as a tree; an exception's end; a value with its owner -/
inductive D where
  | non | bl (b : Bool) | int (i : Int) | str (x : Str)
  | tup (xs : List D) | lst (xs : List D)
  | dct (kvs : List (D × D)) | obj (c : Str) (fs : List (Str × D))
  | exn (a dd : Addr) (c : Str) (fs : List (Str × D))
inductive R (α : Type) where
  | ok (a : α) | ex (c : Str) (fs : List (Str × D)) | stuck
def R.bind {α β : Type} : R α → (α → R β) → R β
  | .ok a, f => f a
  | .ex c fs, _ => .ex c fs
  | .stuck, _ => .stuck
instance : Monad R := { pure := R.ok, bind := R.bind }
theorem bind_ok {α β : Type} (a : α) (f : α → R β) : (R.ok a >>= f) = f a := rfl
theorem bind_ex {α β : Type} (c : Str) (fs : List (Str × D)) (f : α → R β) : (R.ex c fs >>= f) = R.ex c fs := rfl
theorem bind_stuck {α β : Type} (f : α → R β) : ((R.stuck : R α) >>= f) = R.stuck := rfl
theorem pure_ok {α : Type} (a : α) : (pure a : R α) = R.ok a := rfl
/-- fr: shared for good; ol: a list that one slot alone knows; od: a dict that one slot alone knows (t: its keys are tuples); oo: an object (o: where it lies, if that matters), ot: a list with own things in it, that one slot alone knows -/
inductive RV where
  | fr (d : D) | ol (xs : List D) | od (t : Bool) (kvs : List (D × D)) | oo (o : Option Addr) (c : Str) (fs : List (Str × RV)) | ot (xs : List RV)
mutual
def RV.d : RV → D
  | .fr d => d
  | .ol xs => .lst xs
  | .od _ kvs => .dct kvs
  | .oo _ c fs => .obj c (RV.dF fs)
  | .ot xs => .lst (RV.dL xs)
def RV.dF : List (Str × RV) → List (Str × D)
  | [] => []
  | (f, r) :: t => (f, r.d) :: RV.dF t
def RV.dL : List RV → List D
  | [] => []
  | r :: t => r.d :: RV.dL t
end
def RV.own : RV → Bool
  | .fr _ => false
  | _ => true
abbrev DE := List (Option RV)

def keyD : Key → D
  | .inl i => .int i
  | .inr x => .str x
/-- a key that can be data -/
def KOk : Key → Prop
  | .inl _ => True
  | .inr x => x.cps.all (· < 0x110000) = true
/-- the dict at a, its keys the tuples at these addresses -/
def DTh (P : Program) (w : World) (h : Heap) (a : Addr) (kvs : List (List Key × Addr × V)) : Prop :=
  kvs.length ≤ sizeLine ∧ (a == sysModules) = false ∧ ∃ xs : List (List Key × Addr × Value), Paired (fun (p : List Key × Addr × V) (q : List Key × Addr × Value) => p.1 = q.1 ∧ p.2.1 = q.2.1 ∧ RelV p.2.2 q.2.2) kvs xs ∧
    ∃ o es ep, h.get? a = some o ∧ o.ExactDict ∧ o.data = .dict es ep ∧ es.toList = xs.map (entryOfKey (tupleKind (mixKind P w))) ∧ (xs.map (·.1)).Nodup
def DTO (P : Program) (w : World) (a : Addr) (kvs : List (List Key × Addr × V)) : HO := .ext fun h => DTh P w h a kvs
mutual
inductive Dp (K : PySem.W.Frag) (mg : Mg) (G : Hp) : V → D → Prop
  | non : Dp K mg G .non .non
  | bl (b : Bool) : Dp K mg G (.bl b) (.bl b)
  | int (i : Int) : Dp K mg G (.int i) (.int i)
  | str (x : Str) (h : x.cps.all (· < 0x110000) = true) : Dp K mg G (.str x) (.str x)
  | lst {a : Addr} {xs : List V} {ds : List D} : Rd G a (.lst xs) → DpAll K mg G xs ds → Dp K mg G (.ref a) (.lst ds)
  | tup {a : Addr} {xs : List V} {ds : List D} : SqT K G a xs → DpAll K mg G xs ds → Dp K mg G (.ref a) (.tup ds)
  | dk {a : Addr} {kvs : List (Key × V)} {dk : List (D × D)} : G a = some (.dK kvs) → DpK K mg G kvs dk → Dp K mg G (.ref a) (.dct dk)
  | dt {a : Addr} {kvs : List (List Key × Addr × V)} {dk : List (D × D)} : G a = some (DTO mg.P mg.w a kvs) → DpT K mg G kvs dk → Dp K mg G (.ref a) (.dct dk)
  | obj {a C dx : Addr} {fs : List (Str × V)} {c : Str} {df : List (Str × D)} : mg c = some (.ref C) → G a = some (.ins C dx fs) → DpF K mg G fs df → Dp K mg G (.ref a) (.obj c df)
  | exn {a dd C : Addr} {xs : List (Str × V)} {c : Str} {fs : List (Str × D)} : mg c = some (.ref C) → G dd = some (.xd xs) → DpF K mg G xs fs → Dp K mg G (.ref a) (.exn a dd c fs)
inductive DpAll (K : PySem.W.Frag) (mg : Mg) (G : Hp) : List V → List D → Prop
  | nil : DpAll K mg G [] []
  | cons {v : V} {vs : List V} {d : D} {ds : List D} : Dp K mg G v d → DpAll K mg G vs ds → DpAll K mg G (v :: vs) (d :: ds)
inductive DpK (K : PySem.W.Frag) (mg : Mg) (G : Hp) : List (Key × V) → List (D × D) → Prop
  | nil : DpK K mg G [] []
  | cons {k : Key} {v : V} {vs : List (Key × V)} {d : D} {ds : List (D × D)} : KOk k → Dp K mg G v d → DpK K mg G vs ds → DpK K mg G ((k, v) :: vs) ((keyD k, d) :: ds)
inductive DpT (K : PySem.W.Frag) (mg : Mg) (G : Hp) : List (List Key × Addr × V) → List (D × D) → Prop
  | nil : DpT K mg G [] []
  | cons {k : List Key} {b : Addr} {v : V} {vs : List (List Key × Addr × V)} {d : D} {ds : List (D × D)} : SqT K G b (k.map kV) → (∀ c ∈ k, KOk c) → Dp K mg G v d → DpT K mg G vs ds → DpT K mg G ((k, b, v) :: vs) ((.tup (k.map keyD), d) :: ds)
inductive DpF (K : PySem.W.Frag) (mg : Mg) (G : Hp) : List (Str × V) → List (Str × D) → Prop
  | nil : DpF K mg G [] []
  | cons {f : Str} {v : V} {vs : List (Str × V)} {d : D} {ds : List (Str × D)} : Dp K mg G v d → DpF K mg G vs ds → DpF K mg G ((f, v) :: vs) ((f, d) :: ds)
end
theorem same_rd {G G' : Hp} {a : Addr} {u : HO} (s : Same G G') (h : Rd G a u) : Rd G' a u := by
  rcases h with h | ⟨o, h⟩
  · exact .inl (s _ _ h)
  · exact .inr ⟨o, s _ _ h⟩
theorem same_t {K : PySem.W.Frag} {G G' : Hp} {a : Addr} {xs : List V} (s : Same G G') (h : SqT K G a xs) : SqT K G' a xs := by
  rcases h with h | h
  · exact .inl (same_rd s h)
  · exact .inr h
section
variable {K : PySem.W.Frag} {mg : Mg} {G G' : Hp}
mutual
theorem Dp.mono (s : Same G G') : ∀ {v : V} {d : D}, Dp K mg G v d → Dp K mg G' v d
  | _, _, .non => .non
  | _, _, .bl b => .bl b
  | _, _, .int i => .int i
  | _, _, .str x h => .str x h
  | _, _, .lst h t => .lst (same_rd s h) (DpAll.mono s t)
  | _, _, .tup h t => .tup (same_t s h) (DpAll.mono s t)
  | _, _, .dk h t => .dk (s _ _ h) (DpK.mono s t)
  | _, _, .dt h t => .dt (s _ _ h) (DpT.mono s t)
  | _, _, .obj c h t => .obj c (s _ _ h) (DpF.mono s t)
  | _, _, .exn c h t => .exn c (s _ _ h) (DpF.mono s t)
theorem DpAll.mono (s : Same G G') : ∀ {v : List V} {d : List D}, DpAll K mg G v d → DpAll K mg G' v d
  | _, _, .nil => .nil
  | _, _, .cons h t => .cons (Dp.mono s h) (DpAll.mono s t)
theorem DpK.mono (s : Same G G') : ∀ {v : List (Key × V)} {d : List (D × D)}, DpK K mg G v d → DpK K mg G' v d
  | _, _, .nil => .nil
  | _, _, .cons k h t => .cons k (Dp.mono s h) (DpK.mono s t)
theorem DpT.mono (s : Same G G') : ∀ {v : List (List Key × Addr × V)} {d : List (D × D)}, DpT K mg G v d → DpT K mg G' v d
  | _, _, .nil => .nil
  | _, _, .cons q k h t => .cons (same_t s q) k (Dp.mono s h) (DpT.mono s t)
theorem DpF.mono (s : Same G G') : ∀ {v : List (Str × V)} {d : List (Str × D)}, DpF K mg G v d → DpF K mg G' v d
  | _, _, .nil => .nil
  | _, _, .cons h t => .cons (Dp.mono s h) (DpF.mono s t)
end
theorem DpAll.len : ∀ {v : List V} {d : List D}, DpAll K mg G v d → v.length = d.length
  | _, _, .nil => rfl
  | _, _, .cons _ t => congrArg (· + 1) (DpAll.len t)
theorem DpAll.get : ∀ {vs : List V} {ds : List D} {i : Nat} {d : D}, DpAll K mg G vs ds → ds[i]? = some d → ∃ v, vs[i]? = some v ∧ Dp K mg G v d
  | _, _, _, _, .nil, e => by simp at e
  | _, _, 0, _, .cons h _, e => by simp at e; subst e; exact ⟨_, rfl, h⟩
  | _, _, i + 1, d, .cons _ t, e => by
    obtain ⟨v, a, b⟩ := DpAll.get (i := i) (d := d) t (by simpa using e)
    exact ⟨v, by simpa using a, b⟩
theorem DpAll.getV : ∀ {vs : List V} {ds : List D} {i : Nat} {v : V}, DpAll K mg G vs ds → vs[i]? = some v → ∃ d, ds[i]? = some d ∧ Dp K mg G v d
  | _, _, _, _, .nil, e => by simp at e
  | _, _, 0, _, .cons h _, e => by simp at e; subst e; exact ⟨_, rfl, h⟩
  | _, _, i + 1, d, .cons _ t, e => by
    obtain ⟨v, a, b⟩ := DpAll.getV (i := i) (v := d) t (by simpa using e)
    exact ⟨v, by simpa using a, b⟩
theorem DpAll.append : ∀ {xs ys : List V} {ds es : List D}, DpAll K mg G xs ds → DpAll K mg G ys es → DpAll K mg G (xs ++ ys) (ds ++ es)
  | _, _, _, _, .nil, s => s
  | _, _, _, _, .cons r t, s => .cons r (DpAll.append t s)
theorem DpAll.take : ∀ {xs : List V} {ds : List D} (n : Nat), DpAll K mg G xs ds → DpAll K mg G (xs.take n) (ds.take n)
  | _, _, 0, _ => .nil
  | _, _, _ + 1, .nil => .nil
  | _, _, n + 1, .cons r t => .cons r (DpAll.take n t)
theorem DpAll.drop : ∀ {xs : List V} {ds : List D} (n : Nat), DpAll K mg G xs ds → DpAll K mg G (xs.drop n) (ds.drop n)
  | _, _, 0, r => r
  | _, _, _ + 1, .nil => .nil
  | _, _, n + 1, .cons _ t => DpAll.drop n t
theorem DpAll.reverse : ∀ {xs : List V} {ds : List D}, DpAll K mg G xs ds → DpAll K mg G xs.reverse ds.reverse
  | _, _, .nil => .nil
  | _, _, .cons r t => by
    rw [List.reverse_cons, List.reverse_cons]
    exact (DpAll.reverse t).append (.cons r .nil)
theorem DpAll.set : ∀ {xs : List V} {ds : List D} {v : V} {d : D} (i : Nat), DpAll K mg G xs ds → Dp K mg G v d → DpAll K mg G (xs.set i v) (ds.set i d)
  | _, _, _, _, _, .nil, _ => .nil
  | _, _, _, _, 0, .cons _ t, h => .cons h t
  | _, _, _, _, i + 1, .cons r t, h => .cons r (DpAll.set i t h)
theorem DpAll.rep {xs : List V} {ds : List D} (h : DpAll K mg G xs ds) : ∀ k : Nat, DpAll K mg G (List.replicate k xs).flatten (List.replicate k ds).flatten
  | 0 => .nil
  | k + 1 => by
    rw [List.replicate_succ, List.replicate_succ, List.flatten_cons, List.flatten_cons]
    exact h.append (DpAll.rep h k)
end

/-! ### the frozen heap and the heap -/
structure Gr (H G H' G' : Hp) : Prop where
  hh : Same H H'
  gg : Same G G'
  gh : Same G' H'
  old : ∀ b, H b ≠ none → G' b = G b
theorem Gr.refl {H G : Hp} (s : Same G H) : Gr H G H G := ⟨Same.refl _, Same.refl _, s, fun _ _ => rfl⟩
theorem Same.has {H H' : Hp} (s : Same H H') {b : Addr} (h : H b ≠ none) : H' b ≠ none := by
  cases e : H b with
  | none => exact absurd e h
  | some o => rw [s b o e]; exact fun z => nomatch z
theorem Gr.trans {H G H1 G1 H2 G2 : Hp} (a : Gr H G H1 G1) (b : Gr H1 G1 H2 G2) : Gr H G H2 G2 :=
  ⟨a.hh.trans b.hh, a.gg.trans b.gg, b.gh, fun x h => (b.old x (Same.has a.hh h)).trans (a.old x h)⟩
/-- a new frozen object -/
theorem Gr.new {H G : Hp} {p : Addr} {o : HO} (s : Same G H) (h : H p = none) : Gr H G (upd H p o) (upd G p o) where
  hh := fun b u e => by rw [upd_ne (ne_of_none e h)]; exact e
  gg := fun b u e => by rw [upd_ne (ne_of_none (s _ _ e) h)]; exact e
  gh := fun b u e => by
    by_cases hb : b = p
    · subst hb; rw [upd_same] at e ⊢; exact e
    · rw [upd_ne hb] at e ⊢; exact s _ _ e
  old := fun b hb => upd_ne (fun e => hb (e ▸ h))
/-- a new object that is not frozen -/
theorem Gr.mut {H G : Hp} {p : Addr} {o : HO} (s : Same G H) (h : H p = none) : Gr H G (upd H p o) G where
  hh := fun b u e => by rw [upd_ne (ne_of_none e h)]; exact e
  gg := Same.refl _
  gh := fun b u e => by rw [upd_ne (ne_of_none (s _ _ e) h)]; exact s _ _ e
  old := fun _ _ => rfl
/-- a thing made on the way is frozen -/
theorem Gr.freeze {H G H' G' : Hp} {a : Addr} {o : HO} (g : Gr H G H' G') (ha : H a = none) (hH : H' a = some o) (hG : G' a = none) : Gr H G H' (upd G' a o) where
  hh := g.hh
  gg := fun b u e => by
    have q := g.gg _ _ e
    rw [upd_ne (fun z => by rw [z, hG] at q; cases q)]
    exact q
  gh := fun b u e => by
    by_cases hb : b = a
    · subst hb; rw [upd_same] at e; rw [hH]; exact e
    · rw [upd_ne hb] at e; exact g.gh _ _ e
  old := fun b hb => by
    have nb : b ≠ a := fun e => hb (by rw [e]; exact ha)
    rw [upd_ne nb]
    exact g.old b hb
theorem upd_same_of {G : Hp} {a : Addr} {o : HO} (h : G a = none) : Same G (upd G a o) := fun b u e => by
  rw [upd_ne (ne_of_none e h)]; exact e

section
variable (K : PySem.W.Frag) (mg : Mg)
mutual
/-- a value with its owner, and the addresses that it owns -/
inductive RVq (H0 H G : Hp) : V → RV → List Addr → Prop
  | fr {v : V} {d : D} : Dp K mg G v d → RVq H0 H G v (.fr d) []
  | ol {a : Addr} {xs : List V} {ds : List D} : H a = some (.lst xs) → G a = none → H0 a = none → DpAll K mg G xs ds → RVq H0 H G (.ref a) (.ol ds) [a]
  | od {a : Addr} {xs : List (Key × V)} {ds : List (D × D)} : H a = some (.dK xs) → G a = none → H0 a = none → DpK K mg G xs ds → RVq H0 H G (.ref a) (.od false ds) [a]
  | ot {a : Addr} {xs : List (List Key × Addr × V)} {ds : List (D × D)} : H a = some (DTO mg.P mg.w a xs) → G a = none → H0 a = none → DpT K mg G xs ds → RVq H0 H G (.ref a) (.od true ds) [a]
  | oo {a C dx : Addr} {o : Option Addr} {c : Str} {fs : List (Str × V)} {frs : List (Str × RV)} {as : List Addr} : mg c = some (.ref C) ∧ (∀ x, o = some x → x = a) → H a = some (.ins C dx fs) → G a = none → H0 a = none → RVqF H0 H G fs frs as → a ∉ as → RVq H0 H G (.ref a) (.oo o c frs) (a :: as)
  | tr {a : Addr} {xs : List V} {rs : List RV} {as : List Addr} : H a = some (.lst xs) → G a = none → H0 a = none → RVqL H0 H G xs rs as → a ∉ as → RVq H0 H G (.ref a) (.ot rs) (a :: as)
inductive RVqF (H0 H G : Hp) : List (Str × V) → List (Str × RV) → List Addr → Prop
  | nil : RVqF H0 H G [] [] []
  | cons {f : Str} {v : V} {r : RV} {fs : List (Str × V)} {frs : List (Str × RV)} {as bs : List Addr} : RVq H0 H G v r as → RVqF H0 H G fs frs bs → (∀ b ∈ as, b ∉ bs) → RVqF H0 H G ((f, v) :: fs) ((f, r) :: frs) (as ++ bs)
inductive RVqL (H0 H G : Hp) : List V → List RV → List Addr → Prop
  | nil : RVqL H0 H G [] [] []
  | cons {v : V} {r : RV} {vs : List V} {rs : List RV} {as bs : List Addr} : RVq H0 H G v r as → RVqL H0 H G vs rs bs → (∀ b ∈ as, b ∉ bs) → RVqL H0 H G (v :: vs) (r :: rs) (as ++ bs)
end
def RVp (H0 H G : Hp) (v : V) : RV → Prop
  | .fr d => Dp K mg G v d
  | .ol ds => ∃ a xs, v = .ref a ∧ H a = some (.lst xs) ∧ G a = none ∧ H0 a = none ∧ DpAll K mg G xs ds
  | .od false ds => ∃ a xs, v = .ref a ∧ H a = some (.dK xs) ∧ G a = none ∧ H0 a = none ∧ DpK K mg G xs ds
  | .od true ds => ∃ a xs, v = .ref a ∧ H a = some (DTO mg.P mg.w a xs) ∧ G a = none ∧ H0 a = none ∧ DpT K mg G xs ds
  | .oo o c fs => ∃ as, RVq K mg H0 H G v (.oo o c fs) as
  | .ot rs => ∃ as, RVq K mg H0 H G v (.ot rs) as
structure Sl (H0 H G : Hp) (σ : L2.St) (δ : DE) : Prop where
  len : σ.length = δ.length
  at_ : ∀ (i : Nat) (r : RV), δ[i]? = some (some r) → ∃ v : V, σ[i]? = some (some v) ∧ RVp K mg H0 H G v r
  dis : ∀ (i j : Nat) (r r' : RV) (v v' : V) (as as' : List Addr) (a : Addr), δ[i]? = some (some r) → δ[j]? = some (some r') → σ[i]? = some (some v) → σ[j]? = some (some v') → RVq K mg H0 H G v r as → RVq K mg H0 H G v' r' as' → a ∈ as → a ∈ as' → i = j
/-- an exception: its class and its fields -/
def XRp (H G : Hp) (c : Str) (fs : List (Str × D)) (cls : Value) (d : Option Addr) : Prop :=
  ∃ C dd xs, mg c = some (.ref C) ∧ cls = .ref C ∧ d = some dd ∧ G dd = some (.xd xs) ∧ DpF K mg G xs fs
def postX (H G : Hp) (W : Value → Option Addr → Hp → Prop) (c : Str) (fs : List (Str × D)) : Prop := ∀ cls d H' G', Gr H G H' G' → XRp K mg H' G' c fs cls d → W cls d H'
def post (H G : Hp) (W : Value → Option Addr → Hp → Prop) (Q : VK) : R RV → Prop
  | .ok r => ∀ v H' G', Gr H G H' G' → RVp K mg H H' G' v r → Q v H'
  | .ex c fs => postX K mg H G W c fs
  | .stuck => False
def postB (H G : Hp) (W : Value → Option Addr → Hp → Prop) (Q : Bool → Hp → Prop) : R Bool → Prop
  | .ok b => ∀ H' G', Gr H G H' G' → Q b H'
  | .ex c fs => postX K mg H G W c fs
  | .stuck => False
def postA (H G : Hp) (W : Value → Option Addr → Hp → Prop) (Q : List V → Hp → Prop) : R (List D) → Prop
  | .ok ds => ∀ vs H' G', Gr H G H' G' → DpAll K mg G' vs ds → Q vs H'
  | .ex c fs => postX K mg H G W c fs
  | .stuck => False
def tE (H0 : Hp) (W : WX) (f : DE → R RV) : TE := fun σ H Q => ∃ G δ, Same G H ∧ Sl K mg H0 H G σ δ ∧ post K mg H G (fun c d H' => W c d σ H') Q (f δ)
def tB (H0 : Hp) (W : WX) (f : DE → R Bool) : TT := fun σ H Q => ∃ G δ, Same G H ∧ Sl K mg H0 H G σ δ ∧ postB K mg H G (fun c d H' => W c d σ H') Q (f δ)
def tA (H0 : Hp) (W : WX) (f : DE → R (List D)) : TA := fun σ H Q => ∃ G δ, Same G H ∧ Sl K mg H0 H G σ δ ∧ postA K mg H G (fun c d H' => W c d σ H') Q (f δ)
/-- operators, calls, by data -/
def rD (g : D → D → R RV) : R2 := fun x y H Q => ∃ G d e, Same G H ∧ Dp K mg G x d ∧ Dp K mg G y e ∧ post K mg H G (fun _ _ _ => False) Q (g d e)
def rD1 (g : D → R RV) : V → Hp → VK → Prop := fun x H Q => ∃ G d, Same G H ∧ Dp K mg G x d ∧ post K mg H G (fun _ _ _ => False) Q (g d)
def rDA (g : List D → R RV) : List V → Hp → VK → Prop := fun xs H Q => ∃ G ds, Same G H ∧ DpAll K mg G xs ds ∧ post K mg H G (fun _ _ _ => False) Q (g ds)
/-- a def's promise -/
def spD (g : List D → R RV) : Sp := fun vs H Q E => ∃ G ds, Same G H ∧ DpAll K mg G vs ds ∧ post K mg H G E Q (g ds)
end

section
variable {K : PySem.W.Frag} {mg : Mg} {H0 H G H' G' : Hp} {σ : L2.St} {δ : DE} {v : V} {r : RV}
theorem RVq.p {as : List Addr} (h : RVq K mg H0 H G v r as) : RVp K mg H0 H G v r := by
  cases h with
  | fr h => exact h
  | ol h1 h2 h3 h4 => exact ⟨_, _, rfl, h1, h2, h3, h4⟩
  | od h1 h2 h3 h4 => exact ⟨_, _, rfl, h1, h2, h3, h4⟩
  | ot h1 h2 h3 h4 => exact ⟨_, _, rfl, h1, h2, h3, h4⟩
  | oo h0 h1 h2 h3 h4 h5 => exact ⟨_, .oo h0 h1 h2 h3 h4 h5⟩
  | tr h1 h2 h3 h4 h5 => exact ⟨_, .tr h1 h2 h3 h4 h5⟩
theorem RVp.q (h : RVp K mg H0 H G v r) : ∃ as, RVq K mg H0 H G v r as := by
  cases r with
  | fr d => exact ⟨_, .fr h⟩
  | ol ds => obtain ⟨a, xs, rfl, h1, h2, h3, h4⟩ := h; exact ⟨_, .ol h1 h2 h3 h4⟩
  | od t ds =>
    cases t
    · obtain ⟨a, xs, rfl, h1, h2, h3, h4⟩ := h; exact ⟨_, .od h1 h2 h3 h4⟩
    · obtain ⟨a, xs, rfl, h1, h2, h3, h4⟩ := h; exact ⟨_, .ot h1 h2 h3 h4⟩
  | oo o c fs => exact h
  | ot rs => exact h
mutual
theorem RVq.mono (g : Gr H G H' G') : ∀ {v : V} {r : RV} {as : List Addr}, RVq K mg H0 H G v r as → RVq K mg H0 H' G' v r as
  | _, _, _, .fr h => .fr (h.mono g.gg)
  | _, _, _, .ol h1 h2 h3 h4 => .ol (g.hh _ _ h1) ((g.old _ (by rw [h1]; exact fun z => nomatch z)).trans h2) h3 (h4.mono g.gg)
  | _, _, _, .od h1 h2 h3 h4 => .od (g.hh _ _ h1) ((g.old _ (by rw [h1]; exact fun z => nomatch z)).trans h2) h3 (h4.mono g.gg)
  | _, _, _, .ot h1 h2 h3 h4 => .ot (g.hh _ _ h1) ((g.old _ (by rw [h1]; exact fun z => nomatch z)).trans h2) h3 (h4.mono g.gg)
  | _, _, _, .oo h0 h1 h2 h3 h4 h5 => .oo h0 (g.hh _ _ h1) ((g.old _ (by rw [h1]; exact fun z => nomatch z)).trans h2) h3 (RVqF.mono g h4) h5
  | _, _, _, .tr h1 h2 h3 h4 h5 => .tr (g.hh _ _ h1) ((g.old _ (by rw [h1]; exact fun z => nomatch z)).trans h2) h3 (RVqL.mono g h4) h5
theorem RVqF.mono (g : Gr H G H' G') : ∀ {v : List (Str × V)} {r : List (Str × RV)} {as : List Addr}, RVqF K mg H0 H G v r as → RVqF K mg H0 H' G' v r as
  | _, _, _, .nil => .nil
  | _, _, _, .cons h t d => .cons (RVq.mono g h) (RVqF.mono g t) d
theorem RVqL.mono (g : Gr H G H' G') : ∀ {v : List V} {r : List RV} {as : List Addr}, RVqL K mg H0 H G v r as → RVqL K mg H0 H' G' v r as
  | _, _, _, .nil => .nil
  | _, _, _, .cons h t d => .cons (RVq.mono g h) (RVqL.mono g t) d
end
mutual
/-- only what is owned need stay -/
theorem RVq.keep {H2 : Hp} : ∀ {v : V} {r : RV} {as : List Addr}, RVq K mg H0 H G v r as → (∀ b ∈ as, H2 b = H b) → RVq K mg H0 H2 G v r as
  | _, _, _, .fr h, _ => .fr h
  | _, _, _, .ol h1 h2 h3 h4, k => .ol ((k _ List.mem_cons_self).trans h1) h2 h3 h4
  | _, _, _, .od h1 h2 h3 h4, k => .od ((k _ List.mem_cons_self).trans h1) h2 h3 h4
  | _, _, _, .ot h1 h2 h3 h4, k => .ot ((k _ List.mem_cons_self).trans h1) h2 h3 h4
  | _, _, _, .oo h0 h1 h2 h3 h4 h5, k => .oo h0 ((k _ List.mem_cons_self).trans h1) h2 h3 (RVqF.keep h4 fun b hb => k b (List.mem_cons_of_mem _ hb)) h5
  | _, _, _, .tr h1 h2 h3 h4 h5, k => .tr ((k _ List.mem_cons_self).trans h1) h2 h3 (RVqL.keep h4 fun b hb => k b (List.mem_cons_of_mem _ hb)) h5
theorem RVqF.keep {H2 : Hp} : ∀ {v : List (Str × V)} {r : List (Str × RV)} {as : List Addr}, RVqF K mg H0 H G v r as → (∀ b ∈ as, H2 b = H b) → RVqF K mg H0 H2 G v r as
  | _, _, _, .nil, _ => .nil
  | _, _, _, .cons h t d, k => .cons (RVq.keep h fun b hb => k b (List.mem_append_left _ hb)) (RVqF.keep t fun b hb => k b (List.mem_append_right _ hb)) d
theorem RVqL.keep {H2 : Hp} : ∀ {v : List V} {r : List RV} {as : List Addr}, RVqL K mg H0 H G v r as → (∀ b ∈ as, H2 b = H b) → RVqL K mg H0 H2 G v r as
  | _, _, _, .nil, _ => .nil
  | _, _, _, .cons h t d, k => .cons (RVq.keep h fun b hb => k b (List.mem_append_left _ hb)) (RVqL.keep t fun b hb => k b (List.mem_append_right _ hb)) d
end
mutual
/-- more is frozen, but nothing of what is owned -/
theorem RVq.ext (s : Same G G') : ∀ {v : V} {r : RV} {as : List Addr}, RVq K mg H0 H G v r as → (∀ b ∈ as, G' b = none) → RVq K mg H0 H G' v r as
  | _, _, _, .fr h, _ => .fr (h.mono s)
  | _, _, _, .ol h1 h2 h3 h4, k => .ol h1 (k _ List.mem_cons_self) h3 (h4.mono s)
  | _, _, _, .od h1 h2 h3 h4, k => .od h1 (k _ List.mem_cons_self) h3 (h4.mono s)
  | _, _, _, .ot h1 h2 h3 h4, k => .ot h1 (k _ List.mem_cons_self) h3 (h4.mono s)
  | _, _, _, .oo h0 h1 h2 h3 h4 h5, k => .oo h0 h1 (k _ List.mem_cons_self) h3 (RVqF.ext s h4 fun b hb => k b (List.mem_cons_of_mem _ hb)) h5
  | _, _, _, .tr h1 h2 h3 h4 h5, k => .tr h1 (k _ List.mem_cons_self) h3 (RVqL.ext s h4 fun b hb => k b (List.mem_cons_of_mem _ hb)) h5
theorem RVqF.ext (s : Same G G') : ∀ {v : List (Str × V)} {r : List (Str × RV)} {as : List Addr}, RVqF K mg H0 H G v r as → (∀ b ∈ as, G' b = none) → RVqF K mg H0 H G' v r as
  | _, _, _, .nil, _ => .nil
  | _, _, _, .cons h t d, k => .cons (RVq.ext s h fun b hb => k b (List.mem_append_left _ hb)) (RVqF.ext s t fun b hb => k b (List.mem_append_right _ hb)) d
theorem RVqL.ext (s : Same G G') : ∀ {v : List V} {r : List RV} {as : List Addr}, RVqL K mg H0 H G v r as → (∀ b ∈ as, G' b = none) → RVqL K mg H0 H G' v r as
  | _, _, _, .nil, _ => .nil
  | _, _, _, .cons h t d, k => .cons (RVq.ext s h fun b hb => k b (List.mem_append_left _ hb)) (RVqL.ext s t fun b hb => k b (List.mem_append_right _ hb)) d
end
mutual
/-- freshness further back -/
theorem RVq.back {H00 : Hp} (s : Same H00 H0) : ∀ {v : V} {r : RV} {as : List Addr}, RVq K mg H0 H G v r as → RVq K mg H00 H G v r as
  | _, _, _, .fr h => .fr h
  | _, _, _, .ol h1 h2 h3 h4 => .ol h1 h2 (s.free h3) h4
  | _, _, _, .od h1 h2 h3 h4 => .od h1 h2 (s.free h3) h4
  | _, _, _, .ot h1 h2 h3 h4 => .ot h1 h2 (s.free h3) h4
  | _, _, _, .oo h0 h1 h2 h3 h4 h5 => .oo h0 h1 h2 (s.free h3) (RVqF.back s h4) h5
  | _, _, _, .tr h1 h2 h3 h4 h5 => .tr h1 h2 (s.free h3) (RVqL.back s h4) h5
theorem RVqF.back {H00 : Hp} (s : Same H00 H0) : ∀ {v : List (Str × V)} {r : List (Str × RV)} {as : List Addr}, RVqF K mg H0 H G v r as → RVqF K mg H00 H G v r as
  | _, _, _, .nil => .nil
  | _, _, _, .cons h t d => .cons (RVq.back s h) (RVqF.back s t) d
theorem RVqL.back {H00 : Hp} (s : Same H00 H0) : ∀ {v : List V} {r : List RV} {as : List Addr}, RVqL K mg H0 H G v r as → RVqL K mg H00 H G v r as
  | _, _, _, .nil => .nil
  | _, _, _, .cons h t d => .cons (RVq.back s h) (RVqL.back s t) d
end
/-- what can be owned -/
def Ownb (o : HO) : Prop := (∃ xs, o = .lst xs) ∨ (∃ xs, o = .dK xs) ∨ (∃ P w a xs, o = DTO P w a xs) ∨ ∃ C dx fs, o = .ins C dx fs
mutual
theorem RVq.ow : ∀ {v : V} {r : RV} {as : List Addr}, RVq K mg H0 H G v r as → ∀ b ∈ as, (∃ u, H b = some u ∧ Ownb u) ∧ G b = none ∧ H0 b = none
  | _, _, _, .fr h, b, hb => nomatch hb
  | _, _, _, .ol h1 h2 h3 h4, b, hb => by rw [List.mem_singleton.mp hb]; exact ⟨⟨_, h1, .inl ⟨_, rfl⟩⟩, h2, h3⟩
  | _, _, _, .od h1 h2 h3 h4, b, hb => by rw [List.mem_singleton.mp hb]; exact ⟨⟨_, h1, .inr (.inl ⟨_, rfl⟩)⟩, h2, h3⟩
  | _, _, _, .ot h1 h2 h3 h4, b, hb => by rw [List.mem_singleton.mp hb]; exact ⟨⟨_, h1, .inr (.inr (.inl ⟨_, _, _, _, rfl⟩))⟩, h2, h3⟩
  | _, _, _, .oo h0 h1 h2 h3 h4 h5, b, hb => by
    rcases List.mem_cons.mp hb with e | hb
    · rw [e]; exact ⟨⟨_, h1, .inr (.inr (.inr ⟨_, _, _, rfl⟩))⟩, h2, h3⟩
    · exact RVqF.ow h4 b hb
  | _, _, _, .tr h1 h2 h3 h4 h5, b, hb => by
    rcases List.mem_cons.mp hb with e | hb
    · rw [e]; exact ⟨⟨_, h1, .inl ⟨_, rfl⟩⟩, h2, h3⟩
    · exact RVqL.ow h4 b hb
theorem RVqF.ow : ∀ {v : List (Str × V)} {r : List (Str × RV)} {as : List Addr}, RVqF K mg H0 H G v r as → ∀ b ∈ as, (∃ u, H b = some u ∧ Ownb u) ∧ G b = none ∧ H0 b = none
  | _, _, _, .nil, b, hb => nomatch hb
  | _, _, _, .cons h t d, b, hb => (List.mem_append.mp hb).elim (RVq.ow h b) (RVqF.ow t b)
theorem RVqL.ow : ∀ {v : List V} {r : List RV} {as : List Addr}, RVqL K mg H0 H G v r as → ∀ b ∈ as, (∃ u, H b = some u ∧ Ownb u) ∧ G b = none ∧ H0 b = none
  | _, _, _, .nil, b, hb => nomatch hb
  | _, _, _, .cons h t d, b, hb => (List.mem_append.mp hb).elim (RVq.ow h b) (RVqL.ow t b)
end
mutual
/-- a thing owns the same, however it is seen -/
theorem RVq.one {H0' G' : Hp} : ∀ {v : V} {r : RV} {as bs : List Addr}, RVq K mg H0 H G v r as → RVq K mg H0' H G' v r bs → as = bs
  | _, _, _, _, .fr _, .fr _ => rfl
  | _, _, _, _, .ol _ _ _ _, .ol _ _ _ _ => rfl
  | _, _, _, _, .od _ _ _ _, .od _ _ _ _ => rfl
  | _, _, _, _, .ot _ _ _ _, .ot _ _ _ _ => rfl
  | _, _, _, _, .oo _ h1 _ _ h4 _, .oo _ k1 _ _ k4 _ => by
    rw [h1] at k1
    cases k1
    rw [RVqF.one h4 k4]
  | _, _, _, _, .tr h1 _ _ h4 _, .tr k1 _ _ k4 _ => by
    rw [h1] at k1
    cases k1
    rw [RVqL.one h4 k4]
theorem RVqF.one {H0' G' : Hp} : ∀ {v : List (Str × V)} {r : List (Str × RV)} {as bs : List Addr}, RVqF K mg H0 H G v r as → RVqF K mg H0' H G' v r bs → as = bs
  | _, _, _, _, .nil, .nil => rfl
  | _, _, _, _, .cons h t _, .cons h' t' _ => by rw [RVq.one h h', RVqF.one t t']
theorem RVqL.one {H0' G' : Hp} : ∀ {v : List V} {r : List RV} {as bs : List Addr}, RVqL K mg H0 H G v r as → RVqL K mg H0' H G' v r bs → as = bs
  | _, _, _, _, .nil, .nil => rfl
  | _, _, _, _, .cons h t _, .cons h' t' _ => by rw [RVq.one h h', RVqL.one t t']
end
mutual
/-- what is owned is frozen: as data -/
theorem RVq.dp (s : Same G G') : ∀ {v : V} {r : RV} {as : List Addr}, RVq K mg H0 H G v r as → (∀ b ∈ as, G' b = H b) → Dp K mg G' v r.d
  | _, _, _, .fr h, _ => h.mono s
  | _, _, _, .ol h1 h2 h3 h4, k => .lst (.inl ((k _ List.mem_cons_self).trans h1)) (h4.mono s)
  | _, _, _, .od h1 h2 h3 h4, k => .dk ((k _ List.mem_cons_self).trans h1) (h4.mono s)
  | _, _, _, .ot h1 h2 h3 h4, k => .dt ((k _ List.mem_cons_self).trans h1) (h4.mono s)
  | _, _, _, .oo h0 h1 h2 h3 h4 h5, k => .obj h0.1 ((k _ List.mem_cons_self).trans h1) (RVqF.dp s h4 fun b hb => k b (List.mem_cons_of_mem _ hb))
  | _, _, _, .tr h1 h2 h3 h4 h5, k => .lst (.inl ((k _ List.mem_cons_self).trans h1)) (RVqL.dp s h4 fun b hb => k b (List.mem_cons_of_mem _ hb))
theorem RVqF.dp (s : Same G G') : ∀ {v : List (Str × V)} {r : List (Str × RV)} {as : List Addr}, RVqF K mg H0 H G v r as → (∀ b ∈ as, G' b = H b) → DpF K mg G' v (RV.dF r)
  | _, _, _, .nil, _ => .nil
  | _, _, _, .cons h t d, k => .cons (RVq.dp s h fun b hb => k b (List.mem_append_left _ hb)) (RVqF.dp s t fun b hb => k b (List.mem_append_right _ hb))
theorem RVqL.dp (s : Same G G') : ∀ {v : List V} {r : List RV} {as : List Addr}, RVqL K mg H0 H G v r as → (∀ b ∈ as, G' b = H b) → DpAll K mg G' v (RV.dL r)
  | _, _, _, .nil, _ => .nil
  | _, _, _, .cons h t d, k => .cons (RVq.dp s h fun b hb => k b (List.mem_append_left _ hb)) (RVqL.dp s t fun b hb => k b (List.mem_append_right _ hb))
end
theorem RVp.mono (g : Gr H G H' G') : RVp K mg H0 H G v r → RVp K mg H0 H' G' v r := fun h => by
  obtain ⟨as, q⟩ := h.q
  exact (q.mono g).p
theorem own_nil {as : List Addr} (h : RVq K mg H0 H G v r as) (o : r.own = false) : as = [] := by
  cases h with
  | fr h => rfl
  | _ => cases o
theorem Sl.mono (g : Gr H G H' G') (s : Sl K mg H0 H G σ δ) : Sl K mg H0 H' G' σ δ := by
  refine ⟨s.len, fun i r e => let ⟨v, a, b⟩ := s.at_ i r e; ⟨v, a, b.mono g⟩, fun i j r r' v v' as as' a e e' x x' q q' m m' => ?_⟩
  obtain ⟨u, xu, p⟩ := s.at_ i r e
  obtain ⟨u', xu', p'⟩ := s.at_ j r' e'
  rw [x] at xu; cases xu
  rw [x'] at xu'; cases xu'
  obtain ⟨bs, k⟩ := p.q
  obtain ⟨bs', k'⟩ := p'.q
  have z := (k.mono g).one q
  have z' := (k'.mono g).one q'
  subst z; subst z'
  exact s.dis i j r r' v v' _ _ a e e' x x' k k' m m'
/-- freshness further back -/
theorem RVp.back {H00 : Hp} (s : Same H00 H0) : RVp K mg H0 H G v r → RVp K mg H00 H G v r := fun h => by
  obtain ⟨as, q⟩ := h.q
  exact (q.back s).p
/-- some addresses are frozen -/
def frG (H' G' : Hp) (as : List Addr) : Hp := fun b => if b ∈ as then H' b else G' b
theorem frG_in {as : List Addr} {b : Addr} (h : b ∈ as) : frG H G as b = H b := if_pos h
theorem frG_out {as : List Addr} {b : Addr} (h : b ∉ as) : frG H G as b = G b := if_neg h
theorem frG_same {as : List Addr} (h : ∀ b ∈ as, G b = none) : Same G (frG H G as) := fun b o e => by
  by_cases hb : b ∈ as
  · rw [h b hb] at e; cases e
  · rw [frG_out hb]; exact e
theorem Gr.frG {as : List Addr} (g : Gr H G H' G') (h : ∀ b ∈ as, G' b = none ∧ H b = none) : Gr H G H' (frG H' G' as) where
  hh := g.hh
  gg := g.gg.trans (frG_same fun b hb => (h b hb).1)
  gh := fun b o e => by
    by_cases hb : b ∈ as
    · rw [frG_in hb] at e; exact e
    · rw [frG_out hb] at e; exact g.gh _ _ e
  old := fun b hb => by
    have nb : b ∉ as := fun z => hb (h b z).2
    rw [frG_out nb]
    exact g.old b hb
/-- a value is frozen: as data -/
theorem RVp.frz (g : Gr H G H' G') (h : RVp K mg H H' G' v r) : ∃ G2, Gr H G H' G2 ∧ Same G' G2 ∧ Dp K mg G2 v r.d ∧ ∀ b, G' b ≠ none → G2 b = G' b := by
  obtain ⟨as, q⟩ := h.q
  have o := q.ow
  have s : Same G' (DL.frG H' G' as) := frG_same fun b hb => (o b hb).2.1
  exact ⟨_, g.frG fun b hb => (o b hb).2, s, q.dp s fun b hb => frG_in hb, fun b hb => frG_out fun z => hb (o b z).2.1⟩
theorem postX.mono {W : Value → Option Addr → Hp → Prop} {c : Str} {fs : List (Str × D)} (g : Gr H G H' G') (h : postX K mg H G W c fs) : postX K mg H' G' W c fs := fun cls d H2 G2 g2 x => h cls d H2 G2 (g.trans g2) x
/-- the core of a compound expression: a part is read and frozen, the rest goes on -/
theorem post_bind {W : Value → Option Addr → Hp → Prop} {Q : VK} {Q2 : VK} {x : R RV} {f : D → R RV} (h : post K mg H G W Q2 (x >>= fun r => f r.d))
    (k : ∀ v d H' G', Gr H G H' G' → Dp K mg G' v d → post K mg H' G' W Q2 (f d) → Q v H') : post K mg H G W Q x := by
  cases x with
  | ok r =>
    intro v H' G' g p
    obtain ⟨G2, g2, _, p2, _⟩ := RVp.frz g p
    refine k v r.d H' G2 g2 p2 ?_
    have h' : post K mg H G W Q2 (f r.d) := h
    generalize hy : f r.d = y at h'
    cases y with
    | ok r2 =>
      intro v3 H3 G3 g3 p3
      exact h' v3 H3 G3 (g2.trans g3) (p3.back g2.hh)
    | ex c fs => exact postX.mono g2 h'
    | stuck => exact h'
  | ex c fs => exact h
  | stuck => exact h
end
end DL


set_option maxRecDepth 100000
set_option maxHeartbeats 4000000
namespace DL
open PySem PySem.Spec PyProof.Rows L2

/-! ### weaker readings -/
theorem PE.imp {X : Cx} {e : Expr} {t t' : TE} (h : PE X e t) (w : ∀ σ H Q, t' σ H Q → t σ H Q) : PE X e t' := ⟨fun pins s σ H Q I q => h.run pins s σ H Q I (w σ H Q q)⟩
theorem PT.imp {X : Cx} {e : Expr} {t t' : TT} (h : PT X e t) (w : ∀ σ H Q, t' σ H Q → t σ H Q) : PT X e t' := ⟨fun pins s σ H Q I q => h.run pins s σ H Q I (w σ H Q q)⟩
theorem PW.imp {X : Cx} {e : Expr} {t t' : TT} (h : PW X e t) (w : ∀ σ H Q, t' σ H Q → t σ H Q) : PW X e t' := ⟨fun wh pins s σ H Q I q => h.run wh pins s σ H Q I (w σ H Q q)⟩
theorem PA.imp {X : Cx} {es : List Expr} {t t' : TA} (h : PA X es t) (w : ∀ σ H Q, t' σ H Q → t σ H Q) : PA X es t' := ⟨fun p pins s σ H Q I q => h.run p pins s σ H Q I (w σ H Q q)⟩
theorem PS.imp {X : Cx} {st : Stmt} {t t' : TS} (h : PS X st t) (w : ∀ D σ H, t' D σ H → t D σ H) : PS X st t' := ⟨fun pins s σ H D I q => h.run pins s σ H D I (w D σ H q)⟩
theorem PSs.imp {X : Cx} {st : List Stmt} {t t' : TS} (h : PSs X st t) (w : ∀ D σ H, t' D σ H → t D σ H) : PSs X st t' := ⟨fun pins s σ H D I q => h.run pins s σ H D I (w D σ H q)⟩

section
variable {X : Cx} {H0 G0 : Hp} {W : WX}
/-- the judgements of a part of the text -/
abbrev Ed (X : Cx) (H0 : Hp) (W : WX) (e : Expr) (f : DE → R RV) : Prop := PE X e (tE X.K X.M H0 W f)
abbrev Td (X : Cx) (H0 : Hp) (W : WX) (e : Expr) (f : DE → R Bool) : Prop := PT X e (tB X.K X.M H0 W f)
abbrev Wd (X : Cx) (H0 : Hp) (W : WX) (e : Expr) (f : DE → R Bool) : Prop := PW X e (tB X.K X.M H0 W f)
abbrev Ad (X : Cx) (H0 : Hp) (W : WX) (es : List Expr) (f : DE → R (List D)) : Prop := PA X es (tA X.K X.M H0 W f)

/-! ### names, constants -/
def getV (i : Nat) (δ : DE) : R RV := match δ[i]? with
  | some (some (.fr d)) => .ok (.fr d)
  | _ => .stuck
theorem ed_var (i : Nat) {x : Str} {pos : Pos} (hN : X.N[i]? = some x := by rfl) (hv : Vis X.env.scope x := by first | exact Or.inl rfl | exact Or.inr (Or.inl rfl) | exact Or.inr (Or.inr rfl)) (hd : (x == ("__debug__" : Str)) = false := by decide)
    (hcd : (x == ("__classdict__" : Str)) = false := by decide) : Ed X H0 W (.Name x pos) (getV i) := by
  refine PE.imp (pe_var hN hv hd hcd) fun σ H Q h => ?_
  obtain ⟨G, δ, s, sl, h⟩ := h
  unfold getV at h
  split at h
  · rename_i d e
    obtain ⟨v, e1, e2⟩ := sl.at_ i _ e
    exact ⟨v, e1, h v H G (.refl s) e2⟩
  · exact h.elim
def cst (d : D) (_ : DE) : R RV := .ok (.fr d)
theorem ed_c {e : Expr} {v : V} {d : D} (h : PE X e (tC v)) (p : ∀ G, Dp X.K X.M G v d) : Ed X H0 W e (cst d) := by
  refine PE.imp h fun σ H Q h => ?_
  obtain ⟨G, δ, s, sl, h⟩ := h
  exact h v H G (.refl s) (p G)
theorem ed_int {i j pos} : Ed X H0 W (.Constant (.int i) j pos) (cst (.int i)) := ed_c pe_int fun _ => .int i
theorem ed_bl {b j pos} : Ed X H0 W (.Constant (.bool b) j pos) (cst (.bl b)) := ed_c pe_bl fun _ => .bl b
theorem ed_non {j pos} : Ed X H0 W (.Constant .none j pos) (cst .non) := ed_c pe_non fun _ => .non
theorem ed_str {x j pos} (h : x.cps.all (· < 0x110000) = true := by decide) : Ed X H0 W (.Constant (.str x) j pos) (cst (.str x)) := ed_c pe_str fun _ => .str x h
/-- a constant of the module -/
structure Glb (K : PySem.W.Frag) (mg : Str → Option Value) (x : Str) (d : D) : Prop where
  ex : ∃ u v, mg x = some u ∧ RelV v u ∧ ∀ M G, Dp K M G v d
theorem ed_glob {x : Str} {d : D} {pos : Pos} (g : Glb X.K X.mg x d) (hg : Gl X x := by rfl) (hd : (x == ("__debug__" : Str)) = false := by decide) : Ed X H0 W (.Name x pos) (cst d) := by
  obtain ⟨u, v, hm, r, p⟩ := g.ex
  exact ed_c (pe_glob hg hm r hd) (p _)

/-! ### operators -/
def fBin (g : D → D → R RV) (fa fb : DE → R RV) (δ : DE) : R RV := fa δ >>= fun x => fb δ >>= fun y => g x.d y.d
theorem op_core {g : D → D → R RV} {fa fb : DE → R RV} {K : PySem.W.Frag} {mg : Mg} (σ : L2.St) (H : Hp) (Q : VK) (h : tE K mg H0 W (fBin g fa fb) σ H Q) (noex : ∀ x y c fs, g x y ≠ .ex c fs) : tOp (rD K mg g) (tE K mg H0 W fa) (tE K mg H0 W fb) σ H Q := by
  obtain ⟨G, δ, s, sl, h⟩ := h
  refine ⟨G, δ, s, sl, post_bind (f := fun d => fb δ >>= fun y => g d y.d) h fun v d H1 G1 g1 p1 h1 => ?_⟩
  refine ⟨G1, δ, g1.gh, sl.mono g1, post_bind (f := fun y => g d y) h1 fun u e H2 G2 g2 p2 h2 => ?_⟩
  refine ⟨G2, d, e, g2.gh, p1.mono g2.gg, p2, ?_⟩
  generalize hy : g d e = y at h2
  cases y with
  | ok r => exact h2
  | ex c fs => exact absurd hy (noex _ _ _ _)
  | stuck => exact h2
theorem ed_bin {op : Operator} {g : D → D → R RV} {fa fb : DE → R RV} {a b : Expr} {pos : Pos} (ho : OpR X (binaryOp op) (rD X.K X.M g)) (noex : ∀ x y c fs, g x y ≠ .ex c fs) (ha : Ed X H0 W a fa) (hb : Ed X H0 W b fb) : Ed X H0 W (.BinOp a op b pos) (fBin g fa fb) :=
  PE.imp (pe_op ho ha hb) fun σ H Q h => op_core σ H Q h noex
theorem ed_cmp {op : CmpOp} {g : D → D → R RV} {fa fb : DE → R RV} {a b : Expr} {pos : Pos} (ho : OpR X (compareOp op) (rD X.K X.M g)) (noex : ∀ x y c fs, g x y ≠ .ex c fs) (ha : Ed X H0 W a fa) (hb : Ed X H0 W b fb) (hm : behindInMarks op b = false) : Ed X H0 W (.Compare a [op] [b] pos) (fBin g fa fb) :=
  PE.imp (pe_cmpR ho ha hb hm) fun σ H Q h => op_core σ H Q h noex
def fUn (g : D → R RV) (fa : DE → R RV) (δ : DE) : R RV := fa δ >>= fun x => g x.d
theorem un_core {g : D → R RV} {fa : DE → R RV} {K : PySem.W.Frag} {mg : Mg} (σ : L2.St) (H : Hp) (Q : VK) (h : tE K mg H0 W (fUn g fa) σ H Q) (noex : ∀ x c fs, g x ≠ .ex c fs) : tUn (rD1 K mg g) (tE K mg H0 W fa) σ H Q := by
  obtain ⟨G, δ, s, sl, h⟩ := h
  refine ⟨G, δ, s, sl, post_bind (f := fun d => g d) h fun v d H1 G1 g1 p1 h1 => ?_⟩
  refine ⟨G1, d, g1.gh, p1, ?_⟩
  generalize hy : g d = y at h1
  cases y with
  | ok r => exact h1
  | ex c fs => exact absurd hy (noex _ _ _)
  | stuck => exact h1
theorem ed_un {op : UnaryOp} {g : D → R RV} {fa : DE → R RV} {a : Expr} {pos : Pos} (ho : UnR X (unaryOp op) (rD1 X.K X.M g)) (noex : ∀ x c fs, g x ≠ .ex c fs) (ha : Ed X H0 W a fa) : Ed X H0 W (.UnaryOp op a pos) (fUn g fa) :=
  PE.imp (pe_un ho ha) fun σ H Q h => un_core σ H Q h noex
theorem ed_ix {g : D → D → R RV} {fa fb : DE → R RV} {a b : Expr} {pos : Pos} (ho : IxR X (rD X.K X.M g)) (noex : ∀ x y c fs, g x y ≠ .ex c fs) (ha : Ed X H0 W a fa) (hb : Ed X H0 W b fb) (hs : PlainIx b := by exact fun _ _ => rfl) : Ed X H0 W (.Subscript a b pos) (fBin g fa fb) :=
  PE.imp (pe_ix ho ha hb hs) fun σ H Q h => op_core σ H Q h noex

/-! ### arguments, calls -/
def aNil (_ : DE) : R (List D) := .ok []
def aCons (f : DE → R RV) (fs : DE → R (List D)) (δ : DE) : R (List D) := f δ >>= fun r => fs δ >>= fun ds => .ok (r.d :: ds)
theorem ad_nil : Ad X H0 W [] aNil := PA.imp pa_nil fun σ H Q h => by
  obtain ⟨G, δ, s, sl, h⟩ := h
  exact h [] H G (.refl s) .nil
theorem ad_cons {e : Expr} {es : List Expr} {f : DE → R RV} {fs : DE → R (List D)} (he : Ed X H0 W e f) (hr : Ad X H0 W es fs) (hs : starEach (e :: es) X.env = (false, eval e X.env) :: starEach es X.env := by rfl) : Ad X H0 W (e :: es) (aCons f fs) := by
  refine PA.imp (pa_cons he hr hs) fun σ H Q h => ?_
  obtain ⟨G, δ, s, sl, h⟩ := h
  refine ⟨G, δ, s, sl, ?_⟩
  unfold aCons at h
  cases hf : f δ with
  | ok r =>
    rw [hf, bind_ok] at h
    intro v H1 G1 g1 p1
    obtain ⟨G2, g2, _, p2, _⟩ := RVp.frz g1 p1
    refine ⟨G2, δ, g2.gh, sl.mono g2, ?_⟩
    cases hg : fs δ with
    | ok ds =>
      rw [hg, bind_ok] at h
      intro vs H3 G3 g3 p3
      exact h (v :: vs) H3 G3 (g2.trans g3) (.cons (p2.mono g3.gg) p3)
    | ex c fs' =>
      rw [hg, bind_ex] at h
      exact postX.mono g2 h
    | stuck =>
      rw [hg, bind_stuck] at h
      exact h
  | ex c fs' => rw [hf, bind_ex] at h; exact h
  | stuck => rw [hf, bind_stuck] at h; exact h
def fCall (g : List D → R RV) (fa : DE → R (List D)) (δ : DE) : R RV := fa δ >>= g
/-- arguments, then what is done with their values -/
theorem call_core {g : List D → R RV} {fa : DE → R (List D)} {K : PySem.W.Frag} {mg : Mg} {r : List V → Hp → VK → Prop} (σ : L2.St) (H : Hp) (Q : VK) (h : tE K mg H0 W (fCall g fa) σ H Q)
    (hr : ∀ vs H1 G1 ds, Same G1 H1 → DpAll K mg G1 vs ds → post K mg H1 G1 (fun c d H' => W c d σ H') Q (g ds) → r vs H1 Q) : tA K mg H0 W fa σ H fun vs H1 => r vs H1 Q := by
  obtain ⟨G, δ, s, sl, h⟩ := h
  refine ⟨G, δ, s, sl, ?_⟩
  unfold fCall at h
  cases hf : fa δ with
  | ok ds =>
    rw [hf, bind_ok] at h
    intro vs H1 G1 g1 p1
    refine hr vs H1 G1 ds g1.gh p1 ?_
    cases hg : g ds with
    | ok r =>
      rw [hg] at h
      intro v H2 G2 g2 p2
      exact h v H2 G2 (g1.trans g2) (p2.back g1.hh)
    | ex c fs =>
      rw [hg] at h
      exact postX.mono g1 h
    | stuck => rw [hg] at h; exact h
  | ex c fs' => rw [hf, bind_ex] at h; exact h
  | stuck => rw [hf, bind_stuck] at h; exact h
/-- a def of the text, by its Lean function -/
structure CalD (P : Program) (w : World) (K : PySem.W.Frag) (mg : Str → Option Value) (base : Heap) (k : Nat) (x : Str) (g : List D → R RV) : Prop where
  ex : ∃ (f : Addr) (fd : FuncData) (ps : List Str), FnOk P w K mg base (L2N.CX P w) k f fd ps (spD K ⟨mg, P, w⟩ g) ∧ mg x = some (.ref f) ∧ PySem.W.keepIn K (.ref f) = true ∧ Binds K fd ps []
theorem ed_call {k j : Nat} {A0 : Around} {x : Str} {g : List D → R RV} {fa : DE → R (List D)} {p pos : Pos} {e : Expr} {es : List Expr} (c : CalD X.prog X.w X.K X.mg X.base k x g) (hr : Room j A0) (hk : k ≤ j) (tk : L2N.Takes X W) (ha : Ad X H0 W (e :: es) fa) (hA : X.A = A0 := by rfl) (hg : Gl X x := by rfl)
    (hdb : (x == ("__debug__" : Str)) = false := by decide) (he : starEach (e :: es) X.env = (false, eval e X.env) :: starEach es X.env := by rfl) (hpl : (backTo pos (starEach es X.env)).any (·.1) = false := by rfl) :
    Ed X H0 W (.Call (.Name x p) (e :: es) [] pos) (fCall g fa) := by
  obtain ⟨f, fd, ps, F, hm, kp, b⟩ := c.ex
  subst hA
  refine PE.imp (pe_callSD F (hr.mono hk) hg hm kp b .nil (fun σ => L2N.passAt tk σ) ha hdb he hpl) fun σ H Q h => ?_
  refine call_core (r := fun vs H1 Q => spD X.K X.M g (vs ++ []) H1 Q (WE W σ)) σ H Q h fun vs H1 G1 ds s p h => ?_
  rw [List.append_nil]
  exact ⟨G1, ds, s, p, h⟩
/-- a built-in function, a built-in class -/
theorem ed_callB {x : Str} {id : String} {g : List D → R RV} {fa : DE → R (List D)} {p pos : Pos} {e : Expr} {es : List Expr} (hc : CallR X (.builtin id) (rDA X.K X.M g)) (noex : ∀ x c fs, g x ≠ .ex c fs) (hm : X.mg x = none) (hv : bootBuiltins x = some (.builtin id)) (ha : Ad X H0 W (e :: es) fa)
    (hg : Gl X x := by rfl) (hn : x ≠ "__name__" := by decide) (hdb : (x == ("__debug__" : Str)) = false := by decide) (he : starEach (e :: es) X.env = (false, eval e X.env) :: starEach es X.env := by rfl) (hpl : (backTo pos (starEach es X.env)).any (·.1) = false := by rfl) :
    Ed X H0 W (.Call (.Name x p) (e :: es) [] pos) (fCall g fa) := by
  refine PE.imp (pe_callB hc hg hm hv ha hn hdb he hpl) fun σ H Q h => ?_
  refine call_core σ H Q h fun vs H1 G1 ds s p h => ⟨G1, ds, s, p, ?_⟩
  generalize hy : g ds = y at h
  cases y with
  | ok r => exact h
  | ex c fs => exact absurd hy (noex _ _ _)
  | stuck => exact h
theorem ed_callT {x : Str} {id : String} {g : List D → R RV} {fa : DE → R (List D)} {p pos : Pos} {e : Expr} {es : List Expr} (hc : CallR X (.type id) (rDA X.K X.M g)) (noex : ∀ x c fs, g x ≠ .ex c fs) (hm : X.mg x = none) (hv : bootBuiltins x = some (.type id)) (ha : Ad X H0 W (e :: es) fa)
    (hg : Gl X x := by rfl) (hn : x ≠ "__name__" := by decide) (hdb : (x == ("__debug__" : Str)) = false := by decide) (he : starEach (e :: es) X.env = (false, eval e X.env) :: starEach es X.env := by rfl) (hpl : (backTo pos (starEach es X.env)).any (·.1) = false := by rfl) :
    Ed X H0 W (.Call (.Name x p) (e :: es) [] pos) (fCall g fa) := by
  refine PE.imp (pe_callTy hc hg hm hv ha hn hdb he hpl) fun σ H Q h => ?_
  refine call_core σ H Q h fun vs H1 G1 ds s p h => ⟨G1, ds, s, p, ?_⟩
  generalize hy : g ds = y at h
  cases y with
  | ok r => exact h
  | ex c fs => exact absurd hy (noex _ _ _)
  | stuck => exact h
/-- displays -/
def SZ : Nat := 1000000
theorem sz_le {n : Nat} (h : n ≤ SZ) : n ≤ sizeLine := Nat.le_trans h (by rw [sizeLine_eq]; decide)
theorem sz_lt {n : Nat} (h : n ≤ SZ) : n < sizeLine := Nat.lt_of_le_of_lt h (by rw [sizeLine_eq]; decide)
def fTup (n : Nat) (fa : DE → R (List D)) (δ : DE) : R RV := fa δ >>= fun ds => .ok (.fr (.tup ds))
def fLst (n : Nat) (fa : DE → R (List D)) (δ : DE) : R RV := fa δ >>= fun ds => .ok (.ol ds)
/-- how long an argument list is -/
structure Alen (n : Nat) (fa : DE → R (List D)) : Prop where
  ok : ∀ δ ds, fa δ = .ok ds → ds.length = n
theorem alen_nil : Alen 0 aNil := ⟨fun δ ds h => by cases h; rfl⟩
theorem alen_cons {n : Nat} {f : DE → R RV} {fs : DE → R (List D)} (h : Alen n fs) : Alen (n + 1) (aCons f fs) := ⟨fun δ ds e => by
  unfold aCons at e
  cases hf : f δ with
  | ok r =>
    rw [hf, bind_ok] at e
    cases hg : fs δ with
    | ok es => rw [hg, bind_ok] at e; cases e; rw [List.length_cons, h.ok δ es hg]
    | ex c fs' => rw [hg] at e; cases e
    | stuck => rw [hg] at e; cases e
  | ex c fs' => rw [hf] at e; cases e
  | stuck => rw [hf] at e; cases e⟩
theorem new_frz {K : PySem.W.Frag} {mg : Mg} {H G : Hp} {p : Addr} {vs : List V} {ds : List D} {Q : VK} {Wd} (s : Same G H) (hp : H p = none) (a : DpAll K mg G vs ds) (h : post K mg H G Wd Q (.ok (.fr (.tup ds)))) : Q (.ref p) (upd H p (.tup vs)) := by
  refine h (.ref p) _ (upd G p (.tup vs)) (.new s hp) ?_
  have hG : G p = none := by
    cases e : G p with
    | none => rfl
    | some o => have := s _ _ e; rw [hp] at this; cases this
  exact .tup (.inl (.inl upd_same)) (a.mono (upd_same_of hG))
theorem new_own {K : PySem.W.Frag} {mg : Mg} {H G : Hp} {p : Addr} {vs : List V} {ds : List D} {Q : VK} {Wd} (s : Same G H) (hp : H p = none) (a : DpAll K mg G vs ds) (h : post K mg H G Wd Q (.ok (.ol ds))) : Q (.ref p) (upd H p (.lst vs)) := by
  refine h (.ref p) _ G (.mut s hp) ?_
  have hG : G p = none := by
    cases e : G p with
    | none => rfl
    | some o => have := s _ _ e; rw [hp] at this; cases this
  exact ⟨p, vs, rfl, upd_same, hG, hp, a⟩
theorem ed_tup {n : Nat} {es : List Expr} {fa : DE → R (List D)} {x1} {pos : Pos} (ha : Ad X H0 W es fa) (hn : Alen n fa) (hz : n ≤ SZ := by decide) : Ed X H0 W (.Tuple es x1 pos) (fTup n fa) := by
  refine PE.imp (pe_tup ha) fun σ H Q h => ?_
  obtain ⟨G, δ, s, sl, h⟩ := h
  refine ⟨G, δ, s, sl, ?_⟩
  unfold fTup at h
  cases hf : fa δ with
  | ok ds =>
    rw [hf, bind_ok] at h
    intro vs H1 G1 g1 p1
    refine ⟨by rw [p1.len, hn.ok _ _ hf]; exact sz_le hz, fun p hp => new_frz (Wd := fun _ _ _ => False) g1.gh hp p1 fun v H2 G2 g2 p2 => h v H2 G2 (g1.trans g2) (p2.back g1.hh)⟩
  | ex c fs' => rw [hf, bind_ex] at h; exact h
  | stuck => rw [hf, bind_stuck] at h; exact h
theorem ed_lst {n : Nat} {es : List Expr} {fa : DE → R (List D)} {pos : Pos} (ha : Ad X H0 W es fa) (hn : Alen n fa) (hz : n ≤ SZ := by decide) : Ed X H0 W (.List es pos) (fLst n fa) := by
  refine PE.imp (pe_lst ha) fun σ H Q h => ?_
  obtain ⟨G, δ, s, sl, h⟩ := h
  refine ⟨G, δ, s, sl, ?_⟩
  unfold fLst at h
  cases hf : fa δ with
  | ok ds =>
    rw [hf, bind_ok] at h
    intro vs H1 G1 g1 p1
    refine ⟨by rw [p1.len, hn.ok _ _ hf]; exact sz_le hz, fun p hp => new_own (Wd := fun _ _ _ => False) g1.gh hp p1 fun v H2 G2 g2 p2 => h v H2 G2 (g1.trans g2) (p2.back g1.hh)⟩
  | ex c fs' => rw [hf, bind_ex] at h; exact h
  | stuck => rw [hf, bind_stuck] at h; exact h

/-! ### tests -/
def truD : D → R Bool
  | .bl b => .ok b
  | .int i => .ok (i != 0)
  | .non => .ok false
  | .str x => if x.length ≤ SZ then .ok ((x.length : Int) != 0) else .stuck
  | .lst xs => .ok (!xs.isEmpty)
  | .tup xs => .ok (!xs.isEmpty)
  | _ => .stuck
def fT (f : DE → R RV) (δ : DE) : R Bool := f δ >>= fun r => truD r.d
theorem postB_bind {K : PySem.W.Frag} {mg : Mg} {H G : Hp} {W : Value → Option Addr → Hp → Prop} {Q : VK} {Q2 : Bool → Hp → Prop} {x : R RV} {f : D → R Bool} (h : postB K mg H G W Q2 (x >>= fun r => f r.d))
    (k : ∀ v d H' G', Gr H G H' G' → Dp K mg G' v d → postB K mg H' G' W Q2 (f d) → Q v H') : post K mg H G W Q x := by
  cases x with
  | ok r =>
    intro v H' G' g p
    obtain ⟨G2, g2, _, p2, _⟩ := RVp.frz g p
    refine k v r.d H' G2 g2 p2 ?_
    have h' : postB K mg H G W Q2 (f r.d) := h
    generalize hy : f r.d = y at h'
    cases y with
    | ok r2 =>
      intro H3 G3 g3
      exact h' H3 G3 (g2.trans g3)
    | ex c fs => exact postX.mono g2 h'
    | stuck => exact h'
  | ex c fs => exact h
  | stuck => exact h
theorem dp_isEmpty {K : PySem.W.Frag} {mg : Mg} {G : Hp} {xs : List V} {ds : List D} (a : DpAll K mg G xs ds) : xs.isEmpty = ds.isEmpty := by
  cases a <;> rfl
theorem truD_ok {K : PySem.W.Frag} {mg : Mg} {H G : Hp} {W : Value → Option Addr → Hp → Prop} {Q : Bool → Hp → Prop} {v : V} {d : D} (s : Same G H) (p : Dp K mg G v d) (h : postB K mg H G W Q (truD d)) : ∃ k, TruV K v H k ∧ Q k H := by
  cases p with
  | non => exact ⟨false, rfl, h H G (.refl s)⟩
  | bl b => exact ⟨b, rfl, h H G (.refl s)⟩
  | int i => exact ⟨_, rfl, h H G (.refl s)⟩
  | str x hx =>
    have h2 : postB K mg H G W Q (if x.length ≤ SZ then .ok ((x.length : Int) != 0) else .stuck) := h
    by_cases hz : x.length ≤ SZ
    · rw [if_pos hz] at h2
      exact ⟨_, ⟨sz_le hz, rfl⟩, h2 H G (.refl s)⟩
    · rw [if_neg hz] at h2
      exact h2.elim
  | lst r a => exact ⟨_, .inl ⟨_, .inl (same_rd s r), rfl⟩, by rw [dp_isEmpty a]; exact h H G (.refl s)⟩
  | tup r a => exact ⟨_, .inr (.inl ⟨_, same_t s r, rfl⟩), by rw [dp_isEmpty a]; exact h H G (.refl s)⟩
  | dk r a => exact h.elim
  | dt r a => exact h.elim
  | obj r a b => exact h.elim
  | exn r a b => exact h.elim
theorem td_val {e : Expr} {f : DE → R RV} (h : Ed X H0 W e f) (he : ∀ whole, isTrue e X.env whole = (do let v ← whole; standAt e.pos; holding [v] (truthy v)) := by exact fun _ => rfl) : Td X H0 W e (fT f) := by
  refine PT.imp (pt_truth h he) fun σ H Q h => ?_
  obtain ⟨G, δ, s, sl, h⟩ := h
  exact ⟨G, δ, s, sl, postB_bind (f := truD) h fun v d H1 G1 g1 p1 h1 => truD_ok g1.gh p1 h1⟩
/-- a comparison as a test -/
def blD : D → R Bool
  | .bl b => .ok b
  | _ => .stuck
def fB (f : DE → R RV) (δ : DE) : R Bool := f δ >>= fun r => blD r.d
theorem td_cmp {op : CmpOp} {g : D → D → R RV} {fa fb : DE → R RV} {a b : Expr} {pos : Pos} (ho : OpR X (compareOp op) (rD X.K X.M g)) (noex : ∀ x y c fs, g x y ≠ .ex c fs) (ha : Ed X H0 W a fa) (hb : Ed X H0 W b fb) (hm : behindInMarks op b = false) : Td X H0 W (.Compare a [op] [b] pos) (fB (fBin g fa fb)) := by
  refine PT.imp (pt_cmpR ho ha hb hm) fun σ H Q h => ?_
  obtain ⟨G, δ, s, sl, h⟩ := h
  refine op_core σ H _ ⟨G, δ, s, sl, postB_bind (f := blD) h fun v d H1 G1 g1 p1 h1 => ?_⟩ noex
  cases p1 with
  | bl b => exact ⟨b, rfl, h1 H1 G1 (.refl g1.gh)⟩
  | _ => exact h1.elim
/-- and, or, not as tests -/
def bAnd (fa fb : DE → R Bool) (δ : DE) : R Bool := fa δ >>= fun b => if b = true then fb δ else .ok false
def bOr (fa fb : DE → R Bool) (δ : DE) : R Bool := fa δ >>= fun b => if b = true then .ok true else fb δ
def bNot (fa : DE → R Bool) (δ : DE) : R Bool := fa δ >>= fun b => .ok (!b)
theorem postB_seq {K : PySem.W.Frag} {mg : Mg} {H G : Hp} {W : Value → Option Addr → Hp → Prop} {Q Q2 : Bool → Hp → Prop} {x : R Bool} {f : Bool → R Bool} (h : postB K mg H G W Q2 (x >>= f))
    (k : ∀ b H' G', Gr H G H' G' → postB K mg H' G' W Q2 (f b) → Q b H') : postB K mg H G W Q x := by
  cases x with
  | ok b =>
    intro H' G' g
    refine k b H' G' g ?_
    have h' : postB K mg H G W Q2 (f b) := h
    generalize hy : f b = y at h'
    cases y with
    | ok r2 => exact fun H3 G3 g3 => h' H3 G3 (g.trans g3)
    | ex c fs => exact postX.mono g h'
    | stuck => exact h'
  | ex c fs => exact h
  | stuck => exact h
theorem wd_one {a : Expr} {op} {pos : Pos} {f : DE → R Bool} (h : PT X a (tB X.K X.M H0 W f)) (ho : op = .And ∨ op = .Or := by first | exact Or.inl rfl | exact Or.inr rfl) : Wd X H0 W (.BoolOp op [a] pos) f := by
  rcases ho with rfl | rfl
  · exact pw_and1 h
  · exact pw_or1 h
theorem wd_and {a b : Expr} {rest : List Expr} {pos : Pos} {fa fb : DE → R Bool} (ha : Td X H0 W a fa) (hb : Wd X H0 W (.BoolOp .And (b :: rest) pos) fb) : Wd X H0 W (.BoolOp .And (a :: b :: rest) pos) (bAnd fa fb) := by
  refine PW.imp (pw_and ha hb) fun σ H Q h => ?_
  obtain ⟨G, δ, s, sl, h⟩ := h
  refine ⟨G, δ, s, sl, postB_seq h fun c H1 G1 g1 h1 => ?_⟩
  cases c with
  | true => exact ⟨G1, δ, g1.gh, sl.mono g1, h1⟩
  | false => exact h1 H1 G1 (.refl g1.gh)
theorem wd_or {a b : Expr} {rest : List Expr} {pos : Pos} {fa fb : DE → R Bool} (ha : Td X H0 W a fa) (hb : Wd X H0 W (.BoolOp .Or (b :: rest) pos) fb) : Wd X H0 W (.BoolOp .Or (a :: b :: rest) pos) (bOr fa fb) := by
  refine PW.imp (pw_or ha hb) fun σ H Q h => ?_
  obtain ⟨G, δ, s, sl, h⟩ := h
  refine ⟨G, δ, s, sl, postB_seq h fun c H1 G1 g1 h1 => ?_⟩
  cases c with
  | true => exact h1 H1 G1 (.refl g1.gh)
  | false => exact ⟨G1, δ, g1.gh, sl.mono g1, h1⟩
theorem td_w {e : Expr} {f : DE → R Bool} (h : Wd X H0 W e f) : Td X H0 W e f := h.pt
theorem td_not {a : Expr} {pos : Pos} {f : DE → R Bool} (h : Td X H0 W a f) : Td X H0 W (.UnaryOp .Not a pos) (bNot f) := by
  refine PT.imp (pt_not h) fun σ H Q h => ?_
  obtain ⟨G, δ, s, sl, h⟩ := h
  exact ⟨G, δ, s, sl, postB_seq h fun c H1 G1 g1 h1 => h1 H1 G1 (.refl g1.gh)⟩
/-- .. as values: x and y, x or y (by truth), not x -/
def fAnd (fa fb : DE → R RV) (δ : DE) : R RV := fa δ >>= fun r => truD r.d >>= fun b => if b = true then fb δ else .ok (.fr r.d)
def fOr (fa fb : DE → R RV) (δ : DE) : R RV := fa δ >>= fun r => truD r.d >>= fun b => if b = true then .ok (.fr r.d) else fb δ
def fNot (fa : DE → R RV) (δ : DE) : R RV := fa δ >>= fun r => truD r.d >>= fun b => .ok (.fr (.bl (!b)))
theorem tru_bind {K : PySem.W.Frag} {mg : Mg} {H G : Hp} {W : Value → Option Addr → Hp → Prop} {Q2 : VK} {v : V} {d : D} {f : Bool → R RV} (s : Same G H) (p : Dp K mg G v d) (h : post K mg H G W Q2 (truD d >>= f)) : ∃ k, TruV K v H k ∧ post K mg H G W Q2 (f k) := by
  have q : ∃ k, truD d = .ok k := by
    cases e : truD d with
    | ok k => exact ⟨k, rfl⟩
    | ex c fs => cases d <;> simp [truD] at e; split at e <;> cases e
    | stuck => rw [e] at h; exact h.elim
  obtain ⟨k, e⟩ := q
  rw [e, bind_ok] at h
  obtain ⟨k', t, e'⟩ := truD_ok (W := W) (Q := fun b _ => b = k) s p (by rw [e]; exact fun _ _ _ => rfl)
  subst e'
  exact ⟨k', t, h⟩
theorem ed_and1 {op} {a : Expr} {pos : Pos} {f : DE → R RV} (h : Ed X H0 W a f) : Ed X H0 W (.BoolOp op [a] pos) f := pe_one h
theorem ed_and {a b : Expr} {rest : List Expr} {pos : Pos} {fa fb : DE → R RV} (ha : Ed X H0 W a fa) (hb : Ed X H0 W (.BoolOp .And (b :: rest) pos) fb) : Ed X H0 W (.BoolOp .And (a :: b :: rest) pos) (fAnd fa fb) := by
  refine PE.imp (pe_andT ha hb) fun σ H Q h => ?_
  obtain ⟨G, δ, s, sl, h⟩ := h
  refine ⟨G, δ, s, sl, post_bind (f := fun d => truD d >>= fun b => if b = true then fb δ else .ok (.fr d)) h fun v d H1 G1 g1 p1 h1 => ?_⟩
  obtain ⟨k, t, h2⟩ := tru_bind g1.gh p1 h1
  refine ⟨k, t, ?_⟩
  cases k with
  | true => exact ⟨G1, δ, g1.gh, sl.mono g1, h2⟩
  | false => exact h2 v H1 G1 (.refl g1.gh) p1
theorem ed_or {a b : Expr} {rest : List Expr} {pos : Pos} {fa fb : DE → R RV} (ha : Ed X H0 W a fa) (hb : Ed X H0 W (.BoolOp .Or (b :: rest) pos) fb) : Ed X H0 W (.BoolOp .Or (a :: b :: rest) pos) (fOr fa fb) := by
  refine PE.imp (pe_orT ha hb) fun σ H Q h => ?_
  obtain ⟨G, δ, s, sl, h⟩ := h
  refine ⟨G, δ, s, sl, post_bind (f := fun d => truD d >>= fun b => if b = true then .ok (.fr d) else fb δ) h fun v d H1 G1 g1 p1 h1 => ?_⟩
  obtain ⟨k, t, h2⟩ := tru_bind g1.gh p1 h1
  refine ⟨k, t, ?_⟩
  cases k with
  | true => exact h2 v H1 G1 (.refl g1.gh) p1
  | false => exact ⟨G1, δ, g1.gh, sl.mono g1, h2⟩
theorem ed_not {a : Expr} {pos : Pos} {fa : DE → R RV} (ha : Ed X H0 W a fa) : Ed X H0 W (.UnaryOp .Not a pos) (fNot fa) := by
  refine PE.imp (pe_notT ha) fun σ H Q h => ?_
  obtain ⟨G, δ, s, sl, h⟩ := h
  refine ⟨G, δ, s, sl, post_bind (f := fun d => truD d >>= fun b => .ok (.fr (.bl (!b)))) h fun v d H1 G1 g1 p1 h1 => ?_⟩
  obtain ⟨k, t, h2⟩ := tru_bind g1.gh p1 h1
  exact ⟨k, t, h2 _ H1 G1 (.refl g1.gh) (.bl _)⟩
/-- a if c else b -/
def fIf (c : DE → R Bool) (fa fb : DE → R RV) (δ : DE) : R RV := c δ >>= fun b => if b = true then fa δ else fb δ
theorem postT_bind {K : PySem.W.Frag} {mg : Mg} {H G : Hp} {W : Value → Option Addr → Hp → Prop} {Q : Bool → Hp → Prop} {Q2 : VK} {x : R Bool} {f : Bool → R RV} (h : post K mg H G W Q2 (x >>= f))
    (k : ∀ b H' G', Gr H G H' G' → post K mg H' G' W Q2 (f b) → Q b H') : postB K mg H G W Q x := by
  cases x with
  | ok b =>
    intro H' G' g
    refine k b H' G' g ?_
    have h' : post K mg H G W Q2 (f b) := h
    generalize hy : f b = y at h'
    cases y with
    | ok r2 => exact fun v H3 G3 g3 p3 => h' v H3 G3 (g.trans g3) (p3.back g.hh)
    | ex c fs => exact postX.mono g h'
    | stuck => exact h'
  | ex c fs => exact h
  | stuck => exact h
theorem ed_if {c a b : Expr} {pos : Pos} {fc : DE → R Bool} {fa fb : DE → R RV} (hc : Td X H0 W c fc) (ha : Ed X H0 W a fa) (hb : Ed X H0 W b fb) : Ed X H0 W (.IfExp c a b pos) (fIf fc fa fb) := by
  refine PE.imp (pe_ifExp hc ha hb) fun σ H Q h => ?_
  obtain ⟨G, δ, s, sl, h⟩ := h
  refine ⟨G, δ, s, sl, postT_bind h fun k H1 G1 g1 h1 => ?_⟩
  cases k with
  | true => exact ⟨G1, δ, g1.gh, sl.mono g1, h1⟩
  | false => exact ⟨G1, δ, g1.gh, sl.mono g1, h1⟩
end
end DL


set_option maxRecDepth 100000
set_option maxHeartbeats 4000000
namespace DL
open PySem PySem.Spec PyProof.Rows L2

/-! ### statements -/
inductive SR where
  | nx (δ : DE) | br (δ : DE) | ct (δ : DE) | rt (r : RV) | ex (c : Str) (fs : List (Str × D)) (δ : DE) | stuck
def lift {α : Type} (x : R α) (δ : DE) (k : α → SR) : SR := match x with
  | .ok a => k a
  | .ex c fs => .ex c fs δ
  | .stuck => .stuck
theorem lift_ok {α : Type} (a : α) (δ : DE) (k : α → SR) : lift (.ok a) δ k = k a := rfl
def SR.seq (s : SR) (F : DE → SR) : SR := match s with
  | .nx δ => F δ
  | r => r
theorem seq_nx (δ : DE) (F : DE → SR) : (SR.nx δ).seq F = F δ := rfl
theorem seq_rt (r : RV) (F : DE → SR) : (SR.rt r).seq F = .rt r := rfl
section
variable (K : PySem.W.Frag) (mg : Mg) (H0 G0 : Hp) (W : WX)
def postS (G : Hp) (D : Ends) : SR → Prop
  | .nx δ' => ∀ σ' H' G', Gr H0 G0 H' G' → Same G G' → Sl K mg H0 H' G' σ' δ' → D.nx σ' H'
  | .br δ' => ∀ σ' H' G', Gr H0 G0 H' G' → Same G G' → Sl K mg H0 H' G' σ' δ' → D.bk σ' H'
  | .ct δ' => ∀ σ' H' G', Gr H0 G0 H' G' → Same G G' → Sl K mg H0 H' G' σ' δ' → D.ct σ' H'
  | .rt r => ∀ v H' G', Gr H0 G0 H' G' → RVp K mg H0 H' G' v r → D.rt v H'
  | .ex c fs δ' => ∀ cls d σ' H' G', Gr H0 G0 H' G' → Same G G' → Sl K mg H0 H' G' σ' δ' → XRp K mg H' G' c fs cls d → W cls d σ' H'
  | .stuck => False
def tS (F : DE → SR) : TS := fun D σ H => ∃ G δ, Gr H0 G0 H G ∧ Sl K mg H0 H G σ δ ∧ postS K mg H0 G0 W G D (F δ)
/-- a target -/
def tG (bd : D → DE → Option DE) : TG := fun v σ H Q => ∃ G δ d, Gr H0 G0 H G ∧ Sl K mg H0 H G σ δ ∧ Dp K mg G v d ∧ match bd d δ with
  | some δ' => ∀ σ' H' G', Gr H0 G0 H' G' → Same G G' → Sl K mg H0 H' G' σ' δ' → Q σ' H'
  | none => False
/-- an iterator that gives ds -/
def ItD (J : It) (ds : List D) (G : Hp) : Prop := ∀ G' H', Same G G' → Same G' H' →
  (∀ i d, ds[i]? = some d → J.go i H' ∧ ∀ x H2, J.yld i H' x H2 → ∃ G2, Gr H' G' H2 G2 ∧ Dp K mg G2 x d) ∧ J.stop ds.length H'
def tI (f : DE → R (List D)) : TI := fun σ H R => ∃ G δ, Same G H ∧ Sl K mg H0 H G σ δ ∧ match f δ with
  | .ok ds => ∀ J H' G', Gr H G H' G' → ItD K mg J ds G' → R J H'
  | .ex c fs => postX K mg H G (fun c d H' => W c d σ H') c fs
  | .stuck => False
end

abbrev Sd (X : Cx) (H0 G0 : Hp) (W : WX) (st : Stmt) (F : DE → SR) : Prop := PS X st (tS X.K X.M H0 G0 W F)
abbrev Bd (X : Cx) (H0 G0 : Hp) (W : WX) (st : List Stmt) (F : DE → SR) : Prop := PSs X st (tS X.K X.M H0 G0 W F)
abbrev Gd (X : Cx) (H0 G0 : Hp) (tg : Expr) (bd : D → DE → Option DE) : Prop := PG X tg (tG X.K X.M H0 G0 bd)
abbrev Id_ (X : Cx) (H0 : Hp) (W : WX) (tg iter : Expr) (f : DE → R (List D)) : Prop := PI X tg iter (tI X.K X.M H0 W f)

section
variable {K : PySem.W.Frag} {mg : Mg} {H0 G0 H G : Hp} {W : WX} {D0 : Ends} {σ : L2.St} {δ : DE}
theorem postS.mono {G1 : Hp} {r : SR} (s : Same G G1) (h : postS K mg H0 G0 W G D0 r) : postS K mg H0 G0 W G1 D0 r := by
  cases r with
  | nx δ' => exact fun σ' H' G' a b => h σ' H' G' a (s.trans b)
  | br δ' => exact fun σ' H' G' a b => h σ' H' G' a (s.trans b)
  | ct δ' => exact fun σ' H' G' a b => h σ' H' G' a (s.trans b)
  | rt r => exact h
  | ex c fs δ' => exact fun cls d σ' H' G' a b => h cls d σ' H' G' a (s.trans b)
  | stuck => exact h
/-- an expression, then a statement's end -/
theorem lift_core {f : DE → R RV} {k : RV → SR} {Q : VK} (g : Gr H0 G0 H G) (sl : Sl K mg H0 H G σ δ) (h : postS K mg H0 G0 W G D0 (lift (f δ) δ k))
    (hk : ∀ r v H1 G1, f δ = .ok r → Gr H G H1 G1 → Gr H0 G0 H1 G1 → Sl K mg H0 H1 G1 σ δ → RVp K mg H H1 G1 v r → postS K mg H0 G0 W G1 D0 (k r) → Q v H1) : tE K mg H0 W f σ H Q := by
  refine ⟨G, δ, g.gh, sl, ?_⟩
  cases e : f δ with
  | ok r =>
    rw [e, lift_ok] at h
    intro v H1 G1 g1 p1
    exact hk r v H1 G1 e g1 (g.trans g1) (sl.mono g1) p1 (h.mono g1.gg)
  | ex c fs =>
    rw [e] at h
    intro cls d H1 G1 g1 x
    exact h cls d σ H1 G1 (g.trans g1) g1.gg (sl.mono g1) x
  | stuck => rw [e] at h; exact h
theorem lift_coreB {f : DE → R Bool} {k : Bool → SR} {Q : Bool → Hp → Prop} (g : Gr H0 G0 H G) (sl : Sl K mg H0 H G σ δ) (h : postS K mg H0 G0 W G D0 (lift (f δ) δ k))
    (hk : ∀ b H1 G1, f δ = .ok b → Gr H G H1 G1 → Gr H0 G0 H1 G1 → Sl K mg H0 H1 G1 σ δ → postS K mg H0 G0 W G1 D0 (k b) → Q b H1) : tB K mg H0 W f σ H Q := by
  refine ⟨G, δ, g.gh, sl, ?_⟩
  cases e : f δ with
  | ok r =>
    rw [e, lift_ok] at h
    intro H1 G1 g1
    exact hk r H1 G1 e g1 (g.trans g1) (sl.mono g1) (h.mono g1.gg)
  | ex c fs =>
    rw [e] at h
    intro cls d H1 G1 g1 x
    exact h cls d σ H1 G1 (g.trans g1) g1.gg (sl.mono g1) x
  | stuck => rw [e] at h; exact h
theorem set_at {α : Type} {l : List (Option α)} {i j : Nat} {r q : Option α} (e : (l.set i r)[j]? = some q) : (i = j ∧ r = q) ∨ (i ≠ j ∧ l[j]? = some q) := by
  by_cases hj : i = j
  · subst hj
    by_cases hl : i < l.length
    · rw [List.getElem?_set_self hl] at e
      exact .inl ⟨rfl, Option.some.inj e⟩
    · rw [List.getElem?_eq_none (by rw [List.length_set]; omega)] at e
      cases e
  · rw [List.getElem?_set_ne hj] at e
    exact .inr ⟨hj, e⟩
/-- a slot is written -/
theorem Sl.put {i : Nat} {v : V} {r : RV} (sl : Sl K mg H0 H G σ δ) (p : RVp K mg H0 H G v r) (new : r.own = true → ∀ as j r' v' as', RVq K mg H0 H G v r as → δ[j]? = some (some r') → σ[j]? = some (some v') → RVq K mg H0 H G v' r' as' → j ≠ i → ∀ b ∈ as, b ∉ as') :
    Sl K mg H0 H G (σ.set i (some v)) (δ.set i (some r)) := by
  have new' : ∀ as j r' v' as', RVq K mg H0 H G v r as → δ[j]? = some (some r') → σ[j]? = some (some v') → RVq K mg H0 H G v' r' as' → j ≠ i → ∀ b ∈ as, b ∉ as' := fun as j r' v' as' q e x q' hj b hb => by
    cases o : r.own with
    | true => exact new o as j r' v' as' q e x q' hj b hb
    | false => rw [own_nil q o] at hb; cases hb
  refine ⟨by rw [List.length_set, List.length_set]; exact sl.len, fun j q e => ?_, fun j j' q q' u u' as as' a e1 e2 s1 s2 q1 q2 m1 m2 => ?_⟩
  · rcases set_at e with ⟨rfl, z⟩ | ⟨hj, e⟩
    · cases z
      have hl : i < σ.length := by
        rw [sl.len]
        rcases Nat.lt_or_ge i δ.length with h | h
        · exact h
        · rw [List.getElem?_eq_none (by rw [List.length_set]; omega)] at e; cases e
      exact ⟨v, by rw [List.getElem?_set_self hl], p⟩
    · rw [List.getElem?_set_ne hj]
      exact sl.at_ j q e
  · rcases set_at e1 with ⟨z1, y1⟩ | ⟨h1, e1⟩
    · rcases set_at e2 with ⟨z2, y2⟩ | ⟨h2, e2⟩
      · rw [← z1, ← z2]
      · exfalso
        subst z1
        rcases set_at s1 with ⟨_, y⟩ | ⟨h, _⟩
        · rcases set_at s2 with ⟨h, _⟩ | ⟨_, s2⟩
          · exact h2 h
          · cases y1; cases y
            exact new' as j' q' u' as' q1 e2 s2 q2 (Ne.symm h2) a m1 m2
        · exact h rfl
    · rcases set_at e2 with ⟨z2, y2⟩ | ⟨h2, e2⟩
      · exfalso
        subst z2
        rcases set_at s2 with ⟨_, y⟩ | ⟨h, _⟩
        · rcases set_at s1 with ⟨h, _⟩ | ⟨_, s1⟩
          · exact h1 h
          · cases y2; cases y
            exact new' as' j q u as q2 e1 s1 q1 (Ne.symm h1) a m2 m1
        · exact h rfl
      · rcases set_at s1 with ⟨h, _⟩ | ⟨_, s1⟩
        · exact absurd h h1
        · rcases set_at s2 with ⟨h, _⟩ | ⟨_, s2⟩
          · exact absurd h h2
          · exact sl.dis j j' q q' u u' as as' a e1 e2 s1 s2 q1 q2 m1 m2
theorem own_ref {v : V} {r : RV} (o : r.own = true) (p : RVp K mg H0 H G v r) : ∃ a u, v = .ref a ∧ H a = some u ∧ G a = none ∧ H0 a = none := by
  obtain ⟨as, q⟩ := p.q
  cases q with
  | fr h => cases o
  | ol h1 h2 h3 h4 => exact ⟨_, _, rfl, h1, h2, h3⟩
  | od h1 h2 h3 h4 => exact ⟨_, _, rfl, h1, h2, h3⟩
  | ot h1 h2 h3 h4 => exact ⟨_, _, rfl, h1, h2, h3⟩
  | oo h0 h1 h2 h3 h4 h5 => exact ⟨_, _, rfl, h1, h2, h3⟩
  | tr h1 h2 h3 h4 h5 => exact ⟨_, _, rfl, h1, h2, h3⟩
/-- .. with what an expression has given -/
theorem Sl.set {H1 G1 : Hp} {i : Nat} {v : V} {r : RV} (s0 : Same H0 H) (sl : Sl K mg H0 H G σ δ) (g : Gr H G H1 G1) (p : RVp K mg H H1 G1 v r) : Sl K mg H0 H1 G1 (σ.set i (some v)) (δ.set i (some r)) := by
  refine (sl.mono g).put (p.back s0) fun o as j r' v' as' q e es q' hj b hb hb' => ?_
  obtain ⟨bs, k⟩ := p.q
  have z := k.one q
  subst z
  obtain ⟨_, _, h3⟩ := k.ow b hb
  obtain ⟨v2, e2, p2⟩ := sl.at_ j r' e
  rw [es] at e2; cases e2
  obtain ⟨cs, k2⟩ := p2.q
  have z := (k2.mono g).one q'
  subst z
  obtain ⟨⟨u, hu, _⟩, _, _⟩ := k2.ow b hb'
  rw [h3] at hu; cases hu
theorem Sl.forget (sl : Sl K mg H0 H G σ δ) (is : List Nat) : Sl K mg H0 H G σ (is.foldl (fun δ i => δ.set i none) δ) := by
  induction is generalizing δ with
  | nil => exact sl
  | cons i is ih =>
    have f : ∀ j r, (δ.set i none)[j]? = some (some r) → δ[j]? = some (some r) := fun j r e => by
      rcases set_at e with ⟨_, z⟩ | ⟨_, e⟩
      · cases z
      · exact e
    exact ih ⟨by rw [List.length_set]; exact sl.len, fun j r e => sl.at_ j r (f _ _ e), fun j j' q q' u u' as as' a e1 e2 => sl.dis j j' q q' u u' as as' a (f _ _ e1) (f _ _ e2)⟩
/-- an own thing is changed: in the heap H1 all that the others own is as before -/
theorem Sl.chg {H1 : Hp} {v : V} {i : Nat} {r r' : RV} {as as' : List Addr} (sl : Sl K mg H0 H G σ δ) (e : δ[i]? = some (some r)) (es : σ[i]? = some (some v)) (q0 : RVq K mg H0 H G v r as) (q : RVq K mg H0 H1 G v r' as') (k : ∀ b, H b ≠ none → b ∉ as → H1 b = H b)
    (new : ∀ b ∈ as', b ∈ as ∨ ∀ j r' v' as'', δ[j]? = some (some r') → σ[j]? = some (some v') → RVq K mg H0 H G v' r' as'' → j ≠ i → b ∉ as'') : Sl K mg H0 H1 G σ (δ.set i (some r')) := by
  have old : ∀ {j : Nat} {q : RV} {u : V}, i ≠ j → δ[j]? = some (some q) → σ[j]? = some (some u) → ∃ bs, RVq K mg H0 H G u q bs ∧ RVq K mg H0 H1 G u q bs ∧ ∀ b ∈ bs, b ∉ as := fun {j q u} hj e1 s1 => by
    obtain ⟨w, sw, p⟩ := sl.at_ j q e1
    rw [s1] at sw; cases sw
    obtain ⟨bs, kq⟩ := p.q
    have dj : ∀ b ∈ bs, b ∉ as := fun b hb hb' => hj (sl.dis i j r q v u _ _ b e e1 es s1 q0 kq hb' hb)
    exact ⟨bs, kq, kq.keep fun b hb => k b (by obtain ⟨⟨o, ho, _⟩, _⟩ := kq.ow b hb; rw [ho]; exact fun z => nomatch z) (dj b hb), dj⟩
  have newI : ∀ {j : Nat} {q1 : RV} {u : V} {bs : List Addr} {a : Addr}, i ≠ j → δ[j]? = some (some q1) → σ[j]? = some (some u) → RVq K mg H0 H1 G u q1 bs → a ∈ as' → a ∈ bs → False := fun {j q1 u bs a} hj e1 s1 kq ha hb => by
    obtain ⟨cs, k1, k2, dj⟩ := old hj e1 s1
    have z := k2.one kq
    subst z
    rcases new a ha with h | h
    · exact dj a hb h
    · exact h j q1 u cs e1 s1 k1 (Ne.symm hj) hb
  refine ⟨by rw [List.length_set]; exact sl.len, fun j q1 ej => ?_, fun j j' q1 q2 u u' bs bs' a e1 e2 s1 s2 k1 k2 m1 m2 => ?_⟩
  · rcases set_at ej with ⟨rfl, z⟩ | ⟨hj, ej⟩
    · cases z
      exact ⟨_, es, q.p⟩
    · obtain ⟨w, sw, p⟩ := sl.at_ j q1 ej
      obtain ⟨_, _, kq, _⟩ := old hj ej sw
      exact ⟨w, sw, kq.p⟩
  · rcases set_at e1 with ⟨z1, y1⟩ | ⟨h1, e1⟩
    · rcases set_at e2 with ⟨z2, y2⟩ | ⟨h2, e2⟩
      · rw [← z1, ← z2]
      · exfalso
        subst z1
        cases y1
        rw [es] at s1; cases s1
        have z := q.one k1
        subst z
        exact newI h2 e2 s2 k2 m1 m2
    · rcases set_at e2 with ⟨z2, y2⟩ | ⟨h2, e2⟩
      · exfalso
        subst z2
        cases y2
        rw [es] at s2; cases s2
        have z := q.one k2
        subst z
        exact newI h1 e1 s1 k1 m2 m1
      · obtain ⟨cs, c1, c2, _⟩ := old h1 e1 s1
        obtain ⟨cs', c1', c2', _⟩ := old h2 e2 s2
        have z := c2.one k1
        subst z
        have z := c2'.one k2
        subst z
        exact sl.dis j j' q1 q2 u u' _ _ a e1 e2 s1 s2 c1 c1' m1 m2
/-- .. a flat one -/
theorem Sl.upd {a : Addr} {o : HO} {i : Nat} {r r' : RV} (sl : Sl K mg H0 H G σ δ) (e : δ[i]? = some (some r)) (es : σ[i]? = some (some (.ref a))) (q0 : RVq K mg H0 H G (.ref a) r [a]) (p : RVq K mg H0 (L2.upd H a o) G (.ref a) r' [a]) :
    Sl K mg H0 (L2.upd H a o) G σ (δ.set i (some r')) :=
  sl.chg e es q0 p (fun b _ hb => upd_ne fun z => hb (by rw [z]; exact List.mem_cons_self)) fun b hb => .inl hb
theorem Gr.upd {a : Addr} {o : HO} (g : Gr H0 G0 H G) (hG : G a = none) (h0 : H0 a = none) : Gr H0 G0 (L2.upd H a o) G where
  hh := fun b u e => by rw [upd_ne (ne_of_none e h0)]; exact g.hh _ _ e
  gg := g.gg
  gh := fun b u e => by rw [upd_ne (ne_of_none e hG)]; exact g.gh _ _ e
  old := g.old
end

section
variable {X : Cx} {H0 G0 : Hp} {W : WX}
/-! blocks -/
def sNil (δ : DE) : SR := .nx δ
def sSeq (F1 F2 : DE → SR) (δ : DE) : SR := (F1 δ).seq F2
theorem bd_nil : Bd X H0 G0 W [] sNil := PSs.imp pss_nil fun D σ H h => by
  obtain ⟨G, δ, g, sl, h⟩ := h
  exact h σ H G g (Same.refl _) sl
theorem bd_cons {st : Stmt} {rest : List Stmt} {F1 F2 : DE → SR} (h1 : Sd X H0 G0 W st F1) (h2 : Bd X H0 G0 W rest F2) : Bd X H0 G0 W (st :: rest) (sSeq F1 F2) := by
  refine PSs.imp (pss_cons h1 h2) fun D σ H h => ?_
  obtain ⟨G, δ, g, sl, h⟩ := h
  refine ⟨G, δ, g, sl, ?_⟩
  unfold sSeq at h
  cases e : F1 δ with
  | nx δ' =>
    rw [e] at h
    exact fun σ' H' G' g' s' sl' => ⟨G', δ', g', sl', postS.mono s' h⟩
  | br δ' => rw [e] at h; exact h
  | ct δ' => rw [e] at h; exact h
  | rt r => rw [e] at h; exact h
  | ex c fs δ' => rw [e] at h; exact h
  | stuck => rw [e] at h; exact h
/-! names are stored, values returned -/
def sSet (i : Nat) (f : DE → R RV) (δ : DE) : SR := lift (f δ) δ fun r => .nx (δ.set i (some r))
theorem sd_set {i : Nat} {x : Str} {e : Expr} {f : DE → R RV} {pos pos' : Pos} (hN : X.N.Nodup) (he : Ed X H0 W e f) (hi : X.N[i]? = some x := by rfl) (hx : Loc X.env.scope x := by first | exact Or.inl rfl | exact Or.inr rfl) (hs : swapsWith e (some (.Name x pos')) pos.line X.env = pure false := by rfl)
    (hf : X.fn x = true ∨ X.env.scope.names.lookup x = some .local := by first | exact .inl rfl | exact .inr rfl | assumption) : Sd X H0 G0 W (.Assign [.Name x pos'] e pos) (sSet i f) := by
  refine PS.imp (ps_set hN hi hx he hs hf) fun D σ H h => ?_
  obtain ⟨G, δ, g, sl, h⟩ := h
  refine lift_core g sl h fun r v H1 G1 e1 g1 g2 sl1 p1 h1 => ?_
  exact h1 _ H1 G1 g2 (Same.refl _) (Sl.set g.hh sl g1 p1)
def sRet (f : DE → R RV) (δ : DE) : SR := lift (f δ) δ fun r => .rt r
theorem sd_ret {e : Expr} {f : DE → R RV} {pos : Pos} (he : Ed X H0 W e f) : Sd X H0 G0 W (.Return (some e) pos) (sRet f) := by
  refine PS.imp (ps_ret he) fun D σ H h => ?_
  obtain ⟨G, δ, g, sl, h⟩ := h
  exact lift_core g sl h fun r v H1 G1 e1 g1 g2 sl1 p1 h1 => h1 v H1 G1 g2 (p1.back g.hh)
/-- a slot's own thing is handed back -/
def sRetV (i : Nat) (δ : DE) : SR := match δ[i]? with
  | some (some r) => .rt r
  | _ => .stuck
theorem sd_retV (i : Nat) {x : Str} {pos pos' : Pos} (hN : X.N[i]? = some x := by rfl) (hv : Vis X.env.scope x := by first | exact Or.inl rfl | exact Or.inr (Or.inl rfl) | exact Or.inr (Or.inr rfl)) (hd : (x == ("__debug__" : Str)) = false := by decide)
    (hcd : (x == ("__classdict__" : Str)) = false := by decide) : Sd X H0 G0 W (.Return (some (.Name x pos)) pos') (sRetV i) := by
  refine PS.imp (ps_ret (pe_var hN hv hd hcd)) fun D σ H h => ?_
  obtain ⟨G, δ, g, sl, h⟩ := h
  unfold sRetV at h
  split at h
  · rename_i r e
    obtain ⟨v, e1, e2⟩ := sl.at_ i _ e
    exact ⟨v, e1, h v H G g e2⟩
  · exact h.elim
def sRetN (_ : DE) : SR := .rt (.fr .non)
theorem sd_retN {pos : Pos} : Sd X H0 G0 W (.Return none pos) sRetN := PS.imp ps_retN fun D σ H h => by
  obtain ⟨G, δ, g, sl, h⟩ := h
  exact h .non H G g .non
theorem sd_pass {pos : Pos} : Sd X H0 G0 W (.Pass pos) sNil := PS.imp ps_pass fun D σ H h => by
  obtain ⟨G, δ, g, sl, h⟩ := h
  exact h σ H G g (Same.refl _) sl
def sBr (δ : DE) : SR := .br δ
def sCt (δ : DE) : SR := .ct δ
theorem sd_break {pos : Pos} : Sd X H0 G0 W (.Break pos) sBr := PS.imp ps_break fun D σ H h => by
  obtain ⟨G, δ, g, sl, h⟩ := h
  exact h σ H G g (Same.refl _) sl
theorem sd_cont {pos : Pos} : Sd X H0 G0 W (.Continue pos) sCt := PS.imp ps_continue fun D σ H h => by
  obtain ⟨G, δ, g, sl, h⟩ := h
  exact h σ H G g (Same.refl _) sl
def sExpr (f : DE → R RV) (δ : DE) : SR := lift (f δ) δ fun _ => .nx δ
theorem sd_expr {e : Expr} {f : DE → R RV} {pos : Pos} (he : Ed X H0 W e f) (hs : swapsWith e none pos.line X.env = pure false := by rfl) : Sd X H0 G0 W (.Expr e pos) (sExpr f) := by
  refine PS.imp (ps_expr he hs) fun D σ H h => ?_
  obtain ⟨G, δ, g, sl, h⟩ := h
  exact lift_core g sl h fun r v H1 G1 e1 g1 g2 sl1 p1 h1 => h1 σ H1 G1 g2 (Same.refl _) sl1
def sIf (c : DE → R Bool) (Fa Fb : DE → SR) (δ : DE) : SR := lift (c δ) δ fun b => if b = true then Fa δ else Fb δ
theorem sd_if {c : Expr} {a b : List Stmt} {fc : DE → R Bool} {Fa Fb : DE → SR} {pos : Pos} (hc : Td X H0 W c fc) (ha : Bd X H0 G0 W a Fa) (hb : Bd X H0 G0 W b Fb) : Sd X H0 G0 W (.If c a b pos) (sIf fc Fa Fb) := by
  refine PS.imp (ps_if hc ha hb) fun D σ H h => ?_
  obtain ⟨G, δ, g, sl, h⟩ := h
  refine lift_coreB g sl h fun k H1 G1 e1 g1 g2 sl1 h1 => ?_
  cases k with
  | true => exact ⟨G1, δ, g2, sl1, h1⟩
  | false => exact ⟨G1, δ, g2, sl1, h1⟩
/-- ghosts: a slot's own thing is frozen; slots are forgotten -/
def frzS (i : Nat) (δ : DE) : DE := match δ[i]? with
  | some (some r) => δ.set i (some (.fr r.d))
  | _ => δ
def sFrz (i : Nat) (F : DE → SR) (δ : DE) : SR := F (frzS i δ)
def fgtS (is : List Nat) (δ : DE) : DE := is.foldl (fun δ i => δ.set i none) δ
theorem frz_ok {K : PySem.W.Frag} {mg : Mg} {H G : Hp} {σ : L2.St} {δ : DE} (i : Nat) (g : Gr H0 G0 H G) (sl : Sl K mg H0 H G σ δ) : ∃ G', Gr H0 G0 H G' ∧ Same G G' ∧ Sl K mg H0 H G' σ (frzS i δ) := by
  unfold frzS
  split
  · rename_i r e
    obtain ⟨v, e1, p⟩ := sl.at_ i r e
    obtain ⟨as, q⟩ := p.q
    have o := q.ow
    have s : Same G (frG H G as) := frG_same fun b hb => (o b hb).2.1
    have old : ∀ {j : Nat} {q1 : RV} {u : V}, i ≠ j → δ[j]? = some (some q1) → σ[j]? = some (some u) → ∃ bs, RVq K mg H0 H G u q1 bs ∧ RVq K mg H0 H (frG H G as) u q1 bs := fun {j q1 u} hj e2 s1 => by
      obtain ⟨w, sw, p⟩ := sl.at_ j q1 e2
      rw [s1] at sw; cases sw
      obtain ⟨bs, kq⟩ := p.q
      have dj : ∀ b ∈ bs, b ∉ as := fun b hb hb' => hj (sl.dis i j r q1 v u _ _ b e e2 e1 s1 q kq hb' hb)
      exact ⟨bs, kq, kq.ext s fun b hb => by rw [frG_out (dj b hb)]; exact (kq.ow b hb).2.1⟩
    refine ⟨_, g.frG fun b hb => (o b hb).2, s, by rw [List.length_set]; exact sl.len, fun j q1 ej => ?_, fun j j' q1 q2 u u' bs bs' a e1' e2' s1 s2 k1 k2 m1 m2 => ?_⟩
    · rcases set_at ej with ⟨rfl, z⟩ | ⟨hj, ej⟩
      · cases z
        exact ⟨v, e1, q.dp s fun b hb => frG_in hb⟩
      · obtain ⟨w, sw, p⟩ := sl.at_ j q1 ej
        obtain ⟨_, _, kq⟩ := old hj ej sw
        exact ⟨w, sw, kq.p⟩
    · rcases set_at e1' with ⟨z1, y1⟩ | ⟨h1, e1'⟩
      · cases y1
        rw [own_nil k1 rfl] at m1; cases m1
      · rcases set_at e2' with ⟨z2, y2⟩ | ⟨h2, e2'⟩
        · cases y2
          rw [own_nil k2 rfl] at m2; cases m2
        · obtain ⟨cs, c1, c2⟩ := old h1 e1' s1
          obtain ⟨cs', c1', c2'⟩ := old h2 e2' s2
          have z := c2.one k1
          subst z
          have z := c2'.one k2
          subst z
          exact sl.dis j j' q1 q2 u u' _ _ a e1' e2' s1 s2 c1 c1' m1 m2
  · exact ⟨G, g, Same.refl _, sl⟩
theorem bd_frz (i : Nat) {sts : List Stmt} {F : DE → SR} (h : Bd X H0 G0 W sts F) : Bd X H0 G0 W sts (sFrz i F) := PSs.imp h fun D σ H q => by
  obtain ⟨G, δ, g, sl, q⟩ := q
  obtain ⟨G', g', s', sl'⟩ := frz_ok i g sl
  exact ⟨G', _, g', sl', postS.mono s' q⟩
theorem sd_frz (i : Nat) {st : Stmt} {F : DE → SR} (h : Sd X H0 G0 W st F) : Sd X H0 G0 W st (sFrz i F) := PS.imp h fun D σ H q => by
  obtain ⟨G, δ, g, sl, q⟩ := q
  obtain ⟨G', g', s', sl'⟩ := frz_ok i g sl
  exact ⟨G', _, g', sl', postS.mono s' q⟩

/-! targets -/
def gSet (i : Nat) (d : D) (δ : DE) : Option DE := some (δ.set i (some (.fr d)))
theorem gd_name (i : Nat) {x : Str} {pos : Pos} (hN : X.N.Nodup) (hi : X.N[i]? = some x := by rfl) (hx : Loc X.env.scope x := by first | exact Or.inl rfl | exact Or.inr rfl) (hf : X.fn x = true ∨ X.env.scope.names.lookup x = some .local := by first | exact .inl rfl | exact .inr rfl | assumption) : Gd X H0 G0 (.Name x pos) (gSet i) := by
  refine ⟨fun pins s σ H v u Q I r h => (pg_name hN hi hx hf).run pins s σ H v u Q I r ?_⟩
  obtain ⟨G, δ, d, g, sl, p, h⟩ := h
  exact h _ H G g (Same.refl _) (sl.put (r := .fr d) p fun o => nomatch o)
/-- a tuple of names, from a tuple -/
def gSets : List Nat → List D → DE → Option DE
  | [], [], δ => some δ
  | i :: is, d :: ds, δ => gSets is ds (δ.set i (some (.fr d)))
  | _, _, _ => none
def gTupD (is : List Nat) (d : D) (δ : DE) : Option DE := match d with
  | .tup ds => if ds.length = is.length then gSets is ds δ else none
  | _ => none
def gNames : List Nat → TGs
  | [] => gNil
  | i :: is => gCons (gName i) (gNames is)
theorem gSets_ok {K : PySem.W.Frag} {mg : Mg} {H G : Hp} : ∀ {is : List Nat} {vs : List V} {ds : List D} {σ : L2.St} {δ δ' : DE} {Q : L2.St → Hp → Prop}, Gr H0 G0 H G → Sl K mg H0 H G σ δ → DpAll K mg G vs ds → gSets is ds δ = some δ' →
    (∀ σ', Sl K mg H0 H G σ' δ' → Q σ' H) → gNames is vs σ H Q
  | [], _, _, _, _, _, _, g, sl, .nil, e, k => by
    simp [gSets] at e
    subst e
    exact ⟨rfl, k _ sl⟩
  | i :: is, _, _, σ, δ, δ', Q, g, sl, .cons (v := v) (vs := vs) (d := d) p t, e, k => by
    refine ⟨v, vs, rfl, ?_⟩
    exact gSets_ok (σ := σ.set i (some v)) g (sl.put (r := .fr d) p fun o => nomatch o) t (by simpa [gSets] using e) k
  | [], _, _, _, _, _, _, _, _, .cons _ _, e, _ => by simp [gSets] at e
  | _ :: _, _, _, _, _, _, _, _, _, .nil, e, _ => by simp [gSets] at e
theorem gd_tup {is : List Nat} {es : List Expr} {k : Nat} {pos : Pos} (hc : X.calm = true) (h : PGs X es (gNames is)) (hn : (assignEach es X.env).length = is.length := by rfl) (hst : (assignEach es X.env).findIdx? (·.1) = none := by rfl) : Gd X H0 G0 (.Tuple es k pos) (gTupD is) := by
  refine ⟨fun pins s σ H v u Q I r h' => (pg_tup hc h hn hst).run pins s σ H v u Q I r ?_⟩
  obtain ⟨G, δ, d, g, sl, p, h'⟩ := h'
  unfold gTupD at h'
  cases p with
  | tup q a =>
    rename_i adr xs ds
    by_cases hl : ds.length = is.length
    · simp only [hl, if_true] at h'
      cases e : gSets is ds δ with
      | some δ' =>
        simp only [e] at h'
        refine ⟨_, _, rfl, same_t g.gh q, by rw [a.len, hl], gSets_ok g sl a e fun σ' sl' => h' σ' H G g (Same.refl _) sl'⟩
      | none => simp only [e] at h'
    · simp only [hl, if_false] at h'
  | _ => exact h'.elim
/-- a, b = e -/
def sAsg (bd : D → DE → Option DE) (f : DE → R RV) (δ : DE) : SR := lift (f δ) δ fun r => match bd r.d δ with
  | some δ' => .nx δ'
  | none => .stuck
theorem sd_asg {tg e : Expr} {f : DE → R RV} {bd : D → DE → Option DE} {pos : Pos} (he : Ed X H0 W e f) (hg : Gd X H0 G0 tg bd) (hs : swapsWithSole [tg] e pos.line X.env = pure false := by rfl) (hw : swappedStores [tg] e X.env = pure none := by rfl)
    (h1 : (assignEach [tg] X.env).map (·.2) = [assign tg X.env] := by rfl) : Sd X H0 G0 W (.Assign [tg] e pos) (sAsg bd f) := by
  refine PS.imp (ps_asg he hg hs hw h1) fun D σ H h => ?_
  obtain ⟨G, δ, g, sl, h⟩ := h
  refine lift_core g sl h fun r v H1 G1 e1 g1 g2 sl1 p1 h1 => ?_
  obtain ⟨G2, g3, s3, p2, _⟩ := RVp.frz g1 p1
  refine ⟨G2, δ, r.d, g.trans g3, sl.mono g3, p2, ?_⟩
  cases e : bd r.d δ with
  | some δ' =>
    simp only [e] at h1
    exact fun σ' H' G' a b c => h1 σ' H' G' a (s3.trans b) c
  | none => simp only [e] at h1; exact h1

/-! iterators -/
theorem itd_list {K : PySem.W.Frag} {mg : Mg} {G : Hp} {a : Addr} {xs : List V} {ds : List D} (r : SqL K G a xs) (t : DpAll K mg G xs ds) : ItD K mg (Itl K a) ds G := fun G' H' s1 s2 => by
  have q : SqL K H' a xs := (s1.trans s2).seq r
  refine ⟨fun i d e => ?_, xs, q, by rw [t.len]; exact Nat.le_refl _⟩
  obtain ⟨v, e1, p⟩ := t.get e
  refine ⟨⟨xs, v, q, e1⟩, fun x H2 ⟨y1, y2⟩ => ?_⟩
  subst y1
  have z := y2 xs q
  rw [e1] at z; cases z
  exact ⟨G', .refl s2, p.mono s1⟩
theorem itd_tup {K : PySem.W.Frag} {mg : Mg} {G : Hp} {a : Addr} {xs : List V} {ds : List D} (r : SqT K G a xs) (t : DpAll K mg G xs ds) : ItD K mg (Itt K a) ds G := fun G' H' s1 s2 => by
  have q : SqT K H' a xs := same_t (s1.trans s2) r
  refine ⟨fun i d e => ?_, xs, q, by rw [t.len]; exact Nat.le_refl _⟩
  obtain ⟨v, e1, p⟩ := t.get e
  refine ⟨⟨xs, v, q, e1⟩, fun x H2 ⟨y1, y2⟩ => ?_⟩
  subst y1
  have z := y2 xs q
  rw [e1] at z; cases z
  exact ⟨G', .refl s2, p.mono s1⟩
def chars (x : Str) : List D := x.cps.toList.map fun c => .str ⟨#[c]⟩
theorem itd_str {K : PySem.W.Frag} {mg : Mg} {G : Hp} (x : Str) (hx : x.cps.all (· < 0x110000) = true) : ItD K mg (Its x) (chars x) G := fun G' H' s1 s2 => by
  have hl : (chars x).length = x.cps.size := by simp [chars]
  refine ⟨fun i d e => ?_, by show x.cps.size ≤ _; rw [hl]; exact Nat.le_refl _⟩
  have hi : i < x.cps.size := by
    rcases Nat.lt_or_ge i x.cps.size with h | h
    · exact h
    · rw [List.getElem?_eq_none (by rw [hl]; exact h)] at e; cases e
  refine ⟨hi, fun v H2 ⟨y1, c, y2, y3⟩ => ?_⟩
  subst y1; subst y3
  have ed : d = .str ⟨#[c]⟩ := by
    simp only [chars, List.getElem?_map, Array.getElem?_toList, y2, Option.map_some, Option.some.injEq] at e
    exact e.symm
  subst ed
  refine ⟨G', .refl s2, .str _ ?_⟩
  have z := Array.all_eq_true.mp hx i hi
  rw [Array.getElem?_eq_getElem hi] at y2
  cases y2
  simpa using z
theorem itd_range {K : PySem.W.Frag} {mg : Mg} {G : Hp} (lo : Int) (n : Nat) : ItD K mg (Itr lo n) ((List.range n).map fun i => .int (lo + (i : Nat))) G := fun G' H' s1 s2 => by
  refine ⟨fun i d e => ?_, by show n ≤ _; simp⟩
  have hi : i < n := by
    rcases Nat.lt_or_ge i n with h | h
    · exact h
    · rw [List.getElem?_eq_none (by simpa using h)] at e; cases e
  refine ⟨hi, fun v H2 ⟨y1, y2⟩ => ?_⟩
  subst y1; subst y2
  rw [List.getElem?_map, List.getElem?_range hi] at e
  simp only [Option.map_some, Option.some.injEq] at e
  subst e
  exact ⟨G', .refl s2, .int _⟩
def seqD : D → R (List D)
  | .lst ds => .ok ds
  | .tup ds => .ok ds
  | .str x => .ok (chars x)
  | _ => .stuck
def iSeq (f : DE → R RV) (δ : DE) : R (List D) := f δ >>= fun r => seqD r.d
theorem id_seq {tg l : Expr} {f : DE → R RV} (he : Ed X H0 W l f) : Id_ X H0 W tg l (iSeq f) := by
  refine ⟨fun pins s σ H R I h => ?_⟩
  obtain ⟨G, δ, sg, sl, h⟩ := h
  unfold iSeq at h
  cases hf : f δ with
  | ok r =>
    rw [hf, bind_ok] at h
    cases hd : r.d with
    | lst ds =>
      simp only [hd, seqD] at h
      refine (pi_list he).run pins s σ H R I ⟨G, δ, sg, sl, ?_⟩
      rw [hf]
      intro v H1 G1 g1 p1
      obtain ⟨G2, g2, _, p2, _⟩ := RVp.frz g1 p1
      rw [hd] at p2
      cases p2 with
      | lst q a => exact ⟨_, rfl, ⟨_, .inl (same_rd g2.gh q)⟩, h _ H1 G2 g2 (itd_list (.inl q) a)⟩
    | tup ds =>
      simp only [hd, seqD] at h
      refine (pi_tup he).run pins s σ H R I ⟨G, δ, sg, sl, ?_⟩
      rw [hf]
      intro v H1 G1 g1 p1
      obtain ⟨G2, g2, _, p2, _⟩ := RVp.frz g1 p1
      rw [hd] at p2
      cases p2 with
      | tup q a => exact ⟨_, rfl, ⟨_, same_t g2.gh q⟩, h _ H1 G2 g2 (itd_tup q a)⟩
    | str x =>
      simp only [hd, seqD] at h
      refine (pi_str he).run pins s σ H R I ⟨G, δ, sg, sl, ?_⟩
      rw [hf]
      intro v H1 G1 g1 p1
      obtain ⟨G2, g2, _, p2, _⟩ := RVp.frz g1 p1
      rw [hd] at p2
      cases p2 with
      | str q hq => exact ⟨_, rfl, h _ H1 G2 g2 (itd_str x hq)⟩
    | non => simp only [hd, seqD] at h
    | bl b => simp only [hd, seqD] at h
    | int b => simp only [hd, seqD] at h
    | dct b => simp only [hd, seqD] at h
    | obj b c => simp only [hd, seqD] at h
    | exn a b c e => simp only [hd, seqD] at h
  | ex c fs =>
    rw [hf, bind_ex] at h
    refine (pi_list he).run pins s σ H R I ⟨G, δ, sg, sl, ?_⟩
    rw [hf]
    exact h
  | stuck => rw [hf, bind_stuck] at h; exact h.elim
/-- a sum over arguments in an iterator -/
theorem args_core {K : PySem.W.Frag} {mg : Mg} {σ : L2.St} {H G : Hp} {δ : DE} {fa : DE → R (List D)} {g : List D → R (List D)} {R : It → Hp → Prop} {Q : List V → Hp → Prop} (s : Same G H) (sl : Sl K mg H0 H G σ δ)
    (h : match fa δ >>= g with
      | .ok ds => ∀ J H' G', Gr H G H' G' → ItD K mg J ds G' → R J H'
      | .ex c fs => postX K mg H G (fun c d H' => W c d σ H') c fs
      | .stuck => False)
    (k : ∀ ds vs H1 G1, fa δ = .ok ds → Gr H G H1 G1 → DpAll K mg G1 vs ds → (∃ es, g ds = .ok es ∧ ∀ J H' G', Gr H1 G1 H' G' → ItD K mg J es G' → R J H') → Q vs H1) (noex : ∀ ds c fs, g ds ≠ .ex c fs) : tA K mg H0 W fa σ H Q := by
  refine ⟨G, δ, s, sl, ?_⟩
  cases hf : fa δ with
  | ok ds =>
    rw [hf, bind_ok] at h
    intro vs H1 G1 g1 p1
    refine k ds vs H1 G1 hf g1 p1 ?_
    cases hg : g ds with
    | ok es =>
      rw [hg] at h
      exact ⟨es, rfl, fun J H' G' g2 it => h J H' G' (g1.trans g2) it⟩
    | ex c fs => exact absurd hg (noex _ _ _)
    | stuck => rw [hg] at h; exact h.elim
  | ex c fs => rw [hf, bind_ex] at h; exact h
  | stuck => rw [hf, bind_stuck] at h; exact h.elim
def rng1 : List D → R (List D)
  | [.int n] => if -(2 ^ 62) ≤ n ∧ n < 2 ^ 62 then .ok ((List.range n.toNat).map fun i => .int (0 + (i : Nat))) else .stuck
  | _ => .stuck
def rng2 : List D → R (List D)
  | [.int a, .int n] => if (-(2 ^ 62) ≤ a ∧ a < 2 ^ 62) ∧ (-(2 ^ 62) ≤ n ∧ n < 2 ^ 62) then .ok ((List.range (n - a).toNat).map fun i => .int (a + (i : Nat))) else .stuck
  | _ => .stuck
def iArgs (g : List D → R (List D)) (fa : DE → R (List D)) (δ : DE) : R (List D) := fa δ >>= g
theorem id_range1 {tg a : Expr} {fa : DE → R (List D)} {p pos : Pos} (hm : X.mg "range" = none) (ha : Ad X H0 W [a] fa) (hg : Gl X "range" := by rfl) (hs : starEach [a] X.env = [(false, eval a X.env)] := by rfl) : Id_ X H0 W tg (.Call (.Name "range" p) [a] [] pos) (iArgs rng1 fa) := by
  refine ⟨fun pins s σ H R I h => (pi_range1 hg hm ha hs).run pins s σ H R I ?_⟩
  obtain ⟨G, δ, sg, sl, h⟩ := h
  refine args_core sg sl h (fun ds vs H1 G1 _ g1 p1 ⟨es, e, k⟩ => ?_) fun ds c fs e => ?_
  · unfold rng1 at e
    split at e
    · rename_i n _ _
      split at e
      · rename_i hb
        cases e
        cases p1 with
        | cons q t =>
          cases t
          cases q
          exact ⟨n, rfl, hb.1, hb.2, k _ H1 G1 (.refl g1.gh) (itd_range 0 _)⟩
      · cases e
    · cases e
  · unfold rng1 at e
    split at e
    · split at e <;> cases e
    · cases e
theorem id_range2 {tg a b : Expr} {fa : DE → R (List D)} {p pos : Pos} (hm : X.mg "range" = none) (ha : Ad X H0 W [a, b] fa) (hg : Gl X "range" := by rfl) (hs : starEach [a, b] X.env = [(false, eval a X.env), (false, eval b X.env)] := by rfl) (hs2 : starEach [b] X.env = [(false, eval b X.env)] := by rfl) :
    Id_ X H0 W tg (.Call (.Name "range" p) [a, b] [] pos) (iArgs rng2 fa) := by
  refine ⟨fun pins s σ H R I h => (pi_range2 hg hm ha hs hs2).run pins s σ H R I ?_⟩
  obtain ⟨G, δ, sg, sl, h⟩ := h
  refine args_core sg sl h (fun ds vs H1 G1 _ g1 p1 ⟨es, e, k⟩ => ?_) fun ds c fs e => ?_
  · unfold rng2 at e
    split at e
    · rename_i i n _ _
      split at e
      · rename_i hb
        cases e
        cases p1 with
        | cons q t =>
          cases t with
          | cons q' t' =>
            cases t'
            cases q
            cases q'
            exact ⟨i, n, rfl, ⟨hb.1.1, hb.1.2, hb.2.1, hb.2.2⟩, k _ H1 G1 (.refl g1.gh) (itd_range i _)⟩
      · cases e
    · cases e
  · unfold rng2 at e
    split at e
    · split at e <;> cases e
    · cases e

/-! for -/
def forL (bd : D → DE → Option DE) (F : DE → SR) (fg : List Nat) : List D → DE → SR
  | [], δ => .nx δ
  | d :: ds, δ => match bd d δ with
    | none => .stuck
    | some δ1 => match F δ1 with
      | .nx δ2 => forL bd F fg ds (fgtS fg δ2)
      | .ct δ2 => forL bd F fg ds (fgtS fg δ2)
      | .br δ2 => .nx δ2
      | .rt r => .rt r
      | .ex c fs δ2 => .ex c fs δ2
      | .stuck => .stuck
def sFor (fi : DE → R (List D)) (bd : D → DE → Option DE) (F : DE → SR) (fg : List Nat) (δ : DE) : SR := lift (fi δ) δ fun ds => forL bd F fg ds δ
theorem sd_for {tg iter : Expr} {body : List Stmt} {fi : DE → R (List D)} {bd : D → DE → Option DE} {F : DE → SR} (fg : List Nat) {pos : Pos} (hp : PassesOwn (model X.prog X.w) X.A X.env X.xe) (hc : X.calm = true) (hi : Id_ X H0 W tg iter fi) (hg : Gd X H0 G0 tg bd) (hb : Bd X H0 G0 W body F)
    (hs : ∀ x, foldedSetIterable iter X.env x = pure x := by intro _; rfl) : Sd X H0 G0 W (.For tg iter body [] pos) (sFor fi bd F fg) := by
  refine PS.imp (ps_for hp hc hi hg hb hs) fun D σ H h => ?_
  obtain ⟨G, δ, g, sl, h⟩ := h
  refine ⟨G, δ, g.gh, sl, ?_⟩
  unfold sFor at h
  cases hf : fi δ with
  | ok ds =>
    rw [hf, lift_ok] at h
    intro J H1 G1 g1 it
    refine ⟨fun i m σ' H' => m = ds.length - i ∧ i ≤ ds.length ∧ ∃ G' δ', Gr H0 G0 H' G' ∧ Same G1 G' ∧ Sl X.K X.M H0 H' G' σ' δ' ∧ postS X.K X.M H0 G0 W G' D (forL bd F fg (ds.drop i) δ'),
      ⟨_, rfl, Nat.zero_le _, G1, δ, g.trans g1, Same.refl _, sl.mono g1, postS.mono g1.gg h⟩, ?_⟩
    rintro i m σ' H' ⟨rfl, hi, G', δ', g', s', sl', h'⟩
    obtain ⟨it1, it2⟩ := it G' H' s' g'.gh
    rcases Nat.lt_or_ge i ds.length with hlt | hge
    · right
      obtain ⟨d, ed⟩ : ∃ d, ds[i]? = some d := ⟨ds[i], List.getElem?_eq_getElem hlt⟩
      obtain ⟨go, yl⟩ := it1 i d ed
      have edr : ds.drop i = d :: ds.drop (i + 1) := by
        rw [List.drop_eq_getElem_cons hlt]
        rw [List.getElem?_eq_getElem hlt] at ed
        cases ed
        rfl
      rw [edr] at h'
      unfold forL at h'
      cases eb : bd d δ' with
      | none => simp only [eb] at h'; exact h'.elim
      | some δ1 =>
        simp only [eb] at h'
        refine ⟨go, fun σ2 H2 => ∃ G2 δ2, Gr H0 G0 H2 G2 ∧ Same G' G2 ∧ Sl X.K X.M H0 H2 G2 σ2 δ2 ∧ postS X.K X.M H0 G0 W G2 D (forL bd F fg (ds.drop (i + 1)) δ2), ?_, ?_⟩
        · rintro σ2 H2 ⟨G2, δ2, a1, a2, a3, a4⟩
          exact ⟨_, by omega, rfl, hlt, G2, δ2, a1, s'.trans a2, a3, a4⟩
        · intro x H2 y
          obtain ⟨G2, g2, p2⟩ := yl x H2 y
          refine ⟨G2, δ', d, g'.trans g2, sl'.mono g2, p2, ?_⟩
          rw [eb]
          intro σ3 H3 G3 g3 s3 sl3
          refine ⟨G3, δ1, g3, sl3, ?_⟩
          have sg3 : Same G' G3 := g2.gg.trans s3
          cases eF : F δ1 with
          | nx δ2 =>
            simp only [eF] at h'
            exact fun σ4 H4 G4 g4 s4 sl4 => ⟨G4, fgtS fg δ2, g4, sg3.trans s4, sl4.forget fg, postS.mono (sg3.trans s4) h'⟩
          | ct δ2 =>
            simp only [eF] at h'
            exact fun σ4 H4 G4 g4 s4 sl4 => ⟨G4, fgtS fg δ2, g4, sg3.trans s4, sl4.forget fg, postS.mono (sg3.trans s4) h'⟩
          | br δ2 =>
            simp only [eF] at h'
            exact fun σ4 H4 G4 g4 s4 sl4 => h' σ4 H4 G4 g4 (sg3.trans s4) sl4
          | rt r => simp only [eF] at h'; exact h'
          | ex c fs δ2 =>
            simp only [eF] at h'
            exact fun cls d σ4 H4 G4 g4 s4 sl4 x => h' cls d σ4 H4 G4 g4 (sg3.trans s4) sl4 x
          | stuck => simp only [eF] at h'; exact h'
    · left
      have e : i = ds.length := by omega
      subst e
      refine ⟨it2, ?_⟩
      rw [List.drop_length] at h'
      exact h' σ' H' G' g' (Same.refl _) sl'
  | ex c fs =>
    rw [hf] at h
    exact fun cls d H1 G1 g1 x => h cls d σ H1 G1 (g.trans g1) g1.gg (sl.mono g1) x
  | stuck => rw [hf] at h; exact h

/-! while -/
def whileF (c : DE → R Bool) (F : DE → SR) (fg : List Nat) : Nat → DE → SR
  | 0, _ => .stuck
  | n + 1, δ => match c δ with
    | .ok b => if b = true then (match F δ with
      | .nx δ2 => whileF c F fg n (fgtS fg δ2)
      | .ct δ2 => whileF c F fg n (fgtS fg δ2)
      | .br δ2 => .nx δ2
      | .rt r => .rt r
      | .ex c fs δ2 => .ex c fs δ2
      | .stuck => .stuck) else .nx δ
    | .ex c fs => .ex c fs δ
    | .stuck => .stuck
open Classical in
noncomputable def sWhile (c : DE → R Bool) (F : DE → SR) (fg : List Nat) (δ : DE) : SR := if h : ∃ n, whileF c F fg n δ ≠ .stuck then whileF c F fg h.choose δ else .stuck
theorem whileF_up (c : DE → R Bool) (F : DE → SR) (fg : List Nat) : ∀ n δ, whileF c F fg n δ ≠ .stuck → ∀ m, n ≤ m → whileF c F fg m δ = whileF c F fg n δ
  | 0, δ, h, _, _ => absurd rfl h
  | n + 1, δ, h, 0, hm => absurd hm (Nat.not_succ_le_zero n)
  | n + 1, δ, h, m + 1, hm => by
    have hm' : n ≤ m := Nat.le_of_succ_le_succ hm
    unfold whileF at h ⊢
    cases ec : c δ with
    | ok b =>
      simp only [ec] at h ⊢
      by_cases hb : b = true
      · simp only [hb, if_true] at h ⊢
        cases eF : F δ with
        | nx δ2 => simp only [eF] at h ⊢; exact whileF_up c F fg n _ h m hm'
        | ct δ2 => simp only [eF] at h ⊢; exact whileF_up c F fg n _ h m hm'
        | _ => rfl
      · simp only [hb, if_false]
        rfl
    | _ => rfl
theorem sWhile_of {c : DE → R Bool} {F : DE → SR} {fg : List Nat} {δ : DE} {r : SR} (n : Nat) (h : whileF c F fg n δ = r) (hr : r ≠ .stuck) : sWhile c F fg δ = r := by
  have hx : ∃ n, whileF c F fg n δ ≠ .stuck := ⟨n, by rw [h]; exact hr⟩
  unfold sWhile
  rw [dif_pos hx]
  have a := hx.choose_spec
  have b := whileF_up c F fg _ δ a (max n hx.choose) (Nat.le_max_right _ _)
  have b2 := whileF_up c F fg n δ (by rw [h]; exact hr) (max n hx.choose) (Nat.le_max_left _ _)
  rw [← b, b2, h]
theorem sd_while {c : Expr} {body : List Stmt} {fc : DE → R Bool} {F : DE → SR} (fg : List Nat) {pos : Pos} (hp : PassesOwn (model X.prog X.w) X.A X.env X.xe) (hc : Td X H0 W c fc) (hb : Bd X H0 G0 W body F) : Sd X H0 G0 W (.While c body [] pos) (sWhile fc F fg) := by
  refine PS.imp (ps_while hp hc hb) fun D σ H h => ?_
  obtain ⟨G, δ, g, sl, h⟩ := h
  have hx : ∃ n, whileF fc F fg n δ ≠ .stuck := by
    by_cases hx : ∃ n, whileF fc F fg n δ ≠ .stuck
    · exact hx
    · unfold sWhile at h
      rw [dif_neg hx] at h
      exact h.elim
  have h2 : postS X.K X.M H0 G0 W G D (whileF fc F fg hx.choose δ) := by
    unfold sWhile at h
    rw [dif_pos hx] at h
    exact h
  refine ⟨fun m σ' H' => ∃ G' δ', Gr H0 G0 H' G' ∧ Sl X.K X.M H0 H' G' σ' δ' ∧ postS X.K X.M H0 G0 W G' D (whileF fc F fg m δ'), ⟨_, G, δ, g, sl, h2⟩, ?_⟩
  rintro m σ' H' ⟨G', δ', g', sl', h'⟩
  cases m with
  | zero => exact h'.elim
  | succ n =>
    unfold whileF at h'
    refine ⟨G', δ', g'.gh, sl', ?_⟩
    cases ec : fc δ' with
    | ok b =>
      simp only [ec] at h'
      intro H2 G2 g2
      by_cases hb : b = true
      · subst hb
        simp only [if_true] at h' ⊢
        refine ⟨fun σ3 H3 => ∃ G3 δ3, Gr H0 G0 H3 G3 ∧ Sl X.K X.M H0 H3 G3 σ3 δ3 ∧ postS X.K X.M H0 G0 W G3 D (whileF fc F fg n δ3), fun σ3 H3 q => ⟨n, Nat.lt_succ_self _, q⟩, ?_⟩
        refine ⟨G2, δ', g'.trans g2, sl'.mono g2, ?_⟩
        cases eF : F δ' with
        | nx δ2 =>
          simp only [eF] at h'
          exact fun σ4 H4 G4 g4 s4 sl4 => ⟨G4, fgtS fg δ2, g4, sl4.forget fg, postS.mono (g2.gg.trans s4) h'⟩
        | ct δ2 =>
          simp only [eF] at h'
          exact fun σ4 H4 G4 g4 s4 sl4 => ⟨G4, fgtS fg δ2, g4, sl4.forget fg, postS.mono (g2.gg.trans s4) h'⟩
        | br δ2 =>
          simp only [eF] at h'
          exact fun σ4 H4 G4 g4 s4 sl4 => h' σ4 H4 G4 g4 (g2.gg.trans s4) sl4
        | rt r => simp only [eF] at h'; exact h'
        | ex c fs δ2 =>
          simp only [eF] at h'
          exact fun cls d σ4 H4 G4 g4 s4 sl4 x => h' cls d σ4 H4 G4 g4 (g2.gg.trans s4) sl4 x
        | stuck => simp only [eF] at h'; exact h'
      · have e : b = false := by cases b; rfl; exact absurd rfl hb
        subst e
        simp only [Bool.false_eq_true, if_false] at h' ⊢
        exact h' σ' H2 G2 (g'.trans g2) g2.gg (sl'.mono g2)
    | ex c fs =>
      simp only [ec] at h'
      exact fun cls d H1 G1 g1 x => h' cls d σ' H1 G1 (g'.trans g1) g1.gg (sl'.mono g1) x
    | stuck => simp only [ec] at h'; exact h'
end

/-! ### a def -/
def runF (n N : Nat) (F : DE → SR) (ds : List D) : R RV := if ds.length = n then (match F (ds.map (fun d => some (RV.fr d)) ++ List.replicate (N - n) none) with
  | .rt r => .ok r
  | .nx _ => .ok (.fr .non)
  | .ex c fs _ => .ex c fs
  | _ => .stuck) else .stuck
theorem sl_start {K : PySem.W.Frag} {mg : Mg} {H G : Hp} {vs : List V} {ds : List D} (N : List Str) (a : DpAll K mg G vs ds) : Sl K mg H H G (L2.start N vs) (ds.map (fun d => some (RV.fr d)) ++ List.replicate (N.length - ds.length) none) := by
  have fr : ∀ (i : Nat) r, (ds.map (fun d => some (RV.fr d)) ++ List.replicate (N.length - ds.length) none)[i]? = some (some r) → ∃ d, ds[i]? = some d ∧ r = .fr d := fun i r e => by
    rw [List.getElem?_append] at e
    split at e
    · rw [List.getElem?_map] at e
      cases h : ds[i]? with
      | none => rw [h] at e; cases e
      | some d => rw [h] at e; cases e; exact ⟨d, rfl, rfl⟩
    · rw [List.getElem?_replicate] at e
      split at e <;> cases e
  refine ⟨?_, fun i r e => ?_, fun i j r r' v v' as as' b e _ _ _ q _ m _ => ?_⟩
  · unfold L2.start
    simp [a.len]
  · obtain ⟨d, e1, rfl⟩ := fr i r e
    obtain ⟨v, e2, p⟩ := a.get e1
    refine ⟨v, ?_, p⟩
    unfold L2.start
    rw [List.getElem?_append_left (by
      rw [List.length_map]
      rcases Nat.lt_or_ge i vs.length with h | h
      · exact h
      · rw [List.getElem?_eq_none h] at e2; cases e2), List.getElem?_map, e2]
    rfl
  · obtain ⟨d, _, rfl⟩ := fr i r e
    rw [own_nil q rfl] at m
    cases m
/-- the context of a def's body -/
abbrev cxF (P : Program) (w : World) (K : PySem.W.Frag) (mg : Str → Option Value) (base : Heap) (N : List Str) (qual : Str) (sc : Scope) (f : Addr) (cdv : Value) (A : Around) (outer : List Env) (s : Shared) (H : Hp) (E : XK) : Cx :=
  cxOf (L2N.CX P w) P w K mg base N qual sc f cdv A outer s H E
abbrev wF (E : XK) : WX := fun cls d _ H => E cls d H
/-- a body's promise -/
abbrev BodyD (P : Program) (w : World) (K : PySem.W.Frag) (mg : Str → Option Value) (base : Heap) (k : Nat) (N : List Str) (qual : Str) (sc : Scope) (body : List Stmt) (F : DE → SR) : Prop :=
  ∀ (f : Addr) (cdv : Value) (A : Around) (outer : List Env) (s : Shared) (H G : Hp) (E : XK), Room k (cxF P w K mg base N qual sc f cdv A outer s H E).A → L2N.Takes (cxF P w K mg base N qual sc f cdv A outer s H E) (wF E) →
    PassesOwn (model P w) (cxF P w K mg base N qual sc f cdv A outer s H E).A (cxF P w K mg base N qual sc f cdv A outer s H E).env (cxF P w K mg base N qual sc f cdv A outer s H E).xe →
    Bd (cxF P w K mg base N qual sc f cdv A outer s H E) H G (wF E) body F
theorem runF_len {K : PySem.W.Frag} {mg : Mg} {H G : Hp} {E : XK} {Q : VK} {ds : List D} {n M : Nat} {F : DE → SR} (h : post K mg H G E Q (runF n M F ds)) : ds.length = n := by
  unfold runF at h
  by_cases hl : ds.length = n
  · exact hl
  · rw [if_neg hl] at h; exact h.elim
theorem runF_ends {K : PySem.W.Frag} {mg : Mg} {H G : Hp} {E : XK} {Q : VK} {vs : List V} {ds : List D} {N : List Str} {F : DE → SR} (sg : Same G H) (a : DpAll K mg G vs ds) (h : post K mg H G E Q (runF ds.length N.length F ds)) :
    tS K mg H G (wF E) F { nx := fun _ H' => Q .non H', rt := Q } (L2.start N vs) H := by
  refine ⟨G, _, .refl sg, sl_start N a, ?_⟩
  unfold runF at h
  rw [if_pos rfl] at h
  generalize F (ds.map (fun d => some (RV.fr d)) ++ List.replicate (N.length - ds.length) none) = y at h
  cases y with
  | nx δ' => exact fun σ' H' G' g' _ _ => h .non H' G' g' .non
  | br δ' => exact h.elim
  | ct δ' => exact h.elim
  | rt r => exact fun v H' G' g' p => h v H' G' g' p
  | ex c fs δ' => exact fun cls d σ' H' G' g' _ _ x => h cls d H' G' g' x
  | stuck => exact h
theorem fn_d {P : Program} {w : World} {K : PySem.W.Frag} {mg : Str → Option Value} {base : Heap} {x qual : Str} {params : Arguments} {body : List Stmt} {sc : Scope} {dvs : List V} {kws : List (Str × V)} {f : Addr} {fd : FuncData} {N ps : List Str} {k n : Nat} {F : DE → SR} (Fn : FunD K x qual params body sc dvs kws f fd) (S : FnScope N ps sc) (hn : ps.length = n)
    (hbody : BodyD P w K mg base k N qual sc body F) : FnOk P w K mg base (L2N.CX P w) (k + 1) f fd ps (spD K ⟨mg, P, w⟩ (runF n N.length F)) := by
  refine Fn.ok S (fun vs H Q E h => ?_) (fun cdv A outer s H vs Q E hr h => ?_)
  · obtain ⟨G, ds, s, a, h⟩ := h
    rw [a.len, hn]
    exact runF_len h
  · obtain ⟨G, ds, sg, a, h⟩ := h
    have hl := runF_len h
    subst hl
    exact ⟨_, hbody f cdv A outer s H G E hr (L2N.takes_of rfl rfl rfl rfl) (passes_of rfl), runF_ends sg a h⟩
end DL


set_option maxRecDepth 100000
set_option maxHeartbeats 4000000
namespace DL
open PySem PySem.Spec PyProof.Rows L2

/-! ### what operators do to data -/
abbrev okd (d : D) : R RV := .ok (.fr d)
def dAdd : D → D → R RV
  | .int i, .int j => okd (.int (i + j))
  | .str x, .str y => if x.length + y.length ≤ SZ then okd (.str (x ++ y)) else .stuck
  | .lst xs, .lst ys => if xs.length + ys.length ≤ SZ then .ok (.ol (xs ++ ys)) else .stuck
  | .tup xs, .tup ys => if xs.length + ys.length ≤ SZ then okd (.tup (xs ++ ys)) else .stuck
  | _, _ => .stuck
def dSub : D → D → R RV
  | .int i, .int j => okd (.int (i - j))
  | _, _ => .stuck
def dMul : D → D → R RV
  | .int i, .int j => if (-(2 ^ 64) < i ∧ i < 2 ^ 64) ∨ (-(2 ^ 64) < j ∧ j < 2 ^ 64) then okd (.int (i * j)) else .stuck
  | .lst xs, .int k => if (-(2 ^ 63) ≤ k ∧ k < 2 ^ 63) ∧ xs.length * k.toNat ≤ SZ then .ok (.ol (List.replicate k.toNat xs).flatten) else .stuck
  | _, _ => .stuck
def dDiv : D → D → R RV
  | .int i, .int j => if 0 < j ∧ j < 2 ^ 64 then okd (.int (i / j)) else .stuck
  | _, _ => .stuck
def dMod : D → D → R RV
  | .int i, .int j => if 0 < j then okd (.int (i % j)) else .stuck
  | _, _ => .stuck
def dPow : D → D → R RV
  | .int i, .int j => if 0 ≤ j ∧ j ≤ 1000 ∧ i.natAbs < 2 ^ 64 then okd (.int (i ^ j.toNat)) else .stuck
  | _, _ => .stuck
def dNeg : D → R RV
  | .int i => okd (.int (-i))
  | _ => .stuck
def dLt : D → D → R RV
  | .int i, .int j => okd (.bl (decide (i < j)))
  | .str x, .str y => okd (.bl (decide (x.cps.toList < y.cps.toList)))
  | _, _ => .stuck
def dGt : D → D → R RV
  | .int i, .int j => okd (.bl (decide (j < i)))
  | .str x, .str y => okd (.bl (decide (y.cps.toList < x.cps.toList)))
  | _, _ => .stuck
def dLe : D → D → R RV
  | .int i, .int j => okd (.bl (decide (i ≤ j)))
  | .str x, .str y => okd (.bl (!decide (y.cps.toList < x.cps.toList)))
  | _, _ => .stuck
def dGe : D → D → R RV
  | .int i, .int j => okd (.bl (decide (j ≤ i)))
  | .str x, .str y => okd (.bl (!decide (x.cps.toList < y.cps.toList)))
  | _, _ => .stuck
def dIsN (neg : Bool) : D → R RV
  | .non => okd (.bl (!neg))
  | _ => okd (.bl neg)

section
variable {X : Cx}
theorem str_app {x y : Str} (hx : x.cps.all (· < 0x110000) = true) (hy : y.cps.all (· < 0x110000) = true) : (x ++ y).cps.all (· < 0x110000) = true := by
  show (x.cps ++ y.cps).all (· < 0x110000) = true
  rw [Array.all_append, hx, hy]
  rfl
theorem Inv.lstR {pins : List (Addr × Obj)} {σ : L2.St} {H : Hp} {s : Shared} {l : Addr} {xs : List V} (I : Inv X pins σ H s) (hH : Rd H l (.lst xs)) : xs.length ≤ sizeLine ∧ ∃ (its : List Value) (n : Nat), Vals xs its ∧ xs.length = its.length ∧ s.heap.get? l = some { cls := .type "list", data := .seq its.toArray n } := by
  obtain ⟨z, its, n, r, e⟩ := hH.ok I.hok
  exact ⟨z, its, n, r, r.length, e⟩
/-- two lists joined -/
def rCatR : R2 := fun x y H Q => ∃ l b xs zs, x = .ref l ∧ y = .ref b ∧ Rd H l (.lst xs) ∧ Rd H b (.lst zs) ∧ xs.length + zs.length ≤ sizeLine ∧ ∀ p, H p = none → Q (.ref p) (upd H p (.lst (xs ++ zs)))
theorem op_catR : OpR X (binaryOp .Add) rCatR := by
  intro pins s σ H x y v u Q I rx ry h
  obtain ⟨l, b, xs, zs, rfl, rfl, hH, hB, hz, q⟩ := h
  cases rx
  cases ry
  obtain ⟨z, its, n, r, hl, e⟩ := Inv.lstR I hH
  obtain ⟨z2, its2, n2, r2, hl2, e2⟩ := Inv.lstR I hB
  refine PySem.P.add_list e e2 ?_ (by rw [List.size_toArray, List.size_toArray]; omega)
  have ea : its.toArray ++ its2.toArray = (its ++ its2).toArray := by simp
  rw [ea]
  exact ⟨.ref _, _, I.lnew (t' := s.toks) (r.append r2) (by rw [List.length_append]; omega), rfl, q _ I.fresh⟩
def rRepR : R2 := fun x y H Q => ∃ l k xs, x = .ref l ∧ y = .int k ∧ Rd H l (.lst xs) ∧ -(2 ^ 63) ≤ k ∧ k < 2 ^ 63 ∧ xs.length * k.toNat ≤ sizeLine ∧
  ∀ p, H p = none → Q (.ref p) (upd H p (.lst (List.replicate k.toNat xs).flatten))
theorem op_repR : OpR X (binaryOp .Mult) rRepR := by
  intro pins s σ H x y v u Q I rx ry h
  obtain ⟨l, k, xs, rfl, rfl, hH, h1, h2, hz, q⟩ := h
  cases rx
  obtain ⟨t, rfl⟩ := ry
  obtain ⟨z, its, n, r, hl, e⟩ := Inv.lstR I hH
  have hlen : its.toArray.size * k.toNat ≤ sizeLine := by rw [List.size_toArray, ← hl]; exact hz
  have hcap : ¬ its.toArray.size * k.toNat > (2 ^ 63 - 1) / 8 := by
    have : (sizeLine : Nat) ≤ (2 ^ 63 - 1) / 8 := by decide
    omega
  have hfit : ¬ (!Builtin.List.listFitsIndex k) = true := by
    rw [fitsIndex_both h1 h2]
    exact Bool.false_ne_true
  have hlong : ¬ Builtin.List.listTooLong (its.toArray.size * k.toNat) = true := by
    rw [notLongL hlen]
    exact Bool.false_ne_true
  have hnew : List.foldl (fun x1 x2 => x1 ++ x2) #[] (List.replicate (if its.toArray.isEmpty = true then 0 else k.toNat) its.toArray) = (List.replicate k.toNat its).flatten.toArray := by
    have f0 : ∀ m : Nat, List.foldl (fun x1 x2 => x1 ++ x2) #[] (List.replicate m its.toArray) = (List.replicate m its).flatten.toArray := fun m => by
      have := foldl_rep its m []
      rw [List.nil_append] at this
      exact this
    rw [f0]
    cases its with
    | nil => simp
    | cons a r' => rw [if_neg (by simp)]
  refine wpAny_binaryOp_repeat_ref (T := "list") (U := "int") (by decide) ⟨_, e, rfl⟩ (fun s' => typeIs_int s' k t) noFill_list_mul F.fills_int_mul F.slot_int_rmul repeat_list F.slot_int_index.lookup
    (call_meets F.slot_int_rmul (typeIs_int s k t) F.entry_int_rmul (F.args_int_rmul_2 _ _) (int___rmul___int_list k t l its.toArray n)
      ⟨e, rfl, ⟨_, e, rfl⟩, call_meets F.slot_list_mul ⟨_, e, rfl⟩ F.entry_list_mul (F.args_list_mul_2 _ _) (AutoListH.list___mul___list_int_3 l its.toArray n k t hfit hcap hlong) ⟨e, ?_⟩⟩)
  rw [hnew]
  exact ⟨.ref _, _, I.lnew (t' := s.toks) (r.rep k.toNat) (by rw [PyProof.Rows.lm_len_rep_flat, Nat.mul_comm]; exact hz), rfl, q _ I.fresh⟩

/-- a rule over values, from its cases over data -/
theorem opd_of {f : Value → Value → Sem Value} {g : D → D → R RV} (h : ∀ (pins : List (Addr × Obj)) (s : Shared) (σ : L2.St) (H G : Hp) (x y : V) (d e : D) (v u : Value) (Q : VK), Inv X pins σ H s → RelV x v → RelV y u → Same G H → Dp X.K X.M G x d → Dp X.K X.M G y e →
    post X.K X.M H G (fun _ _ _ => False) Q (g d e) → wpAny (model X.prog X.w) X.A (f v u) (EP X pins σ Q) X.xe s) : OpR X f (rD X.K X.M g) := by
  intro pins s σ H x y v u Q I rx ry ⟨G, d, e, sg, px, py, q⟩
  exact h pins s σ H G x y d e v u Q I rx ry sg px py q
theorem tup_new {H G : Hp} {vs : List V} {ds : List D} {Q : VK} (s : Same G H) (a : DpAll X.K X.M G vs ds) (h : post X.K X.M H G (fun _ _ _ => False) Q (okd (.tup ds))) : ∀ p, H p = none → Q (.ref p) (upd H p (.tup vs)) := fun p hp => new_frz s hp a h
theorem opd_add : OpR X (binaryOp .Add) (rD X.K X.M dAdd) := by
  refine opd_of fun pins s σ H G x y d e v u Q I rx ry sg px py h => ?_
  cases px with
  | int i => cases py with
    | int j => exact op_add pins s σ H _ _ v u Q I rx ry ⟨i, j, rfl, rfl, h _ H G (.refl sg) (.int _)⟩
    | _ => exact h.elim
  | str i hi => cases py with
    | str j hj =>
      simp only [dAdd] at h
      by_cases c : i.length + j.length ≤ SZ
      · rw [if_pos c] at h
        exact op_add_str pins s σ H _ _ v u Q I rx ry ⟨i, j, rfl, rfl, sz_le c, h _ H G (.refl sg) (.str _ (str_app hi hj))⟩
      · rw [if_neg c] at h; exact h.elim
    | _ => exact h.elim
  | lst r a => cases py with
    | lst r' a' =>
      rename_i _ xs ds _ ys es
      simp only [dAdd] at h
      by_cases c : ds.length + es.length ≤ SZ
      · rw [if_pos c] at h
        exact op_catR pins s σ H _ _ v u Q I rx ry ⟨_, _, _, _, rfl, rfl, same_rd sg r, same_rd sg r', by rw [a.len, a'.len]; exact sz_le c, fun p hp => new_own (Wd := fun _ _ _ => False) sg hp (a.append a') h⟩
      · rw [if_neg c] at h; exact h.elim
    | _ => exact h.elim
  | tup r a => cases py with
    | tup r' a' =>
      rename_i _ xs ds _ ys es
      simp only [dAdd] at h
      by_cases c : ds.length + es.length ≤ SZ
      · rw [if_pos c] at h
        refine op_catA pins s σ H _ _ v u Q I rx ry ⟨_, _, _, _, rfl, rfl, same_t sg r, same_t sg r', by rw [a.len, a'.len]; exact sz_le c, fun e0 => ?_, fun _ e0 => ?_, fun _ _ => tup_new sg (a.append a') h⟩
        · subst e0
          cases a
          exact h _ H G (.refl sg) (.tup r' a')
        · subst e0
          cases a'
          rw [List.append_nil] at h
          exact h _ H G (.refl sg) (.tup r a)
      · rw [if_neg c] at h; exact h.elim
    | _ => exact h.elim
  | _ => exact h.elim
theorem opd_sub : OpR X (binaryOp .Sub) (rD X.K X.M dSub) := by
  refine opd_of fun pins s σ H G x y d e v u Q I rx ry sg px py h => ?_
  cases px with
  | int i => cases py with
    | int j => exact op_sub pins s σ H _ _ v u Q I rx ry ⟨i, j, rfl, rfl, h _ H G (.refl sg) (.int _)⟩
    | _ => exact h.elim
  | _ => exact h.elim
theorem opd_mul : OpR X (binaryOp .Mult) (rD X.K X.M dMul) := by
  refine opd_of fun pins s σ H G x y d e v u Q I rx ry sg px py h => ?_
  cases px with
  | int i => cases py with
    | int j =>
      simp only [dMul] at h
      by_cases c : (-(2 ^ 64) < i ∧ i < 2 ^ 64) ∨ (-(2 ^ 64) < j ∧ j < 2 ^ 64)
      · rw [if_pos c] at h
        exact op_mul pins s σ H _ _ v u Q I rx ry ⟨i, j, rfl, rfl, c, h _ H G (.refl sg) (.int _)⟩
      · rw [if_neg c] at h; exact h.elim
    | _ => exact h.elim
  | lst r a => cases py with
    | int k =>
      rename_i _ xs ds
      simp only [dMul] at h
      by_cases c : (-(2 ^ 63) ≤ k ∧ k < 2 ^ 63) ∧ ds.length * k.toNat ≤ SZ
      · rw [if_pos c] at h
        exact op_repR pins s σ H _ _ v u Q I rx ry ⟨_, k, _, rfl, rfl, same_rd sg r, c.1.1, c.1.2, by rw [a.len]; exact sz_le c.2, fun p hp => new_own (Wd := fun _ _ _ => False) sg hp (a.rep _) h⟩
      · rw [if_neg c] at h; exact h.elim
    | _ => exact h.elim
  | _ => exact h.elim
theorem opd_div : OpR X (binaryOp .FloorDiv) (rD X.K X.M dDiv) := by
  refine opd_of fun pins s σ H G x y d e v u Q I rx ry sg px py h => ?_
  cases px with
  | int i => cases py with
    | int j =>
      simp only [dDiv] at h
      by_cases c : 0 < j ∧ j < 2 ^ 64
      · rw [if_pos c] at h
        exact op_fdivW pins s σ H _ _ v u Q I rx ry ⟨i, j, rfl, rfl, wide_div (b := 64) c.1 (by omega) (by decide) (by decide), h _ H G (.refl sg) (.int _)⟩
      · rw [if_neg c] at h; exact h.elim
    | _ => exact h.elim
  | _ => exact h.elim
theorem opd_mod : OpR X (binaryOp .Mod) (rD X.K X.M dMod) := by
  refine opd_of fun pins s σ H G x y d e v u Q I rx ry sg px py h => ?_
  cases px with
  | int i => cases py with
    | int j =>
      simp only [dMod] at h
      by_cases c : 0 < j
      · rw [if_pos c] at h
        exact op_mod pins s σ H _ _ v u Q I rx ry ⟨i, j, rfl, rfl, c, h _ H G (.refl sg) (.int _)⟩
      · rw [if_neg c] at h; exact h.elim
    | _ => exact h.elim
  | _ => exact h.elim
theorem opd_pow : OpR X (binaryOp .Pow) (rD X.K X.M dPow) := by
  refine opd_of fun pins s σ H G x y d e v u Q I rx ry sg px py h => ?_
  cases px with
  | int i => cases py with
    | int j =>
      simp only [dPow] at h
      by_cases c : 0 ≤ j ∧ j ≤ 1000 ∧ i.natAbs < 2 ^ 64
      · rw [if_pos c] at h
        exact op_pow pins s σ H _ _ v u Q I rx ry ⟨i, j, rfl, rfl, ⟨c.1, by omega, c.2.2⟩, h _ H G (.refl sg) (.int _)⟩
      · rw [if_neg c] at h; exact h.elim
    | _ => exact h.elim
  | _ => exact h.elim
theorem und_neg : UnR X (unaryOp .USub) (rD1 X.K X.M dNeg) := by
  intro pins s σ H x v Q I rx ⟨G, d, sg, px, h⟩
  cases px with
  | int i => exact un_neg pins s σ H _ v Q I rx ⟨i, rfl, h _ H G (.refl sg) (.int _)⟩
  | _ => exact h.elim
theorem opd_lt : OpR X (compareOp .Lt) (rD X.K X.M dLt) := by
  refine opd_of fun pins s σ H G x y d e v u Q I rx ry sg px py h => ?_
  cases px with
  | int i => cases py with
    | int j => exact op_lt pins s σ H _ _ v u Q I rx ry ⟨i, j, rfl, rfl, h _ H G (.refl sg) (.bl _)⟩
    | _ => exact h.elim
  | str i hi => cases py with
    | str j hj => exact op_lt_str pins s σ H _ _ v u Q I rx ry ⟨i, j, rfl, rfl, h _ H G (.refl sg) (.bl _)⟩
    | _ => exact h.elim
  | _ => exact h.elim
theorem opd_gt : OpR X (compareOp .Gt) (rD X.K X.M dGt) := by
  refine opd_of fun pins s σ H G x y d e v u Q I rx ry sg px py h => ?_
  cases px with
  | int i => cases py with
    | int j => exact op_gt pins s σ H _ _ v u Q I rx ry ⟨i, j, rfl, rfl, h _ H G (.refl sg) (.bl _)⟩
    | _ => exact h.elim
  | str i hi => cases py with
    | str j hj => exact op_gt_str pins s σ H _ _ v u Q I rx ry ⟨i, j, rfl, rfl, h _ H G (.refl sg) (.bl _)⟩
    | _ => exact h.elim
  | _ => exact h.elim
theorem opd_le : OpR X (compareOp .LtE) (rD X.K X.M dLe) := by
  refine opd_of fun pins s σ H G x y d e v u Q I rx ry sg px py h => ?_
  cases px with
  | int i => cases py with
    | int j => exact op_le pins s σ H _ _ v u Q I rx ry ⟨i, j, rfl, rfl, h _ H G (.refl sg) (.bl _)⟩
    | _ => exact h.elim
  | str i hi => cases py with
    | str j hj => exact op_le_str pins s σ H _ _ v u Q I rx ry ⟨i, j, rfl, rfl, h _ H G (.refl sg) (.bl _)⟩
    | _ => exact h.elim
  | _ => exact h.elim
theorem opd_ge : OpR X (compareOp .GtE) (rD X.K X.M dGe) := by
  refine opd_of fun pins s σ H G x y d e v u Q I rx ry sg px py h => ?_
  cases px with
  | int i => cases py with
    | int j => exact op_ge pins s σ H _ _ v u Q I rx ry ⟨i, j, rfl, rfl, h _ H G (.refl sg) (.bl _)⟩
    | _ => exact h.elim
  | str i hi => cases py with
    | str j hj => exact op_ge_str pins s σ H _ _ v u Q I rx ry ⟨i, j, rfl, rfl, h _ H G (.refl sg) (.bl _)⟩
    | _ => exact h.elim
  | _ => exact h.elim

/-! ### == -/
mutual
def toP : D → PyData
  | .non => .none
  | .bl b => .bool b
  | .int i => .int i
  | .str x => .str x
  | .lst xs => .list (toPs xs)
  | .tup xs => .tuple (toPs xs)
  | _ => .dict []
def toPs : List D → List PyData
  | [] => []
  | x :: xs => toP x :: toPs xs
end
mutual
/-- no dicts, no instances, at most n deep -/
def flatD : Nat → D → Bool
  | _, .non => true
  | _, .bl _ => true
  | _, .int _ => true
  | _, .str _ => true
  | 0, _ => false
  | n + 1, .lst xs => flatDs n xs
  | n + 1, .tup xs => flatDs n xs
  | _, _ => false
def flatDs : Nat → List D → Bool
  | _, [] => true
  | n, x :: xs => flatD n x && flatDs n xs
end
mutual
theorem toP_dp {K : PySem.W.Frag} {mg : Mg} {G : Hp} : ∀ (n : Nat) (d : D) (v : V), flatD n d = true → Dp K mg G v d → L2.Dp K G v (toP d) ∧ (toP d).canLay0 = true ∧ (toP d).depth ≤ n
  | n, .non, _, _, .non => ⟨.non, rfl, by simp [toP, PyData.depth]⟩
  | n, .bl b, _, _, .bl _ => ⟨.bl b, rfl, by simp [toP, PyData.depth]⟩
  | n, .int i, _, _, .int _ => ⟨.int i, rfl, by simp [toP, PyData.depth]⟩
  | n, .str x, _, _, .str _ h => ⟨.str x, h, by simp [toP, PyData.depth]⟩
  | 0, .lst xs, _, h, _ => by simp [flatD] at h
  | 0, .tup xs, _, h, _ => by simp [flatD] at h
  | n + 1, .lst xs, _, h, .lst r a => by
    obtain ⟨h1, h2, h3⟩ := toPs_dp n xs _ (by simpa [flatD] using h) a
    exact ⟨.lst (.inl r) h1, h2, by simp only [toP, PyData.depth]; omega⟩
  | n + 1, .tup xs, _, h, .tup r a => by
    obtain ⟨h1, h2, h3⟩ := toPs_dp n xs _ (by simpa [flatD] using h) a
    exact ⟨.tup r h1, h2, by simp only [toP, PyData.depth]; omega⟩
  | 0, .dct _, _, h, _ => by simp [flatD] at h
  | _ + 1, .dct _, _, h, _ => by simp [flatD] at h
  | 0, .obj _ _, _, h, _ => by simp [flatD] at h
  | _ + 1, .obj _ _, _, h, _ => by simp [flatD] at h
  | 0, .exn _ _ _ _, _, h, _ => by simp [flatD] at h
  | _ + 1, .exn _ _ _ _, _, h, _ => by simp [flatD] at h
theorem toPs_dp {K : PySem.W.Frag} {mg : Mg} {G : Hp} : ∀ (n : Nat) (ds : List D) (vs : List V), flatDs n ds = true → DpAll K mg G vs ds → L2.DpAll K G vs (toPs ds) ∧ PyData.canLayAll0 (toPs ds) = true ∧ PyData.depthAll (toPs ds) ≤ n
  | n, [], _, _, .nil => ⟨.nil, rfl, by simp [toPs, PyData.depthAll]⟩
  | n, x :: xs, _, h, .cons p a => by
    simp only [flatDs, Bool.and_eq_true] at h
    obtain ⟨h1, h2, h3⟩ := toP_dp n x _ h.1 p
    obtain ⟨k1, k2, k3⟩ := toPs_dp n xs _ h.2 a
    refine ⟨.cons h1 k1, by simp only [toPs, PyData.canLayAll0, h2, k2, Bool.and_self], by simp only [toPs, PyData.depthAll]; omega⟩
end
/-- Python's == over data -/
def eqD (x y : D) : Bool := PyData.eqv (toP x) (toP y)
def dEq (neg : Bool) (x y : D) : R RV := if flatD 9 x && flatD 9 y then okd (.bl (if neg then !eqD x y else eqD x y)) else .stuck
theorem shaped_of {n : Nat} {d : PyData} (h : d.canLay0 = true) (k : d.depth ≤ n) (hn : n ≤ 64) : SeqAt.shaped d = true := by
  unfold SeqAt.shaped
  rw [h, Bool.true_and]
  exact decide_eq_true (Nat.le_trans k hn)
theorem opd_eq (hu : X.A.units + 64 < cLine) : OpR X (compareOp .Eq) (rD X.K X.M (dEq false)) := by
  refine opd_of fun pins s σ H G x y d e v u Q I rx ry sg px py h => ?_
  unfold dEq at h
  by_cases c : (flatD 9 d && flatD 9 e) = true
  · rw [if_pos c] at h
    rw [Bool.and_eq_true] at c
    obtain ⟨a1, a2, a3⟩ := toP_dp 9 d x c.1 (px.mono sg)
    obtain ⟨b1, b2, b3⟩ := toP_dp 9 e y c.2 (py.mono sg)
    exact op_eqD hu pins s σ H _ _ v u Q I rx ry ⟨_, _, a1, b1, shaped_of a2 a3 (by decide), shaped_of b2 b3 (by decide), h _ H G (.refl sg) (.bl _)⟩
  · rw [if_neg c] at h; exact h.elim
theorem opd_ne (hu : X.A.units + 64 < cLine) : OpR X (compareOp .NotEq) (rD X.K X.M (dEq true)) := by
  refine opd_of fun pins s σ H G x y d e v u Q I rx ry sg px py h => ?_
  unfold dEq at h
  by_cases c : (flatD 9 d && flatD 9 e) = true
  · rw [if_pos c] at h
    rw [Bool.and_eq_true] at c
    obtain ⟨a1, a2, a3⟩ := toP_dp 9 d x c.1 (px.mono sg)
    obtain ⟨b1, b2, b3⟩ := toP_dp 9 e y c.2 (py.mono sg)
    exact op_neD hu pins s σ H _ _ v u Q I rx ry ⟨_, _, a1, b1, shaped_of a2 a3 (by decide), shaped_of b2 b3 (by decide), h _ H G (.refl sg) (.bl _)⟩
  · rw [if_neg c] at h; exact h.elim
theorem dEq_noex {neg : Bool} : ∀ x y c fs, dEq neg x y ≠ .ex c fs := fun x y c fs h => by
  unfold dEq at h
  split at h <;> cases h

/-! ### is None -/
theorem opd_isN : OpR X (compareOp .Is) (rD X.K X.M fun d e => match e with | .non => dIsN false d | _ => .stuck) := by
  refine opd_of fun pins s σ H G x y d e v u Q I rx ry sg px py h => ?_
  cases py with
  | non =>
    refine op_isN pins s σ H _ _ v u Q I rx ry ⟨rfl, ?_⟩
    cases px <;> exact h _ H G (.refl sg) (.bl _)
  | _ => exact h.elim
theorem opd_notN : OpR X (compareOp .IsNot) (rD X.K X.M fun d e => match e with | .non => dIsN true d | _ => .stuck) := by
  refine opd_of fun pins s σ H G x y d e v u Q I rx ry sg px py h => ?_
  cases py with
  | non =>
    refine op_notN pins s σ H _ _ v u Q I rx ry ⟨rfl, ?_⟩
    cases px <;> exact h _ H G (.refl sg) (.bl _)
  | _ => exact h.elim

/-! ### in -/
def dIn (neg : Bool) (x y : D) : R RV := match y with
  | .str z => (match x with
    | .str w => if w.length = 1 then okd (.bl (if neg then !decide (w.cps.getD 0 0 ∈ z.cps.toList) else decide (w.cps.getD 0 0 ∈ z.cps.toList))) else .stuck
    | _ => .stuck)
  | .lst ds => if flatD 8 x && flatDs 8 ds then okd (.bl (if neg then !(ds.any fun z => eqD z x) else ds.any fun z => eqD z x)) else .stuck
  | .tup ds => if flatD 0 x && flatDs 0 ds then okd (.bl (if neg then !(ds.any fun z => eqD z x) else ds.any fun z => eqD z x)) else .stuck
  | _ => .stuck
theorem str_one {w : Str} (h : w.length = 1) : w = ⟨#[w.cps.getD 0 0]⟩ := by
  obtain ⟨a⟩ := w
  have h' : a.size = 1 := h
  refine congrArg Str.mk (Array.ext (by simp [h']) fun i h1 h2 => ?_)
  have : i = 0 := by omega
  subst this
  simp [Array.getD, h']
theorem any_toPs {x : D} : ∀ ds : List D, (toPs ds).any (fun z => PyData.eqv z (toP x)) = ds.any fun z => eqD z x
  | [] => rfl
  | d :: ds => by
    simp only [toPs, List.any_cons, any_toPs ds]
    rfl
/-- a flat value -/
theorem flat0 {K : PySem.W.Frag} {mg : Mg} {G : Hp} {v : V} {d : D} (h : flatD 0 d = true) (p : Dp K mg G v d) : flatV v = true := by
  cases p <;> first | rfl | (simp [flatD] at h)
theorem eqV0 {K : PySem.W.Frag} {mg : Mg} {G : Hp} {v u : V} {d e : D} (h : flatD 0 d = true) (h' : flatD 0 e = true) (p : Dp K mg G v d) (q : Dp K mg G u e) : eqV v u = eqD d e := by
  cases p <;> first
    | (simp [flatD] at h; done)
    | (cases q <;> first
      | (simp [flatD] at h'; done)
      | (simp [eqV, eqD, toP, PyData.eqv]; done)
      | (rename_i b i; cases b <;> simp [eqV, eqD, toP, PyData.eqv] <;> (first | done | exact Bool.beq_eq_decide_eq _ _ | (rw [Bool.eq_iff_iff]; simp; omega)))
      | (rename_i i b; cases b <;> simp [eqV, eqD, toP, PyData.eqv]))
end
end DL


set_option maxRecDepth 100000
set_option maxHeartbeats 4000000
namespace DL
open PySem PySem.Spec PyProof.Rows L2

section
variable {X : Cx} {H0 G0 : Hp} {W : WX}
/-! ### in -/
theorem dp_flat0 {K : PySem.W.Frag} {mg : Mg} {G : Hp} : ∀ {xs : List V} {ds : List D}, DpAll K mg G xs ds → flatDs 0 ds = true → xs.all flatV = true
  | _, _, .nil, _ => rfl
  | _, _, .cons p t, h => by
    simp only [flatDs, Bool.and_eq_true] at h
    rw [List.all_cons, flat0 h.1 p, dp_flat0 t h.2]
    rfl
theorem inV_eqD {K : PySem.W.Frag} {mg : Mg} {G : Hp} {x : V} {d : D} (hx : flatD 0 d = true) (p : Dp K mg G x d) : ∀ {xs : List V} {ds : List D}, DpAll K mg G xs ds → flatDs 0 ds = true → inV x xs = ds.any fun z => eqD z d
  | _, _, .nil, _ => rfl
  | _, _, .cons (v := v) (d := e) q t, h => by
    simp only [flatDs, Bool.and_eq_true] at h
    have ih := inV_eqD hx p t h.2
    unfold inV at ih ⊢
    rw [List.any_cons, List.any_cons, ih, eqV0 h.1 hx q p]
theorem in_core {neg : Bool} {op : CmpOp} (hop : op = (if neg then .NotIn else .In)) (hu : X.A.units + 65 < cLine) : OpR X (compareOp op) (rD X.K X.M (dIn neg)) := by
  subst hop
  refine opd_of fun pins s σ H G x y d e v u Q I rx ry sg px py h => ?_
  cases py with
  | str z hz => cases px with
    | str w' hw =>
      simp only [dIn] at h
      by_cases c : w'.length = 1
      · rw [if_pos c] at h
        have ew := str_one c
        cases neg with
        | true => exact op_notIn_sign pins s σ H _ _ v u Q I rx ry ⟨_, z, congrArg V.str ew, rfl, h _ H G (.refl sg) (.bl _)⟩
        | false => exact op_in_sign pins s σ H _ _ v u Q I rx ry ⟨_, z, congrArg V.str ew, rfl, h _ H G (.refl sg) (.bl _)⟩
      · rw [if_neg c] at h; exact h.elim
    | _ => exact h.elim
  | lst r a =>
    rename_i _ xs ds
    simp only [dIn] at h
    by_cases c : (flatD 8 d && flatDs 8 ds) = true
    · rw [if_pos c] at h
      rw [Bool.and_eq_true] at c
      obtain ⟨a1, a2, a3⟩ := toP_dp 8 d x c.1 (px.mono sg)
      obtain ⟨b1, b2, b3⟩ := toPs_dp 8 ds xs c.2 (a.mono sg)
      have sh : SeqAt.shaped (.list (toPs ds)) = true := shaped_of (n := 9) b2 (by simp only [PyData.depth]; omega) (by decide)
      cases neg with
      | true => exact op_notInD hu pins s σ H _ _ v u Q I rx ry ⟨_, _, a1, .lst (.inl (same_rd sg r)) b1, shaped_of a2 a3 (by decide), sh, by rw [any_toPs]; exact h _ H G (.refl sg) (.bl _)⟩
      | false => exact op_inD hu pins s σ H _ _ v u Q I rx ry ⟨_, _, a1, .lst (.inl (same_rd sg r)) b1, shaped_of a2 a3 (by decide), sh, by rw [any_toPs]; exact h _ H G (.refl sg) (.bl _)⟩
    · rw [if_neg c] at h; exact h.elim
  | tup r a =>
    rename_i _ xs ds
    simp only [dIn] at h
    by_cases c : (flatD 0 d && flatDs 0 ds) = true
    · rw [if_pos c] at h
      rw [Bool.and_eq_true] at c
      have e := inV_eqD c.1 px a c.2
      cases neg with
      | true => exact op_notIn_seq pins s σ H _ _ v u Q I rx ry ⟨_, _, rfl, .inr (same_t sg r), flat0 c.1 px, dp_flat0 a c.2, by rw [e]; exact h _ H G (.refl sg) (.bl _)⟩
      | false => exact op_in_seq pins s σ H _ _ v u Q I rx ry ⟨_, _, rfl, .inr (same_t sg r), flat0 c.1 px, dp_flat0 a c.2, by rw [e]; exact h _ H G (.refl sg) (.bl _)⟩
    · rw [if_neg c] at h; exact h.elim
  | _ => exact h.elim
theorem opd_in (hu : X.A.units + 65 < cLine) : OpR X (compareOp .In) (rD X.K X.M (dIn false)) := in_core rfl hu
theorem opd_notIn (hu : X.A.units + 65 < cLine) : OpR X (compareOp .NotIn) (rD X.K X.M (dIn true)) := in_core rfl hu
theorem dIn_noex {neg : Bool} : ∀ x y c fs, dIn neg x y ≠ .ex c fs := fun x y c fs h => by
  unfold dIn at h
  split at h
  · split at h
    · split at h <;> cases h
    · cases h
  · split at h <;> cases h
  · split at h <;> cases h
  · cases h

/-! ### items and slices -/
def dIx : D → D → R RV
  | .lst ds, .int i => (match atI ds i with | some d => okd d | none => .stuck)
  | .tup ds, .int i => (match atI ds i with | some d => okd d | none => .stuck)
  | .str z, .int i => if z.length ≤ SZ then (match atI z.cps.toList i with | some c => okd (.str ⟨#[c]⟩) | none => .stuck) else .stuck
  | _, _ => .stuck
theorem dp_atI {K : PySem.W.Frag} {mg : Mg} {G : Hp} {xs : List V} {ds : List D} {i : Int} {d : D} (a : DpAll K mg G xs ds) (h : atI ds i = some d) : ∃ v, atI xs i = some v ∧ Dp K mg G v d := by
  unfold atI at h ⊢
  rw [a.len]
  cases e : ixN ds.length i with
  | none => rw [e] at h; cases h
  | some j =>
    rw [e] at h
    exact a.get h
theorem str_at {z : Str} {i : Int} {c : Nat} (hz : z.cps.all (· < 0x110000) = true) (h : atI z.cps.toList i = some c) : (Str.mk #[c]).cps.all (· < 0x110000) = true := by
  obtain ⟨j, _, e, _⟩ := atI_get h
  have := Array.all_eq_true'.mp hz c (Array.mem_toList_iff.mp (List.mem_of_getElem? e))
  simpa using this
theorem ixd : IxR X (rD X.K X.M dIx) := by
  intro value slice pins s σ H x y v u Q I rx ry ⟨G, d, e, sg, px, py, h⟩ hs
  cases py with
  | int i => cases px with
    | lst r a =>
      simp only [dIx] at h
      split at h
      · rename_i d' e'
        obtain ⟨v', e2, p2⟩ := dp_atI a e'
        exact ix_list value slice pins s σ H _ _ v u Q I rx ry ⟨_, _, _, _, rfl, rfl, .inl (same_rd sg r), e2, h _ H G (.refl sg) p2⟩ hs
      · exact h.elim
    | tup r a =>
      simp only [dIx] at h
      split at h
      · rename_i d' e'
        obtain ⟨v', e2, p2⟩ := dp_atI a e'
        exact ix_tup value slice pins s σ H _ _ v u Q I rx ry ⟨_, _, _, _, rfl, rfl, same_t sg r, e2, h _ H G (.refl sg) p2⟩ hs
      · exact h.elim
    | str z hz =>
      simp only [dIx] at h
      by_cases c : z.length ≤ SZ
      · rw [if_pos c] at h
        split at h
        · rename_i c' e'
          exact ix_str value slice pins s σ H _ _ v u Q I rx ry ⟨_, _, _, rfl, rfl, sz_le c, e', h _ H G (.refl sg) (.str _ (str_at hz e'))⟩ hs
        · exact h.elim
      · rw [if_neg c] at h; exact h.elim
    | _ => exact h.elim
  | _ => cases px <;> exact h.elim
theorem dIx_noex : ∀ x y c fs, dIx x y ≠ .ex c fs := fun x y c fs h => by
  unfold dIx at h
  split at h
  · split at h <;> cases h
  · split at h <;> cases h
  · split at h
    · split at h <;> cases h
    · cases h
  · cases h
/-- an own list's item, read while it is own -/
def fOwnIx (i : Nat) (f : DE → R RV) (δ : DE) : R RV := match δ[i]? with
  | some (some (.ol ds)) => f δ >>= fun k => dIx (.lst ds) k.d
  | _ => .stuck
def cutL {α : Type} (xs : List α) (lo hi : Option Int) : List α := (xs.drop (HT.sIx xs.length 0 lo)).take (HT.sIx xs.length xs.length hi - HT.sIx xs.length 0 lo)
def dSl : D → Option Int → Option Int → R RV
  | .lst ds, lo, hi => .ok (.ol (cutL ds lo hi))
  | .tup ds, lo, hi => okd (.tup (cutL ds lo hi))
  | .str z, lo, hi => if z.length ≤ SZ then okd (.str (cutS z lo hi)) else .stuck
  | _, _, _ => .stuck
def pNone (_ : DE) : R (Option Int) := .ok none
def pInt (f : DE → R RV) (δ : DE) : R (Option Int) := f δ >>= fun r => match r.d with
  | .int i => .ok (some i)
  | _ => .stuck
def postO (K : PySem.W.Frag) (mg : Mg) (H G : Hp) (W : Value → Option Addr → Hp → Prop) (Q : Option Int → Hp → Prop) : R (Option Int) → Prop
  | .ok o => ∀ H' G', Gr H G H' G' → Q o H'
  | .ex c fs => postX K mg H G W c fs
  | .stuck => False
def tO (K : PySem.W.Frag) (mg : Mg) (H0 : Hp) (W : WX) (f : DE → R (Option Int)) : TO := fun σ H Q => ∃ G δ, Same G H ∧ Sl K mg H0 H G σ δ ∧ postO K mg H G (fun c d H' => W c d σ H') Q (f δ)
abbrev Od (X : Cx) (H0 : Hp) (W : WX) (e : Option Expr) (f : DE → R (Option Int)) : Prop := PO X e (tO X.K X.M H0 W f)
theorem PO.imp {e : Option Expr} {t t' : TO} (h : PO X e t) (w : ∀ σ H Q, t' σ H Q → t σ H Q) : PO X e t' := ⟨fun pins s σ H Q I q => h.run pins s σ H Q I (w σ H Q q)⟩
theorem od_none : Od X H0 W none pNone := PO.imp po_none fun σ H Q h => by
  obtain ⟨G, δ, s, sl, h⟩ := h
  exact h H G (.refl s)
theorem od_some {e : Expr} {f : DE → R RV} (he : Ed X H0 W e f) : Od X H0 W (some e) (pInt f) := PO.imp (po_some he) fun σ H Q h => by
  obtain ⟨G, δ, s, sl, h⟩ := h
  refine ⟨G, δ, s, sl, ?_⟩
  unfold pInt at h
  cases hf : f δ with
  | ok r =>
    rw [hf, bind_ok] at h
    intro v H1 G1 g1 p1
    cases hd : r.d with
    | int i =>
      simp only [hd] at h
      obtain ⟨G2, g2, _, p2, _⟩ := RVp.frz g1 p1
      rw [hd] at p2
      cases p2
      exact ⟨i, rfl, h H1 G2 g2⟩
    | _ => simp only [hd] at h; exact h.elim
  | ex c fs => rw [hf, bind_ex] at h; exact h
  | stuck => rw [hf, bind_stuck] at h; exact h
def fSl (f : DE → R RV) (fl fh : DE → R (Option Int)) (δ : DE) : R RV := f δ >>= fun r => fl δ >>= fun l => fh δ >>= fun h => dSl r.d l h
theorem dp_cut {K : PySem.W.Frag} {mg : Mg} {G : Hp} {xs : List V} {ds : List D} (a : DpAll K mg G xs ds) (lo hi : Option Int) : DpAll K mg G (cutV xs lo hi) (cutL ds lo hi) := by
  unfold cutV cutL
  rw [a.len]
  exact (a.drop _).take _
theorem str_cut {z : Str} {lo hi : Option Int} (hz : z.cps.all (· < 0x110000) = true) : (cutS z lo hi).cps.all (· < 0x110000) = true := by
  rw [Array.all_eq_true'] at hz ⊢
  intro c hc
  refine hz c ?_
  unfold cutS at hc
  simp only [List.mem_toArray] at hc
  exact Array.mem_toList_iff.mp (List.mem_of_mem_drop (List.mem_of_mem_take hc))
/-- a rule for slices of data, at once for lists, tuples and texts -/
theorem slD : SlR X (fun x lo hi H Q => ∃ G d, Same G H ∧ Dp X.K X.M G x d ∧ post X.K X.M H G (fun _ _ _ => False) Q (dSl d lo hi)) := by
  intro pins s σ H x v vl vu lo hi sl Q I rx hs pl pu ⟨G, d, sg, p, h⟩
  cases p with
  | lst r a =>
    exact sl_list pins s σ H _ v vl vu lo hi sl Q I rx hs pl pu ⟨_, _, rfl, .inl (same_rd sg r), fun p hp => new_own (Wd := fun _ _ _ => False) sg hp (dp_cut a lo hi) h⟩
  | tup r a =>
    refine sl_tupA pins s σ H _ v vl vu lo hi sl Q I rx hs pl pu ⟨_, _, rfl, same_t sg r, fun z => ?_, fun _ => tup_new sg (dp_cut a lo hi) h⟩
    rename_i _ xs ds
    have e : cutL ds lo hi = ds := by
      unfold cutL
      rw [a.len] at z
      rw [z.1, z.2, List.drop_zero, Nat.sub_zero, List.take_length]
    simp only [dSl, e] at h
    exact h _ H G (.refl sg) (.tup r a)
  | str z hz =>
    simp only [dSl] at h
    by_cases c : z.length ≤ SZ
    · rw [if_pos c] at h
      exact sl_str pins s σ H _ v vl vu lo hi sl Q I rx hs pl pu ⟨z, rfl, sz_le c, h _ H G (.refl sg) (.str _ (str_cut hz))⟩
    · rw [if_neg c] at h; exact h.elim
  | _ => exact h.elim
theorem postO_bind {K : PySem.W.Frag} {mg : Mg} {H G : Hp} {W : Value → Option Addr → Hp → Prop} {Q : Option Int → Hp → Prop} {Q2 : VK} {x : R (Option Int)} {f : Option Int → R RV} (h : post K mg H G W Q2 (x >>= f))
    (k : ∀ b H' G', Gr H G H' G' → post K mg H' G' W Q2 (f b) → Q b H') : postO K mg H G W Q x := by
  cases x with
  | ok b =>
    intro H' G' g
    refine k b H' G' g ?_
    have h' : post K mg H G W Q2 (f b) := h
    generalize hy : f b = y at h'
    cases y with
    | ok r2 => exact fun v H3 G3 g3 p3 => h' v H3 G3 (g.trans g3) (p3.back g.hh)
    | ex c fs => exact postX.mono g h'
    | stuck => exact h'
  | ex c fs => exact h
  | stuck => exact h
theorem dSl_noex : ∀ d lo hi c fs, dSl d lo hi ≠ .ex c fs := fun d lo hi c fs h => by
  cases d <;> simp only [dSl] at h <;> first
    | (split at h <;> cases h)
    | cases h
theorem ed_sl {e : Expr} {lo hi : Option Expr} {f : DE → R RV} {fl fh : DE → R (Option Int)} {p2 pos : Pos} (he : Ed X H0 W e f) (hl : Od X H0 W lo fl) (hh : Od X H0 W hi fh) : Ed X H0 W (.Subscript e (.Slice lo hi none p2) pos) (fSl f fl fh) := by
  refine PE.imp (pe_slice slD he hl hh) fun σ H Q h => ?_
  obtain ⟨G, δ, s, sl, h⟩ := h
  refine ⟨G, δ, s, sl, post_bind (f := fun d => fl δ >>= fun l => fh δ >>= fun h => dSl d l h) h fun v d H1 G1 g1 p1 h1 => ?_⟩
  refine ⟨G1, δ, g1.gh, sl.mono g1, postO_bind h1 fun l H2 G2 g2 h2 => ?_⟩
  refine ⟨G2, δ, g2.gh, (sl.mono g1).mono g2, postO_bind h2 fun r H3 G3 g3 h3 => ?_⟩
  refine ⟨G3, d, g3.gh, (p1.mono g2.gg).mono g3.gg, ?_⟩
  generalize hy : dSl d l r = y at h3
  cases y with
  | ok r => exact h3
  | ex c fs => exact absurd hy (dSl_noex _ _ _ _ _)
  | stuck => exact h3

/-! ### built-in functions -/
def dLen : List D → R RV
  | [.lst ds] => okd (.int ds.length)
  | [.tup ds] => okd (.int ds.length)
  | [.str z] => if z.length ≤ SZ then okd (.int z.length) else .stuck
  | _ => .stuck
def dInt : List D → R RV
  | [.int i] => okd (.int i)
  | [.bl b] => okd (.int (if b then 1 else 0))
  | _ => .stuck
def dAbs : List D → R RV
  | [.int i] => okd (.int (if i < 0 then -i else i))
  | _ => .stuck
def dList : List D → R RV
  | [.lst ds] => .ok (.ol ds)
  | [.tup ds] => .ok (.ol ds)
  | _ => .stuck
def dTuple : List D → R RV
  | [.lst ds] => okd (.tup ds)
  | [.tup ds] => okd (.tup ds)
  | _ => .stuck
def intsOf : List D → Option (List Int)
  | [] => some []
  | .int i :: ds => (intsOf ds).map (i :: ·)
  | _ => none
def blsOf : List D → Option (List Bool)
  | [] => some []
  | .bl i :: ds => (blsOf ds).map (i :: ·)
  | _ => none
def strsOf : List D → Option (List Str)
  | [] => some []
  | .str i :: ds => (strsOf ds).map (i :: ·)
  | _ => none
def dSum : List D → R RV
  | [.lst ds] => (match intsOf ds with | some ns => okd (.int ns.sum) | none => .stuck)
  | _ => .stuck
def dAll : List D → R RV
  | [.lst ds] => (match blsOf ds with | some ns => okd (.bl (ns.all id)) | none => .stuck)
  | _ => .stuck
def dAny : List D → R RV
  | [.lst ds] => (match blsOf ds with | some ns => okd (.bl (ns.any id)) | none => .stuck)
  | _ => .stuck
def dMin2 : List D → R RV
  | [.int i, .int j] => okd (.int (if j < i then j else i))
  | _ => .stuck
def dMax2 : List D → R RV
  | [.int i, .int j] => okd (.int (if j > i then j else i))
  | _ => .stuck
theorem dp_ints {K : PySem.W.Frag} {mg : Mg} {G : Hp} : ∀ {xs : List V} {ds : List D} {ns : List Int}, DpAll K mg G xs ds → intsOf ds = some ns → xs = ns.map V.int
  | _, _, _, .nil, h => by cases h; rfl
  | _, _, ns, .cons p t, h => by
    cases p <;> simp only [intsOf] at h <;> try cases h
    rename_i i
    cases e : intsOf _ with
    | none => rw [e] at h; cases h
    | some ms => rw [e] at h; cases h; rw [dp_ints t e]; rfl
theorem dp_bls {K : PySem.W.Frag} {mg : Mg} {G : Hp} : ∀ {xs : List V} {ds : List D} {ns : List Bool}, DpAll K mg G xs ds → blsOf ds = some ns → xs = ns.map V.bl
  | _, _, _, .nil, h => by cases h; rfl
  | _, _, ns, .cons p t, h => by
    cases p <;> simp only [blsOf] at h <;> try cases h
    rename_i i
    cases e : blsOf _ with
    | none => rw [e] at h; cases h
    | some ms => rw [e] at h; cases h; rw [dp_bls t e]; rfl
theorem dp_strs {K : PySem.W.Frag} {mg : Mg} {G : Hp} : ∀ {xs : List V} {ds : List D} {ns : List Str}, DpAll K mg G xs ds → strsOf ds = some ns → xs = ns.map V.str ∧ ∀ x ∈ ns, x.cps.all (· < 0x110000) = true
  | _, _, _, .nil, h => by cases h; exact ⟨rfl, fun _ h => nomatch h⟩
  | _, _, ns, .cons p t, h => by
    cases p <;> simp only [strsOf] at h <;> try cases h
    rename_i i hi
    cases e : strsOf _ with
    | none => rw [e] at h; cases h
    | some ms =>
      rw [e] at h; cases h
      obtain ⟨a, b⟩ := dp_strs t e
      exact ⟨by rw [a]; rfl, fun x hx => (List.mem_cons.mp hx).elim (fun z => z ▸ hi) (b x)⟩
theorem crd_of {f : Value} {g : List D → R RV} (h : ∀ (pins : List (Addr × Obj)) (s : Shared) (σ : L2.St) (H G : Hp) (xs : List V) (ds : List D) (us : List Value) (Q : VK), Inv X pins σ H s → Vals xs us → Same G H → DpAll X.K X.M G xs ds →
    post X.K X.M H G (fun _ _ _ => False) Q (g ds) → wpAny (model X.prog X.w) X.A (call f us) (EP X pins σ Q) X.xe s) : CallR X f (rDA X.K X.M g) := by
  intro pins s σ H xs us Q I r ⟨G, ds, sg, p, q⟩
  exact h pins s σ H G xs ds us Q I r sg p q
theorem crd_len : CallR X (.builtin "len") (rDA X.K X.M dLen) := by
  refine crd_of fun pins s σ H G xs ds us Q I r sg p h => ?_
  cases p with
  | nil => exact h.elim
  | cons p t =>
    cases t with
    | nil =>
      cases p with
      | lst q a => exact call_len pins s σ H _ us Q I r ⟨_, _, rfl, .inl ⟨_, .inl (same_rd sg q), rfl⟩, by rw [a.len]; exact h _ H G (.refl sg) (.int _)⟩
      | tup q a => exact call_len pins s σ H _ us Q I r ⟨_, _, rfl, .inr ⟨_, same_t sg q, rfl⟩, by rw [a.len]; exact h _ H G (.refl sg) (.int _)⟩
      | str z hz =>
        simp only [dLen] at h
        by_cases c : z.length ≤ SZ
        · rw [if_pos c] at h
          exact call_len pins s σ H _ us Q I r ⟨_, _, rfl, ⟨sz_le c, rfl⟩, h _ H G (.refl sg) (.int _)⟩
        · rw [if_neg c] at h; exact h.elim
      | _ => exact h.elim
    | cons p2 t2 => cases p <;> exact h.elim
theorem dLen_noex : ∀ x c fs, dLen x ≠ .ex c fs := fun x c fs h => by
  unfold dLen at h
  split at h <;> try cases h
  split at h <;> cases h
theorem crd_int : CallR X (.type "int") (rDA X.K X.M dInt) := by
  refine crd_of fun pins s σ H G xs ds us Q I r sg p h => ?_
  cases p with
  | nil => exact h.elim
  | cons p t =>
    cases t with
    | nil =>
      cases p with
      | int i => exact call_int1 pins s σ H _ us Q I r (.inl ⟨i, rfl, h _ H G (.refl sg) (.int _)⟩)
      | bl b => exact call_int1 pins s σ H _ us Q I r (.inr ⟨b, rfl, h _ H G (.refl sg) (.int _)⟩)
      | _ => exact h.elim
    | cons p2 t2 => cases p <;> exact h.elim
theorem dInt_noex : ∀ x c fs, dInt x ≠ .ex c fs := fun x c fs h => by
  unfold dInt at h
  split at h <;> cases h
theorem crd_abs : CallR X (.builtin "abs") (rDA X.K X.M dAbs) := by
  refine crd_of fun pins s σ H G xs ds us Q I r sg p h => ?_
  cases p with
  | nil => exact h.elim
  | cons p t =>
    cases t with
    | nil =>
      cases p with
      | int i => exact call_abs pins s σ H _ us Q I r ⟨i, rfl, h _ H G (.refl sg) (.int _)⟩
      | _ => exact h.elim
    | cons p2 t2 => cases p <;> exact h.elim
theorem dAbs_noex : ∀ x c fs, dAbs x ≠ .ex c fs := fun x c fs h => by
  unfold dAbs at h
  split at h <;> cases h
theorem crd_list : CallR X (.type "list") (rDA X.K X.M dList) := by
  refine crd_of fun pins s σ H G xs ds us Q I r sg p h => ?_
  cases p with
  | nil => exact h.elim
  | cons p t =>
    cases t with
    | nil =>
      cases p with
      | lst q a => exact call_list_of pins s σ H _ us Q I r ⟨_, _, rfl, .inl (.inl (same_rd sg q)), fun l hl => new_own (Wd := fun _ _ _ => False) sg hl a h⟩
      | tup q a => exact call_list_of pins s σ H _ us Q I r ⟨_, _, rfl, .inr (same_t sg q), fun l hl => new_own (Wd := fun _ _ _ => False) sg hl a h⟩
      | _ => exact h.elim
    | cons p2 t2 => cases p <;> exact h.elim
theorem dList_noex : ∀ x c fs, dList x ≠ .ex c fs := fun x c fs h => by
  unfold dList at h
  split at h <;> cases h
theorem crd_tuple : CallR X (.type "tuple") (rDA X.K X.M dTuple) := by
  refine crd_of fun pins s σ H G xs ds us Q I r sg p h => ?_
  cases p with
  | nil => exact h.elim
  | cons p t =>
    cases t with
    | nil =>
      cases p with
      | lst q a => exact call_tuple_of pins s σ H _ us Q I r ⟨_, _, rfl, .inl ⟨.inl (same_rd sg q), tup_new sg a h⟩⟩
      | tup q a => exact call_tuple_of pins s σ H _ us Q I r ⟨_, _, rfl, .inr ⟨same_t sg q, h _ H G (.refl sg) (.tup q a)⟩⟩
      | _ => exact h.elim
    | cons p2 t2 => cases p <;> exact h.elim
theorem dTuple_noex : ∀ x c fs, dTuple x ≠ .ex c fs := fun x c fs h => by
  unfold dTuple at h
  split at h <;> cases h
theorem crd_sum (hc : X.calm = true) : CallR X (.builtin "sum") (rDA X.K X.M dSum) := by
  refine crd_of fun pins s σ H G xs ds us Q I r sg p h => ?_
  cases p with
  | nil => exact h.elim
  | cons p t =>
    cases t with
    | nil =>
      cases p with
      | lst q a =>
        simp only [dSum] at h
        split at h
        · rename_i ns e
          have ex := dp_ints a e
          subst ex
          exact cr_sum hc pins s σ H _ us Q I r ⟨_, ns, rfl, .inl (same_rd sg q), h _ H G (.refl sg) (.int _)⟩
        · exact h.elim
      | _ => exact h.elim
    | cons p2 t2 => cases p <;> exact h.elim
theorem dSum_noex : ∀ x c fs, dSum x ≠ .ex c fs := fun x c fs h => by
  unfold dSum at h
  split at h
  · split at h <;> cases h
  · cases h
theorem crd_all (hc : X.calm = true) : CallR X (.builtin "all") (rDA X.K X.M dAll) := by
  refine crd_of fun pins s σ H G xs ds us Q I r sg p h => ?_
  cases p with
  | nil => exact h.elim
  | cons p t =>
    cases t with
    | nil =>
      cases p with
      | lst q a =>
        simp only [dAll] at h
        split at h
        · rename_i ns e
          have ex := dp_bls a e
          subst ex
          exact cr_all hc pins s σ H _ us Q I r ⟨_, ns, rfl, .inl (same_rd sg q), h _ H G (.refl sg) (.bl _)⟩
        · exact h.elim
      | _ => exact h.elim
    | cons p2 t2 => cases p <;> exact h.elim
theorem dAll_noex : ∀ x c fs, dAll x ≠ .ex c fs := fun x c fs h => by
  unfold dAll at h
  split at h
  · split at h <;> cases h
  · cases h
theorem crd_any (hc : X.calm = true) : CallR X (.builtin "any") (rDA X.K X.M dAny) := by
  refine crd_of fun pins s σ H G xs ds us Q I r sg p h => ?_
  cases p with
  | nil => exact h.elim
  | cons p t =>
    cases t with
    | nil =>
      cases p with
      | lst q a =>
        simp only [dAny] at h
        split at h
        · rename_i ns e
          have ex := dp_bls a e
          subst ex
          exact cr_any hc pins s σ H _ us Q I r ⟨_, ns, rfl, .inl (same_rd sg q), h _ H G (.refl sg) (.bl _)⟩
        · exact h.elim
      | _ => exact h.elim
    | cons p2 t2 => cases p <;> exact h.elim
theorem dAny_noex : ∀ x c fs, dAny x ≠ .ex c fs := fun x c fs h => by
  unfold dAny at h
  split at h
  · split at h <;> cases h
  · cases h
theorem crd_min2 (hc : X.calm = true) : CallR X (.builtin "min") (rDA X.K X.M dMin2) := by
  refine crd_of fun pins s σ H G xs ds us Q I r sg p h => ?_
  unfold dMin2 at h
  split at h
  · rename_i i j
    cases p with
    | cons p t => cases t with
      | cons p2 t2 => cases t2; cases p; cases p2; exact call_min2 hc pins s σ H _ us Q I r ⟨i, j, rfl, h _ H G (.refl sg) (.int _)⟩
  · exact h.elim
theorem dMin2_noex : ∀ x c fs, dMin2 x ≠ .ex c fs := fun x c fs h => by
  unfold dMin2 at h
  split at h <;> cases h
theorem crd_max2 (hc : X.calm = true) : CallR X (.builtin "max") (rDA X.K X.M dMax2) := by
  refine crd_of fun pins s σ H G xs ds us Q I r sg p h => ?_
  unfold dMax2 at h
  split at h
  · rename_i i j
    cases p with
    | cons p t => cases t with
      | cons p2 t2 => cases t2; cases p; cases p2; exact call_max2 hc pins s σ H _ us Q I r ⟨i, j, rfl, h _ H G (.refl sg) (.int _)⟩
  · exact h.elim
theorem dMax2_noex : ∀ x c fs, dMax2 x ≠ .ex c fs := fun x c fs h => by
  unfold dMax2 at h
  split at h <;> cases h

/-! ### isinstance with built-in classes -/
inductive Ty where
  | int | str | bool | list | tuple | dict
def Ty.nm : Ty → String
  | .int => "int" | .str => "str" | .bool => "bool" | .list => "list" | .tuple => "tuple" | .dict => "dict"
def isB : Ty → D → Bool
  | .int, .int _ => true
  | .int, .bl _ => true
  | .str, .str _ => true
  | .bool, .bl _ => true
  | .list, .lst _ => true
  | .tuple, .tup _ => true
  | .dict, .dct _ => true
  | _, _ => false
def isObjD : D → Bool
  | .obj _ _ => true
  | .exn _ _ _ _ => true
  | .dct _ => true
  | _ => false
def dIs (T : Ty) (d : D) : R RV := if isObjD d then .stuck else okd (.bl (isB T d))
def tyS : D → String
  | .non => "NoneType" | .bl _ => "bool" | .int _ => "int" | .str _ => "str" | .lst _ => "list" | .tup _ => "tuple" | .dct _ => "dict" | .obj _ _ => "" | .exn _ _ _ _ => ""
theorem kitB_tab (T : Ty) (d : D) (h : isObjD d = false) : kitB (tyS d) T.nm = some (isB T d) := by
  cases d <;> first
    | (cases h; done)
    | (cases T <;> (simp only [tyS, Ty.nm, isB]; decide +kernel))
theorem tyx_of {K : PySem.W.Frag} {mg : Mg} {H G : Hp} {v : V} {d : D} (s : Same G H) (p : Dp K mg G v d) (h : isObjD d = false) : TyX K H v (.type (tyS d)) := by
  cases p with
  | non => exact .base .non
  | bl b => exact .base (.bl b)
  | int i => exact .base (.int i)
  | str x _ => exact .base (.str x)
  | lst r a =>
    rcases same_rd s r with r | ⟨o, r⟩
    · exact .base (.lst r)
    · exact .base (.frz r)
  | tup r a =>
    rcases same_t s r with (r | ⟨o, r⟩) | ⟨o, its, n, hk, hc, _⟩
    · exact .base (.tup r)
    · exact .fTuple r
    · exact .kTuple hk hc
  | dk r a => cases h
  | dt r a => cases h
  | obj a b c => cases h
  | exn a b c => cases h
theorem ed_isi (T : Ty) {x : Str} {e : Expr} {f : DE → R RV} {p p2 pos : Pos} (he : Ed X H0 W e f) (hm0 : X.mg "isinstance" = none) (hmx : X.mg x = none) (hv : bootBuiltins x = some (.type T.nm)) (hg0 : Gl X "isinstance" := by rfl) (hgx : Gl X x := by rfl) (hn : x ≠ "__name__" := by decide) (hd : (x == ("__debug__" : Str)) = false := by decide)
    (he1 : starEach (e :: [.Name x p2]) X.env = (false, eval e X.env) :: starEach [.Name x p2] X.env := by rfl) (hpl : (backTo pos (starEach [.Name x p2] X.env)).any (·.1) = false := by rfl) :
    Ed X H0 W (.Call (.Name "isinstance" p) [e, .Name x p2] [] pos) (fUn (dIs T) f) := by
  have hc : PE X (.Name x p2) (tC (.ty T.nm)) := pe_bltn hgx hmx hv rfl hn hd
  refine PE.imp (pe_callB call_isi hg0 hm0 (by decide +kernel) (pa_cons he (pa_cons hc pa_nil) he1) (he := he1) (hpl := hpl)) fun σ H Q h => ?_
  obtain ⟨G, δ, s, sl, h⟩ := h
  refine ⟨G, δ, s, sl, post_bind (f := dIs T) h fun v d H1 G1 g1 p1 h1 => ?_⟩
  unfold dIs at h1
  by_cases ho : isObjD d = true
  · rw [if_pos ho] at h1; exact h1.elim
  · rw [if_neg ho] at h1
    have ho' : isObjD d = false := by simpa using ho
    exact ⟨v, .ty T.nm, .type (tyS d), .type T.nm, _, rfl, .ty _, tyx_of g1.gh p1 ho', kit_ty (kitB_tab T d ho'), h1 _ H1 G1 (.refl g1.gh) (.bl _)⟩
/-- .. with two of them -/
def dIs2 (T U : Ty) (d : D) : R RV := if isObjD d then .stuck else okd (.bl (isB T d || isB U d))
theorem ed_isi2 (T U : Ty) {x y : Str} {e : Expr} {f : DE → R RV} {k} {p p2 p3 pt pos : Pos} (he : Ed X H0 W e f) (hm0 : X.mg "isinstance" = none) (hmx : X.mg x = none) (hv : bootBuiltins x = some (.type T.nm)) (hmy : X.mg y = none) (hvy : bootBuiltins y = some (.type U.nm)) (hg0 : Gl X "isinstance" := by rfl)
    (hgx : Gl X x := by rfl) (hn : x ≠ "__name__" := by decide) (hd : (x == ("__debug__" : Str)) = false := by decide) (hgy : Gl X y := by rfl) (hny : y ≠ "__name__" := by decide) (hdy : (y == ("__debug__" : Str)) = false := by decide)
    (he1 : starEach (e :: [.Tuple [.Name x p2, .Name y p3] k pt]) X.env = (false, eval e X.env) :: starEach [.Tuple [.Name x p2, .Name y p3] k pt] X.env := by rfl) (hpl : (backTo pos (starEach [.Tuple [.Name x p2, .Name y p3] k pt] X.env)).any (·.1) = false := by rfl) :
    Ed X H0 W (.Call (.Name "isinstance" p) [e, .Tuple [.Name x p2, .Name y p3] k pt] [] pos) (fUn (dIs2 T U) f) := by
  have hc : PE X (.Name x p2) (tC (.ty T.nm)) := pe_bltn hgx hmx hv rfl hn hd
  have hc2 : PE X (.Name y p3) (tC (.ty U.nm)) := pe_bltn hgy hmy hvy rfl hny hdy
  refine PE.imp (pe_callB call_isiT hg0 hm0 (by decide +kernel) (pa_cons he (pa_cons (pe_tup (pa_cons hc (pa_cons hc2 pa_nil))) pa_nil) he1) (he := he1) (hpl := hpl)) fun σ H Q h => ?_
  obtain ⟨G, δ, s, sl, h⟩ := h
  refine ⟨G, δ, s, sl, post_bind (f := dIs2 T U) h fun v d H1 G1 g1 p1 h1 => ?_⟩
  unfold dIs2 at h1
  by_cases ho : isObjD d = true
  · rw [if_pos ho] at h1; exact h1.elim
  · rw [if_neg ho] at h1
    have ho' : isObjD d = false := by simpa using ho
    refine ⟨by show 2 ≤ sizeLine; rw [sizeLine_eq]; decide, fun q hq => ?_⟩
    refine ⟨v, q, [.ty T.nm, .ty U.nm], .type (tyS d), [.type T.nm, .type U.nm], _, rfl, upd_same, .cons (.ty _) (.cons (.ty _) .nil), tyx_of (g1.gh.trans (upd_same_of hq)) p1 ho', ?_, h1 _ (upd H1 q _) _ (.mut g1.gh hq) (.bl _)⟩
    refine kitAny_cons (kit_ty (kitB_tab T d ho')) (fun z => kitAny_cons (kit_ty (kitB_tab U d ho')) (fun z2 => ?_) fun z2 => ?_) fun z => ?_
    · rw [z, z2]; rfl
    · rw [z, z2]; rfl
    · rw [z]; rfl
theorem dIs_noex {T : Ty} : ∀ x c fs, dIs T x ≠ .ex c fs := fun x c fs h => by
  unfold dIs at h
  split at h <;> cases h

/-! ### join -/
def dJoin : D → D → R RV
  | .str a, .lst ds => (match strsOf ds with | some ys => if (ys.map (·.length)).sum + ys.length * a.length ≤ SZ then okd (.str (Txt.join a ys)) else .stuck | none => .stuck)
  | .str a, .tup ds => (match strsOf ds with | some ys => if (ys.map (·.length)).sum + ys.length * a.length ≤ SZ then okd (.str (Txt.join a ys)) else .stuck | none => .stuck)
  | _, _ => .stuck
end
end DL


set_option maxRecDepth 100000
set_option maxHeartbeats 4000000
namespace DL
open PySem PySem.Spec PyProof.Rows L2

/-! ### own things, seen as frozen for a while -/
mutual
/-- no lists within (q.1: no dicts either; q.2: no objects either) -/
def safeD (q : Bool × Bool) : D → Bool
  | .lst _ => false
  | .tup xs => safeDs q xs
  | .dct kvs => !q.1 && safeKs q kvs
  | .obj _ fs => !q.2 && safeFs q fs
  | .exn _ _ _ _ => false
  | .non => true
  | .bl _ => true
  | .int _ => true
  | .str _ => true
def safeDs (q : Bool × Bool) : List D → Bool
  | [] => true
  | x :: xs => safeD q x && safeDs q xs
def safeKs (q : Bool × Bool) : List (D × D) → Bool
  | [] => true
  | (_, x) :: xs => safeD q x && safeKs q xs
def safeFs (q : Bool × Bool) : List (Str × D) → Bool
  | [] => true
  | (_, x) :: xs => safeD q x && safeFs q xs
end
mutual
/-- an own dict within, an own object within -/
def hasD : RV → Bool
  | .fr _ => false
  | .ol _ => false
  | .od _ _ => true
  | .oo _ _ fs => hasDF fs
  | .ot rs => hasDL rs
def hasDF : List (Str × RV) → Bool
  | [] => false
  | (_, r) :: t => hasD r || hasDF t
def hasDL : List RV → Bool
  | [] => false
  | r :: t => hasD r || hasDL t
end
mutual
def hasO : RV → Bool
  | .fr _ => false
  | .ol _ => false
  | .od _ _ => false
  | .oo _ _ _ => true
  | .ot rs => hasOL rs
def hasOL : List RV → Bool
  | [] => false
  | r :: t => hasO r || hasOL t
end
/-- G' holds what G holds but for lists (and, q, dicts and objects) -/
structure Cut (q : Bool × Bool) (G G' : Hp) : Prop where
  rest : ∀ a o, G a = some o → (∀ xs, o ≠ .lst xs) → (q.1 = true → ∀ xs, o ≠ .dK xs) → (q.1 = true → ∀ P w a xs, o ≠ DTO P w a xs) → (q.2 = true → ∀ C dx fs, o ≠ .ins C dx fs) → G' a = some o
mutual
theorem Dp.cut {K : PySem.W.Frag} {mg : Mg} {G G' : Hp} {q : Bool × Bool} (c : Cut q G G') : ∀ {d : D} {v : V}, safeD q d = true → Dp K mg G v d → Dp K mg G' v d
  | .non, _, _, .non => .non
  | .bl b, _, _, .bl _ => .bl b
  | .int i, _, _, .int _ => .int i
  | .str x, _, _, .str _ h => .str x h
  | .lst _, _, h, _ => by simp [safeD] at h
  | .tup xs, _, h, .tup r a => by
    refine .tup ?_ (DpAll.cut c (by simpa [safeD] using h) a)
    rcases r with (r | ⟨o, r⟩) | r
    · exact .inl (.inl (c.rest _ _ r (fun _ z => nomatch z) (fun _ _ z => nomatch z) (fun _ _ _ _ _ z => nomatch z) (fun _ _ _ _ z => nomatch z)))
    · exact .inl (.inr ⟨o, c.rest _ _ r (fun _ z => nomatch z) (fun _ _ z => nomatch z) (fun _ _ _ _ _ z => nomatch z) (fun _ _ _ _ z => nomatch z)⟩)
    · exact .inr r
  | .dct ks, _, h, .dk r a => by
    simp only [safeD, Bool.and_eq_true, Bool.not_eq_true'] at h
    exact .dk (c.rest _ _ r (fun _ z => nomatch z) (fun z => by rw [h.1] at z; cases z) (fun _ _ _ _ _ z => nomatch z) (fun _ _ _ _ z => nomatch z)) (DpK.cut c h.2 a)
  | .dct ks, _, h, .dt r a => by
    simp only [safeD, Bool.and_eq_true, Bool.not_eq_true'] at h
    exact .dt (c.rest _ _ r (fun _ z => nomatch z) (fun _ _ z => nomatch z) (fun z => by rw [h.1] at z; cases z) (fun _ _ _ _ z => nomatch z)) (DpT.cut c h.2 a)
  | .obj n fs, _, h, .obj e r a => by
    simp only [safeD, Bool.and_eq_true, Bool.not_eq_true'] at h
    exact .obj e (c.rest _ _ r (fun _ z => nomatch z) (fun _ _ z => nomatch z) (fun _ _ _ _ _ z => nomatch z) (fun z => by rw [h.1] at z; cases z)) (DpF.cut c h.2 a)
  | .exn _ _ _ _, _, h, _ => by simp [safeD] at h
theorem DpAll.cut {K : PySem.W.Frag} {mg : Mg} {G G' : Hp} {q : Bool × Bool} (c : Cut q G G') : ∀ {ds : List D} {vs : List V}, safeDs q ds = true → DpAll K mg G vs ds → DpAll K mg G' vs ds
  | [], _, _, .nil => .nil
  | _ :: _, _, h, .cons p t => by
    simp only [safeDs, Bool.and_eq_true] at h
    exact .cons (Dp.cut c h.1 p) (DpAll.cut c h.2 t)
theorem DpK.cut {K : PySem.W.Frag} {mg : Mg} {G G' : Hp} {q : Bool × Bool} (c : Cut q G G') : ∀ {ds : List (D × D)} {vs : List (Key × V)}, safeKs q ds = true → DpK K mg G vs ds → DpK K mg G' vs ds
  | [], _, _, .nil => .nil
  | _ :: _, _, h, .cons k p t => by
    simp only [safeKs, Bool.and_eq_true] at h
    exact .cons k (Dp.cut c h.1 p) (DpK.cut c h.2 t)
theorem DpT.cut {K : PySem.W.Frag} {mg : Mg} {G G' : Hp} {q : Bool × Bool} (c : Cut q G G') : ∀ {ds : List (D × D)} {vs : List (List Key × Addr × V)}, safeKs q ds = true → DpT K mg G vs ds → DpT K mg G' vs ds
  | [], _, _, .nil => .nil
  | _ :: _, _, h, .cons r k p t => by
    simp only [safeKs, Bool.and_eq_true] at h
    refine .cons ?_ k (Dp.cut c h.1 p) (DpT.cut c h.2 t)
    rcases r with (r | ⟨o, r⟩) | r
    · exact .inl (.inl (c.rest _ _ r (fun _ z => nomatch z) (fun _ _ z => nomatch z) (fun _ _ _ _ _ z => nomatch z) (fun _ _ _ _ z => nomatch z)))
    · exact .inl (.inr ⟨o, c.rest _ _ r (fun _ z => nomatch z) (fun _ _ z => nomatch z) (fun _ _ _ _ _ z => nomatch z) (fun _ _ _ _ z => nomatch z)⟩)
    · exact .inr r
theorem DpF.cut {K : PySem.W.Frag} {mg : Mg} {G G' : Hp} {q : Bool × Bool} (c : Cut q G G') : ∀ {ds : List (Str × D)} {vs : List (Str × V)}, safeFs q ds = true → DpF K mg G vs ds → DpF K mg G' vs ds
  | [], _, _, .nil => .nil
  | _ :: _, _, h, .cons p t => by
    simp only [safeFs, Bool.and_eq_true] at h
    exact .cons (Dp.cut c h.1 p) (DpF.cut c h.2 t)
end
def frzAll (δ : DE) : DE := δ.map fun s => s.map fun r => .fr r.d
def hasDict (δ : DE) : Bool × Bool := (δ.any fun s => match s with
  | some r => hasD r
  | none => false, δ.any fun s => match s with
  | some r => hasO r
  | none => false)
def fView (f : DE → R RV) (δ : DE) : R RV := match f (frzAll δ) with
  | .ok (.fr d) => if safeD (hasDict δ) d then .ok (.fr d) else .stuck
  | .ok (.ol ds) => if safeDs (hasDict δ) ds then .ok (.ol ds) else .stuck
  | _ => .stuck
section
variable {X : Cx} {H0 G0 : Hp} {W : WX}
/-- an address that a slot owns -/
def OwnAt (K : PySem.W.Frag) (mg : Mg) (H0 H G : Hp) (σ : L2.St) (δ : DE) (a : Addr) : Prop := ∃ (i : Nat) (r : RV) (v : V) (as : List Addr), δ[i]? = some (some r) ∧ σ[i]? = some (some v) ∧ RVq K mg H0 H G v r as ∧ a ∈ as
open Classical in
noncomputable def viewG (K : PySem.W.Frag) (mg : Mg) (H0 : Hp) (σ : L2.St) (δ : DE) (H G : Hp) : Hp := fun b => if OwnAt K mg H0 H G σ δ b then H b else G b
mutual
/-- what kinds of things are owned -/
theorem RVq.kin {K : PySem.W.Frag} {mg : Mg} {H G : Hp} : ∀ {v : V} {r : RV} {as : List Addr}, RVq K mg H0 H G v r as → ∀ a ∈ as, ∃ u, H a = some u ∧ ((∃ xs, u = .lst xs) ∨ (hasD r = true ∧ ((∃ xs, u = .dK xs) ∨ ∃ P w a xs, u = DTO P w a xs)) ∨ (hasO r = true ∧ ∃ C dx fs, u = .ins C dx fs))
  | _, _, _, .fr _, a, ha => nomatch ha
  | _, _, _, .ol h1 _ _ _, a, ha => by rw [List.mem_singleton.mp ha]; exact ⟨_, h1, .inl ⟨_, rfl⟩⟩
  | _, _, _, .od h1 _ _ _, a, ha => by rw [List.mem_singleton.mp ha]; exact ⟨_, h1, .inr (.inl ⟨rfl, .inl ⟨_, rfl⟩⟩)⟩
  | _, _, _, .ot h1 _ _ _, a, ha => by rw [List.mem_singleton.mp ha]; exact ⟨_, h1, .inr (.inl ⟨rfl, .inr ⟨_, _, _, _, rfl⟩⟩)⟩
  | _, _, _, .oo _ h1 _ _ h4 _, a, ha => by
    rcases List.mem_cons.mp ha with e | ha
    · rw [e]; exact ⟨_, h1, .inr (.inr ⟨rfl, _, _, _, rfl⟩)⟩
    · obtain ⟨u, hu, h⟩ := RVqF.kin h4 a ha
      refine ⟨u, hu, ?_⟩
      rcases h with h | h | h
      · exact .inl h
      · exact .inr (.inl ⟨by simp only [hasD]; exact h.1, h.2⟩)
      · exact .inr (.inr ⟨rfl, h⟩)
  | _, _, _, .tr h1 _ _ h4 _, a, ha => by
    rcases List.mem_cons.mp ha with e | ha
    · rw [e]; exact ⟨_, h1, .inl ⟨_, rfl⟩⟩
    · obtain ⟨u, hu, h⟩ := RVqL.kin h4 a ha
      refine ⟨u, hu, ?_⟩
      simp only [hasD, hasO]
      exact h
theorem RVqF.kin {K : PySem.W.Frag} {mg : Mg} {H G : Hp} : ∀ {v : List (Str × V)} {r : List (Str × RV)} {as : List Addr}, RVqF K mg H0 H G v r as → ∀ a ∈ as, ∃ u, H a = some u ∧ ((∃ xs, u = .lst xs) ∨ (hasDF r = true ∧ ((∃ xs, u = .dK xs) ∨ ∃ P w a xs, u = DTO P w a xs)) ∨ ∃ C dx fs, u = .ins C dx fs)
  | _, _, _, .nil, a, ha => nomatch ha
  | _, _, _, .cons h t _, a, ha => by
    rcases List.mem_append.mp ha with ha | ha
    · obtain ⟨u, hu, h⟩ := RVq.kin h a ha
      refine ⟨u, hu, ?_⟩
      rcases h with h | h | h
      · exact .inl h
      · exact .inr (.inl ⟨by simp only [hasDF, h.1, Bool.true_or], h.2⟩)
      · exact .inr (.inr h.2)
    · obtain ⟨u, hu, h⟩ := RVqF.kin t a ha
      refine ⟨u, hu, ?_⟩
      rcases h with h | h | h
      · exact .inl h
      · exact .inr (.inl ⟨by simp only [hasDF, h.1, Bool.or_true], h.2⟩)
      · exact .inr (.inr h)
theorem RVqL.kin {K : PySem.W.Frag} {mg : Mg} {H G : Hp} : ∀ {v : List V} {r : List RV} {as : List Addr}, RVqL K mg H0 H G v r as → ∀ a ∈ as, ∃ u, H a = some u ∧ ((∃ xs, u = .lst xs) ∨ (hasDL r = true ∧ ((∃ xs, u = .dK xs) ∨ ∃ P w a xs, u = DTO P w a xs)) ∨ (hasOL r = true ∧ ∃ C dx fs, u = .ins C dx fs))
  | _, _, _, .nil, a, ha => nomatch ha
  | _, _, _, .cons h t _, a, ha => by
    rcases List.mem_append.mp ha with ha | ha
    · obtain ⟨u, hu, h⟩ := RVq.kin h a ha
      refine ⟨u, hu, ?_⟩
      rcases h with h | h | h
      · exact .inl h
      · exact .inr (.inl ⟨by simp only [hasDL, h.1, Bool.true_or], h.2⟩)
      · exact .inr (.inr ⟨by simp only [hasOL, h.1, Bool.true_or], h.2⟩)
    · obtain ⟨u, hu, h⟩ := RVqL.kin t a ha
      refine ⟨u, hu, ?_⟩
      rcases h with h | h | h
      · exact .inl h
      · exact .inr (.inl ⟨by simp only [hasDL, h.1, Bool.or_true], h.2⟩)
      · exact .inr (.inr ⟨by simp only [hasOL, h.1, Bool.or_true], h.2⟩)
end
theorem own_at {K : PySem.W.Frag} {mg : Mg} {H G : Hp} {σ : L2.St} {δ : DE} (sl : Sl K mg H0 H G σ δ) {a : Addr} (o : OwnAt K mg H0 H G σ δ a) : G a = none ∧ H0 a = none ∧ ∃ u, H a = some u ∧ ((∃ xs, u = .lst xs) ∨ ((hasDict δ).1 = true ∧ ((∃ xs, u = .dK xs) ∨ ∃ P w a xs, u = DTO P w a xs)) ∨ ((hasDict δ).2 = true ∧ ∃ C dx fs, u = .ins C dx fs)) := by
  obtain ⟨i, r, v, as, e, es, q, m⟩ := o
  obtain ⟨_, h2, h3⟩ := q.ow a m
  obtain ⟨u, hu, hk⟩ := q.kin a m
  refine ⟨h2, h3, u, hu, ?_⟩
  have me := List.mem_of_getElem? e
  rcases hk with h | h | h
  · exact .inl h
  · exact .inr (.inl ⟨List.any_eq_true.mpr ⟨_, me, h.1⟩, h.2⟩)
  · exact .inr (.inr ⟨List.any_eq_true.mpr ⟨_, me, h.1⟩, h.2⟩)
theorem view_gg {K : PySem.W.Frag} {mg : Mg} {H G : Hp} {σ : L2.St} {δ : DE} (sl : Sl K mg H0 H G σ δ) : Same G (viewG K mg H0 σ δ H G) := fun b o e => by
  unfold viewG
  split
  · rename_i ob
    rw [(own_at sl ob).1] at e; cases e
  · exact e
theorem view_gh {K : PySem.W.Frag} {mg : Mg} {H G : Hp} {σ : L2.St} {δ : DE} (s : Same G H) : Same (viewG K mg H0 σ δ H G) H := fun b o e => by
  unfold viewG at e
  split at e
  · exact e
  · exact s _ _ e
theorem view_sl {K : PySem.W.Frag} {mg : Mg} {H G : Hp} {σ : L2.St} {δ : DE} (sl : Sl K mg H0 H G σ δ) : Sl K mg H0 H (viewG K mg H0 σ δ H G) σ (frzAll δ) := by
  have fr : ∀ (i : Nat) r, (frzAll δ)[i]? = some (some r) → ∃ r0, δ[i]? = some (some r0) ∧ r = .fr r0.d := fun i r e => by
    unfold frzAll at e
    rw [List.getElem?_map] at e
    cases h : δ[i]? with
    | none => rw [h] at e; cases e
    | some s =>
      rw [h] at e
      cases s with
      | none => cases e
      | some r0 => cases e; exact ⟨r0, rfl, rfl⟩
  refine ⟨by unfold frzAll; rw [List.length_map]; exact sl.len, fun i r e => ?_, fun i j r r' v v' as as' a e _ _ _ q _ m _ => ?_⟩
  · obtain ⟨r0, e0, rfl⟩ := fr i r e
    obtain ⟨v, ev, p⟩ := sl.at_ i r0 e0
    refine ⟨v, ev, ?_⟩
    obtain ⟨as, q⟩ := p.q
    exact q.dp (view_gg sl) fun b hb => if_pos ⟨i, r0, v, as, e0, ev, q, hb⟩
  · obtain ⟨r0, _, rfl⟩ := fr i r e
    rw [own_nil q rfl] at m
    cases m
open Classical in
theorem view_back {K : PySem.W.Frag} {mg : Mg} {H G H' G2 : Hp} {σ : L2.St} {δ : DE} (s : Same G H) (sl : Sl K mg H0 H G σ δ) (g : Gr H (viewG K mg H0 σ δ H G) H' G2) :
    ∃ G', Gr H G H' G' ∧ Cut (hasDict δ) G2 G' ∧ (∀ b, G2 b = none → G' b = none) := by
  have ownH : ∀ b, OwnAt K mg H0 H G σ δ b → H b ≠ none := fun b o => by
    obtain ⟨_, _, u, hu, _⟩ := own_at sl o
    rw [hu]; exact fun z => nomatch z
  refine ⟨fun b => if OwnAt K mg H0 H G σ δ b then none else G2 b, ⟨g.hh, fun b o e => ?_, fun b o e => ?_, fun b hb => ?_⟩, ⟨fun a o e h1 h2 h3 h4 => ?_⟩, fun b e => ?_⟩
  · have nb : ¬ OwnAt K mg H0 H G σ δ b := fun z => by rw [(own_at sl z).1] at e; cases e
    simp only [if_neg nb]
    refine g.gg _ _ ?_
    unfold viewG
    rw [if_neg nb]
    exact e
  · by_cases ob : OwnAt K mg H0 H G σ δ b
    · simp only [if_pos ob] at e; cases e
    · simp only [if_neg ob] at e
      exact g.gh _ _ e
  · by_cases ob : OwnAt K mg H0 H G σ δ b
    · simp only [if_pos ob]
      exact (own_at sl ob).1.symm
    · simp only [if_neg ob]
      rw [g.old b hb]
      unfold viewG
      rw [if_neg ob]
  · by_cases ob : OwnAt K mg H0 H G σ δ a
    · exfalso
      have e2 : G2 a = H a := by
        rw [g.old a (ownH a ob)]
        unfold viewG
        rw [if_pos ob]
      rw [e] at e2
      obtain ⟨_, _, u, hu, hk⟩ := own_at sl ob
      rw [hu] at e2
      cases e2
      rcases hk with ⟨xs, rfl⟩ | ⟨hd, ⟨xs, rfl⟩ | ⟨P, w, a', xs, rfl⟩⟩ | ⟨hd, C, dx, fs, rfl⟩
      · exact h1 xs rfl
      · exact h2 hd xs rfl
      · exact h3 hd P w a' xs rfl
      · exact h4 hd C dx fs rfl
    · simp only [if_neg ob]
      exact e
  · by_cases ob : OwnAt K mg H0 H G σ δ b
    · simp only [if_pos ob]
    · simp only [if_neg ob]; exact e
theorem ed_view {e : Expr} {f : DE → R RV} (he : Ed X H0 W e f) : Ed X H0 W e (fView f) := by
  refine PE.imp he fun σ H Q h => ?_
  obtain ⟨G, δ, s, sl, h⟩ := h
  refine ⟨viewG X.K X.M H0 σ δ H G, frzAll δ, view_gh s, view_sl sl, ?_⟩
  unfold fView at h
  cases hf : f (frzAll δ) with
  | ok r =>
    rw [hf] at h
    intro v H1 G1 g1 p1
    obtain ⟨G', g', c, nn⟩ := view_back s sl g1
    cases r with
    | fr d =>
      simp only at h
      by_cases hs : safeD (hasDict δ) d = true
      · rw [if_pos hs] at h
        exact h v H1 G' g' (Dp.cut c hs p1)
      · rw [if_neg hs] at h; exact h.elim
    | ol ds =>
      simp only at h
      by_cases hs : safeDs (hasDict δ) ds = true
      · rw [if_pos hs] at h
        obtain ⟨a, xs, rfl, h1, h2, h3, h4⟩ := p1
        exact h _ H1 G' g' ⟨a, xs, rfl, h1, nn _ h2, h3, DpAll.cut c hs h4⟩
      · rw [if_neg hs] at h; exact h.elim
    | _ => exact h.elim
  | ex c fs => rw [hf] at h; exact h.elim
  | stuck => rw [hf] at h; exact h.elim
/-- .. as a test -/
def bView (f : DE → R Bool) (δ : DE) : R Bool := match f (frzAll δ) with
  | .ok b => .ok b
  | _ => .stuck
theorem td_view {e : Expr} {f : DE → R Bool} (he : Td X H0 W e f) : Td X H0 W e (bView f) := by
  refine PT.imp he fun σ H Q h => ?_
  obtain ⟨G, δ, s, sl, h⟩ := h
  refine ⟨viewG X.K X.M H0 σ δ H G, frzAll δ, view_gh s, view_sl sl, ?_⟩
  unfold bView at h
  cases hf : f (frzAll δ) with
  | ok r =>
    rw [hf] at h
    intro H1 G1 g1
    obtain ⟨G', g', c, nn⟩ := view_back s sl g1
    exact h H1 G' g'
  | ex c fs => rw [hf] at h; exact h.elim
  | stuck => rw [hf] at h; exact h.elim

/-! ### join -/
theorem join_ok {a : Str} (ha : a.cps.all (· < 0x110000) = true) : ∀ {ys : List Str}, (∀ y ∈ ys, y.cps.all (· < 0x110000) = true) → (Str.join a ys).cps.all (· < 0x110000) = true
  | [], _ => by show (Str.mk #[]).cps.all _ = true; simp
  | [x], h => h x List.mem_cons_self
  | x :: y :: r, h => str_app (str_app (h x List.mem_cons_self) ha) (join_ok ha fun z hz => h z (List.mem_cons_of_mem _ hz))
def dJn (a : Str) (ds : List D) : R RV := match strsOf ds with
  | some ys => if (ys.map (·.length)).sum + ys.length * a.length ≤ SZ then okd (.str (Str.join a ys)) else .stuck
  | none => .stuck
def dJoin2 : D → D → R RV
  | .str a, .lst ds => dJn a ds
  | .str a, .tup ds => dJn a ds
  | _, _ => .stuck
theorem sz_le2 {n : Nat} (h : n ≤ SZ) : n ≤ 16777216 := Nat.le_trans h (by decide)
def isStrD : D → Bool
  | .str _ => true
  | _ => false
/-- a method with one argument: the receiver is looked at first -/
def fM1 (chk : D → Bool) (g : D → D → R RV) (fo fe : DE → R RV) (δ : DE) : R RV := fo δ >>= fun x => if chk x.d = true then fe δ >>= fun y => g x.d y.d else .stuck
theorem m1_core {K : PySem.W.Frag} {mg : Mg} {chk : D → Bool} {g : D → D → R RV} {fo fe : DE → R RV} {σ : L2.St} {H : Hp} {Q : VK} {r : V → V → Hp → VK → Prop} {C : V → Hp → Prop} (h : tE K mg H0 W (fM1 chk g fo fe) σ H Q)
    (hC : ∀ v d H1 G1, Same G1 H1 → Dp K mg G1 v d → chk d = true → C v H1)
    (hr : ∀ v u d e H1 G1, Same G1 H1 → Dp K mg G1 v d → Dp K mg G1 u e → chk d = true → post K mg H1 G1 (fun c d H' => W c d σ H') Q (g d e) → r v u H1 Q) :
    tE K mg H0 W fo σ H fun x H1 => C x H1 ∧ tE K mg H0 W fe σ H1 fun y H2 => r x y H2 Q := by
  obtain ⟨G, δ, s, sl, h⟩ := h
  refine ⟨G, δ, s, sl, post_bind (f := fun d => if chk d = true then fe δ >>= fun y => g d y.d else .stuck) h fun v d H1 G1 g1 p1 h1 => ?_⟩
  by_cases c : chk d = true
  · rw [if_pos c] at h1
    refine ⟨hC v d H1 G1 g1.gh p1 c, G1, δ, g1.gh, sl.mono g1, post_bind (f := fun y => g d y) h1 fun u e H2 G2 g2 p2 h2 => ?_⟩
    exact hr v u d e H2 G2 g2.gh (p1.mono g2.gg) p2 c h2
  · rw [if_neg c] at h1; exact h1.elim
theorem str_of_chk {K : PySem.W.Frag} {mg : Mg} {G : Hp} {v : V} {d : D} (p : Dp K mg G v d) (c : isStrD d = true) : ∃ a, v = .str a ∧ d = .str a ∧ a.cps.all (· < 0x110000) = true := by
  cases p <;> first | (cases c; done) | exact ⟨_, rfl, rfl, by assumption⟩
theorem ed_join {o e : Expr} {fo fe : DE → R RV} {apos pos : Pos} (ho : Ed X H0 W o fo) (he : Ed X H0 W e fe) (hs : starEach [e] X.env = [(false, eval e X.env)] := by rfl) (hbase : attributeBase o "join" X.env (eval o X.env) = eval o X.env := by rfl) (hline : (apos.endLine == pos.line) = true := by rfl) :
    Ed X H0 W (.Call (.Attribute o "join" apos) [e] [] pos) (fM1 isStrD dJoin2 fo fe) := by
  refine PE.imp (pe_join ho he hs hbase hline) fun σ H Q h => ?_
  refine m1_core (C := fun x _ => ∃ a, x = .str a) (r := fun x y H Q => (fun x xs H Q => ∃ a p, ∃ ys : List Str, x = .str a ∧ xs = [.ref p] ∧ (SqL X.K H p (ys.map V.str) ∨ SqT X.K H p (ys.map V.str)) ∧
      (ys.map (·.length)).sum + ys.length * a.length ≤ 16777216 ∧ Q (.str (Txt.join a ys)) H) x [y] H Q) h (fun v d H1 G1 s p c => ?_) fun v u d e H1 G1 s p q c h2 => ?_
  · obtain ⟨a, e1, _⟩ := str_of_chk p c
    exact ⟨a, e1⟩
  · obtain ⟨a, rfl, rfl, ha⟩ := str_of_chk p c
    cases q with
    | lst r q =>
      simp only [dJoin2, dJn] at h2
      split at h2
      · rename_i ys ey
        obtain ⟨e1, e2⟩ := dp_strs q ey
        subst e1
        by_cases c : (ys.map (·.length)).sum + ys.length * a.length ≤ SZ
        · rw [if_pos c] at h2
          exact ⟨a, _, ys, rfl, rfl, .inl (.inl (same_rd s r)), sz_le2 c, by rw [TL.join_eq]; exact h2 _ H1 G1 (.refl s) (.str _ (join_ok ha e2))⟩
        · rw [if_neg c] at h2; exact h2.elim
      · exact h2.elim
    | tup r q =>
      simp only [dJoin2, dJn] at h2
      split at h2
      · rename_i ys ey
        obtain ⟨e1, e2⟩ := dp_strs q ey
        subst e1
        by_cases c : (ys.map (·.length)).sum + ys.length * a.length ≤ SZ
        · rw [if_pos c] at h2
          exact ⟨a, _, ys, rfl, rfl, .inr (same_t s r), sz_le2 c, by rw [TL.join_eq]; exact h2 _ H1 G1 (.refl s) (.str _ (join_ok ha e2))⟩
        · rw [if_neg c] at h2; exact h2.elim
      · exact h2.elim
    | _ => exact h2.elim

/-! ### an own list is changed -/
/-- x.m(..) with x an own list in slot i -/
def sOwn (i : Nat) (g : List D → List D → Option (List D)) (f : DE → R (List D)) (δ : DE) : SR := match δ[i]? with
  | some (some (.ol ds)) => lift (f δ) δ fun args => (match g ds args with | some es => .nx (δ.set i (some (.ol es))) | none => .stuck)
  | _ => .stuck
theorem lift_coreA {K : PySem.W.Frag} {mg : Mg} {H G : Hp} {D0 : Ends} {σ : L2.St} {δ : DE} {f : DE → R (List D)} {k : List D → SR} {Q : List V → Hp → Prop} (g : Gr H0 G0 H G) (sl : Sl K mg H0 H G σ δ) (h : postS K mg H0 G0 W G D0 (lift (f δ) δ k))
    (hk : ∀ ds vs H1 G1, Gr H G H1 G1 → Gr H0 G0 H1 G1 → Sl K mg H0 H1 G1 σ δ → DpAll K mg G1 vs ds → postS K mg H0 G0 W G1 D0 (k ds) → Q vs H1) : tA K mg H0 W f σ H Q := by
  refine ⟨G, δ, g.gh, sl, ?_⟩
  cases e : f δ with
  | ok r =>
    rw [e, lift_ok] at h
    intro vs H1 G1 g1 p1
    exact hk r vs H1 G1 g1 (g.trans g1) (sl.mono g1) p1 (h.mono g1.gg)
  | ex c fs =>
    rw [e] at h
    intro cls d H1 G1 g1 x
    exact h cls d σ H1 G1 (g.trans g1) g1.gg (sl.mono g1) x
  | stuck => rw [e] at h; exact h
/-- the list in the slot is replaced -/
theorem own_upd {K : PySem.W.Frag} {mg : Mg} {H G : Hp} {D0 : Ends} {σ : L2.St} {δ : DE} {i : Nat} {a : Addr} {ds es : List D} {ys : List V} (g : Gr H0 G0 H G) (sl : Sl K mg H0 H G σ δ) (e : δ[i]? = some (some (.ol ds))) (es_ : σ[i]? = some (some (.ref a)))
    (p : DpAll K mg G ys es) (h : postS K mg H0 G0 W G D0 (.nx (δ.set i (some (.ol es))))) : D0.nx σ (upd H a (.lst ys)) := by
  obtain ⟨v, e2, b, xs, eb, h1, h2, h3, h4⟩ := sl.at_ i _ e
  rw [es_] at e2
  cases e2
  cases eb
  exact h σ _ G (g.upd h2 h3) (Same.refl _) (sl.upd e es_ (.ol h1 h2 h3 h4) (.ol upd_same h2 h3 p))
def gAppend (ds args : List D) : Option (List D) := match args with
  | [d] => if ds.length < SZ then some (ds ++ [d]) else none
  | _ => none
theorem own_core {K : PySem.W.Frag} {mg : Mg} {H G : Hp} {D0 : Ends} {σ : L2.St} {δ : DE} {i : Nat} {f : DE → R (List D)} {gf : List D → List D → Option (List D)} {r : V → List V → Hp → VK → Prop} {T : String}
    (g : Gr H0 G0 H G) (sl : Sl K mg H0 H G σ δ) (h : postS K mg H0 G0 W G D0 (sOwn i gf f δ)) (hT : T = "list")
    (hr : ∀ a xs ds vs args es H1 G1, H1 a = some (.lst xs) → DpAll K mg G1 xs ds → DpAll K mg G1 vs args → Same G1 H1 → gf ds args = some es → (∀ ys, DpAll K mg G1 ys es → D0.nx σ (upd H1 a (.lst ys))) → r (.ref a) vs H1 (fun _ H2 => D0.nx σ H2)) :
    tBM K T r (tVar i) (tA K mg H0 W f) σ H fun _ H1 => D0.nx σ H1 := by
  subst hT
  unfold sOwn at h
  split at h
  · rename_i ds e1
    obtain ⟨v, es_, a, xs, rfl, h1, h2, h3, h4⟩ := sl.at_ i _ e1
    refine ⟨_, es_, .inl ⟨rfl, xs, .inl (.inl h1)⟩, ?_⟩
    refine lift_coreA g sl h fun args vs H1 G1 g1 g2 sl1 pa hk => ?_
    cases eg : gf ds args with
    | none => rw [eg] at hk; exact hk.elim
    | some es =>
      rw [eg] at hk
      obtain ⟨v', e', b, xs', eb, k1, k2, k3, k4⟩ := sl1.at_ i _ e1
      rw [es_] at e'
      cases e'
      cases eb
      exact hr a xs' ds vs args es H1 G1 k1 k4 pa g2.gh eg fun ys py => own_upd g2 sl1 e1 es_ py hk
  · exact h.elim
theorem sd_append (i : Nat) {x : Str} {e : Expr} {fe : DE → R RV} {xp apos cpos pos : Pos} (he : Ed X H0 W e fe) (hN : X.N[i]? = some x := by rfl) (hv : Vis X.env.scope x := by first | exact Or.inl rfl | exact Or.inr (Or.inl rfl) | exact Or.inr (Or.inr rfl))
    (hd : (x == ("__debug__" : Str)) = false := by decide) (hcd : (x == ("__classdict__" : Str)) = false := by decide) (hs1 : starEach (e :: []) X.env = (false, eval e X.env) :: starEach [] X.env := by rfl) (hline : (apos.endLine == cpos.line) = true := by rfl)
    (hs : swapsWith (.Call (.Attribute (.Name x xp) "append" apos) [e] [] cpos) none pos.line X.env = pure false := by rfl)
    (hfew : ((backTo cpos (starEach (e :: []) X.env)).all (fun x => !x.1) && (backToKw cpos (keywordEach [] X.env)).all (fun x => x.1.isSome)
      && decide ((e :: []).length + ([] : List Keyword).length + (if ([] : List Keyword).isEmpty then 0 else 1) < 30)) = true := by rfl) :
    Sd X H0 G0 W (.Expr (.Call (.Attribute (.Name x xp) "append" apos) [e] [] cpos) pos) (sOwn i gAppend (aCons fe aNil)) := by
  refine PS.imp (ps_expr (pe_bm PySem.F.plainAttrs_list PySem.F.slot_list_append PySem.F.type_list_append mt_append (pe_var hN hv hd hcd) (ad_cons he ad_nil hs1) (hs := hs1) (hline := hline) (hfew := hfew)) hs) fun Dn σ H h => ?_
  obtain ⟨G, δ, g, sl, h⟩ := h
  refine own_core g sl h rfl fun a xs ds vs args es H1 G1 hH px pa sg eg k => ?_
  unfold gAppend at eg
  split at eg
  · rename_i d
    split at eg
    · rename_i hz
      cases eg
      cases pa with
      | cons p t =>
        cases t
        exact ⟨a, xs, _, rfl, rfl, hH, by rw [px.len]; exact sz_lt (Nat.le_of_lt hz), k _ (px.append (.cons p .nil))⟩
    · cases eg
  · cases eg
def gInsert (ds args : List D) : Option (List D) := match args with
  | [.int i, d] => if ds.length < SZ ∧ 0 ≤ i ∧ i < 2 ^ 63 then some (ds.take i.toNat ++ [d] ++ ds.drop i.toNat) else none
  | _ => none
theorem sd_insert (i : Nat) {x : Str} {e e2 : Expr} {fe fe2 : DE → R RV} {xp apos cpos pos : Pos} (he : Ed X H0 W e fe) (he2 : Ed X H0 W e2 fe2) (hN : X.N[i]? = some x := by rfl) (hv : Vis X.env.scope x := by first | exact Or.inl rfl | exact Or.inr (Or.inl rfl) | exact Or.inr (Or.inr rfl))
    (hd : (x == ("__debug__" : Str)) = false := by decide) (hcd : (x == ("__classdict__" : Str)) = false := by decide) (hs1 : starEach (e :: [e2]) X.env = (false, eval e X.env) :: starEach [e2] X.env := by rfl) (hs2 : starEach (e2 :: []) X.env = (false, eval e2 X.env) :: starEach [] X.env := by rfl) (hline : (apos.endLine == cpos.line) = true := by rfl)
    (hs : swapsWith (.Call (.Attribute (.Name x xp) "insert" apos) [e, e2] [] cpos) none pos.line X.env = pure false := by rfl)
    (hfew : ((backTo cpos (starEach (e :: [e2]) X.env)).all (fun x => !x.1) && (backToKw cpos (keywordEach [] X.env)).all (fun x => x.1.isSome)
      && decide ((e :: [e2]).length + ([] : List Keyword).length + (if ([] : List Keyword).isEmpty then 0 else 1) < 30)) = true := by rfl)
    (hplain : (backTo cpos (starEach [e2] X.env)).any (·.1) = false := by rfl) :
    Sd X H0 G0 W (.Expr (.Call (.Attribute (.Name x xp) "insert" apos) [e, e2] [] cpos) pos) (sOwn i gInsert (aCons fe (aCons fe2 aNil))) := by
  refine PS.imp (ps_expr (pe_bm PySem.F.plainAttrs_list PySem.F.slot_list_insert PySem.F.type_list_insert mt_insert (pe_var hN hv hd hcd) (ad_cons he (ad_cons he2 ad_nil hs2) hs1) (hs := hs1) (hline := hline) (hfew := hfew) (hplain := hplain)) hs) fun Dn σ H h => ?_
  obtain ⟨G, δ, g, sl, h⟩ := h
  refine own_core g sl h rfl fun a xs ds vs args es H1 G1 hH px pa sg eg k => ?_
  unfold gInsert at eg
  split at eg
  · rename_i n d
    split at eg
    · rename_i hz
      cases eg
      cases pa with
      | cons p t =>
        cases t with
        | cons p2 t2 =>
          cases t2
          cases p
          exact ⟨a, xs, _, _, rfl, rfl, hH, by rw [px.len]; exact sz_lt (Nat.le_of_lt hz.1), hz.2.1, hz.2.2, k _ (((px.take _).append (.cons p2 .nil)).append (px.drop _))⟩
    · cases eg
  · cases eg

/-! ### comprehensions -/
def compL (bd : D → DE → Option DE) (ft : DE → R Bool) (fe : DE → R RV) (δ : DE) : List D → R (List D)
  | [] => .ok []
  | d :: ds => match bd d δ with
    | none => .stuck
    | some δ1 => match ft δ1 with
      | .ok b => if b = true then (match fe δ1 with
          | .ok r => (match compL bd ft fe δ ds with
            | .ok es => .ok (r.d :: es)
            | _ => .stuck)
          | _ => .stuck) else compL bd ft fe δ ds
      | _ => .stuck
def fLc (fi : DE → R (List D)) (vs : List Nat) (bd : D → DE → Option DE) (ft : DE → R Bool) (fe : DE → R RV) (δ : DE) : R RV := fi δ >>= fun ds => match compL bd ft fe (fgtS vs δ) ds with
  | .ok es => if es.length ≤ SZ then .ok (.ol es) else .stuck
  | _ => .stuck
def bYes (_ : DE) : R Bool := .ok true
theorem wipe_at {σ : L2.St} {j : Nat} : ∀ (vs : List Nat), (wipe σ vs)[j]? = if j ∈ vs then (if j < σ.length then some none else none) else σ[j]?
  | [] => by simp [wipe]
  | v :: vs => by
    unfold wipe
    by_cases hj : v = j
    · subst hj
      by_cases hl : v < σ.length
      · rw [List.getElem?_set_self (by rw [wipe_length]; exact hl)]
        simp [hl]
      · rw [List.getElem?_eq_none (by rw [List.length_set, wipe_length]; omega)]
        simp [hl]
    · rw [List.getElem?_set_ne hj, wipe_at vs]
      have : j ≠ v := Ne.symm hj
      simp [this]
theorem wipe_set {σ : L2.St} {i : Nat} {x : Option V} {vs : List Nat} (h : i ∈ vs) : wipe (σ.set i x) vs = wipe σ vs := by
  refine List.ext_getElem? fun j => ?_
  rw [wipe_at, wipe_at, List.length_set]
  by_cases hj : j ∈ vs
  · simp [hj]
  · simp only [hj, if_false]
    rw [List.getElem?_set_ne (fun e => hj (by rw [← e]; exact h))]
theorem wipe_wipe {σ : L2.St} {vs : List Nat} : wipe (wipe σ vs) vs = wipe σ vs := by
  refine List.ext_getElem? fun j => ?_
  rw [wipe_at, wipe_length, wipe_at]
  by_cases hj : j ∈ vs
  · simp [hj]
  · simp only [hj, if_false]
theorem fgt_at {δ : DE} {j : Nat} {r : RV} : ∀ {vs : List Nat}, (fgtS vs δ)[j]? = some (some r) → j ∉ vs ∧ δ[j]? = some (some r) := by
  intro vs
  induction vs generalizing δ with
  | nil => exact fun h => ⟨by simp, h⟩
  | cons v vs ih =>
    intro h
    obtain ⟨h1, h2⟩ := ih (δ := δ.set v none) h
    by_cases hj : v = j
    · subst hj
      by_cases hl : v < δ.length
      · rw [List.getElem?_set_self hl] at h2; cases h2
      · rw [List.getElem?_eq_none (by rw [List.length_set]; omega)] at h2; cases h2
    · rw [List.getElem?_set_ne hj] at h2
      exact ⟨by simp only [List.mem_cons, not_or]; exact ⟨Ne.symm hj, h1⟩, h2⟩
theorem fgt_len {δ : DE} : ∀ (vs : List Nat), (fgtS vs δ).length = δ.length := by
  intro vs
  induction vs generalizing δ with
  | nil => rfl
  | cons v vs ih =>
    show (fgtS vs (δ.set v none)).length = δ.length
    rw [ih, List.length_set]
theorem Sl.wiped {K : PySem.W.Frag} {mg : Mg} {H G : Hp} {σ : L2.St} {δ : DE} (sl : Sl K mg H0 H G σ δ) (vs : List Nat) : Sl K mg H0 H G (wipe σ vs) (fgtS vs δ) := by
  have e1 : ∀ (j : Nat) (r : RV), (fgtS vs δ)[j]? = some (some r) → (wipe σ vs)[j]? = σ[j]? := fun j r e => by
    rw [wipe_at, if_neg (fgt_at e).1]
  refine ⟨by rw [wipe_length, fgt_len]; exact sl.len, fun j r e => ?_, fun i j r r' v v' as as' a e e' s s' => ?_⟩
  · rw [e1 j r e]
    exact sl.at_ j r (fgt_at e).2
  · rw [e1 i r e] at s
    rw [e1 j r' e'] at s'
    exact sl.dis i j r r' v v' as as' a (fgt_at e).2 (fgt_at e').2 s s'
/-- a block's target -/
structure BG (K : PySem.W.Frag) (mg : Mg) (g : TG) (bd : D → DE → Option DE) (vs : List Nat) : Prop where
  go : ∀ (H0 H G : Hp) (x : V) (d : D) (σ : L2.St) (δ δ1 : DE) (Q : L2.St → Hp → Prop), Same G H → Sl K mg H0 H G σ δ → Dp K mg G x d → bd d δ = some δ1 → (∀ σ2, Sl K mg H0 H G σ2 δ1 → wipe σ2 vs = wipe σ vs → Q σ2 H) → g x σ H Q
theorem bg_name {K : PySem.W.Frag} {mg : Mg} {i : Nat} {vs : List Nat} (h : i ∈ vs := by decide) : BG K mg (gName i) (gSet i) vs := ⟨fun H0 H G x d σ δ δ1 Q s sl p e k => by
  cases e
  exact k _ (sl.put (r := .fr d) p fun o => nomatch o) (wipe_set h)⟩
theorem gSets_wipe {K : PySem.W.Frag} {mg : Mg} {H G : Hp} {vs0 : List Nat} : ∀ {is : List Nat} {vs : List V} {ds : List D} {σ : L2.St} {δ δ' : DE} {Q : L2.St → Hp → Prop}, (∀ i ∈ is, i ∈ vs0) → Sl K mg H0 H G σ δ → DpAll K mg G vs ds → gSets is ds δ = some δ' →
    (∀ σ', Sl K mg H0 H G σ' δ' → wipe σ' vs0 = wipe σ vs0 → Q σ' H) → gNames is vs σ H Q
  | [], _, _, _, _, _, _, hi, sl, .nil, e, k => by
    simp [gSets] at e
    subst e
    exact ⟨rfl, k _ sl rfl⟩
  | i :: is, _, _, σ, δ, δ', Q, hi, sl, .cons (v := v) (vs := vs) (d := d) p t, e, k => by
    refine ⟨v, vs, rfl, ?_⟩
    exact gSets_wipe (σ := σ.set i (some v)) (fun j hj => hi j (List.mem_cons_of_mem _ hj)) (sl.put (r := .fr d) p fun o => nomatch o) t (by simpa [gSets] using e) fun σ' s' w => k σ' s' (w.trans (wipe_set (hi i List.mem_cons_self)))
  | [], _, _, _, _, _, _, _, _, .cons _ _, e, _ => by simp [gSets] at e
  | _ :: _, _, _, _, _, _, _, _, _, .nil, e, _ => by simp [gSets] at e
theorem bg_tup {K : PySem.W.Frag} {mg : Mg} {is vs : List Nat} (hi : ∀ i ∈ is, i ∈ vs := by decide) : BG K mg (gTup K is.length (gNames is)) (gTupD is) vs := ⟨fun H0 H G x d σ δ δ1 Q s sl p e k => by
  unfold gTupD at e
  cases p with
  | tup q a =>
    rename_i adr xs ds
    by_cases hl : ds.length = is.length
    · simp only [hl, if_true] at e
      exact ⟨_, _, rfl, same_t s q, by rw [a.len, hl], gSets_wipe hi sl a e k⟩
    · simp only [hl, if_false] at e
      cases e
  | _ => cases e⟩
theorem lc_read {K : PySem.W.Frag} {mg : Mg} {fi : DE → R (List D)} {vs : List Nat} {bd : D → DE → Option DE} {ft : DE → R Bool} {fe : DE → R RV} {g : TG} (bg : BG K mg g bd vs) (σ : L2.St) (H : Hp) (Q : VK) (h : tE K mg H0 W (fLc fi vs bd ft fe) σ H Q) :
    tLc (tI K mg H0 W fi) g (tB K mg H0 (fun _ _ _ _ => False) ft) (tE K mg H0 (fun _ _ _ _ => False) fe) vs σ H Q := by
  obtain ⟨G, δ, s, sl, h⟩ := h
  refine ⟨G, δ, s, sl, ?_⟩
  unfold fLc at h
  cases hf : fi δ with
  | ex c fs => rw [hf, bind_ex] at h; exact h
  | stuck => rw [hf, bind_stuck] at h; exact h
  | ok ds =>
    rw [hf, bind_ok] at h
    cases hc : compL bd ft fe (fgtS vs δ) ds with
    | ex c fs => rw [hc] at h; exact h.elim
    | stuck => rw [hc] at h; exact h.elim
    | ok es0 =>
      rw [hc] at h
      simp only at h
      rcases Nat.lt_or_ge SZ es0.length with hz | hz
      · rw [if_neg (by omega)] at h; exact h.elim
      rw [if_pos hz] at h
      intro J H1 G1 g1 it Dn hDn
      refine ⟨fun i m H' => m = ds.length - i ∧ i ≤ ds.length ∧ ∃ G' acc es rs, Gr H G H' G' ∧ Same G1 G' ∧ H' Dn = some (.lst acc) ∧ G' Dn = none ∧ DpAll K mg G' acc es ∧ compL bd ft fe (fgtS vs δ) (ds.drop i) = .ok rs ∧ es ++ rs = es0, ?_, ?_⟩
      · refine ⟨_, rfl, Nat.zero_le _, G1, [], [], es0, g1.trans (.mut g1.gh hDn), Same.refl _, upd_same, ?_, .nil, hc, rfl⟩
        cases e : G1 Dn with
        | none => rfl
        | some o => have := g1.gh _ _ e; rw [hDn] at this; cases this
      · rintro i m H' ⟨rfl, hi, G', acc, es, rs, g', s', hD, hG, pa, hr, he⟩
        obtain ⟨it1, it2⟩ := it G' H' s' g'.gh
        rcases Nat.lt_or_ge i ds.length with hlt | hge
        · right
          obtain ⟨d, ed⟩ : ∃ d, ds[i]? = some d := ⟨ds[i], List.getElem?_eq_getElem hlt⟩
          obtain ⟨go, yl⟩ := it1 i d ed
          have edr : ds.drop i = d :: ds.drop (i + 1) := by
            rw [List.drop_eq_getElem_cons hlt]
            rw [List.getElem?_eq_getElem hlt] at ed
            cases ed
            rfl
          rw [edr] at hr
          unfold compL at hr
          cases eb : bd d (fgtS vs δ) with
          | none => simp only [eb] at hr; cases hr
          | some δ1 =>
            simp only [eb] at hr
            refine ⟨go, fun H2 => ∃ G2 acc2 es2 rs2, Gr H G H2 G2 ∧ Same G1 G2 ∧ H2 Dn = some (.lst acc2) ∧ G2 Dn = none ∧ DpAll K mg G2 acc2 es2 ∧ compL bd ft fe (fgtS vs δ) (ds.drop (i + 1)) = .ok rs2 ∧ es2 ++ rs2 = es0, fun H2 ⟨G2, acc2, es2, rs2, a⟩ => ⟨_, by omega, rfl, hlt, G2, acc2, es2, rs2, a⟩, fun x H2 y => ?_⟩
            obtain ⟨G2, g2, p2⟩ := yl x H2 y
            have k1 : ∀ {Hx Gx : Hp}, Gr H' G' Hx Gx → Hx Dn = some (.lst acc) ∧ Gx Dn = none := fun {Hx Gx} gx => ⟨gx.hh _ _ hD, (gx.old Dn (by rw [hD]; exact fun z => nomatch z)).trans hG⟩
            refine bg.go H0 H2 G2 x d _ _ δ1 _ g2.gh (((sl.mono g').mono g2).wiped vs) p2 eb fun σ2 sl2 w2 => ⟨by rw [w2, wipe_wipe], ?_⟩
            cases et : ft δ1 with
            | ex c fs => simp only [et] at hr; cases hr
            | stuck => simp only [et] at hr; cases hr
            | ok b =>
              simp only [et] at hr
              refine ⟨G2, δ1, g2.gh, sl2, ?_⟩
              rw [et]
              intro H3 G3 g3
              by_cases hb : b = true
              · rw [if_pos hb] at hr ⊢
                cases ee : fe δ1 with
                | ex c fs => simp only [ee] at hr; cases hr
                | stuck => simp only [ee] at hr; cases hr
                | ok r =>
                  simp only [ee] at hr
                  cases er : compL bd ft fe (fgtS vs δ) (ds.drop (i + 1)) with
                  | ex c fs => simp only [er] at hr; cases hr
                  | stuck => simp only [er] at hr; cases hr
                  | ok rs2 =>
                    simp only [er] at hr
                    cases hr
                    refine ⟨G3, δ1, g3.gh, sl2.mono g3, ?_⟩
                    rw [ee]
                    intro v H4 G4 g4 p4
                    obtain ⟨G5, g5, s5, p5, _⟩ := RVp.frz g4 p4
                    have gx : Gr H' G' H4 G5 := g2.trans (g3.trans g5)
                    obtain ⟨q1, q2⟩ := k1 gx
                    refine ⟨acc, q1, ?_, G5, acc ++ [v], es ++ [r.d], rs2, (g'.trans gx).upd q2 (g1.hh.free hDn), s'.trans gx.gg, upd_same, q2, (pa.mono gx.gg).append (.cons p5 .nil), rfl, by rw [List.append_assoc]; exact he⟩
                    rw [pa.len]
                    refine Nat.lt_of_lt_of_le ?_ (sz_le hz)
                    rw [← he, List.length_append, List.length_cons]
                    omega
              · rw [if_neg hb] at hr ⊢
                have gx : Gr H' G' H3 G3 := g2.trans g3
                obtain ⟨q1, q2⟩ := k1 gx
                exact ⟨G3, acc, es, rs, g'.trans gx, s'.trans gx.gg, q1, q2, pa.mono gx.gg, hr, he⟩
        · left
          have e : i = ds.length := by omega
          subst e
          rw [List.drop_length] at hr
          cases hr
          rw [List.append_nil] at he
          subst he
          exact ⟨it2, h _ H' G' g' ⟨Dn, acc, rfl, hD, hG, g1.hh.free hDn, pa⟩⟩
/-- what a block's parts show -/
abbrev Blk (X : Cx) (scope : Scope) (s : Shared) (H : Hp) (C : Addr) (cl : List (Str × Addr)) (fp : List Addr) : Cx := X.blk s H scope (compEnvC scope cl C X.env) fp
def W0 : WX := fun _ _ _ _ => False
theorem ed_lc {elt tg iter : Expr} {ifs : List Expr} {scope : Scope} {own : List (Str × Nat)} {pos : Pos} {fi : DE → R (List D)} {bd : D → DE → Option DE} {ft : DE → R Bool} {fe : DE → R RV} {g : TG} (hc : X.calm = true) (hN : X.N.Nodup) (hi : Id_ X H0 W tg iter fi) (ok : BlkOk X.N X.env.scope scope own) (bg : BG X.K X.M g bd (own.map (·.2)))
    (hg : ∀ (s : Shared) (H : Hp) (C : Addr) (cl : List (Str × Addr)) (fp : List Addr), PG (Blk X scope s H C cl fp) tg g) (ht : ∀ (s : Shared) (H : Hp) (C : Addr) (cl : List (Str × Addr)) (fp : List Addr), PTs (Blk X scope s H C cl fp) ifs (tB X.K X.M H0 W0 ft))
    (he : ∀ (s : Shared) (H : Hp) (C : Addr) (cl : List (Str × Addr)) (fp : List Addr), Ed (Blk X scope s H C cl fp) H0 W0 elt fe) (hs : ∀ x, foldedSetIterable iter X.env x = pure x := by intro _; rfl) :
    Ed X H0 W (.ListComp elt [⟨tg, iter, ifs, 0⟩] scope pos) (fLc fi (own.map (·.2)) bd ft fe) :=
  PE.imp (pe_lc hc hN hi ok hg ht he hs) fun σ H Q h => lc_read bg σ H Q h
theorem sd_setLc (i : Nat) {y : Str} {py : Pos} {elt tg iter : Expr} {ifs : List Expr} {scope : Scope} {own : List (Str × Nat)} {pos spos : Pos} {fi : DE → R (List D)} {bd : D → DE → Option DE} {ft : DE → R Bool} {fe : DE → R RV} {g : TG} (hc : X.calm = true) (hN : X.N.Nodup) (hi : Id_ X H0 W tg iter fi) (ok : BlkOk X.N X.env.scope scope own) (bg : BG X.K X.M g bd (own.map (·.2)))
    (hg : ∀ (s : Shared) (H : Hp) (C : Addr) (cl : List (Str × Addr)) (fp : List Addr), PG (Blk X scope s H C cl fp) tg g) (ht : ∀ (s : Shared) (H : Hp) (C : Addr) (cl : List (Str × Addr)) (fp : List Addr), PTs (Blk X scope s H C cl fp) ifs (tB X.K X.M H0 W0 ft))
    (he : ∀ (s : Shared) (H : Hp) (C : Addr) (cl : List (Str × Addr)) (fp : List Addr), Ed (Blk X scope s H C cl fp) H0 W0 elt fe) (hy : X.N[i]? = some y := by rfl) (hyl : X.env.scope.names.lookup y = some .local := by rfl)
    (hsw : swapsWith (.ListComp elt [⟨tg, iter, ifs, 0⟩] scope pos) (some (.Name y py)) spos.line X.env = pure true := by exact sw_true rfl rfl rfl (by decide +kernel)) (hs : ∀ x, foldedSetIterable iter X.env x = pure x := by intro _; rfl) :
    Sd X H0 G0 W (.Assign [.Name y py] (.ListComp elt [⟨tg, iter, ifs, 0⟩] scope pos) spos) (sSet i (fLc fi (own.map (·.2)) bd ft fe)) := by
  refine PS.imp (ps_setLc (te := tE X.K X.M H0 W0 fe) hc hN hy hyl hsw hi ok hg ht he hs) fun D σ H h => ?_
  obtain ⟨G, δ, gr, sl, h⟩ := h
  refine lc_read bg σ H _ (lift_core gr sl h fun r v H1 G1 e1 g1 g2 sl1 p1 h1 => ?_)
  exact h1 _ H1 G1 g2 (Same.refl _) (Sl.set gr.hh sl g1 p1)
end
end DL


set_option maxRecDepth 100000
set_option maxHeartbeats 4000000
namespace DL
open PySem PySem.Spec PyProof.Rows L2

section
variable {X : Cx} {H0 G0 : Hp} {W : WX}
/-! ### names from a tuple or a list -/
def gTL (K : PySem.W.Frag) (n : Nat) (t : TGs) : TG := fun v σ H Q => gTup K n t v σ H Q ∨ gUnl K n t v σ H Q
theorem pg_tl {es : List Expr} {k : Nat} {pos : Pos} {t : TGs} {n : Nat} (hc : X.calm = true) (h : PGs X es t) (hn : (assignEach es X.env).length = n := by rfl) (hst : (assignEach es X.env).findIdx? (·.1) = none := by rfl) : PG X (.Tuple es k pos) (gTL X.K n t) :=
  ⟨fun pins s σ H v u Q I r hw => hw.elim (fun q => (pg_tup hc h hn hst).run pins s σ H v u Q I r q) fun q => (pg_unl hc h hn hst).run pins s σ H v u Q I r q⟩
def gTLD (is : List Nat) (d : D) (δ : DE) : Option DE := match d with
  | .tup ds => if ds.length = is.length then gSets is ds δ else none
  | .lst ds => if ds.length = is.length then gSets is ds δ else none
  | _ => none
theorem gd_tl {is : List Nat} {es : List Expr} {k : Nat} {pos : Pos} (hc : X.calm = true) (h : PGs X es (gNames is)) (hn : (assignEach es X.env).length = is.length := by rfl) (hst : (assignEach es X.env).findIdx? (·.1) = none := by rfl) : Gd X H0 G0 (.Tuple es k pos) (gTLD is) := by
  refine ⟨fun pins s σ H v u Q I r h' => (pg_tl hc h hn hst).run pins s σ H v u Q I r ?_⟩
  obtain ⟨G, δ, d, g, sl, p, h'⟩ := h'
  unfold gTLD at h'
  cases p with
  | tup q a =>
    rename_i adr xs ds
    by_cases hl : ds.length = is.length
    · simp only [hl, if_true] at h'
      cases e : gSets is ds δ with
      | some δ' =>
        simp only [e] at h'
        exact .inl ⟨_, _, rfl, same_t g.gh q, by rw [a.len, hl], gSets_ok g sl a e fun σ' sl' => h' σ' H G g (Same.refl _) sl'⟩
      | none => simp only [e] at h'
    · simp only [hl, if_false] at h'
  | lst q a =>
    rename_i adr xs ds
    by_cases hl : ds.length = is.length
    · simp only [hl, if_true] at h'
      cases e : gSets is ds δ with
      | some δ' =>
        simp only [e] at h'
        exact .inr ⟨_, _, rfl, .inl (same_rd g.gh q), by rw [a.len, hl], gSets_ok g sl a e fun σ' sl' => h' σ' H G g (Same.refl _) sl'⟩
      | none => simp only [e] at h'
    · simp only [hl, if_false] at h'
  | _ => exact h'.elim
theorem bg_tl {K : PySem.W.Frag} {mg : Mg} {is vs : List Nat} (hi : ∀ i ∈ is, i ∈ vs := by decide) : BG K mg (gTL K is.length (gNames is)) (gTLD is) vs := ⟨fun H0 H G x d σ δ δ1 Q s sl p e k => by
  unfold gTLD at e
  cases p with
  | tup q a =>
    rename_i adr xs ds
    by_cases hl : ds.length = is.length
    · simp only [hl, if_true] at e
      exact .inl ⟨_, _, rfl, same_t s q, by rw [a.len, hl], gSets_wipe hi sl a e k⟩
    · simp only [hl, if_false] at e
      cases e
  | lst q a =>
    rename_i adr xs ds
    by_cases hl : ds.length = is.length
    · simp only [hl, if_true] at e
      exact .inr ⟨_, _, rfl, .inl (same_rd s q), by rw [a.len, hl], gSets_wipe hi sl a e k⟩
    · simp only [hl, if_false] at e
      cases e
  | _ => cases e⟩
/-! ### what is not reached -/
theorem sd_no {st : Stmt} : Sd X H0 G0 W st (fun _ => .stuck) := ⟨fun pins s σ H D I h => by
  obtain ⟨G, δ, g, sl, h⟩ := h
  exact h.elim⟩
theorem bd_no {st : List Stmt} : Bd X H0 G0 W st (fun _ => .stuck) := ⟨fun pins s σ H D I h => by
  obtain ⟨G, δ, g, sl, h⟩ := h
  exact h.elim⟩
/-! ### a call with keywords -/
abbrev Kd (X : Cx) (H0 : Hp) (W : WX) (ks : List Keyword) (f : DE → R (List D)) : Prop := PK X ks (tA X.K X.M H0 W f)
theorem PK.imp {ks : List Keyword} {t t' : TA} (h : PK X ks t) (w : ∀ σ H Q, t' σ H Q → t σ H Q) : PK X ks t' := ⟨fun pos pins s σ H Q I q => h.run pos pins s σ H Q I (w σ H Q q)⟩
theorem acons_core {f : DE → R RV} {fs : DE → R (List D)} {K : PySem.W.Frag} {mg : Mg} (σ : L2.St) (H : Hp) (Q : List V → Hp → Prop) (h : tA K mg H0 W (aCons f fs) σ H Q) : tCons (tE K mg H0 W f) (tA K mg H0 W fs) σ H Q := by
  obtain ⟨G, δ, s, sl, h⟩ := h
  refine ⟨G, δ, s, sl, ?_⟩
  unfold aCons at h
  cases hf : f δ with
  | ok r =>
    rw [hf, bind_ok] at h
    intro v H1 G1 g1 p1
    obtain ⟨G2, g2, _, p2, _⟩ := RVp.frz g1 p1
    refine ⟨G2, δ, g2.gh, sl.mono g2, ?_⟩
    cases hg : fs δ with
    | ok ds =>
      rw [hg, bind_ok] at h
      intro vs H3 G3 g3 p3
      exact h (v :: vs) H3 G3 (g2.trans g3) (.cons (p2.mono g3.gg) p3)
    | ex c fs' =>
      rw [hg, bind_ex] at h
      exact postX.mono g2 h
    | stuck =>
      rw [hg, bind_stuck] at h
      exact h
  | ex c fs' => rw [hf, bind_ex] at h; exact h
  | stuck => rw [hf, bind_stuck] at h; exact h
theorem kd_nil : Kd X H0 W [] aNil := PK.imp pk_nil fun σ H Q h => by
  obtain ⟨G, δ, s, sl, h⟩ := h
  exact h [] H G (.refl s) .nil
theorem kd_cons {e : Expr} {ks : List Keyword} {nm : Option Str} {kpos : Pos} {f : DE → R RV} {fs : DE → R (List D)} (he : Ed X H0 W e f) (hr : Kd X H0 W ks fs) : Kd X H0 W (⟨nm, e, kpos⟩ :: ks) (aCons f fs) :=
  PK.imp (pk_cons he hr) fun σ H Q h => acons_core σ H Q h
theorem dpall_split {K : PySem.W.Frag} {mg : Mg} {G : Hp} {vs : List V} : ∀ {ds es : List D}, DpAll K mg G vs (ds ++ es) → ∃ xs ys, vs = xs ++ ys ∧ DpAll K mg G xs ds ∧ DpAll K mg G ys es
  | [], es, h => ⟨[], vs, rfl, .nil, h⟩
  | d :: ds, es, h => by
    cases h with
    | cons p t =>
      obtain ⟨xs, ys, e, a, b⟩ := dpall_split t
      exact ⟨_ :: xs, ys, by rw [e]; rfl, .cons p a, b⟩
/-- a def of the text, called with n positional arguments and keywords ks -/
structure CalK (P : Program) (w : World) (K : PySem.W.Frag) (mg : Str → Option Value) (base : Heap) (k : Nat) (x : Str) (n : Nat) (ks : List Str) (pm : List D → List D → List D) (g : List D → R RV) : Prop where
  ex : ∃ (f : Addr) (fd : FuncData) (ps : List Str) (gg : List Value → List Value → List Value) (gV : List V → List V → List V), FnOk P w K mg base (L2N.CX P w) k f fd ps (spD K ⟨mg, P, w⟩ g) ∧ mg x = some (.ref f) ∧ PySem.W.keepIn K (.ref f) = true ∧ KBn K fd ps n ks gg gV ∧
    ∀ (G : Hp) (vs zs : List V) (ds es : List D), ds.length = n → es.length = ks.length → DpAll K ⟨mg, P, w⟩ G vs ds → DpAll K ⟨mg, P, w⟩ G zs es → DpAll K ⟨mg, P, w⟩ G (gV vs zs) (pm ds es)
theorem run_fnKS {CX : CXT} {k n : Nat} {f : Addr} {fd : FuncData} {ps ks : List Str} {sp : Sp} {E : L2.St → XK} {g : List Value → List Value → List Value} {gV : List V → List V → List V} {pins : List (Addr × Obj)} {σ : L2.St} {H : Hp} {s : Shared} {Q : VK} {us ws : List Value} {vs zs : List V} (F : FnOk X.prog X.w X.K X.mg X.base CX k f fd ps sp) (hr : Room k X.A) (hb : KBn X.K fd ps n ks g gV) (hx : PassesAt CX X σ (E σ))
    (I : Inv X pins σ H s) (r : Vals vs us) (rz : Vals zs ws) (l1 : vs.length = n) (l2 : zs.length = ks.length) (h : sp (gV vs zs) H Q (E σ)) : wpAny (model X.prog X.w) X.A (call (.ref f) us (ks.zip ws)) (EP X pins σ Q) X.xe s := by
  have r2 := hb.rel r rz
  refine wpAny_call (codeAny_mono (F.run X.A X.stack s H ⟨us, ks.zip ws⟩ (g us ws) (gV vs zs) Q (E σ) hr I.env0 (hb.to s us ws I.kIn (r.length.symm.trans l1) (rz.length.symm.trans l2)) r2 h) fun r s' hq => ?_)
  cases r with
  | error e => exact hx pins H s e s' I hq
  | ok fl =>
    cases fl with
    | ret u => exact I.after hq
    | next => exact False.elim hq
    | brk => exact False.elim hq
    | cont => exact False.elim hq
/-- f(k = v, ..) -/
def fCallK (n m : Nat) (pm : List D → List D → List D) (g : List D → R RV) (fa fk : DE → R (List D)) (δ : DE) : R RV := fa δ >>= fun ds => fk δ >>= fun es => if ds.length = n ∧ es.length = m then g (pm ds es) else .stuck
theorem ed_callK0 {k j : Nat} {A0 : Around} {x : Str} {ks : List Str} {pm : List D → List D → List D} {g : List D → R RV} {fk : DE → R (List D)} {p pos : Pos} {kws : List Keyword} (c : CalK X.prog X.w X.K X.mg X.base k x 0 ks pm g) (hr : Room j A0) (hk : k ≤ j) (tk : L2N.Takes X W) (hkw : Kd X H0 W kws fk) (hA : X.A = A0 := by rfl) (hg : Gl X x := by rfl)
    (hall : (backToKw pos (keywordEach kws X.env)).all (·.1.isSome) = true := by rfl) (hks : (backToKw pos (keywordEach kws X.env)).filterMap (·.1) = ks := by rfl) (hdb : (x == ("__debug__" : Str)) = false := by decide)
    (hpl : ((backTo pos (starEach [] X.env)).any (·.1) || (backToKw pos (keywordEach kws X.env)).any (·.1.isNone)) = false := by rfl) :
    Ed X H0 W (.Call (.Name x p) [] kws pos) (fCallK 0 ks.length pm g aNil fk) := by
  obtain ⟨f, fd, ps, gg, gV, F, hm, kp, b, hp⟩ := c.ex
  subst hA
  refine ⟨fun pins s σ H Q I h => ?_⟩
  refine wpAny_Call_Name_kw (ld_glob I hg hm ?_ hdb)
  refine PySem.W.callWith_KW0 (h₀ := X.base) I.ok.mod.kin kp hall ?_ hpl
  obtain ⟨G, δ, sg, sl, h⟩ := h
  unfold fCallK aNil at h
  rw [bind_ok] at h
  have go : tA X.K X.M H0 W fk σ H (fun zs H2 => zs.length = ks.length ∧ spD X.K X.M g (gV [] zs) H2 Q (WE W σ)) := by
    refine ⟨G, δ, sg, sl, ?_⟩
    cases hf : fk δ with
    | ok es =>
      rw [hf, bind_ok] at h
      intro zs H1 G1 g1 p1
      by_cases hl : ([] : List D).length = 0 ∧ es.length = ks.length
      · rw [if_pos hl] at h
        refine ⟨p1.len.trans hl.2, G1, pm [] es, g1.gh, hp G1 [] zs [] es rfl hl.2 .nil p1, ?_⟩
        cases hg : g (pm [] es) with
        | ok r =>
          rw [hg] at h
          intro v H2 G2 g2 p2
          exact h v H2 G2 (g1.trans g2) (p2.back g1.hh)
        | ex c fs =>
          rw [hg] at h
          exact postX.mono g1 h
        | stuck => rw [hg] at h; exact h
      · rw [if_neg hl] at h; exact h.elim
    | ex c fs' => rw [hf, bind_ex] at h; exact h
    | stuck => rw [hf, bind_stuck] at h; exact h
  refine thn (hkw.run pos pins s σ H _ I go) fun ws s2 ⟨zs, H2, I2, rz, l2, q2⟩ => ⟨I2.kIn, ?_⟩
  rw [hks]
  exact run_fnKS (us := []) (vs := []) (E := fun σ => WE W σ) F (hr.mono hk) b (L2N.passAt tk σ) I2 .nil rz rfl l2 q2
theorem ed_callK {k j n : Nat} {A0 : Around} {x : Str} {ks : List Str} {pm : List D → List D → List D} {g : List D → R RV} {fa fk : DE → R (List D)} {p pos : Pos} {e : Expr} {es : List Expr} {kws : List Keyword} (c : CalK X.prog X.w X.K X.mg X.base k x n ks pm g) (hr : Room j A0) (hk : k ≤ j) (tk : L2N.Takes X W) (ha : Ad X H0 W (e :: es) fa) (hkw : Kd X H0 W kws fk) (hA : X.A = A0 := by rfl) (hg : Gl X x := by rfl)
    (hall : (backToKw pos (keywordEach kws X.env)).all (·.1.isSome) = true := by rfl) (hks : (backToKw pos (keywordEach kws X.env)).filterMap (·.1) = ks := by rfl) (hdb : (x == ("__debug__" : Str)) = false := by decide)
    (he : starEach (e :: es) X.env = (false, eval e X.env) :: starEach es X.env := by rfl)
    (hpl : ((backTo pos (starEach (e :: es) X.env)).any (·.1) || (backToKw pos (keywordEach kws X.env)).any (·.1.isNone)) = false := by rfl) :
    Ed X H0 W (.Call (.Name x p) (e :: es) kws pos) (fCallK n ks.length pm g fa fk) := by
  obtain ⟨f, fd, ps, gg, gV, F, hm, kp, b, hp⟩ := c.ex
  subst hA
  refine ⟨fun pins s σ H Q I h => ?_⟩
  refine wpAny_Call_Name_kw (ld_glob I hg hm ?_ hdb)
  obtain ⟨G, δ, sg, sl, h⟩ := h
  unfold fCallK at h
  have go : tA X.K X.M H0 W fa σ H (fun vs H1 => tA X.K X.M H0 W fk σ H1 (fun zs H2 => vs.length = n ∧ zs.length = ks.length ∧ spD X.K X.M g (gV vs zs) H2 Q (WE W σ))) := by
    refine ⟨G, δ, sg, sl, ?_⟩
    cases hfa : fa δ with
    | ok ds =>
      rw [hfa, bind_ok] at h
      intro vs H1 G1 g1 p1
      refine ⟨G1, δ, g1.gh, sl.mono g1, ?_⟩
      cases hf : fk δ with
      | ok es =>
        rw [hf, bind_ok] at h
        intro zs H2 G2 g2 p2
        by_cases hl : ds.length = n ∧ es.length = ks.length
        · rw [if_pos hl] at h
          refine ⟨p1.len.trans hl.1, p2.len.trans hl.2, G2, pm ds es, g2.gh, hp G2 vs zs ds es hl.1 hl.2 (p1.mono g2.gg) p2, ?_⟩
          have g12 := g1.trans g2
          cases hg : g (pm ds es) with
          | ok r =>
            rw [hg] at h
            intro v H3 G3 g3 p3
            exact h v H3 G3 (g12.trans g3) (p3.back g12.hh)
          | ex c fs =>
            rw [hg] at h
            exact postX.mono g12 h
          | stuck => rw [hg] at h; exact h
        · rw [if_neg hl] at h; exact h.elim
      | ex c fs' => rw [hf, bind_ex] at h; exact postX.mono g1 h
      | stuck => rw [hf, bind_stuck] at h; exact h
    | ex c fs' => rw [hfa, bind_ex] at h; exact h
    | stuck => rw [hfa, bind_stuck] at h; exact h
  refine PySem.W.callWith_KW (h₀ := X.base) I.ok.mod.kin kp hall (thn (ha.run pos pins s σ H _ I go) fun us s1 ⟨vs, H1, I1, r, q⟩ => ?_) hpl he
  refine thn (hkw.run pos pins s1 σ H1 _ I1 q) fun ws s2 ⟨zs, H2, I2, rz, l1, l2, q2⟩ => ⟨I2.kIn, ?_⟩
  rw [hks]
  exact run_fnKS (E := fun σ => WE W σ) F (hr.mono hk) b (L2N.passAt tk σ) I2 r rz l1 l2 q2
end
end DL


set_option maxRecDepth 100000
set_option maxHeartbeats 4000000
namespace DL
open PySem PySem.Spec PyProof.Rows L2

/-! ### an own exception's __init__: self.f = f, .. -/
/-- what __init__ keeps: the fields fl, in this order -/
def spInit (K : PySem.W.Frag) (fl : List Str) : Sp := fun vs H Q _ => ∃ (a C : Addr) (xs : List V), vs = .ref a :: xs ∧ xs.length = fl.length ∧ OexC K C ∧ (∀ f ∈ fl, PySem.W.findIn K (.ref C) f = some none) ∧ H a = some (exo a C none) ∧
  ∀ dx H', H dx = none → dx ≠ a → H' a = some (exo a C (some dx)) → H' dx = some (exd dx (fl.zip xs).reverse) → (∀ b, b ≠ a → b ≠ dx → H' b = H b) → Q .non H'
section
variable {P : Program} {w : World} {K : PySem.W.Frag} {mg : Str → Option Value} {base : Heap} {x qual : Str} {params : Arguments} {body : List Stmt} {sc : Scope} {dvs : List V} {kws : List (Str × V)} {f : Addr} {fd : FuncData} {CX : CXT}
theorem init1 {f1 n1 self : Str} {p1 p2 p3 p4 : Pos} (F : FunD K x qual params body sc dvs kws f fd) (S : FnScope [self, n1] [self, n1] sc) (hb : body = [.Assign [.Attribute (.Name self p1) f1 p2] (.Name n1 p3) p4])
    (k0 : sc.names.lookup self = some .local := by rfl) (k1 : sc.names.lookup n1 = some .local := by rfl) (d0 : (self == ("__debug__" : Str)) = false := by decide) (c0 : (self == ("__classdict__" : Str)) = false := by decide)
    (d1 : (n1 == ("__debug__" : Str)) = false := by decide) (c1 : (n1 == ("__classdict__" : Str)) = false := by decide) : FnOk P w K mg base CX 1 f fd [self, n1] (spInit K [f1]) := by
  subst hb
  refine F.ok S (fun vs H Q E h => ?_) (fun cdv A outer s H vs Q E hr h => ?_)
  · obtain ⟨a, C, xs, rfl, hl, _⟩ := h
    simp [hl]
  · obtain ⟨a, C, xs, rfl, hl, T, hf, ha, q⟩ := h
    obtain ⟨y, rfl⟩ : ∃ y, xs = [y] := by
      match xs, hl with
      | [y], _ => exact ⟨y, rfl⟩
    refine ⟨_, pss_one (ps_ost (pe_var (i := 0) rfl (.inl k0) d0 c0) (pe_var (i := 1) rfl (.inl k1) d1 c1)), ?_⟩
    refine ⟨y, rfl, .ref a, rfl, a, C, rfl, T, hf f1 (by simp), .inl ⟨ha, fun dx hd hne => ?_⟩⟩
    exact q dx _ hd hne upd_same (by rw [upd_ne hne, upd_same]; rfl) fun b h1 h2 => by rw [upd_ne h1, upd_ne h2]
end
section
variable {X : Cx} {H0 G0 : Hp} {W : WX}
theorem mk_endN {pins : List (Addr × Obj)} {σ : L2.St} {H1 H2 : Hp} {Q : XK} {hp hp2 h2 : Heap} {g1 g2 : Array GenState} {d1 d2 : Drawn} {t1 t2 : Nat} {os1 os2 : OsState} {a C d : Addr} {fs : List (Str × V)} (T : Raises X (.ref C)) (I1 : Inv X pins σ H1 ⟨hp, g1, d1, t1, os1⟩)
    (ha : hp.objs.size ≤ a) (k : ∀ b o, hp.get? b = some o → hp2.get? b = some o) (un : Un (frs X.stack) [] (upd H1 a (exo a C none)) H2 hp2 h2) (hok : HOk X.prog X.w H2 h2) (ho : os2 = os1) (hb : AllBare g2)
    (ea : H2 a = some (exo a C (some d))) (ed : H2 d = some (exd d fs)) (hd1 : H1 d = none) (q : Q (.ref C) (some d) (upd (del H2 a) d (.xd fs))) : L2N.MkP X pins σ Q (.ref a) ⟨h2, g2, d2, t2, os2⟩ := by
  obtain ⟨t0, G, J, kG, ge, hoe, na⟩ := mk_end0 (d2 := d2) (t2 := t2) I1 ha k un hok ho hb ea ed hd1
  exact ⟨a, _, _, ⟨G, g2, d2, t2, os2⟩, _, .ref C, some d, rfl, J, kG, ge, hoe, ⟨rfl, rfl, fun vs e => by cases e; rfl⟩, rfl, rfl, na, rfl, hb, T, q⟩
theorem pmk_oexN {CX : CXT} {x : Str} {C fI : Addr} {k : Nat} {fd : FuncData} {ps : List Str} {sp : Sp} {ds : List Value} {dvs : List V} {e : Expr} {es : List Expr} {ta : TA} {p pos : Pos} (T : OexC X.K C) (iC : PySem.W.findIn X.K (.ref C) "__init__" = some (some (.ref fI))) (tI : PySem.W.typeIn X.K (.ref fI) = some (.type "function"))
    (F1 : FnOk X.prog X.w X.K X.mg X.base CX k fI fd ps sp) (hr : Room (k + 1) X.A) (hb : Binds X.K fd ps ds) (hd : Vals dvs ds) (hx : Passes CX X (fun _ _ _ => False)) (hg : Gl X x) (hm : X.mg x = some (.ref C)) (ha : PA X (e :: es) ta)
    (hdb : (x == ("__debug__" : Str)) = false := by decide) (he : starEach (e :: es) X.env = (false, eval e X.env) :: starEach es X.env := by rfl) (hpl : (backTo pos (starEach es X.env)).any (·.1) = false := by rfl) :
    L2N.PMk X (.Call (.Name x p) (e :: es) [] pos) (tMkO C sp dvs ta) := by
  intro pins s σ H Q I h
  obtain ⟨nm, q, N, bs, bm, sn, sub, ab, col, dd, k0, k1, k2, k3, k5, hC, hbm⟩ := T.cls
  refine wpAny_Call_Name_kw (ld_glob I hg hm ?_ hdb)
  refine PySem.W.callWith_K (h₀ := X.base) I.ok.mod.kin T.kC (thn (ha.run pos pins s σ H _ I h) fun us s1 ⟨vs, H1, I1, r1, hz, q1⟩ => ⟨I1.kIn, ?_⟩) he hpl
  show wpAny _ _ (call (.ref C) us) _ _ _
  obtain ⟨hp, g, dr, tk, os⟩ := s1
  have hsz : hp.objs.size ≤ hp.objs.size + 1 := Nat.le_succ _
  have hn : H1 (hp.objs.size + 1) = none := I1.hok.fresh hsz
  have hq := q1 (hp.objs.size + 1) hn
  have kk : ∀ b o, hp.get? b = some o → ((hp.push (PySem.W.kdv_tup us)).push (PySem.HandSPX.excO C hp.objs.size)).get? b = some o := fun b o e => Heap.get?_push_of_some _ (Heap.get?_push_of_some _ e)
  have hget : ((hp.push (PySem.W.kdv_tup us)).push (PySem.HandSPX.excO C hp.objs.size)).get? (hp.objs.size + 1) = some (PySem.HandSPX.excO C hp.objs.size) := by heap_get
  have I2 : Inv X pins σ (upd H1 (hp.objs.size + 1) (exo (hp.objs.size + 1) C none)) ⟨(hp.push (PySem.W.kdv_tup us)).push (PySem.HandSPX.excO C hp.objs.size), g, dr, tk, os⟩ :=
    I1.laid (t' := tk) (a := hp.objs.size + 1) (o := exo (hp.objs.size + 1) C none) (h' := (hp.push (PySem.W.kdv_tup us)).push (PySem.HandSPX.excO C hp.objs.size)) kk hsz (exo_ok hget)
  have r2 : Vals (V.ref (hp.objs.size + 1) :: (vs ++ dvs)) (Value.ref (hp.objs.size + 1) :: (us ++ ds)) := .cons rfl (r1.append hd)
  have hl : (Value.ref (hp.objs.size + 1) :: us ++ ds).length = ps.length := by
    have e := r2.length
    rw [F1.len _ _ _ _ hq] at e
    exact e.symm
  have hus : us.length ≤ sizeLine := by
    rw [← Paired.length r1, sizeLine_eq]
    omega
  refine wpAny_call (PySem.HandSPX.call_own F.excBase_ValueError (fun Y => PySem.HandSPX.refsVE_contains Y bm hbm) (I1.kIn _ _ hC) (PySem.W.looks_findIn I1.kIn iC) (fun self => PySem.W.bind_fn I1.kIn self tI) hus
    (codeAny_mono (F1.run _ X.stack _ _ ⟨Value.ref (hp.objs.size + 1) :: us, []⟩ (Value.ref (hp.objs.size + 1) :: (us ++ ds)) _ _ (fun _ _ _ => False) (hr.make C us []) (I2.env0.make C us []) (hb _ (Value.ref (hp.objs.size + 1) :: us) I2.kIn hl) r2 hq) fun r s' hq' => ?_))
  cases r with
  | error er => exact hx pins σ _ _ er s' I2 hq'
  | ok fl =>
    cases fl with
    | ret u =>
      obtain ⟨v, H2, os2, bare2, un2, hok2, rv, ev, d, fs, ea, ed, hd1, q2⟩ := hq'
      subst ev
      obtain ⟨h2, g2, d2, t2, os'⟩ := s'
      exact ⟨rv, mk_endN (raises_own T.exC T.tyC) I1 hsz kk un2 hok2 os2 bare2 ea ed hd1 q2⟩
    | next => exact False.elim hq'
    | brk => exact False.elim hq'
    | cont => exact False.elim hq'
/-- an own exception class of the text -/
structure ExcD (P : Program) (w : World) (K : PySem.W.Frag) (mg : Str → Option Value) (base : Heap) (c : Str) (fl : List Str) : Prop where
  ex : ∃ (C fI : Addr) (fd : FuncData) (ps : List Str), mg c = some (.ref C) ∧ OexC K C ∧ PySem.W.findIn K (.ref C) "__init__" = some (some (.ref fI)) ∧ PySem.W.typeIn K (.ref fI) = some (.type "function") ∧
    FnOk P w K mg base (L2N.CX P w) 1 fI fd ps (spInit K fl) ∧ Binds K fd ps [] ∧ ∀ f ∈ fl, PySem.W.findIn K (.ref C) f = some none
def sRaise (c : Str) (fl : List Str) (fa : DE → R (List D)) (δ : DE) : SR := lift (fa δ) δ fun ds => if ds.length = fl.length ∧ ds.length ≤ 1000 then .ex c (fl.zip ds).reverse δ else .stuck
theorem dpf_zip {K : PySem.W.Frag} {mg : Mg} {G : Hp} : ∀ {fl : List Str} {vs : List V} {ds : List D}, DpAll K mg G vs ds → DpF K mg G (fl.zip vs) (fl.zip ds)
  | [], _, _, _ => .nil
  | _ :: _, _, _, .nil => .nil
  | _ :: _, _, _, .cons p t => .cons p (dpf_zip t)
theorem dpf_append {K : PySem.W.Frag} {mg : Mg} {G : Hp} : ∀ {xs ys : List (Str × V)} {ds es : List (Str × D)}, DpF K mg G xs ds → DpF K mg G ys es → DpF K mg G (xs ++ ys) (ds ++ es)
  | _, _, _, _, .nil, s => s
  | _, _, _, _, .cons r t, s => .cons r (dpf_append t s)
theorem dpf_rev {K : PySem.W.Frag} {mg : Mg} {G : Hp} : ∀ {xs : List (Str × V)} {ds : List (Str × D)}, DpF K mg G xs ds → DpF K mg G xs.reverse ds.reverse
  | _, _, .nil => .nil
  | _, _, .cons r t => by
    rw [List.reverse_cons, List.reverse_cons]
    exact dpf_append (dpf_rev t) (.cons r .nil)
theorem pass_no : Passes (L2N.CX X.prog X.w) X (fun _ _ _ => False) := fun pins σ H s e s' I c => by
  obtain ⟨a, B, H', cls, d, _, _, _, _, _, _, _, z⟩ := c
  exact z.elim
theorem sd_raise {A0 : Around} {c : Str} {fl : List Str} {e : Expr} {es : List Expr} {fa : DE → R (List D)} {j : Nat} {p pos pos' : Pos} (hc : X.calm = true) (ex : ExcD X.prog X.w X.K X.mg X.base c fl) (hr : Room j A0) (hj : 2 ≤ j) (tk : L2N.Takes X W) (ha : Ad X H0 W (e :: es) fa) (hA : X.A = A0 := by rfl) (hg : Gl X c := by rfl)
    (hdb : (c == ("__debug__" : Str)) = false := by decide) (he : starEach (e :: es) X.env = (false, eval e X.env) :: starEach es X.env := by rfl) (hpl : (backTo pos (starEach es X.env)).any (·.1) = false := by rfl) :
    Sd X H0 G0 W (.Raise (some (.Call (.Name c p) (e :: es) [] pos)) none pos') (sRaise c fl fa) := by
  obtain ⟨C, fI, fd, ps, hm, T, iC, tI, F1, b, hf⟩ := ex.ex
  subst hA
  refine PS.imp (L2N.ps_raise hc tk (pmk_oexN T iC tI F1 (hr.mono hj) b .nil pass_no hg hm ha hdb he hpl)) fun Dn σ H h => ?_
  obtain ⟨G, δ, g, sl, h⟩ := h
  unfold sRaise at h
  refine ⟨G, δ, g.gh, sl, ?_⟩
  cases hfa : fa δ with
  | ok ds =>
    rw [hfa, lift_ok] at h
    by_cases hl : ds.length = fl.length ∧ ds.length ≤ 1000
    · rw [if_pos hl] at h
      intro vs H1 G1 g1 p1
      have g2 := g.trans g1
      refine ⟨by rw [p1.len]; exact hl.2, fun a hna => ⟨a, C, vs, by rw [List.append_nil], by rw [p1.len, hl.1], T, hf, upd_same, fun dx H' hd hne e1 e2 e3 => ?_⟩⟩
      rw [upd_ne hne] at hd
      refine ⟨rfl, dx, _, e1, e2, hd, ?_⟩
      have hG : G1 dx = none := by
        cases z : G1 dx with
        | none => rfl
        | some o => have := g1.gh _ _ z; rw [hd] at this; cases this
      have s1 := upd_same_of (o := .xd (fl.zip vs).reverse) hG
      have eH : upd (del H' a) dx (.xd (fl.zip vs).reverse) = upd H1 dx (.xd (fl.zip vs).reverse) := by
        funext b
        by_cases hb : b = dx
        · rw [hb, upd_same, upd_same]
        · rw [upd_ne hb, upd_ne hb]
          by_cases hba : b = a
          · rw [hba, del_same, hna]
          · rw [del_ne hba, e3 b hba hb, upd_ne hba]
      rw [eH]
      have g3 : Gr H1 G1 (upd H1 dx (.xd (fl.zip vs).reverse)) (upd G1 dx (.xd (fl.zip vs).reverse)) := .new g1.gh hd
      exact h (.ref C) (some dx) σ _ _ (g2.trans g3) (g1.gg.trans g3.gg) ((sl.mono g1).mono g3) ⟨C, dx, _, hm, rfl, rfl, upd_same, dpf_rev (dpf_zip (p1.mono s1))⟩
    · rw [if_neg hl] at h; exact h.elim
  | ex c' fs => 
    rw [hfa] at h
    exact fun cls d H1 G1 g1 x => h cls d σ H1 G1 (g.trans g1) g1.gg (sl.mono g1) x
  | stuck => rw [hfa] at h; exact h

/-! ### try, except C as e -/
def unS (i : Nat) : SR → SR
  | .nx δ => .nx (δ.set i none)
  | .br δ => .br (δ.set i none)
  | .ct δ => .ct (δ.set i none)
  | .rt r => .rt r
  | .ex _ _ _ => .stuck
  | .stuck => .stuck
open Classical in
/-- i: e's slot; Fh tells for each class what the suite does (none: the class is not caught) -/
noncomputable def sTry (i : Nat) (F : DE → SR) (Fh : Str → Option (Addr → Addr → DE → SR)) (δ : DE) : SR := match F δ with
  | .ex c fs δ' => (match Fh c with
    | some g => if ∀ a dd, unS i (g a dd (δ'.set i (some (.fr (.exn a dd c fs))))) = unS i (g 0 0 (δ'.set i (some (.fr (.exn 0 0 c fs))))) then unS i (g 0 0 (δ'.set i (some (.fr (.exn 0 0 c fs))))) else .stuck
    | none => .stuck)
  | r => r
theorem Sl.unset {K : PySem.W.Frag} {mg : Mg} {H G : Hp} {σ : L2.St} {δ : DE} (i : Nat) (sl : Sl K mg H0 H G σ δ) : Sl K mg H0 H G (σ.set i none) (δ.set i none) := by
  have f : ∀ {j : Nat} {r : RV}, (δ.set i none)[j]? = some (some r) → i ≠ j ∧ δ[j]? = some (some r) := fun {j r} e => by
    rcases set_at e with ⟨_, z⟩ | h
    · cases z
    · exact h
  refine ⟨by rw [List.length_set, List.length_set]; exact sl.len, fun j r e => ?_, fun j j' q q' u u' as as' a e1 e2 s1 s2 => ?_⟩
  · obtain ⟨h1, h2⟩ := f e
    rw [List.getElem?_set_ne h1]
    exact sl.at_ j r h2
  · obtain ⟨h1, h2⟩ := f e1
    obtain ⟨k1, k2⟩ := f e2
    rw [List.getElem?_set_ne h1] at s1
    rw [List.getElem?_set_ne k1] at s2
    exact sl.dis j j' q q' u u' as as' a h2 k2 s1 s2
/-- known classes against the clause's one -/
structure Caught (K : PySem.W.Frag) (mg : Str → Option Value) (cv : Value) (Fh : Str → Option (Addr → Addr → DE → SR)) : Prop where
  yes : ∀ c C g, Fh c = some g → mg c = some (.ref C) → PySem.W.exmOne K (.ref C) cv = some true
theorem sd_try {x n : Str} {cv : Value} {i : Nat} {body suite : List Stmt} {b₀ : Stmt} {np pos pos' : Pos} {F : DE → SR} {Fh : Str → Option (Addr → Addr → DE → SR)} (hs : X.stack = X.env :: X.outer) (hf : X.env.frame = some X.env.locals) (hN : X.N.Nodup) (tk : L2N.Takes X W) (hc : Names X x cv) (hcat : Caught X.K X.mg cv Fh)
    (hb : ∀ (W' : WX) (pn : List (Addr × Obj)) (xe : Value → Shared → Prop), L2N.Takes (X.tr pn xe) W' → PassesOwn (model X.prog X.w) X.A X.env xe → Bd (X.tr pn xe) H0 G0 W' body F)
    (hsu : ∀ (c : Str) (g : Addr → Addr → DE → SR) (C a dd : Addr) (oe : Obj) (pn : List (Addr × Obj)), Fh c = some g → X.mg c = some (.ref C) → L2N.Zn (.ref C) (some dd) oe → (∃ vs, oe.data = .fields vs) → Bd (X.suite a ((a, oe) :: pn)) H0 G0 W0 (b₀ :: suite) (g a dd))
    (hi : X.N[i]? = some n := by rfl) (hln : X.env.kindOf n = some .local := by rfl) :
    Sd X H0 G0 W (.Try body [.ExceptHandler (some (.Name x np)) (some n) (b₀ :: suite) pos'] [] [] pos) (sTry i F Fh) := by
  refine PS.imp (L2N.ps_try_as (tb := fun W' => tS X.K X.M H0 G0 W' F) (ts := fun a cls d Dn σ H => ∃ c C dd g, cls = .ref C ∧ d = some dd ∧ X.mg c = some (.ref C) ∧ Fh c = some g ∧ tS X.K X.M H0 G0 W0 (g a dd) Dn σ H) (Wout := W) hs hf hN hi hln hc tk hb ?_) fun Dn σ H h => ?_
  · intro a oe cls d pn hz hfl
    refine ⟨fun pins s σ H Dn I h => ?_⟩
    obtain ⟨c, C, dd, g, rfl, rfl, hm, hg, h⟩ := h
    exact (hsu c g C a dd oe pn hg hm hz hfl).run pins s σ H Dn I h
  · obtain ⟨G, δ, g, sl, h⟩ := h
    refine ⟨G, δ, g, sl, ?_⟩
    unfold sTry at h
    cases e : F δ with
    | nx δ' => rw [e] at h; exact h
    | br δ' => rw [e] at h; exact h
    | ct δ' => rw [e] at h; exact h
    | rt r => rw [e] at h; exact h
    | stuck => rw [e] at h; exact h
    | ex c fs δ' =>
      rw [e] at h
      simp only at h
      cases hg : Fh c with
      | none => rw [hg] at h; exact h.elim
      | some gg =>
        rw [hg] at h
        simp only at h
        by_cases hall : ∀ a dd, unS i (gg a dd (δ'.set i (some (.fr (.exn a dd c fs))))) = unS i (gg 0 0 (δ'.set i (some (.fr (.exn 0 0 c fs)))))
        · rw [if_pos hall] at h
          intro cls d σ' H' G' g' s' sl' xr
          obtain ⟨C, dd, xs, hm, rfl, rfl, hxd, hdf⟩ := xr
          refine ⟨true, hcat.yes c C gg hg hm, fun _ a hna => ?_, fun z => nomatch z⟩
          refine ⟨c, C, dd, gg, rfl, rfl, hm, hg, G', δ'.set i (some (.fr (.exn a dd c fs))), g', sl'.put (r := .fr _) (Dp.exn hm hxd hdf) (fun o => nomatch o), ?_⟩
          have h2 := h
          rw [← hall a dd] at h2
          have ends := h2
          generalize gg a dd (δ'.set i (some (.fr (.exn a dd c fs)))) = y at ends
          cases y with
          | nx δ2 => exact fun σ2 H2 G2 g2 s2 sl2 => ends _ H2 G2 g2 (s'.trans s2) (sl2.unset i)
          | br δ2 => exact fun σ2 H2 G2 g2 s2 sl2 => ends _ H2 G2 g2 (s'.trans s2) (sl2.unset i)
          | ct δ2 => exact fun σ2 H2 G2 g2 s2 sl2 => ends _ H2 G2 g2 (s'.trans s2) (sl2.unset i)
          | rt r => exact ends
          | ex c2 fs2 δ2 => exact ends.elim
          | stuck => exact ends
        · rw [if_neg hall] at h; exact h.elim

/-! ### within the suite -/
/-- e.f -/
def fXf (a dd : Addr) (c n : Str) (f : DE → R RV) (δ : DE) : R RV := f δ >>= fun r => match r.d with
  | .exn a' dd' c' fs => if a' = a ∧ dd' = dd ∧ c' = c then (match fs.lookup n with | some d => .ok (.fr d) | none => .stuck) else .stuck
  | _ => .stuck
theorem dpf_look {K : PySem.W.Frag} {mg : Mg} {G : Hp} {n : Str} {d : D} : ∀ {xs : List (Str × V)} {ds : List (Str × D)}, DpF K mg G xs ds → ds.lookup n = some d → ∃ v, xs.lookup n = some v ∧ Dp K mg G v d
  | _, _, .nil, e => by simp at e
  | _, _, .cons (f := f) (v := v) p t, e => by
    by_cases h : (n == f) = true
    · simp only [List.lookup, h] at e ⊢
      cases e
      exact ⟨v, rfl, p⟩
    · have h' : (n == f) = false := by simpa using h
      simp only [List.lookup, h'] at e ⊢
      exact dpf_look t e
theorem ed_xf {a dd C : Addr} {c n : Str} {oe : Obj} {pn : List (Addr × Obj)} {e : Expr} {f : DE → R RV} {pos : Pos} (hm : X.mg c = some (.ref C)) (T : XfC X.K C) (hno : PySem.W.findIn X.K (.ref C) n = some none) (hz : L2N.Zn (.ref C) (some dd) oe) (hf : ∃ vs, oe.data = .fields vs)
    (he : Ed (X.suite a ((a, oe) :: pn)) H0 W e f) (hb : attributeBase e n X.env (eval e X.env) = eval e X.env := by rfl) : Ed (X.suite a ((a, oe) :: pn)) H0 W (.Attribute e n pos) (fXf a dd c n f) := by
  refine PE.imp (pe_xf T hno hz.zc hf he hb) fun σ H Q h => ?_
  obtain ⟨G, δ, s, sl, h⟩ := h
  refine ⟨G, δ, s, sl, post_bind (f := fun d => match d with
    | .exn a' dd' c' fs => if a' = a ∧ dd' = dd ∧ c' = c then (match fs.lookup n with | some d => .ok (.fr d) | none => .stuck) else .stuck
    | _ => .stuck) h fun v d H1 G1 g1 p1 h1 => ?_⟩
  cases p1 with
  | exn hmc hx hdf =>
    rename_i a' dd' C' xs c' fs
    simp only at h1
    by_cases hall : a' = a ∧ dd' = dd ∧ c' = c
    · rw [if_pos hall] at h1
      obtain ⟨rfl, rfl, rfl⟩ := hall
      cases hl : fs.lookup n with
      | none => rw [hl] at h1; exact h1.elim
      | some d =>
        rw [hl] at h1
        obtain ⟨v, hv, pv⟩ := dpf_look hdf hl
        exact ⟨rfl, rfl, dd', xs, v, rfl, g1.gh _ _ hx, hv, h1 v H1 G1 (.refl g1.gh) pv⟩
    · rw [if_neg hall] at h1; exact h1.elim
  | _ => exact h1.elim
theorem kin_classD {K : PySem.W.Frag} {prog : Program} {w : World} {A : Around} {E : Value → Shared → Prop} {s : Shared} {x Dd : Addr} {ox oo : Obj} {Q : Option Value → Shared → Prop} (T : ExcC K Dd) (XI : K.In s.heap) (I : PySem.W.InstAt s.heap x ox Dd (some oo)) (h : Q (some (.ref Dd)) { s with toks := s.toks + 1 }) : wpAny (model prog w) A (getAttr? (.ref x) "__class__") Q E s := by
  have hf : PySem.W.findObj K Dd (some oo) "__class__" = some (.bind (.builtin "getset_descriptor.__get__") (.builtin "object.__class__")) := PySem.W.findObj_data (by obtain ⟨cd, hc, _⟩ := PySem.W.any_some T.hd; rw [hc]; rfl) T.ha T.hn T.ht
  obtain ⟨hp, g, d, t, os⟩ := s
  have L0 := I.type (M := model prog w)
  have L1 := PySem.W.looks_findIn (M := model prog w) XI T.hg
  have L2 := PySem.W.looks_findIn (M := model prog w) XI T.hk
  have L3 := PySem.W.looks_find (M := model prog w) XI I hf
  have sub : PySem.W.Looks (model prog w) hp (isInstance (.ref x) (.type "BaseException")) true := L0.andThen (PySem.W.looks_subIn XI T.hs)
  have hx0 : (false && onTheHeap (Value.builtin "BaseException.__getattribute__")) = false := rfl
  have hx2 : (Value.builtin "BaseException.__getattribute__" == Value.builtin "object.__getattribute__") = false := by decide +kernel
  have hx1 : (onTheHeap (Value.ref Dd) && Value.builtin "BaseException.__getattribute__" == Value.builtin "object.__getattribute__") = false := by rw [hx2]; rfl
  unfold getAttr? getAttrBy? getAttrBy
  refine wpAny_bind (wpAny_mkText (wpAny_bind (wpAny_attempt (wpAny_holding (wpAny_bind (L0.at (wpAny_bind (L1.at ?_))))))))
  show wpAny _ _ (if (onTheHeap (Value.ref Dd) && Value.builtin "BaseException.__getattribute__" == Value.builtin "object.__getattribute__") = true then _ else _) _ _ _
  rw [hx1, if_neg Bool.false_ne_true]
  unfold getAttrByItsOwn hookBefore
  refine wpAny_bind ?_
  rw [if_pos (show onTheHeap (Value.ref Dd) = true from rfl)]
  refine L2.at ?_
  refine wpAny_bind (wpAny_attempt (wpAny_holding ?_))
  unfold callGetattribute
  rw [hx0, if_neg Bool.false_ne_true]
  unfold boundAndCalled
  rw [PySem.F.excAttr_ValueError.ga.bind (.ref x)]
  refine wpAny_bind (wpAny_pure ?_)
  show wpAny _ _ (call (.builtin "BaseException.__getattribute__") [.ref x, .str "__class__" t]) _ _ _
  refine wpAny_call (codeAny_call_builtin PySem.F.excAttr_ValueError.ga.plain PySem.F.entry_bexc_ga ?_)
  refine @PySem.W.check_slot (model prog w) _ _ ⟨hp, g, d, t + 1, os⟩ "BaseException.__getattribute__" "BaseException" "__getattribute__" (.ref x) [.str "__class__" t] [] _ (by decide +kernel) (by decide +kernel) sub (PySem.F.args_bexc_ga (.ref x) (.str "__class__" t)) ?_
  unfold Builtin.«object.__getattribute__»
  refine wpAny_bind (wpAny_of_eq (a := ((Value.ref x : Value), [Value.str "__class__" t])) (by first | rfl | (simp only [slotArgs]; rfl)) ?_)
  refine wpAny_bind (wpAny_pure (wpAny_bind (L0.at (wpAny_bind (L3.at ?_)))))
  show wpAny _ _ (holding [Value.builtin "object.__class__"] (call (.builtin "getset_descriptor.__get__") [.builtin "object.__class__", .ref x, .ref Dd]) >>= ret) _ _ _
  refine wpAny_bind (wpAny_holding (wpAny_call (PySem.W.class_get (s := ⟨hp, g, d, t + 1, os⟩) (ox := ox) (od := some oo) XI I T.hm ?_)))
  refine wpAny_pure ?_
  show wpAny _ _ (handedOut (.ref Dd)) _ _ _
  rw [PySem.W.handedOut_of (v := .ref Dd) rfl]
  first
    | exact wpAny_pure (wpAny_pure h)
    | exact wpAny_pure h
    | exact wpAny_pure (wpAny_bind (wpAny_pure (wpAny_pure h)))
theorem kitx_d {K : PySem.W.Frag} {x Dd : Addr} {ox : Obj} (T : ExcC K Dd) : PySem.W.KitX K (.ref x) (.ref Dd) (fun h => ∃ oo, PySem.W.InstAt h x ox Dd (some oo)) where
  ty := fun _ _ _ ⟨_, I⟩ => I.type
  it := fun _ _ XI _ => by
    obtain ⟨cdD, hcD, _⟩ := PySem.W.any_some T.hd
    unfold PySem.W.clsIn at hcD
    split at hcD
    · rename_i c' d' cd' sl' ho
      intro A' Q' E' s' k q
      unfold isType loadHead
      exact wpAny_bind (wpAny_loadPart (k _ _ (XI _ _ ho)) (wpAny_pure q))
    · cases hcD
  ne := fun h tp dd its n sl XI htp => by
    obtain ⟨cdD, hcD, _⟩ := PySem.W.any_some T.hd
    refine Bool.eq_false_iff.mpr fun q => ?_
    have e : Dd = tp := Value.ref.inj (beq_iff_eq.mp q)
    subst e
    unfold PySem.W.clsIn at hcD
    split at hcD
    · rename_i c' d' cd' sl' ho
      have z := (XI _ _ ho).symm.trans htp
      cases z
    · cases hcD
  ca := fun XI ⟨_, I⟩ k => kin_classD T XI I k
/-- isinstance(e, c), isinstance(e, (c, ..)) -/
def fIsE (a dd : Addr) (c : Str) (b : Bool) (f : DE → R RV) (δ : DE) : R RV := f δ >>= fun r => match r.d with
  | .exn a' dd' c' _ => if a' = a ∧ dd' = dd ∧ c' = c then .ok (.fr (.bl b)) else .stuck
  | _ => .stuck
theorem inst_of {a dd C : Addr} {oe : Obj} {H : Hp} {s : Shared} {fs : List (Str × V)} {P : Program} {w : World} (hget : s.heap.get? a = some oe) (hz : L2N.Zn (.ref C) (some dd) oe) (hf : ∃ vs, oe.data = .fields vs) (hok : HOk P w H s.heap) (hx : H dd = some (.xd fs)) : ∃ oo, PySem.W.InstAt s.heap a oe C (some oo) := by
  have h2 : ObjOk P w H s.heap dd (.xd fs) := hok dd _ hx
  obtain ⟨mA, hns, hr⟩ := h2
  obtain ⟨od, ho, hl⟩ := lookIn_ns hns
  obtain ⟨vs, hd⟩ := hf
  exact ⟨od, hget, hz.1, by unfold PySem.W.notCls; rw [hd] <;> rfl, by rw [hz.2.1]; exact ho⟩
theorem ed_isE {a dd C : Addr} {c x : Str} {b : Bool} {v : V} {u : Value} {oe : Obj} {pn : List (Addr × Obj)} {e : Expr} {f : DE → R RV} {p p2 pos : Pos} (T : ExcC X.K C) (hz : L2N.Zn (.ref C) (some dd) oe) (hf : ∃ vs, oe.data = .fields vs) (hk : PySem.W.kitOne X.K (.ref C) u = some b) (cv : ClsV v u)
    (he : Ed (X.suite a ((a, oe) :: pn)) H0 W e f) (hx : PE (X.suite a ((a, oe) :: pn)) (.Name x p2) (tC v)) (hm0 : X.mg "isinstance" = none) (hg0 : Gl X "isinstance" := by rfl)
    (he1 : starEach (e :: [.Name x p2]) X.env = (false, eval e X.env) :: starEach [.Name x p2] X.env := by rfl) (hpl : (backTo pos (starEach [.Name x p2] X.env)).any (·.1) = false := by rfl) :
    Ed (X.suite a ((a, oe) :: pn)) H0 W (.Call (.Name "isinstance" p) [e, .Name x p2] [] pos) (fIsE a dd c b f) := by
  have cr : CallR (X.suite a ((a, oe) :: pn)) (.builtin "isinstance") (fun xs H Q => ∃ fs, xs = [.ref a, v] ∧ H dd = some (.xd fs) ∧ Q (.bl b) H) := by
    intro pins s σ H xs us Q I r ⟨fs, ex, hx, q⟩
    subst ex
    obtain ⟨u1, u2, rfl, r1, r2⟩ := vals2 r
    have e2 := cv.eq r2
    subst e2
    cases (show u1 = Value.ref a from r1)
    obtain ⟨hget, _⟩ := I.pin (a, oe) (List.mem_append.mpr (.inl List.mem_cons_self))
    exact PySem.W.kia_one (kitx_d (ox := oe) T) I.kIn (inst_of hget hz hf I.hok hx) hk (fun z => nomatch z) fun tk => ⟨.bl b, H, I.kept (t' := tk) fun _ _ z => z, rfl, q⟩
  refine PE.imp (pe_callB cr hg0 hm0 (by decide +kernel) (pa_cons he (pa_cons hx pa_nil) he1) (he := he1) (hpl := hpl)) fun σ H Q h => ?_
  obtain ⟨G, δ, s, sl, h⟩ := h
  refine ⟨G, δ, s, sl, post_bind (f := fun d => match d with
    | .exn a' dd' c' _ => if a' = a ∧ dd' = dd ∧ c' = c then .ok (.fr (.bl b)) else .stuck
    | _ => .stuck) h fun v' d H1 G1 g1 p1 h1 => ?_⟩
  cases p1 with
  | exn hmc hxd hdf =>
    simp only at h1
    split at h1
    · rename_i hall
      obtain ⟨rfl, rfl, rfl⟩ := hall
      exact ⟨_, rfl, g1.gh _ _ hxd, h1 _ H1 G1 (.refl g1.gh) (.bl _)⟩
    · exact h1.elim
  | _ => exact h1.elim
/-- names of classes, as a tuple -/
structure ClsA (X : Cx) (es : List Expr) (vs : List V) (us : List Value) : Prop where
  ev : PA X es fun _ H Q => Q vs H
  cl : Paired ClsV vs us
theorem cla_nil : ClsA X [] [] [] := ⟨⟨fun p pins s σ H Q I h => pa_nil.run p pins s σ H Q I h⟩, .nil⟩
theorem cla_cons {x : Str} {p : Pos} {es : List Expr} {v : V} {u : Value} {vs : List V} {us : List Value} (hx : PE X (.Name x p) (tC v)) (cv : ClsV v u) (h : ClsA X es vs us) (hs : starEach (.Name x p :: es) X.env = (false, eval (.Name x p) X.env) :: starEach es X.env := by rfl) : ClsA X (.Name x p :: es) (v :: vs) (u :: us) :=
  ⟨⟨fun p pins s σ H Q I q => (pa_cons hx h.ev hs).run p pins s σ H Q I q⟩, .cons cv h.cl⟩
theorem ed_isEs {a dd C : Addr} {c : Str} {b : Bool} {vs : List V} {us : List Value} {es : List Expr} {oe : Obj} {pn : List (Addr × Obj)} {e : Expr} {f : DE → R RV} {k} {p p2 pos : Pos} (T : ExcC X.K C) (hz : L2N.Zn (.ref C) (some dd) oe) (hf : ∃ vs, oe.data = .fields vs) (hk : PySem.W.kitAny X.K (.ref C) us = some b)
    (he : Ed (X.suite a ((a, oe) :: pn)) H0 W e f) (hx : ClsA (X.suite a ((a, oe) :: pn)) es vs us) (hm0 : X.mg "isinstance" = none) (hn : vs.length ≤ 1000) (hg0 : Gl X "isinstance" := by rfl)
    (he1 : starEach (e :: [.Tuple es k p2]) X.env = (false, eval e X.env) :: starEach [.Tuple es k p2] X.env := by rfl) (hpl : (backTo pos (starEach [.Tuple es k p2] X.env)).any (·.1) = false := by rfl) :
    Ed (X.suite a ((a, oe) :: pn)) H0 W (.Call (.Name "isinstance" p) [e, .Tuple es k p2] [] pos) (fIsE a dd c b f) := by
  have cr : CallR (X.suite a ((a, oe) :: pn)) (.builtin "isinstance") (fun xs H Q => ∃ fs tp, xs = [.ref a, .ref tp] ∧ H tp = some (.tup vs) ∧ H dd = some (.xd fs) ∧ Q (.bl b) H) := by
    intro pins s σ H xs us' Q I r ⟨fs, tp, ex, hT, hxd, q⟩
    subst ex
    obtain ⟨u1, u2, rfl, r1, r2⟩ := vals2 r
    cases (show u2 = Value.ref tp from r2)
    cases (show u1 = Value.ref a from r1)
    obtain ⟨hget, _⟩ := I.pin (a, oe) (List.mem_append.mpr (.inl List.mem_cons_self))
    obtain ⟨_, its, rv, o, h1, h2, n, h3⟩ := (show ObjOk X.prog X.w H s.heap tp (.tup vs) from I.hok tp _ hT)
    have e3 := ClsV.all hx.cl rv
    subst e3
    obtain ⟨oc, od, dt, sl⟩ := o
    simp only at h2 h3
    subst h2 h3
    exact PySem.W.kia_tup (kitx_d (ox := oe) T) I.kIn (inst_of hget hz hf I.hok hxd) h1 hk (fun z => nomatch z) fun tk => ⟨.bl b, H, I.kept (t' := tk) fun _ _ z => z, rfl, q⟩
  refine PE.imp (pe_callB cr hg0 hm0 (by decide +kernel) (pa_cons he (pa_cons (pe_tup hx.ev) pa_nil) he1) (he := he1) (hpl := hpl)) fun σ H Q h => ?_
  obtain ⟨G, δ, s, sl, h⟩ := h
  refine ⟨G, δ, s, sl, post_bind (f := fun d => match d with
    | .exn a' dd' c' _ => if a' = a ∧ dd' = dd ∧ c' = c then .ok (.fr (.bl b)) else .stuck
    | _ => .stuck) h fun v' d H1 G1 g1 p1 h1 => ?_⟩
  cases p1 with
  | exn hmc hxd hdf =>
    rename_i _ _ _ xs0 _ _
    simp only at h1
    split at h1
    · rename_i hall
      obtain ⟨rfl, rfl, rfl⟩ := hall
      refine ⟨sz_le (Nat.le_trans hn (by decide)), fun q hq => ⟨xs0, q, rfl, upd_same, ?_, h1 _ (upd H1 q _) _ (.mut g1.gh hq) (.bl _)⟩⟩
      rw [upd_ne (ne_of_none (g1.gh _ _ hxd) hq)]
      exact g1.gh _ _ hxd
    · exact h1.elim
  | _ => exact h1.elim
end
end DL


set_option maxRecDepth 100000
set_option maxHeartbeats 4000000
namespace DL
open PySem PySem.Spec PyProof.Rows L2 L2H

/-! ### defs called within a suite: nothing is let out there -/
def spN (K : PySem.W.Frag) (mg : Mg) (g : List D → R RV) : Sp := fun vs H Q _ => spD K mg g vs H Q (fun _ _ _ => False)
structure CalH (P : Program) (w : World) (K : PySem.W.Frag) (mg : Str → Option Value) (base : Heap) (k : Nat) (x : Str) (g : List D → R RV) : Prop where
  ex : ∃ (f : Addr) (fd : FuncData) (ps : List Str), FnH P w K mg base (L2N.CX P w) k f fd ps (spN K ⟨mg, P, w⟩ g) ∧ mg x = some (.ref f) ∧ PySem.W.keepIn K (.ref f) = true ∧ Binds K fd ps []
theorem FnH.mono {P : Program} {w : World} {K : PySem.W.Frag} {mg : Str → Option Value} {base : Heap} {CX : CXT} {j k : Nat} {f : Addr} {fd : FuncData} {ps : List Str} {sp : Sp} (F : FnH P w K mg base CX k f fd ps sp) (h : k ≤ j) : FnH P w K mg base CX j f fd ps sp :=
  ⟨F.len, fun A outer s H args us vs Q E p r => F.run A outer s H args us vs Q E p (r.mono h)⟩
def fCallH (g : List D → R RV) (fa : DE → R (List D)) (δ : DE) : R RV := fa δ >>= fun ds => match g ds with
  | .ok r => .ok r
  | _ => .stuck
section
variable {X : Cx} {H0 G0 : Hp} {W : WX}
theorem ed_callH {k j : Nat} {x : Str} {g : List D → R RV} {fa : DE → R (List D)} {p pos : Pos} {e : Expr} {es : List Expr} (c : CalH X.prog X.w X.K X.mg X.base k x g) (hc : HotC X) (hr : RoomH j X.A) (hk : k ≤ j) (ha : Ad X H0 W (e :: es) fa) (hg : Gl X x := by rfl)
    (hdb : (x == ("__debug__" : Str)) = false := by decide) (he : starEach (e :: es) X.env = (false, eval e X.env) :: starEach es X.env := by rfl) (hpl : (backTo pos (starEach es X.env)).any (·.1) = false := by rfl) :
    Ed X H0 W (.Call (.Name x p) (e :: es) [] pos) (fCallH g fa) := by
  obtain ⟨f, fd, ps, F, hm, kp, b⟩ := c.ex
  refine PE.imp (pe_callH (E := fun _ _ _ _ => False) F (hr.mono hk) hc hg hm kp b (fun σ pins H s e s' I c => by
    obtain ⟨a, B, H', cls, d, _, _, _, _, _, _, _, z⟩ := c
    exact z.elim) ha hdb he hpl) fun σ H Q h => ?_
  obtain ⟨G, δ, s, sl, h⟩ := h
  refine ⟨G, δ, s, sl, ?_⟩
  unfold fCallH at h
  cases hf : fa δ with
  | ok ds =>
    rw [hf, bind_ok] at h
    intro vs H1 G1 g1 p1
    refine ⟨G1, ds, g1.gh, p1, ?_⟩
    cases hg : g ds with
    | ok r =>
      rw [hg] at h
      intro v H2 G2 g2 p2
      exact h v H2 G2 (g1.trans g2) (p2.back g1.hh)
    | ex c fs => rw [hg] at h; exact h.elim
    | stuck => rw [hg] at h; exact h.elim
  | ex c fs' => rw [hf, bind_ex] at h; exact h
  | stuck => rw [hf, bind_stuck] at h; exact h
theorem hot_suite {a : Addr} {oe : Obj} {pn : List (Addr × Obj)} {cls : Value} {d : Option Addr} (hz : L2N.Zn cls d oe) (hf : ∃ vs, oe.data = .fields vs) : HotC (X.suite a ((a, oe) :: pn)) := by
  obtain ⟨vs, hv⟩ := hf
  exact ⟨(a, oe), ⟨rfl, vs, hv, hz.2.2 vs hv⟩, List.mem_cons_self⟩
theorem room_suite {a : Addr} {pn : List (Addr × Obj)} {j : Nat} (r : Room j X.A) : RoomH j (X.suite a pn).A := ⟨r.dp, r.un⟩
end
/-- a body's promise there -/
abbrev cxHF (P : Program) (w : World) (K : PySem.W.Frag) (mg : Str → Option Value) (base : Heap) (N : List Str) (qual : Str) (sc : Scope) (f : Addr) (cdv : Value) (A : Around) (outer : List Env) (s : Shared) (H : Hp) (E : XK) (p : Addr × Obj) : Cx :=
  cxH (L2N.CX P w) P w K mg base N qual sc f cdv A outer s H E p
abbrev BodyH (P : Program) (w : World) (K : PySem.W.Frag) (mg : Str → Option Value) (base : Heap) (k : Nat) (N : List Str) (qual : Str) (sc : Scope) (body : List Stmt) (F : DE → SR) : Prop :=
  ∀ (f : Addr) (cdv : Value) (A : Around) (outer : List Env) (s : Shared) (H G : Hp) (E : XK) (p : Addr × Obj), RoomH k (cxHF P w K mg base N qual sc f cdv A outer s H E p).A → HotC (cxHF P w K mg base N qual sc f cdv A outer s H E p) →
    PassesOwn (model P w) (cxHF P w K mg base N qual sc f cdv A outer s H E p).A (cxHF P w K mg base N qual sc f cdv A outer s H E p).env (cxHF P w K mg base N qual sc f cdv A outer s H E p).xe →
    Bd (cxHF P w K mg base N qual sc f cdv A outer s H E p) H G (wF fun _ _ _ => False) body F
theorem fn_dH {P : Program} {w : World} {K : PySem.W.Frag} {mg : Str → Option Value} {base : Heap} {x qual : Str} {params : Arguments} {body : List Stmt} {sc : Scope} {dvs : List V} {kws : List (Str × V)} {f : Addr} {fd : FuncData} {N ps : List Str} {k n : Nat} {F : DE → SR} (Fn : FunD K x qual params body sc dvs kws f fd) (S : FnScope N ps sc) (hn : ps.length = n)
    (hbody : BodyH P w K mg base k N qual sc body F) : FnH P w K mg base (L2N.CX P w) (k + 1) f fd ps (spN K ⟨mg, P, w⟩ (runF n N.length F)) := by
  obtain ⟨oc, od, dV, kV, doc, pm, an, cdv, ct, osl, rfl, lk, hcd, _, _⟩ := Fn.ex
  refine fn_ofH lk hcd S (fun vs H Q E h => ?_) (fun A outer s H vs Q E p hot hr h => ?_)
  · obtain ⟨G, ds, s, a, h⟩ := h
    rw [a.len, hn]
    exact runF_len h
  · obtain ⟨G, ds, sg, a, h⟩ := h
    have hl := runF_len h
    subst hl
    exact ⟨_, hbody f cdv A outer s H G E p hr ⟨p, hot, List.mem_cons_self⟩ (passes_of rfl), runF_ends sg a h⟩
/-- keywords alone or behind positional arguments, no defaults -/
theorem kbn_of {K : PySem.W.Frag} {x qual : Str} {params : Arguments} {body : List Stmt} {sc : Scope} {kws : List (Str × V)} {f : Addr} {fd : FuncData} {ps : List Str} (F : FunD K x qual params body sc [] kws f fd) (n : Nat) (ks : List Str) (g : {α : Type} → List α → List α → List α)
    (hrel : ∀ {vs zs : List V} {us ws : List Value}, Vals vs us → Vals zs ws → Vals (g vs zs) (g us ws))
    (h : ∀ (kV doc pm : Value) (an : Option Addr) (cdv ct : Value) (us ws : List Value), us.length = n → ws.length = ks.length → bindArgs (PySem.W.fnOf x qual params body sc .none kV doc pm an cdv ct) ⟨us, ks.zip ws⟩ = pure (ps.zip (g us ws))) : KBn K fd ps n ks g g := by
  obtain ⟨oc, od, dV, kV, doc, pm, an, cdv, ct, osl, rfl, lk, hcd, hD, hK⟩ := F.ex
  rcases hD with ⟨_, rfl⟩ | ⟨e, _⟩
  · exact ⟨fun s us ws _ l1 l2 => .of_eq (h kV doc pm an cdv ct us ws l1 l2), hrel⟩
  · exact absurd rfl e
end DL


set_option maxRecDepth 100000
set_option maxHeartbeats 4000000
namespace DL
open PySem PySem.Spec PyProof.Rows L2 L2H

theorem dAdd_noex : ∀ x y c fs, dAdd x y ≠ .ex c fs := fun x y c fs h => by
  cases x <;> cases y <;> simp only [dAdd] at h <;> first | (split at h <;> cases h) | cases h
theorem dSub_noex : ∀ x y c fs, dSub x y ≠ .ex c fs := fun x y c fs h => by
  cases x <;> cases y <;> simp only [dSub] at h <;> first | (split at h <;> cases h) | cases h
theorem dMul_noex : ∀ x y c fs, dMul x y ≠ .ex c fs := fun x y c fs h => by
  cases x <;> cases y <;> simp only [dMul] at h <;> first | (split at h <;> cases h) | cases h
theorem dDiv_noex : ∀ x y c fs, dDiv x y ≠ .ex c fs := fun x y c fs h => by
  cases x <;> cases y <;> simp only [dDiv] at h <;> first | (split at h <;> cases h) | cases h
theorem dMod_noex : ∀ x y c fs, dMod x y ≠ .ex c fs := fun x y c fs h => by
  cases x <;> cases y <;> simp only [dMod] at h <;> first | (split at h <;> cases h) | cases h
theorem dPow_noex : ∀ x y c fs, dPow x y ≠ .ex c fs := fun x y c fs h => by
  cases x <;> cases y <;> simp only [dPow] at h <;> first | (split at h <;> cases h) | cases h
theorem dLt_noex : ∀ x y c fs, dLt x y ≠ .ex c fs := fun x y c fs h => by
  cases x <;> cases y <;> simp only [dLt] at h <;> first | (split at h <;> cases h) | cases h
theorem dGt_noex : ∀ x y c fs, dGt x y ≠ .ex c fs := fun x y c fs h => by
  cases x <;> cases y <;> simp only [dGt] at h <;> first | (split at h <;> cases h) | cases h
theorem dLe_noex : ∀ x y c fs, dLe x y ≠ .ex c fs := fun x y c fs h => by
  cases x <;> cases y <;> simp only [dLe] at h <;> first | (split at h <;> cases h) | cases h
theorem dGe_noex : ∀ x y c fs, dGe x y ≠ .ex c fs := fun x y c fs h => by
  cases x <;> cases y <;> simp only [dGe] at h <;> first | (split at h <;> cases h) | cases h
theorem dNeg_noex : ∀ x c fs, dNeg x ≠ .ex c fs := fun x c fs h => by
  cases x <;> simp only [dNeg] at h <;> cases h
def dIsNn (neg : Bool) (d e : D) : R RV := match e with | .non => dIsN neg d | _ => .stuck
theorem dIsNn_noex {neg : Bool} : ∀ x y c fs, dIsNn neg x y ≠ .ex c fs := fun x y c fs h => by
  cases x <;> cases y <;> simp only [dIsNn, dIsN] at h <;> cases h
section
variable {X : Cx} {H0 G0 : Hp} {W : WX}
theorem opd_isN' : OpR X (compareOp .Is) (rD X.K X.M (dIsNn false)) := opd_isN
theorem opd_notN' : OpR X (compareOp .IsNot) (rD X.K X.M (dIsNn true)) := opd_notN
theorem takes_no : L2N.Takes X W0 := fun u s' ⟨a, B, sI, pins, σ, H, cls, d, e, I, nb, up, sky, na, os, ag, w⟩ => w.elim
theorem bt_nil : PTs X [] (tB X.K X.M H0 W bYes) := ⟨fun pins s σ H Q I h => pts_nil.run pins s σ H Q I (by
  obtain ⟨G, δ, s, sl, h⟩ := h
  exact h H G (.refl s))⟩
theorem bt_one {c : Expr} {f : DE → R Bool} (h : Td X H0 W c f) : PTs X [c] (tB X.K X.M H0 W f) := pts_one h
end
end DL


set_option maxRecDepth 100000
set_option maxHeartbeats 4000000
namespace DL
open PySem PySem.Spec PyProof.Rows L2 L2H

/-! ### facts of the written part, as Bools -/
def oexB (K : PySem.W.Frag) (C : Addr) : Bool := (match K.lookup C with
  | some ⟨.type "type", _, .cls cd, sl⟩ => (match cd.mro, sl.toList with
    | .ref C' :: bm, [_, _, _, _, some (.builtin n), _] => C' == C && n == "ValueError.__new__" && !cd.hasDel && cd.hasDict && PySem.HandSPX.refsVE bm
    | _, _ => false)
  | _ => false) && (He.eqO (PySem.W.findIn K (.ref C) "__setattr__") (some (some (.builtin "object.__setattr__"))) && (decide (PySem.W.subIn K (.ref C) (.type "BaseException") = some true) && (decide (PySem.W.typeIn K (.ref C) = some (.type "type")) && PySem.W.keepIn K (.ref C))))
theorem oexB_ok {K : PySem.W.Frag} {C : Addr} (q : oexB K C = true) : OexC K C := by
  unfold oexB at q
  obtain ⟨q, q2⟩ := He.ba q
  obtain ⟨h1, q3⟩ := He.ba q2
  obtain ⟨h2, q4⟩ := He.ba q3
  obtain ⟨h3, h4⟩ := He.ba q4
  refine ⟨?_, He.eqO_ok h1, of_decide_eq_true h2, of_decide_eq_true h3, h4⟩
  split at q
  · rename_i dd cd sl ho
    split at q
    · rename_i C' bm k0 k1 k2 k3 n k5 hm hs
      simp only [Bool.and_eq_true, beq_iff_eq, Bool.not_eq_true'] at q
      obtain ⟨⟨⟨⟨rfl, rfl⟩, hdel⟩, hdct⟩, hr⟩ := q
      obtain ⟨nm, bs, mro, ns, qn, hd, sn, sub, ab, col, del⟩ := cd
      dsimp only at hm hdel hdct
      subst hm hdel hdct
      have hsl : sl = #[k0, k1, k2, k3, some (.builtin "ValueError.__new__"), k5] := by
        obtain ⟨l⟩ := sl
        simp only at hs
        rw [hs]
      subst hsl
      exact ⟨nm, qn, ns, bs, bm, sn, sub, ab, col, dd, k0, k1, k2, k3, k5, ho, hr⟩
    · cases q
  · cases q
def ecB (K : PySem.W.Frag) (C : Addr) : Bool := He.eqO (PySem.W.findIn K (.ref C) "__getattribute__") (some (some (.builtin "BaseException.__getattribute__"))) && (He.eqO (PySem.W.findIn K (.ref C) "__getattr__") (some none) && (decide (PySem.W.subIn K (.ref C) (.type "BaseException") = some true) &&
  (PySem.W.hasDictIn K C && (He.eqO (PySem.W.findIn K (.ref C) "__class__") (some (some (.builtin "object.__class__"))) && (He.eqO (PySem.W.specialIn K (.builtin "object.__class__") "__get__") (some (some (.builtin "getset_descriptor.__get__"))) &&
  (decide (PySem.W.takesIn K (.builtin "object.__class__") = some true) && decide (PySem.W.mroIn K C (.type "object") = some true)))))))
theorem ecB_ok {K : PySem.W.Frag} {C : Addr} (q : ecB K C = true) : ExcC K C := by
  obtain ⟨h1, q⟩ := He.ba q
  obtain ⟨h2, q⟩ := He.ba q
  obtain ⟨h3, q⟩ := He.ba q
  obtain ⟨h4, q⟩ := He.ba q
  obtain ⟨h5, q⟩ := He.ba q
  obtain ⟨h6, q⟩ := He.ba q
  obtain ⟨h7, h8⟩ := He.ba q
  exact ⟨He.eqO_ok h1, He.eqO_ok h2, of_decide_eq_true h3, h4, He.eqO_ok h5, He.eqO_ok h6, of_decide_eq_true h7, of_decide_eq_true h8⟩
/-! ### what the text stands on -/
theorem glb_int {K : PySem.W.Frag} {mg : Str → Option Value} {x : Str} {i : Int} (h : ∃ t, mg x = some (.int i t)) : Glb K mg x (.int i) := by
  obtain ⟨t, e⟩ := h
  exact ⟨_, .int i, e, ⟨t, rfl⟩, fun _ _ => .int i⟩
theorem glb_str {K : PySem.W.Frag} {mg : Str → Option Value} {x z : Str} (h : ∃ t, mg x = some (.str z t)) (hz : z.cps.all (· < 0x110000) = true := by decide +kernel) : Glb K mg x (.str z) := by
  obtain ⟨t, e⟩ := h
  exact ⟨_, .str z, e, ⟨t, rfl⟩, fun _ _ => .str z hz⟩
theorem FnOk.up {P : Program} {w : World} {K : PySem.W.Frag} {mg : Str → Option Value} {base : Heap} {CX : CXT} {j k : Nat} {f : Addr} {fd : FuncData} {ps : List Str} {sp : Sp} (F : FnOk P w K mg base CX k f fd ps sp) (h : k ≤ j) : FnOk P w K mg base CX j f fd ps sp :=
  ⟨F.len, fun A outer s H args us vs Q E r => F.run A outer s H args us vs Q E (r.mono h)⟩
theorem fn_stuck {P : Program} {w : World} {K : PySem.W.Frag} {mg : Str → Option Value} {base : Heap} {CX : CXT} {k : Nat} {f : Addr} {fd : FuncData} {ps : List Str} : FnOk P w K mg base CX k f fd ps (spD K ⟨mg, P, w⟩ fun _ => .stuck) :=
  ⟨fun vs H Q E h => by obtain ⟨_, _, _, _, z⟩ := h; exact z.elim, fun A outer s H args us vs Q E r e b v h => by obtain ⟨_, _, _, _, z⟩ := h; exact z.elim⟩
/-- a def that calls itself, by its depth -/
def fuelF (step : (List D → R RV) → List D → R RV) : Nat → List D → R RV
  | 0 => fun _ => .stuck
  | n + 1 => step (fuelF step n)
section
variable {P : Program} {w : World} {K : PySem.W.Frag} {mg : Str → Option Value} {base : Heap} {x qual : Str} {params : Arguments} {body : List Stmt} {sc : Scope} {f : Addr} {fd : FuncData} {N ps : List Str}
/-- how a def is bound without defaults: h by cases on the arguments -/
theorem cal_of {k n : Nat} {F : DE → SR} (Fn : FunD K x qual params body sc [] [] f fd) (S : FnScope N ps sc) (hn : ps.length = n) (hm : mg x = some (.ref f)) (b : Binds K fd ps []) (hbody : BodyD P w K mg base k N qual sc body F) : CalD P w K mg base (k + 1) x (runF n N.length F) :=
  ⟨f, fd, ps, fn_d Fn S hn hbody, hm, Fn.kp, b⟩
theorem calH_of {k n : Nat} {F : DE → SR} (Fn : FunD K x qual params body sc [] [] f fd) (S : FnScope N ps sc) (hn : ps.length = n) (hm : mg x = some (.ref f)) (b : Binds K fd ps []) (hbody : BodyH P w K mg base k N qual sc body F) : CalH P w K mg base (k + 1) x (runF n N.length F) :=
  ⟨f, fd, ps, fn_dH Fn S hn hbody, hm, Fn.kp, b⟩
theorem cal_rec {k0 n : Nat} {F : (List D → R RV) → DE → SR} (Fn : FunD K x qual params body sc [] [] f fd) (S : FnScope N ps sc) (hn : ps.length = n) (hm : mg x = some (.ref f)) (b : Binds K fd ps []) (hbody : ∀ k g, k0 ≤ k → CalD P w K mg base k x g → BodyD P w K mg base k N qual sc body (F g)) :
    ∀ m, CalD P w K mg base (k0 + m) x (fuelF (fun g => runF n N.length (F g)) m)
  | 0 => ⟨f, fd, ps, fn_stuck, hm, Fn.kp, b⟩
  | m + 1 => ⟨f, fd, ps, fn_d Fn S hn (hbody (k0 + m) _ (by omega) (cal_rec Fn S hn hm b hbody m)), hm, Fn.kp, b⟩
/-- called by keywords -/
theorem calK_of {k n m : Nat} {ks : List Str} {F : DE → SR} (Fn : FunD K x qual params body sc [] [] f fd) (S : FnScope N ps sc) (hn : ps.length = n) (hm : mg x = some (.ref f)) (g : {α : Type} → List α → List α → List α)
    (hrel : ∀ {vs zs : List V} {us ws : List Value}, Vals vs us → Vals zs ws → Vals (g vs zs) (g us ws))
    (h : ∀ (kV doc pm : Value) (an : Option Addr) (cdv ct : Value) (us ws : List Value), us.length = m → ws.length = ks.length → bindArgs (PySem.W.fnOf x qual params body sc .none kV doc pm an cdv ct) ⟨us, ks.zip ws⟩ = pure (ps.zip (g us ws)))
    (hp : ∀ (G : Hp) (vs zs : List V) (ds es : List D), ds.length = m → es.length = ks.length → DpAll K ⟨mg, P, w⟩ G vs ds → DpAll K ⟨mg, P, w⟩ G zs es → DpAll K ⟨mg, P, w⟩ G (g vs zs) (g ds es))
    (hbody : BodyD P w K mg base k N qual sc body F) : CalK P w K mg base (k + 1) x m ks g (runF n N.length F) :=
  ⟨f, fd, ps, g, g, fn_d Fn S hn hbody, hm, Fn.kp, kbn_of Fn m ks g hrel h, hp⟩
/-- keywords alone -/
def gKw {α : Type} (_ zs : List α) : List α := zs
end
end DL


set_option maxRecDepth 100000
set_option maxHeartbeats 4000000
namespace DL
open PySem PySem.Spec PyProof.Rows L2 L2H
/-! ### places picked -/
def pickL {α : Type} (is : List Nat) (l : List α) : List α := is.filterMap fun i => l[i]?
theorem vals_pick {vs : List V} {us : List Value} (r : Vals vs us) : ∀ is : List Nat, Vals (pickL is vs) (pickL is us)
  | [] => .nil
  | i :: is => by
    have hl := r.length
    unfold pickL
    cases e : vs[i]? with
    | none =>
      have e2 : us[i]? = none := by
        rw [List.getElem?_eq_none_iff] at e ⊢
        omega
      rw [List.filterMap_cons_none e, List.filterMap_cons_none e2]
      exact vals_pick r is
    | some v =>
      obtain ⟨u, e2, rv⟩ := r.get e
      rw [List.filterMap_cons_some e, List.filterMap_cons_some e2]
      exact .cons rv (vals_pick r is)
theorem dp_pick {K : PySem.W.Frag} {mg : Mg} {G : Hp} {vs : List V} {ds : List D} (r : DpAll K mg G vs ds) : ∀ is : List Nat, DpAll K mg G (pickL is vs) (pickL is ds)
  | [] => .nil
  | i :: is => by
    have hl := r.len
    unfold pickL
    cases e : vs[i]? with
    | none =>
      have e2 : ds[i]? = none := by
        rw [List.getElem?_eq_none_iff] at e ⊢
        omega
      rw [List.filterMap_cons_none e, List.filterMap_cons_none e2]
      exact dp_pick r is
    | some v =>
      obtain ⟨u, e2, rv⟩ := r.getV e
      rw [List.filterMap_cons_some e, List.filterMap_cons_some e2]
      exact .cons rv (dp_pick r is)
/-! ### the law's end -/
def noList (K : PySem.W.Frag) : Bool := K.all fun q => match q.2.cls with
  | .type c => !(decide (c = "list"))
  | _ => true
theorem noList_ok {K : PySem.W.Frag} {H : Hp} {a : Addr} {xs : List V} (h : noList K = true) (s : SqL K H a xs) : Rd H a (.lst xs) := by
  rcases s with s | ⟨o, its, n, hk, hc, _⟩
  · exact s
  · exfalso
    have m := He.lookup_mem hk
    have z := List.all_eq_true.mp h _ m
    simp only [hc] at z
    cases z
theorem dpall_ints {K : PySem.W.Frag} {mg : Mg} {G : Hp} : ∀ ns : List Int, DpAll K mg G (ns.map V.int) (ns.map D.int)
  | [] => .nil
  | n :: ns => .cons (.int n) (dpall_ints ns)
theorem law_end {K : PySem.W.Frag} {mg : Mg} {g : List D → R RV} (hg : ∀ ns : List Int, ns.length ≤ 63 → g [.lst (ns.map D.int)] = .ok (.fr (.bl true))) (hK : noList K = true) {H : Hp} {a : Addr} (ns : List Int) (hl : ns.length ≤ 63) (s : SqL K H a (ns.map V.int)) :
    spD K mg g [.ref a] H (fun v _ => v = .bl true) fun _ _ _ => False := by
  refine ⟨H, [.lst (ns.map D.int)], Same.refl _, .cons (.lst (noList_ok hK s) (dpall_ints ns)) .nil, ?_⟩
  rw [hg ns hl]
  intro v H' G' g' p
  cases p
  rfl

/-- HandS.HeadEnd's end, what a def may let out hanging on the world -/
theorem walk_ofW {l : PySem.W.OpenLaw} {n k : Nat} {q : Program} {loose : List Str} {XP : (Str → Option Value) → Heap → Prop} {YP : World → Heap → Prop} {d : DefRec} {CX : World → CXT} {x : Str}
    (hn : l.most = some n) (hn2 : n ≤ sizeLine) (hdf : d.params.defaults = []) (hr : Room k callerA)
    (F : ∀ (w : World) (mg : Str → Option Value) (fa : Addr) (h : Heap), YP w h → h.Ns mainGlobals mg → mg d.name = some (.ref fa) →
      ∃ (K : PySem.W.Frag) (fd : FuncData) (sp : Sp), K.In h ∧ (∀ (s : Shared) (u : Value), BindsTo s fd ⟨[u], []⟩ [(x, u)]) ∧
        (∀ (H : Hp) (a : Addr) (ns : List Int), ns.length ≤ n → Only H → SqL K H a (ns.map V.int) → sp [.ref a] H (fun v _ => v = .bl true) fun _ _ _ => False) ∧
        ∀ base : Heap, K.In base → base.Ns mainGlobals mg → FnOk l.prog w K mg base (CX w) k fa fd [x] sp)
    (hCX : ∀ (w : World) (H : Hp) (s : Shared) (e : Value) (s' : Shared), CX w [] H s (fun _ _ _ => False) e s' → False) :
    PySem.W.WalkO q loose XP YP l.row.toRowW d [] (fun f vs => PySem.call f vs) := by
  refine Att.attach_call hn hdf fun w s₀ s₁ mg mb fa o pm cd doc a vs ns G Y ho hd hcd hmg hobj hints hlen hg => ?_
  obtain ⟨K, fd, sp, KX, hb, hsp, hF⟩ := F w mg fa _ Y G.T.g hmg
  exact law_call KX G.T.g G.T.b G.T.builtins G.T.nolimit hg hobj hints (Nat.le_trans hlen hn2) hr hF hb (fun H hO hS => hsp H a ns hlen hO hS) fun H e s' => hCX w H s₁ e s'
end DL


set_option maxRecDepth 100000
set_option maxHeartbeats 4000000
namespace DL
open PySem PySem.Spec PyProof.Rows L2
/-! ### evaluation, as rules for simp -/
section
variable {δ δ' : DE} {F F1 F2 Fa Fb : DE → SR} {i : Nat} {f fa fb : DE → R RV} {r : RV} {d : D} {c : Str} {fs : List (Str × D)}
@[simp] theorem ev_seq : sSeq F1 F2 δ = (F1 δ).seq F2 := (Eq.refl _).trans (Eq.refl _)
@[simp] theorem ev_nil : sNil δ = .nx δ := (Eq.refl _).trans (Eq.refl _)
@[simp] theorem sq_nx : (SR.nx δ).seq F = F δ := (Eq.refl _).trans (Eq.refl _)
@[simp] theorem sq_br : (SR.br δ).seq F = .br δ := (Eq.refl _).trans (Eq.refl _)
@[simp] theorem sq_ct : (SR.ct δ).seq F = .ct δ := (Eq.refl _).trans (Eq.refl _)
@[simp] theorem sq_rt : (SR.rt r).seq F = .rt r := (Eq.refl _).trans (Eq.refl _)
@[simp] theorem sq_ex : (SR.ex c fs δ).seq F = .ex c fs δ := (Eq.refl _).trans (Eq.refl _)
@[simp] theorem sq_stuck : SR.stuck.seq F = .stuck := (Eq.refl _).trans (Eq.refl _)
@[simp] theorem ev_set : sSet i f δ = lift (f δ) δ fun r => .nx (δ.set i (some r)) := (Eq.refl _).trans (Eq.refl _)
@[simp] theorem lf_ok {α : Type} (a : α) (k : α → SR) : lift (.ok a) δ k = k a := (Eq.refl _).trans (Eq.refl _)
@[simp] theorem lf_ex {α : Type} (k : α → SR) : lift (.ex c fs : R α) δ k = .ex c fs δ := (Eq.refl _).trans (Eq.refl _)
@[simp] theorem ev_ret : sRet f δ = lift (f δ) δ fun r => .rt r := (Eq.refl _).trans (Eq.refl _)
@[simp] theorem ev_if {c : DE → R Bool} : sIf c Fa Fb δ = lift (c δ) δ fun b => if b = true then Fa δ else Fb δ := (Eq.refl _).trans (Eq.refl _)
@[simp] theorem ev_frz : sFrz i F δ = F (frzS i δ) := (Eq.refl _).trans (Eq.refl _)
@[simp] theorem ev_cst : cst d δ = .ok (.fr d) := (Eq.refl _).trans (Eq.refl _)
@[simp] theorem rv_fr : (RV.fr d).d = d := (Eq.refl _).trans (Eq.refl _)
@[simp] theorem rv_ol {ds : List D} : (RV.ol ds).d = .lst ds := (Eq.refl _).trans (Eq.refl _)
@[simp] theorem bd_ok {α β : Type} (a : α) (f : α → R β) : (R.ok a >>= f) = f a := (Eq.refl _).trans (Eq.refl _)
@[simp] theorem bd_ex {α β : Type} (f : α → R β) : ((R.ex c fs : R α) >>= f) = R.ex c fs := (Eq.refl _).trans (Eq.refl _)
@[simp] theorem ev_bin {g : D → D → R RV} : fBin g fa fb δ = (fa δ >>= fun x => fb δ >>= fun y => g x.d y.d) := (Eq.refl _).trans (Eq.refl _)
@[simp] theorem ev_un {g : D → R RV} : fUn g fa δ = (fa δ >>= fun x => g x.d) := (Eq.refl _).trans (Eq.refl _)
@[simp] theorem ev_call {g : List D → R RV} {fs : DE → R (List D)} : fCall g fs δ = (fs δ >>= g) := (Eq.refl _).trans (Eq.refl _)
@[simp] theorem ev_anil : aNil δ = .ok [] := (Eq.refl _).trans (Eq.refl _)
@[simp] theorem ev_acons {fs : DE → R (List D)} : aCons f fs δ = (f δ >>= fun r => fs δ >>= fun ds => .ok (r.d :: ds)) := (Eq.refl _).trans (Eq.refl _)
@[simp] theorem ev_T : fT f δ = (f δ >>= fun r => truD r.d) := (Eq.refl _).trans (Eq.refl _)
@[simp] theorem ev_B : fB f δ = (f δ >>= fun r => blD r.d) := (Eq.refl _).trans (Eq.refl _)
@[simp] theorem ev_bAnd {a b : DE → R Bool} : bAnd a b δ = (a δ >>= fun c => if c = true then b δ else .ok false) := (Eq.refl _).trans (Eq.refl _)
@[simp] theorem ev_bOr {a b : DE → R Bool} : bOr a b δ = (a δ >>= fun c => if c = true then .ok true else b δ) := (Eq.refl _).trans (Eq.refl _)
@[simp] theorem ev_bNot {a : DE → R Bool} : bNot a δ = (a δ >>= fun c => .ok (!c)) := (Eq.refl _).trans (Eq.refl _)
@[simp] theorem ev_fAnd : fAnd fa fb δ = (fa δ >>= fun r => truD r.d >>= fun b => if b = true then fb δ else .ok (.fr r.d)) := (Eq.refl _).trans (Eq.refl _)
@[simp] theorem ev_fOr : fOr fa fb δ = (fa δ >>= fun r => truD r.d >>= fun b => if b = true then .ok (.fr r.d) else fb δ) := (Eq.refl _).trans (Eq.refl _)
@[simp] theorem ev_fNot : fNot fa δ = (fa δ >>= fun r => truD r.d >>= fun b => .ok (.fr (.bl (!b)))) := (Eq.refl _).trans (Eq.refl _)
@[simp] theorem ev_fIf {c : DE → R Bool} : fIf c fa fb δ = (c δ >>= fun b => if b = true then fa δ else fb δ) := (Eq.refl _).trans (Eq.refl _)
@[simp] theorem ev_tup {n : Nat} {fs : DE → R (List D)} : fTup n fs δ = (fs δ >>= fun ds => .ok (.fr (.tup ds))) := (Eq.refl _).trans (Eq.refl _)
@[simp] theorem ev_lst {n : Nat} {fs : DE → R (List D)} : fLst n fs δ = (fs δ >>= fun ds => .ok (.ol ds)) := (Eq.refl _).trans (Eq.refl _)
@[simp] theorem ev_for {fi : DE → R (List D)} {bd : D → DE → Option DE} {fg : List Nat} : sFor fi bd F fg δ = lift (fi δ) δ fun ds => forL bd F fg ds δ := (Eq.refl _).trans (Eq.refl _)
@[simp] theorem ev_iseq : iSeq f δ = (f δ >>= fun r => seqD r.d) := (Eq.refl _).trans (Eq.refl _)
@[simp] theorem ev_iargs {g : List D → R (List D)} {fs : DE → R (List D)} : iArgs g fs δ = (fs δ >>= g) := (Eq.refl _).trans (Eq.refl _)
@[simp] theorem ev_gset : gSet i d δ = some (δ.set i (some (.fr d))) := (Eq.refl _).trans (Eq.refl _)
@[simp] theorem ev_yes : bYes δ = .ok true := (Eq.refl _).trans (Eq.refl _)
@[simp] theorem ev_sl {fl fh : DE → R (Option Int)} : fSl f fl fh δ = (f δ >>= fun r => fl δ >>= fun l => fh δ >>= fun h => dSl r.d l h) := (Eq.refl _).trans (Eq.refl _)
@[simp] theorem ev_pnone : pNone δ = .ok none := (Eq.refl _).trans (Eq.refl _)
@[simp] theorem seq_lst {ds : List D} : seqD (.lst ds) = .ok ds := (Eq.refl _).trans (Eq.refl _)
@[simp] theorem seq_tup {ds : List D} : seqD (.tup ds) = .ok ds := (Eq.refl _).trans (Eq.refl _)
@[simp] theorem bl_bl {b : Bool} : blD (.bl b) = .ok b := (Eq.refl _).trans (Eq.refl _)
@[simp] theorem tru_bl {b : Bool} : truD (.bl b) = .ok b := (Eq.refl _).trans (Eq.refl _)
@[simp] theorem add_int {i j : Int} : dAdd (.int i) (.int j) = .ok (.fr (.int (i + j))) := (Eq.refl _).trans (Eq.refl _)
@[simp] theorem sub_int {i j : Int} : dSub (.int i) (.int j) = .ok (.fr (.int (i - j))) := (Eq.refl _).trans (Eq.refl _)
@[simp] theorem lt_int {i j : Int} : dLt (.int i) (.int j) = .ok (.fr (.bl (decide (i < j)))) := (Eq.refl _).trans (Eq.refl _)
@[simp] theorem gt_int {i j : Int} : dGt (.int i) (.int j) = .ok (.fr (.bl (decide (j < i)))) := (Eq.refl _).trans (Eq.refl _)
@[simp] theorem le_int {i j : Int} : dLe (.int i) (.int j) = .ok (.fr (.bl (decide (i ≤ j)))) := (Eq.refl _).trans (Eq.refl _)
@[simp] theorem ge_int {i j : Int} : dGe (.int i) (.int j) = .ok (.fr (.bl (decide (j ≤ i)))) := (Eq.refl _).trans (Eq.refl _)
@[simp] theorem neg_int {i : Int} : dNeg (.int i) = .ok (.fr (.int (-i))) := (Eq.refl _).trans (Eq.refl _)
@[simp] theorem int_int {i : Int} : dInt [.int i] = .ok (.fr (.int i)) := (Eq.refl _).trans (Eq.refl _)
@[simp] theorem len_lst {ds : List D} : dLen [.lst ds] = .ok (.fr (.int ds.length)) := (Eq.refl _).trans (Eq.refl _)
@[simp] theorem len_tup {ds : List D} : dLen [.tup ds] = .ok (.fr (.int ds.length)) := (Eq.refl _).trans (Eq.refl _)
@[simp] theorem list_lst {ds : List D} : dList [.lst ds] = .ok (.ol ds) := (Eq.refl _).trans (Eq.refl _)
@[simp] theorem list_tup {ds : List D} : dList [.tup ds] = .ok (.ol ds) := (Eq.refl _).trans (Eq.refl _)
@[simp] theorem tuple_lst {ds : List D} : dTuple [.lst ds] = .ok (.fr (.tup ds)) := (Eq.refl _).trans (Eq.refl _)
@[simp] theorem tuple_tup {ds : List D} : dTuple [.tup ds] = .ok (.fr (.tup ds)) := (Eq.refl _).trans (Eq.refl _)
@[simp] theorem abs_int {i : Int} : dAbs [.int i] = .ok (.fr (.int (if i < 0 then -i else i))) := (Eq.refl _).trans (Eq.refl _)
theorem mul_int {i j : Int} (h : (-(2 ^ 64) < i ∧ i < 2 ^ 64) ∨ (-(2 ^ 64) < j ∧ j < 2 ^ 64)) : dMul (.int i) (.int j) = .ok (.fr (.int (i * j))) := if_pos h
theorem div_int {i j : Int} (h : 0 < j ∧ j < 2 ^ 64) : dDiv (.int i) (.int j) = .ok (.fr (.int (i / j))) := if_pos h
theorem mod_int {i j : Int} (h : 0 < j) : dMod (.int i) (.int j) = .ok (.fr (.int (i % j))) := if_pos h
theorem pow_int {i j : Int} (h : 0 ≤ j ∧ j ≤ 1000 ∧ i.natAbs < 2 ^ 64) : dPow (.int i) (.int j) = .ok (.fr (.int (i ^ j.toNat))) := if_pos h
theorem ix_lst {ds : List D} {i : Nat} {d : D} (h : ds[i]? = some d) : dIx (.lst ds) (.int i) = .ok (.fr d) := by
  have : atI ds (i : Int) = some d := atI_nat h
  simp only [dIx, this]
theorem ix_tup {ds : List D} {i : Nat} {d : D} (h : ds[i]? = some d) : dIx (.tup ds) (.int i) = .ok (.fr d) := by
  have : atI ds (i : Int) = some d := atI_nat h
  simp only [dIx, this]
@[simp] theorem gv_fr (h : δ[i]? = some (some (.fr d))) : getV i δ = .ok (.fr d) := by
  unfold getV; rw [h]
@[simp] theorem fz_ol {ds : List D} (h : δ[i]? = some (some (.ol ds))) : frzS i δ = δ.set i (some (.fr (.lst ds))) := by
  unfold frzS; rw [h]; rfl
theorem fz_any (h : δ[i]? = some (some r)) : frzS i δ = δ.set i (some (.fr r.d)) := by
  unfold frzS; rw [h]
@[simp] theorem fz_fr (h : δ[i]? = some (some (.fr d))) : frzS i δ = δ.set i (some (.fr d)) := by
  unfold frzS; rw [h]; rfl
theorem ow_ap {ds : List D} (h : δ[i]? = some (some (.ol ds))) (hf : f δ = .ok r) (hl : ds.length < SZ) : sOwn i gAppend (aCons f aNil) δ = .nx (δ.set i (some (.ol (ds ++ [r.d])))) := by
  unfold sOwn
  rw [h]
  simp only [ev_acons, hf, bd_ok, ev_anil, lf_ok, gAppend, hl, if_true]
@[simp] theorem rt_own (h : δ[i]? = some (some r)) : sRetV i δ = .rt r := by
  unfold sRetV; rw [h]
/-- a for loop as a fold -/
theorem forL_fold {α β : Type} {bd : D → DE → Option DE} {fg : List Nat} (g : β → D) (st : α → DE) (step : α → β → α) (P : α → Prop) : ∀ (xs : List β) (a : α), (∀ a b, b ∈ xs → P a → ∃ δ1 δ2, bd (g b) (st a) = some δ1 ∧ F δ1 = .nx δ2 ∧ fgtS fg δ2 = st (step a b) ∧ P (step a b)) → P a →
    forL bd F fg (xs.map g) (st a) = .nx (st (xs.foldl step a)) ∧ P (xs.foldl step a)
  | [], a, _, h0 => ⟨rfl, h0⟩
  | b :: xs, a, h, h0 => by
    obtain ⟨δ1, δ2, e1, e2, e3, p⟩ := h a b List.mem_cons_self h0
    obtain ⟨k1, k2⟩ := forL_fold g st step P xs (step a b) (fun a b hb => h a b (List.mem_cons_of_mem _ hb)) p
    refine ⟨?_, k2⟩
    rw [List.map_cons, forL]
    simp only [e1, e2, e3]
    exact k1
/-- .. whose state hangs on the place -/
theorem forL_st {bd : D → DE → Option DE} {fg : List Nat} : ∀ (ds : List D) (st : Nat → DE), (∀ i d, ds[i]? = some d → ∃ δ1 δ2, bd d (st i) = some δ1 ∧ F δ1 = .nx δ2 ∧ fgtS fg δ2 = st (i + 1)) → forL bd F fg ds (st 0) = .nx (st ds.length)
  | [], _, _ => rfl
  | d :: ds, st, h => by
    obtain ⟨δ1, δ2, e1, e2, e3⟩ := h 0 d rfl
    rw [forL]
    simp only [e1, e2, e3]
    exact forL_st ds (fun i => st (i + 1)) fun i d e => h (i + 1) d e
theorem forL_inv {bd : D → DE → Option DE} {fg : List Nat} : ∀ (ds : List D) (I : Nat → DE → Prop) (δ : DE), I 0 δ → (∀ i d δ, ds[i]? = some d → I i δ → ∃ δ1 δ2, bd d δ = some δ1 ∧ F δ1 = .nx δ2 ∧ I (i + 1) (fgtS fg δ2)) → ∃ δ', forL bd F fg ds δ = .nx δ' ∧ I ds.length δ'
  | [], I, δ, h0, _ => ⟨δ, rfl, h0⟩
  | d :: ds, I, δ, h0, h => by
    obtain ⟨δ1, δ2, e1, e2, e3⟩ := h 0 d δ rfl h0
    rw [forL]
    simp only [e1, e2]
    exact forL_inv ds (fun i => I (i + 1)) _ e3 fun i d δ e => h (i + 1) d δ e
/-- a comprehension as a map -/
theorem comp_map {β : Type} {bd : D → DE → Option DE} {fe : DE → R RV} (g : β → D) (k : β → D) : ∀ xs : List β, (∀ b ∈ xs, ∃ δ1 r, bd (g b) δ = some δ1 ∧ fe δ1 = .ok r ∧ r.d = k b) → compL bd bYes fe δ (xs.map g) = .ok (xs.map k)
  | [], _ => rfl
  | b :: xs, h => by
    obtain ⟨δ1, r, e1, e2, e3⟩ := h b List.mem_cons_self
    rw [List.map_cons, compL]
    simp only [e1, ev_yes, if_true, e2, comp_map g k xs fun b hb => h b (List.mem_cons_of_mem _ hb), e3, List.map_cons]
theorem lc_ok {fi : DE → R (List D)} {vs : List Nat} {bd : D → DE → Option DE} {ft : DE → R Bool} {fe : DE → R RV} {ds es : List D} (h1 : fi δ = .ok ds) (h2 : compL bd ft fe (fgtS vs δ) ds = .ok es) (h3 : es.length ≤ SZ) : fLc fi vs bd ft fe δ = .ok (.ol es) := by
  unfold fLc
  rw [h1, bd_ok, h2]
  simp only [h3, if_true]
end
/-! ### == of a thing and itself -/
mutual
theorem eqD_refl : ∀ (n : Nat) (d : D), flatD n d = true → eqD d d = true
  | _, .non, _ => rfl
  | _, .bl b, _ => by cases b <;> rfl
  | _, .int i, _ => by show (i == i) = true; exact beq_self_eq_true i
  | _, .str x, _ => by show (x == x) = true; exact beq_self_eq_true x
  | 0, .lst xs, h => by simp [flatD] at h
  | 0, .tup xs, h => by simp [flatD] at h
  | n + 1, .lst xs, h => eqDs_refl n xs (by simpa [flatD] using h)
  | n + 1, .tup xs, h => eqDs_refl n xs (by simpa [flatD] using h)
  | 0, .dct _, h => by simp [flatD] at h
  | 0, .obj _ _, h => by simp [flatD] at h
  | 0, .exn _ _ _ _, h => by simp [flatD] at h
  | _ + 1, .dct _, h => by simp [flatD] at h
  | _ + 1, .obj _ _, h => by simp [flatD] at h
  | _ + 1, .exn _ _ _ _, h => by simp [flatD] at h
theorem eqDs_refl : ∀ (n : Nat) (xs : List D), flatDs n xs = true → PyData.eqvAll (toPs xs) (toPs xs) = true
  | _, [], _ => rfl
  | n, x :: xs, h => by
    simp only [flatDs, Bool.and_eq_true] at h
    show (PyData.eqv (toP x) (toP x) && PyData.eqvAll (toPs xs) (toPs xs)) = true
    have h1 : eqD x x = true := eqD_refl n x h.1
    unfold eqD at h1
    rw [h1, eqDs_refl n xs h.2]
    rfl
end
theorem ne_self {d : D} (h : flatD 9 d = true) : dEq true d d = .ok (.fr (.bl false)) := by
  unfold dEq
  rw [h, eqD_refl 9 d h]
  rfl
theorem eq_self {d : D} (h : flatD 9 d = true) : dEq false d d = .ok (.fr (.bl true)) := by
  unfold dEq
  rw [h, eqD_refl 9 d h]
  rfl
theorem eq_int {i j : Int} : dEq false (.int i) (.int j) = .ok (.fr (.bl (decide (i = j)))) := by
  show R.ok (RV.fr (D.bl (i == j))) = _
  have e : (i == j) = decide (i = j) := by rw [Bool.eq_iff_iff]; simp
  rw [e]
theorem ne_int {i j : Int} : dEq true (.int i) (.int j) = .ok (.fr (.bl (!decide (i = j)))) := by
  show R.ok (RV.fr (D.bl (!(i == j)))) = _
  have e : (i == j) = decide (i = j) := by rw [Bool.eq_iff_iff]; simp
  rw [e]

theorem rng1_nat {n : Nat} (h : n < 2 ^ 62) : rng1 [.int n] = .ok ((List.range n).map fun i => .int (i : Nat)) := by
  have h' : -(2 ^ 62) ≤ (n : Int) ∧ (n : Int) < 2 ^ 62 := by omega
  simp only [rng1, if_pos h', Int.toNat_natCast, Int.zero_add]
/-- what holds behind a statement that goes on -/
@[irreducible] def nxS (P : DE → Prop) : SR → Prop
  | .nx δ => P δ
  | _ => False
theorem nx_of {P : DE → Prop} {s : SR} {δ : DE} (e : s = .nx δ) (h : P δ) : nxS P s := by
  rw [e]
  unfold nxS
  exact h
theorem nx_ex {P : DE → Prop} {s : SR} (h : nxS P s) : ∃ δ, s = .nx δ ∧ P δ := by
  unfold nxS at h
  cases s with
  | nx δ => exact ⟨δ, rfl, h⟩
  | _ => exact h.elim
theorem forL_wp {F : DE → SR} {bd : D → DE → Option DE} {fg : List Nat} (ds : List D) (I : Nat → DE → Prop) (δ : DE) (h0 : I 0 δ) (h : ∀ i d δ, ds[i]? = some d → I i δ → ∃ δ1, bd d δ = some δ1 ∧ nxS (fun δ2 => I (i + 1) (fgtS fg δ2)) (F δ1)) : ∃ δ', forL bd F fg ds δ = .nx δ' ∧ I ds.length δ' :=
  forL_inv ds I δ h0 fun i d δ e hI => by
    obtain ⟨δ1, e1, h1⟩ := h i d δ e hI
    obtain ⟨δ2, e2, h2⟩ := nx_ex h1
    exact ⟨δ1, δ2, e1, e2, h2⟩
theorem wp_seq {P : DE → Prop} {F1 F2 : DE → SR} {δ : DE} (h : nxS (fun δ' => nxS P (F2 δ')) (F1 δ)) : nxS P (sSeq F1 F2 δ) := by
  obtain ⟨δ', e, h⟩ := nx_ex h
  unfold sSeq
  rw [e]
  exact h
theorem wp_nil {P : DE → Prop} {δ : DE} (h : P δ) : nxS P (sNil δ) := nx_of rfl h
theorem wp_set {P : DE → Prop} {i : Nat} {f : DE → R RV} {δ : DE} {r : RV} (e : f δ = .ok r) (h : P (δ.set i (some r))) : nxS P (sSet i f δ) := by
  unfold sSet; rw [e]; exact nx_of rfl h
theorem wp_append {P : DE → Prop} {i : Nat} {f : DE → R RV} {δ : DE} {r : RV} {ds : List D} (h0 : δ[i]? = some (some (.ol ds))) (hl : ds.length < SZ) (e : f δ = .ok r) (h : P (δ.set i (some (.ol (ds ++ [r.d]))))) : nxS P (sOwn i gAppend (aCons f aNil) δ) := by
  rw [ow_ap h0 e hl]; exact nx_of rfl h
theorem wp_if {P : DE → Prop} {c : DE → R Bool} {Fa Fb : DE → SR} {δ : DE} {b : Bool} (e : c δ = .ok b) (ht : b = true → nxS P (Fa δ)) (hf : b = false → nxS P (Fb δ)) : nxS P (sIf c Fa Fb δ) := by
  unfold sIf; rw [e]
  cases b with
  | true => exact ht rfl
  | false => exact hf rfl

theorem mul_lst1 (x : D) {k : Nat} (h : k ≤ SZ) : dMul (.lst [x]) (.int k) = .ok (.ol (List.replicate k x)) := by
  have e : (List.replicate k [x]).flatten = List.replicate k x := by
    induction k with
    | zero => rfl
    | succ k ih => rw [List.replicate_succ, List.replicate_succ, List.flatten_cons, ih (by omega)]; rfl
  have c : (-(2 ^ 63) ≤ (k : Int) ∧ (k : Int) < 2 ^ 63) ∧ [x].length * (k : Int).toNat ≤ SZ := by
    unfold SZ at h ⊢
    simp only [List.length_cons, List.length_nil, Int.toNat_natCast]
    omega
  simp only [dMul]
  rw [if_pos c, Int.toNat_natCast, e]
theorem add_lst {xs ys : List D} (h : xs.length + ys.length ≤ SZ) : dAdd (.lst xs) (.lst ys) = .ok (.ol (xs ++ ys)) := if_pos h
theorem add_tup {xs ys : List D} (h : xs.length + ys.length ≤ SZ) : dAdd (.tup xs) (.tup ys) = .ok (.fr (.tup (xs ++ ys))) := if_pos h
theorem str_ix {x : Str} {i : Nat} (hl : x.length ≤ SZ) (hi : i < x.cps.toList.length) : ∃ c, dIx (.str x) (.int i) = .ok (.fr (.str ⟨#[c]⟩)) := by
  refine ⟨x.cps.toList[i], ?_⟩
  have e : L2.atI x.cps.toList (i : Int) = some x.cps.toList[i] := L2.atI_nat (List.getElem?_eq_getElem hi)
  simp only [dIx, if_pos hl, e]
theorem strs_map : ∀ ys : List Str, strsOf (ys.map D.str) = some ys
  | [] => rfl
  | y :: ys => by rw [List.map_cons, strsOf, strs_map ys]; rfl
theorem ints_map : ∀ ys : List Int, intsOf (ys.map D.int) = some ys
  | [] => rfl
  | y :: ys => by rw [List.map_cons, intsOf, ints_map ys]; rfl
theorem bls_map : ∀ ys : List Bool, blsOf (ys.map D.bl) = some ys
  | [] => rfl
  | y :: ys => by rw [List.map_cons, blsOf, bls_map ys]; rfl
theorem sum_lst {ys : List Int} : dSum [.lst (ys.map D.int)] = .ok (.fr (.int ys.sum)) := by
  simp only [dSum, ints_map]
theorem join_lst {a : Str} {ys : List Str} (h : (ys.map (·.length)).sum + ys.length * a.length ≤ SZ) : dJoin2 (.str a) (.lst (ys.map D.str)) = .ok (.fr (.str (Str.join a ys))) := by
  simp only [dJoin2, dJn, strs_map, if_pos h]
@[simp] theorem ev_m1 {chk : D → Bool} {g : D → D → R RV} {fo fe : DE → R RV} {δ : DE} : fM1 chk g fo fe δ = (fo δ >>= fun x => if chk x.d = true then fe δ >>= fun y => g x.d y.d else .stuck) := (Eq.refl _).trans (Eq.refl _)
theorem cut_nat {α : Type} (xs : List α) (lo hi : Nat) : cutL xs (some lo) (some hi) = (xs.drop (min lo xs.length)).take (min hi xs.length - min lo xs.length) := by
  unfold cutL
  rw [HT.sIx_nat, HT.sIx_nat]
theorem mem_cut {α : Type} {xs : List α} {a b : Nat} {x : α} (h : x ∈ (xs.drop a).take b) : ∃ i, a ≤ i ∧ xs[i]? = some x := by
  have h := List.mem_of_mem_take h
  obtain ⟨i, hi, e⟩ := List.mem_iff_getElem.mp h
  rw [List.getElem_drop] at e
  exact ⟨a + i, Nat.le_add_right _ _, by rw [← e]; exact List.getElem?_eq_getElem _⟩
theorem pint {f : DE → R RV} {δ : DE} {i : Int} (h : f δ = .ok (.fr (.int i))) : pInt f δ = .ok (some i) := by
  unfold pInt; rw [h]; rfl
@[simp] theorem sl_lst {ds : List D} {lo hi : Option Int} : dSl (.lst ds) lo hi = .ok (.ol (cutL ds lo hi)) := (Eq.refl _).trans (Eq.refl _)
@[simp] theorem sl_tup {ds : List D} {lo hi : Option Int} : dSl (.tup ds) lo hi = .ok (.fr (.tup (cutL ds lo hi))) := (Eq.refl _).trans (Eq.refl _)
theorem cut_map {α β : Type} (f : α → β) (xs : List α) (lo hi : Option Int) : cutL (xs.map f) lo hi = (cutL xs lo hi).map f := by
  unfold cutL
  rw [List.length_map, List.map_take, List.map_drop]
theorem gr_ret {n N : Nat} {F : DE → SR} {ds : List D} {r : RV} (hl : ds.length = n) (h : F (ds.map (fun d => some (RV.fr d)) ++ List.replicate (N - n) none) = .rt r) : runF n N F ds = .ok r := by
  unfold runF; rw [if_pos hl, h]
theorem gr_ex {n N : Nat} {F : DE → SR} {ds : List D} {c : Str} {fs : List (Str × D)} {δ : DE} (hl : ds.length = n) (h : F (ds.map (fun d => some (RV.fr d)) ++ List.replicate (N - n) none) = .ex c fs δ) : runF n N F ds = .ex c fs := by
  unfold runF; rw [if_pos hl, h]

theorem try_ex {i : Nat} {F : DE → SR} {Fh : Str → Option (Addr → Addr → DE → SR)} {δ δ' : DE} {c : Str} {fs : List (Str × D)} {g : Addr → Addr → DE → SR} {r : SR} (e : F δ = .ex c fs δ') (eg : Fh c = some g) (h : ∀ a dd, unS i (g a dd (δ'.set i (some (.fr (.exn a dd c fs))))) = r) : sTry i F Fh δ = r := by
  unfold sTry
  rw [e]
  simp only [eg]
  rw [if_pos fun a dd => (h a dd).trans (h 0 0).symm]
  exact h 0 0
theorem try_nx {i : Nat} {F : DE → SR} {Fh : Str → Option (Addr → Addr → DE → SR)} {δ δ' : DE} (e : F δ = .nx δ') : sTry i F Fh δ = .nx δ' := by
  unfold sTry
  rw [e]
@[simp] theorem ev_ise {a dd : Addr} {c : Str} {b : Bool} {f : DE → R RV} {δ : DE} {fs : List (Str × D)} (h : f δ = .ok (.fr (.exn a dd c fs))) : fIsE a dd c b f δ = .ok (.fr (.bl b)) := by
  unfold fIsE
  rw [h]
  show (if a = a ∧ dd = dd ∧ c = c then _ else _) = _
  rw [if_pos ⟨rfl, rfl, rfl⟩]
theorem ev_xf {a dd : Addr} {c n : Str} {f : DE → R RV} {δ : DE} {fs : List (Str × D)} {d : D} (h : f δ = .ok (.fr (.exn a dd c fs))) (hl : fs.lookup n = some d) : fXf a dd c n f δ = .ok (.fr d) := by
  unfold fXf
  rw [h]
  show (if a = a ∧ dd = dd ∧ c = c then _ else _) = _
  rw [if_pos ⟨rfl, rfl, rfl⟩, hl]
@[simp] theorem ev_callh {g : List D → R RV} {fa : DE → R (List D)} {δ : DE} : fCallH g fa δ = (fa δ >>= fun ds => match g ds with
  | .ok r => .ok r
  | _ => .stuck) := (Eq.refl _).trans (Eq.refl _)
@[simp] theorem ev_callk {n m : Nat} {pm : List D → List D → List D} {g : List D → R RV} {fa fk : DE → R (List D)} {δ : DE} : fCallK n m pm g fa fk δ = (fa δ >>= fun ds => fk δ >>= fun es => if ds.length = n ∧ es.length = m then g (pm ds es) else .stuck) := (Eq.refl _).trans (Eq.refl _)
end DL


set_option maxRecDepth 100000
set_option maxHeartbeats 4000000
namespace DL
open PySem PySem.Spec PyProof.Rows L2 GS

/-! ### sorted(set(xs)) -/
section ord
variable {α : Type} [DecidableEq α]
/-- x is put into its place in an ascending list, unless it is there -/
def insG (lt : α → α → Bool) (x : α) : List α → List α
  | [] => [x]
  | y :: ys => if x = y then y :: ys else if lt x y = true then x :: y :: ys else y :: insG lt x ys
def ssG (lt : α → α → Bool) (xs : List α) : List α := xs.foldr (insG lt) []
theorem insG_mem (lt : α → α → Bool) (x z : α) : ∀ ys : List α, z ∈ insG lt x ys ↔ z = x ∨ z ∈ ys
  | [] => by simp [insG]
  | y :: ys => by
    unfold insG
    split
    · rename_i h; subst h; simp
    · split
      · simp
      · rw [List.mem_cons, insG_mem lt x z ys, List.mem_cons]
        constructor
        · rintro (h | h | h)
          · exact .inr (.inl h)
          · exact .inl h
          · exact .inr (.inr h)
        · rintro (h | h | h)
          · exact .inr (.inl h)
          · exact .inl h
          · exact .inr (.inr h)
theorem ssG_mem (lt : α → α → Bool) (z : α) : ∀ xs : List α, z ∈ ssG lt xs ↔ z ∈ xs
  | [] => by simp [ssG]
  | x :: xs => by
    show z ∈ insG lt x (ssG lt xs) ↔ _
    rw [insG_mem, ssG_mem lt z xs, List.mem_cons]
/-- a strict order of all -/
structure Lin (lt : α → α → Bool) : Prop where
  irr : ∀ x, lt x x = false
  tr : ∀ x y z, lt x y = true → lt y z = true → lt x z = true
  tot : ∀ x y, lt x y = false → lt y x = false → x = y
variable {lt : α → α → Bool}
abbrev Asc (lt : α → α → Bool) (l : List α) : Prop := l.Pairwise fun x y => lt x y = true
theorem insG_asc (L : Lin lt) (x : α) : ∀ {ys : List α}, Asc lt ys → Asc lt (insG lt x ys)
  | [], _ => List.pairwise_singleton _ _
  | y :: ys, h => by
    obtain ⟨h1, h2⟩ := List.pairwise_cons.mp h
    unfold insG
    split
    · exact h
    · rename_i ne
      split
      · rename_i hl
        refine List.pairwise_cons.mpr ⟨fun z hz => ?_, h⟩
        rcases List.mem_cons.mp hz with e | hz
        · rw [e]; exact hl
        · exact L.tr _ _ _ hl (h1 z hz)
      · rename_i hl
        refine List.pairwise_cons.mpr ⟨fun z hz => ?_, insG_asc L x h2⟩
        rcases (insG_mem lt x z ys).mp hz with e | hz
        · rw [e]
          cases hh : lt y x with
          | true => rfl
          | false => exact absurd (L.tot x y (by cases q : lt x y; rfl; exact absurd q hl) hh) ne
        · exact h1 z hz
theorem ssG_asc (L : Lin lt) : ∀ xs : List α, Asc lt (ssG lt xs)
  | [] => List.Pairwise.nil
  | x :: xs => insG_asc L x (ssG_asc L xs)
/-- ascending lists of the same members are the same -/
theorem asc_ext (L : Lin lt) : ∀ {xs ys : List α}, Asc lt xs → Asc lt ys → (∀ z, z ∈ xs ↔ z ∈ ys) → xs = ys
  | [], [], _, _, _ => rfl
  | [], y :: ys, _, _, h => absurd ((h y).mpr List.mem_cons_self) (by simp)
  | x :: xs, [], _, _, h => absurd ((h x).mp List.mem_cons_self) (by simp)
  | x :: xs, y :: ys, hx, hy, h => by
    obtain ⟨x1, x2⟩ := List.pairwise_cons.mp hx
    obtain ⟨y1, y2⟩ := List.pairwise_cons.mp hy
    have e : x = y := by
      rcases List.mem_cons.mp ((h x).mp List.mem_cons_self) with e | m
      · exact e
      · rcases List.mem_cons.mp ((h y).mpr List.mem_cons_self) with e | m'
        · exact e.symm
        · have a := L.tr _ _ _ (y1 x m) (x1 y m')
          rw [L.irr] at a; cases a
    subst e
    refine congrArg (x :: ·) (asc_ext L x2 y2 fun z => ⟨fun hz => ?_, fun hz => ?_⟩)
    · rcases List.mem_cons.mp ((h z).mp (List.mem_cons_of_mem _ hz)) with e | m
      · subst e
        have a := x1 z hz
        rw [L.irr] at a; cases a
      · exact m
    · rcases List.mem_cons.mp ((h z).mpr (List.mem_cons_of_mem _ hz)) with e | m
      · subst e
        have a := y1 z hz
        rw [L.irr] at a; cases a
      · exact m
theorem asc_of (L : Lin lt) {xs : List α} (hn : xs.Nodup) (h : xs.Pairwise fun x y => lt y x = false) : Asc lt xs := by
  have := List.Pairwise.and h hn
  refine this.imp fun {x y} ⟨h1, h2⟩ => ?_
  cases hh : lt x y with
  | true => rfl
  | false => exact absurd (L.tot _ _ hh h1) h2
end ord
def kLt1 (a b : Key) : Bool := itemLt (ky1 a) (ky1 b)
theorem lin_key : Lin kLt1 := ⟨fun x => itemOrd.irrefl _, fun x y z => itemOrd.trans _ _ _, fun x y h1 h2 => ky1_inj (itemOrd.total _ _ h1 h2)⟩
theorem lin_row : Lin kLt := ⟨fun x => lex_irrefl (O := itemOrd) _, fun x y z => lex_trans (O := itemOrd) _ _ _, fun x y h1 h2 => kLt_total h1 h2⟩
def cellD : D → Option Key
  | .int i => some (.inl i)
  | .str x => some (.inr x)
  | _ => none
def rowD : D → Option (List Key)
  | .tup ds => ds.mapM cellD
  | _ => none
def isTx : Key → Bool
  | .inl _ => false
  | .inr _ => true
def sig (k : List Key) : List Bool := k.map isTx
/-- all ints or all texts -/
def homB (ks : List Key) : Bool := ks.all (fun k => match k with | .inl _ => true | .inr _ => false) || ks.all (fun k => match k with | .inl _ => false | .inr _ => true)
/-- tuples of one kind -/
def uniB : List (List Key) → Bool
  | [] => true
  | k :: ks => !k.isEmpty && ks.all fun l => sig l == sig k
def seqDs : D → Option (List D)
  | .lst ds => some ds
  | .tup ds => some ds
  | _ => none
def dSS (d : D) : R RV := match seqDs d with
  | none => .stuck
  | some ds => match ds.mapM cellD with
    | some ks => if homB ks = true ∧ ks.length + 1 < 4096 then .ok (.ol ((ssG kLt1 ks).map keyD)) else .stuck
    | none => match ds.mapM rowD with
      | some rs => if uniB rs = true ∧ rs.length < 2048 then .ok (.ol ((ssG kLt rs).map fun k => .tup (k.map keyD))) else .stuck
      | none => .stuck
theorem mapM_cons {α β : Type} {f : α → Option β} {x : α} {xs : List α} {ys : List β} (h : (x :: xs).mapM f = some ys) : ∃ y zs, ys = y :: zs ∧ f x = some y ∧ xs.mapM f = some zs := by
  rw [List.mapM_cons] at h
  cases e : f x with
  | none => rw [e] at h; cases h
  | some y =>
    rw [e] at h
    cases e2 : xs.mapM f with
    | none => rw [e2] at h; cases h
    | some zs => rw [e2] at h; cases h; exact ⟨y, zs, rfl, rfl, rfl⟩
theorem mapM_nil {α β : Type} {f : α → Option β} {ys : List β} (h : ([] : List α).mapM f = some ys) : ys = [] := by
  rw [List.mapM_nil] at h
  cases h
  rfl
section
variable {K : PySem.W.Frag} {mg : Mg} {G : Hp}
theorem dp_cell {v : V} {d : D} {k : Key} (p : Dp K mg G v d) (h : cellD d = some k) : v = kV k ∧ d = keyD k ∧ KOk k := by
  cases p with
  | int i => cases h; exact ⟨rfl, rfl, True.intro⟩
  | str x hx => cases h; exact ⟨rfl, rfl, hx⟩
  | _ => cases h
theorem dp_keyD {k : Key} (h : KOk k) : Dp K mg G (kV k) (keyD k) := by
  cases k with
  | inl i => exact .int i
  | inr x => exact .str x h
theorem dp_cells : ∀ {vs : List V} {ds : List D} {ks : List Key}, DpAll K mg G vs ds → ds.mapM cellD = some ks → vs = ks.map kV ∧ ds = ks.map keyD ∧ ∀ k ∈ ks, KOk k
  | _, _, ks, .nil, h => by rw [mapM_nil h]; exact ⟨rfl, rfl, fun k hk => nomatch hk⟩
  | _, _, ks, .cons p t, h => by
    obtain ⟨k, ks', e, h1, h2⟩ := mapM_cons h
    obtain ⟨a, b, c⟩ := dp_cell p h1
    obtain ⟨a2, b2, c2⟩ := dp_cells t h2
    subst e
    exact ⟨by rw [a, a2]; rfl, by rw [b, b2]; rfl, fun z hz => (List.mem_cons.mp hz).elim (fun e => e ▸ c) (c2 z)⟩
theorem dp_keys {ks : List Key} (h : ∀ k ∈ ks, KOk k) : DpAll K mg G (ks.map kV) (ks.map keyD) := by
  induction ks with
  | nil => exact .nil
  | cons k ks ih => exact .cons (dp_keyD (h k List.mem_cons_self)) (ih fun z hz => h z (List.mem_cons_of_mem _ hz))
theorem dp_row {v : V} {d : D} {k : List Key} (p : Dp K mg G v d) (h : rowD d = some k) : ∃ a, v = .ref a ∧ SqT K G a (k.map kV) ∧ d = .tup (k.map keyD) := by
  cases p with
  | tup q t =>
    obtain ⟨a, b, _⟩ := dp_cells t h
    subst a; subst b
    exact ⟨_, rfl, q, rfl⟩
  | _ => cases h
theorem dp_rows : ∀ {vs : List V} {ds : List D} {rs : List (List Key)}, DpAll K mg G vs ds → ds.mapM rowD = some rs → ∃ ks : List GS.Row, vs = ks.map (fun p => V.ref p.1) ∧ ks.map (·.2) = rs ∧ ∀ p ∈ ks, SqT K G p.1 (p.2.map kV) ∧ Dp K mg G (.ref p.1) (.tup (p.2.map keyD))
  | _, _, rs, .nil, h => by rw [mapM_nil h]; exact ⟨[], rfl, rfl, fun k hk => nomatch hk⟩
  | _, _, rs, .cons p t, h => by
    obtain ⟨k, rs', e, h1, h2⟩ := mapM_cons h
    obtain ⟨a, e1, q, e2⟩ := dp_row p h1
    obtain ⟨ks, e3, e4, h4⟩ := dp_rows t h2
    subst e; subst e1; subst e3; subst e2
    exact ⟨(a, k) :: ks, rfl, by rw [List.map_cons, e4], fun z hz => (List.mem_cons.mp hz).elim (fun e => by rw [e]; exact ⟨q, p⟩) (h4 z)⟩
theorem dp_refs {ks : List GS.Row} (h : ∀ p ∈ ks, Dp K mg G (.ref p.1) (.tup (p.2.map keyD))) : DpAll K mg G (ks.map fun p => V.ref p.1) (ks.map fun p => D.tup (p.2.map keyD)) := by
  induction ks with
  | nil => exact .nil
  | cons k ks ih => exact .cons (h k List.mem_cons_self) (ih fun z hz => h z (List.mem_cons_of_mem _ hz))
end
theorem hom_ok {ks : List Key} (h : homB ks = true) : Hom ks := by
  unfold homB at h
  rw [Bool.or_eq_true] at h
  refine h.imp (fun h k hk => ?_) (fun h k hk => ?_)
  · have := List.all_eq_true.mp h k hk
    cases k with
    | inl i => exact ⟨i, rfl⟩
    | inr x => cases this
  · have := List.all_eq_true.mp h k hk
    cases k with
    | inl i => cases this
    | inr x => exact ⟨x, rfl⟩
theorem shp_sig : ∀ (k : List Key) (σ : List Bool) (j : Nat), σ.drop j = sig k → Shp (fun i => σ.getD i false) j k
  | [], _, _, _ => True.intro
  | c :: k, σ, j, h => by
    have hj : σ[j]? = some (isTx c) := by
      have := congrArg (·[0]?) h
      simp only [List.getElem?_drop, Nat.add_zero] at this
      rw [this]
      rfl
    have ht : σ.drop (j + 1) = sig k := by
      have := congrArg (List.drop 1) h
      rw [List.drop_drop] at this
      exact this
    cases c with
    | inl i => exact ⟨by show σ.getD j false = false; rw [List.getD_eq_getElem?_getD, hj]; rfl, shp_sig k σ (j + 1) ht⟩
    | inr x => exact ⟨by show σ.getD j false = true; rw [List.getD_eq_getElem?_getD, hj]; rfl, shp_sig k σ (j + 1) ht⟩
theorem uni_ok {rs : List (List Key)} (h : uniB rs = true) : ∃ shape, ∀ k ∈ rs, Shp shape 0 k ∧ k ≠ [] := by
  match rs, h with
  | [], _ => exact ⟨fun _ => false, fun k hk => nomatch hk⟩
  | k :: ks, h =>
    simp only [uniB, Bool.and_eq_true, Bool.not_eq_true', List.isEmpty_eq_false_iff] at h
    refine ⟨fun i => (sig k).getD i false, fun l hl => ?_⟩
    rcases List.mem_cons.mp hl with e | hl
    · rw [e]; exact ⟨shp_sig _ _ 0 rfl, h.1⟩
    · have e : sig l = sig k := beq_iff_eq.mp (List.all_eq_true.mp h.2 l hl)
      refine ⟨shp_sig _ _ 0 (by rw [List.drop_zero]; exact e.symm), fun z => ?_⟩
      subst z
      have := congrArg List.length e
      simp only [sig, List.map_nil, List.length_nil, List.length_map] at this
      exact h.1 (List.length_eq_zero_iff.mp this.symm)
section
variable {X : Cx} {H0 G0 : Hp} {W : WX}
theorem vals_kV {P : Program} {w : World} : ∀ {ks : List Key} {us : List Value}, ItemsAre (mixKind P w) ks us → Vals (ks.map kV) us
  | [], _, h => by cases h; exact .nil
  | k :: ks, _, h => by
    cases h with
    | cons h t =>
      refine .cons ?_ (vals_kV t)
      rcases keyIs_shape h with ⟨i, t, e1, e2⟩ | ⟨x, t, e1, e2⟩
      · subst e1; subst e2; exact ⟨t, rfl⟩
      · subst e1; subst e2; exact ⟨t, rfl⟩
theorem Inv.isM {pins : List (Addr × Obj)} {σ : L2.St} {H : Hp} {s : Shared} {b : Addr} {k : List Key} (I : Inv X pins σ H s) (h : SqT X.K H b (k.map kV)) : IsM X.prog X.w s.heap k b := by
  obtain ⟨its, r, ⟨o, ho, hc, n, hd⟩, _⟩ := I.tuple h
  exact ⟨o, its.toArray, n, ho, hc, hd, by simpa using items_are r⟩
theorem refs_vals : ∀ {ks : List GS.Row} {us : List Value}, Vals (ks.map fun p => V.ref p.1) us → us = ks.map fun p => Value.ref p.1
  | [], _, r => by cases r; rfl
  | p :: ks, _, r => by
    rw [List.map_cons] at r
    cases r with
    | cons h t =>
      have h' : _ = Value.ref p.1 := h
      rw [h', refs_vals t]
      rfl
theorem vals_refs' : ∀ ks : List GS.Row, Vals (ks.map fun p => V.ref p.1) (ks.map fun p => Value.ref p.1)
  | [] => .nil
  | p :: ks => .cons rfl (vals_refs' ks)
/-- behind sorted -/
theorem ss_end {pins : List (Addr × Obj)} {σ : L2.St} {H : Hp} {s s' : Shared} {Q : VK} {p : Addr} {out : Array Value} {c : Nat} {xs : List V} (I : Inv X pins σ H s) (k : ∀ b o, s.heap.get? b = some o → s'.heap.get? b = some o) (g : s'.gens = s.gens) (o : s'.os = s.os) (hp : s.heap.objs.size ≤ p)
    (hg : s'.heap.get? p = some (seqObj "list" out c)) (hv : Vals xs out.toList) (hlen : xs.length ≤ sizeLine) (q : H p = none → Q (.ref p) (upd H p (.lst xs))) : EP X pins σ Q (.ref p) s' := by
  have hn : H p = none := I.hok.fresh hp
  have J : Inv X pins σ (upd H p (.lst xs)) { s with heap := s'.heap, gens := s'.gens, drawn := s'.drawn, toks := s'.toks } :=
    I.call (ch := []) (Un.laid k hp hn) (I.hok.laid k hp ⟨hlen, out.toList, c, hv, hg⟩) (by rw [g]; exact I.bare) (fun _ z => nomatch z)
  have e : s' = { s with heap := s'.heap, gens := s'.gens, drawn := s'.drawn, toks := s'.toks } := by
    cases s'
    cases s
    cases o
    rfl
  rw [e]
  exact ⟨.ref p, _, J, rfl, q hn⟩
/-- sorted(set(a)), in the heap -/
def tSS (K : PySem.W.Frag) (ta : TE) : TE := fun σ H Q => ta σ H fun x H1 => ∃ l, x = .ref l ∧
  ((∃ ks : List Key, (SqL K H1 l (ks.map kV) ∨ SqT K H1 l (ks.map kV)) ∧ Hom ks ∧ ks.length + 1 < 4096 ∧ ∀ p, H1 p = none → Q (.ref p) (upd H1 p (.lst ((ssG kLt1 ks).map kV)))) ∨
   (∃ (ks : List GS.Row) (shape : Nat → Bool), (SqL K H1 l (ks.map fun p => V.ref p.1) ∨ SqT K H1 l (ks.map fun p => V.ref p.1)) ∧ (∀ p ∈ ks, SqT K H1 p.1 (p.2.map kV)) ∧ (∀ p ∈ ks, Shp shape 0 p.2 ∧ p.2 ≠ []) ∧ ks.length < 2048 ∧
      ∀ (L : List GS.Row) p, (∀ q ∈ L, q ∈ ks) → L.map (·.2) = ssG kLt (ks.map (·.2)) → H1 p = none → Q (.ref p) (upd H1 p (.lst (L.map fun p => V.ref p.1)))))
theorem pe_ss {a : Expr} {ta : TE} {p p2 q pos : Pos} (hc : X.calm = true) (hu : X.A.units + 64 < cLine) (hg : Gl X "sorted") (hm : X.mg "sorted" = none) (hg2 : Gl X "set") (hm2 : X.mg "set" = none) (ha : PE X a ta)
    (na : starEach [a] X.env = (false, eval a X.env) :: starEach [] X.env := by rfl) : PE X (.Call (.Name "sorted" p) [.Call (.Name "set" p2) [a] [] q] [] pos) (tSS X.K ta) := by
  refine ⟨fun pins s σ H Q I h => ?_⟩
  refine Call_ (ld_blt I hg hm (by decide +kernel : bootBuiltins "sorted" = some (.builtin "sorted")) ?_)
  refine PyProof.Rows.callWith_builtin1 (PyProof.Rows.args_cons ?_ rfl) rfl rfl
  refine Call_ (ld_blt I hg2 hm2 PyProof.Rows.boot_set ?_)
  refine PyProof.Rows.callWith_type1 (PyProof.Rows.args_cons (thn (ha.run pins s σ H _ I h) fun v s1 ⟨x, H1, I1, r1, q1⟩ => PyProof.Rows.args_nil ?_) na) na rfl
  obtain ⟨l, rfl, q1⟩ := q1
  cases r1
  rcases q1 with ⟨ks, hq, hom, hz, q1⟩ | ⟨ks, shape, hq, hk, hsh, hz, q1⟩
  · have fin : ∀ (h' : Heap) (tk : Nat) (L : List Key), SM X.prog X.w h' s1.heap.objs.size L → HadK ks ks.length L → (∀ b o, s1.heap.get? b = some o → h'.get? b = some o) →
        wpAny (model X.prog X.w) X.A (call (.builtin "sorted") [.ref s1.heap.objs.size]) (EP X pins σ Q) X.xe { s1 with heap := h', toks := tk } := fun h' tk L hS g k => by
      have I2 : Inv X pins σ H1 { s1 with heap := h', toks := tk } := I1.kept k
      have hmem : ∀ z, z ∈ L ↔ z ∈ ks := fun z => by rw [g.mem, List.take_length]
      have homL : Hom L := hom.imp (fun h k hk => h k ((hmem k).mp hk)) (fun h k hk => h k ((hmem k).mp hk))
      obtain ⟨_, _, _, _, _, _, _, _, _, hnd, _⟩ := id hS
      refine sorted_sm hS (I1.ok.hd hc) homL fun s' p out c ks' k2 g2 o2 hp hg3 hi pm pw => ?_
      have e : ks' = ssG kLt1 ks := asc_ext lin_key (asc_of lin_key (pm.nodup_iff.mpr hnd) pw) (ssG_asc lin_key ks) fun z => by rw [pm.mem_iff, hmem, ssG_mem]
      refine ss_end I2 k2 g2 o2 hp hg3 (e ▸ vals_kV hi) ?_ fun hn => q1 p hn
      rw [← e, List.length_map, pm.length_eq, sizeLine_eq]
      have := g.len
      omega
    rcases hq with hq | hq
    · obtain ⟨its, r, pl, _⟩ := I1.list hq
      exact call_setKL ks (I1.ok.hd hc) pl.isList (by simpa using items_are r) hz fun h' tk L hS g k => PyProof.Rows.args_nil (fin h' tk L hS g k)
    · obtain ⟨its, r, pl, _⟩ := I1.tuple hq
      exact call_setK ks (I1.ok.hd hc) pl (by simpa using items_are r) hz fun h' tk L hS g k => PyProof.Rows.args_nil (fin h' tk L hS g k)
  · have hI : ∀ p ∈ ks, IsM X.prog X.w s1.heap p.2 p.1 := fun p hp => Inv.isM I1 (hk p hp)
    have fin : ∀ (h' : Heap) (tk : Nat) L es ep t, GS.St X.prog X.w h' s1.heap.objs.size L es ep t → Had ks ks.length L → (∀ b o, s1.heap.get? b = some o → h'.get? b = some o) →
        wpAny (model X.prog X.w) X.A (call (.builtin "sorted") [.ref s1.heap.objs.size]) (EP X pins σ Q) X.xe { s1 with heap := h', toks := tk } := fun h' tk L es ep t hS g k => by
      have I2 : Inv X pins σ H1 { s1 with heap := h', toks := tk } := I1.kept k
      have hsub : ∀ q ∈ L, q ∈ ks := fun q hq => by have := g.sub q hq; rwa [List.take_length] at this
      refine GS.sorted_set hS (I1.ok.hd hc) shape (fun q hq => hsh q (hsub q hq)) fun s' p out c L' k2 g2 o2 hp hg3 ho pm pw => ?_
      have e : L'.map (·.2) = ssG kLt (ks.map (·.2)) := by
        refine asc_ext lin_row (asc_of lin_row ((pm.map (·.2)).nodup_iff.mpr hS.nd) (List.pairwise_map.mpr pw)) (ssG_asc lin_row _) fun z => ?_
        rw [(pm.map (·.2)).mem_iff, ssG_mem]
        constructor
        · intro hz
          obtain ⟨q, hq, e⟩ := List.mem_map.mp hz
          exact List.mem_map.mpr ⟨q, hsub q hq, e⟩
        · intro hz
          obtain ⟨q, hq, e⟩ := List.mem_map.mp hz
          rw [← e]
          exact g.all q (by rw [List.take_length]; exact hq)
      refine ss_end I2 k2 g2 o2 hp hg3 (by rw [ho]; exact vals_refs' L') ?_ fun hn => q1 L' p (fun q hq => hsub q (pm.mem_iff.mp hq)) e hn
      rw [List.length_map, pm.length_eq, sizeLine_eq]
      have := hS.few
      omega
    rcases hq with hq | hq
    · obtain ⟨its, r, pl, _⟩ := I1.list hq
      exact call_set_l ks (I1.ok.hd hc) pl.isList (by simpa using refs_vals r) hI hz (by omega) fun h' tk L es ep t hS g k => PyProof.Rows.args_nil (fin h' tk L es ep t hS g k)
    · obtain ⟨its, r, pl, _⟩ := I1.tuple hq
      exact call_set ks (I1.ok.hd hc) pl (by simpa using refs_vals r) hI hz (by omega) fun h' tk L es ep t hS g k => PyProof.Rows.args_nil (fin h' tk L es ep t hS g k)
theorem ed_ss {a : Expr} {f : DE → R RV} {p p2 q pos : Pos} (hc : X.calm = true) (hu : X.A.units + 64 < cLine) (hm : X.mg "sorted" = none) (hm2 : X.mg "set" = none) (ha : Ed X H0 W a f) (hg : Gl X "sorted" := by rfl) (hg2 : Gl X "set" := by rfl)
    (na : starEach [a] X.env = (false, eval a X.env) :: starEach [] X.env := by rfl) : Ed X H0 W (.Call (.Name "sorted" p) [.Call (.Name "set" p2) [a] [] q] [] pos) (fUn dSS f) := by
  refine PE.imp (pe_ss hc hu hg hm hg2 hm2 ha na) fun σ H Q h => ?_
  obtain ⟨G, δ, s, sl, h⟩ := h
  refine ⟨G, δ, s, sl, post_bind (f := fun d => dSS d) h fun v d H1 G1 g1 p1 h1 => ?_⟩
  have key : ∀ {l : Addr} {xs : List V} {ds : List D}, (SqL X.K H1 l xs ∨ SqT X.K H1 l xs) → DpAll X.K X.M G1 xs ds → seqDs d = some ds → v = .ref l → ∃ l, v = .ref l ∧
      ((∃ ks : List Key, (SqL X.K H1 l (ks.map kV) ∨ SqT X.K H1 l (ks.map kV)) ∧ Hom ks ∧ ks.length + 1 < 4096 ∧ ∀ p, H1 p = none → Q (.ref p) (upd H1 p (.lst ((ssG kLt1 ks).map kV)))) ∨
       (∃ (ks : List GS.Row) (shape : Nat → Bool), (SqL X.K H1 l (ks.map fun p => V.ref p.1) ∨ SqT X.K H1 l (ks.map fun p => V.ref p.1)) ∧ (∀ p ∈ ks, SqT X.K H1 p.1 (p.2.map kV)) ∧ (∀ p ∈ ks, Shp shape 0 p.2 ∧ p.2 ≠ []) ∧ ks.length < 2048 ∧
          ∀ (L : List GS.Row) p, (∀ q ∈ L, q ∈ ks) → L.map (·.2) = ssG kLt (ks.map (·.2)) → H1 p = none → Q (.ref p) (upd H1 p (.lst (L.map fun p => V.ref p.1))))) := fun {l xs ds} hq a e ev => by
    subst ev
    refine ⟨l, rfl, ?_⟩
    unfold dSS at h1
    simp only [e] at h1
    cases ec : ds.mapM cellD with
    | some ks =>
      simp only [ec] at h1
      by_cases c : homB ks = true ∧ ks.length + 1 < 4096
      · rw [if_pos c] at h1
        obtain ⟨e1, e2, e3⟩ := dp_cells a ec
        subst e1
        refine .inl ⟨ks, hq, hom_ok c.1, c.2, fun p hp => ?_⟩
        exact new_own g1.gh hp (dp_keys fun k hk => e3 k ((ssG_mem kLt1 k ks).mp hk)) h1
      · rw [if_neg c] at h1; exact h1.elim
    | none =>
      simp only [ec] at h1
      cases er : ds.mapM rowD with
      | some rs =>
        simp only [er] at h1
        by_cases c : uniB rs = true ∧ rs.length < 2048
        · rw [if_pos c] at h1
          obtain ⟨ks, e1, e2, e3⟩ := dp_rows a er
          subst e1; subst e2
          obtain ⟨shape, hsh⟩ := uni_ok c.1
          refine .inr ⟨ks, shape, hq, fun p hp => same_t g1.gh (e3 p hp).1, fun p hp => hsh _ (List.mem_map.mpr ⟨p, hp, rfl⟩), by have := c.2; rwa [List.length_map] at this, fun L p hL eL hp => ?_⟩
          have eD : (L.map fun p => D.tup (p.2.map keyD)) = (ssG kLt (ks.map (·.2))).map fun k => .tup (k.map keyD) := by
            rw [← eL, List.map_map]
            rfl
          rw [← eD] at h1
          exact new_own g1.gh hp (dp_refs fun q hq => (e3 q (hL q hq)).2) h1
        · rw [if_neg c] at h1; exact h1.elim
      | none => simp only [er] at h1; exact h1.elim
  cases p1 with
  | lst r a => exact key (.inl (.inl (same_rd g1.gh r))) a rfl rfl
  | tup r a => exact key (.inr (same_t g1.gh r)) a rfl rfl
  | _ => exact h1.elim
end
end DL


set_option maxRecDepth 100000
set_option maxHeartbeats 4000000
namespace DL
open PySem PySem.Spec PyProof.Rows L2

section
variable {X : Cx} {H0 G0 : Hp} {W : WX}
/-! ### attributes -/
/-- what a class must have so that f is an attribute of its objects alone -/
def FldC (K : PySem.W.Frag) (mg : Str → Option Value) (f c : Str) : Prop := ∀ C, mg c = some (.ref C) → Cls K C ∧ NoAttr K C f
def dFld (cs : List Str) (f : Str) : D → R RV
  | .obj c fs => if c ∈ cs then (match fs.lookup f with | some d => okd d | none => .stuck) else .stuck
  | _ => .stuck
theorem ed_fld {e : Expr} {f : Str} {pos : Pos} {fe : DE → R RV} (cs : List Str) (hC : ∀ c ∈ cs, FldC X.K X.mg f c) (he : Ed X H0 W e fe) (hb : attributeBase e f X.env (eval e X.env) = eval e X.env := by rfl) : Ed X H0 W (.Attribute e f pos) (fUn (dFld cs f) fe) := by
  refine PE.imp (pe_fld he hb) fun σ H Q h => ?_
  obtain ⟨G, δ, s, sl, h⟩ := h
  refine ⟨G, δ, s, sl, post_bind (f := fun d => dFld cs f d) h fun v d H1 G1 g1 p1 h1 => ?_⟩
  cases p1 with
  | obj hm hG pf =>
    rename_i a C dx fs c df
    simp only [dFld] at h1
    by_cases hc : c ∈ cs
    · rw [if_pos hc] at h1
      cases hl : df.lookup f with
      | none => rw [hl] at h1; exact h1.elim
      | some d =>
        rw [hl] at h1
        obtain ⟨v, e1, p⟩ := dpf_look pf hl
        exact ⟨a, C, dx, fs, v, rfl, g1.gh _ _ hG, (hC c hc C hm).1, (hC c hc C hm).2, e1, h1 v H1 G1 (.refl g1.gh) p⟩
    · rw [if_neg hc] at h1; exact h1.elim
  | _ => exact h1.elim
theorem rvqf_look {K : PySem.W.Frag} {mg : Mg} {H0 H G : Hp} {f : Str} {r : RV} : ∀ {fs : List (Str × V)} {frs : List (Str × RV)} {as : List Addr}, RVqF K mg H0 H G fs frs as → frs.lookup f = some r → ∃ v bs, fs.lookup f = some v ∧ RVq K mg H0 H G v r bs ∧ ∀ b ∈ bs, b ∈ as
  | _, _, _, .nil, h => by cases h
  | _, _, _, .cons (f := g) q t d, h => by
    by_cases e : f = g
    · subst e
      rw [List.lookup_cons_self] at h
      cases h
      exact ⟨_, _, List.lookup_cons_self, q, fun b hb => List.mem_append_left _ hb⟩
    · have hb : (f == g) = false := beq_eq_false_iff_ne.mpr e
      rw [List.lookup_cons, hb] at h
      obtain ⟨v, bs, h1, h2, h3⟩ := rvqf_look t h
      exact ⟨v, bs, by rw [List.lookup_cons, hb]; exact h1, h2, fun b hb => List.mem_append_right _ (h3 b hb)⟩
/-- x.f with x an own object in slot i, f frozen -/
def fOwnF (cs : List Str) (f : Str) (i : Nat) (δ : DE) : R RV := match δ[i]? with
  | some (some (.oo o c fs)) => if c ∈ cs then (match fs.lookup f with | some (.fr d) => okd d | _ => .stuck) else .stuck
  | _ => .stuck
theorem ed_ownF {x : Str} {f : Str} {pos px : Pos} (i : Nat) (cs : List Str) (hC : ∀ c ∈ cs, FldC X.K X.mg f c) (hN : X.N[i]? = some x := by rfl) (hv : Vis X.env.scope x := by first | exact Or.inl rfl | exact Or.inr (Or.inl rfl) | exact Or.inr (Or.inr rfl)) (hd : (x == ("__debug__" : Str)) = false := by decide)
    (hcd : (x == ("__classdict__" : Str)) = false := by decide) (hb : attributeBase (.Name x px) f X.env (eval (.Name x px) X.env) = eval (.Name x px) X.env := by rfl) : Ed X H0 W (.Attribute (.Name x px) f pos) (fOwnF cs f i) := by
  refine PE.imp (pe_fld (pe_var hN hv hd hcd) hb) fun σ H Q h => ?_
  obtain ⟨G, δ, s, sl, h⟩ := h
  unfold fOwnF at h
  split at h
  · rename_i o c fs e
    by_cases hc : c ∈ cs
    · rw [if_pos hc] at h
      split at h
      · rename_i d el
        obtain ⟨v, e1, as, q⟩ := sl.at_ i _ e
        cases q with
        | oo hm hH hG h0 qf nd =>
          obtain ⟨v, bs, l1, q1, _⟩ := rvqf_look qf el
          cases q1 with
          | fr p => exact ⟨_, e1, _, _, _, _, v, rfl, hH, (hC c hc _ hm.1).1, (hC c hc _ hm.1).2, l1, h v H G (.refl s) p⟩
      · exact h.elim
    · rw [if_neg hc] at h; exact h.elim
  · exact h.elim
/-! x.f = e -/
def putR (f : Str) (r : RV) : List (Str × RV) → List (Str × RV)
  | [] => [(f, r)]
  | (g, x) :: t => if g = f then (g, r) :: t else (g, x) :: putR f r t
theorem rvqf_put {K : PySem.W.Frag} {mg : Mg} {H0 H G : Hp} {f : Str} {v : V} {r : RV} {bs : List Addr} (q : RVq K mg H0 H G v r bs) : ∀ {fs : List (Str × V)} {frs : List (Str × RV)} {as : List Addr}, RVqF K mg H0 H G fs frs as → (∀ b ∈ bs, b ∉ as) →
    ∃ cs, RVqF K mg H0 H G (putF f v fs) (putR f r frs) cs ∧ ∀ c ∈ cs, c ∈ as ∨ c ∈ bs
  | _, _, _, .nil, _ => ⟨_, .cons q .nil (fun b _ h => nomatch h), fun c hc => .inr (by simpa using hc)⟩
  | _, _, _, .cons (f := g) (as := as1) (bs := as2) qv t d, hd => by
    by_cases e : g = f
    · refine ⟨bs ++ as2, ?_, fun c hc => ?_⟩
      · simp only [putF, putR, if_pos e]
        exact .cons q t fun b hb h => hd b hb (List.mem_append_right _ h)
      · rcases List.mem_append.mp hc with h | h
        · exact .inr h
        · exact .inl (List.mem_append_right _ h)
    · obtain ⟨cs, q2, h2⟩ := rvqf_put q t fun b hb h => hd b hb (List.mem_append_right _ h)
      refine ⟨as1 ++ cs, ?_, fun c hc => ?_⟩
      · simp only [putF, putR, if_neg e]
        refine .cons qv q2 fun b hb h => ?_
        rcases h2 b h with h | h
        · exact d b hb h
        · exact hd b h (List.mem_append_left _ hb)
      · rcases List.mem_append.mp hc with h | h
        · exact .inl (List.mem_append_left _ h)
        · rcases h2 c h with h | h
          · exact .inl (List.mem_append_right _ h)
          · exact .inr h
theorem rvqf_len {K : PySem.W.Frag} {mg : Mg} {H0 H G : Hp} : ∀ {fs : List (Str × V)} {frs : List (Str × RV)} {as : List Addr}, RVqF K mg H0 H G fs frs as → fs.length = frs.length
  | _, _, _, .nil => rfl
  | _, _, _, .cons _ t _ => congrArg (· + 1) (rvqf_len t)
def sFldS (cs : List Str) (f : Str) (i : Nat) (g : DE → R RV) (δ : DE) : SR := lift (g δ) δ fun r => match δ[i]? with
  | some (some (.oo o c fs)) => if c ∈ cs ∧ fs.length < 1000 then .nx (δ.set i (some (.oo o c (putR f r fs)))) else .stuck
  | _ => .stuck
theorem sd_fld {x : Str} {f : Str} {value : Expr} {g : DE → R RV} {pos pos' px : Pos} (i : Nat) (cs : List Str) (hC : ∀ c ∈ cs, FldC X.K X.mg f c) (he : Ed X H0 W value g) (hN : X.N[i]? = some x := by rfl) (hv : Vis X.env.scope x := by first | exact Or.inl rfl | exact Or.inr (Or.inl rfl) | exact Or.inr (Or.inr rfl))
    (hd : (x == ("__debug__" : Str)) = false := by decide) (hcd : (x == ("__classdict__" : Str)) = false := by decide) (hs : swapsWith value (some (.Attribute (.Name x px) f pos')) pos.line X.env = pure false := by rfl) :
    Sd X H0 G0 W (.Assign [.Attribute (.Name x px) f pos'] value pos) (sFldS cs f i g) := by
  refine PS.imp (ps_fld (pe_var hN hv hd hcd) he hs) fun D σ H h => ?_
  obtain ⟨G, δ, gr, sl, h⟩ := h
  refine lift_core gr sl h fun r v H1 G1 e1 g1 g2 sl1 p1 h1 => ?_
  split at h1
  · rename_i o c fs e
    by_cases hc : c ∈ cs ∧ fs.length < 1000
    · rw [if_pos hc] at h1
      obtain ⟨u, eu, as, q⟩ := sl1.at_ i _ e
      cases q with
      | oo hm hH hG h0 qf nd =>
        rename_i a C dx vs as
        obtain ⟨bs, qr⟩ := p1.q
        have qr' := qr.back gr.hh
        -- what is new is known to no slot
        have fresh : ∀ b ∈ bs, H b = none := fun b hb => (qr.ow b hb).2.2
        have old : ∀ (j : Nat) (r' : RV) (v' : V) (as' : List Addr), δ[j]? = some (some r') → σ[j]? = some (some v') → RVq X.K X.M H0 H1 G1 v' r' as' → ∀ b ∈ as', H b ≠ none := fun j r' v' as' ej es qj b hb => by
          obtain ⟨w, ew, pw⟩ := sl.at_ j r' ej
          rw [es] at ew; cases ew
          obtain ⟨cs, kq⟩ := pw.q
          have z := (kq.mono g1).one qj
          subst z
          obtain ⟨⟨o, ho, _⟩, _⟩ := kq.ow b hb
          rw [ho]; exact fun z => nomatch z
        have olda : ∀ b ∈ a :: as, H b ≠ none := old i _ _ _ e eu (.oo hm hH hG h0 qf nd)
        have nab : ∀ b ∈ bs, b ∉ a :: as := fun b hb hb' => olda b hb' (fresh b hb)
        obtain ⟨ds, qp, hp⟩ := rvqf_put (f := f) qr' qf fun b hb h => nab b hb (List.mem_cons_of_mem _ h)
        have na : a ∉ ds := fun h => (hp a h).elim nd fun h => nab a h List.mem_cons_self
        have qn : RVq X.K X.M H0 (upd H1 a (.ins C dx (putF f v vs))) G1 (.ref a) (.oo o c (putR f r fs)) (a :: ds) :=
          .oo hm upd_same hG h0 (qp.keep fun b hb => upd_ne fun z => na (z ▸ hb)) na
        refine ⟨_, eu, a, C, dx, vs, rfl, hH, (hC c hc.1 C hm.1).1, (hC c hc.1 C hm.1).2, by rw [rvqf_len qf]; exact hc.2, ?_⟩
        refine h1 σ _ G1 (g2.upd hG h0) (Same.refl _) ?_
        refine sl1.chg e eu (.oo hm hH hG h0 qf nd) qn (fun b _ hb => upd_ne fun z => hb (z ▸ List.mem_cons_self)) fun b hb => ?_
        rcases List.mem_cons.mp hb with e' | hb
        · exact .inl (e' ▸ List.mem_cons_self)
        · rcases hp b hb with h | h
          · exact .inl (List.mem_cons_of_mem _ h)
          · exact .inr fun j r' v' as' ej es qj _ hb' => old j r' v' as' ej es qj b hb' (fresh b h)
    · rw [if_neg hc] at h1; exact h1.elim
  · exact h1.elim
end

/-! ### a class is called -/
section
variable {X : Cx} {H0 G0 : Hp} {W : WX}
/-- __init__'s promise: g tells the object -/
def spI (K : PySem.W.Frag) (mg : Mg) (c : Str) (g : List D → R RV) : Sp := fun vs H Q E => ∃ (x C dx : Addr) (vs' : List V) (Hb G : Hp) (ds : List D), vs = .ref x :: vs' ∧ mg c = some (.ref C) ∧ Hb x = none ∧ Hb dx = none ∧ dx ≠ x ∧ H = upd (upd Hb dx (.own x)) x (.ins C dx []) ∧
  Same G Hb ∧ DpAll K mg G vs' ds ∧ match g ds with
    | .ok r => ∀ H2 G2, Gr Hb G H2 G2 → RVp K mg Hb H2 G2 (.ref x) r → Q .non H2
    | .ex c fs => postX K mg Hb G E c fs
    | .stuck => False
structure MakD (P : Program) (w : World) (K : PySem.W.Frag) (mg : Str → Option Value) (base : Heap) (k : Nat) (c : Str) (g : List D → R RV) : Prop where
  ex : ∃ (C f : Addr) (fd : FuncData) (ps : List Str), Mk K C f ∧ mg c = some (.ref C) ∧ FnOk P w K mg base (L2N.CX P w) k f fd ps (spI K ⟨mg, P, w⟩ c g) ∧ Binds K fd ps []
theorem run_makeS {CX : CXT} {k : Nat} {f C : Addr} {fd : FuncData} {ps : List Str} {sp : Sp} {E : L2.St → XK} {pins : List (Addr × Obj)} {σ : L2.St} {H : Hp} {s : Shared} {Q : VK} {us : List Value} {vs : List V} (M : Mk X.K C f) (F : FnOk X.prog X.w X.K X.mg X.base CX k f fd ps sp) (hr : Room (k + 1) X.A) (hb : Binds X.K fd ps [])
    (hx : PassesAt CX X σ (E σ)) (I : Inv X pins σ H s) (r : Vals vs us)
    (h : ∀ x dx, H x = none → H dx = none → dx ≠ x → sp (.ref x :: vs) (upd (upd H dx (.own x)) x (.ins C dx [])) (fun v H2 => v = .non ∧ Q (.ref x) H2) (E σ)) :
    wpAny (model X.prog X.w) X.A (call (.ref C) us) (EP X pins σ Q) X.xe s := by
  have hq := h (s.heap.objs.size + 1) s.heap.objs.size (I.hok.fresh (Nat.le_succ _)) (I.hok.fresh (Nat.le_refl _)) (Nat.ne_of_lt (Nat.lt_succ_self _))
  have I2 := Inv.made (C := C) I
  have r2 : Vals (V.ref (s.heap.objs.size + 1) :: vs) (Value.ref (s.heap.objs.size + 1) :: us) := .cons rfl r
  have hl : (Value.ref (s.heap.objs.size + 1) :: us ++ []).length = ps.length := by
    rw [List.append_nil]
    have e := r2.length
    rw [F.len _ _ _ _ hq] at e
    exact e.symm
  have hb2 := hb _ (Value.ref (s.heap.objs.size + 1) :: us) I2.kIn hl
  rw [List.append_nil] at hb2
  refine wpAny_call (make_map (f := f) I.kIn M.makes M.init (beq_iff_eq.mp M.fn) (codeAny_mono (F.run _ X.stack _ _ ⟨Value.ref (s.heap.objs.size + 1) :: us, []⟩ (Value.ref (s.heap.objs.size + 1) :: us) _ _ (E σ) (hr.make C us [])
    (I2.env0.make C us []) hb2 r2 hq) fun r s' hq' => ?_))
  cases r with
  | error e => exact hx pins _ _ e s' I2 hq'
  | ok fl =>
    cases fl with
    | ret u =>
      obtain ⟨v, H', I3, rv, ev, q3⟩ := I2.after hq'
      subst ev
      exact ⟨rv, ⟨V.ref (s.heap.objs.size + 1), H', I3, rfl, q3⟩⟩
    | next => exact False.elim hq'
    | brk => exact False.elim hq'
    | cont => exact False.elim hq'
theorem ed_make {k j : Nat} {A0 : Around} {x : Str} {g : List D → R RV} {fa : DE → R (List D)} {p pos : Pos} {e : Expr} {es : List Expr} (c : MakD X.prog X.w X.K X.mg X.base k x g) (hr : Room j A0) (hk : k + 1 ≤ j) (tk : L2N.Takes X W) (ha : Ad X H0 W (e :: es) fa) (hA : X.A = A0 := by rfl) (hg : Gl X x := by rfl)
    (hdb : (x == ("__debug__" : Str)) = false := by decide) (he : starEach (e :: es) X.env = (false, eval e X.env) :: starEach es X.env := by rfl) (hpl : (backTo pos (starEach es X.env)).any (·.1) = false := by rfl) :
    Ed X H0 W (.Call (.Name x p) (e :: es) [] pos) (fCall g fa) := by
  obtain ⟨C, f, fd, ps, M, hm, F, hb⟩ := c.ex
  subst hA
  refine ⟨fun pins s σ H Q I h => ?_⟩
  refine wpAny_Call_Name_kw (ld_glob I hg hm ?_ hdb)
  have core := call_core (r := fun vs H1 (Q : VK) => ∃ (G : Hp) (ds : List D), Same G H1 ∧ DpAll X.K X.M G vs ds ∧ post X.K X.M H1 G (fun c d H' => W c d σ H') Q (g ds)) σ H Q h fun vs H1 G1 ds s p h => ⟨G1, ds, s, p, h⟩
  refine PySem.W.callWith_K (h₀ := X.base) I.ok.mod.kin M.kp (thn (ha.run pos pins s σ H _ I core) fun us s1 ⟨vs, H1, I1, r, G, ds, sg, pa, q⟩ => ⟨I1.kIn, ?_⟩) he hpl
  refine run_makeS (E := fun σ => WE W σ) M F (hr.mono hk) hb (L2N.passAt tk σ) I1 r fun y dx hy hdx hne => ⟨y, C, dx, vs, H1, G, ds, rfl, hm, hy, hdx, hne, rfl, sg, pa, ?_⟩
  cases hgd : g ds with
  | ok r => rw [hgd] at q; exact fun H2 G2 g2 p2 => ⟨rfl, q _ H2 G2 g2 p2⟩
  | ex c fs => rw [hgd] at q; exact q
  | stuck => rw [hgd] at q; exact q
/-- the object at x, out of its slot -/
def selfOf (x : Addr) : Option (Option RV) → R RV
  | some (some (.oo (some y) c fs)) => if y = x then .ok (.oo none c fs) else .stuck
  | _ => .stuck
theorem selfOf_ok {x : Addr} {o : Option (Option RV)} {r : RV} (h : selfOf x o = .ok r) : ∃ c fs, o = some (some (.oo (some x) c fs)) ∧ r = .oo none c fs := by
  unfold selfOf at h
  split at h
  · rename_i y c fs
    by_cases e : y = x
    · rw [if_pos e] at h; cases h; exact ⟨c, fs, by rw [e], rfl⟩
    · rw [if_neg e] at h; cases h
  · cases h
theorem selfOf_ex {x : Addr} {o : Option (Option RV)} {c : Str} {fs : List (Str × D)} : selfOf x o ≠ .ex c fs := fun h => by
  unfold selfOf at h
  split at h
  · split at h <;> cases h
  · cases h
/-- what an __init__ makes, the object being at x -/
def runI (x : Addr) (c : Str) (n N : Nat) (F : DE → SR) (ds : List D) : R RV := if ds.length = n then (match F (some (RV.oo (some x) c []) :: ds.map (fun d => some (RV.fr d)) ++ List.replicate (N - (n + 1)) none) with
  | .nx δ' => selfOf x δ'[0]?
  | .ex c fs _ => .ex c fs
  | _ => .stuck) else .stuck
open Classical in
/-- .. wherever it is -/
noncomputable def mkI (c : Str) (n N : Nat) (F : DE → SR) (ds : List D) : R RV := if h : ∃ r, ∀ x, runI x c n N F ds = r then h.choose else .stuck
theorem mkI_of {c : Str} {n N : Nat} {F : DE → SR} {ds : List D} {r : R RV} (h : ∀ x, runI x c n N F ds = r) : mkI c n N F ds = r := by
  have hx : ∃ r, ∀ x, runI x c n N F ds = r := ⟨r, h⟩
  unfold mkI
  rw [dif_pos hx]
  exact (hx.choose_spec 0).symm.trans (h 0)
theorem mkI_at {c : Str} {n N : Nat} {F : DE → SR} {ds : List D} (h : mkI c n N F ds ≠ .stuck) (x : Addr) : runI x c n N F ds = mkI c n N F ds := by
  by_cases hx : ∃ r, ∀ x, runI x c n N F ds = r
  · unfold mkI
    rw [dif_pos hx]
    exact hx.choose_spec x
  · unfold mkI at h
    rw [dif_neg hx] at h
    exact absurd rfl h
theorem runI_len {x : Addr} {c : Str} {ds : List D} {n M : Nat} {F : DE → SR} (h : runI x c n M F ds ≠ .stuck) : ds.length = n := by
  unfold runI at h
  by_cases hl : ds.length = n
  · exact hl
  · rw [if_neg hl] at h; exact absurd rfl h
end
section
variable {K : PySem.W.Frag} {mg : Mg}
theorem up2_at {H : Hp} {x dx b : Addr} {u u2 : HO} (h1 : H x = none) (h2 : H dx = none) : ∀ o, H b = some o → upd (upd H dx u) x u2 b = some o := fun o e => by
  rw [upd_ne (ne_of_none e h1), upd_ne (ne_of_none e h2)]; exact e
theorem sl_startI {Hb G : Hp} {c : Str} {x C dx : Addr} {vs : List V} {ds : List D} (N : List Str) (hm : mg c = some (.ref C)) (hx : Hb x = none) (hdx : Hb dx = none) (sg : Same G Hb) (a : DpAll K mg G vs ds) :
    Sl K mg Hb (upd (upd Hb dx (.own x)) x (.ins C dx [])) G (L2.start N (.ref x :: vs)) (some (RV.oo (some x) c []) :: ds.map (fun d => some (RV.fr d)) ++ List.replicate (N.length - (ds.length + 1)) none) := by
  have hG : G x = none := by
    cases e : G x with
    | none => rfl
    | some o => have := sg _ _ e; rw [hx] at this; cases this
  have q0 : RVq K mg Hb (upd (upd Hb dx (.own x)) x (.ins C dx [])) G (.ref x) (.oo (some x) c []) (x :: []) := .oo ⟨hm, fun y e => (Option.some.inj e).symm⟩ upd_same hG hx .nil (by simp)
  have fr : ∀ (i : Nat) r, (ds.map (fun d => some (RV.fr d)) ++ List.replicate (N.length - (ds.length + 1)) none)[i]? = some (some r) → ∃ d, ds[i]? = some d ∧ r = .fr d := fun i r e => by
    rw [List.getElem?_append] at e
    split at e
    · rw [List.getElem?_map] at e
      cases h : ds[i]? with
      | none => rw [h] at e; cases e
      | some d => rw [h] at e; cases e; exact ⟨d, rfl, rfl⟩
    · rw [List.getElem?_replicate] at e
      split at e <;> cases e
  refine ⟨?_, fun i r e => ?_, fun i j r r' v v' as as' b e e' _ _ q q' m m' => ?_⟩
  · unfold L2.start
    simp [a.len]
  · cases i with
    | zero =>
      rw [List.cons_append, List.getElem?_cons_zero] at e
      cases e
      exact ⟨.ref x, rfl, q0.p⟩
    | succ i =>
      rw [List.cons_append, List.getElem?_cons_succ] at e
      obtain ⟨d, e1, rfl⟩ := fr i r e
      obtain ⟨v, e2, p⟩ := a.get e1
      refine ⟨v, ?_, p⟩
      unfold L2.start
      rw [List.map_cons, List.cons_append, List.getElem?_cons_succ, List.getElem?_append_left (by
        rw [List.length_map]
        rcases Nat.lt_or_ge i vs.length with h | h
        · exact h
        · rw [List.getElem?_eq_none h] at e2; cases e2), List.getElem?_map, e2]
      rfl
  · have z : ∀ (i : Nat) (r : RV) (v : V) (as : List Addr) (b : Addr), (some (RV.oo (some x) c []) :: ds.map (fun d => some (RV.fr d)) ++ List.replicate (N.length - (ds.length + 1)) none)[i]? = some (some r) → RVq K mg Hb (upd (upd Hb dx (.own x)) x (.ins C dx [])) G v r as → b ∈ as → i = 0 := fun i r v as b e q m => by
      cases i with
      | zero => rfl
      | succ i =>
        rw [List.cons_append, List.getElem?_cons_succ] at e
        obtain ⟨d, _, rfl⟩ := fr i r e
        rw [own_nil q rfl] at m
        cases m
    rw [z i r v as b e q m, z j r' v' as' b e' q' m']
theorem runI_ends {Hb G : Hp} {E : XK} {Q : VK} {c : Str} {x C dx : Addr} {vs : List V} {ds : List D} {N : List Str} {F : DE → SR} (hm : mg c = some (.ref C)) (hx : Hb x = none) (hdx : Hb dx = none) (sg : Same G Hb) (a : DpAll K mg G vs ds)
    (h : match mkI c ds.length N.length F ds with
      | .ok r => ∀ H2 G2, Gr Hb G H2 G2 → RVp K mg Hb H2 G2 (.ref x) r → Q .non H2
      | .ex c fs => postX K mg Hb G E c fs
      | .stuck => False) :
    tS K mg Hb G (wF E) F { nx := fun _ H' => Q .non H', rt := Q } (L2.start N (.ref x :: vs)) (upd (upd Hb dx (.own x)) x (.ins C dx [])) := by
  have g0 : Gr Hb G (upd (upd Hb dx (.own x)) x (.ins C dx [])) G := ⟨fun b o e => up2_at hx hdx o e, Same.refl _, fun b o e => up2_at hx hdx o (sg _ _ e), fun _ _ => rfl⟩
  refine ⟨G, _, g0, sl_startI N hm hx hdx sg a, ?_⟩
  have hns : mkI c ds.length N.length F ds ≠ .stuck := fun z => by rw [z] at h; exact h
  rw [← mkI_at hns x] at h
  unfold runI at h
  rw [if_pos rfl] at h
  generalize F (some (RV.oo (some x) c []) :: ds.map (fun d => some (RV.fr d)) ++ List.replicate (N.length - (ds.length + 1)) none) = y at h
  cases y with
  | nx δ' =>
    intro σ' H' G' g' _ sl
    simp only at h
    cases es : selfOf x δ'[0]? with
    | ok r =>
      rw [es] at h
      obtain ⟨c', fs, e, rfl⟩ := selfOf_ok es
      obtain ⟨v, ev, as, q⟩ := sl.at_ 0 _ e
      cases q with
      | oo hm hH hG h0 qf nd =>
        have z := hm.2 _ rfl
        subst z
        exact h H' G' g' ⟨_, .oo ⟨hm.1, fun _ z => nomatch z⟩ hH hG h0 qf nd⟩
    | ex c fs => exact absurd es selfOf_ex
    | stuck => rw [es] at h; exact h.elim
  | br δ' => exact h.elim
  | ct δ' => exact h.elim
  | rt r => exact h.elim
  | ex c fs δ' => exact fun cls d σ' H' G' g' _ _ x => h cls d H' G' g' x
  | stuck => exact h
end
section
variable {P : Program} {w : World} {K : PySem.W.Frag} {mg : Str → Option Value} {base : Heap}
/-- an __init__'s body's promise: the heap is that without the object -/
abbrev BodyI (P : Program) (w : World) (K : PySem.W.Frag) (mg : Str → Option Value) (base : Heap) (k : Nat) (N : List Str) (qual : Str) (sc : Scope) (body : List Stmt) (F : DE → SR) : Prop :=
  ∀ (f : Addr) (cdv : Value) (A : Around) (outer : List Env) (s : Shared) (H Hb G : Hp) (E : XK), Room k (cxF P w K mg base N qual sc f cdv A outer s H E).A → L2N.Takes (cxF P w K mg base N qual sc f cdv A outer s H E) (wF E) →
    PassesOwn (model P w) (cxF P w K mg base N qual sc f cdv A outer s H E).A (cxF P w K mg base N qual sc f cdv A outer s H E).env (cxF P w K mg base N qual sc f cdv A outer s H E).xe →
    Bd (cxF P w K mg base N qual sc f cdv A outer s H E) Hb G (wF E) body F
/-- an __init__ by its body -/
theorem fn_i {x qual : Str} {params : Arguments} {body : List Stmt} {sc : Scope} {dvs : List V} {kws : List (Str × V)} {f : Addr} {fd : FuncData} {N ps : List Str} {c : Str} {k n : Nat} {F : DE → SR} (Fn : FunD K x qual params body sc dvs kws f fd) (S : FnScope N ps sc) (hn : ps.length = n + 1)
    (hbody : BodyI P w K mg base k N qual sc body F) : FnOk P w K mg base (L2N.CX P w) (k + 1) f fd ps (spI K ⟨mg, P, w⟩ c (mkI c n N.length F)) := by
  have hl : ∀ {ds : List D} {H Hb G : Hp} {Q : VK} {E : XK} {x : Addr}, (match mkI c n N.length F ds with
      | .ok r => ∀ H2 G2, Gr Hb G H2 G2 → RVp K ⟨mg, P, w⟩ Hb H2 G2 (.ref x) r → Q .non H2
      | .ex c fs => postX K ⟨mg, P, w⟩ Hb G E c fs
      | .stuck => False) → ds.length = n := fun {ds H Hb G Q E x} h => by
    have hns : mkI c n N.length F ds ≠ .stuck := fun z => by rw [z] at h; exact h
    exact runI_len (x := 0) (by rw [mkI_at hns]; exact hns)
  refine Fn.ok S (fun vs H Q E h => ?_) (fun cdv A outer s H vs Q E hr h => ?_)
  · obtain ⟨x, C, dx, vs', Hb, G, ds, rfl, _, _, _, _, _, _, a, h⟩ := h
    rw [List.length_cons, a.len, hl (H := H) h, hn]
  · obtain ⟨x, C, dx, vs', Hb, G, ds, rfl, hm, hx, hdx, hne, rfl, sg, a, h⟩ := h
    have e := hl (H := Hb) h
    subst e
    exact ⟨_, hbody f cdv A outer s _ Hb G E hr (L2N.takes_of rfl rfl rfl rfl) (passes_of rfl), runI_ends hm hx hdx sg a h⟩
end
end DL


set_option maxRecDepth 100000
set_option maxHeartbeats 4000000
namespace DL
open PySem PySem.Spec PyProof.Rows L2

/-! ### dicts -/
abbrev KK := Key ⊕ List Key
def kkOf : D → Option KK
  | .int i => some (.inl (.inl i))
  | .str x => some (.inl (.inr x))
  | .tup ds => (ds.mapM cellD).map .inr
  | _ => none
def kkD : KK → D
  | .inl k => keyD k
  | .inr k => .tup (k.map keyD)
theorem cells_keyD : ∀ k : List Key, (k.map keyD).mapM cellD = some k
  | [] => rfl
  | c :: k => by
    rw [List.map_cons, List.mapM_cons, cells_keyD k]
    cases c <;> rfl
theorem kkOf_kkD : ∀ k : KK, kkOf (kkD k) = some k
  | .inl (.inl i) => rfl
  | .inl (.inr x) => rfl
  | .inr k => by
    show (Option.map _ ((k.map keyD).mapM cellD)) = _
    rw [cells_keyD]
    rfl
theorem kkOf_keyD (k : Key) : kkOf (keyD k) = some (.inl k) := kkOf_kkD (.inl k)
theorem kkOf_tup (k : List Key) : kkOf (.tup (k.map keyD)) = some (.inr k) := kkOf_kkD (.inr k)
def lookD (dk : List (D × D)) (k : KK) : Option D := (dk.find? fun p => decide (kkOf p.1 = some k)).map (·.2)
def putD (dk : List (D × D)) (k : KK) (d : D) : List (D × D) := if (lookD dk k).isSome = true then dk.map (fun p => if kkOf p.1 = some k then (p.1, d) else p) else dk ++ [(kkD k, d)]
/-- all keys are tuples, none is -/
def kindD (t : Bool) (dk : List (D × D)) : Bool := dk.all fun p => match kkOf p.1 with
  | some (.inl _) => !t
  | some (.inr _) => t
  | none => false
def kkT : KK → Bool
  | .inl _ => false
  | .inr _ => true
theorem lookD_nil (k : KK) : lookD [] k = none := rfl
theorem lookD_pos {p : D × D} {r : List (D × D)} {k : KK} (h : kkOf p.1 = some k) : lookD (p :: r) k = some p.2 := by simp [lookD, List.find?_cons, h]
theorem lookD_neg {p : D × D} {r : List (D × D)} {k : KK} (h : ¬ kkOf p.1 = some k) : lookD (p :: r) k = lookD r k := by simp [lookD, List.find?_cons, h]
section
variable {K : PySem.W.Frag} {mg : Mg} {G : Hp}
/-- a value that may be none, as data -/
def RelL (K : PySem.W.Frag) (mg : Mg) (G : Hp) : Option D → Option Value → Prop
  | none, none => True
  | some d, some u => ∃ v, RelV v u ∧ Dp K mg G v d
  | _, _ => False
theorem dk_val {vs : List (Key × V)} {dk : List (D × D)} (a : DpK K mg G vs dk) (k : Key) {o : Option Value} (r : RelO (valV vs k) o) : RelL K mg G (lookD dk (.inl k)) o := by
  induction vs generalizing dk with
  | nil =>
    cases a
    have e : o = none := RelO.none_of r
    subst e
    trivial
  | cons p vs ih =>
    cases a with
    | @cons c v _ d ds kc p t =>
      by_cases h : c = k
      · subst h
        rw [lookD_pos (kkOf_keyD c)]
        rw [valV_pos (rfl : ((c, v) : Key × V).1 = c)] at r
        obtain ⟨u, rfl, ru⟩ := RelO.some_of r
        exact ⟨v, ru, p⟩
      · rw [lookD_neg (by rw [kkOf_keyD]; exact fun z => h (Sum.inl.inj (Option.some.inj z)))]
        rw [valV_neg h] at r
        exact ih t r
theorem dk_kind : ∀ {vs : List (Key × V)} {dk : List (D × D)}, DpK K mg G vs dk → kindD false dk = true
  | _, _, .nil => rfl
  | _, _, .cons (k := k) _ _ t => by
    have := dk_kind t
    simp only [kindD, List.all_cons, Bool.and_eq_true] at this ⊢
    exact ⟨by rw [kkOf_keyD]; rfl, this⟩
theorem dt_kind : ∀ {vs : List (List Key × Addr × V)} {dk : List (D × D)}, DpT K mg G vs dk → kindD true dk = true
  | _, _, .nil => rfl
  | _, _, .cons (k := k) _ _ _ t => by
    have := dt_kind t
    simp only [kindD, List.all_cons, Bool.and_eq_true] at this ⊢
    exact ⟨by rw [kkOf_tup], this⟩
theorem kind_both : ∀ {dk : List (D × D)}, kindD true dk = true → kindD false dk = true → dk = []
  | [], _, _ => rfl
  | p :: dk, h, h' => by
    simp only [kindD, List.all_cons, Bool.and_eq_true] at h h'
    cases e : kkOf p.1 with
    | none => simp only [e] at h; exact absurd h.1 (by decide)
    | some k =>
      cases k with
      | inl k => simp only [e] at h; exact absurd h.1 (by decide)
      | inr k => simp only [e] at h'; exact absurd h'.1 (by decide)
/-- the tuples' dict, with its keys seen -/
def valT (vs : List (List Key × Addr × V)) (k : List Key) : Option V := (vs.find? fun p => decide (p.1 = k)).map (·.2.2)
abbrev PT := Paired (fun (p : List Key × Addr × V) (q : List Key × Addr × Value) => p.1 = q.1 ∧ p.2.1 = q.2.1 ∧ RelV p.2.2 q.2.2)
theorem dt_val {vs : List (List Key × Addr × V)} {dk : List (D × D)} {xs : List (List Key × Addr × Value)} (a : DpT K mg G vs dk) (r : PT vs xs) (k : List Key) : RelL K mg G (lookD dk (.inr k)) ((atKey xs k).map (·.2)) := by
  induction r generalizing dk with
  | nil => cases a; trivial
  | @cons p q ps qs h t ih =>
    cases a with
    | @cons c b v _ d ds sq kc pv tl =>
      obtain ⟨h1, h2, h3⟩ := h
      by_cases e : c = k
      · subst e
        have b : atKey (q :: qs) c = some q.2 := by simp [atKey, List.find?_cons, h1.symm]
        rw [lookD_pos (kkOf_tup c), b]
        exact ⟨v, h3, pv⟩
      · have b : atKey (q :: qs) k = atKey qs k := by
          have : ¬ q.1 = k := fun z => e (h1.trans z)
          simp [atKey, List.find?_cons, this]
        rw [lookD_neg (by rw [kkOf_tup]; exact fun z => e (Sum.inr.inj (Option.some.inj z))), b]
        exact ih tl
end
section
variable {X : Cx}
theorem dt_keys {K : PySem.W.Frag} {mg : Mg} {G : Hp} : ∀ {vs : List (List Key × Addr × V)} {dk : List (D × D)}, DpT K mg G vs dk → ∀ p ∈ vs, SqT K G p.2.1 (p.1.map kV)
  | _, _, .nil, p, h => nomatch h
  | _, _, .cons sq _ _ t, p, h => (List.mem_cons.mp h).elim (fun e => by rw [e]; exact sq) (dt_keys t p)
/-- a dict with ints and texts as keys -/
theorem dvk_of {pins : List (Addr × Obj)} {σ : L2.St} {H G : Hp} {s : Shared} {a : Addr} {dk : List (D × D)} (I : Inv X pins σ H s) (sg : Same G H) (p : Dp X.K X.M G (.ref a) (.dct dk)) (hk : kindD false dk = true) :
    (a == sysModules) = false ∧ ∃ vs : List (Key × Value), s.heap.DictOf (mixKind X.prog X.w) a vs ∧ ∀ k, RelL X.K X.M G (lookD dk (.inl k)) (valueAt vs k) := by
  cases p with
  | dk hG t =>
    obtain ⟨z, hd, vs, rel, dd⟩ := dk_of I.hok (sg _ _ hG)
    exact ⟨hd, vs, dd, fun k => dk_val t k (rel.val k)⟩
  | dt hG t =>
    have e := kind_both (dt_kind t) hk
    subst e
    cases t
    obtain ⟨⟨z, hd, xs, rel, o, es, ep, ho, hex, hdt, hes, _⟩, _, _⟩ := I.hok a _ (sg _ _ hG)
    cases rel
    have e0 : es = #[] := Array.toList_eq_nil_iff.mp hes
    subst e0
    exact ⟨hd, [], ⟨o, #[], ep, ho, hex, hdt, (fun e he => by simp at he), .nil, List.nodup_nil⟩, fun k => trivial⟩
/-- a dict with tuples as keys -/
theorem dvt_of {pins : List (Addr × Obj)} {σ : L2.St} {H G : Hp} {s : Shared} {a : Addr} {dk : List (D × D)} (I : Inv X pins σ H s) (sg : Same G H) (p : Dp X.K X.M G (.ref a) (.dct dk)) (hk : kindD true dk = true) :
    (a == sysModules) = false ∧ ∃ xs : List (List Key × Addr × Value), s.heap.DictOfH (tupleKind (mixKind X.prog X.w)) a xs ∧ ∀ k, RelL X.K X.M G (lookD dk (.inr k)) ((atKey xs k).map (·.2)) := by
  cases p with
  | dk hG t =>
    have e := kind_both hk (dk_kind t)
    subst e
    cases t
    obtain ⟨z, hd, vs, rel, o, es, ep, ho, hex, hdt, _, hp, _⟩ := dk_of I.hok (sg _ _ hG)
    cases rel
    have e0 : es.toList = [] := List.eq_nil_of_length_eq_zero hp.length
    exact ⟨hd, [], ⟨o, es, ep, ho, hex, hdt, e0, (fun x hx => nomatch hx), List.nodup_nil⟩, fun k => trivial⟩
  | dt hG t =>
    obtain ⟨⟨z, hd, xs, rel, o, es, ep, ho, hex, hdt, hes, hn⟩, _, _⟩ := I.hok a _ (sg _ _ hG)
    have hks := dt_keys t
    refine ⟨hd, xs, ⟨o, es, ep, ho, hex, hdt, hes, fun x hx => ?_, hn⟩, fun k => dt_val t rel k⟩
    have all : ∀ {l : List (List Key × Addr × V)} {m : List (List Key × Addr × Value)}, PT l m → (∀ p ∈ l, SqT X.K G p.2.1 (p.1.map kV)) → ∀ x ∈ m, (tupleKind (mixKind X.prog X.w)).is s.heap x.1 x.2.1 := by
      intro l m q
      induction q with
      | nil => intro _ x hx; exact nomatch hx
      | @cons p q ps qs hq tl ih =>
        intro hk x hx
        rcases List.mem_cons.mp hx with e | hx
        · subst e
          have q := Inv.isM I (same_t sg (hk p List.mem_cons_self))
          rw [hq.1, hq.2.1] at q
          exact q
        · exact ih (fun p hp => hk p (List.mem_cons_of_mem _ hp)) x hx
    exact all rel hks x hx
theorem RelL.isSome {K : PySem.W.Frag} {mg : Mg} {G : Hp} {o : Option D} {u : Option Value} (r : RelL K mg G o u) : o.isSome = u.isSome := by
  cases o <;> cases u <;> first | rfl | exact r.elim
/-- a key, as a value -/
theorem dp_kk {K : PySem.W.Frag} {mg : Mg} {G : Hp} {v : V} {d : D} {k : KK} (p : Dp K mg G v d) (h : kkOf d = some k) : (∃ c, k = .inl c ∧ v = kV c ∧ KOk c) ∨ ∃ (c : List Key) (b : Addr), k = .inr c ∧ v = .ref b ∧ SqT K G b (c.map kV) ∧ (∀ x ∈ c, KOk x) ∧ d = .tup (c.map keyD) := by
  cases p with
  | int i => cases h; exact .inl ⟨_, rfl, rfl, trivial⟩
  | str x hx => cases h; exact .inl ⟨_, rfl, rfl, hx⟩
  | tup q t =>
    rename_i a xs ds
    cases e : ds.mapM cellD with
    | none => simp only [kkOf, e] at h; cases h
    | some c =>
      simp only [kkOf, e] at h
      cases h
      obtain ⟨a1, a2, a3⟩ := dp_cells t e
      subst a1; subst a2
      exact .inr ⟨c, a, rfl, rfl, q, a3, rfl⟩
  | _ => cases h
def kindOk (dk : List (D × D)) (k : KK) : Bool := kindD (kkT k) dk
/-! k in d -/
def dInD (neg : Bool) : D → D → R RV
  | y, .dct dk => match kkOf y with
    | some k => if kindOk dk k = true then okd (.bl (if neg then !(lookD dk k).isSome else (lookD dk k).isSome)) else .stuck
    | none => .stuck
  | y, e => dIn neg y e
theorem dInD_ne {neg : Bool} {y e : D} (h : ∀ dk, e ≠ .dct dk) : dInD neg y e = dIn neg y e := by
  unfold dInD
  split
  · exact absurd rfl (h _)
  · rfl
theorem opd_inD {neg : Bool} {op : CmpOp} (hop : op = (if neg then .NotIn else .In)) (hu : X.A.units + 65 < cLine) : OpR X (compareOp op) (rD X.K X.M (dInD neg)) := by
  intro pins s σ H x y v u Q I rx ry ⟨G, d, e, sg, px, py, h⟩
  by_cases hd : ∃ dk, e = .dct dk
  · obtain ⟨dk, rfl⟩ := hd
    obtain ⟨a, rfl⟩ : ∃ a, y = .ref a := by cases py <;> exact ⟨_, rfl⟩
    cases ry
    simp only [dInD] at h
    cases ek : kkOf d with
    | none => simp only [ek] at h; exact h.elim
    | some k =>
      simp only [ek] at h
      by_cases hk : kindOk dk k = true
      · rw [if_pos hk] at h
        rcases dp_kk px ek with ⟨c, rfl, rfl, _⟩ | ⟨c, b, rfl, rfl, sq, _, _⟩
        · obtain ⟨hs, vs, dd, rel⟩ := dvk_of I sg py hk
          have es := (rel c).isSome
          rw [es] at h
          cases neg with
          | true => rw [hop]; exact wpAny_notIn_of (kV_is rx) hs dd.mapOf ⟨.bl (!(valueAt vs c).isSome), H, I.tok _, rfl, h _ H G (.refl sg) (.bl _)⟩
          | false => rw [hop]; exact wpAny_in_of (kV_is rx) hs dd.mapOf ⟨.bl (valueAt vs c).isSome, H, I.tok _, rfl, h _ H G (.refl sg) (.bl _)⟩
        · obtain ⟨hs, xs, dd, rel⟩ := dvt_of I sg py hk
          have es := (rel c).isSome
          rw [Option.isSome_map] at es
          rw [es] at h
          cases rx
          have key := Inv.isM I (same_t sg sq)
          cases neg with
          | true => rw [hop]; exact wpAny_notIn_heap (tupleKind_room_in1 (by omega)) key hs dd ⟨.bl (!(atKey xs c).isSome), H, I.tok _, rfl, h _ H G (.refl sg) (.bl _)⟩
          | false => rw [hop]; exact wpAny_in_heap (tupleKind_room_in1 (by omega)) key hs dd ⟨.bl (atKey xs c).isSome, H, I.tok _, rfl, h _ H G (.refl sg) (.bl _)⟩
      · rw [if_neg hk] at h; exact h.elim
  · rw [dInD_ne fun dk z => hd ⟨dk, z⟩] at h
    exact in_core hop hu pins s σ H x y v u Q I rx ry ⟨G, d, e, sg, px, py, h⟩
theorem opd_inD1 (hu : X.A.units + 65 < cLine) : OpR X (compareOp .In) (rD X.K X.M (dInD false)) := opd_inD rfl hu
theorem opd_inD2 (hu : X.A.units + 65 < cLine) : OpR X (compareOp .NotIn) (rD X.K X.M (dInD true)) := opd_inD rfl hu
theorem dInD_noex {neg : Bool} : ∀ x y c fs, dInD neg x y ≠ .ex c fs := fun x y c fs h => by
  unfold dInD at h
  split at h
  · split at h
    · split at h <;> cases h
    · cases h
  · exact dIn_noex _ _ _ _ h
/-! d[k] -/
def dIxD : D → D → R RV
  | .dct dk, y => match kkOf y with
    | some k => if kindOk dk k = true then (match lookD dk k with | some d => okd d | none => .stuck) else .stuck
    | none => .stuck
  | e, y => dIx e y
theorem dIxD_ne {y e : D} (h : ∀ dk, e ≠ .dct dk) : dIxD e y = dIx e y := by
  unfold dIxD
  split
  · exact absurd rfl (h _)
  · rfl
theorem ixdD (hu : X.A.units + 65 < cLine) : IxR X (rD X.K X.M dIxD) := by
  intro value slice pins s σ H y x u v Q I ry rx ⟨G, e, d, sg, py, px, h⟩ hsl
  by_cases hd : ∃ dk, e = .dct dk
  · obtain ⟨dk, rfl⟩ := hd
    obtain ⟨a, rfl⟩ : ∃ a, y = .ref a := by cases py <;> exact ⟨_, rfl⟩
    cases ry
    simp only [dIxD] at h
    cases ek : kkOf d with
    | none => simp only [ek] at h; exact h.elim
    | some k =>
      simp only [ek] at h
      by_cases hk : kindOk dk k = true
      · rw [if_pos hk] at h
        cases el : lookD dk k with
        | none => rw [el] at h; exact h.elim
        | some d2 =>
          rw [el] at h
          rcases dp_kk px ek with ⟨c, rfl, rfl, _⟩ | ⟨c, b, rfl, rfl, sq, _, _⟩
          · obtain ⟨hs, vs, dd, rel⟩ := dvk_of I sg py hk
            have r := rel c
            rw [el] at r
            cases eu : valueAt vs c with
            | none => rw [eu] at r; exact r.elim
            | some w' =>
              rw [eu] at r
              obtain ⟨v2, rv, p2⟩ := r
              exact subscriptTail_builtinR (x := w') dd.typeIs PySem.F.slot_dict_getitem.lookup (wpAny_getItem_of (Q := fun r s' => r = w' ∧ EP X pins σ Q r s') (kV_is rx) dd.mapOf eu ⟨rfl, v2, H, I.tok _, rv, h _ H G (.refl sg) p2⟩) hsl
          · obtain ⟨hs, xs, dd, rel⟩ := dvt_of I sg py hk
            have r := rel c
            rw [el] at r
            cases eu : atKey xs c with
            | none => rw [eu] at r; exact r.elim
            | some w' =>
              rw [eu] at r
              obtain ⟨v2, rv, p2⟩ := r
              cases rx
              exact subscriptTail_builtinR (x := w'.2) dd.typeIs PySem.F.slot_dict_getitem.lookup (wpAny_getItem_heap (Q := fun r s' => r = w'.2 ∧ EP X pins σ Q r s') (tupleKind_room_in1 (by omega)) (Inv.isM I (same_t sg sq)) dd eu ⟨rfl, v2, H, I.tok _, rv, h _ H G (.refl sg) p2⟩) hsl
      · rw [if_neg hk] at h; exact h.elim
  · rw [dIxD_ne fun dk z => hd ⟨dk, z⟩] at h
    exact ixd value slice pins s σ H y x u v Q I ry rx ⟨G, e, d, sg, py, px, h⟩ hsl
theorem dIxD_noex : ∀ x y c fs, dIxD x y ≠ .ex c fs := fun x y c fs h => by
  unfold dIxD at h
  split at h
  · split at h
    · split at h
      · split at h <;> cases h
      · cases h
    · cases h
  · exact dIx_noex _ _ _ _ h
end
end DL


set_option maxRecDepth 100000
set_option maxHeartbeats 4000000
namespace DL
open PySem PySem.Spec PyProof.Rows L2

section
variable {X : Cx} {H0 G0 : Hp} {W : WX}
theorem isd_of {pins : List (Addr × Obj)} {σ : L2.St} {H G : Hp} {s : Shared} {a : Addr} {dk : List (D × D)} (I : Inv X pins σ H s) (sg : Same G H) (p : Dp X.K X.M G (.ref a) (.dct dk)) :
    s.TypeIs (.ref a) "dict" ∧ (∀ b, Value.ref a = .ref b → ∃ ob, s.heap.get? b = some ob ∧ ob.dict = none) ∧ (a == sysModules) = false := by
  have kind : kindD false dk = true ∨ kindD true dk = true := by
    cases p with
    | dk hG t => exact .inl (dk_kind t)
    | dt hG t => exact .inr (dt_kind t)
  rcases kind with hk | hk
  · obtain ⟨hs, vs, dd, _⟩ := dvk_of I sg p hk
    refine ⟨dd.typeIs, fun b q => ?_, hs⟩
    cases q
    obtain ⟨ob, _, _, h1, h2, _⟩ := dd
    exact ⟨ob, h1, h2.2.1⟩
  · obtain ⟨hs, xs, dd, _⟩ := dvt_of I sg p hk
    refine ⟨dd.typeIs, fun b q => ?_, hs⟩
    cases q
    obtain ⟨ob, _, _, h1, h2, _⟩ := dd
    exact ⟨ob, h1, h2.2.1⟩
/-! d.get(k, x) -/
def isDct : D → Bool
  | .dct _ => true
  | _ => false
def dGet2 : D → D → D → R RV
  | .dct dk, y, z => match kkOf y with
    | some k => if kindOk dk k = true then okd ((lookD dk k).getD z) else .stuck
    | none => .stuck
  | _, _, _ => .stuck
def fGet2 (fo fe ff : DE → R RV) (δ : DE) : R RV := fo δ >>= fun x => if isDct x.d = true then fe δ >>= fun y => ff δ >>= fun z => dGet2 x.d y.d z.d else .stuck
theorem d_getD {pins : List (Addr × Obj)} {σ : L2.St} {H G : Hp} {s : Shared} {a : Addr} {dk : List (D × D)} {y z : V} {d e : D} {u r : Value} {Q : VK} (hu : X.A.units + 65 < cLine) (I : Inv X pins σ H s) (sg : Same G H) (py : Dp X.K X.M G (.ref a) (.dct dk)) (px : Dp X.K X.M G y d) (pz : Dp X.K X.M G z e) (rx : RelV y u) (rz : RelV z r)
    (h : post X.K X.M H G (fun _ _ _ => False) Q (dGet2 (.dct dk) d e)) : wpAny (model X.prog X.w) X.A (call (.builtin "dict.get") [.ref a, u, r]) (EP X pins σ Q) X.xe s := by
  simp only [dGet2] at h
  cases ek : kkOf d with
  | none => simp only [ek] at h; exact h.elim
  | some k =>
    simp only [ek] at h
    by_cases hk : kindOk dk k = true
    · rw [if_pos hk] at h
      have fin : ∀ (o : Option Value) (t : Nat), RelL X.K X.M G (lookD dk k) o → EP X pins σ Q (o.getD r) { s with toks := t } := fun o t rl => by
        cases el : lookD dk k with
        | none =>
          rw [el] at rl h
          cases o with
          | none => exact ⟨z, H, I.tok _, rz, h z H G (.refl sg) pz⟩
          | some _ => exact rl.elim
        | some d2 =>
          rw [el] at rl h
          cases o with
          | none => exact rl.elim
          | some w' =>
            obtain ⟨v2, rv, p2⟩ := rl
            exact ⟨v2, H, I.tok _, rv, h v2 H G (.refl sg) p2⟩
      rcases dp_kk px ek with ⟨c, rfl, rfl, _⟩ | ⟨c, b, rfl, rfl, sq, _, _⟩
      · obtain ⟨hs, vs, dd, rel⟩ := dvk_of I sg py hk
        exact call_meetsIn PySem.F.slot_dict_get dd.typeIs PySem.F.entry_dict_get (PySem.F.args_dict_get_3 _ _ _) (meets_dict_get_default (mixKind X.prog X.w) a (kV_is rx) hs r) ⟨_, dd.mapOf, fin _ _ (rel c)⟩
      · obtain ⟨hs, xs, dd, rel⟩ := dvt_of I sg py hk
        cases rx
        exact call_meetsIn PySem.F.slot_dict_get dd.typeIs PySem.F.entry_dict_get (PySem.F.args_dict_get_3 _ _ _) (meetsH_dict_get_default (tupleKind (mixKind X.prog X.w)) a b hs r) ⟨tupleKind_room_in1 (by omega), c, xs, Inv.isM I (same_t sg sq), dd, fin _ _ (rel c)⟩
    · rw [if_neg hk] at h; exact h.elim
theorem dGet2_noex : ∀ x y z c fs, dGet2 x y z ≠ .ex c fs := fun x y z c fs h => by
  unfold dGet2 at h
  split at h
  · split at h
    · split at h <;> cases h
    · cases h
  · cases h
theorem post_noex {K : PySem.W.Frag} {mg : Mg} {H G : Hp} {W W' : Value → Option Addr → Hp → Prop} {Q : VK} {x : R RV} (h : post K mg H G W Q x) (n : ∀ c fs, x ≠ .ex c fs) : post K mg H G W' Q x := by
  cases x with
  | ok r => exact h
  | ex c fs => exact absurd rfl (n c fs)
  | stuck => exact h
theorem ed_get2 {o e f : Expr} {fo fe ff : DE → R RV} {apos cpos : Pos} (hu : X.A.units + 65 < cLine) (ho : Ed X H0 W o fo) (he : Ed X H0 W e fe) (hf : Ed X H0 W f ff) (m : M2 X o "get" apos e f cpos := by exact ⟨rfl, rfl, rfl, rfl⟩) : Ed X H0 W (.Call (.Attribute o "get" apos) [e, f] [] cpos) (fGet2 fo fe ff) := by
  refine ⟨fun pins s σ H Q I h => ?_⟩
  obtain ⟨G, δ, sg, sl, h⟩ := h
  have core : tE X.K X.M H0 W fo σ H fun x H1 => ∃ (a : Addr) (dk : List (D × D)) (G1 : Hp), x = .ref a ∧ Same G1 H1 ∧ Dp X.K X.M G1 (.ref a) (.dct dk) ∧ tE X.K X.M H0 W fe σ H1 fun y H2 => tE X.K X.M H0 W ff σ H2 fun z H3 =>
      ∃ (G3 : Hp) (d e : D), Same G3 H3 ∧ Dp X.K X.M G3 (.ref a) (.dct dk) ∧ Dp X.K X.M G3 y d ∧ Dp X.K X.M G3 z e ∧ post X.K X.M H3 G3 (fun _ _ _ => False) Q (dGet2 (.dct dk) d e) := by
    refine ⟨G, δ, sg, sl, post_bind (f := fun x => if isDct x = true then fe δ >>= fun y => ff δ >>= fun z => dGet2 x y.d z.d else .stuck) h fun v x H1 G1 g1 p1 h1 => ?_⟩
    by_cases c : isDct x = true
    · rw [if_pos c] at h1
      obtain ⟨dk, rfl⟩ : ∃ dk, x = .dct dk := by cases x <;> first | exact ⟨_, rfl⟩ | cases c
      obtain ⟨a, rfl⟩ : ∃ a, v = .ref a := by cases p1 <;> exact ⟨_, rfl⟩
      refine ⟨a, dk, G1, rfl, g1.gh, p1, G1, δ, g1.gh, sl.mono g1, post_bind (f := fun y => ff δ >>= fun z => dGet2 (.dct dk) y z.d) h1 fun u y H2 G2 g2 p2 h2 => ?_⟩
      refine ⟨G2, δ, g2.gh, (sl.mono g1).mono g2, post_bind (f := fun z => dGet2 (.dct dk) y z) h2 fun t z H3 G3 g3 p3 h3 => ?_⟩
      exact ⟨G3, y, z, g3.gh, p1.mono (g2.gg.trans g3.gg), p2.mono g3.gg, p3, post_noex h3 (dGet2_noex _ _ _)⟩
    · rw [if_neg c] at h1; exact h1.elim
  refine wpAny_Call_method m.base m.few m.line PySem.F.plainAttrs_dict PySem.F.slot_dict_get PySem.F.type_dict_get (thn (ho.run pins s σ H _ I core) fun u s1 ⟨x, H1, I1, rx, a, dk, G1, ex, sg1, pd, q1⟩ => ?_)
  subst ex
  obtain rfl : u = Value.ref a := rx
  obtain ⟨t1, t2, _⟩ := isd_of I1 sg1 pd
  refine ⟨t1, t2, ?_⟩
  rw [m.trees]
  refine Calls.callWith_builtin rfl (Calls.evalArgs_plain (Calls.spliced_cons (thn (he.run pins s1 σ H1 _ I1 q1) fun iv s2 ⟨y, H2, I2, ry, q2⟩ =>
    Calls.spliced_cons (thn (hf.run pins s2 σ H2 _ I2 q2) fun fv s3 ⟨z, H3, I3, rz, G3, d, e', sg3, p1, p2, p3, q3⟩ => Calls.spliced_nil ?_))))
  exact d_getD hu I3 sg3 p1 p2 p3 ry rz q3
/-! {} -/
def fDict0 (_ : DE) : R RV := .ok (.od false [])
theorem ed_dict0 {pos : Pos} : Ed X H0 W (.Dict [] [] pos) fDict0 := PE.imp pe_dnewK fun σ H Q h => by
  obtain ⟨G, δ, s, sl, h⟩ := h
  intro p hp
  refine h (.ref p) _ G (.mut s hp) ⟨p, [], rfl, upd_same, ?_, hp, .nil⟩
  cases e : G p with
  | none => rfl
  | some o => have := s _ _ e; rw [hp] at this; cases this
/-! d[k] = v -/
def putT (vs : List (List Key × Addr × V)) (k : List Key) (b : Addr) (y : V) : List (List Key × Addr × V) := if (valT vs k).isSome = true then vs.map (fun p => if p.1 = k then (p.1, p.2.1, y) else p) else vs ++ [(k, b, y)]
theorem dk_look {K : PySem.W.Frag} {mg : Mg} {G : Hp} (k : Key) : ∀ {vs : List (Key × V)} {dk : List (D × D)}, DpK K mg G vs dk → (lookD dk (.inl k)).isSome = (valV vs k).isSome
  | _, _, .nil => rfl
  | _, _, .cons (k := c) (v := v) (vs := vs) kc p t => by
    by_cases h : c = k
    · subst h
      rw [lookD_pos (kkOf_keyD c), valV_pos (rfl : ((c, v) : Key × V).1 = c)]
      rfl
    · rw [lookD_neg (by rw [kkOf_keyD]; exact fun z => h (Sum.inl.inj (Option.some.inj z))), valV_neg h]
      exact dk_look k t
theorem dt_look {K : PySem.W.Frag} {mg : Mg} {G : Hp} (k : List Key) : ∀ {vs : List (List Key × Addr × V)} {dk : List (D × D)}, DpT K mg G vs dk → (lookD dk (.inr k)).isSome = (valT vs k).isSome
  | _, _, .nil => rfl
  | _, _, .cons (k := c) (v := v) (vs := vs) sq kc p t => by
    by_cases h : c = k
    · subst h
      rw [lookD_pos (kkOf_tup c)]
      simp [valT, List.find?_cons]
    · rw [lookD_neg (by rw [kkOf_tup]; exact fun z => h (Sum.inr.inj (Option.some.inj z)))]
      have := dt_look k t
      simpa [valT, List.find?_cons, h] using this
theorem dk_map {K : PySem.W.Frag} {mg : Mg} {G : Hp} {k : Key} {y : V} {d : D} (py : Dp K mg G y d) : ∀ {vs : List (Key × V)} {dk : List (D × D)}, DpK K mg G vs dk → DpK K mg G (vs.map fun kv => if kv.1 = k then (kv.1, y) else kv) (dk.map fun p => if kkOf p.1 = some (.inl k) then (p.1, d) else p)
  | _, _, .nil => .nil
  | _, _, .cons (k := c) kc p t => by
    rw [List.map_cons, List.map_cons]
    by_cases h : c = k
    · subst h
      rw [if_pos rfl, if_pos (kkOf_keyD c)]
      exact .cons kc py (dk_map py t)
    · rw [if_neg h, if_neg (by rw [kkOf_keyD]; exact fun z => h (Sum.inl.inj (Option.some.inj z)))]
      exact .cons kc p (dk_map py t)
theorem dt_map {K : PySem.W.Frag} {mg : Mg} {G : Hp} {k : List Key} {y : V} {d : D} (py : Dp K mg G y d) : ∀ {vs : List (List Key × Addr × V)} {dk : List (D × D)}, DpT K mg G vs dk → DpT K mg G (vs.map fun p => if p.1 = k then (p.1, p.2.1, y) else p) (dk.map fun p => if kkOf p.1 = some (.inr k) then (p.1, d) else p)
  | _, _, .nil => .nil
  | _, _, .cons (k := c) sq kc p t => by
    rw [List.map_cons, List.map_cons]
    by_cases h : c = k
    · subst h
      rw [if_pos rfl, if_pos (kkOf_tup c)]
      exact .cons sq kc py (dt_map py t)
    · rw [if_neg h, if_neg (by rw [kkOf_tup]; exact fun z => h (Sum.inr.inj (Option.some.inj z)))]
      exact .cons sq kc p (dt_map py t)
theorem dk_app {K : PySem.W.Frag} {mg : Mg} {G : Hp} : ∀ {vs ws : List (Key × V)} {dk dl : List (D × D)}, DpK K mg G vs dk → DpK K mg G ws dl → DpK K mg G (vs ++ ws) (dk ++ dl)
  | _, _, _, _, .nil, s => s
  | _, _, _, _, .cons k p t, s => .cons k p (dk_app t s)
theorem dt_app {K : PySem.W.Frag} {mg : Mg} {G : Hp} : ∀ {vs ws : List (List Key × Addr × V)} {dk dl : List (D × D)}, DpT K mg G vs dk → DpT K mg G ws dl → DpT K mg G (vs ++ ws) (dk ++ dl)
  | _, _, _, _, .nil, s => s
  | _, _, _, _, .cons q k p t, s => .cons q k p (dt_app t s)
theorem dk_put {K : PySem.W.Frag} {mg : Mg} {G : Hp} {k : Key} {y : V} {d : D} {vs : List (Key × V)} {dk : List (D × D)} (a : DpK K mg G vs dk) (hk : KOk k) (py : Dp K mg G y d) : DpK K mg G (putK vs k y) (putD dk (.inl k) d) := by
  unfold putK putD
  rw [valV_any, dk_look k a]
  by_cases h : (valV vs k).isSome = true
  · rw [if_pos h, if_pos h]; exact dk_map py a
  · rw [if_neg h, if_neg h]; exact dk_app a (.cons hk py .nil)
theorem dt_put {K : PySem.W.Frag} {mg : Mg} {G : Hp} {k : List Key} {b : Addr} {y : V} {d : D} {vs : List (List Key × Addr × V)} {dk : List (D × D)} (a : DpT K mg G vs dk) (sq : SqT K G b (k.map kV)) (hk : ∀ c ∈ k, KOk c) (py : Dp K mg G y d) : DpT K mg G (putT vs k b y) (putD dk (.inr k) d) := by
  unfold putT putD
  rw [dt_look k a]
  by_cases h : (valT vs k).isSome = true
  · rw [if_pos h, if_pos h]; exact dt_map py a
  · rw [if_neg h, if_neg h]; exact dt_app a (.cons sq hk py .nil)
theorem pt_look {vs : List (List Key × Addr × V)} {xs : List (List Key × Addr × Value)} (r : PT vs xs) (k : List Key) : (valT vs k).isSome = (atKey xs k).isSome := by
  induction r with
  | nil => rfl
  | @cons p q ps qs h t ih =>
    by_cases e : p.1 = k
    · have e' : q.1 = k := h.1.symm.trans e
      simp [valT, atKey, List.find?_cons, e, e']
    · have e' : ¬ q.1 = k := fun z => e (h.1.trans z)
      simpa [valT, atKey, List.find?_cons, e, e'] using ih
theorem pt_put {vs : List (List Key × Addr × V)} {xs : List (List Key × Addr × Value)} (r : PT vs xs) (k : List Key) (b : Addr) {y : V} {u : Value} (ry : RelV y u) : PT (putT vs k b y) (storedH xs k b u) := by
  unfold putT storedH
  rw [pt_look r k]
  by_cases h : (atKey xs k).isSome = true
  · rw [if_pos h, if_pos h]
    clear h
    induction r with
    | nil => exact .nil
    | @cons p q ps qs h t ih =>
      rw [List.map_cons, List.map_cons]
      refine .cons ?_ ih
      unfold putAt
      by_cases e : p.1 = k
      · rw [if_pos e, if_pos (h.1.symm.trans e)]; exact ⟨h.1, h.2.1, ry⟩
      · rw [if_neg e, if_neg (fun z => e (h.1.trans z))]; exact h
  · rw [if_neg h, if_neg h]; exact Paired.snoc r ⟨rfl, rfl, ry⟩
theorem len_putT (vs : List (List Key × Addr × V)) (k : List Key) (b : Addr) (y : V) : (putT vs k b y).length ≤ vs.length + 1 := by
  unfold putT
  split
  · rw [List.length_map]; omega
  · rw [List.length_append]; exact Nat.le_refl _
end
end DL


set_option maxRecDepth 100000
set_option maxHeartbeats 4000000
namespace DL
open PySem PySem.Spec PyProof.Rows L2

section
variable {X : Cx} {H0 G0 : Hp} {W : WX} {pins : List (Addr × Obj)} {σ : L2.St} {H G : Hp} {s : Shared} {a : Addr}
theorem dth_ok {P : Program} {w : World} {h : Heap} {kvs : List (List Key × Addr × V)} (x : DTh P w h a kvs) : ObjOk P w H h a (DTO P w a kvs) := by
  obtain ⟨z, hd, xs, r, o, es, ep, ho, rest⟩ := id x
  exact ⟨x, ⟨o, ho⟩, fun h1 h2 p k => by
    obtain ⟨z, hd, xs, r, o, es, ep, ho, rest⟩ := p
    exact ⟨z, hd, xs, r, o, es, ep, k o ho, rest⟩⟩
theorem recastK (I : Inv X pins σ H s) (e : H a = some (DTO X.prog X.w a [])) : Inv X pins σ (upd H a (.dK [])) s := by
  obtain ⟨⟨z, hd, xs, r, o, es, ep, ho, hex, hdt, hes, _⟩, _, _⟩ := I.hok a _ e
  cases r
  have e0 : es = #[] := Array.toList_eq_nil_iff.mp hes
  subst e0
  exact I.write (x := a) (e := a) (h' := s.heap) (t' := s.toks) (by rw [e]; exact True.intro) (.inl rfl) (fun b u _ q => q) ⟨o, ho⟩ ⟨Nat.zero_le _, hd, [], .nil, o, #[], ep, ho, hex, hdt, (fun e he => by simp at he), .nil, List.nodup_nil⟩
theorem recastT (I : Inv X pins σ H s) (e : H a = some (.dK [])) : Inv X pins σ (upd H a (DTO X.prog X.w a [])) s := by
  obtain ⟨z, hd, vs, rel, o, es, ep, ho, hex, hdt, _, hp, _⟩ := dk_of I.hok e
  cases rel
  have e0 : es.toList = [] := List.eq_nil_of_length_eq_zero hp.length
  exact I.write (x := a) (e := a) (h' := s.heap) (t' := s.toks) (by rw [e]; exact True.intro) (.inl rfl) (fun b u _ q => q) ⟨o, ho⟩ (dth_ok ⟨Nat.zero_le _, hd, [], .nil, o, es, ep, ho, hex, hdt, e0, List.nodup_nil⟩)
theorem d_setT {xs : List (List Key × Addr × V)} {k : List Key} {b : Addr} {v : V} {r : Value} {Q : Unit → Shared → Prop} {E : Value → Shared → Prop} (hu : X.A.units + 65 < cLine) (I : Inv X pins σ H s) (e : H a = some (DTO X.prog X.w a xs)) (hks : ∀ p ∈ xs, SqT X.K H p.2.1 (p.1.map kV)) (sq : SqT X.K H b (k.map kV)) (l : xs.length < sizeLine) (rv : RelV v r)
    (h : ∀ s', Inv X pins σ (upd H a (DTO X.prog X.w a (putT xs k b v))) s' → Q () s') : wpAny (model X.prog X.w) X.A (setItem (.ref a) (.ref b) r) Q E s := by
  obtain ⟨⟨z, hd, ys, rel, o, es, ep, ho, hex, hdt, hes, hn⟩, _, _⟩ := I.hok a _ e
  have hz : ys.length ≤ sizeLine := by rw [← Paired.length rel]; exact z
  have all : ∀ {l : List (List Key × Addr × V)} {m : List (List Key × Addr × Value)}, PT l m → (∀ p ∈ l, SqT X.K H p.2.1 (p.1.map kV)) → ∀ x ∈ m, (tupleKind (mixKind X.prog X.w)).is s.heap x.1 x.2.1 := by
    intro l m q
    induction q with
    | nil => intro _ x hx; exact nomatch hx
    | @cons p q ps qs hq tl ih =>
      intro hk x hx
      rcases List.mem_cons.mp hx with e | hx
      · subst e
        have q := Inv.isM I (hk p List.mem_cons_self)
        rw [hq.1, hq.2.1] at q
        exact q
      · exact ih (fun p hp => hk p (List.mem_cons_of_mem _ hp)) x hx
  refine wpAny_setItem_heap (hsz := hz) (tupleKind_room_in1 (by omega)) (Inv.isM I sq) ⟨o, es, ep, ho, hex, hdt, hes, all rel hks, hn⟩ fun h' dd' hs => h _ ?_
  obtain ⟨q, es', ep', hq, h2, h3, h4, _, h5⟩ := dd'
  exact d_write I (by rw [e]; exact True.intro) hs ⟨q, hq⟩ (dth_ok ⟨by have := len_putT xs k b v; omega, hd, _, pt_put rel k b rv, q, es', ep', hq, h2, h3, h4, h5⟩)
/-- the heap behind the store in an own dict -/
theorem d_setOwn {t : Bool} {kvs : List (D × D)} {y v : V} {k : KK} {dy dv : D} {u r : Value} {Q : Unit → Shared → Prop} {E : Value → Shared → Prop} {as : List Addr} (hu : X.A.units + 65 < cLine) (I : Inv X pins σ H s) (sg : Same G H) (q : RVq X.K X.M H0 H G (.ref a) (.od t kvs) as) (hk : kindOk kvs k = true) (hl : kvs.length < SZ)
    (py : Dp X.K X.M G y dy) (ek : kkOf dy = some k) (pv : Dp X.K X.M G v dv) (ry : RelV y u) (rv : RelV v r)
    (h : ∀ o s', RVq X.K X.M H0 (upd H a o) G (.ref a) (.od (kkT k) (putD kvs k dv)) as → as = [a] → Inv X pins σ (upd H a o) s' → Q () s') : wpAny (model X.prog X.w) X.A (setItem (.ref a) u r) Q E s := by
  have lenK : ∀ {xs : List (Key × V)} {dk : List (D × D)}, DpK X.K X.M G xs dk → xs.length = dk.length := fun {xs dk} a => by
    induction xs generalizing dk with
    | nil => cases a; rfl
    | cons p xs ih => cases a with | cons _ _ t => rw [List.length_cons, List.length_cons, ih t]
  have lenT : ∀ {xs : List (List Key × Addr × V)} {dk : List (D × D)}, DpT X.K X.M G xs dk → xs.length = dk.length := fun {xs dk} a => by
    induction xs generalizing dk with
    | nil => cases a; rfl
    | cons p xs ih => cases a with | cons _ _ _ t => rw [List.length_cons, List.length_cons, ih t]
  have goK : ∀ {H1 : Hp} {xs : List (Key × V)} {c : Key}, H1 a = some (.dK xs) → Inv X pins σ H1 s → (∀ o, upd H1 a o = upd H a o) → DpK X.K X.M G xs kvs → G a = none → H0 a = none → as = [a] → k = .inl c → y = kV c → KOk c → wpAny (model X.prog X.w) X.A (setItem (.ref a) u r) Q E s := fun {H1 xs c} e1 I1 eu dk hG h0 ea ek ey kc => by
    subst ek; subst ey; subst ea
    refine d_setItem (by omega) I1 (.k e1 (by rw [lenK dk]; exact sz_lt (Nat.le_of_lt hl))) ry rv fun s' J => ?_
    rw [eu] at J
    exact h _ s' (.od upd_same hG h0 (dk_put dk kc pv)) rfl J
  have goT : ∀ {H1 : Hp} {xs : List (List Key × Addr × V)} {c : List Key} {b : Addr}, H1 a = some (DTO X.prog X.w a xs) → Inv X pins σ H1 s → (∀ o, upd H1 a o = upd H a o) → Same G H1 → DpT X.K X.M G xs kvs → G a = none → H0 a = none → as = [a] → k = .inr c → y = .ref b → SqT X.K G b (c.map kV) → (∀ x ∈ c, KOk x) → wpAny (model X.prog X.w) X.A (setItem (.ref a) u r) Q E s := fun {H1 xs c b} e1 I1 eu sg1 dt hG h0 ea ek ey sq kc => by
    subst ek; subst ey; subst ea
    cases ry
    refine d_setT hu I1 e1 (fun p hp => same_t sg1 (dt_keys dt p hp)) (same_t sg1 sq) (by rw [lenT dt]; exact sz_lt (Nat.le_of_lt hl)) rv fun s' J => ?_
    rw [eu] at J
    exact h _ s' (.ot upd_same hG h0 (dt_put dt sq kc pv)) rfl J
  have sgu : ∀ {o : HO}, G a = none → Same G (upd H a o) := fun {o} hG b z e => by rw [upd_ne (ne_of_none e hG)]; exact sg _ _ e
  rcases dp_kk py ek with ⟨c, rfl, ey, kc⟩ | ⟨c, b, rfl, ey, sq, kc, _⟩
  · cases q with
    | od h1 h2 h3 h4 => exact goK h1 I (fun _ => rfl) h4 h2 h3 rfl rfl ey kc
    | ot h1 h2 h3 h4 =>
      have e := kind_both (dt_kind h4) hk
      subst e
      cases h4
      exact goK upd_same (recastK I h1) (fun _ => upd_upd) .nil h2 h3 rfl rfl ey kc
  · cases q with
    | od h1 h2 h3 h4 =>
      have e := kind_both hk (dk_kind h4)
      subst e
      cases h4
      exact goT upd_same (recastT I h1) (fun _ => upd_upd) (sgu h2) .nil h2 h3 rfl rfl ey sq kc
    | ot h1 h2 h3 h4 => exact goT h1 I (fun _ => rfl) sg h4 h2 h3 rfl rfl ey sq kc
def putAtD (i : Nat) (kvs : List (D × D)) (r : D) (δ : DE) (y : D) : SR := match kkOf y with
  | some k => if kindOk kvs k = true ∧ kvs.length < SZ then .nx (δ.set i (some (.od (kkT k) (putD kvs k r)))) else .stuck
  | none => .stuck
def sPut (i : Nat) (fk fv : DE → R RV) (δ : DE) : SR := lift (fv δ) δ fun r => match δ[i]? with
  | some (some (.od _ kvs)) => lift (fk δ) δ fun y => putAtD i kvs r.d δ y.d
  | _ => .stuck
theorem sd_put {x : Str} {ek value : Expr} {fk fv : DE → R RV} {pos pos' px : Pos} (i : Nat) (hu : X.A.units + 65 < cLine) (hk : Ed X H0 W ek fk) (hv : Ed X H0 W value fv) (hN : X.N[i]? = some x := by rfl) (hvi : Vis X.env.scope x := by first | exact Or.inl rfl | exact Or.inr (Or.inl rfl) | exact Or.inr (Or.inr rfl))
    (hd : (x == ("__debug__" : Str)) = false := by decide) (hcd : (x == ("__classdict__" : Str)) = false := by decide) (hs : swapsWith value (some (.Subscript (.Name x px) ek pos')) pos.line X.env = pure false := by rfl) :
    Sd X H0 G0 W (.Assign [.Subscript (.Name x px) ek pos'] value pos) (sPut i fk fv) := by
  refine ⟨fun pins s σ H D I h => ?_⟩
  obtain ⟨G, δ, g, sl, h⟩ := h
  have core : tE X.K X.M H0 W fv σ H fun v H1 => tVar i σ H1 fun x H2 => ∃ a, x = .ref a ∧ tE X.K X.M H0 W fk σ H2 fun y H3 => ∃ (G3 : Hp) (t : Bool) (kvs : List (DL.D × DL.D)) (k : KK) (dy dv : DL.D) (as : List Addr), Gr H0 G0 H3 G3 ∧ Sl X.K X.M H0 H3 G3 σ δ ∧ δ[i]? = some (some (.od t kvs)) ∧ σ[i]? = some (some (.ref a)) ∧
      RVq X.K X.M H0 H3 G3 (.ref a) (.od t kvs) as ∧ Dp X.K X.M G3 v dv ∧ Dp X.K X.M G3 y dy ∧ kkOf dy = some k ∧ kindOk kvs k = true ∧ kvs.length < SZ ∧ postS X.K X.M H0 G0 W G3 D (.nx (δ.set i (some (.od (kkT k) (putD kvs k dv))))) := by
    refine lift_core g sl h fun r v H1 G1 e1 g1 g2 sl1 p1 h1 => ?_
    obtain ⟨G2, g3, s3, p2, _⟩ := RVp.frz g1 p1
    have sl2 := sl.mono g3
    have gg := g.trans g3
    replace h1 := postS.mono s3 h1
    split at h1
    · rename_i t kvs e
      obtain ⟨u, eu, p⟩ := sl2.at_ i _ e
      obtain ⟨a, _, ea, _⟩ := own_ref (r := .od t kvs) rfl p
      subst ea
      refine ⟨_, eu, a, rfl, lift_core gg sl2 h1 fun ry y H3 G3 e3 g4 g5 sl3 p3 h3 => ?_⟩
      obtain ⟨G4, g6, s6, p6, _⟩ := RVp.frz g4 p3
      have sl4 := sl2.mono g6
      replace h3 := postS.mono s6 h3
      obtain ⟨u', eu', p'⟩ := sl4.at_ i _ e
      rw [eu] at eu'; cases eu'
      obtain ⟨as, q⟩ := p'.q
      unfold putAtD at h3
      cases ek : kkOf ry.d with
      | none => simp only [ek] at h3; exact h3.elim
      | some k =>
        simp only [ek] at h3
        by_cases c : kindOk kvs k = true ∧ kvs.length < SZ
        · rw [if_pos c] at h3
          exact ⟨G4, t, kvs, k, ry.d, r.d, as, gg.trans g6, sl4, e, eu, q, p2.mono g6.gg, p6, ek, c.1, c.2, h3⟩
        · rw [if_neg c] at h3; exact h3.elim
    · exact h1.elim
  refine wpAny_Assign_Subscript (thn (hv.run pins s σ H _ I core) fun r s1 ⟨v, H1, I1, rv, q1⟩ => thn ((pe_var hN hvi hd hcd).run pins s1 σ H1 _ I1 q1) fun u s2 ⟨x, H2, I2, rx, a, ex, q2⟩ => thn (hk.run pins s2 σ H2 _ I2 q2) fun iv s3 ⟨y, H3, I3, ry, G3, t, kvs, k, dy, dv, as, g3, sl3, ei, eσ, q, pv, py, ek, hkk, hl, hp⟩ => ?_) hs
  subst ex
  obtain rfl : u = Value.ref a := rx
  refine d_setOwn hu I3 g3.gh q hkk hl py ek pv ry rv fun o s4 q4 ea I4 => ⟨σ, _, I4, ?_⟩
  subst ea
  obtain ⟨_, hG, h0⟩ := q.ow a List.mem_cons_self
  exact hp σ _ G3 (g3.upd hG h0) (Same.refl _) (sl3.upd ei eσ q q4)
end
end DL


set_option maxRecDepth 100000
set_option maxHeartbeats 4000000
namespace DL
open PySem PySem.Spec PyProof.Rows L2

section
variable {X : Cx} {H0 G0 : Hp} {W : WX}
/-! ### a op b op' c -/
def fChain (g g' : D → D → R RV) (fa fb fc : DE → R RV) (δ : DE) : R RV := fa δ >>= fun x => fb δ >>= fun y => g x.d y.d >>= fun r => (match r.d with
  | .bl k => if k = true then (fc δ >>= fun z => g' y.d z.d) else .ok (.fr (.bl false))
  | _ => .stuck)
theorem chain_core {g g' : D → D → R RV} {fa fb fc : DE → R RV} {K : PySem.W.Frag} {mg : Mg} (σ : L2.St) (H : Hp) (Q : VK) (h : tE K mg H0 W (fChain g g' fa fb fc) σ H Q) (nx : ∀ x y c fs, g x y ≠ .ex c fs) (nx' : ∀ x y c fs, g' x y ≠ .ex c fs) : tChain (rD K mg g) (rD K mg g') (tE K mg H0 W fa) (tE K mg H0 W fb) (tE K mg H0 W fc) σ H Q := by
  obtain ⟨G, δ, s, sl, h⟩ := h
  refine ⟨G, δ, s, sl, post_bind (f := fun x => fb δ >>= fun y => g x y.d >>= fun r => (match r.d with
    | .bl k => if k = true then (fc δ >>= fun z => g' y.d z.d) else .ok (.fr (.bl false))
    | _ => .stuck)) h fun v d H1 G1 g1 p1 h1 => ?_⟩
  refine ⟨G1, δ, g1.gh, sl.mono g1, post_bind (f := fun y => g d y >>= fun r => (match r.d with
    | .bl k => if k = true then (fc δ >>= fun z => g' y z.d) else .ok (.fr (.bl false))
    | _ => .stuck)) h1 fun u e H2 G2 g2 p2 h2 => ?_⟩
  refine ⟨G2, d, e, g2.gh, p1.mono g2.gg, p2, ?_⟩
  cases er : g d e with
  | ex c fs => exact absurd er (nx _ _ _ _)
  | stuck => rw [er] at h2; exact h2
  | ok r =>
    rw [er, bind_ok] at h2
    intro v3 H3 G3 g3 p3
    obtain ⟨G4, g4, s4, p4, _⟩ := RVp.frz g3 p3
    cases ed : r.d with
    | bl k =>
      simp only [ed] at h2
      rw [ed] at p4
      cases p4
      refine ⟨k, rfl, ?_⟩
      cases k with
      | false =>
        rw [if_neg Bool.false_ne_true] at h2 ⊢
        exact h2 _ H3 G4 g4 (.bl false)
      | true =>
        rw [if_pos rfl] at h2 ⊢
        refine ⟨G4, δ, g4.gh, ((sl.mono g1).mono g2).mono g4, ?_⟩
        cases ec : fc δ with
        | ex c fs => rw [ec, bind_ex] at h2; exact postX.mono g4 h2
        | stuck => rw [ec, bind_stuck] at h2; exact h2
        | ok z =>
          rw [ec, bind_ok] at h2
          intro v5 H5 G5 g5 p5
          obtain ⟨G6, g6, s6, p6, _⟩ := RVp.frz g5 p5
          refine ⟨G6, e, z.d, g6.gh, p2.mono (g4.gg.trans g6.gg), p6, ?_⟩
          cases eg : g' e z.d with
          | ex c fs => exact absurd eg (nx' _ _ _ _)
          | stuck => rw [eg] at h2; exact h2
          | ok r2 =>
            rw [eg] at h2
            intro v7 H7 G7 g7 p7
            exact h2 v7 H7 G7 (g4.trans (g6.trans g7)) (p7.back ((g4.trans g6).hh))
    | _ => simp only [ed] at h2; exact h2.elim
theorem ed_chain {op op' : CmpOp} {g g' : D → D → R RV} {fa fb fc : DE → R RV} {a b c : Expr} {pos : Pos} (ho : OpR X (compareOp op) (rD X.K X.M g)) (nx : ∀ x y c fs, g x y ≠ .ex c fs) (ho' : OpR X (compareOp op') (rD X.K X.M g')) (nx' : ∀ x y c fs, g' x y ≠ .ex c fs) (ha : Ed X H0 W a fa) (hb : Ed X H0 W b fb) (hc : Ed X H0 W c fc)
    (hm : lastMarks [op, op'] [b, c] = false := by with_unfolding_all rfl) : Ed X H0 W (.Compare a [op, op'] [b, c] pos) (fChain g g' fa fb fc) :=
  PE.imp (pe_chain ho ho' ha hb hc hm) fun σ H Q h => chain_core σ H Q h nx nx'
theorem td_chain {op op' : CmpOp} {g g' : D → D → R RV} {fa fb fc : DE → R RV} {a b c : Expr} {pos : Pos} (ho : OpR X (compareOp op) (rD X.K X.M g)) (nx : ∀ x y c fs, g x y ≠ .ex c fs) (ho' : OpR X (compareOp op') (rD X.K X.M g')) (nx' : ∀ x y c fs, g' x y ≠ .ex c fs) (ha : Ed X H0 W a fa) (hb : Ed X H0 W b fb) (hc : Ed X H0 W c fc)
    (hm : lastMarks [op, op'] [b, c] = false := by with_unfolding_all rfl) : Td X H0 W (.Compare a [op, op'] [b, c] pos) (fB (fChain g g' fa fb fc)) := by
  refine PT.imp (pt_chain ho ho' ha hb hc hm) fun σ H Q h => ?_
  obtain ⟨G, δ, s, sl, h⟩ := h
  refine chain_core σ H _ ⟨G, δ, s, sl, postB_bind (f := blD) h fun v d H1 G1 g1 p1 h1 => ?_⟩ nx nx'
  cases p1 with
  | bl b => exact ⟨b, rfl, h1 H1 G1 (.refl g1.gh)⟩
  | _ => exact h1.elim
/-! ### large ints -/
/-- what a factor stays below -/
@[irreducible] def limW : Nat := 2 ^ 100000
theorem limW_eq : limW = 2 ^ 100000 := by unfold limW; rfl
def dMulW : D → D → R RV
  | .int i, .int j => if i.natAbs < limW ∧ j.natAbs < limW then okd (.int (i * j)) else dMul (.int i) (.int j)
  | x, y => dMul x y
theorem opd_mulw : OpR X (binaryOp .Mult) (rD X.K X.M dMulW) := by
  intro pins s σ H x y v u Q I rx ry ⟨G, d, e, sg, px, py, h⟩
  by_cases hd : ∃ i j, d = .int i ∧ e = .int j
  · obtain ⟨i, j, rfl, rfl⟩ := hd
    simp only [dMulW] at h
    by_cases c : i.natAbs < limW ∧ j.natAbs < limW
    · rw [if_pos c] at h
      cases px
      cases py
      exact op_mulX pins s σ H _ _ v u Q I rx ry ⟨i, j, rfl, rfl, mulx_ok (limW_eq ▸ c.1) (limW_eq ▸ c.2) (by decide), h _ H G (.refl sg) (.int _)⟩
    · rw [if_neg c] at h
      exact opd_mul pins s σ H x y v u Q I rx ry ⟨G, _, _, sg, px, py, h⟩
  · have e0 : dMulW d e = dMul d e := by
      unfold dMulW
      split
      · exact absurd ⟨_, _, rfl, rfl⟩ hd
      · rfl
    rw [e0] at h
    exact opd_mul pins s σ H x y v u Q I rx ry ⟨G, d, e, sg, px, py, h⟩
def dPowW : D → D → R RV
  | .int i, .int j => if 0 ≤ j ∧ j ≤ 1000 ∧ i.natAbs < limW then okd (.int (i ^ j.toNat)) else .stuck
  | _, _ => .stuck
theorem opd_poww : OpR X (binaryOp .Pow) (rD X.K X.M dPowW) := by
  intro pins s σ H x y v u Q I rx ry ⟨G, d, e, sg, px, py, h⟩
  cases px with
  | int i => cases py with
    | int j =>
      simp only [dPowW] at h
      by_cases c : 0 ≤ j ∧ j ≤ 1000 ∧ i.natAbs < limW
      · rw [if_pos c] at h
        obtain ⟨t, rfl⟩ := rx
        obtain ⟨t', rfl⟩ := ry
        refine PyProof.Rows.pow_int c.1 ?_ ⟨.int _, H, I.tok _, ⟨_, rfl⟩, h _ H G (.refl sg) (.int _)⟩
        have hb : Builtin.Int.intBits i ≤ 100000 := PyProof.Rows.intBits_le (limW_eq ▸ c.2.2)
        have h1 := c.1
        have h2 := c.2.1
        have : (Builtin.Int.intBits i : Int) * j ≤ 100000 * 1000 := Int.mul_le_mul (by omega) h2 h1 (by omega)
        omega
      · rw [if_neg c] at h; exact h.elim
    | _ => exact h.elim
  | _ => exact h.elim
def dDivW : D → D → R RV
  | .int i, .int j => if 0 < j ∧ j < 2 ^ 100 then okd (.int (i / j)) else .stuck
  | _, _ => .stuck
theorem opd_divw : OpR X (binaryOp .FloorDiv) (rD X.K X.M dDivW) := by
  refine opd_of fun pins s σ H G x y d e v u Q I rx ry sg px py h => ?_
  cases px with
  | int i => cases py with
    | int j =>
      simp only [dDivW] at h
      by_cases c : 0 < j ∧ j < 2 ^ 100
      · rw [if_pos c] at h
        exact op_fdivW pins s σ H _ _ v u Q I rx ry ⟨i, j, rfl, rfl, wide_div (b := 100) c.1 (by omega) (by decide) (by decide), h _ H G (.refl sg) (.int _)⟩
      · rw [if_neg c] at h; exact h.elim
    | _ => exact h.elim
  | _ => exact h.elim
theorem dDivW_noex : ∀ x y c fs, dDivW x y ≠ .ex c fs := fun x y c fs h => by
  unfold dDivW at h
  split at h
  · split at h <;> cases h
  · cases h
theorem dPowW_noex : ∀ x y c fs, dPowW x y ≠ .ex c fs := fun x y c fs h => by
  unfold dPowW at h
  split at h
  · split at h <;> cases h
  · cases h
theorem dMulW_noex : ∀ x y c fs, dMulW x y ≠ .ex c fs := fun x y c fs h => by
  unfold dMulW at h
  split at h
  · split at h
    · cases h
    · exact dMul_noex _ _ _ _ h
  · exact dMul_noex _ _ _ _ h
end
end DL


set_option maxRecDepth 100000
set_option maxHeartbeats 4000000
namespace DL
open PySem PySem.Spec PyProof.Rows L2

section
variable {X : Cx} {H0 G0 : Hp} {W : WX}
/-! ### enumerate -/
def enumD (ds : List D) : List D := (List.range ds.length).filterMap fun i => (ds[i]?).map fun d => .tup [.int (i : Nat), d]
theorem enumD_at (ds : List D) (i : Nat) : (enumD ds)[i]? = (ds[i]?).map fun d => .tup [.int (i : Nat), d] := by
  have key : ∀ n, n ≤ ds.length → (List.range n).filterMap (fun i => (ds[i]?).map fun d => D.tup [.int (i : Nat), d]) = (ds.take n).zipIdx.map fun p => .tup [.int (p.2 : Nat), p.1] := by
    intro n
    induction n with
    | zero => intro _; rfl
    | succ n ih =>
      intro hn
      have hl : n < ds.length := hn
      rw [List.range_succ, List.filterMap_append, ih (Nat.le_of_succ_le hn), List.take_succ, List.getElem?_eq_getElem hl, List.zipIdx_append, List.map_append]
      simp [hl, Nat.min_eq_left (Nat.le_of_lt hl)]
  unfold enumD
  rw [key ds.length (Nat.le_refl _), List.take_length, List.getElem?_map, List.getElem?_zipIdx]
  cases ds[i]? <;> simp
theorem enumD_len (ds : List D) : (enumD ds).length = ds.length := by
  rcases Nat.lt_trichotomy (enumD ds).length ds.length with h | h | h
  · exfalso
    have e := enumD_at ds (enumD ds).length
    rw [List.getElem?_eq_none (Nat.le_refl _), List.getElem?_eq_getElem h] at e
    cases e
  · exact h
  · exfalso
    have e := enumD_at ds ds.length
    rw [List.getElem?_eq_getElem h, List.getElem?_eq_none (Nat.le_refl _)] at e
    cases e
def enL : List D → R (List D)
  | [.lst ds] => .ok (enumD ds)
  | _ => .stuck
theorem itd_enum {K : PySem.W.Frag} {mg : Mg} {G : Hp} {a : Addr} {xs : List V} {ds : List D} (r : SqL K G a xs) (t : DpAll K mg G xs ds) : ItD K mg (Ite K a) (enumD ds) G := fun G' H' s1 s2 => by
  have q : SqL K H' a xs := (s1.trans s2).seq r
  refine ⟨fun i d e => ?_, xs, q, by rw [enumD_len, t.len]; exact Nat.le_refl _⟩
  rw [enumD_at] at e
  cases ed : ds[i]? with
  | none => rw [ed] at e; cases e
  | some d0 =>
    rw [ed] at e
    cases e
    obtain ⟨v, e1, p⟩ := t.get ed
    refine ⟨⟨xs, v, q, e1⟩, fun x H2 hy => ?_⟩
    obtain ⟨T, y, rfl, hT, rfl, hy⟩ := hy
    have z := hy xs q
    rw [e1] at z; cases z
    have hG : G' T = none := by
      cases e : G' T with
      | none => rfl
      | some o => have := s2 _ _ e; rw [hT] at this; cases this
    refine ⟨upd G' T (.tup [.int (i : Nat), v]), .new s2 hT, .tup (.inl (.inl upd_same)) (.cons (.int _) (.cons ((p.mono s1).mono (upd_same_of hG)) .nil))⟩
theorem id_enum {e : Expr} {elts : List Expr} {kk : Nat} {fa : DE → R (List D)} {p pos tpos : Pos} (hm : X.mg "enumerate" = none) (ha : Ad X H0 W [e] fa) (hg : Gl X "enumerate" := by rfl) (hs : starEach [e] X.env = [(false, eval e X.env)] := by rfl) : Id_ X H0 W (.Tuple elts kk tpos) (.Call (.Name "enumerate" p) [e] [] pos) (iArgs enL fa) := by
  refine ⟨fun pins s σ H R I h => (pi_enum hg hm ha hs).run pins s σ H R I ?_⟩
  obtain ⟨G, δ, sg, sl, h⟩ := h
  refine args_core sg sl h (fun ds vs H1 G1 _ g1 p1 ⟨es, e, k⟩ => ?_) fun ds c fs e => ?_
  · unfold enL at e
    split at e
    · cases e
      cases p1 with
      | cons q t =>
        cases t
        cases q with
        | lst r a => exact ⟨_, _, rfl, .inl (same_rd g1.gh r), k _ H1 G1 (.refl g1.gh) (itd_enum (.inl r) a)⟩
    · cases e
  · unfold enL at e
    split at e <;> cases e
end
end DL


set_option maxRecDepth 100000
set_option maxHeartbeats 4000000
namespace DL
open PySem PySem.Spec PyProof.Rows L2

/-! ### enumerate over a text -/
def Ites (x : Str) : It :=
  ⟨fun i _ => i < x.cps.size, fun i H v H' => ∃ T c, v = .ref T ∧ H T = none ∧ x.cps[i]? = some c ∧ H' = upd H T (.tup [.int (i : Nat), .str ⟨#[c]⟩]), fun i _ => x.cps.size ≤ i⟩
theorem turn_enumS {P : Program} {w : World} {K : PySem.W.Frag} {elts : List Expr} {kk : Nat} {tpos : Pos} (x : Str) (t : Tok) (e it : Addr) :
    Turn P w K (.Tuple elts kk tpos) (Ites x) [e, it] e (fun i h => (∃ old, IsEnum h e it ((i : Nat) : Int) old) ∧ h.IsStrIter it (strIterType x) x t i ∧ e ≠ it ∧ i ≤ x.cps.size) where
  mem := by simp
  obj := fun i h st b hb => by
    obtain ⟨⟨old, he⟩, ⟨o, ho, hc, hd⟩, _⟩ := st
    have e' : b = e ∨ b = it := by simpa using hb
    rcases e' with z | z
    · rw [z]; exact ⟨_, he, fun v q => nomatch q⟩
    · rw [z]; exact ⟨o, ho, fun v q => by rw [hd] at q; cases q⟩
  keep := fun i h h' st k => let ⟨⟨old, he⟩, ⟨o, ho, r⟩, hne, hl⟩ := st; ⟨⟨old, k e (by simp) _ he⟩, ⟨o, k it (by simp) o ho, r⟩, hne, hl⟩
  item := by
    intro X hP hw hK hc i pins s σ H E I hf st hg
    subst hP hw hK
    obtain ⟨⟨old, he⟩, hit, hne, hle⟩ := st
    have hlt : i < x.cps.size := hg
    have hel : e < s.heap.objs.size := Heap.lt_size he
    have hil : it < s.heap.objs.size := by obtain ⟨_, q, _⟩ := hit; exact Heap.lt_size q
    have D := Draws.text (prog := X.prog) (w := X.w) (A := X.A.in1) (I.ok.hd hc) it x t
    refine wpAny_pyNext_enum_itemD D he hit hlt hne (by simpa using hne) fun u h' tk ⟨c, u', hx, hu⟩ ho hit' hT hsz hk => ?_
    refine ⟨_, rfl, wpAny_letOwnedTupleGo_enum (s := { s with heap := h', toks := tk + 1 }) ho fun h'' he' sb => ?_⟩
    have hT2 : h''.get? s.heap.objs.size = some { cls := .type "tuple", data := .seq #[.int i tk, u] } := (sb.2 _ (Nat.ne_of_gt hel)).trans hT
    have new : ObjOk X.prog X.w (upd H s.heap.objs.size (.tup [.int (i : Nat), .str ⟨#[c]⟩])) h'' s.heap.objs.size (.tup [.int (i : Nat), .str ⟨#[c]⟩]) :=
      ⟨by show 2 ≤ sizeLine; decide, [.int i tk, u], .cons ⟨_, rfl⟩ (.cons ⟨u', hu⟩ .nil), ⟨_, hT2, rfl, _, rfl⟩⟩
    have I1 : Inv X pins σ (upd H s.heap.objs.size (.tup [.int (i : Nat), .str ⟨#[c]⟩])) { s with heap := h'', toks := tk + 1 } :=
      I.turnedNew (ch := [e, it]) (fun b ob hb q => (sb.2 b (fun z => hb (by simp [z]))).trans (hk b ob (fun z => hb (by simp [z])) (fun z => hb (by simp [z])) q)) hf (Nat.le_refl _) new
    refine ⟨.ref s.heap.objs.size, _, I1, rfl, ⟨_, c, rfl, I.hok.fresh (Nat.le_refl _), hx, rfl⟩, ⟨⟨u, ?_⟩, ?_, hne, hlt⟩, fun b hb => ?_⟩
    · have e1 : ((i + 1 : Nat) : Int) = (i : Int) + 1 := by omega
      rw [e1]; exact he'
    · obtain ⟨o, ho2, r⟩ := hit'
      exact ⟨o, (sb.2 it (Ne.symm hne)).trans ho2, r⟩
    · have hb' : b < s.heap.objs.size := by
        have e' : b = e ∨ b = it := by simpa using hb
        rcases e' with z | z
        · rw [z]; exact hel
        · rw [z]; exact hil
      rw [upd_ne (Nat.ne_of_lt hb')]
      exact (hf b hb).1
  done := by
    intro X hP hw hK hc i pins s σ H E I hf st hg
    subst hP hw hK
    obtain ⟨⟨old, he⟩, hit, hne, hle⟩ := st
    have hge : x.cps.size ≤ i := hg
    have ei : i = x.cps.size := Nat.le_antisymm hle hge
    subst ei
    obtain ⟨f0, f1, f2, f3, f4, f5⟩ := hf it (by simp)
    have D := Draws.text (prog := X.prog) (w := X.w) (A := X.A.in1) (I.ok.hd hc) it x t
    exact wpAny_pyNext_enum_endD D he hit fun h' eb => ⟨rfl, I.turned (t' := s.toks) (fun b o hb q => eb b o hb q) f0 f1 f3 f4 f5⟩
  self := fun A i s Q E st h => let ⟨⟨_, he⟩, _⟩ := st; wpAny_pyIter_enum he h
/-! ### enumerate over a tuple -/
set_option maxHeartbeats 1000000 in
theorem meets_enum1 {v : Value} {o : Obj} {H : Heap → Prop} (B : Begins v o H) :
    Meets (Builtin.«enumerate.__new__» ⟨[.type "enumerate", v], []⟩) (fun _ R s => H s.heap ∧
      R (.ok (.ret (.ref (s.heap.push o).objs.size))) { s with heap := (s.heap.push o).push { cls := .type "enumerate", data := .fields #[.none, .bool false, .ref s.heap.objs.size, rawInt 0, .none, .none] } }) :=
  .of_wp fun prog w A R s h => by
    obtain ⟨hp, g, d, tk, os⟩ := s; obtain ⟨h1, h⟩ := h
    have hsub := sub_enumerate
    have q1 : ∀ {A' : Around} {E : Value → Shared → Prop} {Q : Value → Shared → Prop}, Q (.ref hp.objs.size) ⟨hp.push o, g, d, tk, os⟩ → wpAny (model prog w) A' (pyIter v) Q E ⟨hp, g, d, tk, os⟩ :=
      fun q => B.iter prog w _ _ ⟨hp, g, d, tk, os⟩ _ h1 q
    wp_walk using q1
    refine wpAny_stack_any fun st => wpAny_pure ?_
    split
    · rename_i c _ _ _ _ _
      cases (c == Value.type "enumerate")
      · wp_walk using q1
        exact ⟨_, rfl, h⟩
      · wp_walk using q1
        exact ⟨_, rfl, h⟩
    · wp_walk using q1
      exact ⟨_, rfl, h⟩
theorem enum_begins1 {prog : Program} {w : World} {A : Around} {E : Value → Shared → Prop} {s : Shared} {v : Value} {o : Obj} {H : Heap → Prop} {Q : Value → Shared → Prop} (B : Begins v o H) (h1 : H s.heap)
    (h : ∀ h', IsEnum h' (s.heap.objs.size + 1) s.heap.objs.size 0 .none → h'.get? s.heap.objs.size = some o → h'.objs.size = s.heap.objs.size + 2 →
      (∀ b o, s.heap.get? b = some o → h'.get? b = some o) → Q (.ref (s.heap.objs.size + 1)) { s with heap := h' }) :
    wpAny (model prog w) A (call (.type "enumerate") [v]) Q E s := by
  refine callType_new F.called_enumerate (by decide) (F.typeCall_enumerate_1 _) (F.newCall_enumerate_1 _) (fun obj => F.args_object_init_2 obj _) F.entry_enumerate_new
    (meets_enum1 B) ⟨h1, ?_⟩
  have hz : (s.heap.push o).objs.size = s.heap.objs.size + 1 := Heap.size_push ..
  show _ ∧ _
  rw [hz]
  have he : IsEnum ((s.heap.push o).push { cls := .type "enumerate", data := .fields #[.none, .bool false, .ref s.heap.objs.size, rawInt 0, .none, .none] }) (s.heap.objs.size + 1) s.heap.objs.size 0 .none := by
    have := Heap.get?_push_size (s.heap.push o) (o := { cls := .type "enumerate", data := .fields #[.none, .bool false, .ref s.heap.objs.size, rawInt 0, .none, .none] }) rfl
    rw [hz] at this; exact this
  refine ⟨⟨_, he, rfl⟩, h _ he (Heap.get?_push_of_some _ (Heap.get?_push_size _ B.free)) (by rw [Heap.size_push, hz]) fun b o x => Heap.get?_push_of_some _ (Heap.get?_push_of_some _ x)⟩
def IteT (K : PySem.W.Frag) (a : Addr) : It :=
  ⟨fun i H => ∃ (xs : List V) (x : V), SqT K H a xs ∧ xs[i]? = some x, fun i H v H' => ∃ T x, v = .ref T ∧ H T = none ∧ H' = upd H T (.tup [.int (i : Nat), x]) ∧ ∀ xs, SqT K H a xs → xs[i]? = some x, fun i H => ∃ xs : List V, SqT K H a xs ∧ xs.length ≤ i⟩
theorem turn_enumT {P : Program} {w : World} {K : PySem.W.Frag} {elts : List Expr} {kk : Nat} {tpos : Pos} (a e it : Addr) :
    Turn P w K (.Tuple elts kk tpos) (IteT K a) [e, it] e (fun i h => (∃ old, IsEnum h e it ((i : Nat) : Int) old) ∧ h.IsTupleIter it a i ∧ e ≠ it ∧ e ≠ a ∧ it ≠ a) where
  mem := by simp
  obj := fun i h st b hb => by
    obtain ⟨⟨old, he⟩, ⟨o, ho, hc, hd⟩, _⟩ := st
    have e' : b = e ∨ b = it := by simpa using hb
    rcases e' with z | z
    · rw [z]; exact ⟨_, he, fun v q => nomatch q⟩
    · rw [z]; exact ⟨o, ho, fun v q => by rw [hd] at q; cases q⟩
  keep := fun i h h' st k => let ⟨⟨old, he⟩, hi, hne⟩ := st; ⟨⟨old, k e (by simp) _ he⟩, hi.at fun o q => k it (by simp) o q, hne⟩
  item := by
    intro X hP hw hK hc i pins s σ H E I hf st hg
    subst hP hw hK
    obtain ⟨⟨old, he⟩, hit, hne, hea, hia⟩ := st
    obtain ⟨xs, x, hq, hx⟩ := hg
    obtain ⟨its, rv, p, hz⟩ := I.tuple hq
    obtain ⟨u, hu, ru⟩ := rv.get hx
    have hlt : i < its.toArray.size := by
      rcases Nat.lt_or_ge i its.length with h | h
      · simpa using h
      · rw [List.getElem?_eq_none h] at hu; cases hu
    have hel : e < s.heap.objs.size := Heap.lt_size he
    have hil : it < s.heap.objs.size := by obtain ⟨_, q, _⟩ := hit; exact Heap.lt_size q
    have D := Draws.tuple (prog := X.prog) (w := X.w) (A := X.A.in1) (I.ok.hd hc) it a (Ne.symm hia) its.toArray
    refine wpAny_pyNext_enum_itemD D he ⟨hit, p⟩ hlt hne (by simp [hne, hea]) fun u2 h' tk hP ho hit' hT hsz hk => ?_
    have eu : u2 = u := by
      have hP' : its.toArray[i]? = some u2 := hP
      rw [List.getElem?_toArray, hu] at hP'
      exact (Option.some.inj hP').symm
    subst eu
    refine ⟨_, rfl, wpAny_letOwnedTupleGo_enum (s := { s with heap := h', toks := tk + 1 }) ho fun h'' he' sb => ?_⟩
    have hT2 : h''.get? s.heap.objs.size = some { cls := .type "tuple", data := .seq #[.int i tk, u2] } := (sb.2 _ (Nat.ne_of_gt hel)).trans hT
    have new : ObjOk X.prog X.w (upd H s.heap.objs.size (.tup [.int (i : Nat), x])) h'' s.heap.objs.size (.tup [.int (i : Nat), x]) :=
      ⟨by show 2 ≤ sizeLine; decide, [.int i tk, u2], .cons ⟨_, rfl⟩ (.cons ru .nil), ⟨_, hT2, rfl, _, rfl⟩⟩
    have I1 : Inv X pins σ (upd H s.heap.objs.size (.tup [.int (i : Nat), x])) { s with heap := h'', toks := tk + 1 } :=
      I.turnedNew (ch := [e, it]) (fun b ob hb q => (sb.2 b (fun z => hb (by simp [z]))).trans (hk b ob (fun z => hb (by simp [z])) (fun z => hb (by simp [z])) q)) hf (Nat.le_refl _) new
    refine ⟨.ref s.heap.objs.size, _, I1, rfl, ⟨_, x, rfl, I.hok.fresh (Nat.le_refl _), rfl, fun ys hy => by rw [I.tuple_inj hy hq]; exact hx⟩, ⟨⟨u2, ?_⟩, hit'.1.at fun o q => (sb.2 it (Ne.symm hne)).trans q, hne, hea, hia⟩, fun b hb => ?_⟩
    · have e1 : ((i + 1 : Nat) : Int) = (i : Int) + 1 := by omega
      rw [e1]; exact he'
    · have hb' : b < s.heap.objs.size := by
        have e' : b = e ∨ b = it := by simpa using hb
        rcases e' with z | z
        · rw [z]; exact hel
        · rw [z]; exact hil
      rw [upd_ne (Nat.ne_of_lt hb')]
      exact (hf b hb).1
  done := by
    intro X hP hw hK hc i pins s σ H E I hf st hg
    subst hP hw hK
    obtain ⟨⟨old, he⟩, hit, hne, hea, hia⟩ := st
    obtain ⟨xs, hq, hx⟩ := hg
    obtain ⟨its, rv, p, hz⟩ := I.tuple hq
    obtain ⟨f0, f1, f2, f3, f4, f5⟩ := hf it (by simp)
    have hl := rv.length
    have hT : s.TypeIs (.ref e) "enumerate" := ⟨_, he, rfl⟩
    unfold pyNext
    refine wpAny_bind (wpAny_attempt (wpAny_callSpecial?_slot (name := Str.ofString "__next__") hT F.slot_enumerate_next
      (wpAny_call_entry F.slot_enumerate_next hT F.entry_enumerate_next ?_ (F.args_enumerate_next_1 _))))
    show wpAny _ _ (field (.ref e) 2 >>= _) _ _ _
    refine wpAny_bind (wpAny_field he rfl (x := .ref it) rfl ?_)
    refine wpAny_bind (wpAny_nextOf_tuple_end (I.ok.hd hc) hit p (by simp; omega) fun h' x he' hx' => ?_)
    obtain ⟨o, ho, hc'⟩ := hx'
    refine wpAny_bind (wpAny_isInstance (T := "StopIteration") (b := true) ⟨o, ho, hc'⟩ isSubtype_stop ?_)
    exact wpAny_pure ⟨rfl, I.turned (t' := s.toks) (fun b o hb q => he' b o hb q) f0 f1 f3 f4 f5⟩
  self := fun A i s Q E st h => let ⟨⟨_, he⟩, _⟩ := st; wpAny_pyIter_enum he h
section
variable {X : Cx} {H0 G0 : Hp} {W : WX}
def iEnumS (ta : TA) : TI := fun σ H R => ta σ H fun vs H1 => ∃ x, vs = [.str x] ∧ R (Ites x) H1
theorem pi_enumS {e : Expr} {ta : TA} {p pos tpos : Pos} {elts : List Expr} {kk : Nat} (hg : Gl X "enumerate") (hm : X.mg "enumerate" = none) (ha : PA X [e] ta) (hs : starEach [e] X.env = [(false, eval e X.env)] := by rfl) :
    PI X (.Tuple elts kk tpos) (.Call (.Name "enumerate" p) [e] [] pos) (iEnumS ta) := by
  refine ⟨fun pins s σ H R I h => ?_⟩
  refine Call_ (ld_blt I hg hm boot_enumerate (PyProof.Rows.callWith_type1 (thn (ha.run pos pins s σ H _ I h) fun us s1 ⟨vs, H1, I1, r1, q1⟩ => ?_) hs rfl))
  obtain ⟨x, ex, q⟩ := q1
  subst ex
  cases r1 with
  | cons r rr =>
    cases rr
    obtain ⟨t, rfl⟩ := r
    refine call_enumerate_str fun h' he hit hsz hk => wpAny_pyIter_enum he ?_
    have I2 : Inv X pins σ H1 { s1 with heap := h' } := I1.kept (t' := s1.toks) hk
    refine ⟨s1.heap.objs.size + 1, [s1.heap.objs.size + 1, s1.heap.objs.size], _, _, H1, rfl, I2, turn_enumS x t (s1.heap.objs.size + 1) s1.heap.objs.size, ⟨⟨.none, he⟩, hit, Nat.succ_ne_self _, Nat.zero_le _⟩, fun b hb => ?_, q⟩
    have e' : b = s1.heap.objs.size + 1 ∨ b = s1.heap.objs.size := by simpa using hb
    have hle : s1.heap.objs.size ≤ b := by
      rcases e' with z | z
      · rw [z]; exact Nat.le_add_right _ _
      · rw [z]; exact Nat.le_refl _
    exact I1.fpOk hle (I1.hok.fresh hle)
theorem itd_enumS {K : PySem.W.Frag} {mg : Mg} {G : Hp} (x : Str) (hx : x.cps.all (· < 0x110000) = true) : ItD K mg (Ites x) (enumD (chars x)) G := fun G' H' s1 s2 => by
  have hl : (chars x).length = x.cps.size := by simp [chars]
  refine ⟨fun i d e => ?_, by show x.cps.size ≤ _; rw [enumD_len, hl]; exact Nat.le_refl _⟩
  rw [enumD_at] at e
  have hi : i < x.cps.size := by
    rcases Nat.lt_or_ge i x.cps.size with h | h
    · exact h
    · rw [List.getElem?_eq_none (by rw [hl]; exact h)] at e; cases e
  refine ⟨hi, fun v H2 ⟨T, c, y1, hT, y2, y3⟩ => ?_⟩
  subst y1; subst y3
  have ed : (chars x)[i]? = some (.str ⟨#[c]⟩) := by
    simp only [chars, List.getElem?_map, Array.getElem?_toList, y2, Option.map_some]
  rw [ed] at e
  cases e
  have hG : G' T = none := by
    cases e : G' T with
    | none => rfl
    | some o => have := s2 _ _ e; rw [hT] at this; cases this
  refine ⟨upd G' T (.tup [.int (i : Nat), .str ⟨#[c]⟩]), .new s2 hT, .tup (.inl (.inl upd_same)) (.cons (.int _) (.cons (.str _ ?_) .nil))⟩
  have z := Array.all_eq_true.mp hx i hi
  rw [Array.getElem?_eq_getElem hi] at y2
  cases y2
  simpa using z
def iEnumT (K : PySem.W.Frag) (ta : TA) : TI := fun σ H R => ta σ H fun vs H1 => ∃ a xs, vs = [.ref a] ∧ SqT K H1 a xs ∧ R (IteT K a) H1
theorem pi_enumT {e : Expr} {ta : TA} {p pos tpos : Pos} {elts : List Expr} {kk : Nat} (hg : Gl X "enumerate") (hm : X.mg "enumerate" = none) (ha : PA X [e] ta) (hs : starEach [e] X.env = [(false, eval e X.env)] := by rfl) :
    PI X (.Tuple elts kk tpos) (.Call (.Name "enumerate" p) [e] [] pos) (iEnumT X.K ta) := by
  refine ⟨fun pins s σ H R I h => ?_⟩
  refine Call_ (ld_blt I hg hm boot_enumerate (PyProof.Rows.callWith_type1 (thn (ha.run pos pins s σ H _ I h) fun us s1 ⟨vs, H1, I1, r1, q1⟩ => ?_) hs rfl))
  obtain ⟨a, xs, ex, hq, q⟩ := q1
  subst ex
  cases r1 with
  | cons r rr =>
    cases rr
    cases r
    obtain ⟨its, rv, p', hz⟩ := I1.tuple hq
    have hal : a < s1.heap.objs.size := by obtain ⟨_, q, _⟩ := p'; exact Heap.lt_size q
    refine enum_begins1 (begins_tuple a its.toArray) p' fun h' he hit hsz hk => wpAny_pyIter_enum he ?_
    have I2 : Inv X pins σ H1 { s1 with heap := h' } := I1.kept (t' := s1.toks) hk
    refine ⟨s1.heap.objs.size + 1, [s1.heap.objs.size + 1, s1.heap.objs.size], _, _, H1, rfl, I2, turn_enumT a (s1.heap.objs.size + 1) s1.heap.objs.size, ⟨⟨.none, he⟩, ⟨_, hit, rfl, rfl⟩, Nat.succ_ne_self _, Nat.ne_of_gt (Nat.lt_succ_of_lt hal), Nat.ne_of_gt hal⟩, fun b hb => ?_, q⟩
    have e' : b = s1.heap.objs.size + 1 ∨ b = s1.heap.objs.size := by simpa using hb
    have hle : s1.heap.objs.size ≤ b := by
      rcases e' with z | z
      · rw [z]; exact Nat.le_add_right _ _
      · rw [z]; exact Nat.le_refl _
    exact I1.fpOk hle (I1.hok.fresh hle)
theorem itd_enumT {K : PySem.W.Frag} {mg : Mg} {G : Hp} {a : Addr} {xs : List V} {ds : List D} (r : SqT K G a xs) (t : DpAll K mg G xs ds) : ItD K mg (IteT K a) (enumD ds) G := fun G' H' s1 s2 => by
  refine ⟨fun i d e => ?_, ⟨xs, same_t (s1.trans s2) r, by rw [enumD_len, t.len]; exact Nat.le_refl _⟩⟩
  rw [enumD_at] at e
  cases e2 : ds[i]? with
  | none => rw [e2] at e; cases e
  | some d0 =>
    rw [e2] at e
    cases e
    obtain ⟨v, ev, pv⟩ := t.get e2
    refine ⟨⟨xs, v, same_t (s1.trans s2) r, ev⟩, fun x H2 ⟨T, y, y1, hT, y2, y3⟩ => ?_⟩
    subst y1; subst y2
    have yv := y3 xs (same_t (s1.trans s2) r)
    rw [ev] at yv
    cases yv
    have hG : G' T = none := by
      cases e : G' T with
      | none => rfl
      | some o => have := s2 _ _ e; rw [hT] at this; cases this
    exact ⟨upd G' T (.tup [.int (i : Nat), v]), .new s2 hT, .tup (.inl (.inl upd_same)) (.cons (.int _) (.cons ((pv.mono s1).mono (upd_same_of hG)) .nil))⟩
def enA : List D → R (List D)
  | [.lst ds] => .ok (enumD ds)
  | [.str x] => .ok (enumD (chars x))
  | [.tup ds] => .ok (enumD ds)
  | _ => .stuck
theorem id_enumA {e : Expr} {elts : List Expr} {kk : Nat} {fa : DE → R (List D)} {p pos tpos : Pos} (hm : X.mg "enumerate" = none) (ha : Ad X H0 W [e] fa) (hg : Gl X "enumerate" := by rfl) (hs : starEach [e] X.env = [(false, eval e X.env)] := by rfl) : Id_ X H0 W (.Tuple elts kk tpos) (.Call (.Name "enumerate" p) [e] [] pos) (iArgs enA fa) := by
  refine ⟨fun pins s σ H R I h => ?_⟩
  obtain ⟨G, δ, sg, sl, h⟩ := h
  by_cases hx : ∃ x, fa δ = .ok [.str x]
  · obtain ⟨x, ex⟩ := hx
    refine (pi_enumS hg hm ha hs).run pins s σ H R I ⟨G, δ, sg, sl, ?_⟩
    unfold iArgs at h
    rw [ex, bind_ok] at h
    rw [ex]
    intro vs H1 G1 g1 p1
    cases p1 with
    | cons q t =>
      cases t
      cases q with
      | str _ hv => exact ⟨_, rfl, h _ H1 G1 g1 (itd_enumS x hv)⟩
  · by_cases hy : ∃ ds, fa δ = .ok [.tup ds]
    · obtain ⟨ds, ex⟩ := hy
      refine (pi_enumT hg hm ha hs).run pins s σ H R I ⟨G, δ, sg, sl, ?_⟩
      unfold iArgs at h
      rw [ex, bind_ok] at h
      rw [ex]
      intro vs H1 G1 g1 p1
      cases p1 with
      | cons q t =>
        cases t
        cases q with
        | tup r a => exact ⟨_, _, rfl, same_t g1.gh r, h _ H1 G1 g1 (itd_enumT r a)⟩
    refine (id_enum hm ha hg hs).run pins s σ H R I ⟨G, δ, sg, sl, ?_⟩
    have e : iArgs enL fa δ = iArgs enA fa δ := by
      unfold iArgs
      cases ef : fa δ with
      | ok ds =>
        rw [bind_ok, bind_ok]
        match ds, ef with
        | [], _ => rfl
        | [.lst ds], _ => rfl
        | [.str x], ef => exact absurd ⟨x, ef⟩ hx
        | [.non], _ => rfl
        | [.bl _], _ => rfl
        | [.int _], _ => rfl
        | [.tup ds], ef => exact absurd ⟨ds, ef⟩ hy
        | [.dct _], _ => rfl
        | [.obj _ _], _ => rfl
        | [.exn _ _ _ _], _ => rfl
        | d :: _ :: _, _ => cases d <;> rfl
      | ex c fs => rfl
      | stuck => rfl
    rw [e]
    exact h
end
end DL


set_option maxRecDepth 100000
set_option maxHeartbeats 4000000
namespace DL
open PySem PySem.Spec PyProof.Rows L2

/-! ### {k: v for .. in ..}, the keys ints or texts -/
def dcL (bd : D → DE → Option DE) (ft : DE → R Bool) (fk fe : DE → R RV) (δ : DE) : List (D × D) → List D → R (List (D × D))
  | acc, [] => .ok acc
  | acc, d :: ds => match bd d δ with
    | none => .stuck
    | some δ1 => match ft δ1 with
      | .ok b => if b = true then (match fk δ1 with
          | .ok y => (match fe δ1 with
            | .ok r => (match kkOf y.d with
              | some (.inl c) => if acc.length < SZ then dcL bd ft fk fe δ (putD acc (.inl c) r.d) ds else .stuck
              | _ => .stuck)
            | _ => .stuck)
          | _ => .stuck) else dcL bd ft fk fe δ acc ds
      | _ => .stuck
def fDc (fi : DE → R (List D)) (vs : List Nat) (bd : D → DE → Option DE) (ft : DE → R Bool) (fk fe : DE → R RV) (δ : DE) : R RV := fi δ >>= fun ds => match dcL bd ft fk fe (fgtS vs δ) [] ds with
  | .ok es => .ok (.od false es)
  | _ => .stuck
theorem dpk_len {K : PySem.W.Frag} {mg : Mg} {G : Hp} : ∀ {xs : List (Key × V)} {dk : List (D × D)}, DpK K mg G xs dk → xs.length = dk.length
  | _, _, .nil => rfl
  | _, _, .cons _ _ t => congrArg (· + 1) (dpk_len t)
section
variable {X : Cx} {H0 G0 : Hp} {W : WX}
theorem dc_read {K : PySem.W.Frag} {mg : Mg} {fi : DE → R (List D)} {vs : List Nat} {bd : D → DE → Option DE} {ft : DE → R Bool} {fk fe : DE → R RV} {g : TG} (bg : BG K mg g bd vs) (σ : L2.St) (H : Hp) (Q : VK) (h : tE K mg H0 W (fDc fi vs bd ft fk fe) σ H Q) :
    tDc (tI K mg H0 W fi) g (tB K mg H0 (fun _ _ _ _ => False) ft) (tE K mg H0 (fun _ _ _ _ => False) fk) (tE K mg H0 (fun _ _ _ _ => False) fe) vs σ H Q := by
  obtain ⟨G, δ, s, sl, h⟩ := h
  refine ⟨G, δ, s, sl, ?_⟩
  unfold fDc at h
  cases hf : fi δ with
  | ex c fs => rw [hf, bind_ex] at h; exact h
  | stuck => rw [hf, bind_stuck] at h; exact h
  | ok ds =>
    rw [hf, bind_ok] at h
    cases hc : dcL bd ft fk fe (fgtS vs δ) [] ds with
    | ex c fs => rw [hc] at h; exact h.elim
    | stuck => rw [hc] at h; exact h.elim
    | ok es0 =>
      rw [hc] at h
      simp only at h
      intro J H1 G1 g1 it Dn hDn
      refine ⟨fun i m H' => m = ds.length - i ∧ i ≤ ds.length ∧ ∃ G' acc es, Gr H G H' G' ∧ Same G1 G' ∧ H' Dn = some (.dK acc) ∧ G' Dn = none ∧ DpK K mg G' acc es ∧ dcL bd ft fk fe (fgtS vs δ) es (ds.drop i) = .ok es0, ?_, ?_⟩
      · refine ⟨_, rfl, Nat.zero_le _, G1, [], [], g1.trans (.mut g1.gh hDn), Same.refl _, upd_same, ?_, .nil, hc⟩
        cases e : G1 Dn with
        | none => rfl
        | some o => have := g1.gh _ _ e; rw [hDn] at this; cases this
      · rintro i m H' ⟨rfl, hi, G', acc, es, g', s', hD, hG, pa, hr⟩
        obtain ⟨it1, it2⟩ := it G' H' s' g'.gh
        rcases Nat.lt_or_ge i ds.length with hlt | hge
        · right
          obtain ⟨d, ed⟩ : ∃ d, ds[i]? = some d := ⟨ds[i], List.getElem?_eq_getElem hlt⟩
          obtain ⟨go, yl⟩ := it1 i d ed
          have edr : ds.drop i = d :: ds.drop (i + 1) := by
            rw [List.drop_eq_getElem_cons hlt]
            rw [List.getElem?_eq_getElem hlt] at ed
            cases ed
            rfl
          rw [edr] at hr
          unfold dcL at hr
          cases eb : bd d (fgtS vs δ) with
          | none => simp only [eb] at hr; cases hr
          | some δ1 =>
            simp only [eb] at hr
            refine ⟨go, fun H2 => ∃ G2 acc2 es2, Gr H G H2 G2 ∧ Same G1 G2 ∧ H2 Dn = some (.dK acc2) ∧ G2 Dn = none ∧ DpK K mg G2 acc2 es2 ∧ dcL bd ft fk fe (fgtS vs δ) es2 (ds.drop (i + 1)) = .ok es0, fun H2 ⟨G2, acc2, es2, a⟩ => ⟨_, by omega, rfl, hlt, G2, acc2, es2, a⟩, fun x H2 y => ?_⟩
            obtain ⟨G2, g2, p2⟩ := yl x H2 y
            have k1 : ∀ {Hx Gx : Hp}, Gr H' G' Hx Gx → Hx Dn = some (.dK acc) ∧ Gx Dn = none := fun {Hx Gx} gx => ⟨gx.hh _ _ hD, (gx.old Dn (by rw [hD]; exact fun z => nomatch z)).trans hG⟩
            refine bg.go H0 H2 G2 x d _ _ δ1 _ g2.gh (((sl.mono g').mono g2).wiped vs) p2 eb fun σ2 sl2 w2 => ⟨by rw [w2, wipe_wipe], ?_⟩
            cases et : ft δ1 with
            | ex c fs => simp only [et] at hr; cases hr
            | stuck => simp only [et] at hr; cases hr
            | ok b =>
              simp only [et] at hr
              refine ⟨G2, δ1, g2.gh, sl2, ?_⟩
              rw [et]
              intro H3 G3 g3
              by_cases hb : b = true
              · rw [if_pos hb] at hr ⊢
                cases ek : fk δ1 with
                | ex c fs => simp only [ek] at hr; cases hr
                | stuck => simp only [ek] at hr; cases hr
                | ok y =>
                  simp only [ek] at hr
                  cases ee : fe δ1 with
                  | ex c fs => simp only [ee] at hr; cases hr
                  | stuck => simp only [ee] at hr; cases hr
                  | ok r =>
                    simp only [ee] at hr
                    refine ⟨G3, δ1, g3.gh, sl2.mono g3, ?_⟩
                    rw [ek]
                    intro vy H4 G4 g4 p4
                    obtain ⟨G5, g5, s5, p5, _⟩ := RVp.frz g4 p4
                    refine ⟨G5, δ1, g5.gh, (sl2.mono g3).mono g5, ?_⟩
                    rw [ee]
                    intro v H6 G6 g6 p6
                    obtain ⟨G7, g7, s7, p7, _⟩ := RVp.frz g6 p6
                    have p5' := p5.mono g7.gg
                    cases eq : kkOf y.d with
                    | none => simp only [eq] at hr; cases hr
                    | some kk =>
                      cases kk with
                      | inr k => simp only [eq] at hr; cases hr
                      | inl k =>
                        simp only [eq] at hr
                        by_cases hz : es.length < SZ
                        · rw [if_pos hz] at hr
                          rcases dp_kk p5' eq with ⟨c, ec, rfl, kc⟩ | ⟨c, _, ec, _⟩
                          · cases ec
                            have gx : Gr H' G' H6 G7 := g2.trans (g3.trans (g5.trans g7))
                            obtain ⟨q1, q2⟩ := k1 gx
                            exact ⟨acc, _, rfl, q1, by rw [dpk_len pa]; exact sz_lt (Nat.le_of_lt hz), G7, _, _, (g'.trans gx).upd q2 (g1.hh.free hDn), s'.trans gx.gg, upd_same, q2, dk_put (DpK.mono gx.gg pa) kc p7, hr⟩
                          · cases ec
                        · rw [if_neg hz] at hr; cases hr
              · rw [if_neg hb] at hr ⊢
                have gx : Gr H' G' H3 G3 := g2.trans g3
                obtain ⟨q1, q2⟩ := k1 gx
                exact ⟨G3, acc, es, g'.trans gx, s'.trans gx.gg, q1, q2, DpK.mono gx.gg pa, hr⟩
        · left
          have e : i = ds.length := by omega
          subst e
          rw [List.drop_length] at hr
          cases hr
          exact ⟨it2, h _ H' G' g' ⟨Dn, acc, rfl, hD, hG, g1.hh.free hDn, pa⟩⟩
theorem ed_dc {kx vx tg iter : Expr} {ifs : List Expr} {scope : Scope} {own : List (Str × Nat)} {pos : Pos} {fi : DE → R (List D)} {bd : D → DE → Option DE} {ft : DE → R Bool} {fk fe : DE → R RV} {g : TG} (hc : X.calm = true) (hN : X.N.Nodup) (hi : Id_ X H0 W tg iter fi) (ok : BlkOk X.N X.env.scope scope own) (bg : BG X.K X.M g bd (own.map (·.2)))
    (hg : ∀ (s : Shared) (H : Hp) (C : Addr) (cl : List (Str × Addr)) (fp : List Addr), PG (Blk X scope s H C cl fp) tg g) (ht : ∀ (s : Shared) (H : Hp) (C : Addr) (cl : List (Str × Addr)) (fp : List Addr), PTs (Blk X scope s H C cl fp) ifs (tB X.K X.M H0 W0 ft))
    (hk : ∀ (s : Shared) (H : Hp) (C : Addr) (cl : List (Str × Addr)) (fp : List Addr), Ed (Blk X scope s H C cl fp) H0 W0 kx fk) (he : ∀ (s : Shared) (H : Hp) (C : Addr) (cl : List (Str × Addr)) (fp : List Addr), Ed (Blk X scope s H C cl fp) H0 W0 vx fe) (hs : ∀ x, foldedSetIterable iter X.env x = pure x := by intro _; rfl) :
    Ed X H0 W (.DictComp kx vx [⟨tg, iter, ifs, 0⟩] scope pos) (fDc fi (own.map (·.2)) bd ft fk fe) :=
  PE.imp (pe_dc hc hN hi ok hg ht hk he hs) fun σ H Q h => dc_read bg σ H Q h
end
end DL


set_option maxRecDepth 100000
set_option maxHeartbeats 4000000
namespace DL
open PySem PySem.Spec PyProof.Rows L2 L2H
/-! ### constants of the module, read in the written part -/
def allB2 (f : Value → D → Bool) : List Value → List D → Bool
  | [], [] => true
  | u :: us, d :: ds => f u d && allB2 f us ds
  | _, _ => false
def dB (K : PySem.W.Frag) : Nat → Value → D → Bool
  | 0, _, _ => false
  | n + 1, u, d => match d with
    | .non => (match u with | .none => true | _ => false)
    | .bl b => (match u with | .bool c => b == c | _ => false)
    | .int i => (match u with | .int j _ => decide (i = j) | _ => false)
    | .str x => (match u with | .str y _ => decide (x = y) && x.cps.all (· < 0x110000) | _ => false)
    | .tup ds => (match u with
      | .ref a => (match K.lookup a with
        | some ⟨.type c, _, .seq its _, _⟩ => decide (c = "tuple") && (decide (its.size ≤ sizeLine) && allB2 (dB K n) its.toList ds)
        | _ => false)
      | _ => false)
    | _ => false
theorem allB2_ok {K : PySem.W.Frag} {f : Value → D → Bool} (hf : ∀ u d, f u d = true → ∃ v, RelV v u ∧ ∀ M G, Dp K M G v d) : ∀ {us : List Value} {ds : List D}, allB2 f us ds = true → ∃ vs, Vals vs us ∧ ∀ M G, DpAll K M G vs ds
  | [], [], _ => ⟨[], .nil, fun _ _ => .nil⟩
  | [], _ :: _, h => by cases h
  | _ :: _, [], h => by cases h
  | u :: us, d :: ds, h => by
    obtain ⟨h1, h2⟩ := He.ba (show (f u d && allB2 f us ds) = true from h)
    obtain ⟨v, r, p⟩ := hf u d h1
    obtain ⟨vs, rs, ps⟩ := allB2_ok hf h2
    exact ⟨v :: vs, .cons r rs, fun M G => .cons (p M G) (ps M G)⟩
theorem dB_ok {K : PySem.W.Frag} : ∀ (n : Nat) (u : Value) (d : D), dB K n u d = true → ∃ v, RelV v u ∧ ∀ M G, Dp K M G v d
  | 0, _, _, h => by cases h
  | n + 1, u, d, h => by
    unfold dB at h
    cases d with
    | non => cases u with
      | none => exact ⟨.non, rfl, fun _ _ => .non⟩
      | _ => cases h
    | bl b => cases u with
      | bool c => cases eq_of_beq (show (b == c) = true from h); exact ⟨.bl b, rfl, fun _ _ => .bl b⟩
      | _ => cases h
    | int i => cases u with
      | int j t => cases of_decide_eq_true (show decide (i = j) = true from h); exact ⟨.int i, ⟨t, rfl⟩, fun _ _ => .int i⟩
      | _ => cases h
    | str x => cases u with
      | str y t =>
        obtain ⟨h1, h2⟩ := He.ba (show (decide (x = y) && x.cps.all (· < 0x110000)) = true from h)
        cases of_decide_eq_true h1
        exact ⟨.str x, ⟨t, rfl⟩, fun _ _ => .str x h2⟩
      | _ => cases h
    | tup ds => cases u with
      | ref a =>
        simp only at h
        cases q : K.lookup a with
        | none => rw [q] at h; cases h
        | some o =>
          obtain ⟨oc, od, dt, osl⟩ := o
          rw [q] at h
          cases oc with
          | type c =>
            cases dt with
            | seq its m =>
              obtain ⟨h1, h2⟩ := He.ba (show (decide (c = "tuple") && (decide (its.size ≤ sizeLine) && allB2 (dB K n) its.toList ds)) = true from h)
              obtain ⟨h3, h4⟩ := He.ba h2
              obtain ⟨vs, rs, ps⟩ := allB2_ok (dB_ok n) h4
              exact ⟨.ref a, rfl, fun M G => .tup (.inr ⟨_, its, m, q, congrArg Value.type (of_decide_eq_true h1), rfl, of_decide_eq_true h3, rs⟩) (ps M G)⟩
            | _ => cases h
          | _ => cases dt <;> cases h
      | _ => cases h
    | _ => cases h
def glbB (K : PySem.W.Frag) (x : Str) (d : D) : Bool := match PySem.W.nsIn K mainGlobals x with
  | some (some u) => dB K 9 u d
  | _ => false
theorem glbB_ok {K : PySem.W.Frag} {h : Heap} {mg : Str → Option Value} {x : Str} {d : D} (X : K.In h) (Gm : h.Ns mainGlobals mg) (c : glbB K x d = true) : Glb K mg x d := by
  unfold glbB at c
  cases q : PySem.W.nsIn K mainGlobals x with
  | none => rw [q] at c; cases c
  | some r =>
    rw [q] at c
    cases r with
    | none => cases c
    | some u =>
      obtain ⟨v, rv, p⟩ := dB_ok 9 u d c
      exact ⟨u, v, PySem.W.mg_of X Gm q, rv, p⟩
theorem vals_nil {us : List Value} (h : Vals [] us) : us = [] := by cases h; rfl
theorem binds_nil {K : PySem.W.Frag} {fd : FuncData} {ps : List Str} {vs : List V} (hv : vs = []) (h : ∃ ds, Vals vs ds ∧ Binds K fd ps ds) : Binds K fd ps [] := by
  subst hv
  obtain ⟨ds, r, b⟩ := h
  cases vals_nil r
  exact b
end DL


set_option maxRecDepth 100000
set_option maxHeartbeats 4000000
namespace DL
open PySem PySem.Spec PyProof.Rows L2
/-! ### evaluation of the second layer's functions -/
section
variable {δ : DE} {i : Nat} {f fa fb fc : DE → R RV} {r : RV} {d : D}
def chR (d : D) (k : R RV) : R RV := match d with
  | .bl b => if b = true then k else .ok (.fr (.bl false))
  | _ => .stuck
@[simp] theorem chR_bl {b : Bool} {k : R RV} : chR (.bl b) k = if b = true then k else .ok (.fr (.bl false)) := (Eq.refl _).trans (Eq.refl _)
@[simp] theorem ev_chain {g g' : D → D → R RV} : fChain g g' fa fb fc δ = (fa δ >>= fun x => fb δ >>= fun y => g x.d y.d >>= fun r => chR r.d (fc δ >>= fun z => g' y.d z.d)) := (Eq.refl _).trans (Eq.refl _)
/-- what stands at a place -/
def ixR : Option D → R RV
  | some d => .ok (.fr d)
  | none => .stuck
@[simp] theorem ixR_some : ixR (some d) = .ok (.fr d) := (Eq.refl _).trans (Eq.refl _)
theorem atI_lit {α : Type} {xs : List α} {n : Nat} : L2.atI xs (n : Int) = xs[n]? := by
  unfold L2.atI L2.ixN
  rw [if_pos (Int.natCast_nonneg n)]
  by_cases h : (n : Int) < xs.length
  · rw [if_pos h]; rfl
  · rw [if_neg h]
    exact (List.getElem?_eq_none (by omega)).symm
theorem ixr_atI {o : Option D} : (match o with | some d => okd d | none => .stuck) = ixR o := by cases o <;> rfl
theorem ixn_lst {ds : List D} {n : Nat} : dIxD (.lst ds) (.int (n : Int)) = ixR ds[n]? := by
  show (match L2.atI ds (n : Int) with | some d => okd d | none => .stuck) = _
  rw [atI_lit, ixr_atI]
theorem ixn_tup {ds : List D} {n : Nat} : dIxD (.tup ds) (.int (n : Int)) = ixR ds[n]? := by
  show (match L2.atI ds (n : Int) with | some d => okd d | none => .stuck) = _
  rw [atI_lit, ixr_atI]
@[simp] theorem ixl_lst {ds : List D} {n : Nat} : dIxD (.lst ds) (.int (no_index (OfNat.ofNat n))) = ixR ds[n]? := ixn_lst
@[simp] theorem ixl_tup {ds : List D} {n : Nat} : dIxD (.tup ds) (.int (no_index (OfNat.ofNat n))) = ixR ds[n]? := ixn_tup
@[simp] theorem ixc_lst {ds : List D} {n : Nat} : dIxD (.lst ds) (.int (n : Int)) = ixR ds[n]? := ixn_lst
@[simp] theorem ixc_tup {ds : List D} {n : Nat} : dIxD (.tup ds) (.int (n : Int)) = ixR ds[n]? := ixn_tup
theorem ixi_lst {ds : List D} {i : Int} (h : 0 ≤ i) : dIxD (.lst ds) (.int i) = ixR ds[i.toNat]? := by
  have := ixn_lst (ds := ds) (n := i.toNat); rwa [Int.toNat_of_nonneg h] at this
theorem ixi_tup {ds : List D} {i : Int} (h : 0 ≤ i) : dIxD (.tup ds) (.int i) = ixR ds[i.toNat]? := by
  have := ixn_tup (ds := ds) (n := i.toNat); rwa [Int.toNat_of_nonneg h] at this
theorem ixn_str {x : Str} {n : Nat} (hl : x.length ≤ SZ) : dIxD (.str x) (.int (n : Int)) = ixR (chars x)[n]? := by
  show (if x.length ≤ SZ then (match L2.atI x.cps.toList (n : Int) with | some c => okd (.str ⟨#[c]⟩) | none => .stuck) else .stuck) = _
  rw [if_pos hl, atI_lit]
  unfold chars
  rw [List.getElem?_map]
  cases x.cps.toList[n]? <;> rfl
theorem ixi_str {x : Str} {i : Int} (hl : x.length ≤ SZ) (h : 0 ≤ i) : dIxD (.str x) (.int i) = ixR (chars x)[i.toNat]? := by
  have := ixn_str (x := x) (n := i.toNat) hl; rwa [Int.toNat_of_nonneg h] at this
@[simp] theorem gtl_tup {is : List Nat} {ds : List D} : gTLD is (.tup ds) δ = if ds.length = is.length then gSets is ds δ else none := (Eq.refl _).trans (Eq.refl _)
@[simp] theorem gtl_lst {is : List Nat} {ds : List D} : gTLD is (.lst ds) δ = if ds.length = is.length then gSets is ds δ else none := (Eq.refl _).trans (Eq.refl _)
@[simp] theorem gss_nil : gSets [] [] δ = some δ := (Eq.refl _).trans (Eq.refl _)
@[simp] theorem gss_cons {is : List Nat} {ds : List D} : gSets (i :: is) (d :: ds) δ = gSets is ds (δ.set i (some (.fr d))) := (Eq.refl _).trans (Eq.refl _)
@[simp] theorem ev_fdict0 : fDict0 δ = .ok (.od false []) := (Eq.refl _).trans (Eq.refl _)
@[simp] theorem ev_dct {kvs : List (D × D)} {t : Bool} : (RV.od t kvs).d = .dct kvs := (Eq.refl _).trans (Eq.refl _)
@[simp] theorem seq_str {x : Str} : seqD (.str x) = .ok (chars x) := (Eq.refl _).trans (Eq.refl _)
@[simp] theorem tru_int {i : Int} : truD (.int i) = .ok (i != 0) := (Eq.refl _).trans (Eq.refl _)
@[simp] theorem tru_non : truD .non = .ok false := (Eq.refl _).trans (Eq.refl _)
@[simp] theorem is_int_int {i : Int} : dIs .int (.int i) = .ok (.fr (.bl true)) := (Eq.refl _).trans (Eq.refl _)
@[simp] theorem is_bool_int {i : Int} : dIs .bool (.int i) = .ok (.fr (.bl false)) := (Eq.refl _).trans (Eq.refl _)
@[simp] theorem is_str_int {i : Int} : dIs .str (.int i) = .ok (.fr (.bl false)) := (Eq.refl _).trans (Eq.refl _)
@[simp] theorem is_tup_int {i : Int} : dIs .tuple (.int i) = .ok (.fr (.bl false)) := (Eq.refl _).trans (Eq.refl _)
@[simp] theorem is_list_int {i : Int} : dIs .list (.int i) = .ok (.fr (.bl false)) := (Eq.refl _).trans (Eq.refl _)
@[simp] theorem is_int_str {x : Str} : dIs .int (.str x) = .ok (.fr (.bl false)) := (Eq.refl _).trans (Eq.refl _)
@[simp] theorem is_bool_str {x : Str} : dIs .bool (.str x) = .ok (.fr (.bl false)) := (Eq.refl _).trans (Eq.refl _)
@[simp] theorem is_str_str {x : Str} : dIs .str (.str x) = .ok (.fr (.bl true)) := (Eq.refl _).trans (Eq.refl _)
@[simp] theorem is_tup_str {x : Str} : dIs .tuple (.str x) = .ok (.fr (.bl false)) := (Eq.refl _).trans (Eq.refl _)
@[simp] theorem is_tup_tup {x : List D} : dIs .tuple (.tup x) = .ok (.fr (.bl true)) := (Eq.refl _).trans (Eq.refl _)
@[simp] theorem is_tup_lst {x : List D} : dIs .tuple (.lst x) = .ok (.fr (.bl false)) := (Eq.refl _).trans (Eq.refl _)
@[simp] theorem is_tup_bl {b : Bool} : dIs .tuple (.bl b) = .ok (.fr (.bl false)) := (Eq.refl _).trans (Eq.refl _)
@[simp] theorem is_bool_bl {b : Bool} : dIs .bool (.bl b) = .ok (.fr (.bl true)) := (Eq.refl _).trans (Eq.refl _)
@[simp] theorem is_tup_non : dIs .tuple .non = .ok (.fr (.bl false)) := (Eq.refl _).trans (Eq.refl _)
@[simp] theorem is2_tup {x : List D} : dIs2 .list .tuple (.tup x) = .ok (.fr (.bl true)) := (Eq.refl _).trans (Eq.refl _)
@[simp] theorem is2_lst {x : List D} : dIs2 .list .tuple (.lst x) = .ok (.fr (.bl true)) := (Eq.refl _).trans (Eq.refl _)
@[simp] theorem is2_int {x : Int} : dIs2 .list .tuple (.int x) = .ok (.fr (.bl false)) := (Eq.refl _).trans (Eq.refl _)
@[simp] theorem is2_str {x : Str} : dIs2 .list .tuple (.str x) = .ok (.fr (.bl false)) := (Eq.refl _).trans (Eq.refl _)
@[simp] theorem is2_non : dIs2 .list .tuple .non = .ok (.fr (.bl false)) := (Eq.refl _).trans (Eq.refl _)
@[simp] theorem isn_non : dIsNn false .non .non = .ok (.fr (.bl true)) := (Eq.refl _).trans (Eq.refl _)
@[simp] theorem notn_non : dIsNn true .non .non = .ok (.fr (.bl false)) := (Eq.refl _).trans (Eq.refl _)
@[simp] theorem isn_int {i : Int} : dIsNn false (.int i) .non = .ok (.fr (.bl false)) := (Eq.refl _).trans (Eq.refl _)
@[simp] theorem notn_int {i : Int} : dIsNn true (.int i) .non = .ok (.fr (.bl true)) := (Eq.refl _).trans (Eq.refl _)
@[simp] theorem isn_str {i : Str} : dIsNn false (.str i) .non = .ok (.fr (.bl false)) := (Eq.refl _).trans (Eq.refl _)
@[simp] theorem isn_tup {i : List D} : dIsNn false (.tup i) .non = .ok (.fr (.bl false)) := (Eq.refl _).trans (Eq.refl _)
@[simp] theorem notn_tup {i : List D} : dIsNn true (.tup i) .non = .ok (.fr (.bl true)) := (Eq.refl _).trans (Eq.refl _)
@[simp] theorem isn_bl {i : Bool} : dIsNn false (.bl i) .non = .ok (.fr (.bl false)) := (Eq.refl _).trans (Eq.refl _)
theorem len_str {x : Str} (h : x.length ≤ SZ) : dLen [.str x] = .ok (.fr (.int x.length)) := if_pos h
theorem eq_str {x y : Str} : dEq false (.str x) (.str y) = .ok (.fr (.bl (decide (x = y)))) := by
  show R.ok (RV.fr (D.bl (x == y))) = _
  have e : (x == y) = decide (x = y) := by rw [Bool.eq_iff_iff]; simp
  rw [e]
theorem ne_str {x y : Str} : dEq true (.str x) (.str y) = .ok (.fr (.bl (!decide (x = y)))) := by
  show R.ok (RV.fr (D.bl (!(x == y)))) = _
  have e : (x == y) = decide (x = y) := by rw [Bool.eq_iff_iff]; simp
  rw [e]
/-- x among texts -/
theorem any_str {x : Str} : ∀ ys : List Str, ((ys.map D.str).any fun z => eqD z (.str x)) = decide (x ∈ ys)
  | [] => rfl
  | y :: ys => by
    rw [List.map_cons, List.any_cons, any_str ys]
    show ((y == x) || _) = _
    have e : (y == x) = decide (x = y) := by rw [Bool.eq_iff_iff]; simp only [beq_iff_eq, decide_eq_true_eq]; exact eq_comm
    rw [e, Bool.eq_iff_iff]
    simp
theorem flat_strs {n : Nat} : ∀ ys : List Str, flatDs n (ys.map D.str) = true
  | [] => by cases n <;> rfl
  | y :: ys => by
    rw [List.map_cons]
    show (flatD n (.str y) && _) = true
    rw [flat_strs ys]
    cases n <;> rfl
theorem in_strs {x : Str} {ys : List Str} : dInD false (.str x) (.tup (ys.map D.str)) = .ok (.fr (.bl (decide (x ∈ ys)))) := by
  show (if flatD 0 (.str x) && flatDs 0 (ys.map D.str) then okd (.bl ((ys.map D.str).any fun z => eqD z (.str x))) else .stuck) = _
  rw [flat_strs, any_str]; rfl
theorem nin_strs {x : Str} {ys : List Str} : dInD true (.str x) (.tup (ys.map D.str)) = .ok (.fr (.bl (!decide (x ∈ ys)))) := by
  show (if flatD 0 (.str x) && flatDs 0 (ys.map D.str) then okd (.bl (!((ys.map D.str).any fun z => eqD z (.str x)))) else .stuck) = _
  rw [flat_strs, any_str]; rfl
end
/-! ### large numbers -/
def Bg (n : Nat) (i : Int) : Prop := i.natAbs < 2 ^ n
theorem Bg.mul {n m : Nat} {i j : Int} (h : Bg n i) (h' : Bg m j) : Bg (n + m) (i * j) := by
  unfold Bg at *
  rw [Int.natAbs_mul, Nat.pow_add]
  exact Nat.mul_lt_mul'' h h'
theorem Bg.up {n m : Nat} {i : Int} (h : Bg n i) (l : n ≤ m) : Bg m i := Nat.lt_of_lt_of_le h (Nat.pow_le_pow_right (by decide) l)
theorem Bg.add {n : Nat} {i j : Int} (h : Bg n i) (h' : Bg n j) : Bg (n + 1) (i + j) := by
  unfold Bg at *
  have := Int.natAbs_add_le i j
  rw [Nat.pow_succ]
  omega
theorem muw_bg {n m : Nat} {i j : Int} (h : Bg n i) (h' : Bg m j) (hn : n ≤ 100000) (hm : m ≤ 100000) : dMulW (.int i) (.int j) = .ok (.fr (.int (i * j))) := by
  have h1 : i.natAbs < limW := by rw [limW_eq]; exact Bg.up h hn
  have h2 : j.natAbs < limW := by rw [limW_eq]; exact Bg.up h' hm
  unfold dMulW
  dsimp only
  rw [if_pos (And.intro h1 h2)]
theorem muw_64 {i j : Int} (h : -(2 ^ 64) < i ∧ i < 2 ^ 64) (h' : -(2 ^ 64) < j ∧ j < 2 ^ 64) : dMulW (.int i) (.int j) = .ok (.fr (.int (i * j))) := muw_bg (n := 64) (m := 64) (by unfold Bg; omega) (by unfold Bg; omega) (by decide) (by decide)
theorem poww_bg {n : Nat} {i j : Int} (h : Bg n i) (hn : n ≤ 100000) (h0 : 0 ≤ j) (h1 : j ≤ 1000) : dPowW (.int i) (.int j) = .ok (.fr (.int (i ^ j.toNat))) := by
  have h2 : i.natAbs < limW := by rw [limW_eq]; exact Bg.up h hn
  unfold dPowW
  dsimp only
  rw [if_pos (And.intro h0 (And.intro h1 h2))]
theorem ixi_nat {ds : List D} {i : Int} {n : Nat} {d : D} (e : i = n) (h : ds[n]? = some d) : dIxD (.lst ds) (.int i) = .ok (.fr d) := by subst e; rw [ixn_lst, h]; rfl
theorem divw_int {i j : Int} (h : 0 < j ∧ j < 2 ^ 100) : dDivW (.int i) (.int j) = .ok (.fr (.int (i / j))) := if_pos h
theorem muw_lst {xs : List D} {k : Int} : dMulW (.lst xs) (.int k) = dMul (.lst xs) (.int k) := rfl
end DL


set_option maxRecDepth 100000
set_option maxHeartbeats 4000000
namespace DL
open PySem PySem.Spec PyProof.Rows L2
/-! ### attributes of classes, one by one -/
theorem fldc_of {K : PySem.W.Frag} {mg : Str → Option Value} {f c : Str} {C0 : Addr} (h : mg c = some (.ref C0)) (a : Cls K C0) (b : NoAttr K C0 f) : FldC K mg f c := fun C hC => by
  cases h.symm.trans hC
  exact ⟨a, b⟩
theorem fldc_nil {K : PySem.W.Frag} {mg : Str → Option Value} {f : Str} : ∀ c ∈ ([] : List Str), FldC K mg f c := fun c h => nomatch h
theorem fldc_cons {K : PySem.W.Frag} {mg : Str → Option Value} {f c : Str} {cs : List Str} (a : FldC K mg f c) (b : ∀ c ∈ cs, FldC K mg f c) : ∀ x ∈ c :: cs, FldC K mg f x := fun x h => (List.mem_cons.mp h).elim (fun e => e ▸ a) (b x)
/-! ### tuple(x), list(x) of a text -/
section
variable {prog : Program} {w : World} {A : Around} {E : Value → Shared → Prop} {s : Shared}
theorem code_tuple_new_strX {Q₁ : Value → Shared → Prop} (hh : A.handled = none) (x : Str) (t : Tok) (hn : x.cps.size ≤ sizeLine)
    (h : ∀ (h' : Heap) (tk : Nat) (acc : Array Value), (∀ b o, s.heap.get? b = some o → h'.get? b = some o) → ItemsOf (SignAt x) acc x.cps.size →
      Q₁ (.ref h'.objs.size) { s with heap := h'.push { cls := .type "tuple", data := .seq acc }, toks := tk }) :
    codeAny (model prog w) A (.call (.builtin "tuple.__new__") ⟨[.type "tuple", .str x t], []⟩) (wants Q₁ E) s := by
  refine codeAny_of_tree ?_
  show wpAny _ A.in1 (do checkBuiltinCall "tuple.__new__" ⟨[.type "tuple", .str x t], []⟩; again (.builtin "tuple.__new__" ⟨[.type "tuple", .str x t], []⟩)) _ _ s
  refine wpAny_bind (wpAny_of_eq (F.newCall_tuple_1 _) (wpAny_pure ⟨plainId_quiet F.plain_tuple_new _, codeAny_builtin F.entry_tuple_new ?_⟩))
  rw [Around.under_plainId F.plain_tuple_new _]
  have hsub := sub_tuple_self
  have hinit := init_tuple_lookup
  have hmh := madeHere_tuple
  have hTI : s.TypeIs (.str x t) "str" := rfl
  have hh1 : A.in1.handled = none := hh
  wp_walk using wpAny_typeOf hTI, wpAny_collect_str (A := A.in1) hh1 x t
  · intro s' acc hk hg hd hos hacc
    obtain ⟨h', g', d', tk, os'⟩ := s'
    cases hg; cases hd; cases hos
    show wpAny _ _ (Builtin.Tuple.tupleExact acc.toList.toArray >>= fun v => ret v) _ _ _
    unfold Builtin.Tuple.tupleExact
    refine wpAny_bind (wpAny_newObj_type ?_ (by show acc.toList.toArray.size ≤ sizeLine; simp only [Array.toArray_toList]; rw [hacc.1]; exact hn))
    refine wpAny_pure ?_
    have e : acc.toList.toArray = acc := by simp
    rw [e]
    exact h h' tk acc hk hacc
theorem call_tuple_strX {Q : Value → Shared → Prop} (hh : A.handled = none) (x : Str) (t : Tok) (hn : x.cps.size ≤ sizeLine)
    (hQ : ∀ (h' : Heap) (tk : Nat) (acc : Array Value), (∀ b o, s.heap.get? b = some o → h'.get? b = some o) → ItemsOf (SignAt x) acc x.cps.size →
      Q (.ref h'.objs.size) { s with heap := h'.push { cls := .type "tuple", data := .seq acc }, toks := tk }) :
    wpAny (model prog w) A (call (.type "tuple") [.str x t]) Q E s := by
  refine callType_codes (Q₁ := fun obj s₁ => s₁.TypeIs obj "tuple" ∧ Q obj s₁) F.called_tuple (F.typeCall_tuple_1 _) F.entry_object_init
    (code_tuple_new_strX (A := A.in1) hh x t hn fun h' tk acc hk hacc => ⟨⟨_, Heap.get?_push_size _ rfl, rfl⟩, hQ h' tk acc hk hacc⟩) fun obj s₁ h₁ => ?_
  exact ⟨h₁.1, F.args_object_init_2 obj _, object_init_meets F.called_tuple.init.lookup F.called_tuple.made (by decide) prog w A.in1 _ s₁ ⟨h₁.1, rfl, h₁.2⟩⟩
end
theorem vals_at : ∀ {vs : List V} {us : List Value}, vs.length = us.length → (∀ (i : Nat) v u, vs[i]? = some v → us[i]? = some u → RelV v u) → Vals vs us
  | [], [], _, _ => .nil
  | [], _ :: _, h, _ => by cases h
  | _ :: _, [], h, _ => by cases h
  | v :: vs, u :: us, h, k => .cons (k 0 v u rfl rfl) (vals_at (Nat.succ.inj h) fun i x y e1 e2 => k (i + 1) x y e1 e2)
/-- the signs of a text, as values -/
def signsV (x : Str) : List V := x.cps.toList.map fun c => .str ⟨#[c]⟩
theorem signs_vals {x : Str} {acc : Array Value} (h : ItemsOf (SignAt x) acc x.cps.size) : Vals (signsV x) acc.toList := by
  obtain ⟨h1, h2⟩ := h
  refine vals_at (by unfold signsV; rw [List.length_map, Array.length_toList, Array.length_toList, h1]) fun i v u e1 e2 => ?_
  rw [Array.getElem?_toList] at e2
  obtain ⟨c, t, e3, rfl⟩ := h2 i u e2
  unfold signsV at e1
  rw [List.getElem?_map, Array.getElem?_toList, e3] at e1
  cases e1
  exact ⟨t, rfl⟩
theorem signs_dp {K : PySem.W.Frag} {mg : Mg} {G : Hp} {x : Str} (hx : x.cps.all (· < 0x110000) = true) : DpAll K mg G (signsV x) (chars x) := by
  have key : ∀ l : List Nat, (∀ c ∈ l, c < 0x110000) → DpAll K mg G (l.map fun c => V.str ⟨#[c]⟩) (l.map fun c => DL.D.str ⟨#[c]⟩) := by
    intro l
    induction l with
    | nil => exact fun _ => .nil
    | cons c l ih => exact fun h => .cons (.str _ (by simpa using h c List.mem_cons_self)) (ih fun d hd => h d (List.mem_cons_of_mem _ hd))
  refine key _ fun c hc => ?_
  have := Array.all_eq_true_iff_forall_mem.mp hx c (by simpa using hc)
  simpa using this
section
variable {X : Cx}
theorem call_tupleS (hc : X.calm = true) : CallR X (.type "tuple") (fun xs H Q => ∃ x, xs = [.str x] ∧ x.length ≤ sizeLine ∧ ∀ l, H l = none → Q (.ref l) (upd H l (.tup (signsV x)))) := by
  intro pins s σ H xs us Q I r h
  obtain ⟨x, rfl, hl, q⟩ := h
  obtain ⟨u, rfl, rx⟩ := vals1 r
  obtain ⟨t, rfl⟩ := rx
  refine call_tuple_strX (I.ok.hd hc) x t hl fun h' tk acc hk hacc => ?_
  have I1 : Inv X pins σ H { s with heap := h', toks := tk } := I.kept (t' := tk) hk
  have r' := signs_vals hacc
  have hz : acc.toList.length ≤ sizeLine := by rw [Array.length_toList, hacc.1]; exact hl
  have I2 : Inv X pins σ (upd H h'.objs.size (.tup (signsV x))) { s with heap := h'.push { cls := .type "tuple", data := .seq acc }, toks := tk } :=
    I1.laid (t' := tk) (fun b o e => Heap.get?_push_of_some _ e) (Nat.le_refl _) (show ObjOk X.prog X.w _ _ _ (.tup (signsV x)) from ⟨by rw [r'.length]; exact hz, acc.toList, r', by simpa using IsTup.new _ _⟩)
  exact ⟨.ref h'.objs.size, _, I2, rfl, q _ (I1.hok.fresh (Nat.le_refl _))⟩
def dTupleS : List D → R RV
  | [.str x] => if x.length ≤ SZ then okd (.tup (chars x)) else .stuck
  | xs => dTuple xs
theorem dTupleS_noex : ∀ x c fs, dTupleS x ≠ .ex c fs := fun x c fs h => by
  unfold dTupleS at h
  split at h
  · split at h <;> cases h
  · exact dTuple_noex _ _ _ h
theorem dTupleS_ne {xs : List D} (h : ∀ x, xs ≠ [.str x]) : dTupleS xs = dTuple xs := by
  unfold dTupleS
  split
  · exact absurd rfl (h _)
  · rfl
theorem crd_tupleS (hc : X.calm = true) : CallR X (.type "tuple") (rDA X.K X.M dTupleS) := by
  intro pins s σ H xs us Q I r h
  obtain ⟨G, ds, sg, p, h⟩ := h
  by_cases hx : ∃ x, ds = [.str x]
  · obtain ⟨x, rfl⟩ := hx
    cases p with
    | cons p1 t =>
      cases t
      cases p1 with
      | str _ hx =>
        simp only [dTupleS] at h
        by_cases c : x.length ≤ SZ
        · rw [if_pos c] at h
          exact call_tupleS hc pins s σ H _ us Q I r ⟨x, rfl, sz_le c, tup_new sg (signs_dp hx) h⟩
        · rw [if_neg c] at h; exact h.elim
  · rw [dTupleS_ne fun x e => hx ⟨x, e⟩] at h
    exact crd_tuple pins s σ H xs us Q I r ⟨G, ds, sg, p, h⟩
@[simp] theorem tupleS_lst {ds : List D} : dTupleS [.lst ds] = .ok (.fr (.tup ds)) := (Eq.refl _).trans (Eq.refl _)
@[simp] theorem tupleS_tup {ds : List D} : dTupleS [.tup ds] = .ok (.fr (.tup ds)) := (Eq.refl _).trans (Eq.refl _)
theorem tupleS_str {x : Str} (h : x.length ≤ SZ) : dTupleS [.str x] = .ok (.fr (.tup (chars x))) := if_pos h
end
end DL


set_option maxRecDepth 100000
set_option maxHeartbeats 4000000
namespace DL
open PySem PySem.Spec PyProof.Rows L2
/-! ### methods of frozen objects -/
structure CalM (P : Program) (w : World) (K : PySem.W.Frag) (mg : Str → Option Value) (base : Heap) (k : Nat) (c m : Str) (g : List D → R RV) : Prop where
  ex : ∃ (C f : Addr) (fd : FuncData) (ps : List Str), mg c = some (.ref C) ∧ Cls K C ∧ Meth K C m f ∧ FnOk P w K mg base (L2N.CX P w) k f fd ps (spD K ⟨mg, P, w⟩ g) ∧ Binds K fd ps []
def methR (c m : Str) (g : List D → R RV) (x : D) (a : R (List D)) : R RV := match x with
  | .obj c' fs => if c' = c ∧ fs.lookup m = none then a >>= fun ds => g (.obj c' fs :: ds) else .stuck
  | _ => .stuck
def fMeth (c m : Str) (g : List D → R RV) (fo : DE → R RV) (fa : DE → R (List D)) (δ : DE) : R RV := fo δ >>= fun x => methR c m g x.d (fa δ)
theorem dpf_none {K : PySem.W.Frag} {mg : Mg} {G : Hp} {n : Str} : ∀ {xs : List (Str × V)} {ds : List (Str × D)}, DpF K mg G xs ds → ds.lookup n = none → xs.lookup n = none
  | _, _, .nil, _ => rfl
  | _, _, .cons (f := f) (v := v) p t, e => by
    by_cases h : (n == f) = true
    · simp only [List.lookup, h] at e
      cases e
    · have h' : (n == f) = false := by simpa using h
      simp only [List.lookup, h'] at e ⊢
      exact dpf_none t e
section
variable {X : Cx} {H0 : Hp} {W : WX}
theorem meth_core {c m : Str} {g : List D → R RV} {fo : DE → R RV} {fa : DE → R (List D)} {C : Addr} (hm : X.M.f c = some (.ref C)) {σ : L2.St} {H : Hp} {Q : VK} (h : tE X.K X.M H0 W (fMeth c m g fo fa) σ H Q) :
    tE X.K X.M H0 W fo σ H fun x H1 => ∃ a dx fs, x = .ref a ∧ H1 a = some (.ins C dx fs) ∧ fs.lookup m = none ∧ tA X.K X.M H0 W fa σ H1 fun vs H2 => spD X.K X.M g (x :: vs) H2 Q (WE W σ) := by
  obtain ⟨G, δ, sg, sl, h⟩ := h
  refine ⟨G, δ, sg, sl, post_bind (f := fun x => methR c m g x (fa δ)) h fun v x H1 G1 g1 p1 h1 => ?_⟩
  cases p1 with
  | obj hc hG pf =>
    rename_i a C' dx fs c' df
    simp only [methR] at h1
    by_cases q : c' = c ∧ df.lookup m = none
    · rw [if_pos q] at h1
      obtain ⟨rfl, q2⟩ := q
      cases hc.symm.trans hm
      refine ⟨a, dx, fs, rfl, g1.gh _ _ hG, dpf_none pf q2, G1, δ, g1.gh, sl.mono g1, ?_⟩
      cases hf : fa δ with
      | ok ds =>
        rw [hf, bind_ok] at h1
        intro vs H2 G2 g2 p2
        refine ⟨G2, .obj c' df :: ds, g2.gh, .cons (.obj hc (g2.gg _ _ hG) (pf.mono g2.gg)) p2, ?_⟩
        cases hg : g (.obj c' df :: ds) with
        | ok r =>
          rw [hg] at h1
          intro v H3 G3 g3 p3
          exact h1 v H3 G3 (g2.trans g3) (p3.back g2.hh)
        | ex c fs =>
          rw [hg] at h1
          exact fun cls d H3 G3 g3 x => h1 cls d H3 G3 (g2.trans g3) x
        | stuck => rw [hg] at h1; exact h1.elim
      | ex c fs => rw [hf] at h1; exact h1
      | stuck => rw [hf] at h1; exact h1.elim
    · rw [if_neg q] at h1; exact h1.elim
  | _ => exact h1.elim
theorem ed_meth {k j : Nat} {A0 : Around} {c m : Str} {g : List D → R RV} {fo : DE → R RV} {fa : DE → R (List D)} {apos pos : Pos} {o e : Expr} {es : List Expr} {pl : Sem Bool} (cm : CalM X.prog X.w X.K X.mg X.base k c m g) (hr : Room j A0) (hk : k ≤ j) (tk : L2N.Takes X W) (ho : Ed X H0 W o fo) (ha : Ad X H0 W (e :: es) fa) (hA : X.A = A0 := by rfl)
    (hst : starEach (e :: es) X.env = (false, eval e X.env) :: starEach es X.env := by rfl) (hpl : (backTo pos (starEach es X.env)).any (·.1) = false := by rfl)
    (ht : eval (.Call (.Attribute o m apos) (e :: es) [] pos) X.env = (do
      let ov ← eval o X.env
      standAt apos.atName
      let (f, first) ← holding [ov] (getMethod ov m pl)
      callWith pos f first (backTo pos (starEach (e :: es) X.env)) (backToKw pos (keywordEach [] X.env))) := by rfl) : Ed X H0 W (.Call (.Attribute o m apos) (e :: es) [] pos) (fMeth c m g fo fa) := by
  obtain ⟨C, f, fd, ps, hm, cl, me, F, b⟩ := cm.ex
  subst hA
  refine ⟨fun pins s σ H Q I h => ?_⟩
  refine PySem.W.methodCall_KW (pl := pl) (thn (ho.run pins s σ H _ I (meth_core hm h)) fun u s1 ⟨x, H1, I1, rx, a, dx, fs, ex, ea, l, q⟩ => ?_) ht
  subst ex
  obtain rfl : u = Value.ref a := rx
  refine getmeth_ok I1 ea cl me l ?_
  refine PySem.W.callWith_K (first := [.ref a]) (h₀ := X.base) I.ok.mod.kin me.kp (thn (ha.run pos pins s1 σ H1 _ I1 q) fun us s2 ⟨vs, H2, I2, r, q2⟩ => ⟨I2.kIn, ?_⟩) hst hpl
  exact run_fnS (E := fun σ => WE W σ) (us := .ref a :: us) (vs := .ref a :: vs) F (hr.mono hk) b (L2N.passAt tk σ) I2 (.cons rfl r) q2
theorem ed_meth0 {k j : Nat} {A0 : Around} {c m : Str} {g : List D → R RV} {fo : DE → R RV} {apos pos : Pos} {o : Expr} {pl : Sem Bool} (cm : CalM X.prog X.w X.K X.mg X.base k c m g) (hr : Room j A0) (hk : k ≤ j) (tk : L2N.Takes X W) (ho : Ed X H0 W o fo) (hA : X.A = A0 := by rfl)
    (ht : eval (.Call (.Attribute o m apos) [] [] pos) X.env = (do
      let ov ← eval o X.env
      standAt apos.atName
      let (f, first) ← holding [ov] (getMethod ov m pl)
      callWith pos f first (backTo pos (starEach [] X.env)) (backToKw pos (keywordEach [] X.env))) := by rfl) : Ed X H0 W (.Call (.Attribute o m apos) [] [] pos) (fMeth c m g fo aNil) := by
  obtain ⟨C, f, fd, ps, hm, cl, me, F, b⟩ := cm.ex
  subst hA
  refine ⟨fun pins s σ H Q I h => ?_⟩
  refine PySem.W.methodCall_KW (pl := pl) (thn (ho.run pins s σ H _ I (meth_core hm h)) fun u s1 ⟨x, H1, I1, rx, a, dx, fs, ex, ea, l, q⟩ => ?_) ht
  subst ex
  obtain rfl : u = Value.ref a := rx
  refine getmeth_ok I1 ea cl me l ?_
  obtain ⟨G2, δ2, s2, sl2, q2⟩ := q
  exact PySem.W.callWith_K0 (first := [.ref a]) I1.kIn me.kp (run_fnS (E := fun σ => WE W σ) (us := [.ref a]) (vs := [.ref a]) F (hr.mono hk) b (L2N.passAt tk σ) I1 (.cons rfl .nil) (q2 [] H1 G2 (.refl s2) .nil))
end
end DL


set_option maxRecDepth 100000
set_option maxHeartbeats 4000000
namespace DL
open PySem PySem.Spec PyProof.Rows L2
/-! ### a method that changes an own object, as a statement -/
section
variable {K : PySem.W.Frag} {mg : Mg} {H0 H0' H G : Hp}
mutual
theorem RVq.chH0 : ∀ {v : V} {r : RV} {as : List Addr}, RVq K mg H0 H G v r as → (∀ b ∈ as, H0' b = none) → RVq K mg H0' H G v r as
  | _, _, _, .fr h, _ => .fr h
  | _, _, _, .ol h1 h2 h3 h4, k => .ol h1 h2 (k _ List.mem_cons_self) h4
  | _, _, _, .od h1 h2 h3 h4, k => .od h1 h2 (k _ List.mem_cons_self) h4
  | _, _, _, .ot h1 h2 h3 h4, k => .ot h1 h2 (k _ List.mem_cons_self) h4
  | _, _, _, .oo h0 h1 h2 h3 h4 h5, k => .oo h0 h1 h2 (k _ List.mem_cons_self) (RVqF.chH0 h4 fun b hb => k b (List.mem_cons_of_mem _ hb)) h5
  | _, _, _, .tr h1 h2 h3 h4 h5, k => .tr h1 h2 (k _ List.mem_cons_self) (RVqL.chH0 h4 fun b hb => k b (List.mem_cons_of_mem _ hb)) h5
theorem RVqF.chH0 : ∀ {fs : List (Str × V)} {frs : List (Str × RV)} {as : List Addr}, RVqF K mg H0 H G fs frs as → (∀ b ∈ as, H0' b = none) → RVqF K mg H0' H G fs frs as
  | _, _, _, .nil, _ => .nil
  | _, _, _, .cons q t d, k => .cons (RVq.chH0 q fun b hb => k b (List.mem_append_left _ hb)) (RVqF.chH0 t fun b hb => k b (List.mem_append_right _ hb)) d
theorem RVqL.chH0 : ∀ {vs : List V} {rs : List RV} {as : List Addr}, RVqL K mg H0 H G vs rs as → (∀ b ∈ as, H0' b = none) → RVqL K mg H0' H G vs rs as
  | _, _, _, .nil, _ => .nil
  | _, _, _, .cons q t d, k => .cons (RVq.chH0 q fun b hb => k b (List.mem_append_left _ hb)) (RVqL.chH0 t fun b hb => k b (List.mem_append_right _ hb)) d
end
end
def cutH (H : Hp) (as : List Addr) : Hp := fun b => if b ∈ as then none else H b
theorem cut_in {H : Hp} {as : List Addr} {b : Addr} (h : b ∈ as) : cutH H as b = none := if_pos h
theorem cut_out {H : Hp} {as : List Addr} {b : Addr} (h : b ∉ as) : cutH H as b = H b := if_neg h
def spM (K : PySem.W.Frag) (mg : Mg) (c : Str) (g : List (Str × RV) → List D → R (List (Str × RV))) : Sp := fun vs H Q E => ∃ (x : Addr) (vs' : List V) (G : Hp) (fs : List (Str × RV)) (ds : List D) (as : List Addr), vs = .ref x :: vs' ∧ RVq K mg (cutH H as) H G (.ref x) (.oo none c fs) as ∧
  Same G (cutH H as) ∧ DpAll K mg G vs' ds ∧ match g fs ds with
    | .ok fs' => ∀ H2 G2, Gr (cutH H as) G H2 G2 → RVp K mg (cutH H as) H2 G2 (.ref x) (.oo none c fs') → Q .non H2
    | _ => False
structure CalMut (P : Program) (w : World) (K : PySem.W.Frag) (mg : Str → Option Value) (base : Heap) (k : Nat) (c m : Str) (g : List (Str × RV) → List D → R (List (Str × RV))) : Prop where
  ex : ∃ (C f : Addr) (fd : FuncData) (ps : List Str), mg c = some (.ref C) ∧ Cls K C ∧ Meth K C m f ∧ FnOk P w K mg base (L2N.CX P w) k f fd ps (spM K ⟨mg, P, w⟩ c g) ∧ Binds K fd ps []
section
variable {K : PySem.W.Frag} {mg : Mg}
theorem same_cut {H0 G0 H G : Hp} {as : List Addr} (g : Gr H0 G0 H G) (h : ∀ b ∈ as, H0 b = none) : Same H0 (cutH H as) := fun b o e => by
  rw [cut_out fun hb => by rw [h b hb] at e; cases e]
  exact g.hh _ _ e
theorem sl_mut {H0 G0 H G H2 G2 : Hp} {σ : L2.St} {δ : DE} {i : Nat} {x : Addr} {r r' : RV} {as : List Addr} (g0 : Gr H0 G0 H G) (sl : Sl K mg H0 H G σ δ) (e : δ[i]? = some (some r)) (ex : σ[i]? = some (some (.ref x))) (q : RVq K mg H0 H G (.ref x) r as)
    (g : Gr (cutH H as) G H2 G2) (p2 : RVp K mg (cutH H as) H2 G2 (.ref x) r') : Gr H0 G0 H2 G2 ∧ Sl K mg H0 H2 G2 σ (δ.set i (some r')) := by
  have ow := q.ow
  have s0 : Same H0 (cutH H as) := same_cut g0 fun b hb => (ow b hb).2.2
  have gr : Gr H0 G0 H2 G2 := ⟨s0.trans g.hh, g0.gg.trans g.gg, g.gh, fun b hb => (g.old b (Same.has s0 hb)).trans (g0.old b hb)⟩
  obtain ⟨bs, q2⟩ := p2.q
  have ow2 := q2.ow
  have hi : i < δ.length := by
    rcases Nat.lt_or_ge i δ.length with h | h
    · exact h
    · rw [List.getElem?_eq_none h] at e; cases e
  -- the others
  have oth : ∀ (j : Nat) (r1 : RV) (v1 : V), j ≠ i → δ[j]? = some (some r1) → σ[j]? = some (some v1) → ∃ cs, RVq K mg H0 H2 G2 v1 r1 cs ∧ (∀ b ∈ cs, cutH H as b ≠ none) ∧ RVq K mg H0 H G v1 r1 cs := fun j r1 v1 hj ej sj => by
    obtain ⟨u, su, pu⟩ := sl.at_ j r1 ej
    rw [sj] at su; cases su
    obtain ⟨cs, qc⟩ := pu.q
    have dis : ∀ b ∈ cs, b ∉ as := fun b hb ha => hj (sl.dis j i r1 r v1 (.ref x) cs as b ej e sj ex qc q hb ha)
    have keep : ∀ b ∈ cs, cutH H as b = H b := fun b hb => cut_out (dis b hb)
    refine ⟨cs, (qc.keep keep).mono g, fun b hb => ?_, qc⟩
    rw [keep b hb]
    obtain ⟨⟨o, ho, _⟩, _⟩ := qc.ow b hb
    rw [ho]; exact fun z => nomatch z
  refine ⟨gr, ⟨by rw [List.length_set]; exact sl.len, fun j r1 ej => ?_, fun j k r1 r2 v1 v2 bs1 bs2 b ej ek sj sk qj qk mj mk => ?_⟩⟩
  · by_cases hj : j = i
    · subst hj
      rw [List.getElem?_set_self hi] at ej
      cases ej
      exact ⟨_, ex, (q2.back s0).p⟩
    · rw [List.getElem?_set_ne (Ne.symm hj)] at ej
      obtain ⟨v1, sj, _⟩ := sl.at_ j r1 ej
      obtain ⟨cs, qc, _, _⟩ := oth j r1 v1 hj ej sj
      exact ⟨v1, sj, qc.p⟩
  · by_cases hj : j = i
    · by_cases hk : k = i
      · exact hj.trans hk.symm
      · exfalso
        subst hj
        rw [List.getElem?_set_self hi] at ej
        cases ej
        rw [List.getElem?_set_ne (Ne.symm hk)] at ek
        rw [ex] at sj; cases sj
        have z := (q2.back s0).one qj
        subst z
        obtain ⟨cs, qc, hc, _⟩ := oth k r2 v2 hk ek sk
        have z := qc.one qk
        subst z
        exact hc b mk (ow2 b mj).2.2
    · by_cases hk : k = i
      · exfalso
        subst hk
        rw [List.getElem?_set_self hi] at ek
        cases ek
        rw [List.getElem?_set_ne (Ne.symm hj)] at ej
        rw [ex] at sk; cases sk
        have z := (q2.back s0).one qk
        subst z
        obtain ⟨cs, qc, hc, _⟩ := oth j r1 v1 hj ej sj
        have z := qc.one qj
        subst z
        exact hc b mj (ow2 b mk).2.2
      · rw [List.getElem?_set_ne (Ne.symm hj)] at ej
        rw [List.getElem?_set_ne (Ne.symm hk)] at ek
        obtain ⟨cs, qc, _, q0⟩ := oth j r1 v1 hj ej sj
        obtain ⟨cs', qc', _, q0'⟩ := oth k r2 v2 hk ek sk
        have z := qc.one qj
        subst z
        have z := qc'.one qk
        subst z
        exact sl.dis j k r1 r2 v1 v2 _ _ b ej ek sj sk q0 q0' mj mk
end
def sMut (i : Nat) (c m : Str) (g : List (Str × RV) → List D → R (List (Str × RV))) (fa : DE → R (List D)) (δ : DE) : SR := match δ[i]? with
  | some (some (.oo none c' fs)) => if c' = c ∧ fs.lookup m = none then (match fa δ with
    | .ok ds => (match g fs ds with
      | .ok fs' => .nx (δ.set i (some (.oo none c fs')))
      | _ => .stuck)
    | _ => .stuck) else .stuck
  | _ => .stuck
theorem rvqf_none {K : PySem.W.Frag} {mg : Mg} {H0 H G : Hp} {f : Str} : ∀ {fs : List (Str × V)} {frs : List (Str × RV)} {as : List Addr}, RVqF K mg H0 H G fs frs as → frs.lookup f = none → fs.lookup f = none
  | _, _, _, .nil, _ => rfl
  | _, _, _, .cons (f := g) q t d, h => by
    by_cases e : f = g
    · subst e
      rw [List.lookup_cons_self] at h
      cases h
    · have hb : (f == g) = false := beq_eq_false_iff_ne.mpr e
      rw [List.lookup_cons, hb] at h
      rw [List.lookup_cons, hb]
      exact rvqf_none t h
section
variable {X : Cx} {H0 G0 : Hp} {W : WX}
theorem sd_mut {k j i : Nat} {A0 : Around} {x c m : Str} {g : List (Str × RV) → List D → R (List (Str × RV))} {fa : DE → R (List D)} {apos pos px spos : Pos} {e : Expr} {es : List Expr} {pl : Sem Bool} (cm : CalMut X.prog X.w X.K X.mg X.base k c m g) (hr : Room j A0) (hk : k ≤ j) (tk : L2N.Takes X W) (ha : Ad X H0 W (e :: es) fa) (hA : X.A = A0 := by rfl)
    (hN : X.N[i]? = some x := by rfl) (hv : Vis X.env.scope x := by first | exact Or.inl rfl | exact Or.inr (Or.inl rfl) | exact Or.inr (Or.inr rfl)) (hd : (x == ("__debug__" : Str)) = false := by decide)
    (hcd : (x == ("__classdict__" : Str)) = false := by decide)
    (hst : starEach (e :: es) X.env = (false, eval e X.env) :: starEach es X.env := by rfl) (hpl : (backTo pos (starEach es X.env)).any (·.1) = false := by rfl)
    (ht : eval (.Call (.Attribute (.Name x px) m apos) (e :: es) [] pos) X.env = (do
      let ov ← eval (.Name x px) X.env
      standAt apos.atName
      let (f, first) ← holding [ov] (getMethod ov m pl)
      callWith pos f first (backTo pos (starEach (e :: es) X.env)) (backToKw pos (keywordEach [] X.env))) := by rfl)
    (hs : swapsWith (.Call (.Attribute (.Name x px) m apos) (e :: es) [] pos) none spos.line X.env = pure false := by rfl) : Sd X H0 G0 W (.Expr (.Call (.Attribute (.Name x px) m apos) (e :: es) [] pos) spos) (sMut i c m g fa) := by
  obtain ⟨C, f, fd, ps, hm, cl, me, F, b⟩ := cm.ex
  subst hA
  -- the call, as an expression with what it leaves
  have ex : PE X (.Call (.Attribute (.Name x px) m apos) (e :: es) [] pos) (fun σ H Q => ∃ G δ fs, Gr H0 G0 H G ∧ Sl X.K X.M H0 H G σ δ ∧ δ[i]? = some (some (.oo none c fs)) ∧ fs.lookup m = none ∧ ∃ ds fs', fa δ = .ok ds ∧ g fs ds = .ok fs' ∧
      ∀ H2 G2, Gr H0 G0 H2 G2 → Same G G2 → Sl X.K X.M H0 H2 G2 σ (δ.set i (some (.oo none c fs'))) → Q .non H2) := by
    refine ⟨fun pins s σ H Q I h => ?_⟩
    obtain ⟨G, δ, fs, gr, sl, ei, hl, ds, fs', ef, eg, h⟩ := h
    obtain ⟨v, ev, as, q⟩ := sl.at_ i _ ei
    have q' := q
    cases q with
    | oo hc hH hG h0 qf nd =>
      rename_i a C' dx vs as
      cases hc.1.symm.trans hm
      have core : tVar i σ H fun y H1 => ∃ a' dx fs, y = .ref a' ∧ H1 a' = some (.ins C dx fs) ∧ fs.lookup m = none ∧ tA X.K X.M H0 W fa σ H1 fun us H2 => spM X.K X.M c g (y :: us) H2 Q (WE W σ) := by
        refine ⟨_, ev, a, dx, vs, rfl, hH, rvqf_none qf hl, G, δ, gr.gh, sl, ?_⟩
        rw [ef]
        intro us H2 G2 g2 p2
        have g02 := gr.trans g2
        have sl2 := sl.mono g2
        have qq := q'.mono g2
        have ow := qq.ow
        have sc : Same G2 (cutH H2 (a :: as)) := fun b o eb => by
          rw [cut_out fun hb => by rw [(ow b hb).2.1] at eb; cases eb]
          exact g2.gh _ _ eb
        have qc : RVq X.K X.M (cutH H2 (a :: as)) H2 G2 (.ref a) (.oo none c fs) (a :: as) := by
          have all : ∀ b ∈ a :: as, cutH H2 (a :: as) b = none := fun b hb => cut_in hb
          exact RVq.chH0 qq all
        refine ⟨a, us, G2, fs, ds, a :: as, rfl, qc, sc, p2, ?_⟩
        rw [eg]
        intro H3 G3 g3 p3
        obtain ⟨k1, k2⟩ := sl_mut g02 sl2 ei ev qq g3 p3
        exact h H3 G3 k1 (g2.gg.trans g3.gg) k2
      refine PySem.W.methodCall_KW (pl := pl) (thn ((pe_var hN hv hd hcd).run pins s σ H _ I core) fun u s1 ⟨y, H1, I1, rx, a', dx', fs1, exx, ea, l, q⟩ => ?_) ht
      subst exx
      obtain rfl : u = Value.ref a' := rx
      refine getmeth_ok I1 ea cl me l ?_
      refine PySem.W.callWith_K (first := [.ref a']) (h₀ := X.base) I.ok.mod.kin me.kp (thn (ha.run pos pins s1 σ H1 _ I1 q) fun us s2 ⟨vs, H2, I2, r, q2⟩ => ⟨I2.kIn, ?_⟩) hst hpl
      exact run_fnS (E := fun σ => WE W σ) (us := .ref a' :: us) (vs := .ref a' :: vs) F (hr.mono hk) b (L2N.passAt tk σ) I2 (.cons rfl r) q2
  refine PS.imp (ps_expr ex hs) fun D σ H h => ?_
  obtain ⟨G, δ, gr, sl, h⟩ := h
  unfold sMut at h
  split at h
  · rename_i c' fs ei
    by_cases q : c' = c ∧ fs.lookup m = none
    · rw [if_pos q] at h
      obtain ⟨rfl, q2⟩ := q
      cases ef : fa δ with
      | ok ds =>
        rw [ef] at h
        simp only at h
        cases eg : g fs ds with
        | ok fs' =>
          rw [eg] at h
          exact ⟨G, δ, fs, gr, sl, ei, q2, ds, fs', ef, eg, fun H2 G2 a b c => h σ H2 G2 a b c⟩
        | ex c fs => rw [eg] at h; exact h.elim
        | stuck => rw [eg] at h; exact h.elim
      | ex c fs => rw [ef] at h; exact h.elim
      | stuck => rw [ef] at h; exact h.elim
    · rw [if_neg q] at h; exact h.elim
  · exact h.elim
end
end DL


set_option maxRecDepth 100000
set_option maxHeartbeats 4000000
namespace DL
open PySem PySem.Spec PyProof.Rows L2
/-! ### a method's body -/
def selfM (x : Addr) (c : Str) : Option (Option RV) → R (List (Str × RV))
  | some (some (.oo (some y) c' fs)) => if y = x ∧ c' = c then .ok fs else .stuck
  | _ => .stuck
theorem selfM_ok {x : Addr} {c : Str} {o : Option (Option RV)} {fs : List (Str × RV)} (h : selfM x c o = .ok fs) : o = some (some (.oo (some x) c fs)) := by
  unfold selfM at h
  split at h
  · split at h
    · rename_i e
      cases h
      rw [e.1, e.2]
    · cases h
  · cases h
theorem selfM_ex {x : Addr} {c : Str} {o : Option (Option RV)} {c' : Str} {fs : List (Str × D)} : selfM x c o ≠ .ex c' fs := fun h => by
  unfold selfM at h
  split at h
  · split at h <;> cases h
  · cases h
/-- what a method makes of the object at x -/
def runM (x : Addr) (c : Str) (n N : Nat) (F : DE → SR) (fs : List (Str × RV)) (ds : List D) : R (List (Str × RV)) := if ds.length = n then (match F (some (RV.oo (some x) c fs) :: ds.map (fun d => some (RV.fr d)) ++ List.replicate (N - (n + 1)) none) with
  | .nx δ' => selfM x c δ'[0]?
  | _ => .stuck) else .stuck
open Classical in
noncomputable def mkM (c : Str) (n N : Nat) (F : DE → SR) (fs : List (Str × RV)) (ds : List D) : R (List (Str × RV)) := if h : ∃ r, ∀ x, runM x c n N F fs ds = r then h.choose else .stuck
theorem mkM_of {c : Str} {n N : Nat} {F : DE → SR} {fs : List (Str × RV)} {ds : List D} {r : R (List (Str × RV))} (h : ∀ x, runM x c n N F fs ds = r) : mkM c n N F fs ds = r := by
  have hx : ∃ r, ∀ x, runM x c n N F fs ds = r := ⟨r, h⟩
  unfold mkM
  rw [dif_pos hx]
  exact (hx.choose_spec 0).symm.trans (h 0)
theorem mkM_at {c : Str} {n N : Nat} {F : DE → SR} {fs : List (Str × RV)} {ds : List D} (h : mkM c n N F fs ds ≠ .stuck) (x : Addr) : runM x c n N F fs ds = mkM c n N F fs ds := by
  by_cases hx : ∃ r, ∀ x, runM x c n N F fs ds = r
  · unfold mkM
    rw [dif_pos hx]
    exact hx.choose_spec x
  · unfold mkM at h
    rw [dif_neg hx] at h
    exact absurd rfl h
theorem runM_len {x : Addr} {c : Str} {fs : List (Str × RV)} {ds : List D} {n M : Nat} {F : DE → SR} (h : runM x c n M F fs ds ≠ .stuck) : ds.length = n := by
  unfold runM at h
  by_cases hl : ds.length = n
  · exact hl
  · rw [if_neg hl] at h; exact absurd rfl h
section
variable {K : PySem.W.Frag} {mg : Mg}
theorem RVq.here {H0 H G : Hp} {x : Addr} {c : Str} {fs : List (Str × RV)} {as : List Addr} (q : RVq K mg H0 H G (.ref x) (.oo none c fs) as) : RVq K mg H0 H G (.ref x) (.oo (some x) c fs) as := by
  cases q with
  | oo hm h1 h2 h3 h4 h5 => exact .oo ⟨hm.1, fun y e => (Option.some.inj e).symm⟩ h1 h2 h3 h4 h5
theorem sl_startM {Hb H G : Hp} {c : Str} {x : Addr} {vs : List V} {ds : List D} {fs : List (Str × RV)} {as : List Addr} (N : List Str) (q0 : RVq K mg Hb H G (.ref x) (.oo (some x) c fs) as) (a : DpAll K mg G vs ds) :
    Sl K mg Hb H G (L2.start N (.ref x :: vs)) (some (RV.oo (some x) c fs) :: ds.map (fun d => some (RV.fr d)) ++ List.replicate (N.length - (ds.length + 1)) none) := by
  have fr : ∀ (i : Nat) r, (ds.map (fun d => some (RV.fr d)) ++ List.replicate (N.length - (ds.length + 1)) none)[i]? = some (some r) → ∃ d, ds[i]? = some d ∧ r = .fr d := fun i r e => by
    rw [List.getElem?_append] at e
    split at e
    · rw [List.getElem?_map] at e
      cases h : ds[i]? with
      | none => rw [h] at e; cases e
      | some d => rw [h] at e; cases e; exact ⟨d, rfl, rfl⟩
    · rw [List.getElem?_replicate] at e
      split at e <;> cases e
  refine ⟨?_, fun i r e => ?_, fun i j r r' v v' as as' b e e' _ _ q q' m m' => ?_⟩
  · unfold L2.start
    simp [a.len]
  · cases i with
    | zero =>
      rw [List.cons_append, List.getElem?_cons_zero] at e
      cases e
      exact ⟨.ref x, rfl, q0.p⟩
    | succ i =>
      rw [List.cons_append, List.getElem?_cons_succ] at e
      obtain ⟨d, e1, rfl⟩ := fr i r e
      obtain ⟨v, e2, p⟩ := a.get e1
      refine ⟨v, ?_, p⟩
      unfold L2.start
      rw [List.map_cons, List.cons_append, List.getElem?_cons_succ, List.getElem?_append_left (by
        rw [List.length_map]
        rcases Nat.lt_or_ge i vs.length with h | h
        · exact h
        · rw [List.getElem?_eq_none h] at e2; cases e2), List.getElem?_map, e2]
      rfl
  · have z : ∀ (i : Nat) (r : RV) (v : V) (as : List Addr) (b : Addr), (some (RV.oo (some x) c fs) :: ds.map (fun d => some (RV.fr d)) ++ List.replicate (N.length - (ds.length + 1)) none)[i]? = some (some r) → RVq K mg Hb H G v r as → b ∈ as → i = 0 := fun i r v as b e q m => by
      cases i with
      | zero => rfl
      | succ i =>
        rw [List.cons_append, List.getElem?_cons_succ] at e
        obtain ⟨d, _, rfl⟩ := fr i r e
        rw [own_nil q rfl] at m
        cases m
    rw [z i r v as b e q m, z j r' v' as' b e' q' m']
theorem runM_ends {Hb H G : Hp} {E : XK} {Q : VK} {c : Str} {x : Addr} {vs : List V} {fs : List (Str × RV)} {ds : List D} {as : List Addr} {N : List Str} {F : DE → SR} (g0 : Gr Hb G H G) (q0 : RVq K mg Hb H G (.ref x) (.oo none c fs) as) (a : DpAll K mg G vs ds)
    (h : match mkM c ds.length N.length F fs ds with
      | .ok fs' => ∀ H2 G2, Gr Hb G H2 G2 → RVp K mg Hb H2 G2 (.ref x) (.oo none c fs') → Q .non H2
      | _ => False) :
    tS K mg Hb G (wF E) F { nx := fun _ H' => Q .non H', rt := Q } (L2.start N (.ref x :: vs)) H := by
  refine ⟨G, _, g0, sl_startM N q0.here a, ?_⟩
  have hns : mkM c ds.length N.length F fs ds ≠ .stuck := fun z => by rw [z] at h; exact h
  rw [← mkM_at hns x] at h
  unfold runM at h
  rw [if_pos rfl] at h
  generalize F (some (RV.oo (some x) c fs) :: ds.map (fun d => some (RV.fr d)) ++ List.replicate (N.length - (ds.length + 1)) none) = y at h
  cases y with
  | nx δ' =>
    intro σ' H' G' g' _ sl
    simp only at h
    cases es : selfM x c δ'[0]? with
    | ok r =>
      rw [es] at h
      obtain ⟨v, ev, as, q⟩ := sl.at_ 0 _ (selfM_ok es)
      cases q with
      | oo hm hH hG h0 qf nd =>
        have z := hm.2 _ rfl
        subst z
        exact h H' G' g' ⟨_, .oo ⟨hm.1, fun _ z => nomatch z⟩ hH hG h0 qf nd⟩
    | ex c fs => exact absurd es selfM_ex
    | stuck => rw [es] at h; exact h.elim
  | br δ' => exact h.elim
  | ct δ' => exact h.elim
  | rt r => exact h.elim
  | ex c fs δ' => exact h.elim
  | stuck => exact h
end
section
variable {P : Program} {w : World} {K : PySem.W.Frag} {mg : Str → Option Value} {base : Heap}
/-- a method by its body -/
theorem fn_m {x qual : Str} {params : Arguments} {body : List Stmt} {sc : Scope} {dvs : List V} {kws : List (Str × V)} {f : Addr} {fd : FuncData} {N ps : List Str} {c : Str} {k n : Nat} {F : DE → SR} (Fn : FunD K x qual params body sc dvs kws f fd) (S : FnScope N ps sc) (hn : ps.length = n + 1)
    (hbody : BodyI P w K mg base k N qual sc body F) : FnOk P w K mg base (L2N.CX P w) (k + 1) f fd ps (spM K ⟨mg, P, w⟩ c (mkM c n N.length F)) := by
  have hl : ∀ {fs : List (Str × RV)} {ds : List D} {Q : List (Str × RV) → Prop}, (match mkM c n N.length F fs ds with
      | .ok fs' => Q fs'
      | _ => False) → ds.length = n := fun {fs ds Q} h => by
    have hns : mkM c n N.length F fs ds ≠ .stuck := fun z => by rw [z] at h; exact h
    exact runM_len (x := 0) (by rw [mkM_at hns]; exact hns)
  refine Fn.ok S (fun vs H Q E h => ?_) (fun cdv A outer s H vs Q E hr h => ?_)
  · obtain ⟨x, vs', G, fs, ds, as, rfl, _, _, a, h⟩ := h
    rw [List.length_cons, a.len, hl h, hn]
  · obtain ⟨x, vs', G, fs, ds, as, rfl, q, sg, a, h⟩ := h
    have e := hl h
    subst e
    have g0 : Gr (cutH H as) G H G := ⟨fun b o e => by
      by_cases hb : b ∈ as
      · rw [cut_in hb] at e; cases e
      · rwa [cut_out hb] at e, Same.refl _, fun b o e => by
      have := sg _ _ e
      by_cases hb : b ∈ as
      · rw [cut_in hb] at this; cases this
      · rwa [cut_out hb] at this, fun _ _ => rfl⟩
    exact ⟨_, hbody f cdv A outer s _ (cutH H as) G E hr (L2N.takes_of rfl rfl rfl rfl) (passes_of rfl), runM_ends g0 q a h⟩
end
/-! ### an own object's own list: self.f.append(e), self.f.pop() -/
def setR (f : Str) (r : RV) : List (Str × RV) → List (Str × RV)
  | [] => []
  | (g, x) :: t => if g = f then (g, r) :: t else (g, x) :: setR f r t
end DL


set_option maxRecDepth 100000
set_option maxHeartbeats 4000000
namespace DL
open PySem PySem.Spec PyProof.Rows L2 GS
/-! ### sorted(xs), xs a list of numbers, of texts, of tuples of one kind -/
section ord
variable {α : Type}
def insD (lt : α → α → Bool) (x : α) : List α → List α
  | [] => [x]
  | y :: ys => if lt y x = true then y :: insD lt x ys else x :: y :: ys
def srG (lt : α → α → Bool) (xs : List α) : List α := xs.foldr (insD lt) []
theorem insD_perm (lt : α → α → Bool) (x : α) : ∀ ys : List α, (insD lt x ys).Perm (x :: ys)
  | [] => List.Perm.refl _
  | y :: ys => by
    unfold insD
    split
    · exact ((insD_perm lt x ys).cons y).trans (List.Perm.swap x y ys)
    · exact List.Perm.refl _
theorem srG_perm (lt : α → α → Bool) : ∀ xs : List α, (srG lt xs).Perm xs
  | [] => List.Perm.refl _
  | x :: xs => (insD_perm lt x (srG lt xs)).trans ((srG_perm lt xs).cons x)
abbrev Up (lt : α → α → Bool) (l : List α) : Prop := l.Pairwise fun x y => lt y x = false
theorem insD_up [DecidableEq α] {lt : α → α → Bool} (L : Lin lt) (x : α) : ∀ {ys : List α}, Up lt ys → Up lt (insD lt x ys)
  | [], _ => List.pairwise_singleton _ _
  | y :: ys, h => by
    obtain ⟨h1, h2⟩ := List.pairwise_cons.mp h
    unfold insD
    split
    · rename_i hl
      refine List.pairwise_cons.mpr ⟨fun z hz => ?_, insD_up L x h2⟩
      rcases List.mem_cons.mp ((insD_perm lt x ys).mem_iff.mp hz) with e | hz
      · rw [e]
        cases q : lt x y with
        | false => rfl
        | true => have := L.tr _ _ _ hl q; rw [L.irr] at this; cases this
      · exact h1 z hz
    · rename_i hl
      have hl' : lt y x = false := by simpa using hl
      refine List.pairwise_cons.mpr ⟨fun z hz => ?_, h⟩
      rcases List.mem_cons.mp hz with e | hz
      · rw [e]; exact hl'
      · have h3 := h1 z hz
        cases q : lt z x with
        | false => rfl
        | true =>
          cases q2 : lt y z with
          | true => have := L.tr _ _ _ q2 q; rw [hl'] at this; cases this
          | false => have e := L.tot _ _ q2 h3; subst e; rw [hl'] at q; cases q
theorem srG_up [DecidableEq α] {lt : α → α → Bool} (L : Lin lt) : ∀ xs : List α, Up lt (srG lt xs)
  | [] => List.Pairwise.nil
  | x :: xs => insD_up L x (srG_up L xs)
theorem up_ext [DecidableEq α] {lt : α → α → Bool} (L : Lin lt) : ∀ {xs ys : List α}, xs.Perm ys → Up lt xs → Up lt ys → xs = ys
  | [], ys, p, _, _ => (List.Perm.nil_eq p)
  | x :: xs, [], p, _, _ => absurd p.symm.nil_eq (by simp)
  | x :: xs, y :: ys, p, h, k => by
    obtain ⟨h1, h2⟩ := List.pairwise_cons.mp h
    obtain ⟨k1, k2⟩ := List.pairwise_cons.mp k
    have e : x = y := by
      have hx : x ∈ y :: ys := p.mem_iff.mp List.mem_cons_self
      have hy : y ∈ x :: xs := p.mem_iff.mpr List.mem_cons_self
      rcases List.mem_cons.mp hx with e | hx
      · exact e
      · rcases List.mem_cons.mp hy with e | hy
        · exact e.symm
        · exact L.tot _ _ (k1 x hx) (h1 y hy)
    subst e
    rw [up_ext L ((List.perm_cons x).mp p) h2 k2]
end ord
def dSrt : List D → R RV
  | [.lst ds] => (match ds.mapM cellD with
    | some ks => if homB ks = true ∧ ks.length ≤ SZ then .ok (.ol ((srG kLt1 ks).map keyD)) else .stuck
    | none => match ds.mapM rowD with
      | some rs => if uniB rs = true ∧ rs.length ≤ SZ then .ok (.ol ((srG kLt rs).map fun k => .tup (k.map keyD))) else .stuck
      | none => .stuck)
  | _ => .stuck
theorem dSrt_noex : ∀ x c fs, dSrt x ≠ .ex c fs := fun x c fs h => by
  unfold dSrt at h
  split at h
  · split at h
    · split at h <;> cases h
    · split at h
      · split at h <;> cases h
      · cases h
  · cases h
section
variable {X : Cx}
theorem crd_srt : CallR X (.builtin "sorted") (rDA X.K X.M dSrt) := by
  refine crd_of fun pins s σ H G xs ds us Q I r sg p h => ?_
  cases p with
  | nil => exact h.elim
  | cons p t =>
    cases t with
    | cons p2 t2 => cases p <;> exact h.elim
    | nil =>
      cases p with
      | lst q a =>
        rename_i l vs es
        have sq : SqL X.K H l vs := .inl (same_rd sg q)
        obtain ⟨its, rv, hl, hz⟩ := I.list sq
        rw [Vals.ref1 r]
        simp only [dSrt] at h
        cases ec : es.mapM cellD with
        | some ks =>
          simp only [ec] at h
          by_cases c : homB ks = true ∧ ks.length ≤ SZ
          · rw [if_pos c] at h
            obtain ⟨e1, e2, e3⟩ := dp_cells a ec
            subst e1
            have hi : ItemsAre (mixKind X.prog X.w) ks its := by simpa using items_are rv
            have hm : its.map kv1 = ks := by
              clear h c hl hz e3 e2 ec rv q a sq r
              induction hi with
              | nil => rfl
              | cons h t ih => rw [List.map_cons, is_kv1 h, ih]
            have hv : ∀ v ∈ its, ∃ k, (mixKind X.prog X.w).is k v = true := by
              clear h c hl hz e3 e2 ec rv q a sq hm r
              induction hi with
              | nil => exact fun v hv => nomatch hv
              | cons h t ih => exact fun v hv => (List.mem_cons.mp hv).elim (fun e => e ▸ ⟨_, h⟩) (ih v)
            refine SrtO.sorted_ord swo_v hl.isList (by rw [← rv.length]; exact hz) (fun h2 h₁ a' _ _ => sc_sortable h2 hv (hm ▸ hom_ok c.1)) fun out h1 h2 => ?_
            obtain ⟨ep, he'⟩ := PyProof.Rows.sortedAll_at s.heap its out.toArray
            have pm : (out.map kv1).Perm ks := hm ▸ h2.perm.map kv1
            have eo : out.map kv1 = srG kLt1 ks := up_ext lin_key (pm.trans (srG_perm kLt1 ks).symm) (List.pairwise_map.mpr h1) (srG_up lin_key ks)
            have hvo : Vals ((srG kLt1 ks).map kV) out := eo ▸ vals_kV (items_kv1 fun v hv' => hv v (h2.perm.mem_iff.mp hv'))
            have hlen : ((srG kLt1 ks).map kV).length ≤ sizeLine := by
              rw [hvo.length, h2.perm.length_eq, ← rv.length]; exact hz
            refine ⟨.ref _, upd H (s.heap.objs.size + 1) (.lst ((srG kLt1 ks).map kV)), I.laid (t' := s.toks) (fun _ _ => PyProof.Rows.sortedAll_old) (Nat.le_succ _) ⟨hlen, out, ep, hvo, he'⟩, rfl, ?_⟩
            exact new_own (Wd := fun _ _ _ => False) sg (I.hok.fresh (Nat.le_succ _)) (dp_keys fun k hk => e3 k ((srG_perm kLt1 ks).mem_iff.mp hk)) h
          · rw [if_neg c] at h; exact h.elim
        | none =>
          simp only [ec] at h
          cases er : es.mapM rowD with
          | some rs =>
            simp only [er] at h
            by_cases c : uniB rs = true ∧ rs.length ≤ SZ
            · rw [if_pos c] at h
              obtain ⟨ks, e1, e2, e3⟩ := dp_rows a er
              subst e1; subst e2
              obtain ⟨shape, hsh⟩ := uni_ok c.1
              have eits : its = ks.map fun p => Value.ref p.1 := refs_vals rv
              have hI : ∀ p ∈ ks, IsM X.prog X.w s.heap p.2 p.1 := fun p hp => Inv.isM I (same_t sg (e3 p hp).1)
              have one : ∀ q ∈ ks, ∀ r ∈ ks, q.1 = r.1 → q.2 = r.2 := fun q hq r hr e => by
                have a1 := hI q hq
                have a2 := hI r hr
                rw [e] at a1
                exact a1.inj a2
              have sh : ∀ p ∈ ks, Shp shape 0 p.2 ∧ p.2 ≠ [] := fun p hp => hsh _ (List.mem_map.mpr ⟨p, hp, rfl⟩)
              refine SrtO.sorted_ord (swo_of (kv s.heap shape)) hl.isList (by rw [← rv.length]; exact hz) (fun h2 h₁ a' ho ho2 => ?_) fun out h1 h2 => ?_
              · refine tups_sortable (s := { s with heap := h₁ }) (h0 := s.heap) (by omega) fun v hv => ?_
                rw [eits] at hv
                obtain ⟨p, hp, rfl⟩ := List.mem_map.mp hv
                obtain ⟨o, items, n, ho', r'⟩ := hI p hp
                exact ⟨p.1, p.2, rfl, (ho2 _ _ ho').1, hI p hp, ⟨o, items, n, (ho2 _ _ ho').2, r'⟩, (sh p hp).1, (sh p hp).2⟩
              · obtain ⟨ep, he'⟩ := PyProof.Rows.sortedAll_at s.heap its out.toArray
                obtain ⟨L', eo, hs'⟩ := rows_of (L := ks) (vs := out) fun v hv => by
                  have := h2.perm.mem_iff.mp hv
                  rw [eits] at this
                  obtain ⟨q, hq, e⟩ := List.mem_map.mp this
                  exact ⟨q, hq, e.symm⟩
                have pw : Up kLt (L'.map (·.2)) := by
                  rw [eo] at h1
                  refine List.pairwise_map.mpr (List.Pairwise.imp_of_mem (fun {q r} hq hr hle => ?_) (List.pairwise_map.mp h1))
                  have f1 := key_ky (hI q (hs' q hq)) (sh q (hs' q hq)).1
                  have f2 := key_ky (hI r (hs' r hr)) (sh r (hs' r hr)).1
                  have hle' : lexLt itemOrd ((tupKey s.heap shape (.ref r.1)).getD []) ((tupKey s.heap shape (.ref q.1)).getD []) = false := hle
                  rw [f1, f2] at hle'
                  exact hle'
                have pm : (L'.map (·.2)).Perm (ks.map (·.2)) := by
                  let f : Value → List Key := fun v => ((ks.find? fun q => decide (Value.ref q.1 = v)).map (·.2)).getD []
                  have hf : ∀ q ∈ ks, f (.ref q.1) = q.2 := fun q hq => by
                    show ((ks.find? fun r => decide (Value.ref r.1 = Value.ref q.1)).map (·.2)).getD [] = q.2
                    cases e : ks.find? fun r => decide (Value.ref r.1 = Value.ref q.1) with
                    | none => exact absurd (List.find?_eq_none.mp e q hq) (by simp)
                    | some r =>
                      have e1 : Value.ref r.1 = Value.ref q.1 := by simpa using List.find?_some e
                      injection e1 with e1
                      exact one r (List.mem_of_find?_eq_some e) q hq e1
                  have p1 : (out.map f).Perm (its.map f) := h2.perm.map f
                  rw [eo, eits, List.map_map, List.map_map] at p1
                  have a1 : L'.map (f ∘ fun q => Value.ref q.1) = L'.map (·.2) := List.map_congr_left fun q hq => hf q (hs' q hq)
                  have a2 : ks.map (f ∘ fun q => Value.ref q.1) = ks.map (·.2) := List.map_congr_left fun q hq => hf q hq
                  rw [a1, a2] at p1
                  exact p1
                have e : L'.map (·.2) = srG kLt (ks.map (·.2)) := up_ext lin_row (pm.trans (srG_perm kLt _).symm) pw (srG_up lin_row _)
                have hvo : Vals (L'.map fun p => V.ref p.1) out := by rw [eo]; exact vals_refs' L'
                have hlen : (L'.map fun p => V.ref p.1).length ≤ sizeLine := by
                  rw [hvo.length, h2.perm.length_eq, ← rv.length]; exact hz
                refine ⟨.ref _, upd H (s.heap.objs.size + 1) (.lst (L'.map fun p => V.ref p.1)), I.laid (t' := s.toks) (fun _ _ => PyProof.Rows.sortedAll_old) (Nat.le_succ _) ⟨hlen, out, ep, hvo, he'⟩, rfl, ?_⟩
                have eD : (L'.map fun p => D.tup (p.2.map keyD)) = (srG kLt (ks.map (·.2))).map fun k => .tup (k.map keyD) := by
                  rw [← e, List.map_map]; rfl
                rw [← eD] at h
                exact new_own (Wd := fun _ _ _ => False) sg (I.hok.fresh (Nat.le_succ _)) (dp_refs fun q hq => (e3 q (hs' q hq)).2) h
            · rw [if_neg c] at h; exact h.elim
          | none => simp only [er] at h; exact h.elim
      | _ => exact h.elim
end
end DL


set_option maxRecDepth 100000
set_option maxHeartbeats 4000000
namespace DL
open PySem PySem.Spec PyProof.Rows L2
/-! ### x == y by an own __eq__, both frozen -/
theorem bindSp_core {P : Program} {w : World} {A : Around} {K : W.Frag} {E : Value → Shared → Prop} {s : Shared} {a C f : Addr} {o : Obj} {n : Str} {Q : Option (Value × List Value) → Shared → Prop} (hK : K.In s.heap) (ha : s.heap.get? a = some o) (hc : o.cls = .ref C) (hf : W.findIn K (.ref C) n = some (some (.ref f))) (ht : W.typeIn K (.ref f) = some (.type "function")) (h : Q (some (.ref f, [.ref a])) s) : wpAny (model P w) A (bindSpecialIfBound? (.ref a) n) Q E s := by
  unfold bindSpecialIfBound? specialOf
  refine wpAny_bind (wpAny_bind (wpAny_typeOf_ref ha ?_))
  rw [hc]
  refine W.Looks.here (W.looks_findIn hK hf) ?_
  have hb : wpAny (model P w) A (do let x ← bindSpecial (.ref f) (.ref a); pure (some x)) Q E s := by
    refine wpAny_bind (W.Looks.here (W.bind_fn hK (.ref a) ht) ?_)
    exact wpAny_pure h
  dsimp only
  refine wpAny_bind (wpAny_askSetting ?_)
  split
  · exact hb
  · refine wpAny_tryCatch ?_
    refine wpAny_bind (W.Looks.here (W.bind_fn hK (.ref a) ht) ?_)
    exact wpAny_pure h
theorem eq_core {P : Program} {w : World} {A : Around} {K : W.Frag} {E : Value → Shared → Prop} {s : Shared} {a b C f : Addr} {oa ob : Obj} {Q : Value → Shared → Prop} (hK : K.In s.heap) (ha : s.heap.get? a = some oa) (hca : oa.cls = .ref C) (hb : s.heap.get? b = some ob) (hcb : ob.cls = .ref C) (hf : W.findIn K (.ref C) "__eq__" = some (some (.ref f))) (ht : W.typeIn K (.ref f) = some (.type "function")) (hu : A.units < cLine)
    (h : wpAny (model P w) A (call (.ref f) [.ref a, .ref b]) (fun v s' => (∃ c, v = .bool c) ∧ Q v s') E s) : wpAny (model P w) A (compareOp .Eq (.ref a) (.ref b)) Q E s := by
  show wpAny (model P w) A (richCompare .Eq (.ref a) (.ref b)) Q E s
  unfold richCompare
  refine wpAny_holding (wpAny_bind (wpAny_cRoomFor hu ?_))
  have e1 : oneThing? .Eq (.ref a) (.ref b) = none := rfl
  rw [e1]
  refine wpAny_bind (wpAny_typeOf_ref ha (wpAny_bind (wpAny_typeOf_ref hb ?_)))
  rw [hca, hcb]
  have e2 : (Value.ref C != Value.ref C) = false := by simp
  rw [e2]
  refine wpAny_bind (wpAny_pure ?_)
  refine wpAny_bind ?_
  unfold tryCompare
  refine wpAny_bind ?_
  unfold callSpecialIfBound?
  refine wpAny_holding (wpAny_bind (bindSp_core hK ha hca hf ht ?_))
  refine wpAny_bind (thn h fun v s' ⟨⟨c, hc⟩, q⟩ => ?_)
  subst hc
  exact wpAny_pure (wpAny_pure (wpAny_pure q))
def dEqM (c : Str) (g : List D → R RV) : D → D → R RV
  | .obj c1 f1, .obj c2 f2 => if c1 = c ∧ c2 = c then (match g [.obj c1 f1, .obj c2 f2] with
    | .ok (.fr (.bl b)) => okd (.bl b)
    | _ => .stuck) else .stuck
  | _, _ => .stuck
theorem dEqM_noex {c : Str} {g : List D → R RV} : ∀ x y n fs, dEqM c g x y ≠ .ex n fs := fun x y n fs h => by
  unfold dEqM at h
  split at h
  · split at h
    · split at h <;> cases h
    · cases h
  · cases h
section
variable {X : Cx}
theorem opd_eqM {k j : Nat} {A0 : Around} {c : Str} {g : List D → R RV} (cm : CalM X.prog X.w X.K X.mg X.base k c "__eq__" g) (hr : Room j A0) (hk : k ≤ j) (hA : X.A = A0 := by rfl) : OpR X (compareOp .Eq) (rD X.K X.M (dEqM c g)) := by
  subst hA
  refine opd_of fun pins s σ H G x y d e v u Q I rx ry sg px py h => ?_
  obtain ⟨C, f, fd, ps, hm, cl, me, F, b⟩ := cm.ex
  cases px with
  | obj hca hGa pa =>
    cases py with
    | obj hcb hGb pb =>
      rename_i a Ca dxa fsa ca dfa bb Cb dxb fsb cb dfb
      simp only [dEqM] at h
      by_cases q : ca = c ∧ cb = c
      · rw [if_pos q] at h
        obtain ⟨q1, q2⟩ := q
        subst q1
        subst q2
        cases hca.symm.trans hm
        cases hcb.symm.trans hm
        have ea := sg _ _ hGa
        have eb := sg _ _ hGb
        have oa := I.hok _ _ ea
        have ob := I.hok _ _ eb
        simp only [ObjOk] at oa ob
        cases rx
        cases ry
        have ht : W.typeIn X.K (.ref f) = some (.type "function") := by
          have := me.fn
          unfold W.isFn at this
          exact eq_of_beq this
        refine eq_core I.kIn oa.2.2.2.1 rfl ob.2.2.2.1 rfl me.at_ ht (by have := hr.un; omega) ?_
        refine thn (run_fnS (E := fun σ => WE W0 σ) (Q := fun v H' => (∃ c, v = .bl c) ∧ Q v H') (us := [.ref a, .ref bb]) (vs := [.ref a, .ref bb]) F (hr.mono hk) b (L2N.passAt takes_no σ) I (.cons rfl (.cons rfl .nil)) ?_) fun r s' ⟨v, H', I', rv, ⟨cc, ev⟩, q⟩ => ?_
        · refine ⟨G, [.obj cb dfa, .obj cb dfb], sg, .cons (.obj hca hGa pa) (.cons (.obj hcb hGb pb) .nil), ?_⟩
          cases hg : g [.obj cb dfa, .obj cb dfb] with
          | ok r =>
            rw [hg] at h
            cases r with
            | fr d =>
              cases d with
              | bl z =>
                intro v H1 G1 g1 p1
                have p1' : Dp X.K X.M G1 v (.bl z) := p1
                cases p1'
                exact ⟨⟨z, rfl⟩, h _ H1 G1 g1 (.bl z)⟩
              | _ => exact h.elim
            | _ => exact h.elim
          | ex c fs => rw [hg] at h; exact h.elim
          | stuck => rw [hg] at h; exact h.elim
        · subst ev
          exact ⟨by cases rv; exact ⟨cc, rfl⟩, _, H', I', rv, q⟩
      · rw [if_neg q] at h; exact h.elim
    | _ => exact h.elim
  | _ => exact h.elim
end
end DL


set_option maxRecDepth 100000
set_option maxHeartbeats 4000000
namespace DL
open PySem PySem.Spec PyProof.Rows L2
/-! ### list(d), d a dict -/
theorem raw_kdl {P : Program} {w : World} {a : Addr} {es : Array DictEntry} {ep : Nat} (hz : (a == sysModules) = false) : W.KdlSrc P w "dict" a a es.size (fun i v => ∃ hi : i < es.size, v = es[i].key) (fun h => h.DictRaw a es ep) where
  type := fun s h => by
    obtain ⟨o, ho, hex, hdt⟩ := h
    exact ⟨o, ho, hex.1⟩
  there := fun h hr => by
    obtain ⟨o, ho, hex, hdt⟩ := hr
    exact ⟨Heap.lt_size ho, Heap.lt_size ho⟩
  keep := fun h h' hr k => by
    obtain ⟨o, ho, hex, hdt⟩ := hr
    exact ⟨o, k a (.inl rfl) _ ho, hex, hdt⟩
  notList := by decide
  notTuple := by decide
  hint := fun A E s Q h q => by
    obtain ⟨o, ho, hex, hdt⟩ := h
    exact W.kdl_hint_dict ⟨o, ho, hex.1⟩ q
  iter := fun A s hA h => by
    have hr := h
    obtain ⟨o, ho, hex, hdt⟩ := h
    have hlt := Heap.lt_size ho
    have hp : ∀ oI : Obj, oI = { cls := Value.type "dict_keyiterator", data := Data.fields #[Value.ref a, Value.int 0 0, Value.int (↑es.size) 0, Value.int (↑ep) 0] } → (s.heap.push oI).get? s.heap.objs.size = some oI := fun oI e => by
      subst e
      simp [Heap.push, Heap.get?]
    exact ⟨_, _, fun E Q q => wpAny_pyIter_dict_raw hz hr q, Walks.rawKeys hA s.heap.objs.size a (Nat.ne_of_lt hlt) es ep, ⟨_, hp _ rfl, rfl, rfl⟩, o, Heap.get?_push_of_some _ ho, hex, hdt⟩
def dListD : List D → R RV
  | [.dct kvs] => if kvs.length ≤ SZ then .ok (.ol (kvs.map (·.1))) else .stuck
  | [.lst ds] => .ok (.ol ds)
  | [.tup ds] => .ok (.ol ds)
  | _ => .stuck
theorem dListD_noex : ∀ x c fs, dListD x ≠ .ex c fs := fun x c fs h => by
  unfold dListD at h
  split at h <;> try cases h
  split at h <;> cases h
theorem dpk_keys {K : PySem.W.Frag} {mg : Mg} {G : Hp} : ∀ {kvs : List (Key × V)} {dk : List (D × D)}, DpK K mg G kvs dk → DpAll K mg G (kvs.map fun kv => kV kv.1) (dk.map (·.1))
  | _, _, .nil => .nil
  | _, _, .cons (k := k) hk p t => by
    refine .cons ?_ (dpk_keys t)
    cases k with
    | inl i => exact .int i
    | inr x => exact .str x hk
theorem dpt_keys {K : PySem.W.Frag} {mg : Mg} {G : Hp} : ∀ {kvs : List (List Key × Addr × V)} {dk : List (D × D)}, DpT K mg G kvs dk → DpAll K mg G (kvs.map fun kv => .ref kv.2.1) (dk.map (·.1))
  | _, _, .nil => .nil
  | _, _, .cons sq hk p t => .cons (.tup sq (dp_keys hk)) (dpt_keys t)
theorem dpt_len {K : PySem.W.Frag} {mg : Mg} {G : Hp} : ∀ {kvs : List (List Key × Addr × V)} {dk : List (D × D)}, DpT K mg G kvs dk → kvs.length = dk.length
  | _, _, .nil => rfl
  | _, _, .cons sq hk p t => congrArg (· + 1) (dpt_len t)
theorem dt_refs {P : Program} {w : World} : ∀ {kvs : List (List Key × Addr × V)} {xs : List (List Key × Addr × Value)}, Paired (fun (p : List Key × Addr × V) (q : List Key × Addr × Value) => p.1 = q.1 ∧ p.2.1 = q.2.1 ∧ RelV p.2.2 q.2.2) kvs xs → Vals (kvs.map fun kv => .ref kv.2.1) (xs.map ((fun x => x.key) ∘ entryOfKey (tupleKind (mixKind P w))))
  | _, _, .nil => .nil
  | _, _, .cons (a := p) q tl => .cons (by show Value.ref _ = Value.ref _; rw [q.2.1]) (dt_refs tl)
section
variable {X : Cx}
theorem crd_listD (hc : X.calm = true) : CallR X (.type "list") (rDA X.K X.M dListD) := by
  refine crd_of fun pins s σ H G xs ds us Q I r sg p h => ?_
  cases p with
  | nil => exact h.elim
  | cons p t =>
    cases t with
    | nil =>
      cases p with
      | lst q a => exact call_list_of pins s σ H _ us Q I r ⟨_, _, rfl, .inl (.inl (same_rd sg q)), fun l hl => new_own (Wd := fun _ _ _ => False) sg hl a h⟩
      | tup q a => exact call_list_of pins s σ H _ us Q I r ⟨_, _, rfl, .inr (same_t sg q), fun l hl => new_own (Wd := fun _ _ _ => False) sg hl a h⟩
      | dk hG t =>
        simp only [dListD] at h
        split at h
        · exact call_listD hc pins s σ H _ us Q I r ⟨_, _, rfl, .inl (sg _ _ hG), fun l hl => new_own (Wd := fun _ _ _ => False) sg hl (dpk_keys t) h⟩
        · exact h.elim
      | dt hG t =>
        rename_i a kvs dk
        simp only [dListD] at h
        split at h
        · rename_i hl
          rw [Vals.ref1 r]
          obtain ⟨⟨z, hd, xs, rel, o, es, ep, ho, hex, hdt, hes, hn⟩, _, _⟩ := I.hok a _ (sg _ _ hG)
          have hlen : es.size = kvs.length := by
            rw [← Array.length_toList, hes, List.length_map, rel.length]
          refine W.kdl_call (raw_kdl hd) (I.ok.hd hc) ⟨o, ho, hex, hdt⟩ (by rw [hlen, dpt_len t]; exact sz_le hl) fun h' tk acc c hk hS hI => ?_
          have hv : Vals (kvs.map fun kv => .ref kv.2.1) acc.toList := by
            have e1 : acc.toList = es.toList.map (·.key) := by
              apply List.ext_getElem?
              intro i
              by_cases hi : i < es.size
              · have hj : i < acc.size := by rw [hI.1]; exact hi
                obtain ⟨_, e⟩ := hI.2 i acc[i] (by simp [hj])
                simp [hi, hj, e]
              · have hj : ¬ i < acc.size := by rw [hI.1]; exact hi
                simp [hi, hj]
            rw [e1, hes, List.map_map]
            exact dt_refs rel
          refine ⟨.ref _, upd H s.heap.objs.size (.lst (kvs.map fun kv => .ref kv.2.1)), I.laid (t' := tk) hk (Nat.le_refl _) ⟨?_, acc.toList, c, hv, ?_⟩, rfl, ?_⟩
          · rw [List.length_map, dpt_len t]; exact sz_le hl
          · exact hS
          · exact new_own (Wd := fun _ _ _ => False) sg (I.hok.fresh (Nat.le_refl _)) (dpt_keys t) h
        · exact h.elim
      | _ => exact h.elim
    | cons p2 t2 => cases p <;> exact h.elim
end
end DL


set_option maxRecDepth 100000
set_option maxHeartbeats 4000000
namespace DL
open PySem PySem.Spec PyProof.Rows L2
/-! ### str(n), int(text) -/
def strN (n : Nat) : Str := Str.ofString (toString (n : Int))
theorem strN_ok : ∀ n : Fin 2001, (strN n.val).cps.all (· < 0x110000) = true := by decide +kernel
def dStr : List D → R RV
  | [.int i] => if 0 ≤ i ∧ i < 2001 then okd (.str (strN i.toNat)) else .stuck
  | _ => .stuck
theorem dStr_noex : ∀ x c fs, dStr x ≠ .ex c fs := fun x c fs h => by
  unfold dStr at h
  split at h
  · split at h <;> cases h
  · cases h
def dIntD : List D → R RV
  | [.int i] => okd (.int i)
  | [.bl b] => okd (.int (if b then 1 else 0))
  | [.str a] => (match intText? a with
    | some n => if a.length ≤ 640 then okd (.int n) else .stuck
    | none => .stuck)
  | _ => .stuck
theorem dIntD_noex : ∀ x c fs, dIntD x ≠ .ex c fs := fun x c fs h => by
  unfold dIntD at h
  split at h <;> try cases h
  split at h
  · split at h <;> cases h
  · cases h
section
variable {X : Cx}
theorem crd_str : CallR X (.type "str") (rDA X.K X.M dStr) := by
  refine crd_of fun pins s σ H G xs ds us Q I r sg p h => ?_
  cases p with
  | nil => exact h.elim
  | cons p t =>
    cases t with
    | nil =>
      cases p with
      | int i =>
        simp only [dStr] at h
        split at h
        · rename_i hi
          obtain ⟨n, rfl⟩ := Int.eq_ofNat_of_zero_le hi.1
          have hn : n < 2001 := by omega
          refine call_str_int pins s σ H _ us Q I r ⟨_, rfl, ?_, ?_⟩
          · exact Nat.lt_of_le_of_lt (Nat.log2_le_self _) (by omega) |> fun h => by
              by_cases z : n = 0
              · subst z; decide
              · exact Nat.lt_of_lt_of_le ((Nat.log2_lt (by omega)).mpr (show (n : Int).natAbs < 2 ^ 11 by omega)) (by decide)
          · exact h _ H G (.refl sg) (.str _ (strN_ok ⟨n, hn⟩))
        · exact h.elim
      | _ => exact h.elim
    | cons p2 t2 => cases p <;> exact h.elim
theorem crd_intD : CallR X (.type "int") (rDA X.K X.M dIntD) := by
  refine crd_of fun pins s σ H G xs ds us Q I r sg p h => ?_
  cases p with
  | nil => exact h.elim
  | cons p t =>
    cases t with
    | nil =>
      cases p with
      | int i => exact call_int1 pins s σ H _ us Q I r (.inl ⟨i, rfl, h _ H G (.refl sg) (.int _)⟩)
      | bl b => exact call_int1 pins s σ H _ us Q I r (.inr ⟨b, rfl, h _ H G (.refl sg) (.int _)⟩)
      | str a ha =>
        simp only [dIntD] at h
        split at h
        · rename_i n e
          split at h
          · rename_i hl
            exact call_int_str pins s σ H _ us Q I r ⟨a, n, rfl, e, hl, h _ H G (.refl sg) (.int _)⟩
          · exact h.elim
        · exact h.elim
      | _ => exact h.elim
    | cons p2 t2 => cases p <;> exact h.elim
end
/-! ### text.split(sign) -/
def splitGo (c : Nat) : List Nat → List Nat → List (List Nat)
  | cur, [] => [cur]
  | cur, x :: r => if x = c then cur :: splitGo c [] r else splitGo c (cur ++ [x]) r
theorem splitGo_mem (c : Nat) (P : Nat → Prop) : ∀ (r cur : List Nat), (∀ x ∈ cur, P x) → (∀ x ∈ r, P x) → ∀ l ∈ splitGo c cur r, ∀ x ∈ l, P x
  | [], cur, hc, _, l, hl => by
    simp only [splitGo, List.mem_singleton] at hl
    subst hl
    exact hc
  | y :: r, cur, hc, hr, l, hl => by
    unfold splitGo at hl
    split at hl
    · rcases List.mem_cons.mp hl with e | hl
      · subst e; exact hc
      · exact splitGo_mem c P r [] (fun x hx => nomatch hx) (fun x hx => hr x (List.mem_cons_of_mem _ hx)) l hl
    · refine splitGo_mem c P r _ (fun x hx => ?_) (fun x hx => hr x (List.mem_cons_of_mem _ hx)) l hl
      rcases List.mem_append.mp hx with h | h
      · exact hc x h
      · rw [List.mem_singleton.mp h]; exact hr y List.mem_cons_self
/-- the places of c, from k on -/
def plc (c : Nat) : Nat → List Nat → List Nat
  | _, [] => []
  | k, x :: r => if x = c then k :: plc c (k + 1) r else plc c (k + 1) r
theorem parts_go (c : Nat) (l : List Nat) : ∀ (r A cur : List Nat), l = A ++ cur ++ r →
    ((A.length :: (plc c (A.length + cur.length) r).map (· + 1)).zip (plc c (A.length + cur.length) r ++ [l.length])).map (fun p => (l.take p.2).drop p.1) = splitGo c cur r
  | [], A, cur, e => by
    subst e
    simp only [plc, splitGo, List.map_nil, List.nil_append, List.zip_cons_cons, List.zip_nil_left, List.map_cons, List.append_nil]
    rw [List.take_length, List.drop_left]
  | x :: r, A, cur, e => by
    unfold plc splitGo
    by_cases h : x = c
    · rw [if_pos h, if_pos h]
      have ih := parts_go c l r (A ++ cur ++ [x]) [] (by rw [e]; simp)
      simp only [List.length_append, List.length_singleton, List.length_nil, Nat.add_zero] at ih
      simp only [List.map_cons, List.cons_append, List.zip_cons_cons, List.map_cons]
      rw [ih]
      congr 1
      rw [e, ← List.length_append, List.take_left, List.drop_left]
    · rw [if_neg h, if_neg h]
      have ih := parts_go c l r A (cur ++ [x]) (by rw [e]; simp)
      simp only [List.length_append, List.length_singleton] at ih
      exact ih
def occF (l : List Nat) (c : Nat) (i : Nat) (p : Array Nat × Nat) : Array Nat × Nat :=
  if (decide (p.1.size < l.length + 1) && decide (p.2 ≤ i) && decide (i + 1 ≤ l.length) && ((l.take (i + 1)).drop i == [c])) = true then (p.1.push i, i + 1) else p
theorem occ_fold (c : Nat) (l : List Nat) : Builtin.Str.occurrences ⟨l.toArray⟩ ⟨#[c]⟩ 0 l.length (l.length + 1) = ((List.range (l.length + 1)).foldl (fun p i => occF l c i p) (#[], 0)).1.toList := by
  unfold Builtin.Str.occurrences
  have e : ∀ (i : Nat) (p : Array Nat × Nat), (if (decide (p.1.size < l.length + 1) && decide (p.2 ≤ i) && decide (i + (Str.mk #[c]).length ≤ l.length) && Builtin.Str.subAt ⟨l.toArray⟩ ⟨#[c]⟩ i) = true then (pure (ForInStep.yield (p.1.push i, i + (Str.mk #[c]).length)) : Id _) else pure (ForInStep.yield (p.1, p.2))) = pure (ForInStep.yield (occF l c i p)) := fun i p => by
    unfold occF
    have e1 : (Str.mk #[c]).length = 1 := rfl
    have e2 : Builtin.Str.subAt ⟨l.toArray⟩ ⟨#[c]⟩ i = ((l.take (i + 1)).drop i == [c]) := by
      unfold Builtin.Str.subAt
      rw [e1]
      simp [List.extract_toArray, List.extract_eq_drop_take, List.drop_take]
    rw [e1, e2]
    split <;> rfl
  simp only [e]
  have fo : ∀ (n : Nat) (p : Array Nat × Nat), (forIn ([:n] : Std.Legacy.Range) p fun i s => (pure (ForInStep.yield (occF l c i s)) : Id _)) = pure ((List.range n).foldl (fun p i => occF l c i p) p) := fun n p => by
    rw [Std.Legacy.Range.forIn_eq_forIn_range', List.forIn_pure_yield_eq_foldl]
    simp [Std.Legacy.Range.size, List.range_eq_range']
  rw [fo]
  rfl
theorem plc_snoc (c x : Nat) : ∀ (xs : List Nat) (k : Nat), plc c k (xs ++ [x]) = plc c k xs ++ (if x = c then [k + xs.length] else [])
  | [], k => by
    simp only [List.nil_append, plc, List.length_nil, Nat.add_zero]
  | y :: ys, k => by
    simp only [List.cons_append, plc, plc_snoc c x ys (k + 1), List.length_cons]
    rw [show k + 1 + ys.length = k + (ys.length + 1) by omega]
    split <;> rfl
theorem occ_go (c : Nat) (l : List Nat) : ∀ k, k ≤ l.length → ((List.range k).foldl (fun p i => occF l c i p) (#[], 0)).1.toList = plc c 0 (l.take k) ∧ ((List.range k).foldl (fun p i => occF l c i p) (#[], 0)).2 ≤ k ∧ ((List.range k).foldl (fun p i => occF l c i p) (#[], 0)).1.size ≤ k
  | 0, _ => by simp [plc]
  | k + 1, hk => by
    obtain ⟨h1, h2, h3⟩ := occ_go c l k (by omega)
    rw [List.range_succ, List.foldl_append, List.foldl_cons, List.foldl_nil]
    generalize (List.range k).foldl (fun p i => occF l c i p) (#[], 0) = p at h1 h2 h3
    have hx : l.take (k + 1) = l.take k ++ [l[k]] := by rw [List.take_succ_eq_append_getElem]
    have hd : (l.take (k + 1)).drop k = [l[k]] := by
      rw [hx, List.drop_append_of_le_length (by rw [List.length_take]; omega), List.drop_eq_nil_of_le (by rw [List.length_take]; omega), List.nil_append]
    have hs : plc c 0 (l.take (k + 1)) = plc c 0 (l.take k) ++ (if l[k] = c then [k] else []) := by
      rw [hx, plc_snoc, List.length_take, Nat.min_eq_left (by omega), Nat.zero_add]
    rw [hs]
    unfold occF
    rw [hd]
    by_cases e : l[k] = c
    · have q : (decide (p.1.size < l.length + 1) && decide (p.2 ≤ k) && decide (k + 1 ≤ l.length) && ([l[k]] == [c])) = true := by
        simp [e]; omega
      rw [if_pos q, if_pos e]
      refine ⟨by simp [h1], by simp, by simp; omega⟩
    · have q : ¬ (decide (p.1.size < l.length + 1) && decide (p.2 ≤ k) && decide (k + 1 ≤ l.length) && ([l[k]] == [c])) = true := by
        simp [e]
      rw [if_neg q, if_neg e]
      exact ⟨by simp [h1], by omega, by omega⟩
theorem occ_eq (c : Nat) (l : List Nat) : Builtin.Str.occurrences ⟨l.toArray⟩ ⟨#[c]⟩ 0 l.length (l.length + 1) = plc c 0 l := by
  rw [occ_fold, List.range_succ, List.foldl_append, List.foldl_cons, List.foldl_nil]
  have h := (occ_go c l l.length (Nat.le_refl _)).1
  rw [List.take_length] at h
  generalize (List.range l.length).foldl (fun p i => occF l c i p) (#[], 0) = p at h
  unfold occF
  rw [if_neg (by
    have : decide (l.length + 1 ≤ l.length) = false := by simp
    rw [this]; simp)]
  exact h
theorem plc_nil {c : Nat} : ∀ {l : List Nat} {k : Nat} {cur : List Nat}, plc c k l = [] → splitGo c cur l = [cur ++ l]
  | [], _, cur, _ => by simp [splitGo]
  | x :: r, k, cur, h => by
    unfold plc at h
    split at h
    · cases h
    · rename_i q
      rw [splitGo, if_neg q, plc_nil h]
      simp
theorem split_eq (c : Nat) (hc : c < 256) (l : List Nat) : Txt.split ⟨l.toArray⟩ ⟨#[c]⟩ = (splitGo c [] l).map fun x => ⟨x.toArray⟩ := by
  unfold Txt.split
  have hl : (Str.mk l.toArray).length = l.length := rfl
  have h1 : (Str.mk #[c]).length = 1 := rfl
  have hk : Builtin.Str.strKind ⟨#[c]⟩ = 1 := by simp [Builtin.Str.strKind, hc]
  have hk2 : 1 ≤ Builtin.Str.strKind ⟨l.toArray⟩ := by
    unfold Builtin.Str.strKind
    split
    · decide
    · split <;> decide
  rw [hl, h1, hk, occ_eq]
  cases l with
  | nil => rfl
  | cons x r =>
    have q : (decide ((x :: r).length < 1) || decide (Builtin.Str.strKind ⟨(x :: r).toArray⟩ < 1)) = false := by
      simp; omega
    rw [q]
    rw [if_neg (by decide)]
    split
    · rename_i e
      rw [plc_nil (List.isEmpty_iff.mp e)]
      rfl
    · have p := parts_go c (x :: r) (x :: r) [] [] rfl
      rw [← p]
      unfold Builtin.Str.partsBetween
      simp only [List.length_nil, Nat.zero_add, hl]
      rw [List.map_map]
      apply List.map_congr_left
      intro y _
      show Builtin.Str.strSub _ _ _ = _
      unfold Builtin.Str.strSub
      simp [List.extract_toArray, List.extract_eq_drop_take, List.drop_take]
def dSplit : D → D → R RV
  | .str a, .str b => (match b.cps.toList with
    | [c] => if c < 256 ∧ a.length + 2 ≤ SZ then .ok (.ol ((splitGo c [] a.cps.toList).map fun l => .str ⟨l.toArray⟩)) else .stuck
    | _ => .stuck)
  | _, _ => .stuck
theorem dp_strsA {K : PySem.W.Frag} {mg : Mg} {G : Hp} : ∀ {ls : List (List Nat)}, (∀ l ∈ ls, ∀ x ∈ l, x < 0x110000) → DpAll K mg G ((ls.map fun l => (⟨l.toArray⟩ : Str)).map V.str) (ls.map fun l => .str ⟨l.toArray⟩)
  | [], _ => .nil
  | l :: ls, h => .cons (.str _ (by simpa using h l List.mem_cons_self)) (dp_strsA fun l hl => h l (List.mem_cons_of_mem _ hl))
section
variable {X : Cx} {H0 : Hp} {W : WX}
theorem ed_split {o e : Expr} {fo fe : DE → R RV} {apos pos : Pos} (ho : Ed X H0 W o fo) (he : Ed X H0 W e fe) (hs : starEach [e] X.env = [(false, eval e X.env)] := by rfl) (hbase : attributeBase o "split" X.env (eval o X.env) = eval o X.env := by rfl) (hline : (apos.endLine == pos.line) = true := by rfl) :
    Ed X H0 W (.Call (.Attribute o "split" apos) [e] [] pos) (fM1 isStrD dSplit fo fe) := by
  refine PE.imp (pe_split ho he hs hbase hline) fun σ H Q h => ?_
  refine m1_core (C := fun x _ => ∃ a, x = .str a) (r := fun x y H Q => (fun x xs H Q => ∃ a b, x = V.str a ∧ xs = [V.str b] ∧ (b.length == 0) = false ∧ a.length + 2 ≤ sizeLine ∧ rNewStrs (Txt.split a b) H Q) x [y] H Q) h (fun v d H1 G1 s p c => ?_) fun v u d e H1 G1 s p q c h2 => ?_
  · obtain ⟨a, e1, _⟩ := str_of_chk p c
    exact ⟨a, e1⟩
  · obtain ⟨a, rfl, rfl, ha⟩ := str_of_chk p c
    cases q with
    | str b hb =>
      simp only [dSplit] at h2
      split at h2
      · rename_i cc ec
        split at h2
        · rename_i hc
          have eb : b = ⟨#[cc]⟩ := by
            cases b with
            | mk arr => congr 1; rw [← Array.toArray_toList (xs := arr)]; simp at ec; rw [ec]
          have ea : a = ⟨a.cps.toList.toArray⟩ := by simp
          refine ⟨a, b, rfl, rfl, by rw [eb]; rfl, sz_le hc.2, fun p hp => ?_⟩
          have es : Txt.split a b = (splitGo cc [] a.cps.toList).map fun x => ⟨x.toArray⟩ := by
            rw [eb]
            conv => lhs; rw [ea]
            exact split_eq cc hc.1 _
          rw [es]
          refine new_own s hp (dp_strsA fun l hl x hx => splitGo_mem cc (· < 0x110000) _ [] (fun x hx => nomatch hx) (fun x hx => ?_) l hl x hx) h2
          have := Array.all_eq_true_iff_forall_mem.mp ha x (by simpa using hx)
          simpa using this
        · exact h2.elim
      · exact h2.elim
    | _ => exact h2.elim
/-! ### t.index(text), t a tuple of texts -/
def isTupD : D → Bool
  | .tup _ => true
  | _ => false
def dTIdx : D → D → R RV
  | .tup ds, .str z => (match strsOf ds with
    | some ys => if z ∈ ys then okd (.int (ys.idxOf z : Nat)) else .stuck
    | none => .stuck)
  | _, _ => .stuck
/-- a constant of the module that is a tuple without a dict -/
structure GlT (K : PySem.W.Frag) (mg : Str → Option Value) (x : Str) : Prop where
  ex : ∃ a o, mg x = some (.ref a) ∧ K.lookup a = some o ∧ o.cls = .type "tuple" ∧ o.dict = none
def gltB (K : PySem.W.Frag) (x : Str) : Bool := match PySem.W.nsIn K mainGlobals x with
  | some (some (.ref a)) => (match K.lookup a with
    | some ⟨.type c, none, _, _⟩ => decide (c = "tuple")
    | _ => false)
  | _ => false
theorem gltB_ok {K : PySem.W.Frag} {h : Heap} {mg : Str → Option Value} {x : Str} (X : K.In h) (Gm : h.Ns mainGlobals mg) (c : gltB K x = true) : GlT K mg x := by
  unfold gltB at c
  split at c
  · rename_i a q
    split at c
    · rename_i t d s q2
      exact ⟨a, _, PySem.W.mg_of X Gm q, q2, congrArg Value.type (of_decide_eq_true c), rfl⟩
    · cases c
  · cases c
theorem idx_no {l : List Str} {b : Str} : ∀ {m : Nat}, m < l.idxOf b → l[m]? ≠ some b := by
  induction l with
  | nil => intro m h; simp
  | cons x l ih =>
    intro m h
    rw [List.idxOf_cons] at h
    by_cases e : x = b
    · rw [e] at h; simp at h
    · have e' : (x == b) = false := by simpa using e
      rw [e'] at h
      cases m with
      | zero => simpa using e
      | succ m => simpa using ih (m := m) (by simpa using h)
theorem ed_tidx {x : Str} {c : D} {e : Expr} {fe : DE → R RV} {xp apos pos : Pos} (g : Glb X.K X.mg x c) (gt : GlT X.K X.mg x) (he : Ed X H0 W e fe) (hg : Gl X x := by rfl) (hd : (x == ("__debug__" : Str)) = false := by decide) (hbase : attributeBase (.Name x xp) "index" X.env (eval (.Name x xp) X.env) = eval (.Name x xp) X.env := by rfl)
    (hs : starEach [e] X.env = (false, eval e X.env) :: starEach [] X.env := by rfl) (hline : (apos.endLine == pos.line) = true := by rfl)
    (hfew : ((((backTo pos (starEach [e] X.env)).all fun x => !x.1) && (backToKw pos (keywordEach [] X.env)).all fun x => x.1.isSome) && decide (([e].length + ([] : List Keyword).length + if ([] : List Keyword).isEmpty = true then 0 else 1) < 30)) = true := by rfl) :
    Ed X H0 W (.Call (.Attribute (.Name x xp) "index" apos) [e] [] pos) (fM1 isTupD dTIdx (cst c) fe) := by
  obtain ⟨u, v, hm, r, p⟩ := g.ex
  obtain ⟨a, o, hm2, hk, hcl, hdn⟩ := gt.ex
  cases hm.symm.trans hm2
  refine PE.imp (pe_bm PySem.F.plainAttrs_tuple PySem.F.slot_tuple_index PySem.F.type_tuple_index mt_tup_index (pe_glob hg hm r hd) (pa_cons he pa_nil hs) (hs := hs) (hline := hline) (hfew := hfew) (hbase := hbase)) fun σ H Q h => ?_
  obtain ⟨G, δ, s, sl, h⟩ := h
  have h' : post X.K X.M H G (fun c d H' => W c d σ H') Q (if isTupD c = true then fe δ >>= fun y => dTIdx c y.d else .stuck) := h
  cases c with
  | tup ds =>
    have pG := p X.M G
    cases pG with
    | tup r0 q0 =>
      cases r
      refine ⟨.inr (.inl ⟨rfl, o, hk, hcl, hdn⟩), G, δ, s, sl, ?_⟩
      refine post_bind (f := fun y => dTIdx (.tup ds) y) h' fun y d H1 G1 g1 p1 h1 => ?_
      cases p1 with
      | str b hb =>
        simp only [dTIdx] at h1
        split at h1
        · rename_i ys ey
          split at h1
          · rename_i hz
            obtain ⟨e1, e2⟩ := dp_strs q0 ey
            subst e1
            refine ⟨_, ys, b, ys.idxOf b, rfl, rfl, same_t g1.gh (same_t g1.gg r0), ?_, fun m hm => idx_no hm, h1 _ H1 G1 (.refl g1.gh) (.int _)⟩
            rw [List.getElem?_eq_getElem (List.idxOf_lt_length_of_mem hz), List.getElem_idxOf]
          · exact h1.elim
        · exact h1.elim
      | _ => exact h1.elim
  | _ => exact h'.elim
end
end DL


set_option maxRecDepth 100000
set_option maxHeartbeats 4000000
namespace DL
open PySem PySem.Spec PyProof.Rows L2
/-! ### xs[k] = v, xs an own list -/
def setAtD (i : Nat) (ds : List D) (r : D) (δ : DE) : D → SR
  | .int k => (match ixN ds.length k with
    | some j => .nx (δ.set i (some (.ol (ds.set j r))))
    | none => .stuck)
  | _ => .stuck
def sPutL (i : Nat) (fk fv : DE → R RV) (δ : DE) : SR := lift (fv δ) δ fun r => match δ[i]? with
  | some (some (.ol ds)) => lift (fk δ) δ fun y => setAtD i ds r.d δ y.d
  | _ => .stuck
section
variable {X : Cx} {H0 G0 : Hp} {W : WX}
theorem sd_putL {x : Str} {ek value : Expr} {fk fv : DE → R RV} {pos pos' px : Pos} (i : Nat) (hk : Ed X H0 W ek fk) (hv : Ed X H0 W value fv) (hN : X.N[i]? = some x := by rfl) (hvi : Vis X.env.scope x := by first | exact Or.inl rfl | exact Or.inr (Or.inl rfl) | exact Or.inr (Or.inr rfl))
    (hd : (x == ("__debug__" : Str)) = false := by decide) (hcd : (x == ("__classdict__" : Str)) = false := by decide) (hs : swapsWith value (some (.Subscript (.Name x px) ek pos')) pos.line X.env = pure false := by rfl) :
    Sd X H0 G0 W (.Assign [.Subscript (.Name x px) ek pos'] value pos) (sPutL i fk fv) := by
  refine ⟨fun pins s σ H D I h => ?_⟩
  obtain ⟨G, δ, g, sl, h⟩ := h
  have core : tE X.K X.M H0 W fv σ H fun v H1 => tVar i σ H1 fun x H2 => ∃ a, x = .ref a ∧ tE X.K X.M H0 W fk σ H2 fun y H3 => ∃ (G3 : Hp) (ds : List DL.D) (xs : List V) (k : Int) (j : Nat) (dv : DL.D), Gr H0 G0 H3 G3 ∧ Sl X.K X.M H0 H3 G3 σ δ ∧ δ[i]? = some (some (.ol ds)) ∧ σ[i]? = some (some (.ref a)) ∧
      H3 a = some (.lst xs) ∧ G3 a = none ∧ H0 a = none ∧ DpAll X.K X.M G3 xs ds ∧ Dp X.K X.M G3 v dv ∧ y = .int k ∧ ixN ds.length k = some j ∧ postS X.K X.M H0 G0 W G3 D (.nx (δ.set i (some (.ol (ds.set j dv))))) := by
    refine lift_core g sl h fun r v H1 G1 e1 g1 g2 sl1 p1 h1 => ?_
    obtain ⟨G2, g3, s3, p2, _⟩ := RVp.frz g1 p1
    have sl2 := sl.mono g3
    have gg := g.trans g3
    replace h1 := postS.mono s3 h1
    split at h1
    · rename_i ds e
      obtain ⟨u, eu, p⟩ := sl2.at_ i _ e
      obtain ⟨a, _, ea, _⟩ := p
      subst ea
      refine ⟨_, eu, a, rfl, lift_core gg sl2 h1 fun ry y H3 G3 e3 g4 g5 sl3 p3 h3 => ?_⟩
      obtain ⟨G4, g6, s6, p6, _⟩ := RVp.frz g4 p3
      have sl4 := sl2.mono g6
      replace h3 := postS.mono s6 h3
      obtain ⟨u', eu', p'⟩ := sl4.at_ i _ e
      rw [eu] at eu'; cases eu'
      obtain ⟨a', xs, ea', q1, q2, q3, q4⟩ := p'
      cases ea'
      cases hd : ry.d with
      | int k =>
        rw [hd] at h3 p6
        cases p6
        simp only [setAtD] at h3
        cases ek : ixN ds.length k with
        | none => simp only [ek] at h3; exact h3.elim
        | some j =>
          simp only [ek] at h3
          exact ⟨G4, ds, xs, k, j, r.d, gg.trans g6, sl4, e, eu, q1, q2, q3, q4, p2.mono g6.gg, rfl, ek, h3⟩
      | _ => rw [hd] at h3; exact h3.elim
    · exact h1.elim
  refine wpAny_Assign_Subscript (thn (hv.run pins s σ H _ I core) fun r s1 ⟨v, H1, I1, rv, q1⟩ => thn ((pe_var hN hvi hd hcd).run pins s1 σ H1 _ I1 q1) fun u s2 ⟨x, H2, I2, rx, a, ex, q2⟩ => thn (hk.run pins s2 σ H2 _ I2 q2) fun iv s3 ⟨y, H3, I3, ry, G3, ds, xs, k, j, dv, g3, sl3, ei, eσ, h1, h2, h3, h4, pv, ey, ej, hp⟩ => ?_) hs
  subst ex
  subst ey
  obtain rfl : u = Value.ref a := rx
  refine thn (set_list pins s3 σ H3 (.ref a) (.int k) v _ iv r (fun H4 => H4 = upd H3 a (.lst (xs.set j v))) I3 rfl ry rv ⟨a, xs, k, j, rfl, rfl, h1, by rw [h4.len]; exact ej, rfl⟩) fun _ s4 ⟨H4, I4, e4⟩ => ?_
  subst e4
  exact ⟨σ, _, I4, hp σ _ G3 (g3.upd h2 h3) (Same.refl _) (sl3.upd ei eσ (.ol h1 h2 h3 h4) (.ol upd_same h2 h3 (h4.set j pv)))⟩
end
end DL


set_option maxRecDepth 100000
set_option maxHeartbeats 4000000
namespace DL
open PySem PySem.Spec PyProof.Rows L2
/-! ### isinstance(x, C), x a frozen object of the class C -/
structure IsC (K : PySem.W.Frag) (mg : Str → Option Value) (c : Str) : Prop where
  ex : ∃ C, mg c = some (.ref C) ∧ C8.InsC K C
def dIsC (c : Str) : D → R RV
  | .obj c' _ => if c' = c then okd (.bl true) else .stuck
  | _ => .stuck
section
variable {X : Cx} {H0 G0 : Hp} {W : WX}
theorem ed_isC {c : Str} {e : Expr} {f : DE → R RV} {p p2 pos : Pos} (T : IsC X.K X.mg c) (he : Ed X H0 W e f) (hm0 : X.mg "isinstance" = none) (hg0 : Gl X "isinstance" := by rfl) (hg : Gl X c := by rfl) (hd : (c == ("__debug__" : Str)) = false := by decide)
    (he1 : starEach (e :: [.Name c p2]) X.env = (false, eval e X.env) :: starEach [.Name c p2] X.env := by rfl) (hpl : (backTo pos (starEach [.Name c p2] X.env)).any (·.1) = false := by rfl) :
    Ed X H0 W (.Call (.Name "isinstance" p) [e, .Name c p2] [] pos) (fUn (dIsC c) f) := by
  obtain ⟨C, hm, ic⟩ := T.ex
  have hx : PE X (.Name c p2) (tC (.ref C)) := pe_glob hg hm rfl hd
  refine PE.imp (pe_callB (C8.call_isC ic) hg0 hm0 (by decide +kernel) (pa_cons he (pa_cons hx pa_nil) he1) (he := he1) (hpl := hpl)) fun σ H Q h => ?_
  obtain ⟨G, δ, s, sl, h⟩ := h
  refine ⟨G, δ, s, sl, post_bind (f := fun d => dIsC c d) h fun v' d H1 G1 g1 p1 h1 => ?_⟩
  cases p1 with
  | obj hmc hG pf =>
    rename_i a C' dx fs c' df
    simp only [dIsC] at h1
    split at h1
    · rename_i e
      subst e
      cases hmc.symm.trans hm
      exact ⟨a, dx, fs, rfl, g1.gh _ _ hG, h1 _ H1 G1 (.refl g1.gh) (.bl _)⟩
    · exact h1.elim
  | _ => exact h1.elim
end
def isCB (K : PySem.W.Frag) (C : Addr) : Bool :=
  He.eqO (PySem.W.findIn K (.ref C) "__class__") (some (some (.builtin "object.__class__"))) && (He.eqO (PySem.W.specialIn K (.builtin "object.__class__") "__get__") (some (some (.builtin "getset_descriptor.__get__"))) &&
    (decide (PySem.W.takesIn K (.builtin "object.__class__") = some true) && (decide (PySem.W.mroIn K C (.type "object") = some true) && decide (PySem.W.kitOne K (.ref C) (.ref C) = some true))))
theorem isCB_ok {K : PySem.W.Frag} {mg : Str → Option Value} {c : Str} {C : Addr} (hm : mg c = some (.ref C)) (cl : Cls K C) (h : isCB K C = true) : IsC K mg c := by
  obtain ⟨h1, h⟩ := He.ba h
  obtain ⟨h2, h⟩ := He.ba h
  obtain ⟨h3, h⟩ := He.ba h
  obtain ⟨h4, h5⟩ := He.ba h
  exact ⟨C, hm, cl, He.eqO_ok h1, He.eqO_ok h2, of_decide_eq_true h3, of_decide_eq_true h4, of_decide_eq_true h5⟩
/-- a method of a class of the text, by its body -/
theorem calM_of {P : Program} {w : World} {K : PySem.W.Frag} {mg : Str → Option Value} {base : Heap} {k : Nat} {c m : Str} {g : List D → R RV} {C f : Addr} {fd : FuncData} {ps : List Str} (hm : mg c = some (.ref C)) (cl : Cls K C) (me : Meth K C m f) (F : FnOk P w K mg base (L2N.CX P w) k f fd ps (spD K ⟨mg, P, w⟩ g)) (b : Binds K fd ps []) : CalM P w K mg base k c m g :=
  ⟨C, f, fd, ps, hm, cl, me, F, b⟩
end DL


set_option maxRecDepth 100000
set_option maxHeartbeats 4000000
namespace DL
open PySem PySem.Spec PyProof.Rows L2
/-! ### lists of own things: made by a comprehension -/
section
variable {K : PySem.W.Frag} {mg : Mg} {H0 H G : Hp}
theorem rvql_snoc {v : V} {r : RV} {bs : List Addr} (q : RVq K mg H0 H G v r bs) : ∀ {xs : List V} {rs : List RV} {as : List Addr}, RVqL K mg H0 H G xs rs as → (∀ b ∈ as, b ∉ bs) → RVqL K mg H0 H G (xs ++ [v]) (rs ++ [r]) (as ++ bs)
  | _, _, _, .nil, _ => by
    have := RVqL.cons q (.nil : RVqL K mg H0 H G [] [] []) fun _ _ h => nomatch h
    simpa using this
  | _, _, _, .cons (as := a1) (bs := b1) q1 t d, h => by
    rw [List.append_assoc]
    refine .cons q1 (rvql_snoc q t fun b hb => h b (List.mem_append_right _ hb)) fun b hb hb' => ?_
    rcases List.mem_append.mp hb' with z | z
    · exact d b hb z
    · exact h b (List.mem_append_left _ hb) z
theorem rvql_at : ∀ {xs : List V} {rs : List RV} {as : List Addr} {k : Nat} {r : RV}, RVqL K mg H0 H G xs rs as → rs[k]? = some r → ∃ v bs, xs[k]? = some v ∧ RVq K mg H0 H G v r bs ∧ ∀ b ∈ bs, b ∈ as
  | _, _, _, _, _, .nil, e => by simp at e
  | _, _, _, 0, _, .cons q t d, e => by
    simp at e; subst e
    exact ⟨_, _, rfl, q, fun b hb => List.mem_append_left _ hb⟩
  | _, _, _, k + 1, r, .cons q t d, e => by
    obtain ⟨v, bs, e1, q1, m⟩ := rvql_at (k := k) (r := r) t (by simpa using e)
    exact ⟨v, bs, by simpa using e1, q1, fun b hb => List.mem_append_right _ (m b hb)⟩
theorem rvql_len : ∀ {xs : List V} {rs : List RV} {as : List Addr}, RVqL K mg H0 H G xs rs as → xs.length = rs.length
  | _, _, _, .nil => rfl
  | _, _, _, .cons _ t _ => congrArg (· + 1) (rvql_len t)
theorem rvql_set {b : Addr} {ys : List V} {es : List D} (p : DpAll K mg G ys es) : ∀ {xs : List V} {rs : List RV} {as : List Addr} {k : Nat} {ds : List D}, RVqL K mg H0 H G xs rs as → rs[k]? = some (.ol ds) → xs[k]? = some (.ref b) → RVqL K mg H0 (upd H b (.lst ys)) G xs (rs.set k (.ol es)) as
  | _, _, _, _, _, .nil, e, _ => by simp at e
  | _, _, _, 0, ds, .cons q t d, e, ex => by
    simp at e ex; subst e; subst ex
    cases q with
    | ol h1 h2 h3 h4 =>
      refine .cons (.ol upd_same h2 h3 p) (t.keep fun c hc => upd_ne fun z => d b List.mem_cons_self (z ▸ hc)) d
  | _, _, _, k + 1, ds, .cons q t d, e, ex => by
    obtain ⟨v, bs, e1, q1, m⟩ := rvql_at (k := k) (r := .ol ds) t (by simpa using e)
    have ev : v = .ref b := by
      have := ex
      simp at this
      rw [this] at e1
      exact (Option.some.inj e1).symm
    subst ev
    cases q1 with
    | ol h1 h2 h3 h4 =>
      have hb := m b List.mem_cons_self
      refine .cons (q.keep fun c hc => upd_ne fun z => d c hc (z ▸ hb)) (rvql_set p t (by simpa using e) (by simpa using ex)) d
end
def compLO (bd : D → DE → Option DE) (ft : DE → R Bool) (fe : DE → R RV) (δ : DE) : List D → R (List RV)
  | [] => .ok []
  | d :: ds => match bd d δ with
    | none => .stuck
    | some δ1 => match ft δ1 with
      | .ok b => if b = true then (match fe δ1 with
          | .ok r => (match compLO bd ft fe δ ds with
            | .ok es => .ok (r :: es)
            | _ => .stuck)
          | _ => .stuck) else compLO bd ft fe δ ds
      | _ => .stuck
def fLcO (fi : DE → R (List D)) (vs : List Nat) (bd : D → DE → Option DE) (ft : DE → R Bool) (fe : DE → R RV) (δ : DE) : R RV := fi δ >>= fun ds => match compLO bd ft fe (fgtS vs δ) ds with
  | .ok es => if es.length ≤ SZ then .ok (.ot es) else .stuck
  | _ => .stuck
section
variable {H0 : Hp} {W : WX}
theorem lc_readO {K : PySem.W.Frag} {mg : Mg} {fi : DE → R (List D)} {vs : List Nat} {bd : D → DE → Option DE} {ft : DE → R Bool} {fe : DE → R RV} {g : TG} (bg : BG K mg g bd vs) (σ : L2.St) (H : Hp) (Q : VK) (h : tE K mg H0 W (fLcO fi vs bd ft fe) σ H Q) :
    tLc (tI K mg H0 W fi) g (tB K mg H0 (fun _ _ _ _ => False) ft) (tE K mg H0 (fun _ _ _ _ => False) fe) vs σ H Q := by
  obtain ⟨G, δ, s, sl, h⟩ := h
  refine ⟨G, δ, s, sl, ?_⟩
  unfold fLcO at h
  cases hf : fi δ with
  | ex c fs => rw [hf, bind_ex] at h; exact h
  | stuck => rw [hf, bind_stuck] at h; exact h
  | ok ds =>
    rw [hf, bind_ok] at h
    cases hc : compLO bd ft fe (fgtS vs δ) ds with
    | ex c fs => rw [hc] at h; exact h.elim
    | stuck => rw [hc] at h; exact h.elim
    | ok es0 =>
      rw [hc] at h
      simp only at h
      rcases Nat.lt_or_ge SZ es0.length with hz | hz
      · rw [if_neg (by omega)] at h; exact h.elim
      rw [if_pos hz] at h
      intro J H1 G1 g1 it Dn hDn
      refine ⟨fun i m H' => m = ds.length - i ∧ i ≤ ds.length ∧ ∃ G' acc es rs as, Gr H G H' G' ∧ Same G1 G' ∧ H' Dn = some (.lst acc) ∧ G' Dn = none ∧ RVqL K mg H H' G' acc es as ∧ Dn ∉ as ∧ compLO bd ft fe (fgtS vs δ) (ds.drop i) = .ok rs ∧ es ++ rs = es0, ?_, ?_⟩
      · refine ⟨_, rfl, Nat.zero_le _, G1, [], [], es0, [], g1.trans (.mut g1.gh hDn), Same.refl _, upd_same, ?_, .nil, (fun z => nomatch z), hc, rfl⟩
        cases e : G1 Dn with
        | none => rfl
        | some o => have := g1.gh _ _ e; rw [hDn] at this; cases this
      · rintro i m H' ⟨rfl, hi, G', acc, es, rs, as, g', s', hD, hG, pa, nD, hr, he⟩
        obtain ⟨it1, it2⟩ := it G' H' s' g'.gh
        rcases Nat.lt_or_ge i ds.length with hlt | hge
        · right
          obtain ⟨d, ed⟩ : ∃ d, ds[i]? = some d := ⟨ds[i], List.getElem?_eq_getElem hlt⟩
          obtain ⟨go, yl⟩ := it1 i d ed
          have edr : ds.drop i = d :: ds.drop (i + 1) := by
            rw [List.drop_eq_getElem_cons hlt]
            rw [List.getElem?_eq_getElem hlt] at ed
            cases ed
            rfl
          rw [edr] at hr
          unfold compLO at hr
          cases eb : bd d (fgtS vs δ) with
          | none => simp only [eb] at hr; cases hr
          | some δ1 =>
            simp only [eb] at hr
            refine ⟨go, fun H2 => ∃ G2 acc2 es2 rs2 as2, Gr H G H2 G2 ∧ Same G1 G2 ∧ H2 Dn = some (.lst acc2) ∧ G2 Dn = none ∧ RVqL K mg H H2 G2 acc2 es2 as2 ∧ Dn ∉ as2 ∧ compLO bd ft fe (fgtS vs δ) (ds.drop (i + 1)) = .ok rs2 ∧ es2 ++ rs2 = es0, fun H2 ⟨G2, acc2, es2, rs2, as2, a⟩ => ⟨_, by omega, rfl, hlt, G2, acc2, es2, rs2, as2, a⟩, fun x H2 y => ?_⟩
            obtain ⟨G2, g2, p2⟩ := yl x H2 y
            have k1 : ∀ {Hx Gx : Hp}, Gr H' G' Hx Gx → Hx Dn = some (.lst acc) ∧ Gx Dn = none := fun {Hx Gx} gx => ⟨gx.hh _ _ hD, (gx.old Dn (by rw [hD]; exact fun z => nomatch z)).trans hG⟩
            refine bg.go H0 H2 G2 x d _ _ δ1 _ g2.gh (((sl.mono g').mono g2).wiped vs) p2 eb fun σ2 sl2 w2 => ⟨by rw [w2, wipe_wipe], ?_⟩
            cases et : ft δ1 with
            | ex c fs => simp only [et] at hr; cases hr
            | stuck => simp only [et] at hr; cases hr
            | ok b =>
              simp only [et] at hr
              refine ⟨G2, δ1, g2.gh, sl2, ?_⟩
              rw [et]
              intro H3 G3 g3
              by_cases hb : b = true
              · rw [if_pos hb] at hr ⊢
                cases ee : fe δ1 with
                | ex c fs => simp only [ee] at hr; cases hr
                | stuck => simp only [ee] at hr; cases hr
                | ok r =>
                  simp only [ee] at hr
                  cases er : compLO bd ft fe (fgtS vs δ) (ds.drop (i + 1)) with
                  | ex c fs => simp only [er] at hr; cases hr
                  | stuck => simp only [er] at hr; cases hr
                  | ok rs2 =>
                    simp only [er] at hr
                    cases hr
                    refine ⟨G3, δ1, g3.gh, sl2.mono g3, ?_⟩
                    rw [ee]
                    intro v H4 G4 g4 p4
                    obtain ⟨bs, q4⟩ := p4.q
                    have gb : Gr H' G' H3 G3 := g2.trans g3
                    have gx : Gr H' G' H4 G4 := gb.trans g4
                    obtain ⟨q1, q2⟩ := k1 gx
                    have q5 : RVq K mg H H4 G4 v r bs := q4.back (g'.hh.trans gb.hh)
                    have fr : ∀ b ∈ bs, H' b = none := fun b hb' => by
                      obtain ⟨_, _, z⟩ := q4.ow b hb'
                      exact gb.hh.free z
                    have dis : ∀ b ∈ as, b ∉ bs := fun b ha hb' => by
                      obtain ⟨⟨u, hu, _⟩, _, _⟩ := pa.ow b ha
                      rw [fr b hb'] at hu; cases hu
                    have nD2 : Dn ∉ as ++ bs := fun z => by
                      rcases List.mem_append.mp z with z | z
                      · exact nD z
                      · have := fr _ z; rw [hD] at this; cases this
                    have pl := rvql_snoc q5 (pa.mono gx) dis
                    refine ⟨acc, q1, ?_, G4, acc ++ [v], es ++ [r], rs2, as ++ bs, (g'.trans gx).upd q2 (g1.hh.free hDn), s'.trans gx.gg, upd_same, q2, pl.keep (fun b hb' => upd_ne fun z => nD2 (z ▸ hb')), nD2, rfl, by rw [List.append_assoc]; exact he⟩
                    rw [rvql_len pa]
                    refine Nat.lt_of_lt_of_le ?_ (sz_le hz)
                    rw [← he, List.length_append, List.length_cons]
                    omega
              · rw [if_neg hb] at hr ⊢
                have gx : Gr H' G' H3 G3 := g2.trans g3
                obtain ⟨q1, q2⟩ := k1 gx
                exact ⟨G3, acc, es, rs, as, g'.trans gx, s'.trans gx.gg, q1, q2, pa.mono gx, nD, hr, he⟩
        · left
          have e : i = ds.length := by omega
          subst e
          rw [List.drop_length] at hr
          cases hr
          rw [List.append_nil] at he
          subst he
          exact ⟨it2, h _ H' G' g' ⟨Dn :: as, .tr hD hG (g1.hh.free hDn) pa nD⟩⟩
end
section
variable {X : Cx} {H0 G0 : Hp} {W : WX}
theorem sd_setLcO (i : Nat) {y : Str} {py : Pos} {elt tg iter : Expr} {ifs : List Expr} {scope : Scope} {own : List (Str × Nat)} {pos spos : Pos} {fi : DE → R (List D)} {bd : D → DE → Option DE} {ft : DE → R Bool} {fe : DE → R RV} {g : TG} (hc : X.calm = true) (hN : X.N.Nodup) (hi : Id_ X H0 W tg iter fi) (ok : BlkOk X.N X.env.scope scope own) (bg : BG X.K X.M g bd (own.map (·.2)))
    (hg : ∀ (s : Shared) (H : Hp) (C : Addr) (cl : List (Str × Addr)) (fp : List Addr), PG (Blk X scope s H C cl fp) tg g) (ht : ∀ (s : Shared) (H : Hp) (C : Addr) (cl : List (Str × Addr)) (fp : List Addr), PTs (Blk X scope s H C cl fp) ifs (tB X.K X.M H0 W0 ft))
    (he : ∀ (s : Shared) (H : Hp) (C : Addr) (cl : List (Str × Addr)) (fp : List Addr), Ed (Blk X scope s H C cl fp) H0 W0 elt fe) (hy : X.N[i]? = some y := by rfl) (hyl : X.env.scope.names.lookup y = some .local := by rfl)
    (hsw : swapsWith (.ListComp elt [⟨tg, iter, ifs, 0⟩] scope pos) (some (.Name y py)) spos.line X.env = pure true := by exact sw_true rfl rfl rfl (by decide +kernel)) (hs : ∀ x, foldedSetIterable iter X.env x = pure x := by intro _; rfl) :
    Sd X H0 G0 W (.Assign [.Name y py] (.ListComp elt [⟨tg, iter, ifs, 0⟩] scope pos) spos) (sSet i (fLcO fi (own.map (·.2)) bd ft fe)) := by
  refine PS.imp (ps_setLc (te := tE X.K X.M H0 W0 fe) hc hN hy hyl hsw hi ok hg ht he hs) fun D σ H h => ?_
  obtain ⟨G, δ, gr, sl, h⟩ := h
  refine lc_readO bg σ H _ (lift_core gr sl h fun r v H1 G1 e1 g1 g2 sl1 p1 h1 => ?_)
  exact h1 _ H1 G1 g2 (Same.refl _) (Sl.set gr.hh sl g1 p1)
end
end DL


set_option maxRecDepth 100000
set_option maxHeartbeats 4000000
namespace DL
open PySem PySem.Spec PyProof.Rows L2
/-! ### a name for a list within an own list -/
def AlP (σ : L2.St) (H : Hp) (i p kk : Nat) : Prop := ∃ a xs b, σ[i]? = some (some (.ref a)) ∧ H a = some (.lst xs) ∧ xs[kk]? = some (.ref b) ∧ σ[p]? = some (some (.ref b))
theorem AlP.grow {σ : L2.St} {H H' : Hp} {i p kk : Nat} (s : Same H H') (h : AlP σ H i p kk) : AlP σ H' i p kk := by
  obtain ⟨a, xs, b, h1, h2, h3, h4⟩ := h
  exact ⟨a, xs, b, h1, s _ _ h2, h3, h4⟩
def nxA (D : Ends) (i p kk : Nat) : Ends := { D with nx := fun σ H => AlP σ H i p kk → D.nx σ H }
section
variable {X : Cx} {H0 G0 : Hp} {W : WX}
def tSA (K : PySem.W.Frag) (mg : Mg) (H0 G0 : Hp) (W : WX) (i p : Nat) (F : Nat → DE → SR) : TS := fun D σ H => ∃ G δ kk, Gr H0 G0 H G ∧ Sl K mg H0 H G σ δ ∧ AlP σ H i p kk ∧ postS K mg H0 G0 W G (nxA D i p kk) (F kk δ)
theorem sa_nil {i p : Nat} : PSs X [] (tSA X.K X.M H0 G0 W i p fun _ => sNil) := PSs.imp pss_nil fun D σ H h => by
  obtain ⟨G, δ, kk, g, sl, al, h⟩ := h
  exact h σ H G g (Same.refl _) sl al
theorem sa_cons {i p : Nat} {st : Stmt} {rest : List Stmt} {F1 F2 : Nat → DE → SR} (h1 : PS X st (tSA X.K X.M H0 G0 W i p F1)) (h2 : PSs X rest (tSA X.K X.M H0 G0 W i p F2)) : PSs X (st :: rest) (tSA X.K X.M H0 G0 W i p fun kk => sSeq (F1 kk) (F2 kk)) := by
  refine PSs.imp (pss_cons h1 h2) fun D σ H h => ?_
  obtain ⟨G, δ, kk, g, sl, al, h⟩ := h
  refine ⟨G, δ, kk, g, sl, al, ?_⟩
  replace h : postS X.K X.M H0 G0 W G (nxA D i p kk) ((F1 kk δ).seq (F2 kk)) := h
  cases e : F1 kk δ with
  | nx δ' =>
    rw [e] at h
    exact fun σ' H' G' g' s' sl' al' => ⟨G', δ', kk, g', sl', al', postS.mono s' h⟩
  | br δ' => rw [e] at h; exact h
  | ct δ' => rw [e] at h; exact h
  | rt r => rw [e] at h; exact h
  | ex c fs δ' => rw [e] at h; exact h
  | stuck => rw [e] at h; exact h
/-- part[c] = v -/
def putA (i kk : Nat) (c : Nat) (r : D) (δ : DE) : SR := match δ[i]? with
  | some (some (.ot rs)) => (match rs[kk]? with
    | some (.ol ds) => if c < ds.length then .nx (δ.set i (some (.ot (rs.set kk (.ol (ds.set c r)))))) else .stuck
    | _ => .stuck)
  | _ => .stuck
def sPutA (i : Nat) (c : Nat) (fv : DE → R RV) (kk : Nat) (δ : DE) : SR := lift (fv δ) δ fun r => putA i kk c r.d δ
theorem sa_put {x : Str} {value : Expr} {fv : DE → R RV} {c : Nat} {j : String} {pos pos' px pc : Pos} {kc} (i p : Nat) (hv : Ed X H0 W value fv) (hN : X.N[p]? = some x := by rfl) (hvi : Vis X.env.scope x := by first | exact Or.inl rfl | exact Or.inr (Or.inl rfl) | exact Or.inr (Or.inr rfl))
    (hd : (x == ("__debug__" : Str)) = false := by decide) (hcd : (x == ("__classdict__" : Str)) = false := by decide) (hs : swapsWith value (some (.Subscript (.Name x px) (.Constant (.int (c : Int)) kc pc) pos')) pos.line X.env = pure false := by rfl) :
    PS X (.Assign [.Subscript (.Name x px) (.Constant (.int (c : Int)) kc pc) pos'] value pos) (tSA X.K X.M H0 G0 W i p (sPutA i c fv)) := by
  refine ⟨fun pins s σ H D I h => ?_⟩
  obtain ⟨G, δ, kk, g, sl, al, h⟩ := h
  have core : tE X.K X.M H0 W fv σ H fun v H1 => tVar p σ H1 fun x H2 => ∃ (b a : Addr) (G3 : Hp) (rs : List RV) (xs : List V) (ds : List DL.D) (ys : List V) (as : List Addr) (dv : DL.D), x = .ref b ∧ Gr H0 G0 H2 G3 ∧ Sl X.K X.M H0 H2 G3 σ δ ∧ δ[i]? = some (some (.ot rs)) ∧ σ[i]? = some (some (.ref a)) ∧ σ[p]? = some (some (.ref b)) ∧
      H2 a = some (.lst xs) ∧ G3 a = none ∧ H0 a = none ∧ RVqL X.K X.M H0 H2 G3 xs rs as ∧ a ∉ as ∧ b ∈ as ∧ rs[kk]? = some (.ol ds) ∧ xs[kk]? = some (.ref b) ∧ H2 b = some (.lst ys) ∧ G3 b = none ∧ H0 b = none ∧ DpAll X.K X.M G3 ys ds ∧ Dp X.K X.M G3 v dv ∧ c < ds.length ∧ postS X.K X.M H0 G0 W G3 (nxA D i p kk) (.nx (δ.set i (some (.ot (rs.set kk (.ol (ds.set c dv))))))) := by
    refine lift_core g sl h fun r v H1 G1 e1 g1 g2 sl1 p1 h1 => ?_
    obtain ⟨G2, g3, s3, p2, _⟩ := RVp.frz g1 p1
    have sl2 := sl.mono g3
    have gg := g.trans g3
    replace h1 := postS.mono s3 h1
    unfold putA at h1
    split at h1
    · rename_i rs e
      obtain ⟨u, eu, pu⟩ := sl2.at_ i _ e
      obtain ⟨as0, q⟩ := pu
      cases q with
      | tr k1 k2 k3 k4 k5 =>
        rename_i a xs as
        obtain ⟨a', xs', b, l1, l2, l3, l4⟩ := al.grow g3.hh
        rw [eu] at l1; cases l1
        rw [k1] at l2; cases l2
        split at h1
        · rename_i ds er
          split at h1
          · rename_i hc
            obtain ⟨w, bs, ew, qw, mw⟩ := rvql_at k4 er
            rw [l3] at ew; cases ew
            cases qw with
            | ol w1 w2 w3 w4 =>
              exact ⟨_, l4, b, a, G2, rs, xs, ds, _, as, r.d, rfl, gg, sl2, e, eu, l4, k1, k2, k3, k4, k5, mw b List.mem_cons_self, er, l3, w1, w2, w3, w4, p2, hc, h1⟩
          · exact h1.elim
        · exact h1.elim
    · exact h1.elim
  refine wpAny_Assign_Subscript (thn (hv.run pins s σ H _ I core) fun r s1 ⟨v, H1, I1, rv, q1⟩ => thn ((pe_var hN hvi hd hcd).run pins s1 σ H1 _ I1 q1) fun u s2 ⟨y, H2, I2, rx, b, a, G3, rs, xs, ds, ys, as, dv, ey, g3, sl3, ei, eσ, eσp, h1, h2, h3, h4, h5, hb, er, ex, w1, w2, w3, w4, pv, hc, hp⟩ => thn (pe_int.run (Q := fun v H => v = .int (c : Int) ∧ H = H2) pins s2 σ H2 I2 ⟨rfl, rfl⟩) fun iv s3 ⟨z, H3, I3, ry, ez, eH⟩ => ?_) hs
  subst ey
  subst ez
  subst eH
  obtain rfl : u = Value.ref b := rx
  have hix : ixN ys.length (c : Int) = some c := by
    unfold ixN
    rw [w4.len, if_pos (by omega), if_pos (by omega)]
    rfl
  refine thn (set_list pins s3 σ H3 (.ref b) (.int (c : Int)) v _ iv r (fun H4 => H4 = upd H3 b (.lst (ys.set c v))) I3 rfl ry rv ⟨b, ys, c, c, rfl, rfl, w1, hix, rfl⟩) fun _ s4 ⟨H4, I4, e4⟩ => ?_
  subst e4
  have nab : a ≠ b := fun z => h5 (z ▸ hb)
  have q0 : RVq X.K X.M H0 H3 G3 (.ref a) (.ot rs) (a :: as) := .tr h1 h2 h3 h4 h5
  have h1' : upd H3 b (.lst (ys.set c v)) a = some (.lst xs) := by rw [upd_ne nab]; exact h1
  have q1 : RVq X.K X.M H0 (upd H3 b (.lst (ys.set c v))) G3 (.ref a) (.ot (rs.set kk (.ol (ds.set c dv)))) (a :: as) := .tr h1' h2 h3 (rvql_set (w4.set c pv) h4 er ex) h5
  refine ⟨σ, _, I4, hp σ _ G3 (g3.upd w2 w3) (Same.refl _) (sl3.chg ei eσ q0 q1 (fun d _ hd => upd_ne fun z => hd (z ▸ List.mem_cons_of_mem _ hb)) fun d hd => .inl hd) ⟨a, xs, b, eσ, h1', ex, eσp⟩⟩
end
end DL


set_option maxRecDepth 100000
set_option maxHeartbeats 4000000
namespace DL
open PySem PySem.Spec PyProof.Rows L2
/-! ### a class called by keywords, or with its default -/
section
variable {X : Cx} {H0 G0 : Hp} {W : WX}
theorem run_makeG {CX : CXT} {k : Nat} {f C : Addr} {fd : FuncData} {ps : List Str} {sp : Sp} {E : L2.St → XK} {pins : List (Addr × Obj)} {σ : L2.St} {H : Hp} {s : Shared} {Q : VK} {us us' : List Value} {kw : List (Str × Value)} {vs : List V} (M : Mk X.K C f) (F : FnOk X.prog X.w X.K X.mg X.base CX k f fd ps sp) (hr : Room (k + 1) X.A)
    (hb : ∀ (s : Shared) (x : Addr), X.K.In s.heap → (Value.ref x :: us').length = ps.length → BindsTo s fd ⟨Value.ref x :: us, kw⟩ (ps.zip (Value.ref x :: us')))
    (hx : PassesAt CX X σ (E σ)) (I : Inv X pins σ H s) (r : Vals vs us')
    (h : ∀ x dx, H x = none → H dx = none → dx ≠ x → sp (.ref x :: vs) (upd (upd H dx (.own x)) x (.ins C dx [])) (fun v H2 => v = .non ∧ Q (.ref x) H2) (E σ)) :
    wpAny (model X.prog X.w) X.A (call (.ref C) us kw) (EP X pins σ Q) X.xe s := by
  have hq := h (s.heap.objs.size + 1) s.heap.objs.size (I.hok.fresh (Nat.le_succ _)) (I.hok.fresh (Nat.le_refl _)) (Nat.ne_of_lt (Nat.lt_succ_self _))
  have I2 := Inv.made (C := C) I
  have r2 : Vals (V.ref (s.heap.objs.size + 1) :: vs) (Value.ref (s.heap.objs.size + 1) :: us') := .cons rfl r
  have hl : (Value.ref (s.heap.objs.size + 1) :: us').length = ps.length := by
    have e := r2.length
    rw [F.len _ _ _ _ hq] at e
    exact e.symm
  have hb2 := hb _ (s.heap.objs.size + 1) I2.kIn hl
  refine wpAny_call (make_map (f := f) I.kIn M.makes M.init (beq_iff_eq.mp M.fn) (codeAny_mono (F.run _ X.stack _ _ ⟨Value.ref (s.heap.objs.size + 1) :: us, kw⟩ (Value.ref (s.heap.objs.size + 1) :: us') _ _ (E σ) (hr.make C us kw)
    (I2.env0.make C us kw) hb2 r2 hq) fun r s' hq' => ?_))
  cases r with
  | error e => exact hx pins _ _ e s' I2 hq'
  | ok fl =>
    cases fl with
    | ret u =>
      obtain ⟨v, H', I3, rv, ev, q3⟩ := I2.after hq'
      subst ev
      exact ⟨rv, ⟨V.ref (s.heap.objs.size + 1), H', I3, rfl, q3⟩⟩
    | next => exact False.elim hq'
    | brk => exact False.elim hq'
    | cont => exact False.elim hq'
end
/-- .. with the defaults dds -/
structure MakDd (P : Program) (w : World) (K : PySem.W.Frag) (mg : Str → Option Value) (base : Heap) (k : Nat) (c : Str) (dds : List D) (g : List D → R RV) : Prop where
  ex : ∃ (C f : Addr) (fd : FuncData) (ps : List Str) (dvs : List V) (dss : List Value), Mk K C f ∧ mg c = some (.ref C) ∧ FnOk P w K mg base (L2N.CX P w) k f fd ps (spI K ⟨mg, P, w⟩ c g) ∧ Binds K fd ps dss ∧ Vals dvs dss ∧ ∀ M G, DpAll K M G dvs dds
/-- .. the last ones by the keywords ks -/
structure MakDk (P : Program) (w : World) (K : PySem.W.Frag) (mg : Str → Option Value) (base : Heap) (k : Nat) (c : Str) (n : Nat) (ks : List Str) (g : List D → R RV) : Prop where
  ex : ∃ (C f : Addr) (fd : FuncData) (ps : List Str), Mk K C f ∧ mg c = some (.ref C) ∧ FnOk P w K mg base (L2N.CX P w) k f fd ps (spI K ⟨mg, P, w⟩ c g) ∧ (∀ (s : Shared) (us ws : List Value), K.In s.heap → us.length = n + 1 → ws.length = ks.length → BindsTo s fd ⟨us, ks.zip ws⟩ (ps.zip (us ++ ws)))
section
variable {X : Cx} {H0 G0 : Hp} {W : WX}
theorem ed_makeD {k j : Nat} {A0 : Around} {x : Str} {dds : List D} {g : List D → R RV} {fa : DE → R (List D)} {p pos : Pos} {e : Expr} {es : List Expr} (c : MakDd X.prog X.w X.K X.mg X.base k x dds g) (hr : Room j A0) (hk : k + 1 ≤ j) (tk : L2N.Takes X W) (ha : Ad X H0 W (e :: es) fa) (hA : X.A = A0 := by rfl) (hg : Gl X x := by rfl)
    (hdb : (x == ("__debug__" : Str)) = false := by decide) (he : starEach (e :: es) X.env = (false, eval e X.env) :: starEach es X.env := by rfl) (hpl : (backTo pos (starEach es X.env)).any (·.1) = false := by rfl) :
    Ed X H0 W (.Call (.Name x p) (e :: es) [] pos) (fCall (fun ds => g (ds ++ dds)) fa) := by
  obtain ⟨C, f, fd, ps, dvs, dss, M, hm, F, hb, rd, pd⟩ := c.ex
  subst hA
  refine ⟨fun pins s σ H Q I h => ?_⟩
  refine wpAny_Call_Name_kw (ld_glob I hg hm ?_ hdb)
  have core := call_core (r := fun vs H1 (Q : VK) => ∃ (G : Hp) (ds : List D), Same G H1 ∧ DpAll X.K X.M G vs ds ∧ post X.K X.M H1 G (fun c d H' => W c d σ H') Q (g (ds ++ dds))) σ H Q h fun vs H1 G1 ds s p h => ⟨G1, ds, s, p, h⟩
  refine PySem.W.callWith_K (h₀ := X.base) I.ok.mod.kin M.kp (thn (ha.run pos pins s σ H _ I core) fun us s1 ⟨vs, H1, I1, r, G, ds, sg, pa, q⟩ => ⟨I1.kIn, ?_⟩) he hpl
  refine run_makeG (E := fun σ => WE W σ) (us' := us ++ dss) (vs := vs ++ dvs) M F (hr.mono hk) (fun s x kin hl => hb s (Value.ref x :: us) kin hl) (L2N.passAt tk σ) I1 (r.append rd) fun y dx hy hdx hne => ⟨y, C, dx, vs ++ dvs, H1, G, ds ++ dds, rfl, hm, hy, hdx, hne, rfl, sg, pa.append (pd _ _), ?_⟩
  cases hgd : g (ds ++ dds) with
  | ok r => rw [hgd] at q; exact fun H2 G2 g2 p2 => ⟨rfl, q _ H2 G2 g2 p2⟩
  | ex c fs => rw [hgd] at q; exact q
  | stuck => rw [hgd] at q; exact q
theorem ed_makeK {k j n : Nat} {A0 : Around} {x : Str} {ks : List Str} {g : List D → R RV} {fa fk : DE → R (List D)} {p pos : Pos} {e : Expr} {es : List Expr} {kws : List Keyword} (c : MakDk X.prog X.w X.K X.mg X.base k x n ks g) (hr : Room j A0) (hk : k + 1 ≤ j) (tk : L2N.Takes X W) (ha : Ad X H0 W (e :: es) fa) (hkw : Kd X H0 W kws fk) (hA : X.A = A0 := by rfl) (hg : Gl X x := by rfl)
    (hall : (backToKw pos (keywordEach kws X.env)).all (·.1.isSome) = true := by rfl) (hks : (backToKw pos (keywordEach kws X.env)).filterMap (·.1) = ks := by rfl) (hdb : (x == ("__debug__" : Str)) = false := by decide)
    (he : starEach (e :: es) X.env = (false, eval e X.env) :: starEach es X.env := by rfl)
    (hpl : ((backTo pos (starEach (e :: es) X.env)).any (·.1) || (backToKw pos (keywordEach kws X.env)).any (·.1.isNone)) = false := by rfl) :
    Ed X H0 W (.Call (.Name x p) (e :: es) kws pos) (fCallK n ks.length (fun ds es => ds ++ es) g fa fk) := by
  obtain ⟨C, f, fd, ps, M, hm, F, hb⟩ := c.ex
  subst hA
  refine ⟨fun pins s σ H Q I h => ?_⟩
  refine wpAny_Call_Name_kw (ld_glob I hg hm ?_ hdb)
  obtain ⟨G, δ, sg, sl, h⟩ := h
  unfold fCallK at h
  have go : tA X.K X.M H0 W fa σ H (fun vs H1 => tA X.K X.M H0 W fk σ H1 (fun zs H2 => vs.length = n ∧ zs.length = ks.length ∧ ∃ (G : Hp) (ds : List D), Same G H2 ∧ DpAll X.K X.M G (vs ++ zs) ds ∧ post X.K X.M H2 G (fun c d H' => W c d σ H') Q (g ds))) := by
    refine ⟨G, δ, sg, sl, ?_⟩
    cases hfa : fa δ with
    | ok ds =>
      rw [hfa, bind_ok] at h
      intro vs H1 G1 g1 p1
      refine ⟨G1, δ, g1.gh, sl.mono g1, ?_⟩
      cases hf : fk δ with
      | ok es =>
        rw [hf, bind_ok] at h
        intro zs H2 G2 g2 p2
        by_cases hl : ds.length = n ∧ es.length = ks.length
        · rw [if_pos hl] at h
          refine ⟨p1.len.trans hl.1, p2.len.trans hl.2, G2, ds ++ es, g2.gh, (p1.mono g2.gg).append p2, ?_⟩
          have g12 := g1.trans g2
          cases hg : g (ds ++ es) with
          | ok r =>
            simp only [hg] at h
            intro v H3 G3 g3 p3
            exact h v H3 G3 (g12.trans g3) (p3.back g12.hh)
          | ex c fs =>
            simp only [hg] at h
            exact postX.mono g12 h
          | stuck => simp only [hg] at h; exact h
        · rw [if_neg hl] at h; exact h.elim
      | ex c fs' =>
        rw [hf, bind_ex] at h
        exact postX.mono g1 h
      | stuck => rw [hf, bind_stuck] at h; exact h
    | ex c fs' => rw [hfa, bind_ex] at h; exact h
    | stuck => rw [hfa, bind_stuck] at h; exact h
  refine PySem.W.callWith_KW (h₀ := X.base) I.ok.mod.kin M.kp hall ?_ hpl he
  refine thn (ha.run pos pins s σ H _ I go) fun us s1 ⟨vs, H1, I1, r1, q1⟩ => ?_
  refine thn (hkw.run pos pins s1 σ H1 _ I1 q1) fun ws s2 ⟨zs, H2, I2, r2, l1, l2, G2, ds, sg2, pa, q2⟩ => ⟨I2.kIn, ?_⟩
  rw [hks]
  refine run_makeG (E := fun σ => WE W σ) (us' := us ++ ws) (vs := vs ++ zs) M F (hr.mono hk) (fun s x kin hl => ?_) (L2N.passAt tk σ) I2 (r1.append r2) fun y dx hy hdx hne => ⟨y, C, dx, vs ++ zs, H2, G2, ds, rfl, hm, hy, hdx, hne, rfl, sg2, pa, ?_⟩
  · have := hb s (Value.ref x :: us) ws kin (by rw [List.length_cons, ← r1.length, l1]) (by rw [← r2.length, l2])
    exact this
  · cases hgd : g ds with
    | ok r => rw [hgd] at q2; exact fun H2 G2 g2 p2 => ⟨rfl, q2 _ H2 G2 g2 p2⟩
    | ex c fs => rw [hgd] at q2; exact q2
    | stuck => rw [hgd] at q2; exact q2
/-- what a def with defaults binds by keywords -/
theorem bindsK {K : PySem.W.Frag} {x qual : Str} {params : Arguments} {body : List Stmt} {sc : Scope} {dvs : List V} {kws : List (Str × V)} {f : Addr} {fd : FuncData} {ps : List Str} {n : Nat} {ks : List Str} (D : FunD K x qual params body sc dvs kws f fd) (hne : dvs ≠ [])
    (h : ∀ (T : Addr) (kV doc pm : Value) (an : Option Addr) (cdv ct : Value) (us ws its : List Value), us.length = n → ws.length = ks.length → its.length = dvs.length → ∃ k, bindArgs (PySem.W.fnOf x qual params body sc (.ref T) kV doc pm an cdv ct) ⟨us, ks.zip ws⟩ = seqItems? (.ref T) >>= k ∧ k (some its.toArray) = pure (ps.zip (us ++ ws))) :
    ∀ (s : Shared) (us ws : List Value), K.In s.heap → us.length = n → ws.length = ks.length → BindsTo s fd ⟨us, ks.zip ws⟩ (ps.zip (us ++ ws)) := by
  intro s us ws kin l1 l2 M A E Q q
  obtain ⟨oc, od, dV, kV, doc, pm, an, cdv, ct, osl, rfl, hk, hc, hd, _⟩ := D.ex
  rcases hd with ⟨z, _⟩ | ⟨_, T, o, its, nn, rfl, hT, hdt, rv⟩
  · exact absurd z hne
  · obtain ⟨k, e1, e2⟩ := h T kV doc pm an cdv ct us ws its l1 l2 rv.length.symm
    rw [e1]
    refine wpAny_bind (wpAny_seqItems (kin _ _ hT) hdt ?_)
    rw [e2]
    exact wpAny_pure q
end
end DL


set_option maxRecDepth 100000
set_option maxHeartbeats 4000000
namespace DL
open PySem PySem.Spec PyProof.Rows L2
section
variable {K : PySem.W.Frag} {mg : Mg} {H0 H G : Hp}
theorem Sl.hide {σ : L2.St} {δ : DE} (sl : Sl K mg H0 H G σ δ) (p : Nat) (v : Option V) : Sl K mg H0 H G (σ.set p v) (δ.set p none) := by
  have f : ∀ j r, (δ.set p none)[j]? = some (some r) → δ[j]? = some (some r) ∧ p ≠ j := fun j r e => by
    rcases set_at e with ⟨_, z⟩ | ⟨n, e⟩
    · cases z
    · exact ⟨e, n⟩
  have g : ∀ j, p ≠ j → (σ.set p v)[j]? = σ[j]? := fun j n => List.getElem?_set_ne n
  refine ⟨by rw [List.length_set, List.length_set]; exact sl.len, fun j r e => ?_, fun j j' q q' u u' as as' a e1 e2 s1 s2 => ?_⟩
  · obtain ⟨e, n⟩ := f j r e
    rw [g j n]
    exact sl.at_ j r e
  · obtain ⟨e1, n1⟩ := f _ _ e1
    obtain ⟨e2, n2⟩ := f _ _ e2
    rw [g j n1] at s1
    rw [g j' n2] at s2
    exact sl.dis j j' q q' u u' as as' a e1 e2 s1 s2
theorem Sl.lift {H1 : Hp} {σ : L2.St} {δ : DE} (gh : Same G H) (s : Same H H1) (sl : Sl K mg H0 H G σ δ) : Sl K mg H0 H1 G σ δ := sl.mono ⟨s, Same.refl _, gh.trans s, fun _ _ => rfl⟩
end
theorem Gr.lift {H0 G0 H G H1 : Hp} (g : Gr H0 G0 H G) (s : Same H H1) : Gr H0 G0 H1 G := g.trans ⟨s, Same.refl _, g.gh.trans s, fun _ _ => rfl⟩
theorem postS.ends {K : PySem.W.Frag} {mg : Mg} {H0 G0 G : Hp} {W : WX} {D : Ends} {i p kk : Nat} {s : SR} (h : postS K mg H0 G0 W G D s) : postS K mg H0 G0 W G (nxA D i p kk) s := by
  cases s with
  | nx δ => exact fun σ' H' G' g s' sl' _ => h σ' H' G' g s' sl'
  | br δ => exact h
  | ct δ => exact h
  | rt r => exact h
  | ex c fs δ => exact h
  | stuck => exact h
def sAlias (i ks p : Nat) (F : Nat → DE → SR) (δ : DE) : SR := match δ[i]?, δ[ks]? with
  | some (some (.ot rs)), some (some (.fr (.int kk))) => if 0 ≤ kk ∧ p < δ.length then (match rs[kk.toNat]? with
    | some (.ol _) => F kk.toNat (δ.set p none)
    | some (.fr (.tup _)) => .nx (δ.set p none)
    | _ => .stuck) else .stuck
  | _, _ => .stuck
def isOlS (i ks : Nat) (δ : DE) : Bool := match δ[i]?, δ[ks]? with
  | some (some (.ot rs)), some (some (.fr (.int kk))) => (match rs[kk.toNat]? with
    | some (.ol _) => true
    | _ => false)
  | _, _ => false
section
variable {X : Cx} {H0 G0 : Hp} {W : WX}
/-- part = handed[k], read -/
theorem get_core {i ks p : Nat} {F : Nat → DE → SR} {D : Ends} {σ : L2.St} {H G : Hp} {δ : DE} (g : Gr H0 G0 H G) (sl : Sl X.K X.M H0 H G σ δ) (h : postS X.K X.M H0 G0 W G D (sAlias i ks p F δ)) {Q : V → Hp → Prop}
    (ha : ∀ v kk, AlP (σ.set p (some v)) H i p kk → p < δ.length → (∃ b, v = .ref b ∧ ∃ ys ds, H b = some (.lst ys) ∧ G b = none ∧ DpAll X.K X.M G ys ds) → postS X.K X.M H0 G0 W G D (F kk (δ.set p none)) → Q v H)
    (hb : ∀ v ts, isOlS i ks δ = false → p < δ.length → Dp X.K X.M G v (.tup ts) → postS X.K X.M H0 G0 W G D (.nx (δ.set p none)) → Q v H) (hpi : p ≠ i) :
    tOp (rIx X.K) (tVar i) (tVar ks) σ H Q := by
  unfold sAlias at h
  split at h
  · rename_i rs kk e1 e2
    split at h
    · rename_i hk0
      obtain ⟨hk, hp0⟩ := hk0
      have hp : p < σ.length := by rw [sl.len]; exact hp0
      obtain ⟨u, eu, as0, q⟩ := sl.at_ i _ e1
      obtain ⟨w, ew, pw⟩ := sl.at_ ks _ e2
      have pw' : Dp X.K X.M G w (.int kk) := pw
      cases pw'
      cases q with
      | tr k1 k2 k3 k4 k5 =>
        rename_i a xs as
        have at_of : ∀ {v : V}, xs[kk.toNat]? = some v → atI xs kk = some v := fun {v} e => by
          have hl : kk.toNat < xs.length := by
            rcases Nat.lt_or_ge kk.toNat xs.length with z | z
            · exact z
            · rw [List.getElem?_eq_none z] at e; cases e
          unfold atI ixN
          rw [if_pos hk, if_pos (by omega)]
          exact e
        split at h
        · rename_i ds er
          obtain ⟨v, bs, ev, qv, mv⟩ := rvql_at k4 er
          cases qv with
          | ol w1 w2 w3 w4 =>
            rename_i b ys
            refine ⟨_, eu, _, ew, .inl ⟨a, xs, kk, .ref b, rfl, rfl, .inl (.inl k1), at_of ev, ha (.ref b) kk.toNat ⟨a, xs, b, ?_, k1, ev, ?_⟩ hp0 ⟨b, rfl, ys, _, w1, w2, w4⟩ h⟩⟩
            · rw [List.getElem?_set_ne hpi]; exact eu
            · rw [List.getElem?_set_self hp]
        · rename_i ts er
          obtain ⟨v, bs, ev, qv, mv⟩ := rvql_at k4 er
          have pv : Dp X.K X.M G v (.tup ts) := qv.p
          exact ⟨_, eu, _, ew, .inl ⟨a, xs, kk, v, rfl, rfl, .inl (.inl k1), at_of ev, hb v ts (by unfold isOlS; rw [e1, e2]; simp only [er]) hp0 pv h⟩⟩
        · exact h.elim
    · exact h.elim
  · exact h.elim
theorem bd_alias {xi xk xp : Str} {rest : List Stmt} {F : Nat → DE → SR} {pp ph pk psb pos : Pos} (i ks p : Nat) (hN : X.N.Nodup) (hr : PSs X rest (tSA X.K X.M H0 G0 W i p F)) (hi : X.N[i]? = some xi := by rfl) (hk : X.N[ks]? = some xk := by rfl) (hp : X.N[p]? = some xp := by rfl) (hip : p ≠ i := by decide)
    (vi : Vis X.env.scope xi := by first | exact Or.inl rfl | exact Or.inr (Or.inl rfl) | exact Or.inr (Or.inr rfl)) (vk : Vis X.env.scope xk := by first | exact Or.inl rfl | exact Or.inr (Or.inl rfl) | exact Or.inr (Or.inr rfl))
    (lp : Loc X.env.scope xp := by first | exact Or.inl rfl | exact Or.inr rfl) (d1 : (xi == ("__debug__" : Str)) = false := by decide) (c1 : (xi == ("__classdict__" : Str)) = false := by decide) (d2 : (xk == ("__debug__" : Str)) = false := by decide) (c2 : (xk == ("__classdict__" : Str)) = false := by decide)
    (hs : swapsWith (.Subscript (.Name xi ph) (.Name xk pk) psb) (some (.Name xp pp)) pos.line X.env = pure false := by rfl) (hf : X.fn xp = true ∨ X.env.scope.names.lookup xp = some .local := by first | exact .inl rfl | exact .inr rfl | assumption) :
    Bd X H0 G0 W (.Assign [.Name xp pp] (.Subscript (.Name xi ph) (.Name xk pk) psb) pos :: rest) (fun δ => if isOlS i ks δ = true then sAlias i ks p F δ else .stuck) := by
  refine PSs.imp (pss_cons (ps_set hN hp lp (pe_ix ix_seq (pe_var hi vi d1 c1) (pe_var hk vk d2 c2) (fun _ _ => rfl)) hs hf) hr) fun D σ H h => ?_
  obtain ⟨G, δ, g, sl, h⟩ := h
  replace h : postS X.K X.M H0 G0 W G D (if isOlS i ks δ = true then sAlias i ks p F δ else .stuck) := h
  split at h
  · rename_i ho
    refine get_core g sl h (fun v kk al pl _ q => ?_) (fun v ts no pl pv q => ?_) hip
    · exact ⟨G, δ.set p none, kk, g, sl.hide p _, al, q.ends⟩
    · rw [ho] at no; cases no
  · exact h.elim
/-- if isinstance(part, list): .. -/
theorem bd_aliasIf {xi xk xp : Str} {body : List Stmt} {F : Nat → DE → SR} {pp ph pk psb pos q1 q2 q3 q4 pos2 : Pos} (i ks p : Nat) (hN : X.N.Nodup) (hr : PSs X body (tSA X.K X.M H0 G0 W i p F)) (m0 : X.mg "isinstance" = none) (m1 : X.mg "list" = none) (hi : X.N[i]? = some xi := by rfl) (hk : X.N[ks]? = some xk := by rfl) (hp : X.N[p]? = some xp := by rfl) (hip : p ≠ i := by decide)
    (vi : Vis X.env.scope xi := by first | exact Or.inl rfl | exact Or.inr (Or.inl rfl) | exact Or.inr (Or.inr rfl)) (vk : Vis X.env.scope xk := by first | exact Or.inl rfl | exact Or.inr (Or.inl rfl) | exact Or.inr (Or.inr rfl)) (vp : Vis X.env.scope xp := by first | exact Or.inl rfl | exact Or.inr (Or.inl rfl) | exact Or.inr (Or.inr rfl))
    (lp : Loc X.env.scope xp := by first | exact Or.inl rfl | exact Or.inr rfl) (d1 : (xi == ("__debug__" : Str)) = false := by decide) (c1 : (xi == ("__classdict__" : Str)) = false := by decide) (d2 : (xk == ("__debug__" : Str)) = false := by decide) (c2 : (xk == ("__classdict__" : Str)) = false := by decide) (d3 : (xp == ("__debug__" : Str)) = false := by decide) (c3 : (xp == ("__classdict__" : Str)) = false := by decide)
    (hs : swapsWith (.Subscript (.Name xi ph) (.Name xk pk) psb) (some (.Name xp pp)) pos.line X.env = pure false := by rfl) (hf : X.fn xp = true ∨ X.env.scope.names.lookup xp = some .local := by first | exact .inl rfl | exact .inr rfl | assumption) (g0 : Gl X "isinstance" := by rfl) (g1 : Gl X "list" := by rfl)
    (he1 : starEach ((.Name xp q2) :: [.Name "list" q3]) X.env = (false, eval (.Name xp q2) X.env) :: starEach [.Name "list" q3] X.env := by rfl) (hpl : (backTo q4 (starEach [.Name "list" q3] X.env)).any (·.1) = false := by rfl) :
    Bd X H0 G0 W [.Assign [.Name xp pp] (.Subscript (.Name xi ph) (.Name xk pk) psb) pos, .If (.Call (.Name "isinstance" q1) [.Name xp q2, .Name "list" q3] [] q4) body [] pos2] (sAlias i ks p F) := by
  have ev : Ed X H0 W (.Name xp q2) (getV p) := ed_var p hp vp d3 c3
  have et : Td X H0 W (.Call (.Name "isinstance" q1) [.Name xp q2, .Name "list" q3] [] q4) (fT (fUn (dIs .list) (getV p))) := td_val (ed_isi .list ev m0 m1 (by decide +kernel) (hg0 := g0) (hgx := g1) (he1 := he1) (hpl := hpl)) (fun _ => rfl)
  refine PSs.imp (pss_cons (ps_set hN hp lp (pe_ix ix_seq (pe_var hi vi d1 c1) (pe_var hk vk d2 c2) (fun _ _ => rfl)) hs hf) (pss_cons (ps_if et hr pss_nil) pss_nil)) fun D σ H h => ?_
  obtain ⟨G, δ, g, sl, h⟩ := h
  refine get_core g sl h (fun v kk al pl hv q => ?_) (fun v ts no pl pv q => ?_) hip
  · obtain ⟨b, rfl, ys, ds, hb, hG, pd⟩ := hv
    have s1 : Same G (upd G b (.lst ys)) := upd_same_of hG
    have s2 : Same (upd G b (.lst ys)) H := fun c u e => by
      by_cases z : c = b
      · subst z; rw [upd_same] at e; rw [hb]; exact e
      · rw [upd_ne z] at e; exact g.gh _ _ e
    have pb : Dp X.K X.M (upd G b (.lst ys)) (.ref b) (.lst ds) := .lst (.inl upd_same) (pd.mono s1)
    have at_p : ∀ j r, ((List.replicate δ.length (none : Option RV)).set p (some (.fr (.lst ds))))[j]? = some (some r) → j = p ∧ r = .fr (.lst ds) := fun j r e => by
      rcases set_at e with ⟨z, y⟩ | ⟨_, e⟩
      · cases y; exact ⟨z.symm, rfl⟩
      · rw [List.getElem?_replicate] at e
        split at e <;> cases e
    have pσ : p < σ.length := by rw [sl.len]; exact pl
    have sl2 : Sl X.K X.M H0 H (upd G b (.lst ys)) (σ.set p (some (.ref b))) ((List.replicate δ.length none).set p (some (.fr (.lst ds)))) := by
      refine ⟨by simp [sl.len], fun j r e => ?_, fun j j' r r' u u' as as' a e1 e2 _ _ _ _ _ _ => ?_⟩
      · obtain ⟨rfl, rfl⟩ := at_p j r e
        exact ⟨_, List.getElem?_set_self pσ, pb⟩
      · rw [(at_p _ _ e1).1, (at_p _ _ e2).1]
    refine ⟨_, _, s2, sl2, ?_⟩
    have gv : getV p ((List.replicate δ.length none).set p (some (.fr (.lst ds)))) = .ok (.fr (.lst ds)) := gv_fr (List.getElem?_set_self (by simpa using pl))
    have e : fT (fUn (dIs .list) (getV p)) ((List.replicate δ.length none).set p (some (.fr (.lst ds)))) = .ok true := by
      unfold fT fUn
      rw [gv]
      rfl
    rw [e]
    intro H1 G1 gg
    exact ⟨G, δ.set p none, kk, g.lift gg.hh, (sl.hide p _).lift g.gh gg.hh, al.grow gg.hh, q.ends⟩
  · have sl2 : Sl X.K X.M H0 H G (σ.set p (some v)) (δ.set p (some (.fr (.tup ts)))) := sl.put (r := .fr (.tup ts)) pv fun o => nomatch o
    refine ⟨G, _, g.gh, sl2, ?_⟩
    have gv : getV p (δ.set p (some (.fr (.tup ts)))) = .ok (.fr (.tup ts)) := gv_fr (List.getElem?_set_self pl)
    have e : fT (fUn (dIs .list) (getV p)) (δ.set p (some (.fr (.tup ts)))) = .ok false := by
      unfold fT fUn
      rw [gv]
      rfl
    rw [e]
    intro H1 G1 gg
    exact q _ H1 G1 (g.trans gg) gg.gg ((sl.hide p _).mono gg)
end
end DL


set_option maxRecDepth 100000
set_option maxHeartbeats 4000000
namespace DL
open PySem PySem.Spec PyProof.Rows L2
section
variable {K : PySem.W.Frag} {mg : Mg} {H0 H G : Hp}
theorem rvql_init : ∀ {xs : List V} {rs : List RV} {as : List Addr}, RVqL K mg H0 H G xs rs as → ∃ as', RVqL K mg H0 H G xs.dropLast rs.dropLast as' ∧ ∀ b ∈ as', b ∈ as
  | _, _, _, .nil => ⟨[], .nil, fun _ h => h⟩
  | _, _, _, .cons (vs := vs) (rs := rs) q t d => by
    cases t with
    | nil => exact ⟨[], .nil, fun _ h => nomatch h⟩
    | cons q2 t2 d2 =>
      obtain ⟨as', t', m⟩ := rvql_init (RVqL.cons q2 t2 d2)
      exact ⟨_, .cons q t' fun b hb hb' => d b hb (m b hb'), fun b hb => by
        rcases List.mem_append.mp hb with z | z
        · exact List.mem_append_left _ z
        · exact List.mem_append_right _ (m b z)⟩
end
/-- x.m(..) with x a list of own things in slot i -/
def sOwnT (i : Nat) (g : List RV → List D → Option (List RV)) (f : DE → R (List D)) (δ : DE) : SR := match δ[i]? with
  | some (some (.ot rs)) => lift (f δ) δ fun args => (match g rs args with | some es => .nx (δ.set i (some (.ot es))) | none => .stuck)
  | _ => .stuck
def gAppendT (rs : List RV) (args : List D) : Option (List RV) := match args with
  | [d] => if rs.length < SZ then some (rs ++ [.fr d]) else none
  | _ => none
def gPopT (rs : List RV) (args : List D) : Option (List RV) := match args with
  | [] => if 0 < rs.length then some rs.dropLast else none
  | _ => none
section
variable {H0 G0 : Hp} {W : WX}
theorem own_coreT {K : PySem.W.Frag} {mg : Mg} {H G : Hp} {D0 : Ends} {σ : L2.St} {δ : DE} {i : Nat} {f : DE → R (List D)} {gf : List RV → List D → Option (List RV)} {r : V → List V → Hp → VK → Prop} {T : String}
    (g : Gr H0 G0 H G) (sl : Sl K mg H0 H G σ δ) (h : postS K mg H0 G0 W G D0 (sOwnT i gf f δ)) (hT : T = "list")
    (hr : ∀ a xs rs as vs args es H1 G1, H1 a = some (.lst xs) → a ∉ as → RVqL K mg H0 H1 G1 xs rs as → DpAll K mg G1 vs args → gf rs args = some es → (∀ ys as', RVqL K mg H0 H1 G1 ys es as' → (∀ b ∈ as', b ∈ as) → D0.nx σ (upd H1 a (.lst ys))) → r (.ref a) vs H1 (fun _ H2 => D0.nx σ H2)) :
    tBM K T r (tVar i) (tA K mg H0 W f) σ H fun _ H1 => D0.nx σ H1 := by
  subst hT
  unfold sOwnT at h
  split at h
  · rename_i rs e1
    obtain ⟨v, es_, as0, q⟩ := sl.at_ i _ e1
    have q0 := q
    cases q with
    | tr h1 h2 h3 h4 h5 =>
      rename_i a xs as
      refine ⟨_, es_, .inl ⟨rfl, xs, .inl (.inl h1)⟩, ?_⟩
      refine lift_coreA g sl h fun args vs H1 G1 g1 g2 sl1 pa hk => ?_
      cases eg : gf rs args with
      | none => rw [eg] at hk; exact hk.elim
      | some es =>
        rw [eg] at hk
        have q1 := q0.mono g1
        cases q1 with
        | tr k1 k2 k3 k4 k5 =>
          rename_i xs'
          refine hr a xs' rs as vs args es H1 G1 k1 k5 k4 pa eg fun ys as' py hs => ?_
          have nd : a ∉ as' := fun z => k5 (hs a z)
          have q2 : RVq K mg H0 (upd H1 a (.lst ys)) G1 (.ref a) (.ot es) (a :: as') := .tr upd_same k2 k3 (py.keep fun b hb => upd_ne fun z => nd (z ▸ hb)) nd
          refine hk σ _ G1 (g2.upd k2 k3) (Same.refl _) (sl1.chg e1 es_ (.tr k1 k2 k3 k4 k5) q2 (fun b _ hb => upd_ne fun z => hb (z ▸ List.mem_cons_self)) fun b hb => .inl ?_)
          rcases List.mem_cons.mp hb with z | z
          · rw [z]; exact List.mem_cons_self
          · exact List.mem_cons_of_mem _ (hs b z)
  · exact h.elim
end
section
variable {X : Cx} {H0 G0 : Hp} {W : WX}
theorem sd_appendT (i : Nat) {x : Str} {e : Expr} {fe : DE → R RV} {xp apos cpos pos : Pos} (he : Ed X H0 W e fe) (hN : X.N[i]? = some x := by rfl) (hv : Vis X.env.scope x := by first | exact Or.inl rfl | exact Or.inr (Or.inl rfl) | exact Or.inr (Or.inr rfl))
    (hd : (x == ("__debug__" : Str)) = false := by decide) (hcd : (x == ("__classdict__" : Str)) = false := by decide) (hs1 : starEach (e :: []) X.env = (false, eval e X.env) :: starEach [] X.env := by rfl) (hline : (apos.endLine == cpos.line) = true := by rfl)
    (hs : swapsWith (.Call (.Attribute (.Name x xp) "append" apos) [e] [] cpos) none pos.line X.env = pure false := by rfl)
    (hfew : ((backTo cpos (starEach (e :: []) X.env)).all (fun x => !x.1) && (backToKw cpos (keywordEach [] X.env)).all (fun x => x.1.isSome)
      && decide ((e :: []).length + ([] : List Keyword).length + (if ([] : List Keyword).isEmpty then 0 else 1) < 30)) = true := by rfl) :
    Sd X H0 G0 W (.Expr (.Call (.Attribute (.Name x xp) "append" apos) [e] [] cpos) pos) (sOwnT i gAppendT (aCons fe aNil)) := by
  refine PS.imp (ps_expr (pe_bm PySem.F.plainAttrs_list PySem.F.slot_list_append PySem.F.type_list_append mt_append (pe_var hN hv hd hcd) (ad_cons he ad_nil hs1) (hs := hs1) (hline := hline) (hfew := hfew)) hs) fun Dn σ H h => ?_
  obtain ⟨G, δ, g, sl, h⟩ := h
  refine own_coreT g sl h rfl fun a xs rs as vs args es H1 G1 hH nd pl pa eg k => ?_
  unfold gAppendT at eg
  split at eg
  · rename_i d
    split at eg
    · rename_i hz
      cases eg
      cases pa with
      | cons p t =>
        cases t
        refine ⟨a, xs, _, rfl, rfl, hH, by rw [rvql_len pl]; exact sz_lt (Nat.le_of_lt hz), k _ as ?_ fun b hb => hb⟩
        have := rvql_snoc (.fr p) pl fun _ _ h => nomatch h
        simpa using this
    · cases eg
  · cases eg
theorem sd_popT (i : Nat) {x : Str} {xp apos cpos pos : Pos} (hN : X.N[i]? = some x := by rfl) (hv : Vis X.env.scope x := by first | exact Or.inl rfl | exact Or.inr (Or.inl rfl) | exact Or.inr (Or.inr rfl))
    (hd : (x == ("__debug__" : Str)) = false := by decide) (hcd : (x == ("__classdict__" : Str)) = false := by decide) (hline : (apos.endLine == cpos.line) = true := by rfl)
    (hs : swapsWith (.Call (.Attribute (.Name x xp) "pop" apos) [] [] cpos) none pos.line X.env = pure false := by rfl) :
    Sd X H0 G0 W (.Expr (.Call (.Attribute (.Name x xp) "pop" apos) [] [] cpos) pos) (sOwnT i gPopT aNil) := by
  refine PS.imp (ps_expr (pe_bm0 PySem.F.plainAttrs_list PySem.F.slot_list_pop PySem.F.type_list_pop mt_pop (pe_var hN hv hd hcd) (hline := hline)) hs) fun Dn σ H h => ?_
  obtain ⟨G, δ, g, sl, h⟩ := h
  have := own_coreT (r := fun x vs H (Q : VK) => vs = [] ∧ rPop x [] H Q) g sl h rfl fun a xs rs as vs args es H1 G1 hH nd pl pa eg k => by
    unfold gPopT at eg
    split at eg
    · split at eg
      · rename_i hz
        cases eg
        cases pa
        obtain ⟨as', pl', m⟩ := rvql_init pl
        have hl := rvql_len pl
        have hlt : xs.length - 1 < xs.length := by omega
        exact ⟨rfl, a, xs, xs[xs.length - 1], rfl, rfl, hH, List.getElem?_eq_getElem hlt, k _ as' pl' m⟩
      · cases eg
    · cases eg
  obtain ⟨v, e1, ty, G1, δ1, s1, sl1, hA⟩ := this
  exact ⟨v, e1, ty, (hA [] H G1 (.refl s1) .nil).2⟩
end
end DL


set_option maxRecDepth 100000
set_option maxHeartbeats 4000000
namespace DL
open PySem PySem.Spec PyProof.Rows L2
theorem dfl_ok {K : PySem.W.Frag} {a : Addr} {d : D} (h : dB K 9 (.ref a) d = true) : ∀ M G, Dp K M G (.ref a) d := by
  obtain ⟨v, r, p⟩ := dB_ok 9 _ _ h
  cases v with
  | ref b => cases r; exact p
  | non => cases r
  | bl b => cases r
  | int i => obtain ⟨t, e⟩ := r; cases e
  | str x => obtain ⟨t, e⟩ := r; cases e
  | byt x => obtain ⟨t, e⟩ := r; cases e
  | flt x => obtain ⟨t, e⟩ := r; cases e
  | ty n => cases r
end DL


set_option maxRecDepth 100000
set_option maxHeartbeats 4000000
namespace DL
open PySem PySem.Spec PyProof.Rows L2
/-- what is made is frozen at once -/
def fFr (f : DE → R RV) (δ : DE) : R RV := f δ >>= fun r => .ok (.fr r.d)
section
variable {X : Cx} {H0 : Hp} {W : WX}
theorem ed_fr {e : Expr} {f : DE → R RV} (he : Ed X H0 W e f) : Ed X H0 W e (fFr f) := by
  refine PE.imp he fun σ H Q h => ?_
  obtain ⟨G, δ, s, sl, h⟩ := h
  refine ⟨G, δ, s, sl, ?_⟩
  unfold fFr at h
  cases hf : f δ with
  | ok r =>
    rw [hf, bind_ok] at h
    intro v H' G' g p
    obtain ⟨G2, g2, s2, p2, _⟩ := RVp.frz g p
    exact h v H' G2 g2 p2
  | ex c fs => rw [hf, bind_ex] at h; exact h
  | stuck => rw [hf, bind_stuck] at h; exact h
end
@[simp] theorem ev_fr {f : DE → R RV} {δ : DE} : fFr f δ = (f δ >>= fun r => .ok (.fr r.d)) := (Eq.refl _).trans (Eq.refl _)
end DL


set_option maxRecDepth 100000
set_option maxHeartbeats 4000000
namespace K00
noncomputable section
open PySem PySem.Spec PyProof.Rows L2 L2H DL
def clsBody : Stmt → List Stmt
  | .ClassDef (body := b) .. => b
  | _ => []
def topS (i : Nat) : Stmt := PySem.Challenge.pw_pilerecall_k00_machine_fields.main.body.getD i (.Pass ⟨0, 0, 0, 0⟩)
abbrev c_LETTERS : D := .str "abcdefghijklmnopqrstuvwxyz"
abbrev c_CAPITALS : D := .str "ABCDEFGHIJKLMNOPQRSTUVWXYZ"
abbrev c_DIGITS : D := .str "0123456789"
abbrev c_MOST_STATES : D := .int 2000
abbrev c_MOST_RULES : D := .int 20000
abbrev c_DEEDS : D := .tup [.str "keep", .str "pop", .str "push", .str "swap"]
abbrev s_law_digits : Stmt := topS 38
theorem sc_law_digits : FnScope ["cell", "sizes", "row", "rest", "size", "seed", "k", "twice"] ["cell", "sizes"] (defScope s_law_digits) := ⟨rfl, rfl, rfl, by decide +kernel, rfl, by decide +kernel, by decide +kernel⟩
def F_law_digits : DE → SR :=
  (sSeq ((sSet 2 (fLst 0 aNil)))
  (sSeq ((sSet 3 (fCall dInt (aCons (getV 0) aNil))))
  (sSeq ((sIf (fB (fBin dGe (getV 3) (fBin dPowW (cst (.int 10)) (cst (.int 18))))) (sSeq ((sSet 3 (fBin dSub (getV 3) (fBin dPowW (cst (.int 10)) (cst (.int 18))))))
  (sSeq ((sFor (iSeq (getV 1)) (gSet 4) (sSeq ((sOwn 2 gAppend (aCons (fBin dMod (fCall dInt (aCons (getV 3) aNil)) (getV 4)) aNil)))
  (sSeq ((sSet 3 (fBin dDivW (fCall dInt (aCons (getV 3) aNil)) (getV 4))))
  sNil)) [4]))
  (sSeq (sRetV 2)
  sNil))) sNil))
  (sSeq ((sSet 5 (fBin dMod (fCall dInt (aCons (getV 3) aNil)) (cst (.int 2147483629)))))
  (sSeq ((sFor (iArgs rng1 (aCons (fCall dLen (aCons (getV 1) aNil)) aNil)) (gSet 6) (sSeq ((sSet 5 (fBin dMod (fCall dInt (aCons (fBin dAdd (fBin dAdd (fBin dMulW (getV 5) (cst (.int 48271))) (fBin dMulW (cst (.int 974711)) (getV 6))) (cst (.int 12345))) aNil)) (cst (.int 2147483647)))))
  (sSeq ((sSet 7 (fBin dMod (fCall dInt (aCons (fBin dMulW (getV 5) (fBin dAdd (fBin dDivW (getV 5) (cst (.int 65537))) (cst (.int 3)))) aNil)) (cst (.int 2147483629)))))
  (sSeq ((sOwn 2 gAppend (aCons (fBin dMod (fBin dDivW (getV 7) (cst (.int 19))) (fBin dIxD (getV 1) (getV 6))) aNil)))
  sNil))) [6, 7]))
  (sSeq (sRetV 2)
  sNil))))))
def g_law_digits : List D → R RV := runF 2 8 F_law_digits
abbrev s_law_any_letters : Stmt := topS 39
theorem sc_law_any_letters : FnScope ["cell", "letters", "row", "k"] ["cell"] (defScope s_law_any_letters) := ⟨rfl, rfl, rfl, by decide +kernel, rfl, by decide +kernel, by decide +kernel⟩
def F_law_any_letters : DE → SR :=
  (sSeq ((sSet 1 (cst (.str "abcdefghijklmnopqrstuvwxyz"))))
  (sSeq ((sSet 2 (fCall (g_law_digits) (aCons (getV 0) (aCons (fBin dAdd (fLst 4 (aCons (cst (.int 6)) (aCons (cst (.int 26)) (aCons (cst (.int 26)) (aCons (cst (.int 26)) aNil))))) (fBin dMulW (fLst 1 (aCons (cst (.int 2)) aNil)) (cst (.int 26)))) aNil)))))
  (sSeq ((sFrz 2 (sIf (fB (fBin (dEq false) (fBin dIxD (getV 2) (cst (.int 0))) (cst (.int 0)))) (sSeq ((sRet (fBin dIxD (getV 1) (fBin dIxD (getV 2) (cst (.int 1))))))
  sNil) sNil)))
  (sSeq ((sIf (fB (fBin dLt (fBin dIxD (getV 2) (cst (.int 0))) (cst (.int 4)))) (sSeq ((sRet (fM1 isStrD dJoin2 (cst (.str "")) (fLc (iArgs rng1 (aCons (cst (.int 26)) aNil)) [3] (gSet 3) (fB (fBin (dInD false) (getV 3) (fSl (getV 2) (pInt (cst (.int 1))) (pInt (cst (.int 4)))))) (fBin dIxD (getV 1) (getV 3))))))
  sNil) sNil))
  (sSeq ((sIf (fB (fBin (dEq false) (fBin dIxD (getV 2) (cst (.int 0))) (cst (.int 4)))) (sSeq ((sRet (fM1 isStrD dJoin2 (cst (.str "")) (fLc (iArgs rng1 (aCons (cst (.int 26)) aNil)) [3] (gSet 3) ((bOr (fB (fBin (dEq false) (getV 3) (fBin dIxD (getV 2) (cst (.int 1))))) (fB (fBin (dEq false) (fBin dIxD (getV 2) (fBin dAdd (cst (.int 4)) (getV 3))) (cst (.int 1)))))) (fBin dIxD (getV 1) (getV 3))))))
  sNil) sNil))
  (sSeq ((sRet (getV 1)))
  sNil))))))
def g_law_any_letters : List D → R RV := runF 1 4 F_law_any_letters
abbrev s_law_symbol : Stmt := topS 40
theorem sc_law_symbol : FnScope ["row", "signs", "digit"] ["row"] (defScope s_law_symbol) := ⟨rfl, rfl, rfl, by decide +kernel, rfl, by decide +kernel, by decide +kernel⟩
def F_law_symbol : DE → SR :=
  (sSeq ((sSet 1 (cst (.str "abcdefghijklmnopqrstuvwxyzABCDEFGHIJKLMNOPQRSTUVWXYZ0123456789"))))
  (sSeq ((sRet (fM1 isStrD dJoin2 (cst (.str "")) (fLc (iSeq (fSl (getV 0) (pInt (cst (.int 1))) (pInt (fBin dAdd (cst (.int 2)) (fBin dIxD (getV 0) (cst (.int 0))))))) [2] (gSet 2) bYes (fBin dIxD (getV 1) (getV 2))))))
  sNil))
def g_law_symbol : List D → R RV := runF 1 3 F_law_symbol
abbrev s_law_rule : Stmt := topS 42
theorem sc_law_rule : FnScope ["cell", "letters", "states", "pool", "before", "row", "signs", "letter", "own", "key", "earlier", "move", "deed", "symbol", "said", "digit"] ["cell", "letters", "states", "pool", "before"] (defScope s_law_rule) := ⟨rfl, rfl, rfl, by decide +kernel, rfl, by decide +kernel, by decide +kernel⟩
def F_law_rule : DE → SR :=
  (sSeq ((sSet 5 (fCall (g_law_digits) (aCons (getV 0) (aCons (fBin dAdd (fLst 14 (aCons (cst (.int 6)) (aCons (cst (.int 997)) (aCons (cst (.int 28)) (aCons (cst (.int 8)) (aCons (cst (.int 2000)) (aCons (cst (.int 2000)) (aCons (cst (.int 3)) (aCons (cst (.int 4)) (aCons (cst (.int 7)) (aCons (cst (.int 4)) (aCons (cst (.int 26)) (aCons (cst (.int 26)) (aCons (cst (.int 26)) (aCons (cst (.int 8)) aNil))))))))))))))) (fBin dMulW (fLst 1 (aCons (cst (.int 62)) aNil)) (cst (.int 8)))) aNil)))))
  (sSeq ((sSet 6 (fBin dAdd (fLst 2 (aCons (cst (.str "<")) (aCons (cst (.str ">")) aNil))) (fLc (iSeq (getV 1)) [7] (gSet 7) bYes (getV 7)))))
  (sSeq ((sFrz 5 (sSet 8 (fCall (g_law_symbol) (aCons (fSl (getV 5) (pInt (cst (.int 13))) pNone) aNil)))))
  (sSeq ((sFrz 6 (sFrz 8 (sSet 9 (fTup 3 (aCons (fBin dMod (fCall dInt (aCons (fBin dIxD (getV 5) (cst (.int 4))) aNil)) (getV 2)) (aCons (fBin dIxD (getV 6) (fBin dMod (fCall dInt (aCons (fBin dIxD (getV 5) (cst (.int 2))) aNil)) (fCall dLen (aCons (getV 6) aNil)))) (aCons (fBin dIxD (fBin dAdd (fBin dAdd (fLst 2 (aCons (cst (.str "")) (aCons (cst (.str "")) aNil))) (getV 3)) (fLst 1 (aCons (getV 8) aNil))) (fBin dIxD (getV 5) (cst (.int 3)))) aNil))))))))
  (sSeq ((sIf ((bAnd (fB (fBin dLt (fBin dIxD (getV 5) (cst (.int 0))) (cst (.int 3)))) (fB (fBin dGt (fCall dLen (aCons (getV 4) aNil)) (cst (.int 0)))))) (sSeq ((sSet 10 (fBin dIxD (getV 4) (fBin dMod (fCall dInt (aCons (fBin dIxD (getV 5) (cst (.int 1))) aNil)) (fCall dLen (aCons (getV 4) aNil))))))
  (sSeq ((sIf (fB (fBin (dEq false) (fBin dIxD (getV 5) (cst (.int 0))) (cst (.int 0)))) (sSeq ((sRet (getV 10)))
  sNil) sNil))
  (sSeq ((sSet 9 (fSl (getV 10) pNone (pInt (cst (.int 3))))))
  sNil))) sNil))
  (sSeq ((sSet 11 (fBin dSub (fBin dIxD (getV 5) (cst (.int 6))) (cst (.int 1)))))
  (sSeq ((sFrz 9 (sIf (fB (fBin (dEq false) (fBin dIxD (getV 9) (cst (.int 1))) (cst (.str "<")))) (sSeq ((sSet 11 (fCall dAbs (aCons (getV 11) aNil))))
  sNil) sNil)))
  (sSeq ((sIf (fB (fBin (dEq false) (fBin dIxD (getV 9) (cst (.int 1))) (cst (.str ">")))) (sSeq ((sSet 11 (fUn dNeg (fCall dAbs (aCons (getV 11) aNil)))))
  sNil) sNil))
  (sSeq ((sSet 12 (fBin dIxD (fLst 4 (aCons (cst (.str "keep")) (aCons (cst (.str "pop")) (aCons (cst (.str "push")) (aCons (cst (.str "swap")) aNil))))) (fBin dIxD (getV 5) (cst (.int 7))))))
  (sSeq ((sIf (fB (fBin (dEq false) (fBin dIxD (getV 9) (cst (.int 2))) (cst (.str "")))) (sSeq ((sSet 12 (fBin dIxD (fLst 4 (aCons (cst (.str "keep")) (aCons (cst (.str "keep")) (aCons (cst (.str "push")) (aCons (cst (.str "push")) aNil))))) (fBin dIxD (getV 5) (cst (.int 7))))))
  sNil) sNil))
  (sSeq ((sSet 13 (cst (.str ""))))
  (sSeq ((sIf ((bOr (fB (fBin (dEq false) (getV 12) (cst (.str "push")))) (fB (fBin (dEq false) (getV 12) (cst (.str "swap")))))) (sSeq ((sSet 13 (fBin dIxD (fBin dAdd (getV 3) (fLst 2 (aCons (getV 8) (aCons (getV 8) aNil)))) (fBin dIxD (getV 5) (cst (.int 8))))))
  sNil) sNil))
  (sSeq ((sSet 14 (fM1 isStrD dJoin2 (cst (.str "")) (fLc (iSeq (fSl (getV 5) (pInt (cst (.int 10))) (pInt (fBin dAdd (cst (.int 10)) (fBin dIxD (getV 5) (cst (.int 9))))))) [15] (gSet 15) bYes (fBin dIxD (cst (.str "abcdefghijklmnopqrstuvwxyz")) (getV 15))))))
  (sSeq ((sRet (fBin dAdd (getV 9) (fTup 5 (aCons (fBin dMod (fCall dInt (aCons (fBin dIxD (getV 5) (cst (.int 5))) aNil)) (getV 2)) (aCons (getV 11) (aCons (getV 12) (aCons (getV 13) (aCons (getV 14) aNil)))))))))
  sNil))))))))))))))
def g_law_rule : List D → R RV := runF 5 16 F_law_rule
abbrev s_law_cell : Stmt := topS 37
theorem sc_law_cell : FnScope ["script", "k", "seed", "cell"] ["script", "k"] (defScope s_law_cell) := ⟨rfl, rfl, rfl, by decide +kernel, rfl, by decide +kernel, by decide +kernel⟩
def F_law_cell : DE → SR :=
  (sSeq ((sIf (fB (fBin dLt (getV 1) (fCall dLen (aCons (getV 0) aNil)))) (sSeq ((sRet (fBin dIxD (getV 0) (getV 1))))
  sNil) sNil))
  (sSeq ((sSet 2 (cst (.int 17))))
  (sSeq ((sFor (iSeq (getV 0)) (gSet 3) (sSeq ((sSet 2 (fBin dMod (fCall dInt (aCons (fBin dAdd (fBin dMulW (getV 2) (cst (.int 31))) (fBin dMod (fCall dInt (aCons (getV 3) aNil)) (cst (.int 1000003)))) aNil)) (cst (.int 1000003)))))
  sNil) [3]))
  (sSeq ((sRet (fBin dMod (fCall dInt (aCons (fBin dMulW (fBin dMulW (fBin dAdd (getV 2) (cst (.int 7))) (fBin dAdd (getV 1) (cst (.int 3)))) (cst (.int 69621))) aNil)) (cst (.int 2147483647)))))
  sNil))))
def g_law_cell : List D → R RV := runF 2 4 F_law_cell
abbrev s_law_rules : Stmt := topS 43
theorem sc_law_rules : FnScope ["script", "at", "many", "letters", "states", "pool", "rules", "k"] ["script", "at", "many", "letters", "states", "pool"] (defScope s_law_rules) := ⟨rfl, rfl, rfl, by decide +kernel, rfl, by decide +kernel, by decide +kernel⟩
def F_law_rules : DE → SR :=
  (sSeq ((sSet 6 (fLst 0 aNil)))
  (sSeq ((sFor (iArgs rng1 (aCons (getV 2) aNil)) (gSet 7) (sSeq ((sOwn 6 gAppend (aCons (fView (fCall (g_law_rule) (aCons (fCall (g_law_cell) (aCons (getV 0) (aCons (fBin dAdd (getV 1) (getV 7)) aNil))) (aCons (getV 3) (aCons (getV 4) (aCons (getV 5) (aCons (getV 6) aNil))))))) aNil)))
  sNil) [7]))
  (sSeq (sRetV 6)
  sNil)))
def g_law_rules : List D → R RV := runF 6 8 F_law_rules
abbrev s_law_yes : Stmt := topS 44
theorem sc_law_yes : FnScope ["cell", "states", "row", "k", "digit"] ["cell", "states"] (defScope s_law_yes) := ⟨rfl, rfl, rfl, by decide +kernel, rfl, by decide +kernel, by decide +kernel⟩
def F_law_yes : DE → SR :=
  (sSeq ((sSet 2 (fCall (g_law_digits) (aCons (getV 0) (aCons (fBin dAdd (fLst 3 (aCons (cst (.int 8)) (aCons (cst (.int 9)) (aCons (cst (.int 5)) aNil)))) (fBin dMulW (fLst 1 (aCons (cst (.int 2000)) aNil)) (cst (.int 8)))) aNil)))))
  (sSeq ((sFrz 2 (sIf (fB (fBin (dEq false) (fBin dIxD (getV 2) (cst (.int 0))) (cst (.int 0)))) (sSeq ((sRet (fLc (iArgs rng1 (aCons (getV 1) aNil)) [3] (gSet 3) (fB (fBin (dEq false) (fBin dMod (fCall dInt (aCons (getV 3) aNil)) (fBin dAdd (cst (.int 1)) (fBin dIxD (getV 2) (cst (.int 2))))) (cst (.int 0)))) (fBin dSub (fBin dSub (getV 1) (cst (.int 1))) (getV 3)))))
  sNil) sNil)))
  (sSeq ((sRet (fLc (iSeq (fSl (getV 2) (pInt (cst (.int 3))) (pInt (fBin dAdd (cst (.int 3)) (fBin dIxD (getV 2) (cst (.int 1))))))) [4] (gSet 4) bYes (fBin dMod (fCall dInt (aCons (getV 4) aNil)) (getV 1)))))
  sNil)))
def g_law_yes : List D → R RV := runF 2 5 F_law_yes
abbrev s_law_each_once : Stmt := topS 45
theorem sc_law_each_once : FnScope ["values", "seen", "value"] ["values"] (defScope s_law_each_once) := ⟨rfl, rfl, rfl, by decide +kernel, rfl, by decide +kernel, by decide +kernel⟩
def F_law_each_once : DE → SR :=
  (sSeq ((sSet 1 (fDict0)))
  (sSeq ((sFor (iSeq (getV 0)) (gSet 2) (sSeq ((sPut 1 (getV 2) (cst (.bl true))))
  sNil) [2]))
  (sSeq ((sFrz 1 (sRet (fCall dSrt (aCons (fCall dListD (aCons (getV 1) aNil)) aNil)))))
  sNil)))
def g_law_each_once : List D → R RV := runF 1 3 F_law_each_once
abbrev s_law_due : Stmt := topS 46
theorem sc_law_due : FnScope ["letters", "states", "rules", "finals", "ordered", "found", "rule", "symbols", "symbol", "guess", "k"] ["letters", "states", "rules", "finals"] (defScope s_law_due) := ⟨rfl, rfl, rfl, by decide +kernel, rfl, by decide +kernel, by decide +kernel⟩
def F_law_due : DE → SR :=
  (sSeq ((sSet 4 (fCall (g_law_each_once) (aCons (getV 2) aNil))))
  (sSeq ((sSet 5 (fBin dAdd (fLc (iSeq (getV 2)) [6] (gSet 6) bYes (fBin dIxD (getV 6) (cst (.int 2)))) (fLc (iSeq (getV 2)) [6] (gSet 6) bYes (fBin dIxD (getV 6) (cst (.int 6)))))))
  (sSeq ((sFrz 5 (sSet 7 (fCall (g_law_each_once) (aCons (fLc (iSeq (getV 5)) [8] (gSet 8) (fB (fBin (dEq true) (getV 8) (cst (.str "")))) (getV 8)) aNil)))))
  (sSeq ((sSet 9 (cst .non)))
  (sSeq ((sFrz 4 (sFor (iArgs rng1 (aCons (fBin dSub (fCall dLen (aCons (getV 4) aNil)) (cst (.int 1))) aNil)) (gSet 10) (sSeq ((sFrz 9 (sIf ((bAnd (fB (fBin (dIsNn false) (getV 9) (cst .non))) (fB (fBin (dEq false) (fSl (fBin dIxD (getV 4) (getV 10)) pNone (pInt (cst (.int 3)))) (fSl (fBin dIxD (getV 4) (fBin dAdd (getV 10) (cst (.int 1)))) pNone (pInt (cst (.int 3)))))))) (sSeq ((sSet 9 (fSl (fBin dIxD (getV 4) (getV 10)) pNone (pInt (cst (.int 3))))))
  sNil) sNil)))
  sNil) [10])))
  (sSeq ((sFrz 7 (sFrz 9 (sRet (fTup 6 (aCons (getV 0) (aCons (getV 1) (aCons (fCall dTupleS (aCons (getV 4) aNil)) (aCons (fCall dTupleS (aCons (fCall (g_law_each_once) (aCons (getV 3) aNil)) aNil)) (aCons (fCall dTupleS (aCons (getV 7) aNil)) (aCons (getV 9) aNil)))))))))))
  sNil))))))
def g_law_due : List D → R RV := runF 4 11 F_law_due
abbrev s_is_alphabet : Stmt := topS 12
theorem sc_is_alphabet : FnScope ["value", "at", "letter"] ["value"] (defScope s_is_alphabet) := ⟨rfl, rfl, rfl, by decide +kernel, rfl, by decide +kernel, by decide +kernel⟩
def F_is_alphabet : DE → SR :=
  (sSeq ((sIf ((bOr (bNot (fT (fUn (dIs .str) (getV 0)))) (fB (fBin (dEq false) (getV 0) (cst (.str "")))))) (sSeq ((sRet (cst (.bl false))))
  sNil) sNil))
  (sSeq ((sFor (iArgs enA (aCons (getV 0) aNil)) (gTLD [1, 2]) (sSeq ((sIf ((bOr (fB (fBin (dInD true) (getV 2) (cst c_LETTERS))) ((bAnd (fB (fBin dGt (getV 1) (cst (.int 0)))) (fB (fBin dLe (getV 2) (fBin dIxD (getV 0) (fBin dSub (getV 1) (cst (.int 1)))))))))) (sSeq ((sRet (cst (.bl false))))
  sNil) sNil))
  sNil) [1, 2]))
  (sSeq ((sRet (cst (.bl true))))
  sNil)))
def g_is_alphabet : List D → R RV := runF 1 3 F_is_alphabet
abbrev s_is_whole : Stmt := topS 9
theorem sc_is_whole : FnScope ["value"] ["value"] (defScope s_is_whole) := ⟨rfl, rfl, rfl, by decide +kernel, rfl, by decide +kernel, by decide +kernel⟩
def F_is_whole : DE → SR :=
  (sSeq ((sRet ((fAnd (fUn (dIs .int) (getV 0)) (fNot (fUn (dIs .bool) (getV 0)))))))
  sNil)
def g_is_whole : List D → R RV := runF 1 1 F_is_whole
abbrev s_is_state : Stmt := topS 26
theorem sc_is_state : FnScope ["states", "value"] ["states", "value"] (defScope s_is_state) := ⟨rfl, rfl, rfl, by decide +kernel, rfl, by decide +kernel, by decide +kernel⟩
def F_is_state : DE → SR :=
  (sSeq ((sRet ((fAnd (fCall (g_is_whole) (aCons (getV 1) aNil)) (fChain dLe dLt (cst (.int 0)) (getV 1) (getV 0))))))
  sNil)
def g_is_state : List D → R RV := runF 2 2 F_is_state
abbrev s_signs_of : Stmt := topS 14
theorem sc_signs_of : FnScope ["letters"] ["letters"] (defScope s_signs_of) := ⟨rfl, rfl, rfl, by decide +kernel, rfl, by decide +kernel, by decide +kernel⟩
def F_signs_of : DE → SR :=
  (sSeq ((sRet (fBin dAdd (fTup 2 (aCons (cst (.str "<")) (aCons (cst (.str ">")) aNil))) (fCall dTupleS (aCons (getV 0) aNil)))))
  sNil)
def g_signs_of : List D → R RV := runF 1 1 F_signs_of
abbrev s_is_symbol : Stmt := topS 13
theorem sc_is_symbol : FnScope ["value", "sign"] ["value"] (defScope s_is_symbol) := ⟨rfl, rfl, rfl, by decide +kernel, rfl, by decide +kernel, by decide +kernel⟩
def F_is_symbol : DE → SR :=
  (sSeq ((sIf ((bOr (bNot (fT (fUn (dIs .str) (getV 0)))) (bNot (fB (fChain dLe dLe (cst (.int 1)) (fCall dLen (aCons (getV 0) aNil)) (cst (.int 8))))))) (sSeq ((sRet (cst (.bl false))))
  sNil) sNil))
  (sSeq ((sRet (fCall dAll (aCons (fLc (iSeq (getV 0)) [1] (gSet 1) bYes ((fOr (fBin (dInD false) (getV 1) (cst c_LETTERS)) (fOr (fBin (dInD false) (getV 1) (cst c_CAPITALS)) (fBin (dInD false) (getV 1) (cst c_DIGITS)))))) aNil))))
  sNil))
def g_is_symbol : List D → R RV := runF 1 2 F_is_symbol
abbrev s_is_key : Stmt := topS 28
theorem sc_is_key : FnScope ["letters", "states", "key"] ["letters", "states", "key"] (defScope s_is_key) := ⟨rfl, rfl, rfl, by decide +kernel, rfl, by decide +kernel, by decide +kernel⟩
def F_is_key : DE → SR :=
  (sSeq ((sIf ((bOr (bNot (fT (fCall (g_is_state) (aCons (getV 1) (aCons (fBin dIxD (getV 2) (cst (.int 0))) aNil))))) (bOr (bNot (fT (fUn (dIs .str) (fBin dIxD (getV 2) (cst (.int 1)))))) (bNot (fT (fUn (dIs .str) (fBin dIxD (getV 2) (cst (.int 2))))))))) (sSeq ((sRet (cst (.bl false))))
  sNil) sNil))
  (sSeq ((sRet ((fAnd (fBin (dInD false) (fBin dIxD (getV 2) (cst (.int 1))) (fCall (g_signs_of) (aCons (getV 0) aNil))) ((fOr (fBin (dEq false) (fBin dIxD (getV 2) (cst (.int 2))) (cst (.str ""))) (fCall (g_is_symbol) (aCons (fBin dIxD (getV 2) (cst (.int 2))) aNil))))))))
  sNil))
def g_is_key : List D → R RV := runF 3 3 F_is_key
abbrev s_is_said : Stmt := topS 27
theorem sc_is_said : FnScope ["value", "letter"] ["value"] (defScope s_is_said) := ⟨rfl, rfl, rfl, by decide +kernel, rfl, by decide +kernel, by decide +kernel⟩
def F_is_said : DE → SR :=
  (sSeq ((sRet ((fAnd (fUn (dIs .str) (getV 0)) (fAnd (fBin dLe (fCall dLen (aCons (getV 0) aNil)) (cst (.int 3))) (fCall dAll (aCons (fLc (iSeq (getV 0)) [1] (gSet 1) bYes (fBin (dInD false) (getV 1) (cst c_LETTERS))) aNil)))))))
  sNil)
def g_is_said : List D → R RV := runF 1 2 F_is_said
abbrev s_is_act : Stmt := topS 29
theorem sc_is_act : FnScope ["states", "key", "act", "after", "move", "deed", "symbol", "said"] ["states", "key", "act"] (defScope s_is_act) := ⟨rfl, rfl, rfl, by decide +kernel, rfl, by decide +kernel, by decide +kernel⟩
def F_is_act : DE → SR :=
  (sSeq ((sAsg (gTLD [3, 4, 5, 6, 7]) (getV 2)))
  (sSeq ((sIf ((bOr (bNot (fT (fCall (g_is_state) (aCons (getV 0) (aCons (getV 3) aNil))))) (bOr (bNot (fT (fCall (g_is_whole) (aCons (getV 4) aNil)))) (bNot (fB (fChain dLe dLe (fUn dNeg (cst (.int 1))) (getV 4) (cst (.int 1)))))))) (sSeq ((sRet (cst (.bl false))))
  sNil) sNil))
  (sSeq ((sIf ((bOr ((bAnd (fB (fBin (dEq false) (fBin dIxD (getV 1) (cst (.int 1))) (cst (.str "<")))) (fB (fBin (dEq false) (getV 4) (fUn dNeg (cst (.int 1))))))) ((bAnd (fB (fBin (dEq false) (fBin dIxD (getV 1) (cst (.int 1))) (cst (.str ">")))) (fB (fBin (dEq false) (getV 4) (cst (.int 1)))))))) (sSeq ((sRet (cst (.bl false))))
  sNil) sNil))
  (sSeq ((sIf ((bOr (bNot (fT (fUn (dIs .str) (getV 5)))) (bOr (fB (fBin (dInD true) (getV 5) (cst c_DEEDS))) (bNot (fT (fCall (g_is_said) (aCons (getV 7) aNil))))))) (sSeq ((sRet (cst (.bl false))))
  sNil) sNil))
  (sSeq ((sIf ((bAnd (fB (fBin (dEq false) (fBin dIxD (getV 1) (cst (.int 2))) (cst (.str "")))) (fB (fBin (dInD false) (getV 5) (fTup 2 (aCons (cst (.str "pop")) (aCons (cst (.str "swap")) aNil))))))) (sSeq ((sRet (cst (.bl false))))
  sNil) sNil))
  (sSeq ((sIf (fB (fBin (dInD false) (getV 5) (fTup 2 (aCons (cst (.str "push")) (aCons (cst (.str "swap")) aNil))))) (sSeq ((sRet (fCall (g_is_symbol) (aCons (getV 6) aNil))))
  sNil) sNil))
  (sSeq ((sRet ((fAnd (fUn (dIs .str) (getV 6)) (fBin (dEq false) (getV 6) (cst (.str "")))))))
  sNil)))))))
def g_is_act : List D → R RV := runF 3 8 F_is_act
abbrev s_is_row : Stmt := topS 10
theorem sc_is_row : FnScope ["value"] ["value"] (defScope s_is_row) := ⟨rfl, rfl, rfl, by decide +kernel, rfl, by decide +kernel, by decide +kernel⟩
def F_is_row : DE → SR :=
  (sSeq ((sRet (fUn (dIs2 .list .tuple) (getV 0))))
  sNil)
def g_is_row : List D → R RV := runF 1 1 F_is_row
abbrev s_is_rule : Stmt := topS 30
theorem sc_is_rule : FnScope ["letters", "states", "rule"] ["letters", "states", "rule"] (defScope s_is_rule) := ⟨rfl, rfl, rfl, by decide +kernel, rfl, by decide +kernel, by decide +kernel⟩
def F_is_rule : DE → SR :=
  (sSeq ((sIf ((bOr (bNot (fT (fCall (g_is_row) (aCons (getV 2) aNil)))) (fB (fBin (dEq true) (fCall dLen (aCons (getV 2) aNil)) (cst (.int 8)))))) (sSeq ((sRet (cst (.bl false))))
  sNil) sNil))
  (sSeq ((sRet ((fAnd (fCall (g_is_key) (aCons (getV 0) (aCons (getV 1) (aCons (fSl (getV 2) pNone (pInt (cst (.int 3)))) aNil)))) (fCall (g_is_act) (aCons (getV 1) (aCons (fSl (getV 2) pNone (pInt (cst (.int 3)))) (aCons (fSl (getV 2) (pInt (cst (.int 3))) pNone) aNil))))))))
  sNil))
def g_is_rule : List D → R RV := runF 3 3 F_is_rule
abbrev s_check_machine : Stmt := topS 31
theorem sc_check_machine : FnScope ["letters", "states", "rules", "yes", "index", "rule", "state"] ["letters", "states", "rules", "yes"] (defScope s_check_machine) := ⟨rfl, rfl, rfl, by decide +kernel, rfl, by decide +kernel, by decide +kernel⟩
def F_check_machine : DE → SR :=
  (sSeq ((sIf (bNot (fT (fCall (g_is_alphabet) (aCons (getV 0) aNil)))) (sSeq ((sRaise "BadMachine" ["where"] (aCons (cst (.str "letters")) aNil)))
  sNil) sNil))
  (sSeq ((sIf ((bOr (bNot (fT (fCall (g_is_whole) (aCons (getV 1) aNil)))) (bNot (fB (fChain dLe dLe (cst (.int 1)) (getV 1) (cst c_MOST_STATES)))))) (sSeq ((sRaise "BadMachine" ["where"] (aCons (cst (.str "states")) aNil)))
  sNil) sNil))
  (sSeq ((sIf (fB (fBin dGt (fCall dLen (aCons (getV 2) aNil)) (cst c_MOST_RULES))) (sSeq ((sRaise "BadMachine" ["where"] (aCons (cst (.str "rules")) aNil)))
  sNil) sNil))
  (sSeq ((sFor (iArgs enA (aCons (getV 2) aNil)) (gTLD [4, 5]) (sSeq ((sIf (bNot (fT (fCall (g_is_rule) (aCons (getV 0) (aCons (getV 1) (aCons (getV 5) aNil)))))) (sSeq ((sRaise "BadMachine" ["where"] (aCons (getV 4) aNil)))
  sNil) sNil))
  sNil) [4, 5]))
  (sSeq ((sFor (iSeq (getV 3)) (gSet 6) (sSeq ((sIf (bNot (fT (fCall (g_is_state) (aCons (getV 1) (aCons (getV 6) aNil))))) (sSeq ((sRaise "BadMachine" ["where"] (aCons (cst (.str "yes")) aNil)))
  sNil) sNil))
  sNil) [6]))
  sNil)))))
def g_check_machine : List D → R RV := runF 4 7 F_check_machine
abbrev s_frozen : Stmt := topS 11
theorem sc_frozen : FnScope ["value", "part"] ["value"] (defScope s_frozen) := ⟨rfl, rfl, rfl, by decide +kernel, rfl, by decide +kernel, by decide +kernel⟩
def F_frozen (g : List D → R RV) : DE → SR :=
  (sSeq ((sIf (fT (fUn (dIs2 .list .tuple) (getV 0))) (sSeq ((sRet (fCall dTupleS (aCons (fLc (iSeq (getV 0)) [1] (gSet 1) bYes (fCall (g) (aCons (getV 1) aNil))) aNil))))
  sNil) sNil))
  (sSeq ((sRet (getV 0)))
  sNil))
def g_frozen : List D → R RV := fuelF (fun g => runF 1 2 (F_frozen g)) 8
abbrev s_first_guess : Stmt := topS 32
theorem sc_first_guess : FnScope ["rules", "at"] ["rules"] (defScope s_first_guess) := ⟨rfl, rfl, rfl, by decide +kernel, rfl, by decide +kernel, by decide +kernel⟩
def F_first_guess : DE → SR :=
  (sSeq ((sFor (iArgs rng1 (aCons (fBin dSub (fCall dLen (aCons (getV 0) aNil)) (cst (.int 1))) aNil)) (gSet 1) (sSeq ((sIf (fB (fBin (dEq false) (fSl (fBin dIxD (getV 0) (getV 1)) pNone (pInt (cst (.int 3)))) (fSl (fBin dIxD (getV 0) (fBin dAdd (getV 1) (cst (.int 1)))) pNone (pInt (cst (.int 3)))))) (sSeq ((sRet (fSl (fBin dIxD (getV 0) (getV 1)) pNone (pInt (cst (.int 3))))))
  sNil) sNil))
  sNil) [1]))
  (sSeq ((sRet (cst .non)))
  sNil))
def g_first_guess : List D → R RV := runF 1 2 F_first_guess
abbrev s_Machine_init : Stmt := (clsBody (topS 33)).getD 0 (.Pass ⟨0, 0, 0, 0⟩)
theorem sc_Machine_init : FnScope ["self", "letters", "states", "rules", "yes", "rows", "found", "rule", "symbol", "table"] ["self", "letters", "states", "rules", "yes"] (defScope s_Machine_init) := ⟨rfl, rfl, rfl, by decide +kernel, rfl, by decide +kernel, by decide +kernel⟩
def F_Machine_init : DE → SR :=
  (sSeq ((sExpr (fCall (g_check_machine) (aCons (getV 1) (aCons (getV 2) (aCons (getV 3) (aCons (getV 4) aNil)))))))
  (sSeq ((sSet 5 (fCall (g_frozen) (aCons (getV 3) aNil))))
  (sSeq ((sFldS ["Machine"] "letters" 0 (getV 1)))
  (sSeq ((sFldS ["Machine"] "states" 0 (getV 2)))
  (sSeq ((sFrz 5 (sFldS ["Machine"] "rules" 0 (fCall dTupleS (aCons (fUn dSS (getV 5)) aNil)))))
  (sSeq ((sFldS ["Machine"] "yes" 0 (fCall dTupleS (aCons (fUn dSS (getV 4)) aNil))))
  (sSeq ((sSet 6 (fBin dAdd (fLc (iSeq (getV 5)) [7] (gSet 7) (fB (fBin (dEq true) (fBin dIxD (getV 7) (cst (.int 2))) (cst (.str "")))) (fBin dIxD (getV 7) (cst (.int 2)))) (fLc (iSeq (getV 5)) [7] (gSet 7) (fB (fBin (dEq true) (fBin dIxD (getV 7) (cst (.int 6))) (cst (.str "")))) (fBin dIxD (getV 7) (cst (.int 6)))))))
  (sSeq ((sFrz 6 (sFldS ["Machine"] "symbols" 0 (fCall dTupleS (aCons (fUn dSS (getV 6)) aNil)))))
  (sSeq ((sFldS ["Machine"] "known_symbols" 0 (fDc (iSeq (fOwnF ["Machine"] "symbols" 0)) [8] (gSet 8) bYes (getV 8) (cst (.bl true)))))
  (sSeq ((sFldS ["Machine"] "guess" 0 (fCall (g_first_guess) (aCons (fOwnF ["Machine"] "rules" 0) aNil))))
  (sSeq ((sSet 9 (fDict0)))
  (sSeq ((sFor (iSeq (fOwnF ["Machine"] "rules" 0)) (gSet 7) (sSeq ((sPut 9 (fSl (getV 7) pNone (pInt (cst (.int 3)))) (fView (fBin dAdd (fGet2 (getV 9) (fSl (getV 7) pNone (pInt (cst (.int 3)))) (fTup 0 aNil)) (fTup 1 (aCons (fSl (getV 7) (pInt (cst (.int 3))) pNone) aNil))))))
  sNil) []))
  (sSeq ((sFrz 9 (sFldS ["Machine"] "_table" 0 (getV 9))))
  sNil)))))))))))))
def m_Machine : List D → R RV := mkI "Machine" 4 10 F_Machine_init
def dfl_Machine_3 : List D := [.tup []]
abbrev s_law_whole : Stmt := topS 35
theorem sc_law_whole : FnScope ["value"] ["value"] (defScope s_law_whole) := ⟨rfl, rfl, rfl, by decide +kernel, rfl, by decide +kernel, by decide +kernel⟩
def F_law_whole : DE → SR :=
  (sSeq ((sRet ((fAnd (fUn (dIs .int) (getV 0)) (fNot (fUn (dIs .bool) (getV 0)))))))
  sNil)
def g_law_whole : List D → R RV := runF 1 1 F_law_whole
abbrev s_law_same : Stmt := topS 36
theorem sc_law_same : FnScope ["told", "due", "k"] ["told", "due"] (defScope s_law_same) := ⟨rfl, rfl, rfl, by decide +kernel, rfl, by decide +kernel, by decide +kernel⟩
def F_law_same (g : List D → R RV) : DE → SR :=
  (sSeq ((sIf (fT (fUn (dIs .tuple) (getV 1))) (sSeq ((sIf ((bOr (bNot (fT (fUn (dIs .tuple) (getV 0)))) (fB (fBin (dEq true) (fCall dLen (aCons (getV 0) aNil)) (fCall dLen (aCons (getV 1) aNil)))))) (sSeq ((sRet (cst (.bl false))))
  sNil) sNil))
  (sSeq ((sFor (iArgs rng1 (aCons (fCall dLen (aCons (getV 1) aNil)) aNil)) (gSet 2) (sSeq ((sIf (bNot (fT (fCall (g) (aCons (fBin dIxD (getV 0) (getV 2)) (aCons (fBin dIxD (getV 1) (getV 2)) aNil))))) (sSeq ((sRet (cst (.bl false))))
  sNil) sNil))
  sNil) [2]))
  (sSeq ((sRet (cst (.bl true))))
  sNil))) sNil))
  (sSeq ((sIf (fB (fBin (dIsNn false) (getV 1) (cst .non))) (sSeq ((sRet (fBin (dIsNn false) (getV 0) (cst .non))))
  sNil) sNil))
  (sSeq ((sIf (fT (fUn (dIs .bool) (getV 1))) (sSeq ((sRet ((fAnd (fUn (dIs .bool) (getV 0)) (fBin (dEq false) (getV 0) (getV 1))))))
  sNil) sNil))
  (sSeq ((sIf (fT (fUn (dIs .int) (getV 1))) (sSeq ((sRet ((fAnd (fCall (g_law_whole) (aCons (getV 0) aNil)) (fBin (dEq false) (getV 0) (getV 1))))))
  sNil) sNil))
  (sSeq ((sRet ((fAnd (fUn (dIs .str) (getV 0)) (fBin (dEq false) (getV 0) (getV 1))))))
  sNil)))))
def g_law_same : List D → R RV := fuelF (fun g => runF 2 3 (F_law_same g)) 8
abbrev s_law_pool : Stmt := topS 41
theorem sc_law_pool : FnScope ["cell", "words", "row", "pool", "k", "part"] ["cell"] (defScope s_law_pool) := ⟨rfl, rfl, rfl, by decide +kernel, rfl, by decide +kernel, by decide +kernel⟩
def F_law_pool : DE → SR :=
  (sSeq ((sSet 1 (fLst 12 (aCons (cst (.str "say")) (aCons (cst (.str "push")) (aCons (cst (.str "yes")) (aCons (cst (.str "keep")) (aCons (cst (.str "Z")) (aCons (cst (.str "zz")) (aCons (cst (.str "10")) (aCons (cst (.str "9")) (aCons (cst (.str "letters")) (aCons (cst (.str "0")) (aCons (cst (.str "a")) (aCons (cst (.str "eightsym")) aNil)))))))))))))))
  (sSeq ((sSet 2 (fCall (g_law_digits) (aCons (getV 0) (aCons (fBin dMulW (fBin dAdd (fLst 3 (aCons (cst (.int 3)) (aCons (cst (.int 12)) (aCons (cst (.int 8)) aNil)))) (fBin dMulW (fLst 1 (aCons (cst (.int 62)) aNil)) (cst (.int 8)))) (cst (.int 5))) aNil)))))
  (sSeq ((sSet 3 (fLst 0 aNil)))
  (sSeq ((sFor (iArgs rng1 (aCons (cst (.int 5)) aNil)) (gSet 4) (sSeq ((sFrz 2 (sSet 5 (fSl (getV 2) (pInt (fBin dMulW (cst (.int 11)) (getV 4))) (pInt (fBin dAdd (fBin dMulW (cst (.int 11)) (getV 4)) (cst (.int 11))))))))
  (sSeq ((sFrz 5 (sIf (fB (fBin (dEq false) (fBin dIxD (getV 5) (cst (.int 0))) (cst (.int 0)))) (sSeq ((sFrz 1 (sOwn 3 gAppend (aCons (fBin dIxD (getV 1) (fBin dIxD (getV 5) (cst (.int 1)))) aNil))))
  sNil) (sSeq ((sOwn 3 gAppend (aCons (fCall (g_law_symbol) (aCons (fSl (getV 5) (pInt (cst (.int 2))) pNone) aNil)) aNil)))
  sNil))))
  sNil)) [4, 5]))
  (sSeq (sRetV 3)
  sNil)))))
def g_law_pool : List D → R RV := runF 1 6 F_law_pool
abbrev s_law_form : Stmt := topS 48
theorem sc_law_form : FnScope ["rule", "digit"] ["rule", "digit"] (defScope s_law_form) := ⟨rfl, rfl, rfl, by decide +kernel, rfl, by decide +kernel, by decide +kernel⟩
def F_law_form : DE → SR :=
  (sSeq ((sIf (fB (fBin (dEq false) (getV 1) (cst (.int 1)))) (sSeq ((sRet (fCall dList (aCons (getV 0) aNil))))
  sNil) sNil))
  (sSeq ((sRet (fCall dTupleS (aCons (getV 0) aNil))))
  sNil))
def g_law_form : List D → R RV := runF 2 2 F_law_form
abbrev s_law_fields : Stmt := topS 47
theorem sc_law_fields : FnScope ["machine"] ["machine"] (defScope s_law_fields) := ⟨rfl, rfl, rfl, by decide +kernel, rfl, by decide +kernel, by decide +kernel⟩
def F_law_fields : DE → SR :=
  (sSeq ((sRet (fTup 6 (aCons (fUn (dFld ["Machine"] "letters") (getV 0)) (aCons (fUn (dFld ["Machine"] "states") (getV 0)) (aCons (fUn (dFld ["Machine"] "rules") (getV 0)) (aCons (fUn (dFld ["Machine"] "yes") (getV 0)) (aCons (fUn (dFld ["Machine"] "symbols") (getV 0)) (aCons (fUn (dFld ["Machine"] "guess") (getV 0)) aNil)))))))))
  sNil)
def g_law_fields : List D → R RV := runF 1 1 F_law_fields
abbrev s_law : Stmt := topS 49
theorem sc_law : FnScope ["script", "head", "letters", "states", "many", "rules", "drawn", "forms", "handed", "k", "finals", "machine", "due", "other", "part"] ["script"] (defScope s_law) := ⟨rfl, rfl, rfl, by decide +kernel, rfl, by decide +kernel, by decide +kernel⟩
def F_law : DE → SR :=
  (sSeq ((sSet 1 (fCall (g_law_digits) (aCons (fCall (g_law_cell) (aCons (getV 0) (aCons (cst (.int 0)) aNil))) (aCons (fLst 6 (aCons (cst (.int 8)) (aCons (cst (.int 2000)) (aCons (cst (.int 10)) (aCons (cst (.int 41)) (aCons (cst (.int 2)) (aCons (cst (.int 2)) aNil))))))) aNil)))))
  (sSeq ((sSet 2 (fCall (g_law_any_letters) (aCons (fCall (g_law_cell) (aCons (getV 0) (aCons (cst (.int 1)) aNil))) aNil))))
  (sSeq ((sFrz 1 (sSet 3 (fBin dIxD (fLst 8 (aCons (cst (.int 1)) (aCons (cst (.int 2)) (aCons (cst (.int 3)) (aCons (cst (.int 4)) (aCons (cst (.int 6)) (aCons (cst (.int 2000)) (aCons (fBin dAdd (cst (.int 1)) (fBin dIxD (getV 1) (cst (.int 1)))) (aCons (cst (.int 5)) aNil))))))))) (fBin dIxD (getV 1) (cst (.int 0)))))))
  (sSeq ((sSet 4 (fBin dIxD (fLst 10 (aCons (cst (.int 6)) (aCons (cst (.int 3)) (aCons (cst (.int 9)) (aCons (cst (.int 1)) (aCons (cst (.int 12)) (aCons (cst (.int 7)) (aCons (cst (.int 4)) (aCons (cst (.int 2)) (aCons (fBin dIxD (getV 1) (cst (.int 3))) (aCons (fBin dIxD (getV 1) (cst (.int 3))) aNil))))))))))) (fBin dIxD (getV 1) (cst (.int 2))))))
  (sSeq ((sFrz 2 (sSet 5 (fCall (g_law_rules) (aCons (getV 0) (aCons (cst (.int 6)) (aCons (getV 4) (aCons (getV 2) (aCons (getV 3) (aCons (fCall (g_law_pool) (aCons (fCall (g_law_cell) (aCons (getV 0) (aCons (cst (.int 2)) aNil))) aNil)) aNil))))))))))
  (sSeq ((sSet 6 (fCall (g_law_yes) (aCons (fCall (g_law_cell) (aCons (getV 0) (aCons (cst (.int 3)) aNil))) (aCons (getV 3) aNil)))))
  (sSeq ((sSet 7 (fCall (g_law_digits) (aCons (fCall (g_law_cell) (aCons (getV 0) (aCons (cst (.int 4)) aNil))) (aCons (fBin dMulW (fLst 1 (aCons (cst (.int 2)) aNil)) (cst (.int 41))) aNil)))))
  (sSeq ((sFrz 5 (sFrz 7 (sSet 8 (fLcO (iArgs rng1 (aCons (getV 4) aNil)) [9] (gSet 9) bYes (fCall (g_law_form) (aCons (fBin dIxD (getV 5) (getV 9)) (aCons (fBin dIxD (getV 7) (getV 9)) aNil))))))))
  (sSeq ((sFrz 6 (sSet 10 (fCall dList (aCons (getV 6) aNil)))))
  (sSeq ((sIf ((bAnd (fB (fBin (dEq false) (fBin dIxD (getV 1) (cst (.int 4))) (cst (.int 1)))) (fB (fBin (dEq false) (fBin dIxD (getV 1) (cst (.int 5))) (cst (.int 1)))))) (sSeq ((sSet 11 (fView (fFr ((fCallK 3 1 (fun ds es => ds ++ es) m_Machine (aCons (getV 2) (aCons (getV 3) (aCons (fCall dTupleS (aCons (getV 8) aNil)) aNil))) (aCons (fCall dTupleS (aCons (getV 10) aNil)) aNil)))))))
  sNil) (sSeq ((sIf (fB (fBin (dEq false) (fBin dIxD (getV 1) (cst (.int 4))) (cst (.int 1)))) (sSeq ((sSet 11 (fView (fFr ((fCall m_Machine (aCons (getV 2) (aCons (getV 3) (aCons (fCall dTupleS (aCons (getV 8) aNil)) (aCons (fCall dTupleS (aCons (getV 10) aNil)) aNil))))))))))
  sNil) (sSeq ((sIf (bView (fB (fBin (dEq false) (fCall dLen (aCons (getV 10) aNil)) (cst (.int 0))))) (sSeq ((sSet 11 (fView (fFr ((fCall (fun ds => m_Machine (ds ++ dfl_Machine_3)) (aCons (getV 2) (aCons (getV 3) (aCons (getV 8) aNil)))))))))
  sNil) (sSeq ((sSet 11 (fView (fFr ((fCall m_Machine (aCons (getV 2) (aCons (getV 3) (aCons (getV 8) (aCons (getV 10) aNil))))))))))
  sNil)))
  sNil)))
  sNil)))
  (sSeq ((sSet 12 (fCall (g_law_due) (aCons (getV 2) (aCons (getV 3) (aCons (getV 5) (aCons (getV 6) aNil)))))))
  (sSeq ((sFrz 11 (sFrz 12 (sIf (bNot (fT (fCall (g_law_same) (aCons (fCall (g_law_fields) (aCons (getV 11) aNil)) (aCons (getV 12) aNil))))) (sSeq ((sRet (cst (.bl false))))
  sNil) sNil))))
  (sSeq ((sIf (bView ((bOr (fB (fBin (dEq true) (getV 8) (fLc (iArgs rng1 (aCons (getV 4) aNil)) [9] (gSet 9) bYes (fCall (g_law_form) (aCons (fBin dIxD (getV 5) (getV 9)) (aCons (fBin dIxD (getV 7) (getV 9)) aNil)))))) (fB (fBin (dEq true) (getV 10) (getV 6)))))) (sSeq ((sRet (cst (.bl false))))
  sNil) sNil))
  (sSeq ((sSet 13 (fCall m_Machine (aCons (getV 2) (aCons (getV 3) (aCons (fSl (getV 5) (pInt (cst (.int 1))) pNone) (aCons (fSl (getV 6) (pInt (cst (.int 1))) pNone) aNil)))))))
  (sSeq ((sFrz 13 (sIf (bNot (fT (fCall (g_law_same) (aCons (fCall (g_law_fields) (aCons (getV 13) aNil)) (aCons (fCall (g_law_due) (aCons (getV 2) (aCons (getV 3) (aCons (fSl (getV 5) (pInt (cst (.int 1))) pNone) (aCons (fSl (getV 6) (pInt (cst (.int 1))) pNone) aNil))))) aNil))))) (sSeq ((sRet (cst (.bl false))))
  sNil) sNil)))
  (sSeq ((sFor (iArgs rng1 (aCons (getV 4) aNil)) (gSet 9) (sAlias 8 9 14 (fun kk => sSeq (sPutA 8 3 (getV 3) kk) ((fun kk => sSeq (sPutA 8 7 (cst (.str "changed")) kk) ((fun _ => sNil) kk)) kk))) [14]))
  (sSeq ((sOwnT 8 gAppendT (aCons (cst (.str "changed")) aNil)))
  (sSeq ((sOwn 10 gAppend (aCons (getV 3) aNil)))
  (sSeq ((sRet (fCall (g_law_same) (aCons (fCall (g_law_fields) (aCons (getV 11) aNil)) (aCons (getV 12) aNil)))))
  sNil)))))))))))))))))))
def g_law : List D → R RV := runF 1 15 F_law
end
end K00


set_option maxRecDepth 100000
set_option maxHeartbeats 4000000
namespace GM
open PySem DL
/-! ### rules as data -/
structure Rul where
  s : Int
  g : Str
  t : Str
  a : Int
  m : Int
  d : Str
  y : Str
  z : Str
deriving DecidableEq
def Rul.dt (r : Rul) : D := .tup [.int r.s, .str r.g, .str r.t, .int r.a, .int r.m, .str r.d, .str r.y, .str r.z]
def Rul.row (r : Rul) : List L2.Key := [.inl r.s, .inr r.g, .inr r.t, .inl r.a, .inl r.m, .inr r.d, .inr r.y, .inr r.z]
theorem Rul.row_inj {r q : Rul} (h : r.row = q.row) : r = q := by
  cases r; cases q
  simp only [Rul.row, List.cons.injEq, Sum.inl.injEq, Sum.inr.injEq, and_true] at h
  simp only [Rul.mk.injEq]
  exact h
theorem Rul.row_dt (r : Rul) : DL.D.tup (r.row.map keyD) = r.dt := rfl
theorem Rul.rowD (r : Rul) : rowD r.dt = some r.row := rfl
def LET : Str := "abcdefghijklmnopqrstuvwxyz"
def CAP : Str := "ABCDEFGHIJKLMNOPQRSTUVWXYZ"
def DIG : Str := "0123456789"
def one (c : Nat) : Str := ⟨#[c]⟩
def chS (x : Str) : List Str := x.cps.toList.map one
theorem chars_eq (x : Str) : chars x = (chS x).map D.str := by unfold chars chS; rw [List.map_map]; rfl
theorem chars_one (x : Str) : chars x = x.cps.toList.map fun c => D.str (one c) := rfl
theorem chS_len (x : Str) : (chS x).length = x.length := by unfold chS; rw [List.length_map]; rfl
theorem one_len (c : Nat) : (one c).length = 1 := rfl
def symB (x : Str) : Bool := (decide (1 ≤ x.length) && decide (x.length ≤ 8)) && x.cps.toList.all fun c => decide (c ∈ LET.cps.toList) || (decide (c ∈ CAP.cps.toList) || decide (c ∈ DIG.cps.toList))
def saidB (x : Str) : Bool := decide (x.length ≤ 3) && x.cps.toList.all fun c => decide (c ∈ LET.cps.toList)
def signL (L : Str) : List Str := "<" :: ">" :: chS L
def stB (n i : Int) : Bool := decide (0 ≤ i) && decide (i < n)
def deeds : List Str := ["keep", "pop", "push", "swap"]
def keyB (L : Str) (n : Int) (r : Rul) : Bool := stB n r.s && (decide (r.g ∈ signL L) && (decide (r.t = "") || symB r.t))
def actB (n : Int) (r : Rul) : Bool := stB n r.a && (decide (-1 ≤ r.m) && (decide (r.m ≤ 1) && (!(decide (r.g = "<") && decide (r.m = -1)) && (!(decide (r.g = ">") && decide (r.m = 1)) && (decide (r.d ∈ deeds) && (saidB r.z &&
  (!(decide (r.t = "") && (decide (r.d = "pop") || decide (r.d = "swap"))) && (if r.d = "push" ∨ r.d = "swap" then symB r.y else decide (r.y = "")))))))))
def ruleB (L : Str) (n : Int) (r : Rul) : Bool := keyB L n r && actB n r
theorem in_one {c : Nat} {z : Str} : dInD false (.str (one c)) (.str z) = .ok (.fr (.bl (decide (c ∈ z.cps.toList)))) := by
  show (if (one c).length = 1 then okd (.bl (decide ((one c).cps.getD 0 0 ∈ z.cps.toList))) else .stuck) = _
  rw [if_pos (one_len c)]
  rfl
theorem nin_one {c : Nat} {z : Str} : dInD true (.str (one c)) (.str z) = .ok (.fr (.bl (!decide (c ∈ z.cps.toList)))) := by
  show (if (one c).length = 1 then okd (.bl (!decide ((one c).cps.getD 0 0 ∈ z.cps.toList))) else .stuck) = _
  rw [if_pos (one_len c)]
  rfl
theorem all_bls {α : Type} (f : α → Bool) (xs : List α) : dAll [.lst (xs.map fun x => .bl (f x))] = .ok (.fr (.bl (xs.all f))) := by
  have e : xs.map (fun x => D.bl (f x)) = (xs.map f).map D.bl := by rw [List.map_map]; rfl
  rw [e]
  simp only [dAll, bls_map]
  rw [List.all_map]
  rfl
theorem comp_true {δ : DE} {β : Type} {bd : D → DE → Option DE} {fe : DE → R RV} (g : β → D) (k : β → D) (xs : List β) (h : ∀ b ∈ xs, ∃ δ1 r, bd (g b) δ = some δ1 ∧ fe δ1 = .ok r ∧ r.d = k b) : compL bd bYes fe δ (xs.map g) = .ok (xs.map k) := comp_map g k xs h
/-- a comprehension with a test -/
theorem comp_filter {δ : DE} {β : Type} {bd : D → DE → Option DE} {ft : DE → R Bool} {fe : DE → R RV} (g : β → D) (k : β → D) (p : β → Bool) : ∀ xs : List β, (∀ b ∈ xs, ∃ δ1, bd (g b) δ = some δ1 ∧ ft δ1 = .ok (p b) ∧ (p b = true → ∃ r, fe δ1 = .ok r ∧ r.d = k b)) → compL bd ft fe δ (xs.map g) = .ok ((xs.filter p).map k)
  | [], _ => rfl
  | b :: xs, h => by
    obtain ⟨δ1, e1, e2, e3⟩ := h b List.mem_cons_self
    have ih := comp_filter g k p xs fun b hb => h b (List.mem_cons_of_mem _ hb)
    rw [List.map_cons, compL]
    simp only [e1, e2]
    cases hp : p b with
    | false => rw [if_neg (by decide), ih, List.filter_cons_of_neg (by rw [hp]; decide)]
    | true =>
      obtain ⟨r, e4, e5⟩ := e3 hp
      rw [if_pos rfl, e4, ih, List.filter_cons_of_pos hp]
      show R.ok (r.d :: _) = _
      rw [e5]; rfl
end GM
namespace DL
@[simp] theorem ev_asg {bd : D → DE → Option DE} {f : DE → R RV} {δ : DE} : sAsg bd f δ = lift (f δ) δ fun r => match bd r.d δ with
  | some δ' => .nx δ'
  | none => .stuck := (Eq.refl _).trans (Eq.refl _)
@[simp] theorem ev_expr {f : DE → R RV} {δ : DE} : sExpr f δ = lift (f δ) δ fun _ => .nx δ := (Eq.refl _).trans (Eq.refl _)
/-- a unit-wide rule for the loops: every turn goes on -/
theorem forL_all {F : DE → SR} {bd : D → DE → Option DE} {fg : List Nat} (δ : DE) : ∀ ds : List D, (∀ d ∈ ds, ∃ δ1 δ2, bd d δ = some δ1 ∧ F δ1 = .nx δ2 ∧ fgtS fg δ2 = δ) → forL bd F fg ds δ = .nx δ
  | [], _ => rfl
  | d :: ds, h => by
    obtain ⟨δ1, δ2, e1, e2, e3⟩ := h d List.mem_cons_self
    rw [forL]
    simp only [e1, e2, e3]
    exact forL_all δ ds fun d hd => h d (List.mem_cons_of_mem _ hd)
end DL


set_option maxRecDepth 100000
set_option maxHeartbeats 4000000
namespace K00
open PySem DL GM
/-! ### texts.py, machines.py: what is right -/
theorem whole_int (i : Int) : g_is_whole [.int i] = .ok (.fr (.bl true)) := by
  unfold g_is_whole runF F_is_whole
  simp
theorem state_ok (n i : Int) : g_is_state [.int n, .int i] = .ok (.fr (.bl (stB n i))) := by
  unfold g_is_state runF F_is_state stB
  by_cases h : 0 ≤ i
  · simp [whole_int, h]
  · simp [whole_int, h]
theorem comp_in {δ : DE} (x : Str) (p : Nat → Bool) {fe : DE → R RV} {j : Nat} (h : ∀ c, fe (δ.set j (some (.fr (.str (one c))))) = .ok (.fr (.bl (p c)))) : compL (gSet j) bYes fe δ (chars x) = .ok (x.cps.toList.map fun c => .bl (p c)) := by
  rw [chars_one]
  exact comp_map (fun c => D.str (one c)) (fun c => .bl (p c)) _ fun c _ => ⟨_, _, rfl, h c, rfl⟩
theorem symbol_ok (x : Str) (hl : x.length ≤ SZ) : g_is_symbol [.str x] = .ok (.fr (.bl (symB x))) := by
  unfold g_is_symbol runF F_is_symbol symB
  by_cases h1 : 1 ≤ x.length
  · by_cases h2 : x.length ≤ 8
    · have h1' : (1 : Int) ≤ (x.length : Int) := by omega
      have h2' : (x.length : Int) ≤ 8 := by omega
      have c := lc_ok (fi := iSeq (getV 0)) (vs := [1]) (bd := gSet 1) (ft := bYes) (δ := [some (.fr (.str x)), none]) (ds := chars x)
        (fe := (fOr (fBin (dInD false) (getV 1) (cst c_LETTERS)) (fOr (fBin (dInD false) (getV 1) (cst c_CAPITALS)) (fBin (dInD false) (getV 1) (cst c_DIGITS)))))
        (es := x.cps.toList.map fun c => .bl (decide (c ∈ LET.cps.toList) || (decide (c ∈ CAP.cps.toList) || decide (c ∈ DIG.cps.toList)))) (by simp) (comp_in x _ fun c => by
          have e1 : dInD false (.str (one c)) c_LETTERS = .ok (.fr (.bl (decide (c ∈ LET.cps.toList)))) := in_one
          have e2 : dInD false (.str (one c)) c_CAPITALS = .ok (.fr (.bl (decide (c ∈ CAP.cps.toList)))) := in_one
          have e3 : dInD false (.str (one c)) c_DIGITS = .ok (.fr (.bl (decide (c ∈ DIG.cps.toList)))) := in_one
          have gg : getV 1 ((fgtS [1] [some (.fr (.str x)), none]).set 1 (some (.fr (.str (one c))))) = .ok (.fr (.str (one c))) := rfl
          by_cases c1 : c ∈ LET.cps.toList
          · simp only [ev_fOr, ev_bin, gg, bd_ok, ev_cst, rv_fr, e1, e2, e3, tru_bl, c1]; rfl
          · by_cases c2 : c ∈ CAP.cps.toList
            · simp only [ev_fOr, ev_bin, gg, bd_ok, ev_cst, rv_fr, e1, e2, e3, tru_bl, c1, c2]; rfl
            · simp only [ev_fOr, ev_bin, gg, bd_ok, ev_cst, rv_fr, e1, e2, e3, tru_bl, c1, c2]; rfl) (by rw [List.length_map]; exact hl)
      simp [len_str hl, h1', h2', c, all_bls, h1, h2]
    · have h2' : ¬ (x.length : Int) ≤ 8 := by omega
      have h1' : (1 : Int) ≤ (x.length : Int) := by omega
      simp [len_str hl, h1', h2', h2]
  · have h1' : ¬ (1 : Int) ≤ (x.length : Int) := by omega
    simp [len_str hl, h1', h1]
theorem said_ok (x : Str) (hl : x.length ≤ SZ) : g_is_said [.str x] = .ok (.fr (.bl (saidB x))) := by
  unfold g_is_said runF F_is_said saidB
  by_cases h1 : x.length ≤ 3
  · have h1' : (x.length : Int) ≤ 3 := by omega
    have c := lc_ok (fi := iSeq (getV 0)) (vs := [1]) (bd := gSet 1) (ft := bYes) (δ := [some (.fr (.str x)), none]) (ds := chars x)
        (fe := (fBin (dInD false) (getV 1) (cst c_LETTERS)))
        (es := x.cps.toList.map fun c => .bl (decide (c ∈ LET.cps.toList))) (by simp) (comp_in x _ fun c => by
          have e1 : dInD false (.str (one c)) c_LETTERS = .ok (.fr (.bl (decide (c ∈ LET.cps.toList)))) := in_one
          have gg : getV 1 ((fgtS [1] [some (.fr (.str x)), none]).set 1 (some (.fr (.str (one c))))) = .ok (.fr (.str (one c))) := rfl
          simp only [ev_bin, gg, bd_ok, ev_cst, rv_fr, e1]) (by rw [List.length_map]; exact hl)
    simp [len_str hl, h1', c, all_bls, h1]
  · have h1' : ¬ (x.length : Int) ≤ 3 := by omega
    simp [len_str hl, h1', h1]
theorem signs_ok (L : Str) (hl : L.length ≤ 1000) : g_signs_of [.str L] = .ok (.fr (.tup ((signL L).map D.str))) := by
  unfold g_signs_of runF F_signs_of signL
  have e : dTupleS [.str L] = .ok (.fr (.tup (chars L))) := tupleS_str (by unfold SZ; omega)
  have a := add_tup (xs := [.str "<", .str ">"]) (ys := chars L) (by rw [chars_eq, List.length_map, chS_len]; unfold SZ; simp only [List.length_cons, List.length_nil]; omega)
  rw [chars_eq] at e a
  simp [e, a]
end K00


set_option maxRecDepth 100000
set_option maxHeartbeats 4000000
namespace K00
open PySem DL GM
theorem key_ok (L : Str) (n : Int) (r : Rul) (hL : L.length ≤ 1000) (ht : r.t.length ≤ SZ) : g_is_key [.str L, .int n, .tup [.int r.s, .str r.g, .str r.t]] = .ok (.fr (.bl (keyB L n r))) := by
  unfold g_is_key runF F_is_key keyB
  cases h1 : stB n r.s with
  | false => simp [state_ok, h1]
  | true =>
    by_cases h2 : r.g ∈ signL L
    · by_cases h3 : r.t = ""
      · simp [state_ok, h1, signs_ok L hL, in_strs, h2, eq_str, h3]
      · simp [state_ok, h1, signs_ok L hL, in_strs, h2, eq_str, h3, symbol_ok r.t ht]
    · simp [state_ok, h1, signs_ok L hL, in_strs, h2]
theorem act_ok (n : Int) (r : Rul) (hy : r.y.length ≤ SZ) (hz : r.z.length ≤ SZ) : g_is_act [.int n, .tup [.int r.s, .str r.g, .str r.t], .tup [.int r.a, .int r.m, .str r.d, .str r.y, .str r.z]] = .ok (.fr (.bl (actB n r))) := by
  unfold g_is_act runF F_is_act actB
  have eD : dInD true (.str r.d) (.tup [.str "keep", .str "pop", .str "push", .str "swap"]) = .ok (.fr (.bl (!decide (r.d ∈ deeds)))) := nin_strs (ys := deeds)
  have eP : dInD false (.str r.d) (.tup [.str "pop", .str "swap"]) = .ok (.fr (.bl (decide (r.d ∈ (["pop", "swap"] : List Str))))) := in_strs (ys := ["pop", "swap"])
  have eU : dInD false (.str r.d) (.tup [.str "push", .str "swap"]) = .ok (.fr (.bl (decide (r.d ∈ (["push", "swap"] : List Str))))) := in_strs (ys := ["push", "swap"])
  cases h1 : stB n r.a with
  | false => simp [state_ok, h1]
  | true =>
    by_cases h2 : -1 ≤ r.m
    · by_cases h3 : r.m ≤ 1
      · by_cases h4 : r.g = "<" ∧ r.m = -1
        · simp [state_ok, h1, whole_int, h4, eq_str, eq_int]
        · by_cases h5 : r.g = ">" ∧ r.m = 1
          · simp [state_ok, h1, whole_int, h5, eq_str, eq_int]
          · have t1 : ∀ (q : SR) (q2 : SR), (if r.g = "<" then (if r.m = -1 then q else q2) else q2) = q2 := fun q q2 => by
              by_cases c1 : r.g = "<"
              · by_cases c2 : r.m = -1
                · exact absurd ⟨c1, c2⟩ h4
                · rw [if_pos c1, if_neg c2]
              · rw [if_neg c1]
            by_cases h6 : r.d ∈ deeds
            · cases h7 : saidB r.z with
              | false => 
                have h4' := not_and.mp h4
                have h5' := not_and.mp h5
                by_cases g1 : r.g = "<" <;> by_cases g2 : r.g = ">" <;> simp_all [state_ok, whole_int, eq_str, eq_int, said_ok r.z hz]
              | true =>
                have h4' := not_and.mp h4
                have h5' := not_and.mp h5
                by_cases k1 : r.d = "push" <;> by_cases k2 : r.d = "swap" <;> by_cases k3 : r.d = "pop" <;> by_cases k4 : r.t = "" <;> by_cases g1 : r.g = "<" <;> by_cases g2 : r.g = ">" <;> simp_all [state_ok, whole_int, eq_str, eq_int, said_ok r.z hz, symbol_ok r.y hy]
            · have h4' := not_and.mp h4
              have h5' := not_and.mp h5
              by_cases g1 : r.g = "<" <;> by_cases g2 : r.g = ">" <;> simp_all [state_ok, whole_int, eq_str, eq_int]
      · simp [state_ok, h1, whole_int, h2, h3]
    · simp [state_ok, h1, whole_int, h2]
theorem cut_hd {r : Rul} : cutL [DL.D.int r.s, .str r.g, .str r.t, .int r.a, .int r.m, .str r.d, .str r.y, .str r.z] none (some 3) = [.int r.s, .str r.g, .str r.t] := rfl
theorem cut_tl {r : Rul} : cutL [DL.D.int r.s, .str r.g, .str r.t, .int r.a, .int r.m, .str r.d, .str r.y, .str r.z] (some 3) none = [.int r.a, .int r.m, .str r.d, .str r.y, .str r.z] := rfl
theorem rule_ok (L : Str) (n : Int) (r : Rul) (hL : L.length ≤ 1000) (ht : r.t.length ≤ SZ) (hy : r.y.length ≤ SZ) (hz : r.z.length ≤ SZ) : g_is_rule [.str L, .int n, r.dt] = .ok (.fr (.bl (ruleB L n r))) := by
  unfold g_is_rule runF F_is_rule ruleB Rul.dt
  have k := key_ok L n r hL ht
  have a := act_ok n r hy hz
  have ir : g_is_row [.tup [.int r.s, .str r.g, .str r.t, .int r.a, .int r.m, .str r.d, .str r.y, .str r.z]] = .ok (.fr (.bl true)) := rfl
  have p3 : pInt (cst (.int 3)) [some (.fr (.str L)), some (.fr (.int n)), some (.fr (.tup [.int r.s, .str r.g, .str r.t, .int r.a, .int r.m, .str r.d, .str r.y, .str r.z]))] = .ok (some 3) := rfl
  cases h : keyB L n r with
  | false => simp [ir, ne_int, p3, cut_hd, cut_tl, k, h]
  | true => simp [ir, ne_int, p3, cut_hd, cut_tl, k, h, a]
end K00


set_option maxRecDepth 100000
set_option maxHeartbeats 4000000
namespace DL
section
variable {α : Type} {c : Prop} [Decidable c]
theorem pu_nx {a b : DE} : (if c then SR.nx a else SR.nx b) = SR.nx (if c then a else b) := by split <;> rfl
theorem pu_cons {a b : α} {l m : List α} : (if c then a :: l else b :: m) = (if c then a else b) :: (if c then l else m) := by split <;> rfl
theorem pu_some {a b : α} : (if c then some a else some b) = some (if c then a else b) := by split <;> rfl
theorem pu_fr {a b : D} : (if c then RV.fr a else RV.fr b) = RV.fr (if c then a else b) := by split <;> rfl
theorem pu_int {a b : Int} : (if c then D.int a else D.int b) = D.int (if c then a else b) := by split <;> rfl
theorem pu_str {a b : PySem.Str} : (if c then D.str a else D.str b) = D.str (if c then a else b) := by split <;> rfl
theorem pu_ok {a b : α} : (if c then R.ok a else R.ok b) = R.ok (if c then a else b) := by split <;> rfl
theorem pu_tf : (if c then true else false) = decide c := by split <;> simp [*]
theorem pu_bl {a b : Bool} : (if c then D.bl a else D.bl b) = D.bl (if c then a else b) := by split <;> rfl
end
end DL
namespace K00
open PySem DL GM
/-! ### what the laws draw -/
def okT : R RV → Bool
  | .ok (.fr (.bl true)) => true
  | _ => false
theorem okT_eq {r : R RV} (h : okT r = true) : r = .ok (.fr (.bl true)) := by
  unfold okT at h
  split at h
  · rfl
  · cases h
def alB (L : Str) : Bool := okT (g_is_alphabet [.str L]) && (decide (1 ≤ L.length) && (decide (L.length ≤ 26) && L.cps.toList.all fun c => decide (c ∈ LET.cps.toList)))
/-- what is needed of a symbol -/
def symP (x : Str) : Prop := symB x = true ∧ x ≠ "" ∧ x.length ≤ 8
theorem symB_P {x : Str} (h : symB x = true) : symP x := by
  refine ⟨h, fun e => ?_, ?_⟩
  · subst e; exact absurd h (by decide +kernel)
  · unfold symB at h
    simp only [Bool.and_eq_true, decide_eq_true_eq] at h
    exact h.1.2
theorem pick {α : Type} {l : List α} {f : α → D} {i : Int} (h : 0 ≤ i ∧ i < l.length) : ∃ x ∈ l, dIxD (.lst (l.map f)) (.int i) = .ok (.fr (f x)) := by
  have hi : i.toNat < l.length := by omega
  refine ⟨l[i.toNat], List.getElem_mem _, ?_⟩
  rw [ixi_lst h.1, List.getElem?_map, List.getElem?_eq_getElem hi]
  rfl
end K00


set_option maxRecDepth 100000
set_option maxHeartbeats 4000000
namespace K00
open PySem DL

/-! ### the law's generator -/
theorem cell_ok (ns : List Int) (k : Nat) (hk2 : k < 2 ^ 32 := by decide) : ∃ c : Int, g_law_cell [.lst (ns.map D.int), .int k] = .ok (.fr (.int c)) := by
  by_cases hk : k < ns.length
  · refine ⟨ns[k], ?_⟩
    have e : (ns.map D.int)[k]? = some (.int ns[k]) := by rw [List.getElem?_map, List.getElem?_eq_getElem hk]; rfl
    have hk' : (k : Int) < ((ns.map D.int).length : Int) := by rw [List.length_map]; omega
    unfold g_law_cell runF F_law_cell
    simp [hk', List.getElem?_eq_getElem hk]
    simp [hk]
  · have hk' : ¬ (k : Int) < ((ns.map D.int).length : Int) := by rw [List.length_map]; omega
    have L := forL_fold (F := sSeq (sSet 2 (fBin dMod (fCall dInt (aCons (fBin dAdd (fBin dMulW (getV 2) (cst (.int 31))) (fBin dMod (fCall dInt (aCons (getV 3) aNil)) (cst (.int 1000003)))) aNil)) (cst (.int 1000003)))) sNil) (bd := gSet 3) (fg := [3]) D.int
      (fun s : Int => [some (.fr (.lst (ns.map D.int))), some (.fr (.int k)), some (.fr (.int s)), none]) (fun s c => (s * 31 + c % 1000003) % 1000003) (fun s => 0 ≤ s ∧ s < 1000003) ns 17 (fun a b _ ha => by
        refine ⟨_, [some (.fr (.lst (ns.map D.int))), some (.fr (.int k)), some (.fr (.int ((a * 31 + b % 1000003) % 1000003))), some (.fr (.int b))], rfl, ?_, rfl, by omega, by omega⟩
        simp [muw_64 (i := a) (j := 31) (by omega) (by omega), mod_int]) (by omega)
    obtain ⟨L1, L2⟩ := L
    generalize ns.foldl (fun s c => (s * 31 + c % 1000003) % 1000003) 17 = t at L1 L2
    have m1 := muw_64 (i := t + 7) (j := (k : Int) + 3) (by omega) (by omega)
    have m2 := muw_bg (n := 64 + 64) (m := 64) (i := (t + 7) * ((k : Int) + 3)) (j := 69621) (Bg.mul (by unfold Bg; omega) (by unfold Bg; omega)) (by unfold Bg; omega) (by decide) (by decide)
    refine ⟨(t + 7) * ((k : Int) + 3) * 69621 % 2147483647, ?_⟩
    unfold g_law_cell runF F_law_cell
    simp only [List.length_map] at hk'
    simp [hk', L1, m1, m2, mod_int]

/-! ### digits -/
/-- the digits of a cell: as many as sizes, each below its size -/
def Dig (sizes row : List Int) : Prop := row.length = sizes.length ∧ ∀ (i : Nat) (x s : Int), row[i]? = some x → sizes[i]? = some s → 0 ≤ x ∧ x < s
theorem Dig.get {sizes row : List Int} (h : Dig sizes row) (i : Nat) {s : Int} (e : sizes[i]? = some s) : ∃ x, row[i]? = some x ∧ 0 ≤ x ∧ x < s := by
  have hi : i < row.length := by
    rw [h.1]
    rcases Nat.lt_or_ge i sizes.length with h | h
    · exact h
    · rw [List.getElem?_eq_none h] at e; cases e
  exact ⟨row[i], List.getElem?_eq_getElem hi, h.2 i _ s (List.getElem?_eq_getElem hi) e⟩
/-- the first i of them -/
def Dpre (sizes row : List Int) (i : Nat) : Prop := row.length = i ∧ ∀ (j : Nat) (x s : Int), row[j]? = some x → sizes[j]? = some s → 0 ≤ x ∧ x < s
theorem Dpre.snoc {sizes row : List Int} {i : Nat} {x s : Int} (h : Dpre sizes row i) (e : sizes[i]? = some s) (h0 : 0 ≤ x) (h1 : x < s) : Dpre sizes (row ++ [x]) (i + 1) := by
  refine ⟨by simp [h.1], fun j y t ey et => ?_⟩
  rw [List.getElem?_append] at ey
  split at ey
  · exact h.2 j y t ey et
  · rename_i hj
    have : j = i := by
      have := h.1
      rcases Nat.lt_or_ge (j - row.length) 1 with q | q
      · omega
      · rw [List.getElem?_eq_none (by simpa using q)] at ey; cases ey
    subst this
    rw [h.1, Nat.sub_self] at ey
    rw [e] at et
    cases et; cases ey
    exact ⟨h0, h1⟩
theorem digits_big (c : Int) (hc : 10 ^ 18 ≤ c) (sizes : List Int) (hp : ∀ s ∈ sizes, 0 < s ∧ s < 2 ^ 100) (hl : sizes.length ≤ 1000) : ∃ row : List Int, g_law_digits [.int c, .lst (sizes.map D.int)] = .ok (.ol (row.map D.int)) ∧ Dig sizes row := by
  have p18 : dPowW (.int 10) (.int 18) = .ok (.fr (.int (10 ^ 18))) := poww_bg (n := 64) (by unfold Bg; decide) (by decide) (by decide) (by decide)
  have at_ : ∀ (i : Nat) (d : D), (sizes.map D.int)[i]? = some d → ∃ s, sizes[i]? = some s ∧ d = .int s := fun i d e => by
    rw [List.getElem?_map] at e
    cases h : sizes[i]? with
    | none => rw [h] at e; cases e
    | some s => rw [h] at e; cases e; exact ⟨s, rfl, rfl⟩
  obtain ⟨δ', e, row, r, eδ, hd⟩ := forL_inv (F := sSeq (sOwn 2 gAppend (aCons (fBin dMod (fCall dInt (aCons (getV 3) aNil)) (getV 4)) aNil)) (sSeq (sSet 3 (fBin dDivW (fCall dInt (aCons (getV 3) aNil)) (getV 4))) sNil)) (bd := gSet 4) (fg := [4]) (sizes.map D.int)
    (fun i δ => ∃ (row : List Int) (r : Int), δ = [some (.fr (.int c)), some (.fr (.lst (sizes.map D.int))), some (.ol (row.map D.int)), some (.fr (.int r)), none, none, none, none] ∧ Dpre sizes row i)
    [some (.fr (.int c)), some (.fr (.lst (sizes.map D.int))), some (.ol []), some (.fr (.int (c - 10 ^ 18))), none, none, none, none] ⟨[], _, rfl, rfl, fun j x s e => by simp at e⟩ (fun i d δ ed ⟨row, r, eδ, hd⟩ => by
      obtain ⟨s, es, rfl⟩ := at_ i d ed
      obtain ⟨s0, s1⟩ := hp s (List.mem_of_getElem? es)
      have hrow : row.length < SZ := by
        have := hd.1
        have : i < sizes.length := by
          rcases Nat.lt_or_ge i sizes.length with h | h
          · exact h
          · rw [List.getElem?_eq_none h] at es; cases es
        unfold SZ
        omega
      subst eδ
      refine ⟨_, [some (.fr (.int c)), some (.fr (.lst (sizes.map D.int))), some (.ol ((row ++ [r % s]).map D.int)), some (.fr (.int (r / s))), some (.fr (.int s)), none, none, none], rfl, ?_, row ++ [r % s], r / s, rfl, hd.snoc es (Int.emod_nonneg _ (by omega)) (Int.emod_lt_of_pos _ s0)⟩
      have o : sOwn 2 gAppend (aCons (fBin dMod (fCall dInt (aCons (getV 3) aNil)) (getV 4)) aNil) [some (.fr (.int c)), some (.fr (.lst (sizes.map D.int))), some (.ol (row.map D.int)), some (.fr (.int r)), some (.fr (.int s)), none, none, none] = _ :=
        ow_ap (r := .fr (.int (r % s))) rfl (by simp [mod_int s0]) (by simpa using hrow)
      simp [o, divw_int (i := r) (j := s) ⟨s0, s1⟩])
  subst eδ
  refine ⟨row, ?_, by have := hd.1; simpa using this, hd.2⟩
  unfold g_law_digits runF F_law_digits
  simp only [Int.reducePow] at e p18 hc
  simp [p18, hc, e, rt_own]

theorem digits_small (c : Int) (hc : ¬ 10 ^ 18 ≤ c) (sizes : List Int) (hp : ∀ s ∈ sizes, 0 < s ∧ s < 2 ^ 100) (hl : sizes.length ≤ 1000) : ∃ row : List Int, g_law_digits [.int c, .lst (sizes.map D.int)] = .ok (.ol (row.map D.int)) ∧ Dig sizes row := by
  have p18 : dPowW (.int 10) (.int 18) = .ok (.fr (.int (10 ^ 18))) := poww_bg (n := 64) (by unfold Bg; decide) (by decide) (by decide) (by decide)
  have at_ : ∀ (i : Nat) (d : D), (sizes.map D.int)[i]? = some d → ∃ s, sizes[i]? = some s ∧ d = .int s := fun i d e => by
    rw [List.getElem?_map] at e
    cases h : sizes[i]? with
    | none => rw [h] at e; cases e
    | some s => rw [h] at e; cases e; exact ⟨s, rfl, rfl⟩
  have hc' : ¬ (1000000000000000000 : Int) ≤ c := by simpa using hc
  obtain ⟨δ', e, row, sd, eδ, hd, _⟩ := forL_wp (F := sSeq (sSet 5 (fBin dMod (fCall dInt (aCons (fBin dAdd (fBin dAdd (fBin dMulW (getV 5) (cst (.int 48271))) (fBin dMulW (cst (.int 974711)) (getV 6))) (cst (.int 12345))) aNil)) (cst (.int 2147483647))))
      (sSeq (sSet 7 (fBin dMod (fCall dInt (aCons (fBin dMulW (getV 5) (fBin dAdd (fBin dDivW (getV 5) (cst (.int 65537))) (cst (.int 3)))) aNil)) (cst (.int 2147483629))))
      (sSeq (sOwn 2 gAppend (aCons (fBin dMod (fBin dDivW (getV 7) (cst (.int 19))) (fBin dIxD (getV 1) (getV 6))) aNil)) sNil))) (bd := gSet 6) (fg := [6, 7]) ((List.range sizes.length).map fun i => .int (i : Nat))
    (fun i δ => ∃ (row : List Int) (sd : Int), δ = [some (.fr (.int c)), some (.fr (.lst (sizes.map D.int))), some (.ol (row.map D.int)), some (.fr (.int c)), none, some (.fr (.int sd)), none, none] ∧ Dpre sizes row i ∧ 0 ≤ sd ∧ sd < 2147483647)
    [some (.fr (.int c)), some (.fr (.lst (sizes.map D.int))), some (.ol []), some (.fr (.int c)), none, some (.fr (.int (c % 2147483629))), none, none] ⟨[], _, rfl, ⟨rfl, fun j x s e => by simp at e⟩, by omega, by omega⟩ (fun i d δ ed ⟨row, sd, eδ, hd, sd0, sd1⟩ => by
      have hi : i < sizes.length := by
        rcases Nat.lt_or_ge i sizes.length with h | h
        · exact h
        · rw [List.getElem?_eq_none (by simpa using h)] at ed; cases ed
      rw [List.getElem?_map, List.getElem?_range hi] at ed
      cases ed
      have es : sizes[i]? = some sizes[i] := List.getElem?_eq_getElem hi
      obtain ⟨s0, s1⟩ := hp sizes[i] (List.getElem_mem hi)
      have hrow : row.length < SZ := by
        have := hd.1
        unfold SZ
        omega
      subst eδ
      have m1 := muw_64 (i := sd) (j := 48271) (by omega) (by omega)
      have m2 := muw_64 (i := 974711) (j := (i : Int)) (by omega) (by omega)
      have eix : dIxD (.lst (sizes.map D.int)) (.int (i : Int)) = .ok (.fr (.int sizes[i])) := by rw [ixn_lst, List.getElem?_map, es]; rfl
      obtain ⟨z, hz⟩ : ∃ z, z = (sd * 48271 + 974711 * (i : Int) + 12345) % 2147483647 := ⟨_, rfl⟩
      have m3 := muw_64 (i := z) (j := z / 65537 + 3) (by omega) (by omega)
      have d1 := divw_int (i := z) (j := 65537) (by decide)
      obtain ⟨t, ht⟩ : ∃ t, t = z * (z / 65537 + 3) % 2147483629 := ⟨_, rfl⟩
      have d2 := divw_int (i := t) (j := 19) (by decide)
      refine ⟨_, rfl, wp_seq (wp_set (r := .fr (.int z)) ?_ (wp_seq (wp_set (r := .fr (.int t)) ?_ (wp_seq (wp_append (ds := row.map D.int) (r := .fr (.int (t / 19 % sizes[i]))) rfl (by simpa using hrow) ?_ (wp_nil ⟨row ++ [t / 19 % sizes[i]], z, ?_, hd.snoc es (Int.emod_nonneg _ (by omega)) (Int.emod_lt_of_pos _ s0), by omega, by omega⟩))))))⟩
      · rw [hz]; simp [m1, m2, mod_int]
      · rw [ht]; simp [d1, m3, mod_int]
      · simp [d2, eix, mod_int s0]
      · simp [fgtS])
  subst eδ
  refine ⟨row, ?_, by have := hd.1; simpa using this, hd.2⟩
  unfold g_law_digits runF F_law_digits
  simp only [Int.reducePow] at p18
  have r1 : rng1 [.int ((sizes.map D.int).length : Int)] = _ := rng1_nat (n := (sizes.map D.int).length) (by rw [List.length_map]; omega)
  simp only [List.length_map] at r1
  simp [p18, hc', e, rt_own, r1, mod_int]

theorem digits_ok (c : Int) (sizes : List Int) (hp : ∀ s ∈ sizes, 0 < s ∧ s < 2 ^ 100) (hl : sizes.length ≤ 1000) : ∃ row : List Int, g_law_digits [.int c, .lst (sizes.map D.int)] = .ok (.ol (row.map D.int)) ∧ Dig sizes row := by
  by_cases hc : 10 ^ 18 ≤ c
  · exact digits_big c hc sizes hp hl
  · exact digits_small c hc sizes hp hl
end K00


set_option maxRecDepth 100000
set_option maxHeartbeats 4000000
namespace DL
open PySem
/-! ### rules for functions that end by return -/
@[irreducible] def rtS (P : RV → Prop) : SR → Prop
  | .rt r => P r
  | _ => False
theorem rt_of {P : RV → Prop} {s : SR} {r : RV} (e : s = .rt r) (h : P r) : rtS P s := by
  rw [e]
  unfold rtS
  exact h
theorem rt_ex {P : RV → Prop} {s : SR} (h : rtS P s) : ∃ r, s = .rt r ∧ P r := by
  unfold rtS at h
  cases s with
  | rt r => exact ⟨r, rfl, h⟩
  | _ => exact h.elim
theorem rt_run {n N : Nat} {F : DE → SR} {ds : List D} {P : RV → Prop} (hl : ds.length = n) (h : rtS P (F (ds.map (fun d => some (RV.fr d)) ++ List.replicate (N - n) none))) : ∃ r, runF n N F ds = .ok r ∧ P r := by
  obtain ⟨r, e, hp⟩ := rt_ex h
  exact ⟨r, gr_ret hl e, hp⟩
theorem rt_nx {P : RV → Prop} {F1 F2 : DE → SR} {δ δ' : DE} (e : F1 δ = .nx δ') (h : rtS P (F2 δ')) : rtS P (sSeq F1 F2 δ) := by
  rw [ev_seq, e, sq_nx]; exact h
theorem rt_seq {P : RV → Prop} {Q : DE → Prop} {F1 F2 : DE → SR} {δ : DE} (h1 : nxS Q (F1 δ)) (h : ∀ δ', Q δ' → rtS P (F2 δ')) : rtS P (sSeq F1 F2 δ) := by
  obtain ⟨δ', e, hq⟩ := nx_ex h1
  exact rt_nx e (h δ' hq)
theorem rt_rt {P : RV → Prop} {F1 F2 : DE → SR} {δ : DE} {r : RV} (e : F1 δ = .rt r) (h : P r) : rtS P (sSeq F1 F2 δ) := by
  rw [ev_seq, e, sq_rt]; exact rt_of rfl h
theorem wp_nx {P : DE → Prop} {F1 F2 : DE → SR} {δ δ' : DE} (e : F1 δ = .nx δ') (h : nxS P (F2 δ')) : nxS P (sSeq F1 F2 δ) := by
  rw [ev_seq, e, sq_nx]; exact h
theorem wp_seq2 {P Q : DE → Prop} {F1 F2 : DE → SR} {δ : DE} (h1 : nxS Q (F1 δ)) (h : ∀ δ', Q δ' → nxS P (F2 δ')) : nxS P (sSeq F1 F2 δ) := by
  obtain ⟨δ', e, hq⟩ := nx_ex h1
  exact wp_nx e (h δ' hq)
theorem wp_mono {P Q : DE → Prop} {s : SR} (h : nxS Q s) (k : ∀ δ, Q δ → P δ) : nxS P s := by
  obtain ⟨δ, e, hq⟩ := nx_ex h
  rw [e]; exact nx_of rfl (k δ hq)
theorem wp_for {P : DE → Prop} {fi : DE → R (List D)} {bd : D → DE → Option DE} {F : DE → SR} {fg : List Nat} {δ : DE} (ds : List D) (I : Nat → DE → Prop) (e : fi δ = .ok ds) (h0 : I 0 δ)
    (hs : ∀ i d δ, ds[i]? = some d → I i δ → ∃ δ1, bd d δ = some δ1 ∧ nxS (fun δ2 => I (i + 1) (fgtS fg δ2)) (F δ1)) (hk : ∀ δ', I ds.length δ' → P δ') : nxS P (sFor fi bd F fg δ) := by
  obtain ⟨δ', e1, h1⟩ := forL_wp ds I δ h0 hs
  rw [ev_for, e, lf_ok, e1]
  exact nx_of rfl (hk δ' h1)
theorem wp_frz {P : DE → Prop} {i : Nat} {F : DE → SR} {δ : DE} {r : RV} (h : δ[i]? = some (some r)) (k : nxS P (F (δ.set i (some (.fr r.d))))) : nxS P (sFrz i F δ) := by
  rw [ev_frz, fz_any h]; exact k
theorem wp_if' {P : DE → Prop} {c : DE → R Bool} {Fa Fb : DE → SR} {δ : DE} (p : Prop) [Decidable p] (e : c δ = .ok (decide p)) (ht : p → nxS P (Fa δ)) (hf : ¬ p → nxS P (Fb δ)) : nxS P (sIf c Fa Fb δ) :=
  wp_if e (fun h => ht (of_decide_eq_true h)) (fun h => hf (of_decide_eq_false h))
end DL
namespace GM
open PySem DL
/-! ### lists of rules -/
def RLs (V : Rul → Prop) (n : Nat) (ds : List D) : Prop := ∃ rs : List Rul, ds = rs.map Rul.dt ∧ (∀ r ∈ rs, V r) ∧ rs.length ≤ n
theorem RLs.nil {V : Rul → Prop} : RLs V 0 [] := ⟨[], rfl, (fun _ h => nomatch h), Nat.le_refl _⟩
theorem RLs.one {V : Rul → Prop} {r : Rul} (h : V r) : RLs V 1 [r.dt] := ⟨[r], rfl, fun x hx => by rw [List.mem_singleton.mp hx]; exact h, Nat.le_refl _⟩
theorem RLs.app {V : Rul → Prop} {n m : Nat} {ds es : List D} (h : RLs V n ds) (k : RLs V m es) : RLs V (n + m) (ds ++ es) := by
  obtain ⟨rs, rfl, h1, h2⟩ := h
  obtain ⟨qs, rfl, k1, k2⟩ := k
  exact ⟨rs ++ qs, by rw [List.map_append], fun r hr => (List.mem_append.mp hr).elim (h1 r) (k1 r), by rw [List.length_append]; omega⟩
theorem RLs.snoc {V : Rul → Prop} {n : Nat} {ds : List D} {r : Rul} (h : RLs V n ds) (k : V r) : RLs V (n + 1) (ds ++ [r.dt]) := h.app (.one k)
theorem RLs.cons {V : Rul → Prop} {n : Nat} {ds : List D} (r : Rul) (k : V r) (h : RLs V n ds) : RLs V (n + 1) (r.dt :: ds) := by
  have := (RLs.one k).app h
  rw [Nat.add_comm] at this
  exact this
theorem RLs.up {V : Rul → Prop} {n m : Nat} {ds : List D} (h : RLs V n ds) (l : n ≤ m) : RLs V m ds := by
  obtain ⟨rs, h0, h1, h2⟩ := h
  exact ⟨rs, h0, h1, Nat.le_trans h2 l⟩
theorem RLs.len {V : Rul → Prop} {n : Nat} {ds : List D} (h : RLs V n ds) : ds.length ≤ n := by
  obtain ⟨rs, rfl, _, h2⟩ := h
  rw [List.length_map]; exact h2
theorem wp_rule {P : DE → Prop} {V : Rul → Prop} {n : Nat} {i : Nat} {f : DE → R RV} {δ : DE} {ds : List D} (r : Rul) (h0 : δ[i]? = some (some (.ol ds))) (hR : RLs V n ds) (hn : n < SZ) (hv : V r) (e : f δ = .ok (.fr r.dt))
    (h : ∀ ds', RLs V (n + 1) ds' → P (δ.set i (some (.ol ds')))) : nxS P (sOwn i gAppend (aCons f aNil) δ) :=
  wp_append h0 (Nat.lt_of_le_of_lt hR.len hn) e (h _ (hR.snoc hv))
/-! ### right rules -/
def okR (L : Str) (n : Int) (r : Rul) : Prop := ruleB L n r = true
/-- a sign with a move -/
def SM (L : Str) (g : Str) (m : Int) : Prop := g ∈ signL L ∧ (-1 ≤ m ∧ m ≤ 1) ∧ ¬ (g = "<" ∧ m = -1) ∧ ¬ (g = ">" ∧ m = 1)
def TP (t : Str) : Prop := t = "" ∨ symB t = true
theorem ok_of {L : Str} {n : Int} {r : Rul} (hs : 0 ≤ r.s ∧ r.s < n) (hg : SM L r.g r.m) (ht : TP r.t) (ha : 0 ≤ r.a ∧ r.a < n) (hd : r.d ∈ deeds) (hz : saidB r.z = true) (h3 : r.t = "" → ¬ r.d = "pop" ∧ ¬ r.d = "swap")
    (h4 : (r.d = "push" ∨ r.d = "swap" → symB r.y = true) ∧ (¬ (r.d = "push" ∨ r.d = "swap") → r.y = "")) : okR L n r := by
  obtain ⟨g1, ⟨g2, g3⟩, g4, g5⟩ := hg
  have f1 : stB n r.s = true := by unfold stB; rw [decide_eq_true hs.1, decide_eq_true hs.2]; rfl
  have f2 : stB n r.a = true := by unfold stB; rw [decide_eq_true ha.1, decide_eq_true ha.2]; rfl
  have f3 : (decide (r.t = "") || symB r.t) = true := by
    rcases ht with h | h
    · rw [decide_eq_true h]; rfl
    · rw [h]; exact Bool.or_true _
  have f4 : (!(decide (r.g = "<") && decide (r.m = -1))) = true := by
    by_cases q : r.g = "<"
    · have : ¬ r.m = -1 := fun z => g4 ⟨q, z⟩
      simp [this]
    · simp [q]
  have f5 : (!(decide (r.g = ">") && decide (r.m = 1))) = true := by
    by_cases q : r.g = ">"
    · have : ¬ r.m = 1 := fun z => g5 ⟨q, z⟩
      simp [this]
    · simp [q]
  have f6 : (!(decide (r.t = "") && (decide (r.d = "pop") || decide (r.d = "swap")))) = true := by
    by_cases q : r.t = ""
    · obtain ⟨q1, q2⟩ := h3 q
      simp [q1, q2]
    · simp [q]
  have f7 : (if r.d = "push" ∨ r.d = "swap" then symB r.y else decide (r.y = "")) = true := by
    by_cases q : r.d = "push" ∨ r.d = "swap"
    · rw [if_pos q]; exact h4.1 q
    · rw [if_neg q]; exact decide_eq_true (h4.2 q)
  unfold okR ruleB keyB actB
  simp only [f1, f2, f3, f4, f5, f6, f7, hz, decide_eq_true g1, decide_eq_true g2, decide_eq_true g3, decide_eq_true hd]
  rfl
theorem ok_key {L : Str} {n : Int} {r : Rul} (h : okR L n r) : keyB L n r = true ∧ actB n r = true := by
  unfold okR ruleB at h
  exact Bool.and_eq_true_iff.mp h
theorem dk1 : ("keep" : Str) ∈ deeds := by decide +kernel
theorem dk2 : ¬ ("keep" : Str) = "pop" ∧ ¬ ("keep" : Str) = "swap" := by decide +kernel
theorem dk3 : ¬ (("keep" : Str) = "push" ∨ ("keep" : Str) = "swap") := by decide +kernel
theorem du1 : ("push" : Str) ∈ deeds := by decide +kernel
theorem du2 : ¬ ("push" : Str) = "pop" ∧ ¬ ("push" : Str) = "swap" := by decide +kernel
theorem dp1 : ("pop" : Str) ∈ deeds := by decide +kernel
theorem dp3 : ¬ (("pop" : Str) = "push" ∨ ("pop" : Str) = "swap") := by decide +kernel
theorem dw1 : ("swap" : Str) ∈ deeds := by decide +kernel
section
variable {L : Str} {n s a m : Int} {g t y z : Str}
theorem rk (hs : 0 ≤ s ∧ s < n) (hg : SM L g m) (ht : TP t) (ha : 0 ≤ a ∧ a < n) (hz : saidB z = true) : okR L n ⟨s, g, t, a, m, "keep", "", z⟩ :=
  ok_of hs hg ht ha dk1 hz (fun _ => dk2) ⟨fun h => absurd h dk3, fun _ => rfl⟩
theorem ru (hs : 0 ≤ s ∧ s < n) (hg : SM L g m) (ht : TP t) (ha : 0 ≤ a ∧ a < n) (hz : saidB z = true) (hy : symB y = true) : okR L n ⟨s, g, t, a, m, "push", y, z⟩ :=
  ok_of hs hg ht ha du1 hz (fun _ => du2) ⟨fun h => hy, fun h => absurd (Or.inl rfl) h⟩
theorem symB_ne {x : Str} (h : symB x = true) : x ≠ "" := fun e => by subst e; exact absurd h (by decide +kernel)
theorem rp (hs : 0 ≤ s ∧ s < n) (hg : SM L g m) (ht : symB t = true) (ha : 0 ≤ a ∧ a < n) (hz : saidB z = true) : okR L n ⟨s, g, t, a, m, "pop", "", z⟩ :=
  ok_of hs hg (.inr ht) ha dp1 hz (fun e => absurd e (symB_ne ht)) ⟨fun h => absurd h dp3, fun _ => rfl⟩
theorem rw_ (hs : 0 ≤ s ∧ s < n) (hg : SM L g m) (ht : symB t = true) (ha : 0 ≤ a ∧ a < n) (hz : saidB z = true) (hy : symB y = true) : okR L n ⟨s, g, t, a, m, "swap", y, z⟩ :=
  ok_of hs hg (.inr ht) ha dw1 hz (fun e => absurd e (symB_ne ht)) ⟨fun h => hy, fun h => absurd (Or.inr rfl) h⟩
/-- a letter of the alphabet -/
def Lt (L g : Str) : Prop := g ∈ signL L ∧ ¬ g = "<" ∧ ¬ g = ">" ∧ saidB g = true
theorem sm_lt (h : 0 ≤ m ∧ m ≤ 1) : SM L "<" m := ⟨List.mem_cons_self, by omega, fun ⟨_, z⟩ => by omega, fun ⟨z, _⟩ => absurd z (by decide +kernel)⟩
theorem sm_gt (h : -1 ≤ m ∧ m ≤ 0) : SM L ">" m := ⟨List.mem_cons_of_mem _ List.mem_cons_self, by omega, fun ⟨z, _⟩ => absurd z (by decide +kernel), fun ⟨_, z⟩ => by omega⟩
theorem sm_let (hl : Lt L g) (h : -1 ≤ m ∧ m ≤ 1) : SM L g m := ⟨hl.1, h, fun ⟨z, _⟩ => hl.2.1 z, fun ⟨z, _⟩ => hl.2.2.1 z⟩
theorem said_nil : saidB "" = true := by decide +kernel
end
end GM


set_option maxRecDepth 100000
set_option maxHeartbeats 4000000
namespace K00
open PySem DL GM
/-! ### the skeletons of machines -/
theorem rng_int {n : Nat} (h : n < 2 ^ 62) {i : Nat} {d : D} (e : ((List.range n).map fun i => D.int (i : Nat))[i]? = some d) : i < n ∧ d = .int i := by
  rw [List.getElem?_map] at e
  rcases Nat.lt_or_ge i n with hi | hi
  · rw [List.getElem?_range hi] at e
    cases e
    exact ⟨hi, rfl⟩
  · rw [List.getElem?_eq_none (by simpa using hi)] at e; cases e
theorem rngs {n : Nat} (h : n < 2 ^ 62) : iArgs rng1 (aCons (cst (.int n)) aNil) = fun _ => .ok ((List.range n).map fun i => D.int (i : Nat)) := by
  funext δ
  simp [rng1_nat h]
theorem al_len {L : Str} (hL : alB L = true) : 1 ≤ L.length ∧ L.length ≤ 26 := by
  unfold alB at hL
  simp only [Bool.and_eq_true, decide_eq_true_eq] at hL
  exact ⟨hL.2.1, hL.2.2.1⟩
end K00


set_option maxRecDepth 100000
set_option maxHeartbeats 4000000
namespace GM
open PySem DL
/-! ### sorted(set(..)) of rules, numbers, texts -/
theorem insG_map {α β : Type} [DecidableEq α] [DecidableEq β] {f : α → β} {lt : β → β → Bool} {lt' : α → α → Bool} (hi : ∀ x y, f x = f y → x = y) (hl : ∀ x y, lt' x y = lt (f x) (f y)) (x : α) : ∀ ys : List α, insG lt (f x) (ys.map f) = (insG lt' x ys).map f
  | [] => rfl
  | y :: ys => by
    rw [List.map_cons]
    unfold insG
    by_cases h : x = y
    · rw [if_pos h, if_pos (by rw [h])]; rfl
    · rw [if_neg h, if_neg fun z => h (hi _ _ z), hl]
      split
      · rfl
      · rw [insG_map hi hl x ys]; rfl
theorem ssG_map {α β : Type} [DecidableEq α] [DecidableEq β] {f : α → β} {lt : β → β → Bool} {lt' : α → α → Bool} (hi : ∀ x y, f x = f y → x = y) (hl : ∀ x y, lt' x y = lt (f x) (f y)) : ∀ xs : List α, ssG lt (xs.map f) = (ssG lt' xs).map f
  | [] => rfl
  | x :: xs => by
    show insG lt (f x) (ssG lt (xs.map f)) = (insG lt' x (ssG lt' xs)).map f
    rw [ssG_map hi hl xs, insG_map hi hl]
def rLt (r q : Rul) : Bool := GS.kLt r.row q.row
def iLt (i j : Int) : Bool := kLt1 (.inl i) (.inl j)
def sLt (x y : Str) : Bool := kLt1 (.inr x) (.inr y)
def srt (rs : List Rul) : List Rul := ssG rLt rs
def srtI (ys : List Int) : List Int := ssG iLt ys
def srtS (xs : List Str) : List Str := ssG sLt xs
theorem mapM_some {α β γ : Type} {f : β → Option γ} {g : α → β} {h : α → γ} (e : ∀ x, f (g x) = some (h x)) : ∀ xs : List α, (xs.map g).mapM f = some (xs.map h)
  | [] => rfl
  | x :: xs => by
    rw [List.map_cons, List.mapM_cons, e x, mapM_some e xs]
    rfl
theorem insG_len {α : Type} [DecidableEq α] (lt : α → α → Bool) (x : α) : ∀ ys : List α, (insG lt x ys).length ≤ ys.length + 1
  | [] => Nat.le_refl _
  | y :: ys => by
    unfold insG
    split
    · exact Nat.le_succ _
    · split
      · exact Nat.le_refl _
      · have := insG_len lt x ys
        simp only [List.length_cons]; omega
theorem ssG_len {α : Type} [DecidableEq α] (lt : α → α → Bool) : ∀ xs : List α, (ssG lt xs).length ≤ xs.length
  | [] => Nat.le_refl _
  | x :: xs => by
    have h1 := insG_len lt x (ssG lt xs)
    have h2 := ssG_len lt xs
    show (insG lt x (ssG lt xs)).length ≤ _
    simp only [List.length_cons]; omega
theorem insG_nodup {α : Type} [DecidableEq α] {lt : α → α → Bool} (h : Lin lt) (xs : List α) : (ssG lt xs).Nodup := by
  have a : Asc lt (ssG lt xs) := ssG_asc h xs
  refine List.Pairwise.imp (fun {x y} hxy e => ?_) a
  subst e
  rw [h.irr] at hxy; cases hxy
theorem hom_ints (ys : List Int) : homB (ys.map Sum.inl) = true := by
  unfold homB
  rw [Bool.or_eq_true]
  exact .inl (by rw [List.all_map]; exact List.all_eq_true.mpr fun _ _ => rfl)
theorem hom_strs (ys : List Str) : homB (ys.map Sum.inr) = true := by
  unfold homB
  rw [Bool.or_eq_true]
  exact .inr (by rw [List.all_map]; exact List.all_eq_true.mpr fun _ _ => rfl)
theorem dSS_ints' (ys : List Int) (h : ys.length + 1 < 4096) {d : D} (hd : seqDs d = some (ys.map D.int)) : dSS d = .ok (.ol ((srtI ys).map D.int)) := by
  unfold dSS
  rw [hd]
  have e : (ys.map D.int).mapM cellD = some (ys.map Sum.inl) := mapM_some (f := cellD) (fun x => rfl) ys
  have s : ssG kLt1 (ys.map (Sum.inl : Int → L2.Key)) = (srtI ys).map Sum.inl := ssG_map (fun x y z => Sum.inl.inj z) (fun x y => rfl) ys
  simp only [e]
  rw [if_pos ⟨hom_ints ys, by rw [List.length_map]; exact h⟩, s, List.map_map]
  rfl
theorem dSS_ints (ys : List Int) (h : ys.length + 1 < 4096) : dSS (.lst (ys.map D.int)) = .ok (.ol ((srtI ys).map D.int)) := dSS_ints' ys h rfl
theorem dSS_intsT (ys : List Int) (h : ys.length + 1 < 4096) : dSS (.tup (ys.map D.int)) = .ok (.ol ((srtI ys).map D.int)) := dSS_ints' ys h rfl
theorem dSS_strs (ys : List Str) (h : ys.length + 1 < 4096) : dSS (.lst (ys.map D.str)) = .ok (.ol ((srtS ys).map D.str)) := by
  unfold dSS
  have e : (ys.map D.str).mapM cellD = some (ys.map Sum.inr) := mapM_some (f := cellD) (fun x => rfl) ys
  have s : ssG kLt1 (ys.map (Sum.inr : Str → L2.Key)) = (srtS ys).map Sum.inr := ssG_map (fun x y z => Sum.inr.inj z) (fun x y => rfl) ys
  simp only [seqDs, e]
  rw [if_pos ⟨hom_strs ys, by rw [List.length_map]; exact h⟩, s, List.map_map]
  rfl
theorem dSS_rules (rs : List Rul) (h : rs.length < 2048) : dSS (.tup (rs.map Rul.dt)) = .ok (.ol ((srt rs).map Rul.dt)) := by
  cases rs with
  | nil => rfl
  | cons r rs =>
    unfold dSS
    have e0 : ((r :: rs).map Rul.dt).mapM cellD = none := by
      rw [List.map_cons, List.mapM_cons]; rfl
    have e : ((r :: rs).map Rul.dt).mapM rowD = some ((r :: rs).map Rul.row) := mapM_some (f := rowD) (g := Rul.dt) (h := Rul.row) (fun x => rfl) _
    have s : ssG GS.kLt ((r :: rs).map Rul.row) = (srt (r :: rs)).map Rul.row := ssG_map (fun x y z => Rul.row_inj z) (fun x y => rfl) _
    have u : uniB ((r :: rs).map Rul.row) = true := by
      rw [List.map_cons]
      show (!(Rul.row r).isEmpty && (rs.map Rul.row).all fun l => sig l == sig r.row) = true
      have a : ((rs.map Rul.row).all fun l => sig l == sig r.row) = true := by
        rw [List.all_map]
        exact List.all_eq_true.mpr fun x _ => by
          show (sig x.row == sig r.row) = true
          rfl
      rw [a]; rfl
    simp only [seqDs, e0, e]
    rw [if_pos ⟨u, by rw [List.length_map]; exact h⟩, s, List.map_map]
    rfl
theorem srt_mem {r : Rul} {rs : List Rul} : r ∈ srt rs ↔ r ∈ rs := ssG_mem rLt r rs
theorem srtS_mem {r : Str} {rs : List Str} : r ∈ srtS rs ↔ r ∈ rs := ssG_mem sLt r rs
theorem srtI_mem {r : Int} {rs : List Int} : r ∈ srtI rs ↔ r ∈ rs := ssG_mem iLt r rs
theorem lin_rul : Lin rLt := ⟨fun x => lin_row.irr _, fun x y z => lin_row.tr _ _ _, fun x y h1 h2 => Rul.row_inj (lin_row.tot _ _ h1 h2)⟩
theorem lin_int : Lin iLt := ⟨fun x => lin_key.irr _, fun x y z => lin_key.tr _ _ _, fun x y h1 h2 => Sum.inl.inj (lin_key.tot _ _ h1 h2)⟩
theorem lin_str : Lin sLt := ⟨fun x => lin_key.irr _, fun x y z => lin_key.tr _ _ _, fun x y h1 h2 => Sum.inr.inj (lin_key.tot _ _ h1 h2)⟩
theorem srt_nodup (rs : List Rul) : (srt rs).Nodup := insG_nodup lin_rul rs
theorem srtS_nodup (rs : List Str) : (srtS rs).Nodup := insG_nodup lin_str rs
theorem srtI_nodup (rs : List Int) : (srtI rs).Nodup := insG_nodup lin_int rs
theorem srt_len (rs : List Rul) : (srt rs).length ≤ rs.length := ssG_len _ _
theorem srtS_len (rs : List Str) : (srtS rs).length ≤ rs.length := ssG_len _ _
theorem srtI_len (rs : List Int) : (srtI rs).length ≤ rs.length := ssG_len _ _
end GM
namespace DL
open PySem
/-- a loop that ends at the first thing for which something is returned -/
theorem forL_find {F : DE → SR} {bd : D → DE → Option DE} {fg : List Nat} {δ : DE} (P : D → Option RV) : ∀ ds : List D, (∀ d ∈ ds, ∃ δ1, bd d δ = some δ1 ∧ match P d with
    | some r => F δ1 = .rt r
    | none => ∃ δ2, F δ1 = .nx δ2 ∧ fgtS fg δ2 = δ) → forL bd F fg ds δ = match ds.findSome? P with
    | some r => .rt r
    | none => .nx δ
  | [], _ => rfl
  | d :: ds, h => by
    obtain ⟨δ1, e1, h1⟩ := h d List.mem_cons_self
    rw [forL, List.findSome?_cons]
    simp only [e1]
    cases e : P d with
    | some r => rw [e] at h1; simp only [h1]
    | none =>
      rw [e] at h1
      obtain ⟨δ2, e2, e3⟩ := h1
      simp only [e2, e3]
      exact forL_find P ds fun d hd => h d (List.mem_cons_of_mem _ hd)
theorem enum_mem {d : D} {ds : List D} (h : d ∈ enumD ds) : ∃ (i : Nat) (x : D), d = .tup [.int (i : Nat), x] ∧ ds[i]? = some x := by
  unfold enumD at h
  obtain ⟨i, hi, e⟩ := List.mem_filterMap.mp h
  cases q : ds[i]? with
  | none => rw [q] at e; cases e
  | some x => rw [q] at e; cases e; exact ⟨i, x, rfl, q⟩
/-! ### attributes -/
theorem putR_new {f : Str} {r : RV} : ∀ {fs : List (Str × RV)}, f ∉ fs.map (·.1) → putR f r fs = fs ++ [(f, r)]
  | [], _ => rfl
  | (g, x) :: fs, h => by
    have h1 : ¬ g = f := fun e => h (by rw [List.map_cons]; exact e ▸ List.mem_cons_self)
    unfold putR
    rw [if_neg h1, putR_new fun z => h (by rw [List.map_cons]; exact List.mem_cons_of_mem _ z)]
    rfl
theorem fld_new {cs : List Str} {f : Str} {g : DE → R RV} {δ : DE} {r : RV} {o : Option Addr} {c : Str} {fs : List (Str × RV)} (ns : List Str) (e : g δ = .ok r) (h0 : δ[0]? = some (some (.oo o c fs))) (hn : fs.map (·.1) = ns) (hc : c ∈ cs := by decide +kernel) (hf : f ∉ ns := by decide +kernel) (hl : ns.length < 1000 := by decide) :
    sFldS cs f 0 g δ = .nx (δ.set 0 (some (.oo o c (fs ++ [(f, r)])))) := by
  unfold sFldS
  rw [e, lf_ok, h0]
  simp only
  rw [if_pos ⟨hc, by rw [← List.length_map (f := (·.1)), hn]; exact hl⟩, putR_new (by rw [hn]; exact hf)]
theorem own_fld {cs : List Str} {f : Str} {δ : DE} {o : Option Addr} {c : Str} {fs : List (Str × RV)} {d : D} (h0 : δ[0]? = some (some (.oo o c fs))) (hl : fs.lookup f = some (.fr d)) (hc : c ∈ cs := by decide +kernel) : fOwnF cs f 0 δ = .ok (.fr d) := by
  unfold fOwnF
  rw [h0]
  simp only
  rw [if_pos hc, hl]
end DL


set_option maxRecDepth 100000
set_option maxHeartbeats 4000000
namespace K00
open PySem DL GM
/-! ### machines.py: a machine is made -/
theorem okR_len {L : Str} {n : Int} {r : Rul} (h : okR L n r) : r.t.length ≤ SZ ∧ r.y.length ≤ SZ ∧ r.z.length ≤ SZ := by
  obtain ⟨h1, h2⟩ := ok_key h
  unfold keyB at h1
  unfold actB at h2
  simp only [Bool.and_eq_true, Bool.or_eq_true, decide_eq_true_eq] at h1 h2
  have sy : ∀ x : Str, symB x = true → x.length ≤ SZ := fun x h => by
    have := (symB_P h).2.2
    unfold SZ; omega
  have z : ("" : Str).length ≤ SZ := by decide +kernel
  refine ⟨?_, ?_, ?_⟩
  · rcases h1.2.2 with e | e
    · rw [e]; exact z
    · exact sy _ e
  · have h3 := h2.2.2.2.2.2.2.2.2
    split at h3
    · exact sy _ h3
    · rw [of_decide_eq_true h3]; exact z
  · have h3 := h2.2.2.2.2.2.2.1
    unfold saidB at h3
    simp only [Bool.and_eq_true, decide_eq_true_eq] at h3
    unfold SZ; omega
theorem okR_rule {L : Str} {n : Int} {r : Rul} (hL : L.length ≤ 1000) (h : okR L n r) : g_is_rule [.str L, .int n, r.dt] = .ok (.fr (.bl true)) := by
  obtain ⟨a, b, c⟩ := okR_len h
  rw [rule_ok L n r hL a b c, h]
abbrev FZ := fun g => runF 1 2 (F_frozen g)
theorem frz_int (n : Nat) (i : Int) : fuelF FZ (n + 1) [.int i] = .ok (.fr (.int i)) := by
  show runF 1 2 (F_frozen (fuelF FZ n)) [.int i] = _
  unfold runF F_frozen
  simp
theorem frz_str (n : Nat) (i : Str) : fuelF FZ (n + 1) [.str i] = .ok (.fr (.str i)) := by
  show runF 1 2 (F_frozen (fuelF FZ n)) [.str i] = _
  unfold runF F_frozen
  simp
theorem frz_seq (n : Nat) {d : D} {ds es : List D} (hs : d = .lst ds ∨ d = .tup ds) (h : ds.length = es.length) (hl : ds.length ≤ SZ) (hk : ∀ (i : Nat) (a b : D), ds[i]? = some a → es[i]? = some b → fuelF FZ n [a] = .ok (.fr b)) : fuelF FZ (n + 1) [d] = .ok (.fr (.tup es)) := by
  have key : ∀ (δ : DE) (ds es : List D), δ.length = 2 → ds.length = es.length → (∀ (i : Nat) (a b : D), ds[i]? = some a → es[i]? = some b → fuelF FZ n [a] = .ok (.fr b)) → compL (gSet 1) bYes (fCall (fuelF FZ n) (aCons (getV 1) aNil)) δ ds = .ok es := by
    intro δ ds
    induction ds with
    | nil => intro es _ h _; cases es with
      | nil => rfl
      | cons _ _ => cases h
    | cons a ds ih =>
      intro es hδ h hk
      cases es with
      | nil => cases h
      | cons b es =>
        have e1 : getV 1 (δ.set 1 (some (.fr a))) = .ok (.fr a) := gv_fr (List.getElem?_set_self (by omega))
        rw [compL]
        simp only [ev_gset, ev_yes, if_true, ev_call, ev_acons, e1, bd_ok, ev_anil, rv_fr, hk 0 a b rfl rfl, ih es hδ (Nat.succ.inj h) fun i x y e e' => hk (i + 1) x y e e']
  show runF 1 2 (F_frozen (fuelF FZ n)) [d] = _
  unfold runF F_frozen
  have lc : ∀ q : D, seqD q = .ok ds → fLc (iSeq (getV 0)) [1] (gSet 1) bYes (fCall (fuelF FZ n) (aCons (getV 1) aNil)) [some (.fr q), none] = .ok (.ol es) := fun q hq =>
    lc_ok (ds := ds) (by simp [hq]) (key _ _ _ rfl h hk) (by omega)
  rcases hs with rfl | rfl
  · have := lc (.lst ds) rfl
    simp [this]
  · have := lc (.tup ds) rfl
    simp [this]
theorem frz_rule (n : Nat) (r : Rul) : fuelF FZ (n + 2) [r.dt] = .ok (.fr r.dt) := by
  refine frz_seq (n + 1) (.inr rfl) rfl (by simp [SZ]) fun i a b e1 e2 => ?_
  rw [e1] at e2
  cases e2
  rcases i with _ | _ | _ | _ | _ | _ | _ | _ | i <;> first | (cases e1; exact frz_int n _) | (cases e1; exact frz_str n _) | (simp at e1)
theorem frozen_rules {d : D} (rs : List Rul) (hd : d = .lst (rs.map Rul.dt) ∨ d = .tup (rs.map Rul.dt)) (hl : rs.length ≤ SZ) : g_frozen [d] = .ok (.fr (.tup (rs.map Rul.dt))) := by
  refine frz_seq 7 hd rfl (by rw [List.length_map]; exact hl) fun i a b e1 e2 => ?_
  rw [e1] at e2
  cases e2
  obtain ⟨r, _, rfl⟩ := List.mem_map.mp (List.mem_of_getElem? e1)
  exact frz_rule 5 r
theorem alB_ok {L : Str} (h : alB L = true) : g_is_alphabet [.str L] = .ok (.fr (.bl true)) := by
  unfold alB at h
  exact okT_eq (Bool.and_eq_true_iff.mp h).1
/-- rules, yes states: lists or tuples -/
def seqOf (d : D) (ds : List D) : Prop := d = .lst ds ∨ d = .tup ds
theorem seq_enA {d : D} {ds : List D} (h : seqOf d ds) (hl : d = .lst ds) : enA [d] = .ok (enumD ds) := by subst hl; rfl
theorem check_ok {L : Str} {n : Int} {rs : List Rul} {ys : List Int} (hL : alB L = true) (hn : 1 ≤ n ∧ n ≤ 2000) (hr : ∀ r ∈ rs, okR L n r) (hl : rs.length ≤ 20000) (hy : ∀ y ∈ ys, 0 ≤ y ∧ y < n) :
    g_check_machine [.str L, .int n, .lst (rs.map Rul.dt), .lst (ys.map D.int)] = .ok (.fr .non) := by
  obtain ⟨h1, h2⟩ := al_len hL
  have lp := forL_all (F := sSeq (sIf (bNot (fT (fCall (g_is_rule) (aCons (getV 0) (aCons (getV 1) (aCons (getV 5) aNil)))))) (sSeq (sRaise "BadMachine" ["where"] (aCons (getV 4) aNil)) sNil) sNil) sNil) (bd := gTLD [4, 5]) (fg := [4, 5])
    [some (.fr (.str L)), some (.fr (.int n)), some (.fr (.lst (rs.map Rul.dt))), some (.fr (.lst (ys.map D.int))), none, none, none] (enumD (rs.map Rul.dt)) (fun d hd => by
      obtain ⟨i, x, rfl, e⟩ := enum_mem hd
      obtain ⟨r, hr', rfl⟩ := List.mem_map.mp (List.mem_of_getElem? e)
      have := okR_rule (by omega) (hr r hr')
      exact ⟨_, [some (.fr (.str L)), some (.fr (.int n)), some (.fr (.lst (rs.map Rul.dt))), some (.fr (.lst (ys.map D.int))), some (.fr (.int (i : Nat))), some (.fr r.dt), none], rfl, by simp [this], rfl⟩)
  have ly := forL_all (F := sSeq (sIf (bNot (fT (fCall (g_is_state) (aCons (getV 1) (aCons (getV 6) aNil))))) (sSeq (sRaise "BadMachine" ["where"] (aCons (cst (.str "yes")) aNil)) sNil) sNil) sNil) (bd := gSet 6) (fg := [6])
    [some (.fr (.str L)), some (.fr (.int n)), some (.fr (.lst (rs.map Rul.dt))), some (.fr (.lst (ys.map D.int))), none, none, none] (ys.map D.int) (fun d hd => by
      obtain ⟨y, hy', rfl⟩ := List.mem_map.mp hd
      obtain ⟨a, b⟩ := hy y hy'
      refine ⟨_, [some (.fr (.str L)), some (.fr (.int n)), some (.fr (.lst (rs.map Rul.dt))), some (.fr (.lst (ys.map D.int))), none, none, some (.fr (.int y))], rfl, ?_, rfl⟩
      have e : stB n y = true := by unfold stB; rw [decide_eq_true a, decide_eq_true b]; rfl
      simp [state_ok, e])
  have en : enA [.lst (rs.map Rul.dt)] = .ok (enumD (rs.map Rul.dt)) := rfl
  have g1 : ¬ (20000 : Int) < (rs.length : Int) := by omega
  unfold g_check_machine runF F_check_machine
  simp [alB_ok hL, whole_int, hn.1, hn.2, g1, en, lp, ly]
end K00


set_option maxRecDepth 100000
set_option maxHeartbeats 4000000
namespace GM
open PySem DL
/-! ### the table of a machine -/
def kd (r : Rul) : D := .tup [.int r.s, .str r.g, .str r.t]
def kk (r : Rul) : KK := .inr [.inl r.s, .inr r.g, .inr r.t]
def adT (r : Rul) : D := .tup [.int r.a, .int r.m, .str r.d, .str r.y, .str r.z]
theorem kk_of (r : Rul) : kkOf (kd r) = some (kk r) := rfl
def tpl : Option D → List D
  | some (.tup xs) => xs
  | _ => []
def tbStep (tb : List (D × D)) (r : Rul) : List (D × D) := putD tb (kk r) (.tup (tpl (lookD tb (kk r)) ++ [adT r]))
def tbl (rs : List Rul) : List (D × D) := rs.foldl tbStep []
structure TB (n : Nat) (tb : List (D × D)) : Prop where
  kind : kindD true tb = true
  len : tb.length ≤ n
  val : ∀ p ∈ tb, ∃ xs, p.2 = .tup xs ∧ xs.length ≤ n ∧ ∀ q, safeDs q xs = true
theorem look_mem {tb : List (D × D)} {k : KK} {d : D} (h : lookD tb k = some d) : ∃ p ∈ tb, p.2 = d := by
  unfold lookD at h
  cases e : tb.find? fun p => decide (kkOf p.1 = some k) with
  | none => rw [e] at h; cases h
  | some p => rw [e] at h; cases h; exact ⟨p, List.mem_of_find?_eq_some e, rfl⟩
theorem TB.look {n : Nat} {tb : List (D × D)} (h : TB n tb) (k : KK) : ((lookD tb k).getD (.tup [])) = .tup (tpl (lookD tb k)) ∧ (tpl (lookD tb k)).length ≤ n ∧ ∀ q, safeDs q (tpl (lookD tb k)) = true := by
  cases e : lookD tb k with
  | none => exact ⟨rfl, Nat.zero_le _, fun q => rfl⟩
  | some d =>
    obtain ⟨p, hp, rfl⟩ := look_mem e
    obtain ⟨xs, e2, h2, h3⟩ := h.val p hp
    rw [e2]
    exact ⟨rfl, h2, h3⟩
theorem safe_app {q : Bool × Bool} : ∀ {xs ys : List D}, safeDs q xs = true → safeDs q ys = true → safeDs q (xs ++ ys) = true
  | [], _, _, h => h
  | x :: xs, ys, h, h' => by
    obtain ⟨h1, h2⟩ := Bool.and_eq_true_iff.mp (show (safeD q x && safeDs q xs) = true from h)
    show (safeD q x && safeDs q (xs ++ ys)) = true
    rw [h1, safe_app h2 h']; rfl
theorem TB.step {n : Nat} {tb : List (D × D)} (h : TB n tb) (r : Rul) : TB (n + 1) (tbStep tb r) := by
  obtain ⟨_, h1, h2⟩ := h.look (kk r)
  have new : ∃ xs, DL.D.tup (tpl (lookD tb (kk r)) ++ [adT r]) = .tup xs ∧ xs.length ≤ n + 1 ∧ ∀ q, safeDs q xs = true :=
    ⟨_, rfl, by rw [List.length_append]; simp only [List.length_cons, List.length_nil]; omega, fun q => safe_app (h2 q) rfl⟩
  have old : ∀ p ∈ tb, ∃ xs, p.2 = .tup xs ∧ xs.length ≤ n + 1 ∧ ∀ q, safeDs q xs = true := fun p hp => by
    obtain ⟨xs, a, b, c⟩ := h.val p hp
    exact ⟨xs, a, by omega, c⟩
  unfold tbStep putD
  split
  · refine ⟨?_, by rw [List.length_map]; have := h.len; omega, fun p hp => ?_⟩
    · have hk := h.kind
      unfold kindD at hk ⊢
      rw [List.all_map]
      refine List.all_eq_true.mpr fun p hp => ?_
      have := List.all_eq_true.mp hk p hp
      have e : ((if kkOf p.1 = some (kk r) then (p.1, DL.D.tup (tpl (lookD tb (kk r)) ++ [adT r])) else p) : D × D).1 = p.1 := by split <;> rfl
      show (match kkOf ((if kkOf p.1 = some (kk r) then (p.1, DL.D.tup (tpl (lookD tb (kk r)) ++ [adT r])) else p) : D × D).1 with | some (.inl _) => !true | some (.inr _) => true | none => false) = true
      rw [e]
      exact this
    · obtain ⟨p0, hp0, rfl⟩ := List.mem_map.mp hp
      split
      · exact new
      · exact old p0 hp0
  · refine ⟨?_, by rw [List.length_append]; have := h.len; simp only [List.length_cons, List.length_nil]; omega, fun p hp => ?_⟩
    · have hk := h.kind
      unfold kindD at hk ⊢
      rw [List.all_append, hk]
      rfl
    · rcases List.mem_append.mp hp with hp | hp
      · exact old p hp
      · rw [List.mem_singleton.mp hp]; exact new
theorem tbl_TB (rs : List Rul) : TB rs.length (tbl rs) := by
  have key : ∀ (rs : List Rul) (tb : List (D × D)) (n : Nat), TB n tb → TB (n + rs.length) (rs.foldl tbStep tb) := by
    intro rs
    induction rs with
    | nil => exact fun tb n h => h
    | cons r rs ih =>
      intro tb n h
      have := ih _ _ (h.step r)
      rw [List.foldl_cons, List.length_cons, show n + (rs.length + 1) = n + 1 + rs.length by omega]
      exact this
  have := key rs [] 0 ⟨rfl, Nat.le_refl _, fun _ h => nomatch h⟩
  rw [Nat.zero_add] at this
  exact this
def foundS (rs : List Rul) : List Str := ((rs.filter fun r => !decide (r.t = ("" : Str))).map Rul.t) ++ ((rs.filter fun r => !decide (r.y = ("" : Str))).map Rul.y)
theorem foundS_len (rs : List Rul) : (foundS rs).length ≤ 2 * rs.length := by
  unfold foundS
  rw [List.length_append, List.length_map, List.length_map]
  have h1 := List.length_filter_le (fun r : Rul => !decide (r.t = ("" : Str))) rs
  have h2 := List.length_filter_le (fun r : Rul => !decide (r.y = ("" : Str))) rs
  omega
/-- the first key that two neighbours have -/
def fgD (rs : List Rul) (i : Nat) : Option D := match rs[i]?, rs[i + 1]? with
  | some a, some b => if a.s = b.s ∧ a.g = b.g ∧ a.t = b.t then some (kd a) else none
  | _, _ => none
def fgs (rs : List Rul) : D := ((List.range (rs.length - 1)).findSome? (fgD rs)).getD .non
def knD (ss : List Str) : List (D × D) := ss.map fun s => (.str s, .bl true)
theorem putD_new {tb : List (D × D)} {s : Str} {d : D} (h : ∀ p ∈ tb, kkOf p.1 ≠ some (.inl (.inr s))) : putD tb (.inl (.inr s)) d = tb ++ [(.str s, d)] := by
  have e : lookD tb (.inl (.inr s)) = none := by
    cases q : lookD tb (.inl (.inr s)) with
    | none => rfl
    | some x =>
      unfold lookD at q
      cases e : tb.find? fun p => decide (kkOf p.1 = some (.inl (.inr s))) with
      | none => rw [e] at q; cases q
      | some p => exact absurd (by simpa using List.find?_some e) (h p (List.mem_of_find?_eq_some e))
  unfold putD
  rw [e]
  rfl
theorem dc_known {δ : DE} : ∀ (ss : List Str) (acc : List Str), 8 < δ.length → (acc ++ ss).Nodup → (acc ++ ss).length ≤ SZ → dcL (gSet 8) bYes (getV 8) (cst (.bl true)) δ (knD acc) (ss.map D.str) = .ok (knD (acc ++ ss))
  | [], acc, _, _, _ => by rw [List.append_nil]; rfl
  | s :: ss, acc, hδ, hn, hl => by
    have e1 : getV 8 (δ.set 8 (some (.fr (.str s)))) = .ok (.fr (.str s)) := gv_fr (List.getElem?_set_self hδ)
    have hs : ∀ p ∈ knD acc, kkOf p.1 ≠ some (.inl (.inr s)) := fun p hp e => by
      obtain ⟨x, hx, rfl⟩ := List.mem_map.mp hp
      have : x = s := Sum.inr.inj (Sum.inl.inj (Option.some.inj e))
      subst this
      exact (List.nodup_append.mp hn).2.2 _ hx _ List.mem_cons_self rfl
    have ha : (knD acc).length < SZ := by
      unfold knD
      rw [List.length_map]
      rw [List.length_append, List.length_cons] at hl
      omega
    have e2 : knD acc ++ [(.str s, .bl true)] = knD (acc ++ [s]) := by unfold knD; rw [List.map_append]; rfl
    rw [List.map_cons, dcL]
    simp only [ev_gset, ev_yes, if_true, e1, ev_cst, rv_fr, kkOf, ha]
    rw [putD_new hs, e2, dc_known ss (acc ++ [s]) hδ (by rw [List.append_assoc]; exact hn) (by rw [List.append_assoc]; exact hl), List.append_assoc]
    rfl
def machF (L : Str) (n : Int) (rs : List Rul) (ys : List Int) : List (Str × RV) := [("letters", .fr (.str L)), ("states", .fr (.int n)), ("rules", .fr (.tup ((srt rs).map Rul.dt))), ("yes", .fr (.tup ((srtI ys).map D.int))), ("symbols", .fr (.tup ((srtS (foundS rs)).map D.str))),
  ("known_symbols", .od false (knD (srtS (foundS rs)))), ("guess", .fr (fgs (srt rs))), ("_table", .fr (.dct (tbl (srt rs))))]
end GM
namespace K00
open PySem DL GM
theorem guess_ok (rs : List Rul) (hl : rs.length < 2 ^ 60) : g_first_guess [.tup (rs.map Rul.dt)] = .ok (.fr (fgs rs)) := by
  have c3 : ∀ r : Rul, cutL [DL.D.int r.s, .str r.g, .str r.t, .int r.a, .int r.m, .str r.d, .str r.y, .str r.z] none (some 3) = [.int r.s, .str r.g, .str r.t] := fun r => rfl
  have q3 : ∀ δ : DE, pInt (cst (.int 3)) δ = .ok (some 3) := fun _ => rfl
  have rg : rng1 [.int ((rs.length : Int) - 1)] = .ok ((List.range (rs.length - 1)).map fun i => D.int (i : Nat)) := by
    have e : ((rs.length : Int) - 1).toNat = rs.length - 1 := by omega
    have c : -(2 ^ 62) ≤ (rs.length : Int) - 1 ∧ (rs.length : Int) - 1 < 2 ^ 62 := by omega
    simp only [rng1, if_pos c, e, Int.zero_add]
  have key : ∀ a b : Rul, dEq false (.tup [.int a.s, .str a.g, .str a.t]) (.tup [.int b.s, .str b.g, .str b.t]) = .ok (.fr (.bl (decide (a.s = b.s ∧ a.g = b.g ∧ a.t = b.t)))) := fun a b => by
    show R.ok (RV.fr (D.bl ((a.s == b.s) && ((a.g == b.g) && ((a.t == b.t) && true))))) = _
    have e : ((a.s == b.s) && ((a.g == b.g) && ((a.t == b.t) && true))) = decide (a.s = b.s ∧ a.g = b.g ∧ a.t = b.t) := by
      rw [Bool.eq_iff_iff]; simp
    rw [e]
  have lp := forL_find (F := sSeq (sIf (fB (fBin (dEq false) (fSl (fBin dIxD (getV 0) (getV 1)) pNone (pInt (cst (.int 3)))) (fSl (fBin dIxD (getV 0) (fBin dAdd (getV 1) (cst (.int 1)))) pNone (pInt (cst (.int 3)))))) (sSeq (sRet (fSl (fBin dIxD (getV 0) (getV 1)) pNone (pInt (cst (.int 3))))) sNil) sNil) sNil) (bd := gSet 1) (fg := [1])
    (δ := [some (.fr (.tup (rs.map Rul.dt))), none]) (fun d => match d with | .int i => (fgD rs i.toNat).map RV.fr | _ => none) ((List.range (rs.length - 1)).map fun i => D.int (i : Nat)) (fun d hd => by
      obtain ⟨i, hi, rfl⟩ := List.mem_map.mp hd
      have hi := List.mem_range.mp hi
      obtain ⟨a, ha⟩ : ∃ a, rs[i]? = some a := ⟨rs[i], List.getElem?_eq_getElem (by omega)⟩
      obtain ⟨b, hb⟩ : ∃ b, rs[i + 1]? = some b := ⟨rs[i + 1], List.getElem?_eq_getElem (by omega)⟩
      have ea : dIxD (.tup (rs.map Rul.dt)) (.int (i : Int)) = .ok (.fr a.dt) := by rw [ixn_tup, List.getElem?_map, ha]; rfl
      have eb : dIxD (.tup (rs.map Rul.dt)) (.int ((i : Int) + 1)) = .ok (.fr b.dt) := by
        have := ixn_tup (ds := rs.map Rul.dt) (n := i + 1)
        rw [show ((i + 1 : Nat) : Int) = (i : Int) + 1 by omega] at this
        rw [this, List.getElem?_map, hb]; rfl
      have fe : fgD rs i = if a.s = b.s ∧ a.g = b.g ∧ a.t = b.t then some (kd a) else none := by unfold fgD; rw [ha, hb]
      refine ⟨_, rfl, ?_⟩
      simp only [Int.toNat_natCast, fe]
      by_cases h : a.s = b.s ∧ a.g = b.g ∧ a.t = b.t
      · rw [if_pos h]
        have kab := key a b
        rw [decide_eq_true h] at kab
        simp [ea, eb, q3, Rul.dt, c3, kab]
        rfl
      · rw [if_neg h]
        refine ⟨[some (.fr (.tup (rs.map Rul.dt))), some (.fr (.int (i : Nat)))], ?_, rfl⟩
        have kab := key a b
        rw [decide_eq_false h] at kab
        simp [ea, eb, q3, Rul.dt, c3, kab])
  have fs : ∀ is : List Nat, (is.map fun i => D.int (i : Nat)).findSome? (fun d => match d with | .int i => (fgD rs i.toNat).map RV.fr | _ => none) = (is.findSome? (fgD rs)).map RV.fr := by
    intro is
    induction is with
    | nil => rfl
    | cons i is ih =>
      rw [List.map_cons, List.findSome?_cons, List.findSome?_cons]
      simp only [Int.toNat_natCast]
      cases fgD rs i with
      | none => exact ih
      | some d => rfl
  rw [fs] at lp
  unfold g_first_guess runF F_first_guess fgs
  cases e : (List.range (rs.length - 1)).findSome? (fgD rs) with
  | none => rw [e] at lp; simp [rg, lp]
  | some d => rw [e] at lp; simp [rg, lp]
end K00


set_option maxRecDepth 100000
set_option maxHeartbeats 4000000
namespace K00
open PySem DL GM
theorem self_of {x : Addr} {c : Str} {n N : Nat} {F : DE → SR} {ds : List D} {fs : List (Str × RV)} (hl : ds.length = n) (h : nxS (fun δ => δ[0]? = some (some (.oo (some x) c fs))) (F (some (RV.oo (some x) c []) :: ds.map (fun d => some (RV.fr d)) ++ List.replicate (N - (n + 1)) none))) :
    runI x c n N F ds = .ok (.oo none c fs) := by
  obtain ⟨δ, e, h1⟩ := nx_ex h
  unfold runI
  rw [if_pos hl, e]
  simp only [h1]
  unfold selfOf
  simp
theorem put_at {i : Nat} {fk fv : DE → R RV} {δ : DE} {t : Bool} {kvs : List (D × D)} {r y : RV} {k : KK} (ev : fv δ = .ok r) (h0 : δ[i]? = some (some (.od t kvs))) (ek : fk δ = .ok y) (hk : kkOf y.d = some k) (hkd : kindOk kvs k = true) (hl : kvs.length < SZ) :
    sPut i fk fv δ = .nx (δ.set i (some (.od (kkT k) (putD kvs k r.d)))) := by
  unfold sPut
  rw [ev, lf_ok, h0]
  simp only
  rw [ek, lf_ok]
  unfold putAtD
  rw [hk]
  simp only
  rw [if_pos ⟨hkd, hl⟩]
theorem view_fr {f : DE → R RV} {δ : DE} {d : D} (e : f (frzAll δ) = .ok (.fr d)) (hs : ∀ q, safeD q d = true) : fView f δ = .ok (.fr d) := by
  unfold fView
  rw [e]
  simp only
  rw [if_pos (hs _)]
theorem machine_new {L : Str} {n : Int} {rs : List Rul} {ys : List Int} (hL : alB L = true) (hn : 1 ≤ n ∧ n ≤ 2000) (hr : ∀ r ∈ rs, okR L n r) (hl : rs.length < 2000) (hy : ∀ y ∈ ys, 0 ≤ y ∧ y < n) (hyl : ys.length < 4000) :
    m_Machine [.str L, .int n, .lst (rs.map Rul.dt), .lst (ys.map D.int)] = .ok (.oo none "Machine" (machF L n rs ys)) := by
  refine mkI_of fun x => self_of rfl ?_
  have ck := check_ok hL hn hr (by omega) hy
  have fz := frozen_rules rs (.inl rfl) (by unfold SZ; omega)
  have s1 := dSS_rules rs (by omega)
  have s2 := dSS_ints ys (by omega)
  have hfl := foundS_len rs
  have s3 := dSS_strs (foundS rs) (by omega)
  have hsl := srt_len rs
  have gs := guess_ok (srt rs) (by omega)
  unfold F_Machine_init
  refine wp_nx (δ' := [some (.oo (some x) "Machine" []), some (.fr (.str L)), some (.fr (.int n)), some (.fr (.lst (rs.map Rul.dt))), some (.fr (.lst (ys.map D.int))), none, none, none, none, none]) (by simp [ck]) ?_
  refine wp_nx (δ' := [some (.oo (some x) "Machine" []), some (.fr (.str L)), some (.fr (.int n)), some (.fr (.lst (rs.map Rul.dt))), some (.fr (.lst (ys.map D.int))), some (.fr (.tup (rs.map Rul.dt))), none, none, none, none]) (by simp [fz]) ?_
  refine wp_nx (δ' := [some (.oo (some x) "Machine" [("letters", .fr (.str L))]), some (.fr (.str L)), some (.fr (.int n)), some (.fr (.lst (rs.map Rul.dt))), some (.fr (.lst (ys.map D.int))), some (.fr (.tup (rs.map Rul.dt))), none, none, none, none]) (fld_new [] (r := .fr (.str L)) (fs := []) (by simp) rfl rfl) ?_
  refine wp_nx (δ' := [some (.oo (some x) "Machine" [("letters", .fr (.str L)), ("states", .fr (.int n))]), some (.fr (.str L)), some (.fr (.int n)), some (.fr (.lst (rs.map Rul.dt))), some (.fr (.lst (ys.map D.int))), some (.fr (.tup (rs.map Rul.dt))), none, none, none, none]) (fld_new ["letters"] (r := .fr (.int n)) (fs := [("letters", .fr (.str L))]) (by simp) rfl rfl) ?_
  refine wp_nx (δ' := [some (.oo (some x) "Machine" [("letters", .fr (.str L)), ("states", .fr (.int n)), ("rules", .fr (.tup ((srt rs).map Rul.dt)))]), some (.fr (.str L)), some (.fr (.int n)), some (.fr (.lst (rs.map Rul.dt))), some (.fr (.lst (ys.map D.int))), some (.fr (.tup (rs.map Rul.dt))), none, none, none, none]) (by
    rw [ev_frz, fz_any (r := .fr (.tup (rs.map Rul.dt))) rfl]
    exact fld_new ["letters", "states"] (r := .fr (.tup ((srt rs).map Rul.dt))) (fs := [("letters", .fr (.str L)), ("states", .fr (.int n))]) (by simp [s1]) rfl rfl) ?_
  refine wp_nx (δ' := [some (.oo (some x) "Machine" [("letters", .fr (.str L)), ("states", .fr (.int n)), ("rules", .fr (.tup ((srt rs).map Rul.dt))), ("yes", .fr (.tup ((srtI ys).map D.int)))]), some (.fr (.str L)), some (.fr (.int n)), some (.fr (.lst (rs.map Rul.dt))), some (.fr (.lst (ys.map D.int))), some (.fr (.tup (rs.map Rul.dt))), none, none, none, none]) (fld_new ["letters", "states", "rules"] (r := .fr (.tup ((srtI ys).map D.int))) (fs := [("letters", .fr (.str L)), ("states", .fr (.int n)), ("rules", .fr (.tup ((srt rs).map Rul.dt)))]) (by simp [s2]) rfl rfl) ?_
  have lc2 := lc_ok (fi := iSeq (getV 5)) (vs := [7]) (bd := gSet 7) (ft := (fB (fBin (dEq true) (fBin dIxD (getV 7) (cst (.int 2))) (cst (.str ""))))) (fe := (fBin dIxD (getV 7) (cst (.int 2)))) (δ := [some (.oo (some x) "Machine" [("letters", .fr (.str L)), ("states", .fr (.int n)), ("rules", .fr (.tup ((srt rs).map Rul.dt))), ("yes", .fr (.tup ((srtI ys).map D.int)))]), some (.fr (.str L)), some (.fr (.int n)), some (.fr (.lst (rs.map Rul.dt))), some (.fr (.lst (ys.map D.int))), some (.fr (.tup (rs.map Rul.dt))), none, none, none, none]) (ds := rs.map Rul.dt) (es := (rs.filter fun r => !decide (r.t = ("" : Str))).map fun r => D.str r.t) (by simp) (comp_filter Rul.dt (fun r => D.str r.t) (fun r => !decide (r.t = ("" : Str))) rs fun r _ => ⟨_, rfl, by simp [fgtS, Rul.dt, ne_str], fun _ => ⟨.fr (.str r.t), by simp [fgtS, Rul.dt], rfl⟩⟩) (by
    rw [List.length_map]
    have := List.length_filter_le (fun r : Rul => !decide (r.t = ("" : Str))) rs
    unfold SZ; omega)
  have lc6 := lc_ok (fi := iSeq (getV 5)) (vs := [7]) (bd := gSet 7) (ft := (fB (fBin (dEq true) (fBin dIxD (getV 7) (cst (.int 6))) (cst (.str ""))))) (fe := (fBin dIxD (getV 7) (cst (.int 6)))) (δ := [some (.oo (some x) "Machine" [("letters", .fr (.str L)), ("states", .fr (.int n)), ("rules", .fr (.tup ((srt rs).map Rul.dt))), ("yes", .fr (.tup ((srtI ys).map D.int)))]), some (.fr (.str L)), some (.fr (.int n)), some (.fr (.lst (rs.map Rul.dt))), some (.fr (.lst (ys.map D.int))), some (.fr (.tup (rs.map Rul.dt))), none, none, none, none]) (ds := rs.map Rul.dt) (es := (rs.filter fun r => !decide (r.y = ("" : Str))).map fun r => D.str r.y) (by simp) (comp_filter Rul.dt (fun r => D.str r.y) (fun r => !decide (r.y = ("" : Str))) rs fun r _ => ⟨_, rfl, by simp [fgtS, Rul.dt, ne_str], fun _ => ⟨.fr (.str r.y), by simp [fgtS, Rul.dt], rfl⟩⟩) (by
    rw [List.length_map]
    have := List.length_filter_le (fun r : Rul => !decide (r.y = ("" : Str))) rs
    unfold SZ; omega)
  have fa : dAdd (.lst ((rs.filter fun r => !decide (r.t = ("" : Str))).map fun r => D.str r.t)) (.lst ((rs.filter fun r => !decide (r.y = ("" : Str))).map fun r => D.str r.y)) = .ok (.ol ((foundS rs).map D.str)) := by
    rw [add_lst]
    · unfold foundS
      rw [List.map_append, List.map_map, List.map_map]; rfl
    · rw [List.length_map, List.length_map]
      have h1 := List.length_filter_le (fun r : Rul => !decide (r.t = ("" : Str))) rs
      have h2 := List.length_filter_le (fun r : Rul => !decide (r.y = ("" : Str))) rs
      unfold SZ; omega
  refine wp_nx (δ' := [some (.oo (some x) "Machine" [("letters", .fr (.str L)), ("states", .fr (.int n)), ("rules", .fr (.tup ((srt rs).map Rul.dt))), ("yes", .fr (.tup ((srtI ys).map D.int)))]), some (.fr (.str L)), some (.fr (.int n)), some (.fr (.lst (rs.map Rul.dt))), some (.fr (.lst (ys.map D.int))), some (.fr (.tup (rs.map Rul.dt))), some (.ol ((foundS rs).map D.str)), none, none, none]) (by
    rw [ev_set, ev_bin, lc2, bd_ok, lc6, bd_ok, rv_ol, rv_ol, fa]; rfl) ?_
  refine wp_nx (δ' := [some (.oo (some x) "Machine" [("letters", .fr (.str L)), ("states", .fr (.int n)), ("rules", .fr (.tup ((srt rs).map Rul.dt))), ("yes", .fr (.tup ((srtI ys).map D.int))), ("symbols", .fr (.tup ((srtS (foundS rs)).map D.str)))]), some (.fr (.str L)), some (.fr (.int n)), some (.fr (.lst (rs.map Rul.dt))), some (.fr (.lst (ys.map D.int))), some (.fr (.tup (rs.map Rul.dt))), some (.fr (.lst ((foundS rs).map D.str))), none, none, none]) (by
    rw [ev_frz, fz_any (r := .ol ((foundS rs).map D.str)) rfl]
    exact fld_new ["letters", "states", "rules", "yes"] (r := .fr (.tup ((srtS (foundS rs)).map D.str))) (fs := [("letters", .fr (.str L)), ("states", .fr (.int n)), ("rules", .fr (.tup ((srt rs).map Rul.dt))), ("yes", .fr (.tup ((srtI ys).map D.int)))]) (by simp [s3]) rfl rfl) ?_
  have hk : fDc (iSeq (fOwnF ["Machine"] "symbols" 0)) [8] (gSet 8) bYes (getV 8) (cst (.bl true)) [some (.oo (some x) "Machine" [("letters", .fr (.str L)), ("states", .fr (.int n)), ("rules", .fr (.tup ((srt rs).map Rul.dt))), ("yes", .fr (.tup ((srtI ys).map D.int))), ("symbols", .fr (.tup ((srtS (foundS rs)).map D.str)))]), some (.fr (.str L)), some (.fr (.int n)), some (.fr (.lst (rs.map Rul.dt))), some (.fr (.lst (ys.map D.int))), some (.fr (.tup (rs.map Rul.dt))), some (.fr (.lst ((foundS rs).map D.str))), none, none, none] = .ok (.od false (knD (srtS (foundS rs)))) := by
    have o : fOwnF ["Machine"] "symbols" 0 [some (.oo (some x) "Machine" [("letters", .fr (.str L)), ("states", .fr (.int n)), ("rules", .fr (.tup ((srt rs).map Rul.dt))), ("yes", .fr (.tup ((srtI ys).map D.int))), ("symbols", .fr (.tup ((srtS (foundS rs)).map D.str)))]), some (.fr (.str L)), some (.fr (.int n)), some (.fr (.lst (rs.map Rul.dt))), some (.fr (.lst (ys.map D.int))), some (.fr (.tup (rs.map Rul.dt))), some (.fr (.lst ((foundS rs).map D.str))), none, none, none] = .ok (.fr (.tup ((srtS (foundS rs)).map D.str))) := own_fld (fs := [("letters", .fr (.str L)), ("states", .fr (.int n)), ("rules", .fr (.tup ((srt rs).map Rul.dt))), ("yes", .fr (.tup ((srtI ys).map D.int))), ("symbols", .fr (.tup ((srtS (foundS rs)).map D.str)))]) rfl (by rfl)
    have hsn := srtS_nodup (foundS rs)
    have hsl := srtS_len (foundS rs)
    have dc := dc_known (δ := fgtS [8] [some (.oo (some x) "Machine" [("letters", .fr (.str L)), ("states", .fr (.int n)), ("rules", .fr (.tup ((srt rs).map Rul.dt))), ("yes", .fr (.tup ((srtI ys).map D.int))), ("symbols", .fr (.tup ((srtS (foundS rs)).map D.str)))]), some (.fr (.str L)), some (.fr (.int n)), some (.fr (.lst (rs.map Rul.dt))), some (.fr (.lst (ys.map D.int))), some (.fr (.tup (rs.map Rul.dt))), some (.fr (.lst ((foundS rs).map D.str))), none, none, none]) (srtS (foundS rs)) [] (by simp [fgtS]) (by simpa using hsn) (by simp; unfold SZ; omega)
    unfold fDc
    rw [ev_iseq, o, bd_ok, rv_fr, seq_tup, bd_ok]
    have e0 : knD [] = [] := rfl
    rw [e0] at dc
    rw [dc]
    rfl
  refine wp_nx (δ' := [some (.oo (some x) "Machine" [("letters", .fr (.str L)), ("states", .fr (.int n)), ("rules", .fr (.tup ((srt rs).map Rul.dt))), ("yes", .fr (.tup ((srtI ys).map D.int))), ("symbols", .fr (.tup ((srtS (foundS rs)).map D.str))), ("known_symbols", .od false (knD (srtS (foundS rs))))]), some (.fr (.str L)), some (.fr (.int n)), some (.fr (.lst (rs.map Rul.dt))), some (.fr (.lst (ys.map D.int))), some (.fr (.tup (rs.map Rul.dt))), some (.fr (.lst ((foundS rs).map D.str))), none, none, none]) (fld_new ["letters", "states", "rules", "yes", "symbols"] (r := .od false (knD (srtS (foundS rs)))) (fs := [("letters", .fr (.str L)), ("states", .fr (.int n)), ("rules", .fr (.tup ((srt rs).map Rul.dt))), ("yes", .fr (.tup ((srtI ys).map D.int))), ("symbols", .fr (.tup ((srtS (foundS rs)).map D.str)))]) hk rfl rfl) ?_
  have orr : ∀ fs : List (Str × RV), fs.lookup ("rules" : Str) = some (RV.fr (.tup ((srt rs).map Rul.dt))) → ∀ s5 s6 s7 s8 s9, fOwnF ["Machine"] "rules" 0 [some (.oo (some x) "Machine" fs), some (.fr (.str L)), some (.fr (.int n)), some (.fr (.lst (rs.map Rul.dt))), some (.fr (.lst (ys.map D.int))), s5, s6, s7, s8, s9] = .ok (.fr (.tup ((srt rs).map Rul.dt))) := fun fs h s5 s6 s7 s8 s9 => own_fld (fs := fs) rfl h
  refine wp_nx (δ' := [some (.oo (some x) "Machine" [("letters", .fr (.str L)), ("states", .fr (.int n)), ("rules", .fr (.tup ((srt rs).map Rul.dt))), ("yes", .fr (.tup ((srtI ys).map D.int))), ("symbols", .fr (.tup ((srtS (foundS rs)).map D.str))), ("known_symbols", .od false (knD (srtS (foundS rs)))), ("guess", .fr (fgs (srt rs)))]), some (.fr (.str L)), some (.fr (.int n)), some (.fr (.lst (rs.map Rul.dt))), some (.fr (.lst (ys.map D.int))), some (.fr (.tup (rs.map Rul.dt))), some (.fr (.lst ((foundS rs).map D.str))), none, none, none]) (fld_new ["letters", "states", "rules", "yes", "symbols", "known_symbols"] (r := .fr (fgs (srt rs))) (fs := [("letters", .fr (.str L)), ("states", .fr (.int n)), ("rules", .fr (.tup ((srt rs).map Rul.dt))), ("yes", .fr (.tup ((srtI ys).map D.int))), ("symbols", .fr (.tup ((srtS (foundS rs)).map D.str))), ("known_symbols", .od false (knD (srtS (foundS rs))))]) (by rw [ev_call, ev_acons, orr _ (by rfl)]; simp [gs]) rfl rfl) ?_
  refine wp_nx (δ' := [some (.oo (some x) "Machine" [("letters", .fr (.str L)), ("states", .fr (.int n)), ("rules", .fr (.tup ((srt rs).map Rul.dt))), ("yes", .fr (.tup ((srtI ys).map D.int))), ("symbols", .fr (.tup ((srtS (foundS rs)).map D.str))), ("known_symbols", .od false (knD (srtS (foundS rs)))), ("guess", .fr (fgs (srt rs)))]), some (.fr (.str L)), some (.fr (.int n)), some (.fr (.lst (rs.map Rul.dt))), some (.fr (.lst (ys.map D.int))), some (.fr (.tup (rs.map Rul.dt))), some (.fr (.lst ((foundS rs).map D.str))), none, none, some (.od false [])]) (by simp) ?_
  refine wp_seq2 (wp_for (P := fun δ => ∃ r7 t, δ = [some (.oo (some x) "Machine" [("letters", .fr (.str L)), ("states", .fr (.int n)), ("rules", .fr (.tup ((srt rs).map Rul.dt))), ("yes", .fr (.tup ((srtI ys).map D.int))), ("symbols", .fr (.tup ((srtS (foundS rs)).map D.str))), ("known_symbols", .od false (knD (srtS (foundS rs)))), ("guess", .fr (fgs (srt rs)))]), some (.fr (.str L)), some (.fr (.int n)), some (.fr (.lst (rs.map Rul.dt))), some (.fr (.lst (ys.map D.int))), some (.fr (.tup (rs.map Rul.dt))), some (.fr (.lst ((foundS rs).map D.str))), r7, none, some (.od t (tbl (srt rs)))]) ((srt rs).map Rul.dt) (fun i δ => ∃ r7 t, δ = [some (.oo (some x) "Machine" [("letters", .fr (.str L)), ("states", .fr (.int n)), ("rules", .fr (.tup ((srt rs).map Rul.dt))), ("yes", .fr (.tup ((srtI ys).map D.int))), ("symbols", .fr (.tup ((srtS (foundS rs)).map D.str))), ("known_symbols", .od false (knD (srtS (foundS rs)))), ("guess", .fr (fgs (srt rs)))]), some (.fr (.str L)), some (.fr (.int n)), some (.fr (.lst (rs.map Rul.dt))), some (.fr (.lst (ys.map D.int))), some (.fr (.tup (rs.map Rul.dt))), some (.fr (.lst ((foundS rs).map D.str))), r7, none, some (.od t (tbl ((srt rs).take i)))]) (by rw [ev_iseq, orr _ (by rfl)]; simp) ⟨none, false, rfl⟩ ?_ (fun δ' ⟨r7, t, h⟩ => ⟨r7, t, by rw [h, List.length_map, List.take_length]⟩)) ?_
  · intro i d δ ed ⟨r7, t, h⟩
    subst h
    rw [List.getElem?_map] at ed
    cases er : (srt rs)[i]? with
    | none => rw [er] at ed; cases ed
    | some r =>
      rw [er] at ed
      cases ed
      have hi : i < (srt rs).length := by
        rcases Nat.lt_or_ge i (srt rs).length with h | h
        · exact h
        · rw [List.getElem?_eq_none h] at er; cases er
      have tb := tbl_TB ((srt rs).take i)
      have htl : ((srt rs).take i).length ≤ i := List.length_take_le _ _
      have tk : tbl ((srt rs).take (i + 1)) = tbStep (tbl ((srt rs).take i)) r := by
        rw [List.take_succ, er]
        unfold tbl
        rw [List.foldl_append]; rfl
      obtain ⟨l1, l2, l3⟩ := tb.look (kk r)
      have c3 : cutL [DL.D.int r.s, .str r.g, .str r.t, .int r.a, .int r.m, .str r.d, .str r.y, .str r.z] none (some 3) = [.int r.s, .str r.g, .str r.t] := rfl
      have c4 : cutL [DL.D.int r.s, .str r.g, .str r.t, .int r.a, .int r.m, .str r.d, .str r.y, .str r.z] (some 3) none = [.int r.a, .int r.m, .str r.d, .str r.y, .str r.z] := rfl
      have q3 : ∀ δ : DE, pInt (cst (.int 3)) δ = .ok (some 3) := fun _ => rfl
      generalize tbl ((srt rs).take i) = T at tb tk l1 l2 l3 ⊢
      have key : ∀ δ : DE, δ[7]? = some (some (.fr r.dt)) → fSl (getV 7) pNone (pInt (cst (.int 3))) δ = .ok (.fr (kd r)) := fun δ h => by
        have g7 : getV 7 δ = .ok (.fr r.dt) := gv_fr h
        rw [ev_sl, g7, bd_ok, ev_pnone, bd_ok, q3, bd_ok, rv_fr]
        show dSl (.tup _) _ _ = _
        rw [sl_tup, c3]; rfl
      have act : ∀ δ : DE, δ[7]? = some (some (.fr r.dt)) → fSl (getV 7) (pInt (cst (.int 3))) pNone δ = .ok (.fr (adT r)) := fun δ h => by
        have g7 : getV 7 δ = .ok (.fr r.dt) := gv_fr h
        rw [ev_sl, g7, bd_ok, q3, bd_ok, ev_pnone, bd_ok, rv_fr]
        show dSl (.tup _) _ _ = _
        rw [sl_tup, c4]; rfl
      have get : ∀ δ : DE, δ[7]? = some (some (.fr r.dt)) → δ[9]? = some (some (.fr (.dct T))) → fGet2 (getV 9) (fSl (getV 7) pNone (pInt (cst (.int 3)))) (fTup 0 aNil) δ = .ok (.fr (.tup (tpl (lookD T (kk r))))) := fun δ h h9 => by
        have g9 : getV 9 δ = .ok (.fr (.dct T)) := gv_fr h9
        unfold fGet2
        rw [g9, bd_ok, rv_fr]
        show (if true = true then _ else _) = _
        rw [if_pos rfl, key δ h, bd_ok, rv_fr, ev_tup, ev_anil, bd_ok, bd_ok, rv_fr]
        unfold dGet2
        simp only [kk_of]
        rw [if_pos (show kindOk T (kk r) = true from tb.kind), l1]
      have ad2 : dAdd (.tup (tpl (lookD T (kk r)))) (.tup [adT r]) = .ok (.fr (.tup (tpl (lookD T (kk r)) ++ [adT r]))) := add_tup (by unfold SZ; simp only [List.length_cons, List.length_nil]; omega)
      have val : ∀ δ : DE, δ[7]? = some (some (.fr r.dt)) → δ[9]? = some (some (.fr (.dct T))) → fBin dAdd (fGet2 (getV 9) (fSl (getV 7) pNone (pInt (cst (.int 3)))) (fTup 0 aNil)) (fTup 1 (aCons (fSl (getV 7) (pInt (cst (.int 3))) pNone) aNil)) δ = .ok (.fr (.tup (tpl (lookD T (kk r)) ++ [adT r]))) := fun δ h h9 => by
        rw [ev_bin, get δ h h9, bd_ok, ev_tup, ev_acons, act δ h, bd_ok, ev_anil, bd_ok, bd_ok, bd_ok, rv_fr, rv_fr, rv_fr, ad2]
      have hT := tb.len
      refine ⟨_, rfl, wp_nx (put_at (t := t) (kvs := T) (k := kk r) (view_fr (val _ rfl rfl) fun q => safe_app (l3 q) rfl) rfl (key _ rfl) (kk_of r) tb.kind (by unfold SZ; omega)) (wp_nil ⟨some (.fr r.dt), true, by rw [tk]; rfl⟩)⟩
  · intro δ' ⟨r7, t, h⟩
    subst h
    refine wp_nx (δ' := [some (.oo (some x) "Machine" [("letters", .fr (.str L)), ("states", .fr (.int n)), ("rules", .fr (.tup ((srt rs).map Rul.dt))), ("yes", .fr (.tup ((srtI ys).map D.int))), ("symbols", .fr (.tup ((srtS (foundS rs)).map D.str))), ("known_symbols", .od false (knD (srtS (foundS rs)))), ("guess", .fr (fgs (srt rs))), ("_table", .fr (.dct (tbl (srt rs))))]), some (.fr (.str L)), some (.fr (.int n)), some (.fr (.lst (rs.map Rul.dt))), some (.fr (.lst (ys.map D.int))), some (.fr (.tup (rs.map Rul.dt))), some (.fr (.lst ((foundS rs).map D.str))), r7, none, some (.fr (.dct (tbl (srt rs))))]) (by
      rw [ev_frz, fz_any (r := .od t (tbl (srt rs))) rfl]
      exact fld_new ["letters", "states", "rules", "yes", "symbols", "known_symbols", "guess"] (r := .fr (.dct (tbl (srt rs)))) (fs := [("letters", .fr (.str L)), ("states", .fr (.int n)), ("rules", .fr (.tup ((srt rs).map Rul.dt))), ("yes", .fr (.tup ((srtI ys).map D.int))), ("symbols", .fr (.tup ((srtS (foundS rs)).map D.str))), ("known_symbols", .od false (knD (srtS (foundS rs)))), ("guess", .fr (fgs (srt rs)))]) (by simp) rfl rfl) (wp_nil rfl)
end K00


set_option maxRecDepth 100000
set_option maxHeartbeats 4000000
namespace GM
open PySem DL
/-! ### texts by their signs -/
def stS (l : List Nat) : Str := ⟨l.toArray⟩
@[simp] theorem stS_l (l : List Nat) : (stS l).cps.toList = l := by simp [stS]
@[simp] theorem stS_len (l : List Nat) : (stS l).length = l.length := by simp [stS, Str.length]
theorem stS_eq (x : Str) : stS x.cps.toList = x := by cases x; simp [stS]
theorem stS_inj {l m : List Nat} (h : stS l = stS m) : l = m := by
  have := congrArg (fun x : Str => x.cps.toList) h
  simpa using this
theorem stS_app (l m : List Nat) : stS l ++ stS m = stS (l ++ m) := by
  show Str.append _ _ = _
  simp [stS, Str.append]
theorem str_nil : ("" : Str) = stS [] := by decide +kernel
theorem join_cat (s : List Nat) : ∀ ls : List (List Nat), Str.join (stS s) (ls.map stS) = stS ((ls.intersperse s).flatten)
  | [] => rfl
  | [l] => by simp [Str.join]
  | l :: m :: r => by
    have ih := join_cat s (m :: r)
    rw [List.map_cons] at ih
    simp only [List.map_cons, Str.join]
    rw [ih, stS_app, stS_app]
    simp [List.intersperse]
theorem join_flat (ls : List (List Nat)) : Str.join "" (ls.map stS) = stS ls.flatten := by
  rw [str_nil, join_cat]
  congr 1
  induction ls with
  | nil => rfl
  | cons l r ih =>
    cases r with
    | nil => simp
    | cons m r => simp only [List.intersperse, List.flatten_cons, List.nil_append] at ih ⊢; rw [ih]
theorem dJ_cat {s : List Nat} {ls : List (List Nat)} (h : (ls.map List.length).sum + ls.length * s.length ≤ SZ) : dJoin2 (.str (stS s)) (.lst (ls.map fun l => D.str (stS l))) = .ok (.fr (.str (stS ((ls.intersperse s).flatten)))) := by
  have e : ls.map (fun l => D.str (stS l)) = (ls.map stS).map D.str := by rw [List.map_map]; rfl
  rw [e, join_lst, join_cat]
  rw [List.map_map, List.length_map]
  have : (fun x : Str => x.length) ∘ stS = List.length := by funext l; simp
  rw [this, stS_len]
  exact h
theorem dJ_flat {ls : List (List Nat)} (h : (ls.map List.length).sum ≤ SZ) : dJoin2 (.str "") (.lst (ls.map fun l => D.str (stS l))) = .ok (.fr (.str (stS ls.flatten))) := by
  have e : ls.map (fun l => D.str (stS l)) = (ls.map stS).map D.str := by rw [List.map_map]; rfl
  rw [e, join_lst, join_flat]
  rw [List.map_map, List.length_map]
  have : (fun x : Str => x.length) ∘ stS = List.length := by funext l; simp
  rw [this, str_nil, stS_len]
  simpa using h
theorem dJ_ones {l : List Nat} (h : l.length ≤ SZ) : dJoin2 (.str "") (.lst (l.map fun c => D.str (one c))) = .ok (.fr (.str (stS l))) := by
  have e : l.map (fun c => D.str (one c)) = (l.map fun c => [c]).map fun l => D.str (stS l) := by rw [List.map_map]; rfl
  have q : (l.map fun c => [c]).flatten = l := by induction l with
    | nil => rfl
    | cons x l ih => rw [List.map_cons, List.flatten_cons, ih (by simp at h; omega) (by rw [List.map_map]; rfl)]; rfl
  have q2 : ((l.map fun c => [c]).map List.length).sum = l.length := by
    clear h e q
    induction l with
    | nil => rfl
    | cons x l ih => simp only [List.map_cons, List.sum_cons, ih, List.length_cons, List.length_nil]; omega
  rw [e, dJ_flat (by rw [q2]; exact h), q]
theorem chars_st (l : List Nat) : chars (stS l) = l.map fun c => D.str (one c) := by rw [chars_one, stS_l]
/-! ### alphabets -/
def ltr (p : Nat → Bool) : List Nat := ((List.range 26).filter p).map (97 + ·)
theorem let_l : LET.cps.toList = (List.range 26).map (97 + ·) := by decide +kernel
theorem ltr_lt (p : Nat → Bool) : (ltr p).Pairwise (· < ·) := by
  unfold ltr
  rw [List.pairwise_map]
  exact (List.pairwise_lt_range.filter p).imp fun h => by omega
theorem ltr_mem {p : Nat → Bool} {c : Nat} (h : c ∈ ltr p) : c ∈ LET.cps.toList := by
  rw [let_l]
  unfold ltr at h
  obtain ⟨k, hk, rfl⟩ := List.mem_map.mp h
  exact List.mem_map_of_mem (List.mem_filter.mp hk).1
theorem ltr_le (p : Nat → Bool) : (ltr p).length ≤ 26 := by
  unfold ltr
  rw [List.length_map]
  exact Nat.le_trans (List.length_filter_le _ _) (by simp)
theorem let26 {k : Nat} (h : k < 26) : dIxD (.str LET) (.int (k : Int)) = .ok (.fr (.str (one (97 + k)))) := by
  rw [ixn_str (by decide +kernel), chars_one, let_l, List.map_map, List.getElem?_map, List.getElem?_range h]
  rfl
theorem le_one {a b : Nat} : dLe (.str (one a)) (.str (one b)) = .ok (.fr (.bl (!decide (b < a)))) := by
  have e : decide ((one b).cps.toList < (one a).cps.toList) = decide (b < a) := by
    have : (one b).cps.toList < (one a).cps.toList ↔ b < a := by
      show [b] < [a] ↔ b < a
      constructor
      · intro h
        cases h with
        | rel h => exact h
        | cons h => cases h
      · intro h
        exact .rel h
    simp only [this]
  show okd (.bl (!decide ((one b).cps.toList < (one a).cps.toList))) = _
  rw [e]
end GM
namespace K00
open PySem DL GM
theorem alpha_ok {l : List Nat} (h0 : l ≠ []) (hl : l.length ≤ 26) (hm : ∀ c ∈ l, c ∈ LET.cps.toList) (hp : l.Pairwise (· < ·)) : alB (stS l) = true := by
  have hz : l.length ≤ SZ := by unfold SZ; omega
  have g : g_is_alphabet [.str (stS l)] = .ok (.fr (.bl true)) := by
    have lp := forL_all (F := sSeq (sIf ((bOr (fB (fBin (dInD true) (getV 2) (cst c_LETTERS))) ((bAnd (fB (fBin dGt (getV 1) (cst (.int 0)))) (fB (fBin dLe (getV 2) (fBin dIxD (getV 0) (fBin dSub (getV 1) (cst (.int 1)))))))))) (sSeq (sRet (cst (.bl false))) sNil) sNil) sNil) (bd := gTLD [1, 2]) (fg := [1, 2])
      [some (.fr (.str (stS l))), none, none] (enumD (chars (stS l))) (fun d hd => by
        obtain ⟨i, x, rfl, e⟩ := enum_mem hd
        rw [chars_st, List.getElem?_map] at e
        cases ei : l[i]? with
        | none => rw [ei] at e; cases e
        | some c =>
          rw [ei] at e
          cases e
          have hc := hm c (List.mem_of_getElem? ei)
          have e1 : dInD true (.str (one c)) c_LETTERS = .ok (.fr (.bl false)) := by
            have := nin_one (c := c) (z := LET)
            rw [decide_eq_true hc] at this
            exact this
          refine ⟨_, [some (.fr (.str (stS l))), some (.fr (.int (i : Nat))), some (.fr (.str (one c)))], rfl, ?_, rfl⟩
          by_cases h : i = 0
          · subst h
            simp [e1]
          · have hi : i < l.length := by
              rcases Nat.lt_or_ge i l.length with h | h
              · exact h
              · rw [List.getElem?_eq_none h] at ei; cases ei
            have ep : dIxD (.str (stS l)) (.int ((i : Int) - 1)) = .ok (.fr (.str (one l[i - 1]))) := by
              rw [show (i : Int) - 1 = ((i - 1 : Nat) : Int) by omega, ixn_str (by simpa using hz), chars_st, List.getElem?_map, List.getElem?_eq_getElem (by omega)]
              rfl
            have hlt : l[i - 1] < c := by
              have := List.pairwise_iff_getElem.mp hp (i - 1) i (by omega) hi (by omega)
              rw [List.getElem?_eq_getElem hi] at ei
              cases ei
              exact this
            have h' : (0 : Int) < (i : Int) := by omega
            simp [e1, ep, h', le_one, hlt])
    have ne : ¬ stS l = ("" : Str) := fun e => by
      rw [str_nil] at e
      exact h0 (stS_inj e)
    have en : enA [.str (stS l)] = .ok (enumD (chars (stS l))) := rfl
    unfold g_is_alphabet runF F_is_alphabet
    simp [eq_str, ne, en, lp]
  unfold alB
  rw [g, stS_len, stS_l]
  have h1 : 1 ≤ l.length := List.length_pos_iff.mpr h0
  have h2 : (l.all fun c => decide (c ∈ LET.cps.toList)) = true := List.all_eq_true.mpr fun c hc => decide_eq_true (hm c hc)
  rw [decide_eq_true h1, decide_eq_true hl, h2]
  rfl
theorem ltr_ok {p : Nat → Bool} (h : ∃ k, k < 26 ∧ p k = true) : alB (stS (ltr p)) = true := by
  obtain ⟨k, hk, hp⟩ := h
  refine alpha_ok (fun e => ?_) (ltr_le p) (fun c hc => ltr_mem hc) (ltr_lt p)
  have : 97 + k ∈ ltr p := by
    unfold ltr
    exact List.mem_map_of_mem (List.mem_filter.mpr ⟨List.mem_range.mpr hk, hp⟩)
  rw [e] at this
  cases this
end K00


set_option maxRecDepth 100000
set_option maxHeartbeats 4000000
namespace GM
open PySem DL
theorem cut_at {α : Type} {xs : List α} {a n : Nat} {i j : Int} (h : a + n ≤ xs.length) (hi : i = a := by rfl) (hj : j = (a + n : Nat) := by rfl) : cutL xs (some i) (some j) = (xs.drop a).take n := by
  subst hi; subst hj
  rw [cut_nat, Nat.min_eq_left (show a ≤ xs.length by omega), Nat.min_eq_left (show a + n ≤ xs.length from h), Nat.add_sub_cancel_left]
theorem cut_to {α : Type} {xs : List α} {n : Nat} {j : Int} (hj : j = (n : Nat) := by rfl) : cutL xs none (some j) = xs.take n := by
  subst hj
  unfold cutL
  rw [HT.sIx_nat, HT.sIx_none, List.drop_zero, Nat.sub_zero]
  rcases Nat.le_total n xs.length with h | h
  · rw [Nat.min_eq_left h]
  · rw [Nat.min_eq_right h, List.take_length, List.take_of_length_le h]
theorem cut_from {α : Type} {xs : List α} {a : Nat} {i : Int} (hi : i = (a : Nat) := by rfl) : cutL xs (some i) none = xs.drop a := by
  subst hi
  unfold cutL
  rw [HT.sIx_nat, HT.sIx_none]
  rcases Nat.le_total a xs.length with h | h
  · rw [Nat.min_eq_left h, List.take_of_length_le (by rw [List.length_drop]; exact Nat.le_refl _)]
  · rw [Nat.min_eq_right h, List.drop_length, List.drop_of_length_le h, List.take_nil]
theorem sub_at {α : Type} {xs : List α} {a n i : Nat} (h : i < n) : ((xs.drop a).take n)[i]? = xs[a + i]? := by
  rw [List.getElem?_take_of_lt h, List.getElem?_drop]
theorem comp_id {δ : DE} {i : Nat} : ∀ ds : List D, i < δ.length → compL (gSet i) bYes (getV i) δ ds = .ok ds
  | [], _ => rfl
  | d :: ds, h => by
    have e : getV i (δ.set i (some (.fr d))) = .ok (.fr d) := gv_fr (List.getElem?_set_self h)
    rw [compL]
    simp only [ev_gset, ev_yes, if_true, e, comp_id ds h, rv_fr]
theorem ev_pint {f : DE → R RV} {δ : DE} : pInt f δ = (f δ >>= fun r => match r.d with
  | .int i => .ok (some i)
  | _ => .stuck) := (Eq.refl _).trans (Eq.refl _)
theorem ix_int {row : List Int} {n : Nat} {x : Int} (e : row[n]? = some x) : dIxD (.lst (row.map D.int)) (.int (n : Int)) = .ok (.fr (.int x)) := by
  rw [ixn_lst, List.getElem?_map, e]; rfl
theorem lc_map {δ : DE} {β : Type} {fi : DE → R (List D)} {vs : List Nat} {bd : D → DE → Option DE} {fe : DE → R RV} (g : β → D) (k : β → D) (xs : List β) (h1 : fi δ = .ok (xs.map g)) (hl : xs.length ≤ SZ) (h : ∀ b ∈ xs, ∃ δ1 r, bd (g b) (fgtS vs δ) = some δ1 ∧ fe δ1 = .ok r ∧ r.d = k b) : fLc fi vs bd bYes fe δ = .ok (.ol (xs.map k)) :=
  lc_ok h1 (comp_map g k xs h) (by rw [List.length_map]; exact hl)
theorem lc_filter {δ : DE} {β : Type} {fi : DE → R (List D)} {vs : List Nat} {bd : D → DE → Option DE} {ft : DE → R Bool} {fe : DE → R RV} (g : β → D) (k : β → D) (p : β → Bool) (xs : List β) (h1 : fi δ = .ok (xs.map g)) (hl : xs.length ≤ SZ) (h : ∀ b ∈ xs, ∃ δ1, bd (g b) (fgtS vs δ) = some δ1 ∧ ft δ1 = .ok (p b) ∧ (p b = true → ∃ r, fe δ1 = .ok r ∧ r.d = k b)) : fLc fi vs bd ft fe δ = .ok (.ol ((xs.filter p).map k)) :=
  lc_ok h1 (comp_filter g k p xs h) (by rw [List.length_map]; exact Nat.le_trans (List.length_filter_le _ _) hl)
def SGN : Str := "abcdefghijklmnopqrstuvwxyzABCDEFGHIJKLMNOPQRSTUVWXYZ0123456789"
def sg (i : Int) : Nat := SGN.cps.toList.getD i.toNat 0
def sgB (c : Nat) : Bool := decide (c ∈ LET.cps.toList) || (decide (c ∈ CAP.cps.toList) || decide (c ∈ DIG.cps.toList))
theorem sg_ok : ∀ i : Fin 62, sgB (sg (i.val : Int)) = true := by decide +kernel
theorem sg_ix {i : Int} (h : 0 ≤ i ∧ i < 62) : dIxD (.str SGN) (.int i) = .ok (.fr (.str (one (sg i)))) := by
  rw [ixi_str (by decide +kernel) h.1, chars_one, List.getElem?_map]
  have hn : i.toNat < SGN.cps.toList.length := by
    have : SGN.cps.toList.length = 62 := by decide +kernel
    omega
  rw [List.getElem?_eq_getElem hn]
  unfold sg
  rw [List.getD_eq_getElem?_getD, List.getElem?_eq_getElem hn]
  rfl
theorem symB_st {l : List Nat} (h : 1 ≤ l.length ∧ l.length ≤ 8) (k : ∀ c ∈ l, sgB c = true) : symB (stS l) = true := by
  unfold symB
  rw [stS_len, stS_l, decide_eq_true h.1, decide_eq_true h.2]
  show (true && true && l.all sgB) = true
  rw [List.all_eq_true.mpr k]; rfl
end GM
namespace K00
open PySem DL GM
theorem drawn_symbol {row : List Int} {r0 : Int} (e0 : row[0]? = some r0) (h0 : 0 ≤ r0 ∧ r0 < 8) (hl : 9 ≤ row.length) (hr : ∀ (i : Nat) (x : Int), 1 ≤ i → i < 9 → row[i]? = some x → 0 ≤ x ∧ x < 62) :
    ∃ y, g_law_symbol [.lst (row.map D.int)] = .ok (.fr (.str y)) ∧ symB y = true := by
  obtain ⟨n, rfl⟩ := Int.eq_ofNat_of_zero_le h0.1
  have hn : n < 8 := by omega
  have cc : cutL (row.map D.int) (some 1) (some (2 + (n : Int))) = ((row.drop 1).take (n + 1)).map D.int := by
    rw [cut_map, cut_at (a := 1) (n := n + 1) (i := 1) (j := 2 + (n : Int)) (by omega) rfl (by omega)]
  have hx : ∀ x ∈ (row.drop 1).take (n + 1), 0 ≤ x ∧ x < 62 := fun x hx => by
    obtain ⟨i, hi⟩ := List.mem_iff_getElem?.mp hx
    have hi2 : i < n + 1 := by
      rcases Nat.lt_or_ge i (n + 1) with h | h
      · exact h
      · rw [List.getElem?_eq_none (by rw [List.length_take]; omega)] at hi; cases hi
    rw [sub_at hi2] at hi
    exact hr (1 + i) x (by omega) (by omega) hi
  have hlen : ((row.drop 1).take (n + 1)).length = n + 1 := by rw [List.length_take, List.length_drop]; omega
  generalize (row.drop 1).take (n + 1) = ks at cc hx hlen
  refine ⟨stS (ks.map sg), ?_, symB_st (by rw [List.length_map]; omega) fun c hc => ?_⟩
  · have i0 := ix_int (n := 0) e0
    have lc := lc_map (fi := iSeq (fSl (getV 0) (pInt (cst (.int 1))) (pInt (fBin dAdd (cst (.int 2)) (fBin dIxD (getV 0) (cst (.int 0))))))) (vs := [2]) (bd := gSet 2) (fe := fBin dIxD (getV 1) (getV 2)) (δ := [some (.fr (.lst (row.map D.int))), some (.fr (.str SGN)), none]) D.int (fun x => D.str (one (sg x))) ks (by
      simp [ev_pint, e0, cc]) (by unfold SZ; omega) fun b hb => by
        have := sg_ix (hx b hb)
        exact ⟨_, .fr (.str (one (sg b))), rfl, by simp [fgtS, this], rfl⟩
    have dj := dJ_ones (l := ks.map sg) (by rw [List.length_map]; unfold SZ; omega)
    rw [List.map_map] at dj
    have dj' : dJoin2 (.str "") (.lst (ks.map fun x => D.str (one (sg x)))) = _ := dj
    unfold g_law_symbol runF F_law_symbol
    have ec : cst (.str "abcdefghijklmnopqrstuvwxyzABCDEFGHIJKLMNOPQRSTUVWXYZ0123456789") = cst (.str SGN) := rfl
    rw [ec]
    simp [lc, dj', isStrD]
  · obtain ⟨x, hx', rfl⟩ := List.mem_map.mp hc
    obtain ⟨h1, h2⟩ := hx x hx'
    have := sg_ok ⟨x.toNat, by omega⟩
    rw [show ((x.toNat : Nat) : Int) = x by omega] at this
    exact this
def asz : List Int := [6, 26, 26, 26] ++ List.replicate 26 2
theorem any_ok (c : Int) : ∃ L, g_law_any_letters [.int c] = .ok (.fr (.str L)) ∧ alB L = true := by
  obtain ⟨row, ed, hd⟩ := digits_ok c asz (by decide +kernel) (by decide +kernel)
  obtain ⟨r0, e0, a0, b0⟩ := hd.get 0 (s := 6) rfl
  obtain ⟨r1, e1, a1, b1⟩ := hd.get 1 (s := 26) rfl
  obtain ⟨r2, e2, a2, b2⟩ := hd.get 2 (s := 26) rfl
  obtain ⟨r3, e3, a3, b3⟩ := hd.get 3 (s := 26) rfl
  have hlen : row.length = 30 := hd.1
  have m1 : dMulW (.lst [.int 2]) (.int 26) = .ok (.ol ((List.replicate 26 (2 : Int)).map D.int)) := rfl
  have m2 : dAdd (.lst [.int 6, .int 26, .int 26, .int 26]) (.lst [.int 2, .int 2, .int 2, .int 2, .int 2, .int 2, .int 2, .int 2, .int 2, .int 2, .int 2, .int 2, .int 2, .int 2, .int 2, .int 2, .int 2, .int 2, .int 2, .int 2, .int 2, .int 2, .int 2, .int 2, .int 2, .int 2]) = .ok (.ol (asz.map D.int)) := rfl
  have al : ∀ r : RV, (∃ L, r = .fr (.str L) ∧ alB L = true) → ∃ L, R.ok r = .ok (.fr (.str L)) ∧ alB L = true := fun r ⟨L, e, h⟩ => ⟨L, by rw [e], h⟩
  have key : ∃ r, g_law_any_letters [.int c] = .ok r ∧ ∃ L, r = .fr (.str L) ∧ alB L = true := by
    refine rt_run rfl ?_
    unfold F_law_any_letters
    refine rt_nx (δ' := [some (.fr (.int c)), some (.fr (.str LET)), none, none]) rfl ?_
    refine rt_nx (δ' := [some (.fr (.int c)), some (.fr (.str LET)), some (.ol (row.map D.int)), none]) (by simp [m1, m2, ed]) ?_
    have i0 := ix_int (n := 0) e0
    have i1 := ix_int (n := 1) e1
    have one_p : ∀ k : Int, 0 ≤ k ∧ k < 26 → dIxD (.str LET) (.int k) = .ok (.fr (.str (stS (ltr fun j => decide ((j : Int) = k))))) := fun k hk => by
      obtain ⟨n, rfl⟩ := Int.eq_ofNat_of_zero_le hk.1
      rw [let26 (by omega)]
      have : ∀ n : Fin 26, ltr (fun j => decide ((j : Int) = (n.val : Int))) = [97 + n.val] := by decide +kernel
      rw [this ⟨n, by omega⟩]
      rfl
    by_cases c0 : r0 = 0
    · refine rt_rt (r := .fr (.str (stS (ltr fun j => decide ((j : Int) = r1))))) ?_ ⟨_, rfl, ltr_ok ⟨r1.toNat, by omega, by simp; omega⟩⟩
      simp [e0, e1, c0, eq_int, one_p r1 ⟨a1, b1⟩]
    refine rt_nx (δ' := [some (.fr (.int c)), some (.fr (.str LET)), some (.fr (.lst (row.map D.int))), none]) (by simp [e0, c0, eq_int]) ?_
    have rg : iArgs rng1 (aCons (cst (.int 26)) aNil) = fun _ => .ok ((List.range 26).map fun i => D.int (i : Nat)) := rngs (n := 26) (by decide)
    have fin : ∀ (p : Nat → Bool), dJoin2 (.str "") (.lst (((List.range 26).filter p).map fun k => D.str (one (97 + k)))) = .ok (.fr (.str (stS (ltr p)))) := fun p => by
      have dj := dJ_ones (l := ltr p) (by have := ltr_le p; unfold SZ; omega)
      unfold ltr at dj
      rw [List.map_map] at dj
      exact dj
    by_cases c4 : r0 < 4
    · have cc : cutL (row.map D.int) (some 1) (some 4) = [.int r1, .int r2, .int r3] := by
        rw [cut_map, cut_at (a := 1) (n := 3) (by omega)]
        match row, e1, e2, e3, hlen with
        | q0 :: q1 :: q2 :: q3 :: rest, e1, e2, e3, _ => cases e1; cases e2; cases e3; rfl
      have lc := lc_filter (fi := iArgs rng1 (aCons (cst (.int 26)) aNil)) (vs := [3]) (bd := gSet 3) (ft := fB (fBin (dInD false) (getV 3) (fSl (getV 2) (pInt (cst (.int 1))) (pInt (cst (.int 4)))))) (fe := fBin dIxD (getV 1) (getV 3)) (δ := [some (.fr (.int c)), some (.fr (.str LET)), some (.fr (.lst (row.map D.int))), none])
        (fun k : Nat => D.int k) (fun k => D.str (one (97 + k))) (fun k => decide ((k : Int) = r1 ∨ (k : Int) = r2 ∨ (k : Int) = r3)) (List.range 26) (by rw [rg]) (by decide +kernel) fun k hk => by
          have hk' := List.mem_range.mp hk
          have el := let26 hk'
          have ein : dInD false (.int (k : Int)) (.lst [.int r1, .int r2, .int r3]) = .ok (.fr (.bl (decide ((k : Int) = r1 ∨ (k : Int) = r2 ∨ (k : Int) = r3)))) := by
            show R.ok (RV.fr (D.bl ((r1 == (k : Int)) || ((r2 == (k : Int)) || ((r3 == (k : Int)) || false))))) = _
            have : ((r1 == (k : Int)) || ((r2 == (k : Int)) || ((r3 == (k : Int)) || false))) = decide ((k : Int) = r1 ∨ (k : Int) = r2 ∨ (k : Int) = r3) := by
              rw [Bool.eq_iff_iff]
              simp only [Bool.or_false, Bool.or_eq_true, beq_iff_eq, decide_eq_true_eq]
              omega
            rw [this]
          exact ⟨_, rfl, by simp [fgtS, ev_pint, cc, ein], fun _ => ⟨.fr (.str (one (97 + k))), by simp [fgtS, el], rfl⟩⟩
      refine rt_rt (r := .fr (.str (stS (ltr fun k => decide ((k : Int) = r1 ∨ (k : Int) = r2 ∨ (k : Int) = r3))))) ?_ ⟨_, rfl, ltr_ok ⟨r1.toNat, by omega, by simp; omega⟩⟩
      simp [e0, c4, lc, fin, isStrD]
    refine rt_nx (δ' := [some (.fr (.int c)), some (.fr (.str LET)), some (.fr (.lst (row.map D.int))), none]) (by simp [e0, c4]) ?_
    by_cases c5 : r0 = 4
    · have tl : ∀ k : Nat, k < 26 → ∃ x, row[4 + k]? = some x := fun k hk => ⟨row[4 + k], List.getElem?_eq_getElem (by omega)⟩
      have lc := lc_filter (fi := iArgs rng1 (aCons (cst (.int 26)) aNil)) (vs := [3]) (bd := gSet 3) (ft := (bOr (fB (fBin (dEq false) (getV 3) (fBin dIxD (getV 2) (cst (.int 1))))) (fB (fBin (dEq false) (fBin dIxD (getV 2) (fBin dAdd (cst (.int 4)) (getV 3))) (cst (.int 1)))))) (fe := fBin dIxD (getV 1) (getV 3)) (δ := [some (.fr (.int c)), some (.fr (.str LET)), some (.fr (.lst (row.map D.int))), none])
        (fun k : Nat => D.int k) (fun k => D.str (one (97 + k))) (fun k => decide ((k : Int) = r1) || decide (row[4 + k]? = some 1)) (List.range 26) (by rw [rg]) (by decide +kernel) fun k hk => by
          have hk' := List.mem_range.mp hk
          have el := let26 hk'
          obtain ⟨x, ex⟩ := tl k hk'
          have ix := ix_int ex
          rw [show ((4 + k : Nat) : Int) = 4 + (k : Int) by omega] at ix
          refine ⟨_, rfl, ?_, fun _ => ⟨.fr (.str (one (97 + k))), by simp [fgtS, el], rfl⟩⟩
          by_cases q : (k : Int) = r1
          · simp [fgtS, e1, eq_int, q]
          · simp [fgtS, e1, eq_int, q, ix, ex]
      refine rt_rt (r := .fr (.str (stS (ltr fun k => decide ((k : Int) = r1) || decide (row[4 + k]? = some 1))))) ?_ ⟨_, rfl, ltr_ok ⟨r1.toNat, by omega, by simp; omega⟩⟩
      simp [e0, c5, eq_int, lc, fin, isStrD]
    refine rt_nx (δ' := [some (.fr (.int c)), some (.fr (.str LET)), some (.fr (.lst (row.map D.int))), none]) (by simp [e0, c5, eq_int]) ?_
    refine rt_rt (r := .fr (.str LET)) (by simp) ⟨_, rfl, ?_⟩
    rw [← stS_eq LET]
    exact alpha_ok (by decide +kernel) (by decide +kernel) (fun c hc => hc) (by decide +kernel)
  obtain ⟨r, e, L, er, h⟩ := key
  exact ⟨L, by rw [e, er], h⟩
end K00


set_option maxRecDepth 100000
set_option maxHeartbeats 4000000
namespace K00
open PySem DL GM
def pw : List Int := [3, 12, 8] ++ List.replicate 8 62
def psz : List Int := (List.replicate 5 pw).flatten
theorem psz_at : ∀ k : Fin 5, psz[11 * k.val]? = some 3 ∧ psz[11 * k.val + 1]? = some 12 ∧ psz[11 * k.val + 2]? = some 8 ∧ (∀ j : Fin 8, psz[11 * k.val + 3 + j.val]? = some 62) := by decide +kernel
def wordsL : List Str := ["say", "push", "yes", "keep", "Z", "zz", "10", "9", "letters", "0", "a", "eightsym"]
theorem words_sym : ∀ w ∈ wordsL, symB w = true := by decide +kernel
theorem pool_ok (c : Int) : ∃ ps : List Str, g_law_pool [.int c] = .ok (.ol (ps.map D.str)) ∧ ps.length = 5 ∧ ∀ p ∈ ps, symB p = true := by
  obtain ⟨row, ed, hd⟩ := digits_ok c psz (by decide +kernel) (by decide +kernel)
  have hlen : row.length = 55 := hd.1
  have m1 : dMulW (.lst [.int 62]) (.int 8) = .ok (.ol ((List.replicate 8 (62 : Int)).map D.int)) := rfl
  have m2 : dAdd (.lst [.int 3, .int 12, .int 8]) (.lst [.int 62, .int 62, .int 62, .int 62, .int 62, .int 62, .int 62, .int 62]) = .ok (.ol [.int 3, .int 12, .int 8, .int 62, .int 62, .int 62, .int 62, .int 62, .int 62, .int 62, .int 62]) := rfl
  have m3 : dMulW (.lst [.int 3, .int 12, .int 8, .int 62, .int 62, .int 62, .int 62, .int 62, .int 62, .int 62, .int 62]) (.int 5) = .ok (.ol (psz.map D.int)) := rfl
  have key : ∃ r, g_law_pool [.int c] = .ok r ∧ ∃ ps : List Str, r = .ol (ps.map D.str) ∧ ps.length = 5 ∧ ∀ p ∈ ps, symB p = true := by
    refine rt_run rfl ?_
    unfold F_law_pool
    refine rt_nx (δ' := [some (.fr (.int c)), some (.ol (wordsL.map D.str)), none, none, none, none]) (by simp [wordsL]) ?_
    refine rt_nx (δ' := [some (.fr (.int c)), some (.ol (wordsL.map D.str)), some (.ol (row.map D.int)), none, none, none]) (by simp [m1, m2, m3, ed]) ?_
    refine rt_nx (δ' := [some (.fr (.int c)), some (.ol (wordsL.map D.str)), some (.ol (row.map D.int)), some (.ol []), none, none]) (by simp) ?_
    have rg : iArgs rng1 (aCons (cst (.int 5)) aNil) = fun _ => .ok ((List.range 5).map fun i => D.int (i : Nat)) := rngs (n := 5) (by decide)
    refine rt_seq (Q := fun δ => ∃ ra rb, ∃ ys : List Str, δ = [some (.fr (.int c)), some ra, some rb, some (.ol (ys.map D.str)), none, none] ∧ ys.length = 5 ∧ ∀ p ∈ ys, symB p = true) (wp_for ((List.range 5).map fun i => D.int (i : Nat)) (fun i δ => ∃ ra rb, ∃ ys : List Str, δ = [some (.fr (.int c)), some ra, some rb, some (.ol (ys.map D.str)), none, none] ∧ ys.length = i ∧ (∀ p ∈ ys, symB p = true) ∧ ra.d = .lst (wordsL.map D.str) ∧ rb.d = .lst (row.map D.int)) (by rw [rg]) ⟨_, _, [], rfl, rfl, (fun p hp => nomatch hp), rfl, rfl⟩ ?_ (fun δ' ⟨ra, rb, ys, h, h1, h2, _⟩ => ⟨ra, rb, ys, h, by rw [h1]; rfl, h2⟩)) ?_
    · intro k d δ ek ⟨ra, rb, ys, h, h1, h2, ha, hb⟩
      subst h
      obtain ⟨hk, rfl⟩ := rng_int (by decide) ek
      obtain ⟨z0, z1, z2, z3⟩ := psz_at ⟨k, hk⟩
      obtain ⟨p0, e0, a0, b0⟩ := hd.get _ z0
      obtain ⟨p1, e1, a1, b1⟩ := hd.get _ z1
      obtain ⟨p2, e2, a2, b2⟩ := hd.get _ z2
      have mm := muw_64 (i := 11) (j := (k : Int)) (by omega) (by omega)
      have cc : cutL (row.map D.int) (some (11 * (k : Int))) (some (11 * (k : Int) + 11)) = ((row.drop (11 * k)).take 11).map D.int := by
        rw [cut_map, cut_at (a := 11 * k) (n := 11) (i := 11 * (k : Int)) (j := 11 * (k : Int) + 11) (by omega) (by omega) (by omega)]
      have f0 : ((row.drop (11 * k)).take 11)[0]? = some p0 := by rw [sub_at (by decide)]; exact e0
      have f1 : ((row.drop (11 * k)).take 11)[1]? = some p1 := by rw [sub_at (by decide)]; exact e1
      have f2 : ((row.drop (11 * k)).take 11)[2]? = some p2 := by rw [sub_at (by decide)]; exact e2
      have fl : ((row.drop (11 * k)).take 11).length = 11 := by rw [List.length_take, List.length_drop]; omega
      have f3 : ∀ (i : Nat) (x : Int), i < 8 → ((row.drop (11 * k)).take 11)[3 + i]? = some x → 0 ≤ x ∧ x < 62 := fun i x hi ex => by
        rw [sub_at (by omega), ← Nat.add_assoc] at ex
        exact hd.2 _ x 62 ex (z3 ⟨i, hi⟩)
      generalize (row.drop (11 * k)).take 11 = part at cc f0 f1 f2 fl f3
      refine ⟨_, rfl, ?_⟩
      refine wp_nx (δ' := [some (.fr (.int c)), some ra, some (.fr (.lst (row.map D.int))), some (.ol (ys.map D.str)), some (.fr (.int (k : Int))), some (.ol (part.map D.int))]) (by
        rw [ev_frz, fz_any (r := rb) rfl, hb]
        simp [ev_pint, mm, cc]) ?_
      have g0 := ix_int f0
      have g1 := ix_int f1
      have hy : (ys.map D.str).length < SZ := by rw [List.length_map]; unfold SZ; omega
      by_cases q : p0 = 0
      · obtain ⟨w, hw, ew⟩ := pick (l := wordsL) (f := D.str) (i := p1) ⟨a1, b1⟩
        refine wp_nx (δ' := [some (.fr (.int c)), some (.fr (.lst (wordsL.map D.str))), some (.fr (.lst (row.map D.int))), some (.ol ((ys ++ [w]).map D.str)), some (.fr (.int (k : Int))), some (.fr (.lst (part.map D.int)))]) ?_ (wp_nil ⟨_, _, ys ++ [w], rfl, by rw [List.length_append, h1]; rfl, fun p hp => ?_, rfl, rfl⟩)
        · rw [ev_frz, fz_ol (ds := part.map D.int) rfl, ev_if]
          have ec : fB (fBin (dEq false) (fBin dIxD (getV 5) (cst (.int 0))) (cst (.int 0))) ([some (RV.fr (.int c)), some ra, some (.fr (.lst (row.map D.int))), some (.ol (ys.map D.str)), some (.fr (.int (k : Int))), some (.ol (part.map D.int))].set 5 (some (.fr (.lst (part.map D.int))))) = .ok true := by
            simp [f0, q, eq_int]
          rw [ec, lf_ok, if_pos rfl, ev_seq, ev_frz, fz_any (r := ra) rfl, ha, ow_ap (ds := ys.map D.str) (r := .fr (.str w)) rfl (by simp [f1, ew]) hy]
          simp
        · rcases List.mem_append.mp hp with h | h
          · exact h2 p h
          · rw [List.mem_singleton.mp h]; exact words_sym w hw
      · obtain ⟨w, ew, hw⟩ := drawn_symbol (row := part.drop 2) (r0 := p2) (by rw [List.getElem?_drop]; exact f2) ⟨a2, b2⟩ (by rw [List.length_drop]; omega) (fun i x hi hi2 ex => by
          rw [List.getElem?_drop, show 2 + i = 3 + (i - 1) by omega] at ex
          exact f3 (i - 1) x (by omega) ex)
        have cf : cutL (part.map D.int) (some 2) none = (part.drop 2).map D.int := by rw [cut_map, cut_from (a := 2)]
        have ew' : g_law_symbol [D.lst ((part.map D.int).drop 2)] = .ok (.fr (.str w)) := by rw [← List.map_drop]; exact ew
        refine wp_nx (δ' := [some (.fr (.int c)), some ra, some (.fr (.lst (row.map D.int))), some (.ol ((ys ++ [w]).map D.str)), some (.fr (.int (k : Int))), some (.fr (.lst (part.map D.int)))]) ?_ (wp_nil ⟨_, _, ys ++ [w], rfl, by rw [List.length_append, h1]; rfl, fun p hp => ?_, ha, rfl⟩)
        · rw [ev_frz, fz_ol (ds := part.map D.int) rfl, ev_if]
          have ec : fB (fBin (dEq false) (fBin dIxD (getV 5) (cst (.int 0))) (cst (.int 0))) ([some (RV.fr (.int c)), some ra, some (.fr (.lst (row.map D.int))), some (.ol (ys.map D.str)), some (.fr (.int (k : Int))), some (.ol (part.map D.int))].set 5 (some (.fr (.lst (part.map D.int))))) = .ok false := by
            simp [f0, q, eq_int]
          rw [ec, lf_ok, if_neg (by decide), ev_seq, ow_ap (ds := ys.map D.str) (r := .fr (.str w)) rfl (by simp [ev_pint, cf, ew']) hy]
          simp
        · rcases List.mem_append.mp hp with h | h
          · exact h2 p h
          · rw [List.mem_singleton.mp h]; exact hw
    · intro δ' ⟨ra, rb, ys, h, h1, h2⟩
      subst h
      exact rt_rt (r := .ol (ys.map D.str)) (by simp) ⟨ys, rfl, h1, h2⟩
  obtain ⟨r, e, ps, er, h⟩ := key
  exact ⟨ps, by rw [e, er], h⟩
end K00


set_option maxRecDepth 100000
set_option maxHeartbeats 4000000
namespace K00
open PySem DL GM
def rsz : List Int := [6, 997, 28, 8, 2000, 2000, 3, 4, 7, 4, 26, 26, 26, 8] ++ List.replicate 8 62
theorem rsz_at : ∀ j : Fin 8, rsz[14 + j.val]? = some 62 := by decide +kernel
theorem rt_seq' {P : RV → Prop} {Q : DE → Prop} {F1 F2 : DE → SR} {δ : DE} (h1 : (∃ r, F1 δ = .rt r ∧ P r) ∨ nxS Q (F1 δ)) (h : ∀ δ', Q δ' → rtS P (F2 δ')) : rtS P (sSeq F1 F2 δ) := by
  rcases h1 with ⟨r, e, hp⟩ | h1
  · exact rt_rt e hp
  · exact rt_seq h1 h
theorem sg_at {L : Str} {k : Nat} (hk : k < (signL L).length) : ∃ g, (signL L)[k]? = some g ∧ g ∈ signL L := ⟨_, List.getElem?_eq_getElem hk, List.getElem_mem hk⟩
theorem lets_said {l : List Nat} (h : l.length ≤ 3) (k : ∀ c ∈ l, c ∈ LET.cps.toList) : saidB (stS l) = true := by
  unfold saidB
  rw [stS_len, stS_l, decide_eq_true h]
  show (true && l.all fun c => decide (c ∈ LET.cps.toList)) = true
  rw [List.all_eq_true.mpr fun c hc => decide_eq_true (k c hc)]; rfl
theorem stB_ok {n i : Int} (h : stB n i = true) : 0 ≤ i ∧ i < n := by
  unfold stB at h
  simpa using h
theorem key_parts {L : Str} {n : Int} {q : Rul} (h : okR L n q) : (0 ≤ q.s ∧ q.s < n) ∧ q.g ∈ signL L ∧ TP q.t := by
  have k := (ok_key h).1
  unfold keyB at k
  simp only [Bool.and_eq_true, Bool.or_eq_true, decide_eq_true_eq] at k
  exact ⟨stB_ok k.1, k.2.1, k.2.2⟩
theorem drawn_rule {c : Int} {L : Str} {n : Int} {ps : List Str} {rs : List Rul} (hL : alB L = true) (hn : 1 ≤ n ∧ n ≤ 2000) (hp5 : ps.length = 5) (hps : ∀ p ∈ ps, symB p = true) (hrs : ∀ r ∈ rs, okR L n r) (hrl : rs.length ≤ 1000) :
    ∃ q : Rul, g_law_rule [.int c, .str L, .int n, .lst (ps.map D.str), .lst (rs.map Rul.dt)] = .ok (.fr q.dt) ∧ okR L n q := by
  obtain ⟨hL1, hL2⟩ := al_len hL
  obtain ⟨row, ed, hd⟩ := digits_ok c rsz (by decide +kernel) (by decide +kernel)
  have hlen : row.length = 22 := hd.1
  obtain ⟨r0, e0, a0, b0⟩ := hd.get 0 (s := 6) rfl
  obtain ⟨r1, e1, a1, b1⟩ := hd.get 1 (s := 997) rfl
  obtain ⟨r2, e2, a2, b2⟩ := hd.get 2 (s := 28) rfl
  obtain ⟨r3, e3, a3, b3⟩ := hd.get 3 (s := 8) rfl
  obtain ⟨r4, e4, a4, b4⟩ := hd.get 4 (s := 2000) rfl
  obtain ⟨r5, e5, a5, b5⟩ := hd.get 5 (s := 2000) rfl
  obtain ⟨r6, e6, a6, b6⟩ := hd.get 6 (s := 3) rfl
  obtain ⟨r7, e7, a7, b7⟩ := hd.get 7 (s := 4) rfl
  obtain ⟨r8, e8, a8, b8⟩ := hd.get 8 (s := 7) rfl
  obtain ⟨r9, e9, a9, b9⟩ := hd.get 9 (s := 4) rfl
  obtain ⟨r10, e10, a10, b10⟩ := hd.get 10 (s := 26) rfl
  obtain ⟨r11, e11, a11, b11⟩ := hd.get 11 (s := 26) rfl
  obtain ⟨r12, e12, a12, b12⟩ := hd.get 12 (s := 26) rfl
  obtain ⟨r13, e13, a13, b13⟩ := hd.get 13 (s := 8) rfl
  have m1 : dMulW (.lst [.int 62]) (.int 8) = .ok (.ol ((List.replicate 8 (62 : Int)).map D.int)) := rfl
  have m2 : dAdd (.lst [.int 6, .int 997, .int 28, .int 8, .int 2000, .int 2000, .int 3, .int 4, .int 7, .int 4, .int 26, .int 26, .int 26, .int 8]) (.lst [.int 62, .int 62, .int 62, .int 62, .int 62, .int 62, .int 62, .int 62]) = .ok (.ol (rsz.map D.int)) := rfl
  have key : ∃ r, g_law_rule [.int c, .str L, .int n, .lst (ps.map D.str), .lst (rs.map Rul.dt)] = .ok r ∧ ∃ q : Rul, r = .fr q.dt ∧ okR L n q := by
    refine rt_run rfl ?_
    unfold F_law_rule
    refine rt_nx (δ' := [some (.fr (.int c)), some (.fr (.str L)), some (.fr (.int n)), some (.fr (.lst (ps.map D.str))), some (.fr (.lst (rs.map Rul.dt))), some (.ol (row.map D.int)), none, none, none, none, none, none, none, none, none, none]) (by simp [m1, m2, ed]) ?_
    have hcz : (chars L).length ≤ SZ := by rw [chars_eq, List.length_map, chS_len]; unfold SZ; omega
    have lcs : fLc (iSeq (getV 1)) [7] (gSet 7) bYes (getV 7) [some (.fr (.int c)), some (.fr (.str L)), some (.fr (.int n)), some (.fr (.lst (ps.map D.str))), some (.fr (.lst (rs.map Rul.dt))), some (.ol (row.map D.int)), none, none, none, none, none, none, none, none, none, none] = .ok (.ol (chars L)) := lc_ok (ds := chars L) (by simp) (comp_id _ (by simp [fgtS])) hcz
    have asg : dAdd (.lst [.str "<", .str ">"]) (.lst (chars L)) = .ok (.ol ((signL L).map D.str)) := by
      rw [add_lst (by simp; rw [chars_eq, List.length_map, chS_len]; unfold SZ; omega), chars_eq]
      rfl
    refine rt_nx (δ' := [some (.fr (.int c)), some (.fr (.str L)), some (.fr (.int n)), some (.fr (.lst (ps.map D.str))), some (.fr (.lst (rs.map Rul.dt))), some (.ol (row.map D.int)), some (.ol ((signL L).map D.str)), none, none, none, none, none, none, none, none, none]) (by simp [lcs, asg]) ?_
    obtain ⟨own, eo, ho⟩ := drawn_symbol (row := row.drop 13) (r0 := r13) (by rw [List.getElem?_drop]; exact e13) ⟨a13, b13⟩ (by rw [List.length_drop]; omega) (fun i x hi hi2 ex => by
      rw [List.getElem?_drop, show 13 + i = 14 + (i - 1) by omega] at ex
      exact hd.2 _ x 62 ex (rsz_at ⟨i - 1, by omega⟩))
    have cf : cutL (row.map D.int) (some 13) none = (row.drop 13).map D.int := by rw [cut_map, cut_from (a := 13)]
    have eo' : g_law_symbol [D.lst ((row.map D.int).drop 13)] = .ok (.fr (.str own)) := by rw [← List.map_drop]; exact eo
    refine rt_nx (δ' := [some (.fr (.int c)), some (.fr (.str L)), some (.fr (.int n)), some (.fr (.lst (ps.map D.str))), some (.fr (.lst (rs.map Rul.dt))), some (.fr (.lst (row.map D.int))), some (.ol ((signL L).map D.str)), none, some (.fr (.str own)), none, none, none, none, none, none, none]) (by
      rw [ev_frz, fz_ol (ds := row.map D.int) rfl]
      simp [ev_pint, cf, eo']) ?_
    have sl : (signL L).length = L.length + 2 := by unfold signL; rw [List.length_cons, List.length_cons, chS_len]
    have hmod : ∀ (x m : Int), 0 < m → 0 ≤ x % m ∧ x % m < m := fun x m h => ⟨Int.emod_nonneg _ (by omega), Int.emod_lt_of_pos _ h⟩
    obtain ⟨z1, z2⟩ := hmod r2 ((L.length : Int) + 2) (by omega)
    obtain ⟨gk, hgk⟩ := Int.eq_ofNat_of_zero_le z1
    obtain ⟨g0, eg0, hg0⟩ := sg_at (L := L) (k := gk) (by omega)
    have ixg : dIxD (.lst ((signL L).map D.str)) (.int (r2 % ((L.length : Int) + 2))) = .ok (.fr (.str g0)) := by
      rw [hgk, ixn_lst, List.getElem?_map, eg0]; rfl
    have mg := mod_int (i := r2) (j := (L.length : Int) + 2) (by omega)
    obtain ⟨y1, y2⟩ := hmod r4 n (by omega)
    have ms := mod_int (i := r4) (j := n) (by omega)
    obtain ⟨u1, u2⟩ := hmod r5 n (by omega)
    have ma := mod_int (i := r5) (j := n) (by omega)
    have at1 : dAdd (.lst [.str "", .str ""]) (.lst (ps.map D.str)) = .ok (.ol ((("" : Str) :: ("" : Str) :: ps).map D.str)) := by
      rw [add_lst (by simp [hp5]; decide)]; rfl
    have at2 : dAdd (.lst ((("" : Str) :: ("" : Str) :: ps).map D.str)) (.lst [.str own]) = .ok (.ol (((("" : Str) :: ("" : Str) :: ps) ++ [own]).map D.str)) := by
      rw [add_lst (by simp [hp5]; decide), List.map_append]; rfl
    obtain ⟨t0, ht0, et0⟩ := pick (l := (("" : Str) :: ("" : Str) :: ps) ++ [own]) (f := D.str) (i := r3) ⟨a3, by simp [hp5]; omega⟩
    have tp0 : TP t0 := by
      simp only [List.mem_append, List.mem_cons, List.not_mem_nil, or_false] at ht0
      rcases ht0 with (h | h | h) | h
      · exact .inl h
      · exact .inl h
      · exact .inr (hps _ h)
      · rw [h]; exact .inr ho
    have at1' : dAdd (.lst [.str "", .str ""]) (.lst (ps.map D.str)) = .ok (.ol (.str "" :: .str "" :: ps.map D.str)) := at1
    have at2' : dAdd (.lst (.str "" :: .str "" :: ps.map D.str)) (.lst [.str own]) = .ok (.ol (.str "" :: .str "" :: (ps.map D.str ++ [.str own]))) := by
      have := at2
      simp only [List.map_cons, List.map_append, List.cons_append, List.map_nil] at this
      exact this
    have et0' : dIxD (.lst (.str "" :: .str "" :: (ps.map D.str ++ [.str own]))) (.int r3) = .ok (.fr (.str t0)) := by
      have := et0
      simp only [List.map_cons, List.map_append, List.cons_append, List.map_nil] at this
      exact this
    refine rt_nx (δ' := [some (.fr (.int c)), some (.fr (.str L)), some (.fr (.int n)), some (.fr (.lst (ps.map D.str))), some (.fr (.lst (rs.map Rul.dt))), some (.fr (.lst (row.map D.int))), some (.fr (.lst ((signL L).map D.str))), none, some (.fr (.str own)), some (.fr (.tup [.int (r4 % n), .str g0, .str t0])), none, none, none, none, none, none]) (by
      rw [ev_frz, fz_ol (ds := (signL L).map D.str) rfl, ev_frz, fz_fr (d := .str own) rfl]
      simp [e2, e3, e4, ms, sl, mg, ixg, at1', at2', et0']) ?_
    refine rt_seq' (P := fun r => ∃ q : Rul, r = .fr q.dt ∧ okR L n q) (Q := fun δ => ∃ (s : Int) (g t : Str) (x : Option RV), δ = [some (.fr (.int c)), some (.fr (.str L)), some (.fr (.int n)), some (.fr (.lst (ps.map D.str))), some (.fr (.lst (rs.map Rul.dt))), some (.fr (.lst (row.map D.int))), some (.fr (.lst ((signL L).map D.str))), none, some (.fr (.str own)), some (.fr (.tup [.int s, .str g, .str t])), x, none, none, none, none, none] ∧ (0 ≤ s ∧ s < n) ∧ g ∈ signL L ∧ TP t) ?_ ?_
    · by_cases h3 : r0 < 3
      · by_cases hr0 : rs = []
        · right
          refine nx_of (δ := [some (.fr (.int c)), some (.fr (.str L)), some (.fr (.int n)), some (.fr (.lst (ps.map D.str))), some (.fr (.lst (rs.map Rul.dt))), some (.fr (.lst (row.map D.int))), some (.fr (.lst ((signL L).map D.str))), none, some (.fr (.str own)), some (.fr (.tup [.int (r4 % n), .str g0, .str t0])), none, none, none, none, none, none]) ?_ ⟨_, _, _, _, rfl, ⟨y1, y2⟩, hg0, tp0⟩
          subst hr0
          simp [e0, h3]
        · have hrp : 0 < rs.length := List.length_pos_iff.mpr hr0
          obtain ⟨w1, w2⟩ := hmod r1 (rs.length : Int) (by omega)
          have mr := mod_int (i := r1) (j := (rs.length : Int)) (by omega)
          obtain ⟨q, hq, eq⟩ := pick (l := rs) (f := Rul.dt) (i := r1 % (rs.length : Int)) ⟨w1, w2⟩
          by_cases h0 : r0 = 0
          · left
            refine ⟨.fr q.dt, ?_, q, rfl, hrs q hq⟩
            simp [e0, e1, h0, hrp, mr, eq, eq_int]
          · right
            obtain ⟨k1, k2, k3⟩ := key_parts (hrs q hq)
            have q3 : ∀ δ : DE, pInt (cst (.int 3)) δ = .ok (some 3) := fun _ => rfl
            have c3 : cutL [DL.D.int q.s, .str q.g, .str q.t, .int q.a, .int q.m, .str q.d, .str q.y, .str q.z] none (some 3) = [.int q.s, .str q.g, .str q.t] := rfl
            refine nx_of (δ := [some (.fr (.int c)), some (.fr (.str L)), some (.fr (.int n)), some (.fr (.lst (ps.map D.str))), some (.fr (.lst (rs.map Rul.dt))), some (.fr (.lst (row.map D.int))), some (.fr (.lst ((signL L).map D.str))), none, some (.fr (.str own)), some (.fr (.tup [.int q.s, .str q.g, .str q.t])), some (.fr q.dt), none, none, none, none, none]) ?_ ⟨q.s, q.g, q.t, some (.fr q.dt), rfl, k1, k2, k3⟩
            simp [e0, e1, h0, h3, hrp, mr, eq, eq_int, q3]
            simp [Rul.dt, c3]
      · right
        refine nx_of (δ := [some (.fr (.int c)), some (.fr (.str L)), some (.fr (.int n)), some (.fr (.lst (ps.map D.str))), some (.fr (.lst (rs.map Rul.dt))), some (.fr (.lst (row.map D.int))), some (.fr (.lst ((signL L).map D.str))), none, some (.fr (.str own)), some (.fr (.tup [.int (r4 % n), .str g0, .str t0])), none, none, none, none, none, none]) ?_ ⟨_, _, _, _, rfl, ⟨y1, y2⟩, hg0, tp0⟩
        simp [e0, h3]
    · intro δ' ⟨s, g, t, x, h, hs, hg, ht⟩
      subst h
      have k1 : dIxD (.tup [.int s, .str g, .str t]) (.int 1) = .ok (.fr (.str g)) := rfl
      have k2 : dIxD (.tup [.int s, .str g, .str t]) (.int 2) = .ok (.fr (.str t)) := rfl
      refine rt_nx (δ' := [some (.fr (.int c)), some (.fr (.str L)), some (.fr (.int n)), some (.fr (.lst (ps.map D.str))), some (.fr (.lst (rs.map Rul.dt))), some (.fr (.lst (row.map D.int))), some (.fr (.lst ((signL L).map D.str))), none, some (.fr (.str own)), some (.fr (.tup [.int s, .str g, .str t])), x, some (.fr (.int (r6 - 1))), none, none, none, none]) (by simp [e6]) ?_
      refine rt_seq (Q := fun δ => ∃ m : Int, δ = [some (.fr (.int c)), some (.fr (.str L)), some (.fr (.int n)), some (.fr (.lst (ps.map D.str))), some (.fr (.lst (rs.map Rul.dt))), some (.fr (.lst (row.map D.int))), some (.fr (.lst ((signL L).map D.str))), none, some (.fr (.str own)), some (.fr (.tup [.int s, .str g, .str t])), x, some (.fr (.int m)), none, none, none, none] ∧ (-1 ≤ m ∧ m ≤ 1) ∧ (g = "<" → 0 ≤ m)) ?_ ?_
      · by_cases h : g = "<"
        · refine nx_of (δ := [some (.fr (.int c)), some (.fr (.str L)), some (.fr (.int n)), some (.fr (.lst (ps.map D.str))), some (.fr (.lst (rs.map Rul.dt))), some (.fr (.lst (row.map D.int))), some (.fr (.lst ((signL L).map D.str))), none, some (.fr (.str own)), some (.fr (.tup [.int s, .str g, .str t])), x, some (.fr (.int (if r6 - 1 < 0 then -(r6 - 1) else r6 - 1))), none, none, none, none]) ?_ ⟨_, rfl, by split <;> omega, fun _ => by split <;> omega⟩
          rw [ev_frz, fz_fr (d := .tup [.int s, .str g, .str t]) rfl]
          simp [eq_str, h]
        · refine nx_of (δ := [some (.fr (.int c)), some (.fr (.str L)), some (.fr (.int n)), some (.fr (.lst (ps.map D.str))), some (.fr (.lst (rs.map Rul.dt))), some (.fr (.lst (row.map D.int))), some (.fr (.lst ((signL L).map D.str))), none, some (.fr (.str own)), some (.fr (.tup [.int s, .str g, .str t])), x, some (.fr (.int (r6 - 1))), none, none, none, none]) ?_ ⟨_, rfl, by omega, fun z => absurd z h⟩
          rw [ev_frz, fz_fr (d := .tup [.int s, .str g, .str t]) rfl]
          simp [eq_str, h]
      intro δ' ⟨m, hh, hm1, hm2⟩
      subst hh
      refine rt_seq (Q := fun δ => ∃ m : Int, δ = [some (.fr (.int c)), some (.fr (.str L)), some (.fr (.int n)), some (.fr (.lst (ps.map D.str))), some (.fr (.lst (rs.map Rul.dt))), some (.fr (.lst (row.map D.int))), some (.fr (.lst ((signL L).map D.str))), none, some (.fr (.str own)), some (.fr (.tup [.int s, .str g, .str t])), x, some (.fr (.int m)), none, none, none, none] ∧ SM L g m) ?_ ?_
      · by_cases h : g = ">"
        · refine nx_of (δ := [some (.fr (.int c)), some (.fr (.str L)), some (.fr (.int n)), some (.fr (.lst (ps.map D.str))), some (.fr (.lst (rs.map Rul.dt))), some (.fr (.lst (row.map D.int))), some (.fr (.lst ((signL L).map D.str))), none, some (.fr (.str own)), some (.fr (.tup [.int s, .str g, .str t])), x, some (.fr (.int (-(if m < 0 then -m else m)))), none, none, none, none]) ?_ ⟨_, rfl, hg, by split <;> omega, fun z => by rw [h] at z; exact absurd z.1 (by decide +kernel), fun z => by have := z.2; split at this <;> omega⟩
          simp [eq_str, h]
        · refine nx_of (δ := [some (.fr (.int c)), some (.fr (.str L)), some (.fr (.int n)), some (.fr (.lst (ps.map D.str))), some (.fr (.lst (rs.map Rul.dt))), some (.fr (.lst (row.map D.int))), some (.fr (.lst ((signL L).map D.str))), none, some (.fr (.str own)), some (.fr (.tup [.int s, .str g, .str t])), x, some (.fr (.int m)), none, none, none, none]) ?_ ⟨_, rfl, hg, hm1, fun z => by have := hm2 z.1; omega, fun z => h z.1⟩
          simp [eq_str, h]
      intro δ' ⟨m, hh, hsm⟩
      subst hh
      obtain ⟨d0, hd0, ed0⟩ := pick (l := [("keep" : Str), "pop", "push", "swap"]) (f := D.str) (i := r7) ⟨a7, b7⟩
      obtain ⟨d1, hd1, ed1⟩ := pick (l := [("keep" : Str), "keep", "push", "push"]) (f := D.str) (i := r7) ⟨a7, b7⟩
      have ed0' : dIxD (.lst [.str "keep", .str "pop", .str "push", .str "swap"]) (.int r7) = .ok (.fr (.str d0)) := ed0
      have ed1' : dIxD (.lst [.str "keep", .str "keep", .str "push", .str "push"]) (.int r7) = .ok (.fr (.str d1)) := ed1
      refine rt_nx (δ' := [some (.fr (.int c)), some (.fr (.str L)), some (.fr (.int n)), some (.fr (.lst (ps.map D.str))), some (.fr (.lst (rs.map Rul.dt))), some (.fr (.lst (row.map D.int))), some (.fr (.lst ((signL L).map D.str))), none, some (.fr (.str own)), some (.fr (.tup [.int s, .str g, .str t])), x, some (.fr (.int m)), some (.fr (.str d0)), none, none, none]) (by simp [e7, ed0']) ?_
      refine rt_seq (Q := fun δ => ∃ d : Str, δ = [some (.fr (.int c)), some (.fr (.str L)), some (.fr (.int n)), some (.fr (.lst (ps.map D.str))), some (.fr (.lst (rs.map Rul.dt))), some (.fr (.lst (row.map D.int))), some (.fr (.lst ((signL L).map D.str))), none, some (.fr (.str own)), some (.fr (.tup [.int s, .str g, .str t])), x, some (.fr (.int m)), some (.fr (.str d)), none, none, none] ∧ d ∈ deeds ∧ (t = "" → ¬ d = "pop" ∧ ¬ d = "swap")) ?_ ?_
      · by_cases h : t = ""
        · refine nx_of (δ := [some (.fr (.int c)), some (.fr (.str L)), some (.fr (.int n)), some (.fr (.lst (ps.map D.str))), some (.fr (.lst (rs.map Rul.dt))), some (.fr (.lst (row.map D.int))), some (.fr (.lst ((signL L).map D.str))), none, some (.fr (.str own)), some (.fr (.tup [.int s, .str g, .str t])), x, some (.fr (.int m)), some (.fr (.str d1)), none, none, none]) ?_ ⟨_, rfl, ?_, fun _ => ?_⟩
          · simp [eq_str, h, e7, ed1']
          · simp only [List.mem_cons, List.not_mem_nil, or_false] at hd1
            rcases hd1 with rfl | rfl | rfl | rfl <;> decide +kernel
          · simp only [List.mem_cons, List.not_mem_nil, or_false] at hd1
            rcases hd1 with rfl | rfl | rfl | rfl <;> decide +kernel
        · refine nx_of (δ := [some (.fr (.int c)), some (.fr (.str L)), some (.fr (.int n)), some (.fr (.lst (ps.map D.str))), some (.fr (.lst (rs.map Rul.dt))), some (.fr (.lst (row.map D.int))), some (.fr (.lst ((signL L).map D.str))), none, some (.fr (.str own)), some (.fr (.tup [.int s, .str g, .str t])), x, some (.fr (.int m)), some (.fr (.str d0)), none, none, none]) ?_ ⟨_, rfl, hd0, fun z => absurd z h⟩
          simp [eq_str, h]
      intro δ' ⟨d, hh, hdd, hdt⟩
      subst hh
      refine rt_nx (δ' := [some (.fr (.int c)), some (.fr (.str L)), some (.fr (.int n)), some (.fr (.lst (ps.map D.str))), some (.fr (.lst (rs.map Rul.dt))), some (.fr (.lst (row.map D.int))), some (.fr (.lst ((signL L).map D.str))), none, some (.fr (.str own)), some (.fr (.tup [.int s, .str g, .str t])), x, some (.fr (.int m)), some (.fr (.str d)), some (.fr (.str "")), none, none]) (by simp) ?_
      refine rt_seq (Q := fun δ => ∃ y : Str, δ = [some (.fr (.int c)), some (.fr (.str L)), some (.fr (.int n)), some (.fr (.lst (ps.map D.str))), some (.fr (.lst (rs.map Rul.dt))), some (.fr (.lst (row.map D.int))), some (.fr (.lst ((signL L).map D.str))), none, some (.fr (.str own)), some (.fr (.tup [.int s, .str g, .str t])), x, some (.fr (.int m)), some (.fr (.str d)), some (.fr (.str y)), none, none] ∧ ((d = "push" ∨ d = "swap" → symB y = true) ∧ (¬ (d = "push" ∨ d = "swap") → y = ""))) ?_ ?_
      · have dd : ∀ z : Bool, (if decide (d = ("push" : Str)) = true then R.ok true else R.ok (decide (d = ("swap" : Str)))) = R.ok (decide (d = ("push" : Str) ∨ d = "swap")) := fun _ => by
          by_cases h1 : d = "push" <;> by_cases h2 : d = "swap" <;> simp [h1, h2]
        by_cases h : d = "push" ∨ d = "swap"
        · obtain ⟨y, hy, ey⟩ := pick (l := ps ++ [own, own]) (f := D.str) (i := r8) ⟨a8, by simp [hp5]; omega⟩
          have ay : dAdd (.lst (ps.map D.str)) (.lst [.str own, .str own]) = .ok (.ol ((ps ++ [own, own]).map D.str)) := by
            rw [add_lst (by simp [hp5]; decide), List.map_append]; rfl
          have ay' : dAdd (.lst (ps.map D.str)) (.lst [.str own, .str own]) = .ok (.ol (ps.map D.str ++ [.str own, .str own])) := by
            rw [ay, List.map_append]; rfl
          have ey' : dIxD (.lst (ps.map D.str ++ [.str own, .str own])) (.int r8) = .ok (.fr (.str y)) := by
            rw [List.map_append] at ey; exact ey
          refine nx_of (δ := [some (.fr (.int c)), some (.fr (.str L)), some (.fr (.int n)), some (.fr (.lst (ps.map D.str))), some (.fr (.lst (rs.map Rul.dt))), some (.fr (.lst (row.map D.int))), some (.fr (.lst ((signL L).map D.str))), none, some (.fr (.str own)), some (.fr (.tup [.int s, .str g, .str t])), x, some (.fr (.int m)), some (.fr (.str d)), some (.fr (.str y)), none, none]) ?_ ⟨y, rfl, fun _ => ?_, fun z => absurd h z⟩
          · rcases h with h | h
            · simp [eq_str, h, e8, ay', ey']
            · have hn : ¬ ("swap" : Str) = "push" := by decide +kernel
              simp [eq_str, h, hn, e8, ay', ey']
          · rcases List.mem_append.mp hy with h | h
            · exact hps _ h
            · simp only [List.mem_cons, List.not_mem_nil, or_false, or_self] at h
              rw [h]; exact ho
        · refine nx_of (δ := [some (.fr (.int c)), some (.fr (.str L)), some (.fr (.int n)), some (.fr (.lst (ps.map D.str))), some (.fr (.lst (rs.map Rul.dt))), some (.fr (.lst (row.map D.int))), some (.fr (.lst ((signL L).map D.str))), none, some (.fr (.str own)), some (.fr (.tup [.int s, .str g, .str t])), x, some (.fr (.int m)), some (.fr (.str d)), some (.fr (.str "")), none, none]) ?_ ⟨_, rfl, fun z => absurd z h, fun _ => rfl⟩
          simp only [not_or] at h
          simp [eq_str, h.1, h.2]
      intro δ' ⟨y, hh, hy⟩
      subst hh
      obtain ⟨kn, rfl⟩ := Int.eq_ofNat_of_zero_le a9
      have cz : cutL (row.map D.int) (some 10) (some (10 + (kn : Int))) = ((row.drop 10).take kn).map D.int := by
        rw [cut_map, cut_at (a := 10) (n := kn) (i := 10) (j := 10 + (kn : Int)) (by omega) rfl (by omega)]
      have hzs : ∀ x ∈ (row.drop 10).take kn, 0 ≤ x ∧ x < 26 := fun x hx => by
        obtain ⟨i, hi⟩ := List.mem_iff_getElem?.mp hx
        have hi2 : i < kn := by
          rcases Nat.lt_or_ge i kn with h | h
          · exact h
          · rw [List.getElem?_eq_none (by rw [List.length_take]; omega)] at hi; cases hi
        rw [sub_at hi2] at hi
        have : i < 3 := by omega
        refine hd.2 (10 + i) x 26 hi ?_
        rcases i with _ | _ | _ | i
        · rfl
        · rfl
        · rfl
        · omega
      have hzl : ((row.drop 10).take kn).length = kn := by rw [List.length_take, List.length_drop]; omega
      generalize (row.drop 10).take kn = zs at cz hzs hzl
      have lz := lc_map (fi := iSeq (fSl (getV 5) (pInt (cst (.int 10))) (pInt (fBin dAdd (cst (.int 10)) (fBin dIxD (getV 5) (cst (.int 9))))))) (vs := [15]) (bd := gSet 15) (fe := fBin dIxD (cst (.str "abcdefghijklmnopqrstuvwxyz")) (getV 15)) (δ := [some (.fr (.int c)), some (.fr (.str L)), some (.fr (.int n)), some (.fr (.lst (ps.map D.str))), some (.fr (.lst (rs.map Rul.dt))), some (.fr (.lst (row.map D.int))), some (.fr (.lst ((signL L).map D.str))), none, some (.fr (.str own)), some (.fr (.tup [.int s, .str g, .str t])), x, some (.fr (.int m)), some (.fr (.str d)), some (.fr (.str y)), none, none]) D.int (fun x => D.str (one (97 + x.toNat))) zs (by simp [ev_pint, e9, cz]) (by unfold SZ; omega) fun b hb => by
        obtain ⟨q1, q2⟩ := hzs b hb
        have q := let26 (k := b.toNat) (by omega)
        rw [Int.toNat_of_nonneg q1] at q
        have q' : dIxD (.str "abcdefghijklmnopqrstuvwxyz") (.int b) = .ok (.fr (.str (one (97 + b.toNat)))) := q
        exact ⟨_, .fr (.str (one (97 + b.toNat))), rfl, by simp [fgtS, q'], rfl⟩
      have dz := dJ_ones (l := zs.map fun x => 97 + x.toNat) (by rw [List.length_map]; unfold SZ; omega)
      rw [List.map_map] at dz
      have dz' : dJoin2 (.str "") (.lst (zs.map fun x => D.str (one (97 + x.toNat)))) = .ok (.fr (.str (stS (zs.map fun x => 97 + x.toNat)))) := dz
      have hsaid : saidB (stS (zs.map fun x => 97 + x.toNat)) = true := lets_said (by rw [List.length_map]; omega) fun c hc => by
        obtain ⟨x, hx, rfl⟩ := List.mem_map.mp hc
        obtain ⟨q1, q2⟩ := hzs x hx
        rw [let_l]
        exact List.mem_map_of_mem (List.mem_range.mpr (by omega))
      generalize stS (zs.map fun x => 97 + x.toNat) = z at dz' hsaid
      refine rt_nx (δ' := [some (.fr (.int c)), some (.fr (.str L)), some (.fr (.int n)), some (.fr (.lst (ps.map D.str))), some (.fr (.lst (rs.map Rul.dt))), some (.fr (.lst (row.map D.int))), some (.fr (.lst ((signL L).map D.str))), none, some (.fr (.str own)), some (.fr (.tup [.int s, .str g, .str t])), x, some (.fr (.int m)), some (.fr (.str d)), some (.fr (.str y)), some (.fr (.str z)), none]) (by
        rw [ev_set, ev_m1, lz]
        simp [isStrD, dz']) ?_
      refine rt_rt (r := .fr (Rul.dt ⟨s, g, t, r5 % n, m, d, y, z⟩)) ?_ ⟨_, rfl, ok_of hs hsm ht ⟨u1, u2⟩ hdd hsaid hdt hy⟩
      have ak : dAdd (.tup [.int s, .str g, .str t]) (.tup [.int (r5 % n), .int m, .str d, .str y, .str z]) = .ok (.fr (Rul.dt ⟨s, g, t, r5 % n, m, d, y, z⟩)) := add_tup (by simp [SZ])
      simp [e5, ma, ak]
  obtain ⟨r, e, q, er, h⟩ := key
  exact ⟨q, by rw [e, er], h⟩
end K00


set_option maxRecDepth 100000
set_option maxHeartbeats 4000000
namespace GM
open PySem DL GS
section
variable {α : Type} [DecidableEq α] {lt : α → α → Bool}
theorem asc_up (L : Lin lt) {ys : List α} (h : Asc lt ys) : Up lt ys := by
  refine List.Pairwise.imp (fun {x y} hxy => ?_) h
  cases q : lt y x with
  | false => rfl
  | true => have := L.tr _ _ _ hxy q; rw [L.irr] at this; cases this
theorem ssG_nd (L : Lin lt) (xs : List α) : (ssG lt xs).Nodup := insG_nodup L xs
theorem sr_eq (L : Lin lt) {ys xs : List α} (hn : ys.Nodup) (hm : ∀ z, z ∈ ys ↔ z ∈ xs) : srG lt ys = ssG lt xs := by
  refine up_ext L ((srG_perm lt ys).trans ?_) (srG_up L ys) (asc_up L (ssG_asc L xs))
  exact (List.perm_ext_iff_of_nodup hn (ssG_nd L xs)).mpr fun z => by rw [hm, ssG_mem]
theorem ssG_ext (L : Lin lt) {ys xs : List α} (hm : ∀ z, z ∈ ys ↔ z ∈ xs) : ssG lt ys = ssG lt xs := by
  refine up_ext L ?_ (asc_up L (ssG_asc L ys)) (asc_up L (ssG_asc L xs))
  exact (List.perm_ext_iff_of_nodup (ssG_nd L ys) (ssG_nd L xs)).mpr fun z => by rw [ssG_mem, ssG_mem, hm]
end
theorem nd_map {α β : Type} {f : α → β} (hi : ∀ x y, f x = f y → x = y) : ∀ {xs : List α}, xs.Nodup → (xs.map f).Nodup
  | [], _ => List.nodup_nil
  | x :: xs, h => by
    obtain ⟨h1, h2⟩ := List.nodup_cons.mp h
    rw [List.map_cons]
    refine List.nodup_cons.mpr ⟨fun hx => ?_, nd_map hi h2⟩
    obtain ⟨y, hy, e⟩ := List.mem_map.mp hx
    rw [hi _ _ e] at hy
    exact h1 hy
theorem mm_map {α β : Type} {f : α → β} {xs ys : List α} (h : ∀ z, z ∈ ys ↔ z ∈ xs) (z : β) : z ∈ ys.map f ↔ z ∈ xs.map f := by
  simp only [List.mem_map, h]
theorem dSrt_ints {ys xs : List Int} (hn : ys.Nodup) (hm : ∀ z, z ∈ ys ↔ z ∈ xs) (hl : ys.length ≤ SZ) : dSrt [.lst (ys.map D.int)] = .ok (.ol ((srtI xs).map D.int)) := by
  have e : (ys.map D.int).mapM cellD = some (ys.map Sum.inl) := mapM_some (f := cellD) (fun x => rfl) ys
  have s : ssG kLt1 (xs.map (Sum.inl : Int → L2.Key)) = (srtI xs).map Sum.inl := ssG_map (fun x y z => Sum.inl.inj z) (fun x y => rfl) xs
  unfold dSrt
  simp only [e]
  rw [if_pos ⟨hom_ints ys, by rw [List.length_map]; exact hl⟩, sr_eq lin_key (nd_map (fun x y z => Sum.inl.inj z) hn) (mm_map hm), s, List.map_map]
  rfl
theorem dSrt_strs {ys xs : List Str} (hn : ys.Nodup) (hm : ∀ z, z ∈ ys ↔ z ∈ xs) (hl : ys.length ≤ SZ) : dSrt [.lst (ys.map D.str)] = .ok (.ol ((srtS xs).map D.str)) := by
  have e : (ys.map D.str).mapM cellD = some (ys.map Sum.inr) := mapM_some (f := cellD) (fun x => rfl) ys
  have s : ssG kLt1 (xs.map (Sum.inr : Str → L2.Key)) = (srtS xs).map Sum.inr := ssG_map (fun x y z => Sum.inr.inj z) (fun x y => rfl) xs
  unfold dSrt
  simp only [e]
  rw [if_pos ⟨hom_strs ys, by rw [List.length_map]; exact hl⟩, sr_eq lin_key (nd_map (fun x y z => Sum.inr.inj z) hn) (mm_map hm), s, List.map_map]
  rfl
theorem uni_rules (r : Rul) (rs : List Rul) : uniB ((r :: rs).map Rul.row) = true := by
  rw [List.map_cons]
  show (!(Rul.row r).isEmpty && (rs.map Rul.row).all fun l => sig l == sig r.row) = true
  have a : ((rs.map Rul.row).all fun l => sig l == sig r.row) = true := by
    rw [List.all_map]
    exact List.all_eq_true.mpr fun x _ => by
      show (sig x.row == sig r.row) = true
      rfl
  rw [a]; rfl
theorem dSrt_rules {ys xs : List Rul} (hn : ys.Nodup) (hm : ∀ z, z ∈ ys ↔ z ∈ xs) (hl : ys.length ≤ SZ) : dSrt [.lst (ys.map Rul.dt)] = .ok (.ol ((srt xs).map Rul.dt)) := by
  have s : ssG GS.kLt (xs.map Rul.row) = (srt xs).map Rul.row := ssG_map (fun x y z => Rul.row_inj z) (fun x y => rfl) _
  cases ys with
  | nil =>
    have : xs = [] := List.eq_nil_iff_forall_not_mem.mpr fun z hz => by have := (hm z).mpr hz; cases this
    subst this
    rfl
  | cons r rs =>
    have e0 : ((r :: rs).map Rul.dt).mapM cellD = none := by
      rw [List.map_cons, List.mapM_cons]; rfl
    have e : ((r :: rs).map Rul.dt).mapM rowD = some ((r :: rs).map Rul.row) := mapM_some (f := rowD) (g := Rul.dt) (h := Rul.row) (fun x => rfl) _
    unfold dSrt
    simp only [e0, e]
    rw [if_pos ⟨uni_rules r rs, by rw [List.length_map]; exact hl⟩, sr_eq lin_row (nd_map (fun x y z => Rul.row_inj z) hn) (mm_map hm), s, List.map_map]
    rfl
/-! ### a dict that keeps each key once -/
section
variable {α : Type} [DecidableEq α]
def fstU (xs : List α) : List α := xs.foldl (fun acc x => if x ∈ acc then acc else acc ++ [x]) []
theorem fstU_snoc (xs : List α) (x : α) : fstU (xs ++ [x]) = if x ∈ fstU xs then fstU xs else fstU xs ++ [x] := by
  unfold fstU
  rw [List.foldl_append]; rfl
theorem fstU_go : ∀ (n : Nat) (xs : List α), xs.length = n → (fstU xs).Nodup ∧ (∀ z, z ∈ fstU xs ↔ z ∈ xs) ∧ (fstU xs).length ≤ xs.length
  | 0, xs, h => by
    have := List.eq_nil_of_length_eq_zero h
    subst this
    exact ⟨List.nodup_nil, fun z => Iff.rfl, Nat.le_refl _⟩
  | n + 1, xs, h => by
    have hne : xs ≠ [] := fun e => by rw [e] at h; cases h
    have e : xs = xs.dropLast ++ [xs.getLast hne] := (List.dropLast_concat_getLast hne).symm
    have hl : xs.dropLast.length = n := by rw [List.length_dropLast]; omega
    obtain ⟨h1, h2, h3⟩ := fstU_go n xs.dropLast hl
    generalize xs.dropLast = ys at e h1 h2 h3 hl
    generalize xs.getLast hne = y at e
    subst e
    rw [fstU_snoc]
    by_cases q : y ∈ fstU ys
    · rw [if_pos q]
      refine ⟨h1, fun z => ?_, by rw [List.length_append]; omega⟩
      rw [h2, List.mem_append, List.mem_singleton]
      exact ⟨.inl, fun h => h.elim id fun e => by rw [e]; exact (h2 y).mp q⟩
    · rw [if_neg q]
      refine ⟨List.nodup_append.mpr ⟨h1, by simp, fun a ha b hb e => ?_⟩, fun z => ?_, by rw [List.length_append, List.length_append, List.length_singleton]; simpa using h3⟩
      · rw [List.mem_singleton.mp hb] at e
        subst e
        exact q ha
      · rw [List.mem_append, List.mem_append, h2]
theorem fstU_ok (xs : List α) : (fstU xs).Nodup ∧ (∀ z, z ∈ fstU xs ↔ z ∈ xs) ∧ (fstU xs).length ≤ xs.length := fstU_go _ xs rfl
variable {f : α → D} {κ : α → KK}
def onD (f : α → D) (xs : List α) : List (D × D) := xs.map fun x => (f x, .bl true)
theorem look_on (hκ : ∀ x, kkOf (f x) = some (κ x)) (hi : ∀ x y, κ x = κ y → x = y) (x : α) : ∀ xs : List α, lookD (onD f xs) (κ x) = if x ∈ xs then some (.bl true) else none
  | [] => rfl
  | y :: xs => by
    show lookD ((f y, .bl true) :: onD f xs) (κ x) = _
    by_cases e : x = y
    · subst e
      rw [lookD_pos (hκ _), if_pos List.mem_cons_self]
    · have : ¬ kkOf (f y) = some (κ x) := fun h => by
        rw [hκ] at h
        exact e (hi _ _ (Option.some.inj h)).symm
      rw [lookD_neg this, look_on hκ hi x xs]
      simp [e]
theorem put_on (hκ : ∀ x, kkOf (f x) = some (κ x)) (hD : ∀ x, kkD (κ x) = f x) (hi : ∀ x y, κ x = κ y → x = y) (xs : List α) (x : α) : putD (onD f xs) (κ x) (.bl true) = onD f (if x ∈ xs then xs else xs ++ [x]) := by
  unfold putD
  rw [look_on hκ hi]
  by_cases h : x ∈ xs
  · rw [if_pos h, if_pos h]
    simp only [Option.isSome_some, if_true]
    unfold onD
    rw [List.map_map]
    refine List.map_congr_left fun y _ => ?_
    show (if kkOf (f y) = some (κ x) then (f y, D.bl true) else (f y, D.bl true)) = _
    split <;> rfl
  · rw [if_neg h, if_neg h]
    show onD f xs ++ [(kkD (κ x), .bl true)] = _
    unfold onD
    rw [List.map_append, hD]; rfl
theorem kind_on (hκ : ∀ x, kkOf (f x) = some (κ x)) {b : Bool} (hb : ∀ x, kkT (κ x) = b) (xs : List α) (x : α) : kindOk (onD f xs) (κ x) = true := by
  unfold kindOk kindD onD
  rw [List.all_map]
  refine List.all_eq_true.mpr fun y _ => ?_
  show (match kkOf (f y) with | some (.inl _) => !kkT (κ x) | some (.inr _) => kkT (κ x) | none => false) = true
  rw [hκ, hb]
  have := hb y
  cases e : κ y with
  | inl k => rw [e] at this; simp only; rw [← this]; rfl
  | inr k => rw [e] at this; simp only; rw [← this]; rfl
end
end GM
namespace K00
open PySem DL GM
theorem once_ok {α : Type} [DecidableEq α] {f : α → D} {κ : α → KK} {b : Bool} (hκ : ∀ x, kkOf (f x) = some (κ x)) (hD : ∀ x, kkD (κ x) = f x) (hi : ∀ x y, κ x = κ y → x = y) (hb : ∀ x, kkT (κ x) = b) {d : D} {xs : List α} (hd : seqD d = .ok (xs.map f)) (hl : xs.length < SZ) {r : RV}
    (hs : ∀ ys : List α, ys.Nodup → (∀ z, z ∈ ys ↔ z ∈ xs) → ys.length ≤ SZ → dSrt [.lst (ys.map f)] = .ok r) : g_law_each_once [d] = .ok r := by
  have key : ∃ r', g_law_each_once [d] = .ok r' ∧ r' = r := by
    refine rt_run rfl ?_
    unfold F_law_each_once
    refine rt_nx (δ' := [some (.fr d), some (.od false []), none]) (by simp) ?_
    refine rt_seq (Q := fun δ => ∃ t, δ = [some (.fr d), some (.od t (onD f (fstU xs))), none]) (wp_for (xs.map f) (fun i δ => ∃ t, δ = [some (.fr d), some (.od t (onD f (fstU (xs.take i)))), none]) (by simp [hd]) ⟨false, rfl⟩ ?_ (fun δ' ⟨t, h⟩ => ⟨t, by rw [h, List.length_map, List.take_length]⟩)) ?_
    · intro i e δ ee ⟨t, h⟩
      subst h
      rw [List.getElem?_map] at ee
      cases ex : xs[i]? with
      | none => rw [ex] at ee; cases ee
      | some x =>
        rw [ex] at ee
        cases ee
        have tk : xs.take (i + 1) = xs.take i ++ [x] := by rw [List.take_succ, ex]; rfl
        obtain ⟨h1, h2, h3⟩ := fstU_ok (xs.take i)
        have hle : (xs.take i).length ≤ xs.length := by rw [List.length_take]; omega
        refine ⟨_, rfl, wp_nx (put_at (t := t) (kvs := onD f (fstU (xs.take i))) (r := .fr (.bl true)) (y := .fr (f x)) (k := κ x) rfl rfl rfl (hκ x) (kind_on hκ hb _ x) (by unfold onD; rw [List.length_map]; omega)) (wp_nil ⟨kkT (κ x), ?_⟩)⟩
        rw [rv_fr, put_on hκ hD hi, tk, fstU_snoc]
        rfl
    · intro δ' ⟨t, h⟩
      subst h
      obtain ⟨h1, h2, h3⟩ := fstU_ok xs
      have e1 : dListD [.dct (onD f (fstU xs))] = .ok (.ol ((fstU xs).map f)) := by
        show (if (onD f (fstU xs)).length ≤ SZ then R.ok (RV.ol ((onD f (fstU xs)).map (·.1))) else .stuck) = _
        unfold onD
        rw [if_pos (by rw [List.length_map]; omega), List.map_map]
        rfl
      refine rt_rt (r := r) ?_ rfl
      rw [ev_frz, fz_any (r := .od t (onD f (fstU xs))) rfl]
      simp [e1, hs _ h1 h2 (by omega)]
  obtain ⟨r', e, rfl⟩ := key
  exact e
theorem once_ints {d : D} {xs : List Int} (hd : seqD d = .ok (xs.map D.int)) (hl : xs.length < SZ) : g_law_each_once [d] = .ok (.ol ((srtI xs).map D.int)) :=
  once_ok (f := D.int) (κ := fun i => .inl (.inl i)) (b := false) (fun _ => rfl) (fun _ => rfl) (fun x y h => Sum.inl.inj (Sum.inl.inj h)) (fun _ => rfl) hd hl fun ys h1 h2 h3 => dSrt_ints h1 h2 h3
theorem once_strs {d : D} {xs : List Str} (hd : seqD d = .ok (xs.map D.str)) (hl : xs.length < SZ) : g_law_each_once [d] = .ok (.ol ((srtS xs).map D.str)) :=
  once_ok (f := D.str) (κ := fun i => .inl (.inr i)) (b := false) (fun _ => rfl) (fun _ => rfl) (fun x y h => Sum.inr.inj (Sum.inl.inj h)) (fun _ => rfl) hd hl fun ys h1 h2 h3 => dSrt_strs h1 h2 h3
theorem once_rules {d : D} {xs : List Rul} (hd : seqD d = .ok (xs.map Rul.dt)) (hl : xs.length < SZ) : g_law_each_once [d] = .ok (.ol ((srt xs).map Rul.dt)) :=
  once_ok (f := Rul.dt) (κ := fun r => .inr r.row) (b := true) (fun _ => rfl) (fun r => r.row_dt) (fun x y h => Rul.row_inj (Sum.inr.inj h)) (fun _ => rfl) hd hl fun ys h1 h2 h3 => dSrt_rules h1 h2 h3
end K00


set_option maxRecDepth 100000
set_option maxHeartbeats 4000000
namespace K00
open PySem DL GM
/-! ### the rules, the yes states -/
theorem rules_ok {ns : List Int} {at_ many : Nat} {L : Str} {n : Int} {ps : List Str} (hat : at_ < 1000) (hm : many ≤ 1000) (hL : alB L = true) (hn : 1 ≤ n ∧ n ≤ 2000) (hp5 : ps.length = 5) (hps : ∀ p ∈ ps, symB p = true) :
    ∃ rs : List Rul, g_law_rules [.lst (ns.map D.int), .int (at_ : Nat), .int (many : Nat), .str L, .int n, .lst (ps.map D.str)] = .ok (.ol (rs.map Rul.dt)) ∧ rs.length = many ∧ ∀ r ∈ rs, okR L n r := by
  have key : ∃ r, g_law_rules [.lst (ns.map D.int), .int (at_ : Nat), .int (many : Nat), .str L, .int n, .lst (ps.map D.str)] = .ok r ∧ ∃ rs : List Rul, r = .ol (rs.map Rul.dt) ∧ rs.length = many ∧ ∀ r ∈ rs, okR L n r := by
    refine rt_run rfl ?_
    unfold F_law_rules
    refine rt_nx (δ' := [some (.fr (.lst (ns.map D.int))), some (.fr (.int (at_ : Nat))), some (.fr (.int (many : Nat))), some (.fr (.str L)), some (.fr (.int n)), some (.fr (.lst (ps.map D.str))), some (.ol []), none]) (by simp) ?_
    have rg := rng1_nat (n := many) (by omega)
    refine rt_seq (Q := fun δ => ∃ rs : List Rul, δ = [some (.fr (.lst (ns.map D.int))), some (.fr (.int (at_ : Nat))), some (.fr (.int (many : Nat))), some (.fr (.str L)), some (.fr (.int n)), some (.fr (.lst (ps.map D.str))), some (.ol (rs.map Rul.dt)), none] ∧ rs.length = many ∧ ∀ r ∈ rs, okR L n r)
      (wp_for ((List.range many).map fun i => D.int (i : Nat)) (fun i δ => ∃ rs : List Rul, δ = [some (.fr (.lst (ns.map D.int))), some (.fr (.int (at_ : Nat))), some (.fr (.int (many : Nat))), some (.fr (.str L)), some (.fr (.int n)), some (.fr (.lst (ps.map D.str))), some (.ol (rs.map Rul.dt)), none] ∧ rs.length = i ∧ ∀ r ∈ rs, okR L n r) (by simp [rg]) ⟨[], rfl, rfl, fun _ h => nomatch h⟩ ?_ (fun δ' ⟨rs, h, h1, h2⟩ => ⟨rs, h, by rw [h1]; simp, h2⟩)) ?_
    · intro i d δ ed ⟨rs, h, h1, h2⟩
      subst h
      obtain ⟨hi, rfl⟩ := rng_int (by omega) ed
      obtain ⟨c, ec⟩ := cell_ok ns (at_ + i) (by omega)
      obtain ⟨q, eq, hq⟩ := drawn_rule (c := c) hL hn hp5 hps h2 (by omega)
      have ev : fView (fCall (g_law_rule) (aCons (fCall (g_law_cell) (aCons (getV 0) (aCons (fBin dAdd (getV 1) (getV 7)) aNil))) (aCons (getV 3) (aCons (getV 4) (aCons (getV 5) (aCons (getV 6) aNil))))))
          [some (.fr (.lst (ns.map D.int))), some (.fr (.int (at_ : Nat))), some (.fr (.int (many : Nat))), some (.fr (.str L)), some (.fr (.int n)), some (.fr (.lst (ps.map D.str))), some (.ol (rs.map Rul.dt)), some (.fr (.int (i : Nat)))] = .ok (.fr q.dt) := by
        refine view_fr ?_ (fun z => ?_)
        · have ec' : g_law_cell [.lst (ns.map D.int), .int ((at_ : Int) + (i : Int))] = .ok (.fr (.int c)) := by
            have := ec; rwa [show ((at_ + i : Nat) : Int) = (at_ : Int) + (i : Int) by omega] at this
          simp [frzAll, ec', eq]
        · unfold Rul.dt; simp [safeD, safeDs]
      refine ⟨_, rfl, wp_nx (ow_ap (ds := rs.map Rul.dt) (r := .fr q.dt) rfl ev (by rw [List.length_map]; unfold SZ; omega)) (wp_nil ⟨rs ++ [q], by simp [fgtS], by rw [List.length_append, h1]; rfl, fun r hr => ?_⟩)⟩
      rcases List.mem_append.mp hr with h | h
      · exact h2 r h
      · rw [List.mem_singleton.mp h]; exact hq
    · intro δ' ⟨rs, h, h1, h2⟩
      subst h
      exact rt_rt (r := .ol (rs.map Rul.dt)) (by simp) ⟨rs, rfl, h1, h2⟩
  obtain ⟨r, e, rs, er, h⟩ := key
  exact ⟨rs, by rw [e, er], h⟩
def ysz : List Int := [8, 9, 5] ++ List.replicate 8 2000
theorem yes_ok (c n : Int) (hn : 1 ≤ n ∧ n ≤ 2000) : ∃ ys : List Int, g_law_yes [.int c, .int n] = .ok (.ol (ys.map D.int)) ∧ ys.length ≤ 2000 ∧ ∀ y ∈ ys, 0 ≤ y ∧ y < n := by
  obtain ⟨row, ed, hd⟩ := digits_ok c ysz (by decide +kernel) (by decide +kernel)
  have hlen : row.length = 11 := hd.1
  obtain ⟨r0, e0, a0, b0⟩ := hd.get 0 (s := 8) rfl
  obtain ⟨r1, e1, a1, b1⟩ := hd.get 1 (s := 9) rfl
  obtain ⟨r2, e2, a2, b2⟩ := hd.get 2 (s := 5) rfl
  have m1 : dMulW (.lst [.int 2000]) (.int 8) = .ok (.ol ((List.replicate 8 (2000 : Int)).map D.int)) := rfl
  have m2 : dAdd (.lst [.int 8, .int 9, .int 5]) (.lst [.int 2000, .int 2000, .int 2000, .int 2000, .int 2000, .int 2000, .int 2000, .int 2000]) = .ok (.ol (ysz.map D.int)) := rfl
  obtain ⟨nn, rfl⟩ := Int.eq_ofNat_of_zero_le (show 0 ≤ n by omega)
  have key : ∃ r, g_law_yes [.int c, .int (nn : Int)] = .ok r ∧ ∃ ys : List Int, r = .ol (ys.map D.int) ∧ ys.length ≤ 2000 ∧ ∀ y ∈ ys, 0 ≤ y ∧ y < (nn : Int) := by
    refine rt_run rfl ?_
    unfold F_law_yes
    refine rt_nx (δ' := [some (.fr (.int c)), some (.fr (.int (nn : Int))), some (.ol (row.map D.int)), none, none]) (by simp [m1, m2, ed]) ?_
    have rg := rng1_nat (n := nn) (by omega)
    by_cases h0 : r0 = 0
    · have lc := lc_filter (fi := iArgs rng1 (aCons (getV 1) aNil)) (vs := [3]) (bd := gSet 3) (ft := (fB (fBin (dEq false) (fBin dMod (fCall dInt (aCons (getV 3) aNil)) (fBin dAdd (cst (.int 1)) (fBin dIxD (getV 2) (cst (.int 2))))) (cst (.int 0))))) (fe := (fBin dSub (fBin dSub (getV 1) (cst (.int 1))) (getV 3)))
        (δ := [some (.fr (.int c)), some (.fr (.int (nn : Int))), some (.fr (.lst (row.map D.int))), none, none]) (fun k : Nat => D.int k) (fun k : Nat => D.int ((nn : Int) - 1 - k)) (fun k => decide ((k : Int) % (1 + r2) = 0)) (List.range nn) (by simp [rg]) (by rw [List.length_range]; unfold SZ; omega) fun k hk => by
          have hk' := List.mem_range.mp hk
          have mm := mod_int (i := (k : Int)) (j := 1 + r2) (by omega)
          exact ⟨_, rfl, by simp [fgtS, e2, mm, eq_int], fun _ => ⟨.fr (.int ((nn : Int) - 1 - k)), by simp [fgtS], rfl⟩⟩
      refine rt_rt (r := .ol ((((List.range nn).filter fun k : Nat => decide ((k : Int) % (1 + r2) = 0)).map fun k : Nat => (nn : Int) - 1 - k).map D.int)) ?_ ⟨_, rfl, ?_, fun y hy => ?_⟩
      · rw [ev_frz, fz_ol (ds := row.map D.int) rfl, ev_if]
        have ec : fB (fBin (dEq false) (fBin dIxD (getV 2) (cst (.int 0))) (cst (.int 0))) ([some (RV.fr (.int c)), some (.fr (.int (nn : Int))), some (.ol (row.map D.int)), none, none].set 2 (some (.fr (.lst (row.map D.int))))) = .ok true := by simp [e0, h0, eq_int]
        rw [ec, lf_ok, if_pos rfl, ev_seq, ev_ret]
        show (lift (fLc _ _ _ _ _ [some (RV.fr (.int c)), some (.fr (.int (nn : Int))), some (.fr (.lst (row.map D.int))), none, none]) _ _).seq _ = _
        rw [lc, lf_ok, sq_rt, List.map_map]
        rfl
      · rw [List.length_map]
        exact Nat.le_trans (List.length_filter_le _ _) (by rw [List.length_range]; omega)
      · obtain ⟨k, hk, rfl⟩ := List.mem_map.mp hy
        have := List.mem_range.mp (List.mem_filter.mp hk).1
        omega
    · refine rt_nx (δ' := [some (.fr (.int c)), some (.fr (.int (nn : Int))), some (.fr (.lst (row.map D.int))), none, none]) (by
        rw [ev_frz, fz_ol (ds := row.map D.int) rfl]
        simp [e0, h0, eq_int]) ?_
      obtain ⟨k, rfl⟩ := Int.eq_ofNat_of_zero_le a1
      have cc : cutL (row.map D.int) (some 3) (some (3 + (k : Int))) = ((row.drop 3).take k).map D.int := by
        rw [cut_map, cut_at (a := 3) (n := k) (i := 3) (j := 3 + (k : Int)) (by omega) rfl (by omega)]
      have hzl : ((row.drop 3).take k).length ≤ 8 := by rw [List.length_take, List.length_drop]; omega
      generalize (row.drop 3).take k = zs at cc hzl
      have lc := lc_map (fi := iSeq (fSl (getV 2) (pInt (cst (.int 3))) (pInt (fBin dAdd (cst (.int 3)) (fBin dIxD (getV 2) (cst (.int 1))))))) (vs := [4]) (bd := gSet 4) (fe := fBin dMod (fCall dInt (aCons (getV 4) aNil)) (getV 1)) (δ := [some (.fr (.int c)), some (.fr (.int (nn : Int))), some (.fr (.lst (row.map D.int))), none, none])
        D.int (fun x => D.int (x % (nn : Int))) zs (by simp [ev_pint, e1, cc]) (by unfold SZ; omega) fun x hx => ⟨_, .fr (.int (x % (nn : Int))), rfl, by simp [fgtS, mod_int (i := x) (j := (nn : Int)) (by omega)], rfl⟩
      refine rt_rt (r := .ol ((zs.map fun x => x % (nn : Int)).map D.int)) ?_ ⟨_, rfl, by rw [List.length_map]; omega, fun y hy => ?_⟩
      · rw [ev_ret, lc, lf_ok, List.map_map]
        rfl
      · obtain ⟨x, hx, rfl⟩ := List.mem_map.mp hy
        exact ⟨Int.emod_nonneg _ (by omega), Int.emod_lt_of_pos _ (by omega)⟩
  obtain ⟨r, e, ys, er, h⟩ := key
  exact ⟨ys, by rw [e, er], h⟩
/-! ### told and due are the same -/
abbrev SM_ := fun g => runF 2 3 (F_law_same g)
abbrev sameT (n : Nat) (d : D) : Prop := fuelF SM_ n [d, d] = .ok (.fr (.bl true))
theorem same_int (n : Nat) (i : Int) : sameT (n + 1) (.int i) := by
  show runF 2 3 (F_law_same (fuelF SM_ n)) [.int i, .int i] = _
  have w : g_law_whole [.int i] = .ok (.fr (.bl true)) := by
    unfold g_law_whole runF F_law_whole
    simp
  unfold runF F_law_same
  simp [w, eq_int]
theorem same_str (n : Nat) (x : Str) : sameT (n + 1) (.str x) := by
  show runF 2 3 (F_law_same (fuelF SM_ n)) [.str x, .str x] = _
  unfold runF F_law_same
  simp [eq_str]
theorem same_non (n : Nat) : sameT (n + 1) .non := by
  show runF 2 3 (F_law_same (fuelF SM_ n)) [.non, .non] = _
  unfold runF F_law_same
  simp
theorem same_true (n : Nat) : sameT (n + 1) (.bl true) := by
  show runF 2 3 (F_law_same (fuelF SM_ n)) [.bl true, .bl true] = _
  have e : dEq false (.bl true) (.bl true) = .ok (.fr (.bl true)) := eq_self (by decide +kernel)
  unfold runF F_law_same
  simp [e]
theorem same_tup (n : Nat) (xs : List D) (hl : xs.length < 2 ^ 60) (h : ∀ x ∈ xs, sameT n x) : sameT (n + 1) (.tup xs) := by
  show runF 2 3 (F_law_same (fuelF SM_ n)) [.tup xs, .tup xs] = _
  have lp := forL_all (F := sSeq (sIf (bNot (fT (fCall (fuelF SM_ n) (aCons (fBin dIxD (getV 0) (getV 2)) (aCons (fBin dIxD (getV 1) (getV 2)) aNil))))) (sSeq (sRet (cst (.bl false))) sNil) sNil) sNil) (bd := gSet 2) (fg := [2]) [some (.fr (.tup xs)), some (.fr (.tup xs)), none] ((List.range xs.length).map fun i => D.int (i : Nat)) (fun d hd => by
    obtain ⟨i, hi, rfl⟩ := List.mem_map.mp hd
    have hi := List.mem_range.mp hi
    have e : dIxD (.tup xs) (.int (i : Nat)) = .ok (.fr xs[i]) := by rw [ixn_tup, List.getElem?_eq_getElem hi]; rfl
    have hs := h xs[i] (List.getElem_mem hi)
    exact ⟨_, [some (.fr (.tup xs)), some (.fr (.tup xs)), some (.fr (.int (i : Nat)))], rfl, by simp [e, hs], rfl⟩)
  have rg := rng1_nat (n := xs.length) (by omega)
  unfold runF F_law_same
  simp [ne_int, rg, lp]
def dueD (L : Str) (n : Int) (rs : List Rul) (ys : List Int) : D := .tup [.str L, .int n, .tup ((srt rs).map Rul.dt), .tup ((srtI ys).map D.int), .tup ((srtS (foundS rs)).map D.str), fgs (srt rs)]
theorem same_dt (n : Nat) (r : Rul) : sameT (n + 2) r.dt := by
  refine same_tup (n + 1) _ (by simp) fun x hx => ?_
  simp only [List.mem_cons, List.not_mem_nil, or_false] at hx
  rcases hx with rfl | rfl | rfl | rfl | rfl | rfl | rfl | rfl
  · exact same_int n _
  · exact same_str n _
  · exact same_str n _
  · exact same_int n _
  · exact same_int n _
  · exact same_str n _
  · exact same_str n _
  · exact same_str n _
theorem fgs_cases (rs : List Rul) : fgs rs = .non ∨ ∃ r, fgs rs = kd r := by
  unfold fgs
  cases e : (List.range (rs.length - 1)).findSome? (fgD rs) with
  | none => exact .inl rfl
  | some d =>
    right
    obtain ⟨i, hi, e⟩ := List.exists_of_findSome?_eq_some e
    unfold fgD at e
    split at e
    · split at e
      · rename_i a b _ _ _
        cases e
        exact ⟨a, rfl⟩
      · cases e
    · cases e
theorem same_due {L n rs ys} (hr : rs.length ≤ 1000) (hy : ys.length ≤ 4000) : g_law_same [dueD L n rs ys, dueD L n rs ys] = .ok (.fr (.bl true)) := by
  have h1 := srt_len rs
  have h2 := srtI_len ys
  have h3 := srtS_len (foundS rs)
  have h4 := foundS_len rs
  show sameT 8 (dueD L n rs ys)
  refine same_tup 7 _ (by simp) fun x hx => ?_
  simp only [List.mem_cons, List.not_mem_nil, or_false] at hx
  rcases hx with rfl | rfl | rfl | rfl | rfl | rfl
  · exact same_str 6 _
  · exact same_int 6 _
  · refine same_tup 6 _ (by rw [List.length_map]; omega) fun x hx => ?_
    obtain ⟨r, _, rfl⟩ := List.mem_map.mp hx
    exact same_dt 4 r
  · refine same_tup 6 _ (by rw [List.length_map]; omega) fun x hx => ?_
    obtain ⟨r, _, rfl⟩ := List.mem_map.mp hx
    exact same_int 5 r
  · refine same_tup 6 _ (by rw [List.length_map]; omega) fun x hx => ?_
    obtain ⟨r, _, rfl⟩ := List.mem_map.mp hx
    exact same_str 5 r
  · rcases fgs_cases (srt rs) with e | ⟨r, e⟩
    · rw [e]; exact same_non 6
    · rw [e]
      refine same_tup 6 _ (by simp) fun x hx => ?_
      simp only [List.mem_cons, List.not_mem_nil, or_false] at hx
      rcases hx with rfl | rfl | rfl
      · exact same_int 5 _
      · exact same_str 5 _
      · exact same_str 5 _
def obj (L : Str) (n : Int) (rs : List Rul) (ys : List Int) : D := .obj "Machine" (RV.dF (machF L n rs ys))
theorem fld_letters {L n rs ys} : dFld ["Machine"] "letters" (obj L n rs ys) = .ok (.fr (.str L)) := by rfl
theorem fld_states {L n rs ys} : dFld ["Machine"] "states" (obj L n rs ys) = .ok (.fr (.int n)) := by rfl
theorem fld_rules {L n rs ys} : dFld ["Machine"] "rules" (obj L n rs ys) = .ok (.fr (.tup ((srt rs).map Rul.dt))) := by rfl
theorem fld_yes {L n rs ys} : dFld ["Machine"] "yes" (obj L n rs ys) = .ok (.fr (.tup ((srtI ys).map D.int))) := by rfl
theorem fld_symbols {L n rs ys} : dFld ["Machine"] "symbols" (obj L n rs ys) = .ok (.fr (.tup ((srtS (foundS rs)).map D.str))) := by rfl
theorem fld_guess {L n rs ys} : dFld ["Machine"] "guess" (obj L n rs ys) = .ok (.fr (fgs (srt rs))) := by rfl
theorem fields_ok {L n rs ys} : g_law_fields [obj L n rs ys] = .ok (.fr (dueD L n rs ys)) := by
  unfold g_law_fields runF F_law_fields
  simp [fld_letters, fld_states, fld_rules, fld_yes, fld_symbols, fld_guess]
  rfl
end K00


set_option maxRecDepth 100000
set_option maxHeartbeats 4000000
namespace GM
open PySem DL
theorem flat_rules {n : Nat} : ∀ rs : List Rul, flatDs (n + 1) (rs.map Rul.dt) = true
  | [] => rfl
  | r :: rs => by
    rw [List.map_cons]
    show (flatD (n + 1) r.dt && _) = true
    rw [flat_rules rs]
    have : flatD (n + 1) r.dt = true := by
      unfold Rul.dt
      cases n <;> rfl
    rw [this]; rfl
theorem found_mem {x : Str} {rs : List Rul} : x ∈ foundS rs ↔ x ≠ "" ∧ ∃ r ∈ rs, r.t = x ∨ r.y = x := by
  unfold foundS
  simp only [List.mem_append, List.mem_map, List.mem_filter, Bool.not_eq_true', decide_eq_false_iff_not]
  constructor
  · rintro (⟨r, ⟨h1, h2⟩, rfl⟩ | ⟨r, ⟨h1, h2⟩, rfl⟩)
    · exact ⟨h2, r, h1, .inl rfl⟩
    · exact ⟨h2, r, h1, .inr rfl⟩
  · rintro ⟨h, r, h1, h2 | h2⟩
    · exact .inl ⟨r, ⟨h1, by rw [h2]; exact h⟩, h2⟩
    · exact .inr ⟨r, ⟨h1, by rw [h2]; exact h⟩, h2⟩
end GM
namespace K00
open PySem DL GM
theorem srt_ext {rs qs : List Rul} (h : ∀ z, z ∈ rs ↔ z ∈ qs) : srt rs = srt qs := ssG_ext lin_rul h
theorem srtI_ext {rs qs : List Int} (h : ∀ z, z ∈ rs ↔ z ∈ qs) : srtI rs = srtI qs := ssG_ext lin_int h
theorem srtS_ext {rs qs : List Str} (h : ∀ z, z ∈ rs ↔ z ∈ qs) : srtS rs = srtS qs := ssG_ext lin_str h
theorem due_ok {L : Str} {n : Int} {rs : List Rul} {ys : List Int} (hr : rs.length ≤ 1000) (hy : ys.length ≤ 4000) : g_law_due [.str L, .int n, .lst (rs.map Rul.dt), .lst (ys.map D.int)] = .ok (.fr (dueD L n rs ys)) := by
  have key : ∃ r, g_law_due [.str L, .int n, .lst (rs.map Rul.dt), .lst (ys.map D.int)] = .ok r ∧ r = .fr (dueD L n rs ys) := by
    refine rt_run rfl ?_
    unfold F_law_due
    have o1 := once_rules (d := .lst (rs.map Rul.dt)) (xs := rs) rfl (by unfold SZ; omega)
    have o2 := once_ints (d := .lst (ys.map D.int)) (xs := ys) rfl (by unfold SZ; omega)
    have hsl := srt_len rs
    refine rt_nx (δ' := [some (.fr (.str L)), some (.fr (.int n)), some (.fr (.lst (rs.map Rul.dt))), some (.fr (.lst (ys.map D.int))), some (.ol ((srt rs).map Rul.dt)), none, none, none, none, none, none]) (by simp [o1]) ?_
    have l2 := lc_map (fi := iSeq (getV 2)) (vs := [6]) (bd := gSet 6) (fe := fBin dIxD (getV 6) (cst (.int 2))) (δ := [some (.fr (.str L)), some (.fr (.int n)), some (.fr (.lst (rs.map Rul.dt))), some (.fr (.lst (ys.map D.int))), some (.ol ((srt rs).map Rul.dt)), none, none, none, none, none, none]) Rul.dt (fun r => D.str r.t) rs (by simp) (by unfold SZ; omega) fun r hr => ⟨_, .fr (.str r.t), rfl, by simp [fgtS, Rul.dt], rfl⟩
    have l6 := lc_map (fi := iSeq (getV 2)) (vs := [6]) (bd := gSet 6) (fe := fBin dIxD (getV 6) (cst (.int 6))) (δ := [some (.fr (.str L)), some (.fr (.int n)), some (.fr (.lst (rs.map Rul.dt))), some (.fr (.lst (ys.map D.int))), some (.ol ((srt rs).map Rul.dt)), none, none, none, none, none, none]) Rul.dt (fun r => D.str r.y) rs (by simp) (by unfold SZ; omega) fun r hr => ⟨_, .fr (.str r.y), rfl, by simp [fgtS, Rul.dt], rfl⟩
    have fa : dAdd (.lst (rs.map fun r => D.str r.t)) (.lst (rs.map fun r => D.str r.y)) = .ok (.ol ((rs.map Rul.t ++ rs.map Rul.y).map D.str)) := by
      rw [add_lst (by rw [List.length_map, List.length_map]; unfold SZ; omega), List.map_append, List.map_map, List.map_map]
      rfl
    refine rt_nx (δ' := [some (.fr (.str L)), some (.fr (.int n)), some (.fr (.lst (rs.map Rul.dt))), some (.fr (.lst (ys.map D.int))), some (.ol ((srt rs).map Rul.dt)), some (.ol ((rs.map Rul.t ++ rs.map Rul.y).map D.str)), none, none, none, none, none]) (by
      rw [ev_set, ev_bin, l2, bd_ok, l6, bd_ok, rv_ol, rv_ol, fa]; rfl) ?_
    have l8 := lc_filter (fi := iSeq (getV 5)) (vs := [8]) (bd := gSet 8) (ft := fB (fBin (dEq true) (getV 8) (cst (.str "")))) (fe := getV 8) (δ := [some (.fr (.str L)), some (.fr (.int n)), some (.fr (.lst (rs.map Rul.dt))), some (.fr (.lst (ys.map D.int))), some (.ol ((srt rs).map Rul.dt)), some (.fr (.lst ((rs.map Rul.t ++ rs.map Rul.y).map D.str))), none, none, none, none, none]) D.str D.str (fun x => !decide (x = ("" : Str))) (rs.map Rul.t ++ rs.map Rul.y) (by simp) (by rw [List.length_append, List.length_map, List.length_map]; unfold SZ; omega) fun x hx => ⟨_, rfl, by simp [fgtS, ne_str], fun _ => ⟨.fr (.str x), by simp [fgtS], rfl⟩⟩
    have o3 := once_strs (d := .lst (((rs.map Rul.t ++ rs.map Rul.y).filter fun x => !decide (x = ("" : Str))).map D.str)) (xs := (rs.map Rul.t ++ rs.map Rul.y).filter fun x => !decide (x = ("" : Str))) rfl (by
      have := List.length_filter_le (fun x : Str => !decide (x = ("" : Str))) (rs.map Rul.t ++ rs.map Rul.y)
      rw [List.length_append, List.length_map, List.length_map] at this
      unfold SZ; omega)
    have es : srtS ((rs.map Rul.t ++ rs.map Rul.y).filter fun x => !decide (x = ("" : Str))) = srtS (foundS rs) := srtS_ext fun z => by
      rw [found_mem, List.mem_filter, List.mem_append, List.mem_map, List.mem_map]
      constructor
      · rintro ⟨⟨r, hr, e⟩ | ⟨r, hr, e⟩, h⟩
        · exact ⟨by simpa using h, r, hr, .inl e⟩
        · exact ⟨by simpa using h, r, hr, .inr e⟩
      · rintro ⟨h, r, hr, e | e⟩
        · exact ⟨.inl ⟨r, hr, e⟩, by simpa using h⟩
        · exact ⟨.inr ⟨r, hr, e⟩, by simpa using h⟩
    rw [es] at o3
    refine rt_nx (δ' := [some (.fr (.str L)), some (.fr (.int n)), some (.fr (.lst (rs.map Rul.dt))), some (.fr (.lst (ys.map D.int))), some (.ol ((srt rs).map Rul.dt)), some (.fr (.lst ((rs.map Rul.t ++ rs.map Rul.y).map D.str))), none, some (.ol ((srtS (foundS rs)).map D.str)), none, none, none]) (by
      rw [ev_frz, fz_ol (ds := (rs.map Rul.t ++ rs.map Rul.y).map D.str) rfl]
      show sSet 7 _ [some (.fr (.str L)), some (.fr (.int n)), some (.fr (.lst (rs.map Rul.dt))), some (.fr (.lst (ys.map D.int))), some (.ol ((srt rs).map Rul.dt)), some (.fr (.lst ((rs.map Rul.t ++ rs.map Rul.y).map D.str))), none, none, none, none, none] = _
      rw [ev_set, ev_call, ev_acons, l8, bd_ok, ev_anil, bd_ok, bd_ok, rv_ol, o3]
      rfl) ?_
    refine rt_nx (δ' := [some (.fr (.str L)), some (.fr (.int n)), some (.fr (.lst (rs.map Rul.dt))), some (.fr (.lst (ys.map D.int))), some (.ol ((srt rs).map Rul.dt)), some (.fr (.lst ((rs.map Rul.t ++ rs.map Rul.y).map D.str))), none, some (.ol ((srtS (foundS rs)).map D.str)), none, some (.fr .non), none]) (by simp) ?_
    have rg : rng1 [.int (((srt rs).length : Int) - 1)] = .ok ((List.range ((srt rs).length - 1)).map fun i => D.int (i : Nat)) := by
      have e : (((srt rs).length : Int) - 1).toNat = (srt rs).length - 1 := by omega
      have c : -(2 ^ 62) ≤ ((srt rs).length : Int) - 1 ∧ ((srt rs).length : Int) - 1 < 2 ^ 62 := by omega
      simp only [rng1, if_pos c, e, Int.zero_add]
    have q3 : ∀ δ : DE, pInt (cst (.int 3)) δ = .ok (some 3) := fun _ => rfl
    have c3 : ∀ r : Rul, cutL [DL.D.int r.s, .str r.g, .str r.t, .int r.a, .int r.m, .str r.d, .str r.y, .str r.z] none (some 3) = [.int r.s, .str r.g, .str r.t] := fun r => rfl
    have keq : ∀ a b : Rul, dEq false (.tup [.int a.s, .str a.g, .str a.t]) (.tup [.int b.s, .str b.g, .str b.t]) = .ok (.fr (.bl (decide (a.s = b.s ∧ a.g = b.g ∧ a.t = b.t)))) := fun a b => by
      show R.ok (RV.fr (D.bl ((a.s == b.s) && ((a.g == b.g) && ((a.t == b.t) && true))))) = _
      have e : ((a.s == b.s) && ((a.g == b.g) && ((a.t == b.t) && true))) = decide (a.s = b.s ∧ a.g = b.g ∧ a.t = b.t) := by
        rw [Bool.eq_iff_iff]; simp
      rw [e]
    refine rt_seq (Q := fun δ => δ = [some (.fr (.str L)), some (.fr (.int n)), some (.fr (.lst (rs.map Rul.dt))), some (.fr (.lst (ys.map D.int))), some (.fr (.lst ((srt rs).map Rul.dt))), some (.fr (.lst ((rs.map Rul.t ++ rs.map Rul.y).map D.str))), none, some (.ol ((srtS (foundS rs)).map D.str)), none, some (.fr (fgs (srt rs))), none]) ?_ ?_
    · rw [ev_frz, fz_ol (ds := (srt rs).map Rul.dt) rfl]
      show nxS _ (sFor _ _ _ _ [some (.fr (.str L)), some (.fr (.int n)), some (.fr (.lst (rs.map Rul.dt))), some (.fr (.lst (ys.map D.int))), some (.fr (.lst ((srt rs).map Rul.dt))), some (.fr (.lst ((rs.map Rul.t ++ rs.map Rul.y).map D.str))), none, some (.ol ((srtS (foundS rs)).map D.str)), none, some (.fr .non), none])
      refine wp_for ((List.range ((srt rs).length - 1)).map fun i => D.int (i : Nat)) (fun i δ => δ = [some (.fr (.str L)), some (.fr (.int n)), some (.fr (.lst (rs.map Rul.dt))), some (.fr (.lst (ys.map D.int))), some (.fr (.lst ((srt rs).map Rul.dt))), some (.fr (.lst ((rs.map Rul.t ++ rs.map Rul.y).map D.str))), none, some (.ol ((srtS (foundS rs)).map D.str)), none, some (.fr (((List.range i).findSome? (fgD (srt rs))).getD .non)), none]) (by simp [rg]) rfl ?_ (fun δ' h => by rw [h, List.length_map, List.length_range]; rfl)
      intro i d δ ed h
      subst h
      obtain ⟨hi, rfl⟩ := rng_int (by omega) ed
      obtain ⟨a, ha⟩ : ∃ a, (srt rs)[i]? = some a := ⟨(srt rs)[i], List.getElem?_eq_getElem (by omega)⟩
      obtain ⟨b, hb⟩ : ∃ b, (srt rs)[i + 1]? = some b := ⟨(srt rs)[i + 1], List.getElem?_eq_getElem (by omega)⟩
      have ea : dIxD (.lst ((srt rs).map Rul.dt)) (.int (i : Int)) = .ok (.fr a.dt) := by rw [ixn_lst, List.getElem?_map, ha]; rfl
      have eb : dIxD (.lst ((srt rs).map Rul.dt)) (.int ((i : Int) + 1)) = .ok (.fr b.dt) := by
        have := ixn_lst (ds := (srt rs).map Rul.dt) (n := i + 1)
        rw [show ((i + 1 : Nat) : Int) = (i : Int) + 1 by omega] at this
        rw [this, List.getElem?_map, hb]; rfl
      have fe : fgD (srt rs) i = if a.s = b.s ∧ a.g = b.g ∧ a.t = b.t then some (kd a) else none := by unfold fgD; rw [ha, hb]
      have fs : (List.range (i + 1)).findSome? (fgD (srt rs)) = ((List.range i).findSome? (fgD (srt rs))).or (fgD (srt rs) i) := by
        rw [List.range_succ, List.findSome?_append]
        simp
      rw [fs]
      refine ⟨_, rfl, ?_⟩
      have kk := keq a b
      cases e : (List.range i).findSome? (fgD (srt rs)) with
      | some d =>
        have dk : ∃ r, d = kd r := by
          obtain ⟨j, _, e2⟩ := List.exists_of_findSome?_eq_some e
          unfold fgD at e2
          split at e2
          · split at e2
            · rename_i a b _ _ _
              cases e2
              exact ⟨a, rfl⟩
            · cases e2
          · cases e2
        obtain ⟨r, rfl⟩ := dk
        refine wp_nx (δ' := [some (.fr (.str L)), some (.fr (.int n)), some (.fr (.lst (rs.map Rul.dt))), some (.fr (.lst (ys.map D.int))), some (.fr (.lst ((srt rs).map Rul.dt))), some (.fr (.lst ((rs.map Rul.t ++ rs.map Rul.y).map D.str))), none, some (.ol ((srtS (foundS rs)).map D.str)), none, some (.fr (kd r)), some (.fr (.int (i : Nat)))]) ?_ (wp_nil rfl)
        rw [ev_frz, fz_fr (d := kd r) rfl]
        simp [kd]
      | none =>
        by_cases h : a.s = b.s ∧ a.g = b.g ∧ a.t = b.t
        · rw [fe, if_pos h]
          rw [decide_eq_true h] at kk
          refine wp_nx (δ' := [some (.fr (.str L)), some (.fr (.int n)), some (.fr (.lst (rs.map Rul.dt))), some (.fr (.lst (ys.map D.int))), some (.fr (.lst ((srt rs).map Rul.dt))), some (.fr (.lst ((rs.map Rul.t ++ rs.map Rul.y).map D.str))), none, some (.ol ((srtS (foundS rs)).map D.str)), none, some (.fr (kd a)), some (.fr (.int (i : Nat)))]) ?_ (wp_nil rfl)
          rw [ev_frz, fz_fr (d := .non) rfl]
          simp [ea, eb, q3, Rul.dt, c3, kk, kd]
        · rw [fe, if_neg h]
          rw [decide_eq_false h] at kk
          refine wp_nx (δ' := [some (.fr (.str L)), some (.fr (.int n)), some (.fr (.lst (rs.map Rul.dt))), some (.fr (.lst (ys.map D.int))), some (.fr (.lst ((srt rs).map Rul.dt))), some (.fr (.lst ((rs.map Rul.t ++ rs.map Rul.y).map D.str))), none, some (.ol ((srtS (foundS rs)).map D.str)), none, some (.fr .non), some (.fr (.int (i : Nat)))]) ?_ (wp_nil rfl)
          rw [ev_frz, fz_fr (d := .non) rfl]
          simp [ea, eb, q3, Rul.dt, c3, kk]
    · intro δ' h
      subst h
      refine rt_rt (r := .fr (dueD L n rs ys)) ?_ rfl
      rw [ev_frz, fz_any (r := .ol ((srtS (foundS rs)).map D.str)) rfl, ev_frz, fz_any (r := .fr (fgs (srt rs))) rfl]
      simp [o2]
      rfl
  obtain ⟨r, e, er⟩ := key
  rw [e, er]
end K00


set_option maxRecDepth 100000
set_option maxHeartbeats 4000000
namespace GM
open PySem DL
/-! ### rules as lists -/
def dsR (r : Rul) : List D := [.int r.s, .str r.g, .str r.t, .int r.a, .int r.m, .str r.d, .str r.y, .str r.z]
def fmD (b : Bool) (r : Rul) : D := if b = true then .lst (dsR r) else r.dt
def hsD (rs : List Rul) (bs : List Bool) : List D := (rs.zip bs).map fun p => fmD p.2 p.1
end GM
namespace K00
open PySem DL GM
theorem key_okL (L : Str) (n : Int) (r : Rul) (hL : L.length ≤ 1000) (ht : r.t.length ≤ SZ) : g_is_key [.str L, .int n, .lst [.int r.s, .str r.g, .str r.t]] = .ok (.fr (.bl (keyB L n r))) := by
  unfold g_is_key runF F_is_key keyB
  cases h1 : stB n r.s with
  | false => simp [state_ok, h1]
  | true =>
    by_cases h2 : r.g ∈ signL L
    · by_cases h3 : r.t = ""
      · simp [state_ok, h1, signs_ok L hL, in_strs, h2, eq_str, h3]
      · simp [state_ok, h1, signs_ok L hL, in_strs, h2, eq_str, h3, symbol_ok r.t ht]
    · simp [state_ok, h1, signs_ok L hL, in_strs, h2]
theorem act_okL (n : Int) (r : Rul) (hy : r.y.length ≤ SZ) (hz : r.z.length ≤ SZ) : g_is_act [.int n, .lst [.int r.s, .str r.g, .str r.t], .lst [.int r.a, .int r.m, .str r.d, .str r.y, .str r.z]] = .ok (.fr (.bl (actB n r))) := by
  unfold g_is_act runF F_is_act actB
  have eD : dInD true (.str r.d) (.tup [.str "keep", .str "pop", .str "push", .str "swap"]) = .ok (.fr (.bl (!decide (r.d ∈ deeds)))) := nin_strs (ys := deeds)
  have eP : dInD false (.str r.d) (.tup [.str "pop", .str "swap"]) = .ok (.fr (.bl (decide (r.d ∈ (["pop", "swap"] : List Str))))) := in_strs (ys := ["pop", "swap"])
  have eU : dInD false (.str r.d) (.tup [.str "push", .str "swap"]) = .ok (.fr (.bl (decide (r.d ∈ (["push", "swap"] : List Str))))) := in_strs (ys := ["push", "swap"])
  cases h1 : stB n r.a with
  | false => simp [state_ok, h1]
  | true =>
    by_cases h2 : -1 ≤ r.m
    · by_cases h3 : r.m ≤ 1
      · by_cases h4 : r.g = "<" ∧ r.m = -1
        · simp [state_ok, h1, whole_int, h4, eq_str, eq_int]
        · by_cases h5 : r.g = ">" ∧ r.m = 1
          · simp [state_ok, h1, whole_int, h5, eq_str, eq_int]
          · have t1 : ∀ (q : SR) (q2 : SR), (if r.g = "<" then (if r.m = -1 then q else q2) else q2) = q2 := fun q q2 => by
              by_cases c1 : r.g = "<"
              · by_cases c2 : r.m = -1
                · exact absurd ⟨c1, c2⟩ h4
                · rw [if_pos c1, if_neg c2]
              · rw [if_neg c1]
            by_cases h6 : r.d ∈ deeds
            · cases h7 : saidB r.z with
              | false => 
                have h4' := not_and.mp h4
                have h5' := not_and.mp h5
                by_cases g1 : r.g = "<" <;> by_cases g2 : r.g = ">" <;> simp_all [state_ok, whole_int, eq_str, eq_int, said_ok r.z hz]
              | true =>
                have h4' := not_and.mp h4
                have h5' := not_and.mp h5
                by_cases k1 : r.d = "push" <;> by_cases k2 : r.d = "swap" <;> by_cases k3 : r.d = "pop" <;> by_cases k4 : r.t = "" <;> by_cases g1 : r.g = "<" <;> by_cases g2 : r.g = ">" <;> simp_all [state_ok, whole_int, eq_str, eq_int, said_ok r.z hz, symbol_ok r.y hy]
            · have h4' := not_and.mp h4
              have h5' := not_and.mp h5
              by_cases g1 : r.g = "<" <;> by_cases g2 : r.g = ">" <;> simp_all [state_ok, whole_int, eq_str, eq_int]
      · simp [state_ok, h1, whole_int, h2, h3]
    · simp [state_ok, h1, whole_int, h2]
theorem rule_okL (L : Str) (n : Int) (r : Rul) (hL : L.length ≤ 1000) (ht : r.t.length ≤ SZ) (hy : r.y.length ≤ SZ) (hz : r.z.length ≤ SZ) : g_is_rule [.str L, .int n, .lst (dsR r)] = .ok (.fr (.bl (ruleB L n r))) := by
  unfold g_is_rule runF F_is_rule ruleB dsR
  have k := key_okL L n r hL ht
  have a := act_okL n r hy hz
  have ir : g_is_row [.lst [.int r.s, .str r.g, .str r.t, .int r.a, .int r.m, .str r.d, .str r.y, .str r.z]] = .ok (.fr (.bl true)) := rfl
  have p3 : pInt (cst (.int 3)) [some (.fr (.str L)), some (.fr (.int n)), some (.fr (.lst [.int r.s, .str r.g, .str r.t, .int r.a, .int r.m, .str r.d, .str r.y, .str r.z]))] = .ok (some 3) := rfl
  cases h : keyB L n r with
  | false => simp [ir, ne_int, p3, cut_hd, cut_tl, k, h]
  | true => simp [ir, ne_int, p3, cut_hd, cut_tl, k, h, a]
theorem okR_ruleL {L : Str} {n : Int} {r : Rul} (hL : L.length ≤ 1000) (h : okR L n r) (b : Bool) : g_is_rule [.str L, .int n, fmD b r] = .ok (.fr (.bl true)) := by
  cases b with
  | false => exact okR_rule hL h
  | true =>
    obtain ⟨h1, h2, h3⟩ := okR_len h
    show g_is_rule [.str L, .int n, .lst (dsR r)] = _
    rw [rule_okL L n r hL h1 h2 h3]
    unfold okR at h
    rw [h]
theorem check_okG {L : Str} {n : Int} {hs : List D} {ys : List Int} {d3 d4 : D} (h3 : seqOf d3 hs) (h4 : seqOf d4 (ys.map D.int)) (hL : alB L = true) (hn : 1 ≤ n ∧ n ≤ 2000) (hr : ∀ h ∈ hs, g_is_rule [.str L, .int n, h] = .ok (.fr (.bl true))) (hl : hs.length ≤ 20000) (hy : ∀ y ∈ ys, 0 ≤ y ∧ y < n) :
    g_check_machine [.str L, .int n, d3, d4] = .ok (.fr .non) := by
  obtain ⟨h1, h2⟩ := al_len hL
  have lp := forL_all (F := sSeq (sIf (bNot (fT (fCall (g_is_rule) (aCons (getV 0) (aCons (getV 1) (aCons (getV 5) aNil)))))) (sSeq (sRaise "BadMachine" ["where"] (aCons (getV 4) aNil)) sNil) sNil) sNil) (bd := gTLD [4, 5]) (fg := [4, 5])
    [some (.fr (.str L)), some (.fr (.int n)), some (.fr d3), some (.fr d4), none, none, none] (enumD hs) (fun d hd => by
      obtain ⟨i, x, rfl, e⟩ := enum_mem hd
      have := hr x (List.mem_of_getElem? e)
      exact ⟨_, [some (.fr (.str L)), some (.fr (.int n)), some (.fr d3), some (.fr d4), some (.fr (.int (i : Nat))), some (.fr x), none], rfl, by simp [this], rfl⟩)
  have ly := forL_all (F := sSeq (sIf (bNot (fT (fCall (g_is_state) (aCons (getV 1) (aCons (getV 6) aNil))))) (sSeq (sRaise "BadMachine" ["where"] (aCons (cst (.str "yes")) aNil)) sNil) sNil) sNil) (bd := gSet 6) (fg := [6])
    [some (.fr (.str L)), some (.fr (.int n)), some (.fr d3), some (.fr d4), none, none, none] (ys.map D.int) (fun d hd => by
      obtain ⟨y, hy', rfl⟩ := List.mem_map.mp hd
      obtain ⟨a, b⟩ := hy y hy'
      refine ⟨_, [some (.fr (.str L)), some (.fr (.int n)), some (.fr d3), some (.fr d4), none, none, some (.fr (.int y))], rfl, ?_, rfl⟩
      have e : stB n y = true := by unfold stB; rw [decide_eq_true a, decide_eq_true b]; rfl
      simp [state_ok, e])
  have en : enA [d3] = .ok (enumD hs) := by rcases h3 with rfl | rfl <;> rfl
  have ls : seqD d4 = .ok (ys.map D.int) := by rcases h4 with rfl | rfl <;> rfl
  have l3 : dLen [d3] = .ok (.fr (.int hs.length)) := by rcases h3 with rfl | rfl <;> rfl
  have g1 : ¬ (20000 : Int) < (hs.length : Int) := by omega
  unfold g_check_machine runF F_check_machine
  simp [alB_ok hL, whole_int, hn.1, hn.2, g1, en, lp, ly, ls, l3]
theorem frz_form (n : Nat) (r : Rul) (b : Bool) : fuelF FZ (n + 2) [fmD b r] = .ok (.fr r.dt) := by
  cases b with
  | false => exact frz_rule n r
  | true =>
    refine frz_seq (n + 1) (d := .lst (dsR r)) (.inl rfl) rfl (by simp [dsR, SZ]) fun i a b e1 e2 => ?_
    rw [show dsR r = [.int r.s, .str r.g, .str r.t, .int r.a, .int r.m, .str r.d, .str r.y, .str r.z] from rfl] at e1
    rw [e1] at e2
    cases e2
    rcases i with _ | _ | _ | _ | _ | _ | _ | _ | i <;> first | (cases e1; exact frz_int n _) | (cases e1; exact frz_str n _) | (simp at e1)
theorem zip_len {rs : List Rul} {bs : List Bool} (hb : rs.length ≤ bs.length) : (hsD rs bs).length = rs.length := by
  unfold hsD
  rw [List.length_map, List.length_zip]
  omega
theorem hs_at {rs : List Rul} {bs : List Bool} (hb : rs.length ≤ bs.length) {i : Nat} {a : D} (h : (hsD rs bs)[i]? = some a) : ∃ r b, rs[i]? = some r ∧ bs[i]? = some b ∧ a = fmD b r := by
  unfold hsD at h
  rw [List.getElem?_map] at h
  cases e : (rs.zip bs)[i]? with
  | none => rw [e] at h; cases h
  | some p =>
    rw [e] at h
    cases h
    obtain ⟨h1, h2⟩ := List.getElem?_zip_eq_some.mp e
    exact ⟨p.1, p.2, h1, h2, rfl⟩
theorem frozen_forms {d : D} (rs : List Rul) (bs : List Bool) (hb : rs.length ≤ bs.length) (hd : seqOf d (hsD rs bs)) (hl : rs.length ≤ SZ) : g_frozen [d] = .ok (.fr (.tup (rs.map Rul.dt))) := by
  refine frz_seq 7 hd (by rw [zip_len hb, List.length_map]) (by rw [zip_len hb]; exact hl) fun i a b e1 e2 => ?_
  obtain ⟨r, bb, h1, h2, rfl⟩ := hs_at hb e1
  rw [List.getElem?_map, h1] at e2
  cases e2
  exact frz_form 5 r bb
theorem machine_newG {L : Str} {n : Int} {rs : List Rul} {ys : List Int} {d3 d4 : D} (hl : rs.length < 2000) (hyl : ys.length < 4000) (ck : g_check_machine [.str L, .int n, d3, d4] = .ok (.fr .non)) (fz : g_frozen [d3] = .ok (.fr (.tup (rs.map Rul.dt)))) (s2 : dSS d4 = .ok (.ol ((srtI ys).map D.int))) :
    m_Machine [.str L, .int n, d3, d4] = .ok (.oo none "Machine" (machF L n rs ys)) := by
  refine mkI_of fun x => self_of rfl ?_
  have s1 := dSS_rules rs (by omega)
  have hfl := foundS_len rs
  have s3 := dSS_strs (foundS rs) (by omega)
  have hsl := srt_len rs
  have gs := guess_ok (srt rs) (by omega)
  unfold F_Machine_init
  refine wp_nx (δ' := [some (.oo (some x) "Machine" []), some (.fr (.str L)), some (.fr (.int n)), some (.fr d3), some (.fr d4), none, none, none, none, none]) (by simp [ck]) ?_
  refine wp_nx (δ' := [some (.oo (some x) "Machine" []), some (.fr (.str L)), some (.fr (.int n)), some (.fr d3), some (.fr d4), some (.fr (.tup (rs.map Rul.dt))), none, none, none, none]) (by simp [fz]) ?_
  refine wp_nx (δ' := [some (.oo (some x) "Machine" [("letters", .fr (.str L))]), some (.fr (.str L)), some (.fr (.int n)), some (.fr d3), some (.fr d4), some (.fr (.tup (rs.map Rul.dt))), none, none, none, none]) (fld_new [] (r := .fr (.str L)) (fs := []) (by simp) rfl rfl) ?_
  refine wp_nx (δ' := [some (.oo (some x) "Machine" [("letters", .fr (.str L)), ("states", .fr (.int n))]), some (.fr (.str L)), some (.fr (.int n)), some (.fr d3), some (.fr d4), some (.fr (.tup (rs.map Rul.dt))), none, none, none, none]) (fld_new ["letters"] (r := .fr (.int n)) (fs := [("letters", .fr (.str L))]) (by simp) rfl rfl) ?_
  refine wp_nx (δ' := [some (.oo (some x) "Machine" [("letters", .fr (.str L)), ("states", .fr (.int n)), ("rules", .fr (.tup ((srt rs).map Rul.dt)))]), some (.fr (.str L)), some (.fr (.int n)), some (.fr d3), some (.fr d4), some (.fr (.tup (rs.map Rul.dt))), none, none, none, none]) (by
    rw [ev_frz, fz_any (r := .fr (.tup (rs.map Rul.dt))) rfl]
    exact fld_new ["letters", "states"] (r := .fr (.tup ((srt rs).map Rul.dt))) (fs := [("letters", .fr (.str L)), ("states", .fr (.int n))]) (by simp [s1]) rfl rfl) ?_
  refine wp_nx (δ' := [some (.oo (some x) "Machine" [("letters", .fr (.str L)), ("states", .fr (.int n)), ("rules", .fr (.tup ((srt rs).map Rul.dt))), ("yes", .fr (.tup ((srtI ys).map D.int)))]), some (.fr (.str L)), some (.fr (.int n)), some (.fr d3), some (.fr d4), some (.fr (.tup (rs.map Rul.dt))), none, none, none, none]) (fld_new ["letters", "states", "rules"] (r := .fr (.tup ((srtI ys).map D.int))) (fs := [("letters", .fr (.str L)), ("states", .fr (.int n)), ("rules", .fr (.tup ((srt rs).map Rul.dt)))]) (by simp [s2]) rfl rfl) ?_
  have lc2 := lc_ok (fi := iSeq (getV 5)) (vs := [7]) (bd := gSet 7) (ft := (fB (fBin (dEq true) (fBin dIxD (getV 7) (cst (.int 2))) (cst (.str ""))))) (fe := (fBin dIxD (getV 7) (cst (.int 2)))) (δ := [some (.oo (some x) "Machine" [("letters", .fr (.str L)), ("states", .fr (.int n)), ("rules", .fr (.tup ((srt rs).map Rul.dt))), ("yes", .fr (.tup ((srtI ys).map D.int)))]), some (.fr (.str L)), some (.fr (.int n)), some (.fr d3), some (.fr d4), some (.fr (.tup (rs.map Rul.dt))), none, none, none, none]) (ds := rs.map Rul.dt) (es := (rs.filter fun r => !decide (r.t = ("" : Str))).map fun r => D.str r.t) (by simp) (comp_filter Rul.dt (fun r => D.str r.t) (fun r => !decide (r.t = ("" : Str))) rs fun r _ => ⟨_, rfl, by simp [fgtS, Rul.dt, ne_str], fun _ => ⟨.fr (.str r.t), by simp [fgtS, Rul.dt], rfl⟩⟩) (by
    rw [List.length_map]
    have := List.length_filter_le (fun r : Rul => !decide (r.t = ("" : Str))) rs
    unfold SZ; omega)
  have lc6 := lc_ok (fi := iSeq (getV 5)) (vs := [7]) (bd := gSet 7) (ft := (fB (fBin (dEq true) (fBin dIxD (getV 7) (cst (.int 6))) (cst (.str ""))))) (fe := (fBin dIxD (getV 7) (cst (.int 6)))) (δ := [some (.oo (some x) "Machine" [("letters", .fr (.str L)), ("states", .fr (.int n)), ("rules", .fr (.tup ((srt rs).map Rul.dt))), ("yes", .fr (.tup ((srtI ys).map D.int)))]), some (.fr (.str L)), some (.fr (.int n)), some (.fr d3), some (.fr d4), some (.fr (.tup (rs.map Rul.dt))), none, none, none, none]) (ds := rs.map Rul.dt) (es := (rs.filter fun r => !decide (r.y = ("" : Str))).map fun r => D.str r.y) (by simp) (comp_filter Rul.dt (fun r => D.str r.y) (fun r => !decide (r.y = ("" : Str))) rs fun r _ => ⟨_, rfl, by simp [fgtS, Rul.dt, ne_str], fun _ => ⟨.fr (.str r.y), by simp [fgtS, Rul.dt], rfl⟩⟩) (by
    rw [List.length_map]
    have := List.length_filter_le (fun r : Rul => !decide (r.y = ("" : Str))) rs
    unfold SZ; omega)
  have fa : dAdd (.lst ((rs.filter fun r => !decide (r.t = ("" : Str))).map fun r => D.str r.t)) (.lst ((rs.filter fun r => !decide (r.y = ("" : Str))).map fun r => D.str r.y)) = .ok (.ol ((foundS rs).map D.str)) := by
    rw [add_lst]
    · unfold foundS
      rw [List.map_append, List.map_map, List.map_map]; rfl
    · rw [List.length_map, List.length_map]
      have h1 := List.length_filter_le (fun r : Rul => !decide (r.t = ("" : Str))) rs
      have h2 := List.length_filter_le (fun r : Rul => !decide (r.y = ("" : Str))) rs
      unfold SZ; omega
  refine wp_nx (δ' := [some (.oo (some x) "Machine" [("letters", .fr (.str L)), ("states", .fr (.int n)), ("rules", .fr (.tup ((srt rs).map Rul.dt))), ("yes", .fr (.tup ((srtI ys).map D.int)))]), some (.fr (.str L)), some (.fr (.int n)), some (.fr d3), some (.fr d4), some (.fr (.tup (rs.map Rul.dt))), some (.ol ((foundS rs).map D.str)), none, none, none]) (by
    rw [ev_set, ev_bin, lc2, bd_ok, lc6, bd_ok, rv_ol, rv_ol, fa]; rfl) ?_
  refine wp_nx (δ' := [some (.oo (some x) "Machine" [("letters", .fr (.str L)), ("states", .fr (.int n)), ("rules", .fr (.tup ((srt rs).map Rul.dt))), ("yes", .fr (.tup ((srtI ys).map D.int))), ("symbols", .fr (.tup ((srtS (foundS rs)).map D.str)))]), some (.fr (.str L)), some (.fr (.int n)), some (.fr d3), some (.fr d4), some (.fr (.tup (rs.map Rul.dt))), some (.fr (.lst ((foundS rs).map D.str))), none, none, none]) (by
    rw [ev_frz, fz_any (r := .ol ((foundS rs).map D.str)) rfl]
    exact fld_new ["letters", "states", "rules", "yes"] (r := .fr (.tup ((srtS (foundS rs)).map D.str))) (fs := [("letters", .fr (.str L)), ("states", .fr (.int n)), ("rules", .fr (.tup ((srt rs).map Rul.dt))), ("yes", .fr (.tup ((srtI ys).map D.int)))]) (by simp [s3]) rfl rfl) ?_
  have hk : fDc (iSeq (fOwnF ["Machine"] "symbols" 0)) [8] (gSet 8) bYes (getV 8) (cst (.bl true)) [some (.oo (some x) "Machine" [("letters", .fr (.str L)), ("states", .fr (.int n)), ("rules", .fr (.tup ((srt rs).map Rul.dt))), ("yes", .fr (.tup ((srtI ys).map D.int))), ("symbols", .fr (.tup ((srtS (foundS rs)).map D.str)))]), some (.fr (.str L)), some (.fr (.int n)), some (.fr d3), some (.fr d4), some (.fr (.tup (rs.map Rul.dt))), some (.fr (.lst ((foundS rs).map D.str))), none, none, none] = .ok (.od false (knD (srtS (foundS rs)))) := by
    have o : fOwnF ["Machine"] "symbols" 0 [some (.oo (some x) "Machine" [("letters", .fr (.str L)), ("states", .fr (.int n)), ("rules", .fr (.tup ((srt rs).map Rul.dt))), ("yes", .fr (.tup ((srtI ys).map D.int))), ("symbols", .fr (.tup ((srtS (foundS rs)).map D.str)))]), some (.fr (.str L)), some (.fr (.int n)), some (.fr d3), some (.fr d4), some (.fr (.tup (rs.map Rul.dt))), some (.fr (.lst ((foundS rs).map D.str))), none, none, none] = .ok (.fr (.tup ((srtS (foundS rs)).map D.str))) := own_fld (fs := [("letters", .fr (.str L)), ("states", .fr (.int n)), ("rules", .fr (.tup ((srt rs).map Rul.dt))), ("yes", .fr (.tup ((srtI ys).map D.int))), ("symbols", .fr (.tup ((srtS (foundS rs)).map D.str)))]) rfl (by rfl)
    have hsn := srtS_nodup (foundS rs)
    have hsl := srtS_len (foundS rs)
    have dc := dc_known (δ := fgtS [8] [some (.oo (some x) "Machine" [("letters", .fr (.str L)), ("states", .fr (.int n)), ("rules", .fr (.tup ((srt rs).map Rul.dt))), ("yes", .fr (.tup ((srtI ys).map D.int))), ("symbols", .fr (.tup ((srtS (foundS rs)).map D.str)))]), some (.fr (.str L)), some (.fr (.int n)), some (.fr d3), some (.fr d4), some (.fr (.tup (rs.map Rul.dt))), some (.fr (.lst ((foundS rs).map D.str))), none, none, none]) (srtS (foundS rs)) [] (by simp [fgtS]) (by simpa using hsn) (by simp; unfold SZ; omega)
    unfold fDc
    rw [ev_iseq, o, bd_ok, rv_fr, seq_tup, bd_ok]
    have e0 : knD [] = [] := rfl
    rw [e0] at dc
    rw [dc]
    rfl
  refine wp_nx (δ' := [some (.oo (some x) "Machine" [("letters", .fr (.str L)), ("states", .fr (.int n)), ("rules", .fr (.tup ((srt rs).map Rul.dt))), ("yes", .fr (.tup ((srtI ys).map D.int))), ("symbols", .fr (.tup ((srtS (foundS rs)).map D.str))), ("known_symbols", .od false (knD (srtS (foundS rs))))]), some (.fr (.str L)), some (.fr (.int n)), some (.fr d3), some (.fr d4), some (.fr (.tup (rs.map Rul.dt))), some (.fr (.lst ((foundS rs).map D.str))), none, none, none]) (fld_new ["letters", "states", "rules", "yes", "symbols"] (r := .od false (knD (srtS (foundS rs)))) (fs := [("letters", .fr (.str L)), ("states", .fr (.int n)), ("rules", .fr (.tup ((srt rs).map Rul.dt))), ("yes", .fr (.tup ((srtI ys).map D.int))), ("symbols", .fr (.tup ((srtS (foundS rs)).map D.str)))]) hk rfl rfl) ?_
  have orr : ∀ fs : List (Str × RV), fs.lookup ("rules" : Str) = some (RV.fr (.tup ((srt rs).map Rul.dt))) → ∀ s5 s6 s7 s8 s9, fOwnF ["Machine"] "rules" 0 [some (.oo (some x) "Machine" fs), some (.fr (.str L)), some (.fr (.int n)), some (.fr d3), some (.fr d4), s5, s6, s7, s8, s9] = .ok (.fr (.tup ((srt rs).map Rul.dt))) := fun fs h s5 s6 s7 s8 s9 => own_fld (fs := fs) rfl h
  refine wp_nx (δ' := [some (.oo (some x) "Machine" [("letters", .fr (.str L)), ("states", .fr (.int n)), ("rules", .fr (.tup ((srt rs).map Rul.dt))), ("yes", .fr (.tup ((srtI ys).map D.int))), ("symbols", .fr (.tup ((srtS (foundS rs)).map D.str))), ("known_symbols", .od false (knD (srtS (foundS rs)))), ("guess", .fr (fgs (srt rs)))]), some (.fr (.str L)), some (.fr (.int n)), some (.fr d3), some (.fr d4), some (.fr (.tup (rs.map Rul.dt))), some (.fr (.lst ((foundS rs).map D.str))), none, none, none]) (fld_new ["letters", "states", "rules", "yes", "symbols", "known_symbols"] (r := .fr (fgs (srt rs))) (fs := [("letters", .fr (.str L)), ("states", .fr (.int n)), ("rules", .fr (.tup ((srt rs).map Rul.dt))), ("yes", .fr (.tup ((srtI ys).map D.int))), ("symbols", .fr (.tup ((srtS (foundS rs)).map D.str))), ("known_symbols", .od false (knD (srtS (foundS rs))))]) (by rw [ev_call, ev_acons, orr _ (by rfl)]; simp [gs]) rfl rfl) ?_
  refine wp_nx (δ' := [some (.oo (some x) "Machine" [("letters", .fr (.str L)), ("states", .fr (.int n)), ("rules", .fr (.tup ((srt rs).map Rul.dt))), ("yes", .fr (.tup ((srtI ys).map D.int))), ("symbols", .fr (.tup ((srtS (foundS rs)).map D.str))), ("known_symbols", .od false (knD (srtS (foundS rs)))), ("guess", .fr (fgs (srt rs)))]), some (.fr (.str L)), some (.fr (.int n)), some (.fr d3), some (.fr d4), some (.fr (.tup (rs.map Rul.dt))), some (.fr (.lst ((foundS rs).map D.str))), none, none, some (.od false [])]) (by simp) ?_
  refine wp_seq2 (wp_for (P := fun δ => ∃ r7 t, δ = [some (.oo (some x) "Machine" [("letters", .fr (.str L)), ("states", .fr (.int n)), ("rules", .fr (.tup ((srt rs).map Rul.dt))), ("yes", .fr (.tup ((srtI ys).map D.int))), ("symbols", .fr (.tup ((srtS (foundS rs)).map D.str))), ("known_symbols", .od false (knD (srtS (foundS rs)))), ("guess", .fr (fgs (srt rs)))]), some (.fr (.str L)), some (.fr (.int n)), some (.fr d3), some (.fr d4), some (.fr (.tup (rs.map Rul.dt))), some (.fr (.lst ((foundS rs).map D.str))), r7, none, some (.od t (tbl (srt rs)))]) ((srt rs).map Rul.dt) (fun i δ => ∃ r7 t, δ = [some (.oo (some x) "Machine" [("letters", .fr (.str L)), ("states", .fr (.int n)), ("rules", .fr (.tup ((srt rs).map Rul.dt))), ("yes", .fr (.tup ((srtI ys).map D.int))), ("symbols", .fr (.tup ((srtS (foundS rs)).map D.str))), ("known_symbols", .od false (knD (srtS (foundS rs)))), ("guess", .fr (fgs (srt rs)))]), some (.fr (.str L)), some (.fr (.int n)), some (.fr d3), some (.fr d4), some (.fr (.tup (rs.map Rul.dt))), some (.fr (.lst ((foundS rs).map D.str))), r7, none, some (.od t (tbl ((srt rs).take i)))]) (by rw [ev_iseq, orr _ (by rfl)]; simp) ⟨none, false, rfl⟩ ?_ (fun δ' ⟨r7, t, h⟩ => ⟨r7, t, by rw [h, List.length_map, List.take_length]⟩)) ?_
  · intro i d δ ed ⟨r7, t, h⟩
    subst h
    rw [List.getElem?_map] at ed
    cases er : (srt rs)[i]? with
    | none => rw [er] at ed; cases ed
    | some r =>
      rw [er] at ed
      cases ed
      have hi : i < (srt rs).length := by
        rcases Nat.lt_or_ge i (srt rs).length with h | h
        · exact h
        · rw [List.getElem?_eq_none h] at er; cases er
      have tb := tbl_TB ((srt rs).take i)
      have htl : ((srt rs).take i).length ≤ i := List.length_take_le _ _
      have tk : tbl ((srt rs).take (i + 1)) = tbStep (tbl ((srt rs).take i)) r := by
        rw [List.take_succ, er]
        unfold tbl
        rw [List.foldl_append]; rfl
      obtain ⟨l1, l2, l3⟩ := tb.look (kk r)
      have c3 : cutL [DL.D.int r.s, .str r.g, .str r.t, .int r.a, .int r.m, .str r.d, .str r.y, .str r.z] none (some 3) = [.int r.s, .str r.g, .str r.t] := rfl
      have c4 : cutL [DL.D.int r.s, .str r.g, .str r.t, .int r.a, .int r.m, .str r.d, .str r.y, .str r.z] (some 3) none = [.int r.a, .int r.m, .str r.d, .str r.y, .str r.z] := rfl
      have q3 : ∀ δ : DE, pInt (cst (.int 3)) δ = .ok (some 3) := fun _ => rfl
      generalize tbl ((srt rs).take i) = T at tb tk l1 l2 l3 ⊢
      have key : ∀ δ : DE, δ[7]? = some (some (.fr r.dt)) → fSl (getV 7) pNone (pInt (cst (.int 3))) δ = .ok (.fr (kd r)) := fun δ h => by
        have g7 : getV 7 δ = .ok (.fr r.dt) := gv_fr h
        rw [ev_sl, g7, bd_ok, ev_pnone, bd_ok, q3, bd_ok, rv_fr]
        show dSl (.tup _) _ _ = _
        rw [sl_tup, c3]; rfl
      have act : ∀ δ : DE, δ[7]? = some (some (.fr r.dt)) → fSl (getV 7) (pInt (cst (.int 3))) pNone δ = .ok (.fr (adT r)) := fun δ h => by
        have g7 : getV 7 δ = .ok (.fr r.dt) := gv_fr h
        rw [ev_sl, g7, bd_ok, q3, bd_ok, ev_pnone, bd_ok, rv_fr]
        show dSl (.tup _) _ _ = _
        rw [sl_tup, c4]; rfl
      have get : ∀ δ : DE, δ[7]? = some (some (.fr r.dt)) → δ[9]? = some (some (.fr (.dct T))) → fGet2 (getV 9) (fSl (getV 7) pNone (pInt (cst (.int 3)))) (fTup 0 aNil) δ = .ok (.fr (.tup (tpl (lookD T (kk r))))) := fun δ h h9 => by
        have g9 : getV 9 δ = .ok (.fr (.dct T)) := gv_fr h9
        unfold fGet2
        rw [g9, bd_ok, rv_fr]
        show (if true = true then _ else _) = _
        rw [if_pos rfl, key δ h, bd_ok, rv_fr, ev_tup, ev_anil, bd_ok, bd_ok, rv_fr]
        unfold dGet2
        simp only [kk_of]
        rw [if_pos (show kindOk T (kk r) = true from tb.kind), l1]
      have ad2 : dAdd (.tup (tpl (lookD T (kk r)))) (.tup [adT r]) = .ok (.fr (.tup (tpl (lookD T (kk r)) ++ [adT r]))) := add_tup (by unfold SZ; simp only [List.length_cons, List.length_nil]; omega)
      have val : ∀ δ : DE, δ[7]? = some (some (.fr r.dt)) → δ[9]? = some (some (.fr (.dct T))) → fBin dAdd (fGet2 (getV 9) (fSl (getV 7) pNone (pInt (cst (.int 3)))) (fTup 0 aNil)) (fTup 1 (aCons (fSl (getV 7) (pInt (cst (.int 3))) pNone) aNil)) δ = .ok (.fr (.tup (tpl (lookD T (kk r)) ++ [adT r]))) := fun δ h h9 => by
        rw [ev_bin, get δ h h9, bd_ok, ev_tup, ev_acons, act δ h, bd_ok, ev_anil, bd_ok, bd_ok, bd_ok, rv_fr, rv_fr, rv_fr, ad2]
      have hT := tb.len
      refine ⟨_, rfl, wp_nx (put_at (t := t) (kvs := T) (k := kk r) (view_fr (val _ rfl rfl) fun q => safe_app (l3 q) rfl) rfl (key _ rfl) (kk_of r) tb.kind (by unfold SZ; omega)) (wp_nil ⟨some (.fr r.dt), true, by rw [tk]; rfl⟩)⟩
  · intro δ' ⟨r7, t, h⟩
    subst h
    refine wp_nx (δ' := [some (.oo (some x) "Machine" [("letters", .fr (.str L)), ("states", .fr (.int n)), ("rules", .fr (.tup ((srt rs).map Rul.dt))), ("yes", .fr (.tup ((srtI ys).map D.int))), ("symbols", .fr (.tup ((srtS (foundS rs)).map D.str))), ("known_symbols", .od false (knD (srtS (foundS rs)))), ("guess", .fr (fgs (srt rs))), ("_table", .fr (.dct (tbl (srt rs))))]), some (.fr (.str L)), some (.fr (.int n)), some (.fr d3), some (.fr d4), some (.fr (.tup (rs.map Rul.dt))), some (.fr (.lst ((foundS rs).map D.str))), r7, none, some (.fr (.dct (tbl (srt rs))))]) (by
      rw [ev_frz, fz_any (r := .od t (tbl (srt rs))) rfl]
      exact fld_new ["letters", "states", "rules", "yes", "symbols", "known_symbols", "guess"] (r := .fr (.dct (tbl (srt rs)))) (fs := [("letters", .fr (.str L)), ("states", .fr (.int n)), ("rules", .fr (.tup ((srt rs).map Rul.dt))), ("yes", .fr (.tup ((srtI ys).map D.int))), ("symbols", .fr (.tup ((srtS (foundS rs)).map D.str))), ("known_symbols", .od false (knD (srtS (foundS rs)))), ("guess", .fr (fgs (srt rs)))]) (by simp) rfl rfl) (wp_nil rfl)
theorem machine_forms {L : Str} {n : Int} {rs : List Rul} {bs : List Bool} {ys : List Int} {d3 d4 : D} (hb : rs.length ≤ bs.length) (h3 : seqOf d3 (hsD rs bs)) (h4 : seqOf d4 (ys.map D.int)) (hL : alB L = true) (hn : 1 ≤ n ∧ n ≤ 2000) (hr : ∀ r ∈ rs, okR L n r) (hl : rs.length < 2000) (hy : ∀ y ∈ ys, 0 ≤ y ∧ y < n) (hyl : ys.length < 4000) :
    m_Machine [.str L, .int n, d3, d4] = .ok (.oo none "Machine" (machF L n rs ys)) := by
  refine machine_newG hl hyl (check_okG h3 h4 hL hn (fun h hh => ?_) (by rw [zip_len hb]; omega) hy) (frozen_forms rs bs hb h3 (by unfold SZ; omega)) ?_
  · obtain ⟨i, hi⟩ := List.mem_iff_getElem?.mp hh
    obtain ⟨r, b, h1, h2, rfl⟩ := hs_at hb hi
    exact okR_ruleL (by have := (al_len hL).2; omega) (hr r (List.mem_of_getElem? h1)) b
  · rcases h4 with rfl | rfl
    · exact dSS_ints ys (by omega)
    · exact dSS_intsT ys (by omega)
end K00


set_option maxRecDepth 100000
set_option maxHeartbeats 8000000
namespace GM
open PySem DL
/-! ### lists handed in -/
def fmR (b : Bool) (r : Rul) : RV := if b = true then .ol (dsR r) else .fr r.dt
theorem fmR_d (b : Bool) (r : Rul) : (fmR b r).d = fmD b r := by cases b <;> rfl
def hR (rs : List Rul) (bs : List Bool) : List RV := (rs.zip bs).map fun p => fmR p.2 p.1
theorem dL_map : ∀ xs : List RV, RV.dL xs = xs.map RV.d
  | [] => rfl
  | x :: xs => by show x.d :: RV.dL xs = _; rw [dL_map xs]; rfl
theorem hR_d (rs : List Rul) (bs : List Bool) : (RV.ot (hR rs bs)).d = .lst (hsD rs bs) := by
  show D.lst (RV.dL _) = _
  rw [dL_map]
  unfold hR hsD
  rw [List.map_map]
  congr 1
  exact List.map_congr_left fun p _ => fmR_d _ _
theorem hR_no (rs : List Rul) (bs : List Bool) : hasDL (hR rs bs) = false ∧ hasOL (hR rs bs) = false := by
  unfold hR
  generalize rs.zip bs = zs
  induction zs with
  | nil => exact ⟨rfl, rfl⟩
  | cons p zs ih =>
    rw [List.map_cons]
    have e1 : hasD (fmR p.2 p.1) = false := by cases p.2 <;> rfl
    have e2 : hasO (fmR p.2 p.1) = false := by cases p.2 <;> rfl
    exact ⟨by show (hasD _ || hasDL _) = false; rw [e1, ih.1]; rfl, by show (hasO _ || hasOL _) = false; rw [e2, ih.2]; rfl⟩
theorem safe_all {α : Type} {q : Bool × Bool} (f : α → D) (h : ∀ x, safeD q (f x) = true) : ∀ xs : List α, safeDs q (xs.map f) = true
  | [] => rfl
  | x :: xs => by
    rw [List.map_cons]
    show (safeD q (f x) && safeDs q (xs.map f)) = true
    rw [h, safe_all f h xs]; rfl
theorem safe_kn {q : Bool × Bool} : ∀ ss : List Str, safeKs q (knD ss) = true
  | [] => rfl
  | x :: xs => by
    show (safeD q (.bl true) && safeKs q (knD xs)) = true
    rw [safe_kn xs]; rfl
theorem safe_tb {n : Nat} {tb : List (D × D)} (h : ∀ p ∈ tb, ∃ xs, p.2 = .tup xs ∧ xs.length ≤ n ∧ ∀ q, safeDs q xs = true) (q : Bool × Bool) : safeKs q tb = true := by
  induction tb with
  | nil => rfl
  | cons p tb ih =>
    obtain ⟨xs, e, _, hs⟩ := h p List.mem_cons_self
    show (safeD q p.2 && safeKs q tb) = true
    rw [e, ih fun p hp => h p (List.mem_cons_of_mem _ hp)]
    show (safeDs q xs && true) = true
    rw [hs]; rfl
theorem comp_mapO {δ : DE} {β : Type} {bd : D → DE → Option DE} {fe : DE → R RV} (g : β → D) (k : β → RV) : ∀ xs : List β, (∀ b ∈ xs, ∃ δ1, bd (g b) δ = some δ1 ∧ fe δ1 = .ok (k b)) → compLO bd bYes fe δ (xs.map g) = .ok (xs.map k)
  | [], _ => rfl
  | b :: xs, h => by
    obtain ⟨δ1, e1, e2⟩ := h b List.mem_cons_self
    have ih := comp_mapO g k xs fun b hb => h b (List.mem_cons_of_mem _ hb)
    rw [List.map_cons, compLO]
    simp only [e1, ev_yes, if_true, e2, ih]
    rfl
theorem lcO_map {δ : DE} {β : Type} {fi : DE → R (List D)} {vs : List Nat} {bd : D → DE → Option DE} {fe : DE → R RV} (g : β → D) (k : β → RV) (xs : List β) (h1 : fi δ = .ok (xs.map g)) (hl : xs.length ≤ SZ) (h : ∀ b ∈ xs, ∃ δ1, bd (g b) (fgtS vs δ) = some δ1 ∧ fe δ1 = .ok (k b)) : fLcO fi vs bd bYes fe δ = .ok (.ot (xs.map k)) := by
  unfold fLcO
  rw [h1, bd_ok, comp_mapO g k xs h]
  simp only [List.length_map, hl, if_true]
theorem view_fr' {f : DE → R RV} {δ : DE} {d : D} (e : f (frzAll δ) = .ok (.fr d)) (hs : safeD (hasDict δ) d = true) : fView f δ = .ok (.fr d) := by
  unfold fView
  rw [e]
  simp only
  rw [if_pos hs]
theorem bview_ok {f : DE → R Bool} {δ δ' : DE} {b : Bool} (e : frzAll δ = δ') (h : f δ' = .ok b) : bView f δ = .ok b := by
  unfold bView
  rw [e, h]
theorem bor_no {a b : DE → R Bool} {δ : DE} (h : a δ = .ok false) (h' : b δ = .ok false) : bOr a b δ = .ok false := by
  rw [ev_bOr, h, bd_ok, if_neg (by decide), h']
theorem puta_ok {i c kk : Nat} {fv : DE → R RV} {δ : DE} {r : RV} {ts : List RV} {ds : List D} (e : fv δ = .ok r) (h0 : δ[i]? = some (some (.ot ts))) (ht : ts[kk]? = some (.ol ds)) (hc : c < ds.length) : sPutA i c fv kk δ = .nx (δ.set i (some (.ot (ts.set kk (.ol (ds.set c r.d)))))) := by
  unfold sPutA
  rw [e, lf_ok]
  unfold putA
  rw [h0]
  simp only
  rw [ht]
  simp only
  rw [if_pos hc]
end GM
namespace K00
open PySem DL GM
theorem safe_obj {L n rs ys} : safeD (false, false) (obj L n rs ys) = true := by
  have r1 : ∀ r : Rul, safeD (false, false) r.dt = true := fun r => rfl
  have h1 := safe_all (q := (false, false)) Rul.dt r1 (srt rs)
  have h2 := safe_all (q := (false, false)) D.int (fun _ => rfl) (srtI ys)
  have h3 := safe_all (q := (false, false)) D.str (fun _ => rfl) (srtS (foundS rs))
  have h4 := safe_kn (q := (false, false)) (srtS (foundS rs))
  have h5 : safeD (false, false) (fgs (srt rs)) = true := by
    rcases fgs_cases (srt rs) with e | ⟨r, e⟩ <;> rw [e] <;> rfl
  have h6 := safe_tb (tbl_TB (srt rs)).val (false, false)
  show (!false && (true && (true && (safeDs (false, false) _ && (safeDs (false, false) _ && (safeDs (false, false) _ && ((!false && safeKs (false, false) _) && (safeD (false, false) _ && ((!false && safeKs (false, false) _) && true))))))))) = true
  rw [h1, h2, h3, h4, rv_fr, h5, h6]
  rfl
theorem form_ok (r : Rul) (x : Int) : ∃ b : Bool, b = decide (x = 1) ∧ g_law_form [r.dt, .int x] = .ok (fmR b r) := by
  refine ⟨_, rfl, ?_⟩
  unfold g_law_form runF F_law_form
  have e1 : dList [r.dt] = .ok (.ol (dsR r)) := rfl
  have e2 : dTupleS [r.dt] = .ok (.fr r.dt) := rfl
  by_cases h : x = 1
  · simp [eq_int, h, e1, fmR]
  · simp [eq_int, h, e2, fmR]
def lsz : List Int := [8, 2000, 10, 41, 2, 2]
def pz : List Int := List.replicate 41 2
theorem pz_at : ∀ i : _root_.Fin 41, pz[i.val]? = some 2 := by decide +kernel
def TOK (t : RV) : Prop := (∃ ds, t = .ol ds ∧ ds.length = 8) ∨ ∃ xs, t = .fr (.tup xs)
theorem law_true (ns : List Int) (hlen : ns.length ≤ 63) : g_law [.lst (ns.map D.int)] = .ok (.fr (.bl true)) := by
  obtain ⟨c0, ec0⟩ : ∃ c : Int, g_law_cell [.lst (ns.map D.int), .int 0] = .ok (.fr (.int c)) := cell_ok ns 0
  obtain ⟨c1, ec1⟩ : ∃ c : Int, g_law_cell [.lst (ns.map D.int), .int 1] = .ok (.fr (.int c)) := cell_ok ns 1
  obtain ⟨c2, ec2⟩ : ∃ c : Int, g_law_cell [.lst (ns.map D.int), .int 2] = .ok (.fr (.int c)) := cell_ok ns 2
  obtain ⟨c3, ec3⟩ : ∃ c : Int, g_law_cell [.lst (ns.map D.int), .int 3] = .ok (.fr (.int c)) := cell_ok ns 3
  obtain ⟨c4, ec4⟩ : ∃ c : Int, g_law_cell [.lst (ns.map D.int), .int 4] = .ok (.fr (.int c)) := cell_ok ns 4
  obtain ⟨hd, ed, hD⟩ := digits_ok c0 lsz (by decide +kernel) (by decide +kernel)
  obtain ⟨r0, e0, a0, b0⟩ := hD.get 0 (s := 8) rfl
  obtain ⟨r1, e1, a1, b1⟩ := hD.get 1 (s := 2000) rfl
  obtain ⟨r2, e2, a2, b2⟩ := hD.get 2 (s := 10) rfl
  obtain ⟨r3, e3, a3, b3⟩ := hD.get 3 (s := 41) rfl
  obtain ⟨r4, e4, a4, b4⟩ := hD.get 4 (s := 2) rfl
  obtain ⟨r5, e5, a5, b5⟩ := hD.get 5 (s := 2) rfl
  obtain ⟨L, eL, hL⟩ := any_ok c1
  obtain ⟨n, hn0, en⟩ := pick (l := [(1 : Int), 2, 3, 4, 6, 2000, 1 + r1, 5]) (f := D.int) (i := r0) ⟨a0, b0⟩
  have hn : 1 ≤ n ∧ n ≤ 2000 := by
    simp only [List.mem_cons, List.not_mem_nil, or_false] at hn0
    rcases hn0 with h | h | h | h | h | h | h | h <;> omega
  obtain ⟨mi, hm0, em⟩ := pick (l := [(6 : Int), 3, 9, 1, 12, 7, 4, 2, r3, r3]) (f := D.int) (i := r2) ⟨a2, b2⟩
  have hm : 0 ≤ mi ∧ mi ≤ 40 := by
    simp only [List.mem_cons, List.not_mem_nil, or_false] at hm0
    rcases hm0 with h | h | h | h | h | h | h | h | h | h <;> omega
  obtain ⟨m, rfl⟩ := Int.eq_ofNat_of_zero_le hm.1
  have hm40 : m ≤ 40 := by omega
  obtain ⟨ps, ep, hp5, hps⟩ := pool_ok c2
  obtain ⟨rs, er, hrl, hrs⟩ := rules_ok (ns := ns) (at_ := 6) (many := m) (by decide) (by omega) hL hn hp5 hps
  obtain ⟨ys, ey, hyl, hys⟩ := yes_ok c3 n hn
  obtain ⟨pl, ed4, hD4⟩ := digits_ok c4 pz (by decide +kernel) (by decide +kernel)
  have hpl : pl.length = 41 := hD4.1
  have mm : dMulW (.lst [.int 2]) (.int 41) = .ok (.ol (pz.map D.int)) := rfl
  have hL26 := (al_len hL).2
  have du := due_ok (L := L) (n := n) (rs := rs) (ys := ys) (by omega) (by omega)
  have en' : dIxD (.lst [.int 1, .int 2, .int 3, .int 4, .int 6, .int 2000, .int (1 + r1), .int 5]) (.int r0) = .ok (.fr (.int n)) := en
  have em' : dIxD (.lst [.int 6, .int 3, .int 9, .int 1, .int 12, .int 7, .int 4, .int 2, .int r3, .int r3]) (.int r2) = .ok (.fr (.int (m : Int))) := em
  generalize hbs : pl.map (fun x => decide (x = 1)) = bs
  have hbl : rs.length ≤ bs.length := by rw [← hbs, List.length_map]; omega
  have rg := rng1_nat (n := m) (by omega)
  have hz : ∀ i, i < m → ∃ r x, rs[i]? = some r ∧ pl[i]? = some x ∧ (rs.zip bs)[i]? = some (r, decide (x = 1)) := fun i hi => by
    have h1 : i < rs.length := by omega
    have h2 : i < pl.length := by omega
    refine ⟨rs[i], pl[i], List.getElem?_eq_getElem h1, List.getElem?_eq_getElem h2, ?_⟩
    rw [List.getElem?_zip_eq_some]
    refine ⟨List.getElem?_eq_getElem h1, ?_⟩
    rw [← hbs, List.getElem?_map, List.getElem?_eq_getElem h2]
    rfl
  have zl : (rs.zip bs).length = m := by rw [List.length_zip]; omega
  have rmap : ∀ {α : Type} (f : Rul × Bool → α) (dflt : α), (List.range m).map (fun i => ((rs.zip bs)[i]?.map f).getD dflt) = (rs.zip bs).map f := fun {α} f dflt => by
    apply List.ext_getElem?
    intro i
    rw [List.getElem?_map, List.getElem?_map]
    rcases Nat.lt_or_ge i m with hi | hi
    · rw [List.getElem?_range hi]
      obtain ⟨r, x, _, _, e⟩ := hz i hi
      rw [Option.map_some, e]; rfl
    · rw [List.getElem?_eq_none (by simpa using hi), List.getElem?_eq_none (by omega)]; rfl
  have fo : ∀ i, i < m → ∃ r x, dIxD (.lst (rs.map Rul.dt)) (.int (i : Int)) = .ok (.fr r.dt) ∧ dIxD (.lst (pl.map D.int)) (.int (i : Int)) = .ok (.fr (.int x)) ∧ g_law_form [r.dt, .int x] = .ok (fmR (decide (x = 1)) r) ∧ (rs.zip bs)[i]? = some (r, decide (x = 1)) := fun i hi => by
    obtain ⟨r, x, h1, h2, h3⟩ := hz i hi
    obtain ⟨b, rfl, h4⟩ := form_ok r x
    exact ⟨r, x, by rw [ixn_lst, List.getElem?_map, h1]; rfl, ix_int h2, h4, h3⟩
  have hdot := hR_d rs bs
  have hno := hR_no rs bs
  have key : ∃ q, g_law [.lst (ns.map D.int)] = .ok q ∧ q = .fr (.bl true) := by
    refine rt_run rfl ?_
    unfold F_law
    have ed' : g_law_digits [.int c0, .lst [.int 8, .int 2000, .int 10, .int 41, .int 2, .int 2]] = .ok (.ol (hd.map D.int)) := ed
    refine rt_nx (δ' := [some (.fr (.lst (ns.map D.int))), some (.ol (hd.map D.int)), none, none, none, none, none, none, none, none, none, none, none, none, none]) (by
      simp [ec0, ed']) ?_
    refine rt_nx (δ' := [some (.fr (.lst (ns.map D.int))), some (.ol (hd.map D.int)), some (.fr (.str L)), none, none, none, none, none, none, none, none, none, none, none, none]) (by
      simp [ec1, eL]) ?_
    refine rt_nx (δ' := [some (.fr (.lst (ns.map D.int))), some (.fr (.lst (hd.map D.int))), some (.fr (.str L)), some (.fr (.int n)), none, none, none, none, none, none, none, none, none, none, none]) (by
      rw [ev_frz, fz_ol (ds := hd.map D.int) rfl]
      simp [e0, e1, en']) ?_
    refine rt_nx (δ' := [some (.fr (.lst (ns.map D.int))), some (.fr (.lst (hd.map D.int))), some (.fr (.str L)), some (.fr (.int n)), some (.fr (.int (m : Nat))), none, none, none, none, none, none, none, none, none, none]) (by
      simp [e2, e3, em']) ?_
    refine rt_nx (δ' := [some (.fr (.lst (ns.map D.int))), some (.fr (.lst (hd.map D.int))), some (.fr (.str L)), some (.fr (.int n)), some (.fr (.int (m : Nat))), some (.ol (rs.map Rul.dt)), none, none, none, none, none, none, none, none, none]) (by
      rw [ev_frz, fz_fr (d := .str L) rfl]
      have er' : g_law_rules [.lst (ns.map D.int), .int 6, .int (m : Int), .str L, .int n, .lst (ps.map D.str)] = .ok (.ol (rs.map Rul.dt)) := er
      simp [ec2, ep, er']) ?_
    refine rt_nx (δ' := [some (.fr (.lst (ns.map D.int))), some (.fr (.lst (hd.map D.int))), some (.fr (.str L)), some (.fr (.int n)), some (.fr (.int (m : Nat))), some (.ol (rs.map Rul.dt)), some (.ol (ys.map D.int)), none, none, none, none, none, none, none, none]) (by
      simp [ec3, ey]) ?_
    refine rt_nx (δ' := [some (.fr (.lst (ns.map D.int))), some (.fr (.lst (hd.map D.int))), some (.fr (.str L)), some (.fr (.int n)), some (.fr (.int (m : Nat))), some (.ol (rs.map Rul.dt)), some (.ol (ys.map D.int)), some (.ol (pl.map D.int)), none, none, none, none, none, none, none]) (by
      simp [ec4, mm, ed4]) ?_
    have lco := lcO_map (fi := iArgs rng1 (aCons (getV 4) aNil)) (vs := [9]) (bd := gSet 9) (fe := fCall (g_law_form) (aCons (fBin dIxD (getV 5) (getV 9)) (aCons (fBin dIxD (getV 7) (getV 9)) aNil))) (δ := [some (.fr (.lst (ns.map D.int))), some (.fr (.lst (hd.map D.int))), some (.fr (.str L)), some (.fr (.int n)), some (.fr (.int (m : Nat))), some (.fr (.lst (rs.map Rul.dt))), some (.ol (ys.map D.int)), some (.fr (.lst (pl.map D.int))), none, none, none, none, none, none, none]) (fun i : Nat => D.int i) (fun i => ((rs.zip bs)[i]?.map fun p => fmR p.2 p.1).getD (.fr .non)) (List.range m) (by simp [rg]) (by rw [List.length_range]; unfold SZ; omega) fun i hi => by
      obtain ⟨r, x, h1, h2, h3, h4⟩ := fo i (List.mem_range.mp hi)
      refine ⟨_, rfl, ?_⟩
      rw [h4]
      simp only [ev_call, ev_acons, ev_bin]
      rw [gv_fr (d := .lst (rs.map Rul.dt)) rfl, bd_ok, gv_fr (d := .int (i : Int)) rfl, bd_ok, gv_fr (d := .lst (pl.map D.int)) rfl]
      simp only [rv_fr, h1, bd_ok, h2, ev_anil, h3]
      rfl
    rw [rmap (fun p => fmR p.2 p.1) (.fr .non)] at lco
    have lco' : _ = R.ok (RV.ot (hR rs bs)) := lco
    refine rt_nx (δ' := [some (.fr (.lst (ns.map D.int))), some (.fr (.lst (hd.map D.int))), some (.fr (.str L)), some (.fr (.int n)), some (.fr (.int (m : Nat))), some (.fr (.lst (rs.map Rul.dt))), some (.ol (ys.map D.int)), some (.fr (.lst (pl.map D.int))), some (.ot (hR rs bs)), none, none, none, none, none, none]) (by
      rw [ev_frz, fz_ol (ds := rs.map Rul.dt) rfl, ev_frz, fz_ol (ds := pl.map D.int) rfl]
      show sSet 8 _ [some (RV.fr (.lst (ns.map D.int))), some (.fr (.lst (hd.map D.int))), some (.fr (.str L)), some (.fr (.int n)), some (.fr (.int (m : Nat))), some (.fr (.lst (rs.map Rul.dt))), some (.ol (ys.map D.int)), some (.fr (.lst (pl.map D.int))), none, none, none, none, none, none, none] = _
      rw [ev_set, lco', lf_ok]
      rfl) ?_
    refine rt_nx (δ' := [some (.fr (.lst (ns.map D.int))), some (.fr (.lst (hd.map D.int))), some (.fr (.str L)), some (.fr (.int n)), some (.fr (.int (m : Nat))), some (.fr (.lst (rs.map Rul.dt))), some (.fr (.lst (ys.map D.int))), some (.fr (.lst (pl.map D.int))), some (.ot (hR rs bs)), none, some (.ol (ys.map D.int)), none, none, none, none]) (by
      rw [ev_frz, fz_ol (ds := ys.map D.int) rfl]
      have dl : dList [.lst (ys.map D.int)] = .ok (.ol (ys.map D.int)) := rfl
      simp [dl]) ?_
    have fa : frzAll [some (.fr (.lst (ns.map D.int))), some (.fr (.lst (hd.map D.int))), some (.fr (.str L)), some (.fr (.int n)), some (.fr (.int (m : Nat))), some (.fr (.lst (rs.map Rul.dt))), some (.fr (.lst (ys.map D.int))), some (.fr (.lst (pl.map D.int))), some (.ot (hR rs bs)), none, some (.ol (ys.map D.int)), none, none, none, none] = [some (.fr (.lst (ns.map D.int))), some (.fr (.lst (hd.map D.int))), some (.fr (.str L)), some (.fr (.int n)), some (.fr (.int (m : Nat))), some (.fr (.lst (rs.map Rul.dt))), some (.fr (.lst (ys.map D.int))), some (.fr (.lst (pl.map D.int))), some (.fr (.lst (hsD rs bs))), none, some (.fr (.lst (ys.map D.int))), none, none, none, none] := by
      simp only [frzAll, List.map_cons, List.map_nil, Option.map_some, Option.map_none, hdot]
      rfl
    have hdc : hasDict [some (.fr (.lst (ns.map D.int))), some (.fr (.lst (hd.map D.int))), some (.fr (.str L)), some (.fr (.int n)), some (.fr (.int (m : Nat))), some (.fr (.lst (rs.map Rul.dt))), some (.fr (.lst (ys.map D.int))), some (.fr (.lst (pl.map D.int))), some (.ot (hR rs bs)), none, some (.ol (ys.map D.int)), none, none, none, none] = (false, false) := by
      show ((_ || (_ || (_ || (_ || (_ || (_ || (_ || (_ || (hasDL (hR rs bs) || _))))))))), (_ || (_ || (_ || (_ || (_ || (_ || (_ || (_ || (hasOL (hR rs bs) || _)))))))))) = _
      rw [hno.1, hno.2]
      rfl
    have tup1 : dTupleS [.lst (hsD rs bs)] = .ok (.fr (.tup (hsD rs bs))) := rfl
    have tup2 : dTupleS [.lst (ys.map D.int)] = .ok (.fr (.tup (ys.map D.int))) := rfl
    have mk : ∀ d3 d4, seqOf d3 (hsD rs bs) → seqOf d4 (ys.map D.int) → m_Machine [.str L, .int n, d3, d4] = .ok (.oo none "Machine" (machF L n rs ys)) := fun d3 d4 h3 h4 => machine_forms hbl h3 h4 hL hn hrs (by omega) hys (by omega)
    have od : (RV.oo none "Machine" (machF L n rs ys)).d = obj L n rs ys := rfl
    refine rt_seq (Q := fun δ => δ = [some (.fr (.lst (ns.map D.int))), some (.fr (.lst (hd.map D.int))), some (.fr (.str L)), some (.fr (.int n)), some (.fr (.int (m : Nat))), some (.fr (.lst (rs.map Rul.dt))), some (.fr (.lst (ys.map D.int))), some (.fr (.lst (pl.map D.int))), some (.ot (hR rs bs)), none, some (.ol (ys.map D.int)), some (.fr (obj L n rs ys)), none, none, none]) ?_ ?_
    · by_cases h4 : r4 = 1
      · by_cases h5 : r5 = 1
        · refine nx_of (δ := [some (.fr (.lst (ns.map D.int))), some (.fr (.lst (hd.map D.int))), some (.fr (.str L)), some (.fr (.int n)), some (.fr (.int (m : Nat))), some (.fr (.lst (rs.map Rul.dt))), some (.fr (.lst (ys.map D.int))), some (.fr (.lst (pl.map D.int))), some (.ot (hR rs bs)), none, some (.ol (ys.map D.int)), some (.fr (obj L n rs ys)), none, none, none]) ?_ rfl
          have v := view_fr' (f := fFr ((fCallK 3 1 (fun ds es => ds ++ es) m_Machine (aCons (getV 2) (aCons (getV 3) (aCons (fCall dTupleS (aCons (getV 8) aNil)) aNil))) (aCons (fCall dTupleS (aCons (getV 10) aNil)) aNil)))) (δ := [some (.fr (.lst (ns.map D.int))), some (.fr (.lst (hd.map D.int))), some (.fr (.str L)), some (.fr (.int n)), some (.fr (.int (m : Nat))), some (.fr (.lst (rs.map Rul.dt))), some (.fr (.lst (ys.map D.int))), some (.fr (.lst (pl.map D.int))), some (.ot (hR rs bs)), none, some (.ol (ys.map D.int)), none, none, none, none]) (d := obj L n rs ys) (by
            rw [fa]
            have q := mk _ _ (.inr rfl) (.inr rfl)
            simp [tup1, tup2, q, od]) (by rw [hdc]; exact safe_obj)
          simp [e4, e5, h4, h5, eq_int, v]
        · refine nx_of (δ := [some (.fr (.lst (ns.map D.int))), some (.fr (.lst (hd.map D.int))), some (.fr (.str L)), some (.fr (.int n)), some (.fr (.int (m : Nat))), some (.fr (.lst (rs.map Rul.dt))), some (.fr (.lst (ys.map D.int))), some (.fr (.lst (pl.map D.int))), some (.ot (hR rs bs)), none, some (.ol (ys.map D.int)), some (.fr (obj L n rs ys)), none, none, none]) ?_ rfl
          have v := view_fr' (f := fFr ((fCall m_Machine (aCons (getV 2) (aCons (getV 3) (aCons (fCall dTupleS (aCons (getV 8) aNil)) (aCons (fCall dTupleS (aCons (getV 10) aNil)) aNil))))))) (δ := [some (.fr (.lst (ns.map D.int))), some (.fr (.lst (hd.map D.int))), some (.fr (.str L)), some (.fr (.int n)), some (.fr (.int (m : Nat))), some (.fr (.lst (rs.map Rul.dt))), some (.fr (.lst (ys.map D.int))), some (.fr (.lst (pl.map D.int))), some (.ot (hR rs bs)), none, some (.ol (ys.map D.int)), none, none, none, none]) (d := obj L n rs ys) (by
            rw [fa]
            have q := mk _ _ (.inr rfl) (.inr rfl)
            simp [tup1, tup2, q, od]) (by rw [hdc]; exact safe_obj)
          simp [e4, e5, h4, h5, eq_int, v]
      · have bv : bView (fB (fBin (dEq false) (fCall dLen (aCons (getV 10) aNil)) (cst (.int 0)))) [some (.fr (.lst (ns.map D.int))), some (.fr (.lst (hd.map D.int))), some (.fr (.str L)), some (.fr (.int n)), some (.fr (.int (m : Nat))), some (.fr (.lst (rs.map Rul.dt))), some (.fr (.lst (ys.map D.int))), some (.fr (.lst (pl.map D.int))), some (.ot (hR rs bs)), none, some (.ol (ys.map D.int)), none, none, none, none] = .ok (decide ((ys.length : Int) = 0)) := by
          unfold bView
          rw [fa]
          simp [eq_int]
        by_cases hy0 : ys = []
        · refine nx_of (δ := [some (.fr (.lst (ns.map D.int))), some (.fr (.lst (hd.map D.int))), some (.fr (.str L)), some (.fr (.int n)), some (.fr (.int (m : Nat))), some (.fr (.lst (rs.map Rul.dt))), some (.fr (.lst (ys.map D.int))), some (.fr (.lst (pl.map D.int))), some (.ot (hR rs bs)), none, some (.ol (ys.map D.int)), some (.fr (obj L n rs ys)), none, none, none]) ?_ rfl
          have v := view_fr' (f := fFr ((fCall (fun ds => m_Machine (ds ++ dfl_Machine_3)) (aCons (getV 2) (aCons (getV 3) (aCons (getV 8) aNil)))))) (δ := [some (.fr (.lst (ns.map D.int))), some (.fr (.lst (hd.map D.int))), some (.fr (.str L)), some (.fr (.int n)), some (.fr (.int (m : Nat))), some (.fr (.lst (rs.map Rul.dt))), some (.fr (.lst (ys.map D.int))), some (.fr (.lst (pl.map D.int))), some (.ot (hR rs bs)), none, some (.ol (ys.map D.int)), none, none, none, none]) (d := obj L n rs ys) (by
            rw [fa]
            have q := mk _ (.tup []) (.inl rfl) (by rw [hy0]; exact .inr rfl)
            have dfl : [D.str L, .int n, .lst (hsD rs bs)] ++ dfl_Machine_3 = [.str L, .int n, .lst (hsD rs bs), .tup []] := rfl
            simp only [ev_fr, ev_call, ev_acons, gv_fr (d := .str L) (i := 2) (δ := [some (.fr (.lst (ns.map D.int))), some (.fr (.lst (hd.map D.int))), some (.fr (.str L)), some (.fr (.int n)), some (.fr (.int (m : Nat))), some (.fr (.lst (rs.map Rul.dt))), some (.fr (.lst (ys.map D.int))), some (.fr (.lst (pl.map D.int))), some (.fr (.lst (hsD rs bs))), none, some (.fr (.lst (ys.map D.int))), none, none, none, none]) rfl, gv_fr (d := .int n) (i := 3) (δ := [some (.fr (.lst (ns.map D.int))), some (.fr (.lst (hd.map D.int))), some (.fr (.str L)), some (.fr (.int n)), some (.fr (.int (m : Nat))), some (.fr (.lst (rs.map Rul.dt))), some (.fr (.lst (ys.map D.int))), some (.fr (.lst (pl.map D.int))), some (.fr (.lst (hsD rs bs))), none, some (.fr (.lst (ys.map D.int))), none, none, none, none]) rfl, gv_fr (d := .lst (hsD rs bs)) (i := 8) (δ := [some (.fr (.lst (ns.map D.int))), some (.fr (.lst (hd.map D.int))), some (.fr (.str L)), some (.fr (.int n)), some (.fr (.int (m : Nat))), some (.fr (.lst (rs.map Rul.dt))), some (.fr (.lst (ys.map D.int))), some (.fr (.lst (pl.map D.int))), some (.fr (.lst (hsD rs bs))), none, some (.fr (.lst (ys.map D.int))), none, none, none, none]) rfl, bd_ok, ev_anil, rv_fr, dfl, q, od]) (by rw [hdc]; exact safe_obj)
          have hl0 : ((ys.length : Int) = 0) := by rw [hy0]; rfl
          rw [decide_eq_true hl0] at bv
          simp [e4, h4, eq_int, bv, v]
        · refine nx_of (δ := [some (.fr (.lst (ns.map D.int))), some (.fr (.lst (hd.map D.int))), some (.fr (.str L)), some (.fr (.int n)), some (.fr (.int (m : Nat))), some (.fr (.lst (rs.map Rul.dt))), some (.fr (.lst (ys.map D.int))), some (.fr (.lst (pl.map D.int))), some (.ot (hR rs bs)), none, some (.ol (ys.map D.int)), some (.fr (obj L n rs ys)), none, none, none]) ?_ rfl
          have v := view_fr' (f := fFr ((fCall m_Machine (aCons (getV 2) (aCons (getV 3) (aCons (getV 8) (aCons (getV 10) aNil))))))) (δ := [some (.fr (.lst (ns.map D.int))), some (.fr (.lst (hd.map D.int))), some (.fr (.str L)), some (.fr (.int n)), some (.fr (.int (m : Nat))), some (.fr (.lst (rs.map Rul.dt))), some (.fr (.lst (ys.map D.int))), some (.fr (.lst (pl.map D.int))), some (.ot (hR rs bs)), none, some (.ol (ys.map D.int)), none, none, none, none]) (d := obj L n rs ys) (by
            rw [fa]
            have q := mk _ _ (.inl rfl) (.inl rfl)
            simp [q, od]) (by rw [hdc]; exact safe_obj)
          have hl0 : ¬ ((ys.length : Int) = 0) := by
            have := List.length_pos_iff.mpr hy0
            omega
          rw [decide_eq_false hl0] at bv
          simp [e4, h4, eq_int, bv, v]
    intro δ' h
    subst h
    refine rt_nx (δ' := [some (.fr (.lst (ns.map D.int))), some (.fr (.lst (hd.map D.int))), some (.fr (.str L)), some (.fr (.int n)), some (.fr (.int (m : Nat))), some (.fr (.lst (rs.map Rul.dt))), some (.fr (.lst (ys.map D.int))), some (.fr (.lst (pl.map D.int))), some (.ot (hR rs bs)), none, some (.ol (ys.map D.int)), some (.fr (obj L n rs ys)), some (.fr (dueD L n rs ys)), none, none]) (by
      simp [du]) ?_
    have ff := fields_ok (L := L) (n := n) (rs := rs) (ys := ys)
    have sd := same_due (L := L) (n := n) (rs := rs) (ys := ys) (by omega) (by omega)
    refine rt_nx (δ' := [some (.fr (.lst (ns.map D.int))), some (.fr (.lst (hd.map D.int))), some (.fr (.str L)), some (.fr (.int n)), some (.fr (.int (m : Nat))), some (.fr (.lst (rs.map Rul.dt))), some (.fr (.lst (ys.map D.int))), some (.fr (.lst (pl.map D.int))), some (.ot (hR rs bs)), none, some (.ol (ys.map D.int)), some (.fr (obj L n rs ys)), some (.fr (dueD L n rs ys)), none, none]) (by
      rw [ev_frz, fz_fr (d := obj L n rs ys) rfl, ev_frz, fz_fr (d := dueD L n rs ys) rfl]
      simp [ff, sd]) ?_
    have fa2 : frzAll [some (.fr (.lst (ns.map D.int))), some (.fr (.lst (hd.map D.int))), some (.fr (.str L)), some (.fr (.int n)), some (.fr (.int (m : Nat))), some (.fr (.lst (rs.map Rul.dt))), some (.fr (.lst (ys.map D.int))), some (.fr (.lst (pl.map D.int))), some (.ot (hR rs bs)), none, some (.ol (ys.map D.int)), some (.fr (obj L n rs ys)), some (.fr (dueD L n rs ys)), none, none] = [some (.fr (.lst (ns.map D.int))), some (.fr (.lst (hd.map D.int))), some (.fr (.str L)), some (.fr (.int n)), some (.fr (.int (m : Nat))), some (.fr (.lst (rs.map Rul.dt))), some (.fr (.lst (ys.map D.int))), some (.fr (.lst (pl.map D.int))), some (.fr (.lst (hsD rs bs))), none, some (.fr (.lst (ys.map D.int))), some (.fr (obj L n rs ys)), some (.fr (dueD L n rs ys)), none, none] := by
      simp only [frzAll, List.map_cons, List.map_nil, Option.map_some, Option.map_none, hdot]
      rfl
    have lcf := lc_map (fi := iArgs rng1 (aCons (getV 4) aNil)) (vs := [9]) (bd := gSet 9) (fe := fCall (g_law_form) (aCons (fBin dIxD (getV 5) (getV 9)) (aCons (fBin dIxD (getV 7) (getV 9)) aNil))) (δ := [some (.fr (.lst (ns.map D.int))), some (.fr (.lst (hd.map D.int))), some (.fr (.str L)), some (.fr (.int n)), some (.fr (.int (m : Nat))), some (.fr (.lst (rs.map Rul.dt))), some (.fr (.lst (ys.map D.int))), some (.fr (.lst (pl.map D.int))), some (.fr (.lst (hsD rs bs))), none, some (.fr (.lst (ys.map D.int))), some (.fr (obj L n rs ys)), some (.fr (dueD L n rs ys)), none, none]) (fun i : Nat => D.int i) (fun i => ((rs.zip bs)[i]?.map fun p => fmD p.2 p.1).getD .non) (List.range m) (by simp [rg]) (by rw [List.length_range]; unfold SZ; omega) fun i hi => by
      obtain ⟨r, x, h1, h2, h3, h4⟩ := fo i (List.mem_range.mp hi)
      refine ⟨_, fmR (decide (x = 1)) r, rfl, ?_, by rw [h4, fmR_d]; rfl⟩
      simp only [ev_call, ev_acons, ev_bin]
      rw [gv_fr (d := .lst (rs.map Rul.dt)) rfl, bd_ok, gv_fr (d := .int (i : Int)) rfl, bd_ok, gv_fr (d := .lst (pl.map D.int)) rfl]
      simp only [rv_fr, h1, bd_ok, h2, ev_anil, h3]
    rw [rmap (fun p => fmD p.2 p.1) .non] at lcf
    have lcf' : _ = R.ok (RV.ol (hsD rs bs)) := lcf
    have fl1 : flatD 9 (.lst (hsD rs bs)) = true := by
      show flatDs 8 _ = true
      unfold hsD
      generalize rs.zip bs = zs
      induction zs with
      | nil => rfl
      | cons p zs ih =>
        rw [List.map_cons]
        show (flatD 8 (fmD p.2 p.1) && _) = true
        rw [ih]
        cases p.2 <;> rfl
    have fl2 : flatD 9 (.lst (ys.map D.int)) = true := by
      show flatDs 8 _ = true
      clear hys hyl ey fa fa2 hdc mk du ff sd bs hbs hbl hz zl rmap fo hdot hno lco lco' lcf lcf' fl1 tup1 tup2 od
      induction ys with
      | nil => rfl
      | cons y ys ih => rw [List.map_cons]; show (true && _) = true; rw [ih]; rfl
    have n1 := ne_self fl1
    have n2 := ne_self fl2
    have bv : bView ((bOr (fB (fBin (dEq true) (getV 8) (fLc (iArgs rng1 (aCons (getV 4) aNil)) [9] (gSet 9) bYes (fCall (g_law_form) (aCons (fBin dIxD (getV 5) (getV 9)) (aCons (fBin dIxD (getV 7) (getV 9)) aNil)))))) (fB (fBin (dEq true) (getV 10) (getV 6))))) [some (.fr (.lst (ns.map D.int))), some (.fr (.lst (hd.map D.int))), some (.fr (.str L)), some (.fr (.int n)), some (.fr (.int (m : Nat))), some (.fr (.lst (rs.map Rul.dt))), some (.fr (.lst (ys.map D.int))), some (.fr (.lst (pl.map D.int))), some (.ot (hR rs bs)), none, some (.ol (ys.map D.int)), some (.fr (obj L n rs ys)), some (.fr (dueD L n rs ys)), none, none] = .ok false := by
      have hA : fB (fBin (dEq true) (getV 8) (fLc (iArgs rng1 (aCons (getV 4) aNil)) [9] (gSet 9) bYes (fCall (g_law_form) (aCons (fBin dIxD (getV 5) (getV 9)) (aCons (fBin dIxD (getV 7) (getV 9)) aNil))))) [some (RV.fr (.lst (ns.map D.int))), some (.fr (.lst (hd.map D.int))), some (.fr (.str L)), some (.fr (.int n)), some (.fr (.int (m : Nat))), some (.fr (.lst (rs.map Rul.dt))), some (.fr (.lst (ys.map D.int))), some (.fr (.lst (pl.map D.int))), some (.fr (.lst (hsD rs bs))), none, some (.fr (.lst (ys.map D.int))), some (.fr (obj L n rs ys)), some (.fr (dueD L n rs ys)), none, none] = .ok false := by
        rw [ev_B, ev_bin, gv_fr (d := .lst (hsD rs bs)) rfl, bd_ok, lcf', bd_ok, rv_fr, rv_ol, n1, bd_ok, rv_fr, bl_bl]
      have hB : fB (fBin (dEq true) (getV 10) (getV 6)) [some (RV.fr (.lst (ns.map D.int))), some (.fr (.lst (hd.map D.int))), some (.fr (.str L)), some (.fr (.int n)), some (.fr (.int (m : Nat))), some (.fr (.lst (rs.map Rul.dt))), some (.fr (.lst (ys.map D.int))), some (.fr (.lst (pl.map D.int))), some (.fr (.lst (hsD rs bs))), none, some (.fr (.lst (ys.map D.int))), some (.fr (obj L n rs ys)), some (.fr (dueD L n rs ys)), none, none] = .ok false := by
        rw [ev_B, ev_bin, gv_fr (d := .lst (ys.map D.int)) rfl, bd_ok, gv_fr (d := .lst (ys.map D.int)) rfl, bd_ok, rv_fr, n2, bd_ok, rv_fr, bl_bl]
      exact bview_ok fa2 (bor_no hA hB)
    refine rt_nx (δ' := [some (.fr (.lst (ns.map D.int))), some (.fr (.lst (hd.map D.int))), some (.fr (.str L)), some (.fr (.int n)), some (.fr (.int (m : Nat))), some (.fr (.lst (rs.map Rul.dt))), some (.fr (.lst (ys.map D.int))), some (.fr (.lst (pl.map D.int))), some (.ot (hR rs bs)), none, some (.ol (ys.map D.int)), some (.fr (obj L n rs ys)), some (.fr (dueD L n rs ys)), none, none]) (by
      rw [ev_if, bv, lf_ok]
      rfl) ?_
    have c1 : cutL (rs.map Rul.dt) (some 1) none = (rs.drop 1).map Rul.dt := by rw [cut_map, cut_from (a := 1)]
    have c2 : cutL (ys.map D.int) (some 1) none = (ys.drop 1).map D.int := by rw [cut_map, cut_from (a := 1)]
    have mk1 := machine_new (L := L) (n := n) (rs := rs.drop 1) (ys := ys.drop 1) hL hn (fun r hr => hrs r (List.mem_of_mem_drop hr)) (by rw [List.length_drop]; omega) (fun y hy => hys y (List.mem_of_mem_drop hy)) (by rw [List.length_drop]; omega)
    have du1 := due_ok (L := L) (n := n) (rs := rs.drop 1) (ys := ys.drop 1) (by rw [List.length_drop]; omega) (by rw [List.length_drop]; omega)
    have ff1 := fields_ok (L := L) (n := n) (rs := rs.drop 1) (ys := ys.drop 1)
    have sd1 := same_due (L := L) (n := n) (rs := rs.drop 1) (ys := ys.drop 1) (by rw [List.length_drop]; omega) (by rw [List.length_drop]; omega)
    have od1 : (RV.oo none "Machine" (machF L n (rs.drop 1) (ys.drop 1))).d = obj L n (rs.drop 1) (ys.drop 1) := rfl
    generalize rs.drop 1 = rs1 at c1 mk1 du1 ff1 sd1 od1 ⊢
    generalize ys.drop 1 = ys1 at c2 mk1 du1 ff1 sd1 od1 ⊢
    refine rt_nx (δ' := [some (.fr (.lst (ns.map D.int))), some (.fr (.lst (hd.map D.int))), some (.fr (.str L)), some (.fr (.int n)), some (.fr (.int (m : Nat))), some (.fr (.lst (rs.map Rul.dt))), some (.fr (.lst (ys.map D.int))), some (.fr (.lst (pl.map D.int))), some (.ot (hR rs bs)), none, some (.ol (ys.map D.int)), some (.fr (obj L n rs ys)), some (.fr (dueD L n rs ys)), some (.oo none "Machine" (machF L n rs1 ys1)), none]) (by
      simp [ev_pint, c1, c2, mk1]) ?_
    refine rt_nx (δ' := [some (.fr (.lst (ns.map D.int))), some (.fr (.lst (hd.map D.int))), some (.fr (.str L)), some (.fr (.int n)), some (.fr (.int (m : Nat))), some (.fr (.lst (rs.map Rul.dt))), some (.fr (.lst (ys.map D.int))), some (.fr (.lst (pl.map D.int))), some (.ot (hR rs bs)), none, some (.ol (ys.map D.int)), some (.fr (obj L n rs ys)), some (.fr (dueD L n rs ys)), some (.fr (obj L n rs1 ys1)), none]) (by
      rw [ev_frz, fz_any (r := .oo none "Machine" (machF L n rs1 ys1)) rfl, od1]
      simp [ev_pint, c1, c2, du1, ff1, sd1]) ?_
    refine rt_seq (Q := fun δ => ∃ ts x, δ = [some (.fr (.lst (ns.map D.int))), some (.fr (.lst (hd.map D.int))), some (.fr (.str L)), some (.fr (.int n)), some (.fr (.int (m : Nat))), some (.fr (.lst (rs.map Rul.dt))), some (.fr (.lst (ys.map D.int))), some (.fr (.lst (pl.map D.int))), some (.ot ts), x, some (.ol (ys.map D.int)), some (.fr (obj L n rs ys)), some (.fr (dueD L n rs ys)), some (.fr (obj L n rs1 ys1)), none] ∧ ts.length = m) ?_ ?_
    · refine wp_for ((List.range m).map fun i => D.int (i : Nat)) (fun i δ => ∃ ts x, δ = [some (.fr (.lst (ns.map D.int))), some (.fr (.lst (hd.map D.int))), some (.fr (.str L)), some (.fr (.int n)), some (.fr (.int (m : Nat))), some (.fr (.lst (rs.map Rul.dt))), some (.fr (.lst (ys.map D.int))), some (.fr (.lst (pl.map D.int))), some (.ot ts), x, some (.ol (ys.map D.int)), some (.fr (obj L n rs ys)), some (.fr (dueD L n rs ys)), some (.fr (obj L n rs1 ys1)), none] ∧ ts.length = m ∧ ∀ t ∈ ts, TOK t) (by simp [rg]) ⟨hR rs bs, none, rfl, by unfold hR; rw [List.length_map, zl], fun t ht => ?_⟩ ?_ (fun δ' ⟨ts, x, e, h, _⟩ => ⟨ts, x, e, h⟩)
      · unfold hR at ht
        obtain ⟨p, _, rfl⟩ := List.mem_map.mp ht
        cases p.2
        · exact .inr ⟨_, rfl⟩
        · exact .inl ⟨_, rfl, rfl⟩
      · intro i d δ edd ⟨ts, x, e, htl, hts⟩
        subst e
        obtain ⟨hi, rfl⟩ := rng_int (by omega) edd
        obtain ⟨tt, et⟩ : ∃ tt, ts[i]? = some tt := ⟨ts[i]'(by omega), List.getElem?_eq_getElem (by omega)⟩
        refine ⟨_, rfl, ?_⟩
        rcases hts tt (List.mem_of_getElem? et) with ⟨ds, rfl, hds⟩ | ⟨xs, rfl⟩
        · have p1 := puta_ok (i := 8) (c := 3) (kk := i) (fv := getV 3) (δ := [some (.fr (.lst (ns.map D.int))), some (.fr (.lst (hd.map D.int))), some (.fr (.str L)), some (.fr (.int n)), some (.fr (.int (m : Nat))), some (.fr (.lst (rs.map Rul.dt))), some (.fr (.lst (ys.map D.int))), some (.fr (.lst (pl.map D.int))), some (.ot ts), some (.fr (.int (i : Nat))), some (.ol (ys.map D.int)), some (.fr (obj L n rs ys)), some (.fr (dueD L n rs ys)), some (.fr (obj L n rs1 ys1)), none]) (r := .fr (.int n)) (ts := ts) (ds := ds) (gv_fr rfl) rfl et (by omega)
          have et2 : (ts.set i (.ol (ds.set 3 (.int n))))[i]? = some (.ol (ds.set 3 (.int n))) := by rw [List.getElem?_set_self (by omega)]
          have p2 := puta_ok (i := 8) (c := 7) (kk := i) (fv := cst (.str "changed")) (δ := [some (.fr (.lst (ns.map D.int))), some (.fr (.lst (hd.map D.int))), some (.fr (.str L)), some (.fr (.int n)), some (.fr (.int (m : Nat))), some (.fr (.lst (rs.map Rul.dt))), some (.fr (.lst (ys.map D.int))), some (.fr (.lst (pl.map D.int))), some (.ot (ts.set i (.ol (ds.set 3 (.int n))))), some (.fr (.int (i : Nat))), some (.ol (ys.map D.int)), some (.fr (obj L n rs ys)), some (.fr (dueD L n rs ys)), some (.fr (obj L n rs1 ys1)), none]) (r := .fr (.str "changed")) (ts := ts.set i (.ol (ds.set 3 (.int n)))) (ds := ds.set 3 (.int n)) rfl rfl et2 (by rw [List.length_set]; omega)
          refine nx_of (δ := [some (.fr (.lst (ns.map D.int))), some (.fr (.lst (hd.map D.int))), some (.fr (.str L)), some (.fr (.int n)), some (.fr (.int (m : Nat))), some (.fr (.lst (rs.map Rul.dt))), some (.fr (.lst (ys.map D.int))), some (.fr (.lst (pl.map D.int))), some (.ot ((ts.set i (.ol (ds.set 3 (.int n)))).set i (.ol ((ds.set 3 (.int n)).set 7 (.str "changed"))))), some (.fr (.int (i : Nat))), some (.ol (ys.map D.int)), some (.fr (obj L n rs ys)), some (.fr (dueD L n rs ys)), some (.fr (obj L n rs1 ys1)), none]) ?_ ⟨_, _, rfl, by rw [List.length_set, List.length_set]; exact htl, fun t ht => ?_⟩
          · unfold sAlias
            simp only [List.getElem?_cons_succ, List.getElem?_cons_zero, List.set_cons_succ, List.set_cons_zero]
            refine (if_pos ⟨by omega, by simp⟩).trans ?_
            simp only [Int.toNat_natCast, et]
            show (sPutA 8 3 (getV 3) i [some (RV.fr (.lst (ns.map D.int))), some (.fr (.lst (hd.map D.int))), some (.fr (.str L)), some (.fr (.int n)), some (.fr (.int (m : Nat))), some (.fr (.lst (rs.map Rul.dt))), some (.fr (.lst (ys.map D.int))), some (.fr (.lst (pl.map D.int))), some (.ot ts), some (.fr (.int (i : Nat))), some (.ol (ys.map D.int)), some (.fr (obj L n rs ys)), some (.fr (dueD L n rs ys)), some (.fr (obj L n rs1 ys1)), none]).seq _ = _
            rw [p1, sq_nx]
            show (sPutA 8 7 (cst (.str "changed")) i [some (RV.fr (.lst (ns.map D.int))), some (.fr (.lst (hd.map D.int))), some (.fr (.str L)), some (.fr (.int n)), some (.fr (.int (m : Nat))), some (.fr (.lst (rs.map Rul.dt))), some (.fr (.lst (ys.map D.int))), some (.fr (.lst (pl.map D.int))), some (.ot (ts.set i (.ol (ds.set 3 (.int n))))), some (.fr (.int (i : Nat))), some (.ol (ys.map D.int)), some (.fr (obj L n rs ys)), some (.fr (dueD L n rs ys)), some (.fr (obj L n rs1 ys1)), none]).seq _ = _
            rw [p2, sq_nx]
            rfl
          · rcases List.mem_or_eq_of_mem_set ht with ht | rfl
            · rcases List.mem_or_eq_of_mem_set ht with ht | rfl
              · exact hts t ht
              · exact .inl ⟨_, rfl, by rw [List.length_set]; exact hds⟩
            · exact .inl ⟨_, rfl, by rw [List.length_set, List.length_set]; exact hds⟩
        · refine nx_of (δ := [some (.fr (.lst (ns.map D.int))), some (.fr (.lst (hd.map D.int))), some (.fr (.str L)), some (.fr (.int n)), some (.fr (.int (m : Nat))), some (.fr (.lst (rs.map Rul.dt))), some (.fr (.lst (ys.map D.int))), some (.fr (.lst (pl.map D.int))), some (.ot ts), some (.fr (.int (i : Nat))), some (.ol (ys.map D.int)), some (.fr (obj L n rs ys)), some (.fr (dueD L n rs ys)), some (.fr (obj L n rs1 ys1)), none]) ?_ ⟨ts, _, rfl, htl, hts⟩
          unfold sAlias
          simp only [List.getElem?_cons_succ, List.getElem?_cons_zero, List.set_cons_succ, List.set_cons_zero]
          refine (if_pos ⟨by omega, by simp⟩).trans ?_
          simp only [Int.toNat_natCast, et]
    · intro δ' ⟨ts, x, e, htl⟩
      subst e
      refine rt_nx (δ' := [some (.fr (.lst (ns.map D.int))), some (.fr (.lst (hd.map D.int))), some (.fr (.str L)), some (.fr (.int n)), some (.fr (.int (m : Nat))), some (.fr (.lst (rs.map Rul.dt))), some (.fr (.lst (ys.map D.int))), some (.fr (.lst (pl.map D.int))), some (.ot (ts ++ [.fr (.str "changed")])), x, some (.ol (ys.map D.int)), some (.fr (obj L n rs ys)), some (.fr (dueD L n rs ys)), some (.fr (obj L n rs1 ys1)), none]) (by
        unfold sOwnT
        show lift (aCons (cst (.str "changed")) aNil [some (RV.fr (.lst (ns.map D.int))), some (.fr (.lst (hd.map D.int))), some (.fr (.str L)), some (.fr (.int n)), some (.fr (.int (m : Nat))), some (.fr (.lst (rs.map Rul.dt))), some (.fr (.lst (ys.map D.int))), some (.fr (.lst (pl.map D.int))), some (.ot ts), x, some (.ol (ys.map D.int)), some (.fr (obj L n rs ys)), some (.fr (dueD L n rs ys)), some (.fr (obj L n rs1 ys1)), none]) _ _ = _
        rw [ev_acons, ev_cst, bd_ok, ev_anil, bd_ok, lf_ok]
        have eg : gAppendT ts [.str "changed"] = some (ts ++ [.fr (.str "changed")]) := by
          unfold gAppendT
          simp only
          rw [if_pos (by unfold SZ; omega)]
        simp only [rv_fr, eg]
        rfl) ?_
      refine rt_nx (δ' := [some (.fr (.lst (ns.map D.int))), some (.fr (.lst (hd.map D.int))), some (.fr (.str L)), some (.fr (.int n)), some (.fr (.int (m : Nat))), some (.fr (.lst (rs.map Rul.dt))), some (.fr (.lst (ys.map D.int))), some (.fr (.lst (pl.map D.int))), some (.ot (ts ++ [.fr (.str "changed")])), x, some (.ol (ys.map D.int ++ [.int n])), some (.fr (obj L n rs ys)), some (.fr (dueD L n rs ys)), some (.fr (obj L n rs1 ys1)), none]) (ow_ap (ds := ys.map D.int) (r := .fr (.int n)) rfl (gv_fr rfl) (by rw [List.length_map]; unfold SZ; omega)) ?_
      refine rt_rt (r := .fr (.bl true)) ?_ rfl
      simp [ff, sd]
  obtain ⟨q, e, rfl⟩ := key
  exact e
end K00


set_option maxRecDepth 100000
set_option maxHeartbeats 4000000
namespace K00
open PySem PySem.Spec PyProof.Rows L2 L2H DL
structure Zs (K : PySem.W.Frag) (mg : Str → Option Value) : Prop where
  z_abs : mg "abs" = none
  z_all : mg "all" = none
  z_bool : mg "bool" = none
  z_enumerate : mg "enumerate" = none
  z_int : mg "int" = none
  z_isinstance : mg "isinstance" = none
  z_len : mg "len" = none
  z_list : mg "list" = none
  z_range : mg "range" = none
  z_set : mg "set" = none
  z_sorted : mg "sorted" = none
  z_str : mg "str" = none
  z_tuple : mg "tuple" = none
  c_CAPITALS : Glb K mg "CAPITALS" c_CAPITALS
  c_DEEDS : Glb K mg "DEEDS" c_DEEDS
  c_DIGITS : Glb K mg "DIGITS" c_DIGITS
  c_LETTERS : Glb K mg "LETTERS" c_LETTERS
  c_MOST_RULES : Glb K mg "MOST_RULES" c_MOST_RULES
  c_MOST_STATES : Glb K mg "MOST_STATES" c_MOST_STATES
  f__table : ∀ c ∈ [("Machine" : Str)], FldC K mg "_table" c
  f_guess : ∀ c ∈ [("Machine" : Str)], FldC K mg "guess" c
  f_known_symbols : ∀ c ∈ [("Machine" : Str)], FldC K mg "known_symbols" c
  f_letters : ∀ c ∈ [("Machine" : Str)], FldC K mg "letters" c
  f_rules : ∀ c ∈ [("Machine" : Str)], FldC K mg "rules" c
  f_states : ∀ c ∈ [("Machine" : Str)], FldC K mg "states" c
  f_symbols : ∀ c ∈ [("Machine" : Str)], FldC K mg "symbols" c
  f_yes : ∀ c ∈ [("Machine" : Str)], FldC K mg "yes" c
section
variable {P : Program} {w : World} {K : PySem.W.Frag} {mg : Str → Option Value} {base : Heap}
theorem b_law_digits (z : Zs K mg) : BodyD P w K mg base 0 ["cell", "sizes", "row", "rest", "size", "seed", "k", "twice"] "_law_digits" (defScope s_law_digits) (defBody s_law_digits) F_law_digits := by
  intro f cdv A outer s H G E hr tk hp
  have hu : (cxF P w K mg base ["cell", "sizes", "row", "rest", "size", "seed", "k", "twice"] "_law_digits" (defScope s_law_digits) f cdv A outer s H E).A.units + 64 < cLine := by have := hr.un; omega
  have hu2 : (cxF P w K mg base ["cell", "sizes", "row", "rest", "size", "seed", "k", "twice"] "_law_digits" (defScope s_law_digits) f cdv A outer s H E).A.units + 65 < cLine := by have := hr.un; omega
  have nd := sc_law_digits.nd
  exact (bd_cons ((sd_set (i := 2) nd (ed_lst ad_nil alen_nil)))
  (bd_cons ((sd_set (i := 3) nd (ed_callT crd_int dInt_noex z.z_int (by decide +kernel) (ad_cons (ed_var 0) ad_nil))))
  (bd_cons ((sd_if (td_cmp opd_ge dGe_noex (ed_var 3) (ed_bin opd_poww dPowW_noex (ed_int) (ed_int)) (by rfl)) (bd_cons ((sd_set (i := 3) nd (ed_bin opd_sub dSub_noex (ed_var 3) (ed_bin opd_poww dPowW_noex (ed_int) (ed_int)))))
  (bd_cons ((sd_for [4] hp rfl (id_seq (ed_var 1)) (gd_name 4 nd) (bd_cons ((sd_append 2 (ed_bin opd_mod dMod_noex (ed_callT crd_int dInt_noex z.z_int (by decide +kernel) (ad_cons (ed_var 3) ad_nil)) (ed_var 4))))
  (bd_cons ((sd_set (i := 3) nd (ed_bin opd_divw dDivW_noex (ed_callT crd_int dInt_noex z.z_int (by decide +kernel) (ad_cons (ed_var 3) ad_nil)) (ed_var 4))))
  bd_nil))))
  (bd_cons (sd_retV 2)
  bd_nil))) bd_nil))
  (bd_cons ((sd_set (i := 5) nd (ed_bin opd_mod dMod_noex (ed_callT crd_int dInt_noex z.z_int (by decide +kernel) (ad_cons (ed_var 3) ad_nil)) (ed_int))))
  (bd_cons ((sd_for [6, 7] hp rfl (id_range1 z.z_range (ad_cons (ed_callB crd_len dLen_noex z.z_len (by decide +kernel) (ad_cons (ed_var 1) ad_nil)) ad_nil)) (gd_name 6 nd) (bd_cons ((sd_set (i := 5) nd (ed_bin opd_mod dMod_noex (ed_callT crd_int dInt_noex z.z_int (by decide +kernel) (ad_cons (ed_bin opd_add dAdd_noex (ed_bin opd_add dAdd_noex (ed_bin opd_mulw dMulW_noex (ed_var 5) (ed_int)) (ed_bin opd_mulw dMulW_noex (ed_int) (ed_var 6))) (ed_int)) ad_nil)) (ed_int))))
  (bd_cons ((sd_set (i := 7) nd (ed_bin opd_mod dMod_noex (ed_callT crd_int dInt_noex z.z_int (by decide +kernel) (ad_cons (ed_bin opd_mulw dMulW_noex (ed_var 5) (ed_bin opd_add dAdd_noex (ed_bin opd_divw dDivW_noex (ed_var 5) (ed_int)) (ed_int))) ad_nil)) (ed_int))))
  (bd_cons ((sd_append 2 (ed_bin opd_mod dMod_noex (ed_bin opd_divw dDivW_noex (ed_var 7) (ed_int)) (ed_ix (ixdD hu2) dIxD_noex (ed_var 1) (ed_var 6)))))
  bd_nil)))))
  (bd_cons (sd_retV 2)
  bd_nil))))))
theorem b_law_any_letters (z : Zs K mg) (c_law_digits : CalD P w K mg base 1 "_law_digits" g_law_digits) : BodyD P w K mg base 1 ["cell", "letters", "row", "k"] "_law_any_letters" (defScope s_law_any_letters) (defBody s_law_any_letters) F_law_any_letters := by
  intro f cdv A outer s H G E hr tk hp
  have hu : (cxF P w K mg base ["cell", "letters", "row", "k"] "_law_any_letters" (defScope s_law_any_letters) f cdv A outer s H E).A.units + 64 < cLine := by have := hr.un; omega
  have hu2 : (cxF P w K mg base ["cell", "letters", "row", "k"] "_law_any_letters" (defScope s_law_any_letters) f cdv A outer s H E).A.units + 65 < cLine := by have := hr.un; omega
  have nd := sc_law_any_letters.nd
  have hk_law_digits : 1 ≤ 1 := by decide
  exact (bd_cons ((sd_set (i := 1) nd (ed_str (by decide +kernel))))
  (bd_cons ((sd_set (i := 2) nd (ed_call c_law_digits hr hk_law_digits tk (ad_cons (ed_var 0) (ad_cons (ed_bin opd_add dAdd_noex (ed_lst (ad_cons (ed_int) (ad_cons (ed_int) (ad_cons (ed_int) (ad_cons (ed_int) ad_nil)))) (alen_cons (alen_cons (alen_cons (alen_cons alen_nil))))) (ed_bin opd_mulw dMulW_noex (ed_lst (ad_cons (ed_int) ad_nil) (alen_cons alen_nil)) (ed_int))) ad_nil)))))
  (bd_cons ((sd_frz 2 (sd_if (td_cmp (opd_eq hu) dEq_noex (ed_ix (ixdD hu2) dIxD_noex (ed_var 2) (ed_int)) (ed_int) (by rfl)) (bd_cons ((sd_ret (ed_ix (ixdD hu2) dIxD_noex (ed_var 1) (ed_ix (ixdD hu2) dIxD_noex (ed_var 2) (ed_int)))))
  bd_nil) bd_nil)))
  (bd_cons ((sd_if (td_cmp opd_lt dLt_noex (ed_ix (ixdD hu2) dIxD_noex (ed_var 2) (ed_int)) (ed_int) (by rfl)) (bd_cons ((sd_ret (ed_join (ed_str (by decide +kernel)) (ed_lc (own := [("k", 3)]) rfl nd (id_range1 z.z_range (ad_cons (ed_int) ad_nil)) (blkOk_by (N := ["cell", "letters", "row", "k"]) (sc := defScope s_law_any_letters) (by decide +kernel)) bg_name (fun _ _ _ _ _ => pg_name (i := 3) nd rfl (Or.inl rfl)) (fun _ _ _ _ _ => (bt_one (td_cmp (opd_inD1 hu2) dInD_noex (ed_var 3) (ed_sl (ed_var 2) (od_some (ed_int)) (od_some (ed_int))) (by rfl)))) (fun _ _ _ _ _ => (ed_ix (ixdD hu2) dIxD_noex (ed_var 1) (ed_var 3)))))))
  bd_nil) bd_nil))
  (bd_cons ((sd_if (td_cmp (opd_eq hu) dEq_noex (ed_ix (ixdD hu2) dIxD_noex (ed_var 2) (ed_int)) (ed_int) (by rfl)) (bd_cons ((sd_ret (ed_join (ed_str (by decide +kernel)) (ed_lc (own := [("k", 3)]) rfl nd (id_range1 z.z_range (ad_cons (ed_int) ad_nil)) (blkOk_by (N := ["cell", "letters", "row", "k"]) (sc := defScope s_law_any_letters) (by decide +kernel)) bg_name (fun _ _ _ _ _ => pg_name (i := 3) nd rfl (Or.inl rfl)) (fun _ _ _ _ _ => (bt_one (td_w (wd_or (td_cmp (opd_eq hu) dEq_noex (ed_var 3) (ed_ix (ixdD hu2) dIxD_noex (ed_var 2) (ed_int)) (by rfl)) (wd_one (td_cmp (opd_eq hu) dEq_noex (ed_ix (ixdD hu2) dIxD_noex (ed_var 2) (ed_bin opd_add dAdd_noex (ed_int) (ed_var 3))) (ed_int) (by rfl))))))) (fun _ _ _ _ _ => (ed_ix (ixdD hu2) dIxD_noex (ed_var 1) (ed_var 3)))))))
  bd_nil) bd_nil))
  (bd_cons ((sd_ret (ed_var 1)))
  bd_nil))))))
theorem b_law_symbol (z : Zs K mg) : BodyD P w K mg base 0 ["row", "signs", "digit"] "_law_symbol" (defScope s_law_symbol) (defBody s_law_symbol) F_law_symbol := by
  intro f cdv A outer s H G E hr tk hp
  have hu : (cxF P w K mg base ["row", "signs", "digit"] "_law_symbol" (defScope s_law_symbol) f cdv A outer s H E).A.units + 64 < cLine := by have := hr.un; omega
  have hu2 : (cxF P w K mg base ["row", "signs", "digit"] "_law_symbol" (defScope s_law_symbol) f cdv A outer s H E).A.units + 65 < cLine := by have := hr.un; omega
  have nd := sc_law_symbol.nd
  exact (bd_cons ((sd_set (i := 1) nd (ed_str (by decide +kernel))))
  (bd_cons ((sd_ret (ed_join (ed_str (by decide +kernel)) (ed_lc (own := [("digit", 2)]) rfl nd (id_seq (ed_sl (ed_var 0) (od_some (ed_int)) (od_some (ed_bin opd_add dAdd_noex (ed_int) (ed_ix (ixdD hu2) dIxD_noex (ed_var 0) (ed_int)))))) (blkOk_by (N := ["row", "signs", "digit"]) (sc := defScope s_law_symbol) (by decide +kernel)) bg_name (fun _ _ _ _ _ => pg_name (i := 2) nd rfl (Or.inl rfl)) (fun _ _ _ _ _ => bt_nil) (fun _ _ _ _ _ => (ed_ix (ixdD hu2) dIxD_noex (ed_var 1) (ed_var 2)))))))
  bd_nil))
theorem b_law_rule (z : Zs K mg) (c_law_digits : CalD P w K mg base 1 "_law_digits" g_law_digits) (c_law_symbol : CalD P w K mg base 1 "_law_symbol" g_law_symbol) : BodyD P w K mg base 1 ["cell", "letters", "states", "pool", "before", "row", "signs", "letter", "own", "key", "earlier", "move", "deed", "symbol", "said", "digit"] "_law_rule" (defScope s_law_rule) (defBody s_law_rule) F_law_rule := by
  intro f cdv A outer s H G E hr tk hp
  have hu : (cxF P w K mg base ["cell", "letters", "states", "pool", "before", "row", "signs", "letter", "own", "key", "earlier", "move", "deed", "symbol", "said", "digit"] "_law_rule" (defScope s_law_rule) f cdv A outer s H E).A.units + 64 < cLine := by have := hr.un; omega
  have hu2 : (cxF P w K mg base ["cell", "letters", "states", "pool", "before", "row", "signs", "letter", "own", "key", "earlier", "move", "deed", "symbol", "said", "digit"] "_law_rule" (defScope s_law_rule) f cdv A outer s H E).A.units + 65 < cLine := by have := hr.un; omega
  have nd := sc_law_rule.nd
  have hk_law_digits : 1 ≤ 1 := by decide
  have hk_law_symbol : 1 ≤ 1 := by decide
  exact (bd_cons ((sd_set (i := 5) nd (ed_call c_law_digits hr hk_law_digits tk (ad_cons (ed_var 0) (ad_cons (ed_bin opd_add dAdd_noex (ed_lst (ad_cons (ed_int) (ad_cons (ed_int) (ad_cons (ed_int) (ad_cons (ed_int) (ad_cons (ed_int) (ad_cons (ed_int) (ad_cons (ed_int) (ad_cons (ed_int) (ad_cons (ed_int) (ad_cons (ed_int) (ad_cons (ed_int) (ad_cons (ed_int) (ad_cons (ed_int) (ad_cons (ed_int) ad_nil)))))))))))))) (alen_cons (alen_cons (alen_cons (alen_cons (alen_cons (alen_cons (alen_cons (alen_cons (alen_cons (alen_cons (alen_cons (alen_cons (alen_cons (alen_cons alen_nil))))))))))))))) (ed_bin opd_mulw dMulW_noex (ed_lst (ad_cons (ed_int) ad_nil) (alen_cons alen_nil)) (ed_int))) ad_nil)))))
  (bd_cons ((sd_set (i := 6) nd (ed_bin opd_add dAdd_noex (ed_lst (ad_cons (ed_str (by decide +kernel)) (ad_cons (ed_str (by decide +kernel)) ad_nil)) (alen_cons (alen_cons alen_nil))) (ed_lc (own := [("letter", 7)]) rfl nd (id_seq (ed_var 1)) (blkOk_by (N := ["cell", "letters", "states", "pool", "before", "row", "signs", "letter", "own", "key", "earlier", "move", "deed", "symbol", "said", "digit"]) (sc := defScope s_law_rule) (by decide +kernel)) bg_name (fun _ _ _ _ _ => pg_name (i := 7) nd rfl (Or.inl rfl)) (fun _ _ _ _ _ => bt_nil) (fun _ _ _ _ _ => (ed_var 7))))))
  (bd_cons ((sd_frz 5 (sd_set (i := 8) nd (ed_call c_law_symbol hr hk_law_symbol tk (ad_cons (ed_sl (ed_var 5) (od_some (ed_int)) od_none) ad_nil)))))
  (bd_cons ((sd_frz 6 (sd_frz 8 (sd_set (i := 9) nd (ed_tup (ad_cons (ed_bin opd_mod dMod_noex (ed_callT crd_int dInt_noex z.z_int (by decide +kernel) (ad_cons (ed_ix (ixdD hu2) dIxD_noex (ed_var 5) (ed_int)) ad_nil)) (ed_var 2)) (ad_cons (ed_ix (ixdD hu2) dIxD_noex (ed_var 6) (ed_bin opd_mod dMod_noex (ed_callT crd_int dInt_noex z.z_int (by decide +kernel) (ad_cons (ed_ix (ixdD hu2) dIxD_noex (ed_var 5) (ed_int)) ad_nil)) (ed_callB crd_len dLen_noex z.z_len (by decide +kernel) (ad_cons (ed_var 6) ad_nil)))) (ad_cons (ed_ix (ixdD hu2) dIxD_noex (ed_bin opd_add dAdd_noex (ed_bin opd_add dAdd_noex (ed_lst (ad_cons (ed_str (by decide +kernel)) (ad_cons (ed_str (by decide +kernel)) ad_nil)) (alen_cons (alen_cons alen_nil))) (ed_var 3)) (ed_lst (ad_cons (ed_var 8) ad_nil) (alen_cons alen_nil))) (ed_ix (ixdD hu2) dIxD_noex (ed_var 5) (ed_int))) ad_nil))) (alen_cons (alen_cons (alen_cons alen_nil))))))))
  (bd_cons ((sd_if (td_w (wd_and (td_cmp opd_lt dLt_noex (ed_ix (ixdD hu2) dIxD_noex (ed_var 5) (ed_int)) (ed_int) (by rfl)) (wd_one (td_cmp opd_gt dGt_noex (ed_callB crd_len dLen_noex z.z_len (by decide +kernel) (ad_cons (ed_var 4) ad_nil)) (ed_int) (by rfl))))) (bd_cons ((sd_set (i := 10) nd (ed_ix (ixdD hu2) dIxD_noex (ed_var 4) (ed_bin opd_mod dMod_noex (ed_callT crd_int dInt_noex z.z_int (by decide +kernel) (ad_cons (ed_ix (ixdD hu2) dIxD_noex (ed_var 5) (ed_int)) ad_nil)) (ed_callB crd_len dLen_noex z.z_len (by decide +kernel) (ad_cons (ed_var 4) ad_nil))))))
  (bd_cons ((sd_if (td_cmp (opd_eq hu) dEq_noex (ed_ix (ixdD hu2) dIxD_noex (ed_var 5) (ed_int)) (ed_int) (by rfl)) (bd_cons ((sd_ret (ed_var 10)))
  bd_nil) bd_nil))
  (bd_cons ((sd_set (i := 9) nd (ed_sl (ed_var 10) od_none (od_some (ed_int)))))
  bd_nil))) bd_nil))
  (bd_cons ((sd_set (i := 11) nd (ed_bin opd_sub dSub_noex (ed_ix (ixdD hu2) dIxD_noex (ed_var 5) (ed_int)) (ed_int))))
  (bd_cons ((sd_frz 9 (sd_if (td_cmp (opd_eq hu) dEq_noex (ed_ix (ixdD hu2) dIxD_noex (ed_var 9) (ed_int)) (ed_str (by decide +kernel)) (by rfl)) (bd_cons ((sd_set (i := 11) nd (ed_callB crd_abs dAbs_noex z.z_abs (by decide +kernel) (ad_cons (ed_var 11) ad_nil))))
  bd_nil) bd_nil)))
  (bd_cons ((sd_if (td_cmp (opd_eq hu) dEq_noex (ed_ix (ixdD hu2) dIxD_noex (ed_var 9) (ed_int)) (ed_str (by decide +kernel)) (by rfl)) (bd_cons ((sd_set (i := 11) nd (ed_un und_neg dNeg_noex (ed_callB crd_abs dAbs_noex z.z_abs (by decide +kernel) (ad_cons (ed_var 11) ad_nil)))))
  bd_nil) bd_nil))
  (bd_cons ((sd_set (i := 12) nd (ed_ix (ixdD hu2) dIxD_noex (ed_lst (ad_cons (ed_str (by decide +kernel)) (ad_cons (ed_str (by decide +kernel)) (ad_cons (ed_str (by decide +kernel)) (ad_cons (ed_str (by decide +kernel)) ad_nil)))) (alen_cons (alen_cons (alen_cons (alen_cons alen_nil))))) (ed_ix (ixdD hu2) dIxD_noex (ed_var 5) (ed_int)))))
  (bd_cons ((sd_if (td_cmp (opd_eq hu) dEq_noex (ed_ix (ixdD hu2) dIxD_noex (ed_var 9) (ed_int)) (ed_str (by decide +kernel)) (by rfl)) (bd_cons ((sd_set (i := 12) nd (ed_ix (ixdD hu2) dIxD_noex (ed_lst (ad_cons (ed_str (by decide +kernel)) (ad_cons (ed_str (by decide +kernel)) (ad_cons (ed_str (by decide +kernel)) (ad_cons (ed_str (by decide +kernel)) ad_nil)))) (alen_cons (alen_cons (alen_cons (alen_cons alen_nil))))) (ed_ix (ixdD hu2) dIxD_noex (ed_var 5) (ed_int)))))
  bd_nil) bd_nil))
  (bd_cons ((sd_set (i := 13) nd (ed_str (by decide +kernel))))
  (bd_cons ((sd_if (td_w (wd_or (td_cmp (opd_eq hu) dEq_noex (ed_var 12) (ed_str (by decide +kernel)) (by rfl)) (wd_one (td_cmp (opd_eq hu) dEq_noex (ed_var 12) (ed_str (by decide +kernel)) (by rfl))))) (bd_cons ((sd_set (i := 13) nd (ed_ix (ixdD hu2) dIxD_noex (ed_bin opd_add dAdd_noex (ed_var 3) (ed_lst (ad_cons (ed_var 8) (ad_cons (ed_var 8) ad_nil)) (alen_cons (alen_cons alen_nil)))) (ed_ix (ixdD hu2) dIxD_noex (ed_var 5) (ed_int)))))
  bd_nil) bd_nil))
  (bd_cons ((sd_set (i := 14) nd (ed_join (ed_str (by decide +kernel)) (ed_lc (own := [("digit", 15)]) rfl nd (id_seq (ed_sl (ed_var 5) (od_some (ed_int)) (od_some (ed_bin opd_add dAdd_noex (ed_int) (ed_ix (ixdD hu2) dIxD_noex (ed_var 5) (ed_int)))))) (blkOk_by (N := ["cell", "letters", "states", "pool", "before", "row", "signs", "letter", "own", "key", "earlier", "move", "deed", "symbol", "said", "digit"]) (sc := defScope s_law_rule) (by decide +kernel)) bg_name (fun _ _ _ _ _ => pg_name (i := 15) nd rfl (Or.inl rfl)) (fun _ _ _ _ _ => bt_nil) (fun _ _ _ _ _ => (ed_ix (ixdD hu2) dIxD_noex (ed_str (by decide +kernel)) (ed_var 15)))))))
  (bd_cons ((sd_ret (ed_bin opd_add dAdd_noex (ed_var 9) (ed_tup (ad_cons (ed_bin opd_mod dMod_noex (ed_callT crd_int dInt_noex z.z_int (by decide +kernel) (ad_cons (ed_ix (ixdD hu2) dIxD_noex (ed_var 5) (ed_int)) ad_nil)) (ed_var 2)) (ad_cons (ed_var 11) (ad_cons (ed_var 12) (ad_cons (ed_var 13) (ad_cons (ed_var 14) ad_nil))))) (alen_cons (alen_cons (alen_cons (alen_cons (alen_cons alen_nil)))))))))
  bd_nil))))))))))))))
theorem b_law_cell (z : Zs K mg) : BodyD P w K mg base 0 ["script", "k", "seed", "cell"] "_law_cell" (defScope s_law_cell) (defBody s_law_cell) F_law_cell := by
  intro f cdv A outer s H G E hr tk hp
  have hu : (cxF P w K mg base ["script", "k", "seed", "cell"] "_law_cell" (defScope s_law_cell) f cdv A outer s H E).A.units + 64 < cLine := by have := hr.un; omega
  have hu2 : (cxF P w K mg base ["script", "k", "seed", "cell"] "_law_cell" (defScope s_law_cell) f cdv A outer s H E).A.units + 65 < cLine := by have := hr.un; omega
  have nd := sc_law_cell.nd
  exact (bd_cons ((sd_if (td_cmp opd_lt dLt_noex (ed_var 1) (ed_callB crd_len dLen_noex z.z_len (by decide +kernel) (ad_cons (ed_var 0) ad_nil)) (by rfl)) (bd_cons ((sd_ret (ed_ix (ixdD hu2) dIxD_noex (ed_var 0) (ed_var 1))))
  bd_nil) bd_nil))
  (bd_cons ((sd_set (i := 2) nd (ed_int)))
  (bd_cons ((sd_for [3] hp rfl (id_seq (ed_var 0)) (gd_name 3 nd) (bd_cons ((sd_set (i := 2) nd (ed_bin opd_mod dMod_noex (ed_callT crd_int dInt_noex z.z_int (by decide +kernel) (ad_cons (ed_bin opd_add dAdd_noex (ed_bin opd_mulw dMulW_noex (ed_var 2) (ed_int)) (ed_bin opd_mod dMod_noex (ed_callT crd_int dInt_noex z.z_int (by decide +kernel) (ad_cons (ed_var 3) ad_nil)) (ed_int))) ad_nil)) (ed_int))))
  bd_nil)))
  (bd_cons ((sd_ret (ed_bin opd_mod dMod_noex (ed_callT crd_int dInt_noex z.z_int (by decide +kernel) (ad_cons (ed_bin opd_mulw dMulW_noex (ed_bin opd_mulw dMulW_noex (ed_bin opd_add dAdd_noex (ed_var 2) (ed_int)) (ed_bin opd_add dAdd_noex (ed_var 1) (ed_int))) (ed_int)) ad_nil)) (ed_int))))
  bd_nil))))
theorem b_law_rules (z : Zs K mg) (c_law_cell : CalD P w K mg base 1 "_law_cell" g_law_cell) (c_law_rule : CalD P w K mg base 2 "_law_rule" g_law_rule) : BodyD P w K mg base 2 ["script", "at", "many", "letters", "states", "pool", "rules", "k"] "_law_rules" (defScope s_law_rules) (defBody s_law_rules) F_law_rules := by
  intro f cdv A outer s H G E hr tk hp
  have hu : (cxF P w K mg base ["script", "at", "many", "letters", "states", "pool", "rules", "k"] "_law_rules" (defScope s_law_rules) f cdv A outer s H E).A.units + 64 < cLine := by have := hr.un; omega
  have hu2 : (cxF P w K mg base ["script", "at", "many", "letters", "states", "pool", "rules", "k"] "_law_rules" (defScope s_law_rules) f cdv A outer s H E).A.units + 65 < cLine := by have := hr.un; omega
  have nd := sc_law_rules.nd
  have hk_law_cell : 1 ≤ 2 := by decide
  have hk_law_rule : 2 ≤ 2 := by decide
  exact (bd_cons ((sd_set (i := 6) nd (ed_lst ad_nil alen_nil)))
  (bd_cons ((sd_for [7] hp rfl (id_range1 z.z_range (ad_cons (ed_var 2) ad_nil)) (gd_name 7 nd) (bd_cons ((sd_append 6 (ed_view (ed_call c_law_rule hr hk_law_rule tk (ad_cons (ed_call c_law_cell hr hk_law_cell tk (ad_cons (ed_var 0) (ad_cons (ed_bin opd_add dAdd_noex (ed_var 1) (ed_var 7)) ad_nil))) (ad_cons (ed_var 3) (ad_cons (ed_var 4) (ad_cons (ed_var 5) (ad_cons (ed_var 6) ad_nil)))))))))
  bd_nil)))
  (bd_cons (sd_retV 6)
  bd_nil)))
theorem b_law_yes (z : Zs K mg) (c_law_digits : CalD P w K mg base 1 "_law_digits" g_law_digits) : BodyD P w K mg base 1 ["cell", "states", "row", "k", "digit"] "_law_yes" (defScope s_law_yes) (defBody s_law_yes) F_law_yes := by
  intro f cdv A outer s H G E hr tk hp
  have hu : (cxF P w K mg base ["cell", "states", "row", "k", "digit"] "_law_yes" (defScope s_law_yes) f cdv A outer s H E).A.units + 64 < cLine := by have := hr.un; omega
  have hu2 : (cxF P w K mg base ["cell", "states", "row", "k", "digit"] "_law_yes" (defScope s_law_yes) f cdv A outer s H E).A.units + 65 < cLine := by have := hr.un; omega
  have nd := sc_law_yes.nd
  have hk_law_digits : 1 ≤ 1 := by decide
  exact (bd_cons ((sd_set (i := 2) nd (ed_call c_law_digits hr hk_law_digits tk (ad_cons (ed_var 0) (ad_cons (ed_bin opd_add dAdd_noex (ed_lst (ad_cons (ed_int) (ad_cons (ed_int) (ad_cons (ed_int) ad_nil))) (alen_cons (alen_cons (alen_cons alen_nil)))) (ed_bin opd_mulw dMulW_noex (ed_lst (ad_cons (ed_int) ad_nil) (alen_cons alen_nil)) (ed_int))) ad_nil)))))
  (bd_cons ((sd_frz 2 (sd_if (td_cmp (opd_eq hu) dEq_noex (ed_ix (ixdD hu2) dIxD_noex (ed_var 2) (ed_int)) (ed_int) (by rfl)) (bd_cons ((sd_ret (ed_lc (own := [("k", 3)]) rfl nd (id_range1 z.z_range (ad_cons (ed_var 1) ad_nil)) (blkOk_by (N := ["cell", "states", "row", "k", "digit"]) (sc := defScope s_law_yes) (by decide +kernel)) bg_name (fun _ _ _ _ _ => pg_name (i := 3) nd rfl (Or.inl rfl)) (fun _ _ _ _ _ => (bt_one (td_cmp (opd_eq hu) dEq_noex (ed_bin opd_mod dMod_noex (ed_callT crd_int dInt_noex z.z_int (by decide +kernel) (ad_cons (ed_var 3) ad_nil)) (ed_bin opd_add dAdd_noex (ed_int) (ed_ix (ixdD hu2) dIxD_noex (ed_var 2) (ed_int)))) (ed_int) (by rfl)))) (fun _ _ _ _ _ => (ed_bin opd_sub dSub_noex (ed_bin opd_sub dSub_noex (ed_var 1) (ed_int)) (ed_var 3))))))
  bd_nil) bd_nil)))
  (bd_cons ((sd_ret (ed_lc (own := [("digit", 4)]) rfl nd (id_seq (ed_sl (ed_var 2) (od_some (ed_int)) (od_some (ed_bin opd_add dAdd_noex (ed_int) (ed_ix (ixdD hu2) dIxD_noex (ed_var 2) (ed_int)))))) (blkOk_by (N := ["cell", "states", "row", "k", "digit"]) (sc := defScope s_law_yes) (by decide +kernel)) bg_name (fun _ _ _ _ _ => pg_name (i := 4) nd rfl (Or.inl rfl)) (fun _ _ _ _ _ => bt_nil) (fun _ _ _ _ _ => (ed_bin opd_mod dMod_noex (ed_callT crd_int dInt_noex z.z_int (by decide +kernel) (ad_cons (ed_var 4) ad_nil)) (ed_var 1))))))
  bd_nil)))
theorem b_law_each_once (z : Zs K mg) : BodyD P w K mg base 0 ["values", "seen", "value"] "_law_each_once" (defScope s_law_each_once) (defBody s_law_each_once) F_law_each_once := by
  intro f cdv A outer s H G E hr tk hp
  have hu : (cxF P w K mg base ["values", "seen", "value"] "_law_each_once" (defScope s_law_each_once) f cdv A outer s H E).A.units + 64 < cLine := by have := hr.un; omega
  have hu2 : (cxF P w K mg base ["values", "seen", "value"] "_law_each_once" (defScope s_law_each_once) f cdv A outer s H E).A.units + 65 < cLine := by have := hr.un; omega
  have nd := sc_law_each_once.nd
  exact (bd_cons ((sd_set (i := 1) nd (ed_dict0)))
  (bd_cons ((sd_for [2] hp rfl (id_seq (ed_var 0)) (gd_name 2 nd) (bd_cons ((sd_put 1 hu2 (ed_var 2) (ed_bl)))
  bd_nil)))
  (bd_cons ((sd_frz 1 (sd_ret (ed_callB crd_srt dSrt_noex z.z_sorted (by decide +kernel) (ad_cons (ed_callT (crd_listD rfl) dListD_noex z.z_list (by decide +kernel) (ad_cons (ed_var 1) ad_nil)) ad_nil)))))
  bd_nil)))
theorem b_law_due (z : Zs K mg) (c_law_each_once : CalD P w K mg base 1 "_law_each_once" g_law_each_once) : BodyD P w K mg base 1 ["letters", "states", "rules", "finals", "ordered", "found", "rule", "symbols", "symbol", "guess", "k"] "_law_due" (defScope s_law_due) (defBody s_law_due) F_law_due := by
  intro f cdv A outer s H G E hr tk hp
  have hu : (cxF P w K mg base ["letters", "states", "rules", "finals", "ordered", "found", "rule", "symbols", "symbol", "guess", "k"] "_law_due" (defScope s_law_due) f cdv A outer s H E).A.units + 64 < cLine := by have := hr.un; omega
  have hu2 : (cxF P w K mg base ["letters", "states", "rules", "finals", "ordered", "found", "rule", "symbols", "symbol", "guess", "k"] "_law_due" (defScope s_law_due) f cdv A outer s H E).A.units + 65 < cLine := by have := hr.un; omega
  have nd := sc_law_due.nd
  have hk_law_each_once : 1 ≤ 1 := by decide
  exact (bd_cons ((sd_set (i := 4) nd (ed_call c_law_each_once hr hk_law_each_once tk (ad_cons (ed_var 2) ad_nil))))
  (bd_cons ((sd_set (i := 5) nd (ed_bin opd_add dAdd_noex (ed_lc (own := [("rule", 6)]) rfl nd (id_seq (ed_var 2)) (blkOk_by (N := ["letters", "states", "rules", "finals", "ordered", "found", "rule", "symbols", "symbol", "guess", "k"]) (sc := defScope s_law_due) (by decide +kernel)) bg_name (fun _ _ _ _ _ => pg_name (i := 6) nd rfl (Or.inl rfl)) (fun _ _ _ _ _ => bt_nil) (fun _ _ _ _ _ => (ed_ix (ixdD hu2) dIxD_noex (ed_var 6) (ed_int)))) (ed_lc (own := [("rule", 6)]) rfl nd (id_seq (ed_var 2)) (blkOk_by (N := ["letters", "states", "rules", "finals", "ordered", "found", "rule", "symbols", "symbol", "guess", "k"]) (sc := defScope s_law_due) (by decide +kernel)) bg_name (fun _ _ _ _ _ => pg_name (i := 6) nd rfl (Or.inl rfl)) (fun _ _ _ _ _ => bt_nil) (fun _ _ _ _ _ => (ed_ix (ixdD hu2) dIxD_noex (ed_var 6) (ed_int)))))))
  (bd_cons ((sd_frz 5 (sd_set (i := 7) nd (ed_call c_law_each_once hr hk_law_each_once tk (ad_cons (ed_lc (own := [("symbol", 8)]) rfl nd (id_seq (ed_var 5)) (blkOk_by (N := ["letters", "states", "rules", "finals", "ordered", "found", "rule", "symbols", "symbol", "guess", "k"]) (sc := defScope s_law_due) (by decide +kernel)) bg_name (fun _ _ _ _ _ => pg_name (i := 8) nd rfl (Or.inl rfl)) (fun _ _ _ _ _ => (bt_one (td_cmp (opd_ne hu) dEq_noex (ed_var 8) (ed_str (by decide +kernel)) (by rfl)))) (fun _ _ _ _ _ => (ed_var 8))) ad_nil)))))
  (bd_cons ((sd_set (i := 9) nd (ed_non)))
  (bd_cons ((sd_frz 4 (sd_for [10] hp rfl (id_range1 z.z_range (ad_cons (ed_bin opd_sub dSub_noex (ed_callB crd_len dLen_noex z.z_len (by decide +kernel) (ad_cons (ed_var 4) ad_nil)) (ed_int)) ad_nil)) (gd_name 10 nd) (bd_cons ((sd_frz 9 (sd_if (td_w (wd_and (td_cmp opd_isN' dIsNn_noex (ed_var 9) (ed_non) (by rfl)) (wd_one (td_cmp (opd_eq hu) dEq_noex (ed_sl (ed_ix (ixdD hu2) dIxD_noex (ed_var 4) (ed_var 10)) od_none (od_some (ed_int))) (ed_sl (ed_ix (ixdD hu2) dIxD_noex (ed_var 4) (ed_bin opd_add dAdd_noex (ed_var 10) (ed_int))) od_none (od_some (ed_int))) (by rfl))))) (bd_cons ((sd_set (i := 9) nd (ed_sl (ed_ix (ixdD hu2) dIxD_noex (ed_var 4) (ed_var 10)) od_none (od_some (ed_int)))))
  bd_nil) bd_nil)))
  bd_nil))))
  (bd_cons ((sd_frz 7 (sd_frz 9 (sd_ret (ed_tup (ad_cons (ed_var 0) (ad_cons (ed_var 1) (ad_cons (ed_callT (crd_tupleS rfl) dTupleS_noex z.z_tuple (by decide +kernel) (ad_cons (ed_var 4) ad_nil)) (ad_cons (ed_callT (crd_tupleS rfl) dTupleS_noex z.z_tuple (by decide +kernel) (ad_cons (ed_call c_law_each_once hr hk_law_each_once tk (ad_cons (ed_var 3) ad_nil)) ad_nil)) (ad_cons (ed_callT (crd_tupleS rfl) dTupleS_noex z.z_tuple (by decide +kernel) (ad_cons (ed_var 7) ad_nil)) (ad_cons (ed_var 9) ad_nil)))))) (alen_cons (alen_cons (alen_cons (alen_cons (alen_cons (alen_cons alen_nil)))))))))))
  bd_nil))))))
theorem b_is_alphabet (z : Zs K mg) : BodyD P w K mg base 0 ["value", "at", "letter"] "is_alphabet" (defScope s_is_alphabet) (defBody s_is_alphabet) F_is_alphabet := by
  intro f cdv A outer s H G E hr tk hp
  have hu : (cxF P w K mg base ["value", "at", "letter"] "is_alphabet" (defScope s_is_alphabet) f cdv A outer s H E).A.units + 64 < cLine := by have := hr.un; omega
  have hu2 : (cxF P w K mg base ["value", "at", "letter"] "is_alphabet" (defScope s_is_alphabet) f cdv A outer s H E).A.units + 65 < cLine := by have := hr.un; omega
  have nd := sc_is_alphabet.nd
  exact (bd_cons ((sd_if (td_w (wd_or (td_not (td_val (ed_isi .str (ed_var 0) z.z_isinstance z.z_str (by decide +kernel)))) (wd_one (td_cmp (opd_eq hu) dEq_noex (ed_var 0) (ed_str (by decide +kernel)) (by rfl))))) (bd_cons ((sd_ret (ed_bl)))
  bd_nil) bd_nil))
  (bd_cons ((sd_for [1, 2] hp rfl (id_enumA z.z_enumerate (ad_cons (ed_var 0) ad_nil)) (gd_tl (is := [1, 2]) rfl (pgs_cons (pg_name (i := 1) nd rfl (Or.inl rfl)) (pgs_cons (pg_name (i := 2) nd rfl (Or.inl rfl)) pgs_nil))) (bd_cons ((sd_if (td_w (wd_or (td_cmp (opd_inD2 hu2) dInD_noex (ed_var 2) (ed_glob z.c_LETTERS) (by rfl)) (wd_one (td_w (wd_and (td_cmp opd_gt dGt_noex (ed_var 1) (ed_int) (by rfl)) (wd_one (td_cmp opd_le dLe_noex (ed_var 2) (ed_ix (ixdD hu2) dIxD_noex (ed_var 0) (ed_bin opd_sub dSub_noex (ed_var 1) (ed_int))) (by rfl)))))))) (bd_cons ((sd_ret (ed_bl)))
  bd_nil) bd_nil))
  bd_nil)))
  (bd_cons ((sd_ret (ed_bl)))
  bd_nil)))
theorem b_is_whole (z : Zs K mg) : BodyD P w K mg base 0 ["value"] "is_whole" (defScope s_is_whole) (defBody s_is_whole) F_is_whole := by
  intro f cdv A outer s H G E hr tk hp
  have hu : (cxF P w K mg base ["value"] "is_whole" (defScope s_is_whole) f cdv A outer s H E).A.units + 64 < cLine := by have := hr.un; omega
  have hu2 : (cxF P w K mg base ["value"] "is_whole" (defScope s_is_whole) f cdv A outer s H E).A.units + 65 < cLine := by have := hr.un; omega
  have nd := sc_is_whole.nd
  exact (bd_cons ((sd_ret ((ed_and (ed_isi .int (ed_var 0) z.z_isinstance z.z_int (by decide +kernel)) (ed_and1 (ed_not (ed_isi .bool (ed_var 0) z.z_isinstance z.z_bool (by decide +kernel))))))))
  bd_nil)
theorem b_is_state (z : Zs K mg) (c_is_whole : CalD P w K mg base 1 "is_whole" g_is_whole) : BodyD P w K mg base 1 ["states", "value"] "is_state" (defScope s_is_state) (defBody s_is_state) F_is_state := by
  intro f cdv A outer s H G E hr tk hp
  have hu : (cxF P w K mg base ["states", "value"] "is_state" (defScope s_is_state) f cdv A outer s H E).A.units + 64 < cLine := by have := hr.un; omega
  have hu2 : (cxF P w K mg base ["states", "value"] "is_state" (defScope s_is_state) f cdv A outer s H E).A.units + 65 < cLine := by have := hr.un; omega
  have nd := sc_is_state.nd
  have hk_is_whole : 1 ≤ 1 := by decide
  exact (bd_cons ((sd_ret ((ed_and (ed_call c_is_whole hr hk_is_whole tk (ad_cons (ed_var 1) ad_nil)) (ed_and1 (ed_chain opd_le dLe_noex opd_lt dLt_noex (ed_int) (ed_var 1) (ed_var 0)))))))
  bd_nil)
theorem b_signs_of (z : Zs K mg) : BodyD P w K mg base 0 ["letters"] "signs_of" (defScope s_signs_of) (defBody s_signs_of) F_signs_of := by
  intro f cdv A outer s H G E hr tk hp
  have hu : (cxF P w K mg base ["letters"] "signs_of" (defScope s_signs_of) f cdv A outer s H E).A.units + 64 < cLine := by have := hr.un; omega
  have hu2 : (cxF P w K mg base ["letters"] "signs_of" (defScope s_signs_of) f cdv A outer s H E).A.units + 65 < cLine := by have := hr.un; omega
  have nd := sc_signs_of.nd
  exact (bd_cons ((sd_ret (ed_bin opd_add dAdd_noex (ed_tup (ad_cons (ed_str (by decide +kernel)) (ad_cons (ed_str (by decide +kernel)) ad_nil)) (alen_cons (alen_cons alen_nil))) (ed_callT (crd_tupleS rfl) dTupleS_noex z.z_tuple (by decide +kernel) (ad_cons (ed_var 0) ad_nil)))))
  bd_nil)
theorem b_is_symbol (z : Zs K mg) : BodyD P w K mg base 0 ["value", "sign"] "is_symbol" (defScope s_is_symbol) (defBody s_is_symbol) F_is_symbol := by
  intro f cdv A outer s H G E hr tk hp
  have hu : (cxF P w K mg base ["value", "sign"] "is_symbol" (defScope s_is_symbol) f cdv A outer s H E).A.units + 64 < cLine := by have := hr.un; omega
  have hu2 : (cxF P w K mg base ["value", "sign"] "is_symbol" (defScope s_is_symbol) f cdv A outer s H E).A.units + 65 < cLine := by have := hr.un; omega
  have nd := sc_is_symbol.nd
  exact (bd_cons ((sd_if (td_w (wd_or (td_not (td_val (ed_isi .str (ed_var 0) z.z_isinstance z.z_str (by decide +kernel)))) (wd_one (td_not (td_chain opd_le dLe_noex opd_le dLe_noex (ed_int) (ed_callB crd_len dLen_noex z.z_len (by decide +kernel) (ad_cons (ed_var 0) ad_nil)) (ed_int)))))) (bd_cons ((sd_ret (ed_bl)))
  bd_nil) bd_nil))
  (bd_cons ((sd_ret (ed_callB (crd_all rfl) dAll_noex z.z_all (by decide +kernel) (ad_cons (ed_lc (own := [("sign", 1)]) rfl nd (id_seq (ed_var 0)) (blkOk_by (N := ["value", "sign"]) (sc := defScope s_is_symbol) (by decide +kernel)) bg_name (fun _ _ _ _ _ => pg_name (i := 1) nd rfl (Or.inl rfl)) (fun _ _ _ _ _ => bt_nil) (fun _ _ _ _ _ => ((ed_or (ed_cmp (opd_inD1 hu2) dInD_noex (ed_var 1) (ed_glob z.c_LETTERS) (by rfl)) (ed_or (ed_cmp (opd_inD1 hu2) dInD_noex (ed_var 1) (ed_glob z.c_CAPITALS) (by rfl)) (ed_and1 (ed_cmp (opd_inD1 hu2) dInD_noex (ed_var 1) (ed_glob z.c_DIGITS) (by rfl)))))))) ad_nil))))
  bd_nil))
theorem b_is_key (z : Zs K mg) (c_is_state : CalD P w K mg base 2 "is_state" g_is_state) (c_is_symbol : CalD P w K mg base 1 "is_symbol" g_is_symbol) (c_signs_of : CalD P w K mg base 1 "signs_of" g_signs_of) : BodyD P w K mg base 2 ["letters", "states", "key"] "is_key" (defScope s_is_key) (defBody s_is_key) F_is_key := by
  intro f cdv A outer s H G E hr tk hp
  have hu : (cxF P w K mg base ["letters", "states", "key"] "is_key" (defScope s_is_key) f cdv A outer s H E).A.units + 64 < cLine := by have := hr.un; omega
  have hu2 : (cxF P w K mg base ["letters", "states", "key"] "is_key" (defScope s_is_key) f cdv A outer s H E).A.units + 65 < cLine := by have := hr.un; omega
  have nd := sc_is_key.nd
  have hk_signs_of : 1 ≤ 2 := by decide
  have hk_is_state : 2 ≤ 2 := by decide
  have hk_is_symbol : 1 ≤ 2 := by decide
  exact (bd_cons ((sd_if (td_w (wd_or (td_not (td_val (ed_call c_is_state hr hk_is_state tk (ad_cons (ed_var 1) (ad_cons (ed_ix (ixdD hu2) dIxD_noex (ed_var 2) (ed_int)) ad_nil))))) (wd_or (td_not (td_val (ed_isi .str (ed_ix (ixdD hu2) dIxD_noex (ed_var 2) (ed_int)) z.z_isinstance z.z_str (by decide +kernel)))) (wd_one (td_not (td_val (ed_isi .str (ed_ix (ixdD hu2) dIxD_noex (ed_var 2) (ed_int)) z.z_isinstance z.z_str (by decide +kernel)))))))) (bd_cons ((sd_ret (ed_bl)))
  bd_nil) bd_nil))
  (bd_cons ((sd_ret ((ed_and (ed_cmp (opd_inD1 hu2) dInD_noex (ed_ix (ixdD hu2) dIxD_noex (ed_var 2) (ed_int)) (ed_call c_signs_of hr hk_signs_of tk (ad_cons (ed_var 0) ad_nil)) (by rfl)) (ed_and1 ((ed_or (ed_cmp (opd_eq hu) dEq_noex (ed_ix (ixdD hu2) dIxD_noex (ed_var 2) (ed_int)) (ed_str (by decide +kernel)) (by rfl)) (ed_and1 (ed_call c_is_symbol hr hk_is_symbol tk (ad_cons (ed_ix (ixdD hu2) dIxD_noex (ed_var 2) (ed_int)) ad_nil))))))))))
  bd_nil))
theorem b_is_said (z : Zs K mg) : BodyD P w K mg base 0 ["value", "letter"] "is_said" (defScope s_is_said) (defBody s_is_said) F_is_said := by
  intro f cdv A outer s H G E hr tk hp
  have hu : (cxF P w K mg base ["value", "letter"] "is_said" (defScope s_is_said) f cdv A outer s H E).A.units + 64 < cLine := by have := hr.un; omega
  have hu2 : (cxF P w K mg base ["value", "letter"] "is_said" (defScope s_is_said) f cdv A outer s H E).A.units + 65 < cLine := by have := hr.un; omega
  have nd := sc_is_said.nd
  exact (bd_cons ((sd_ret ((ed_and (ed_isi .str (ed_var 0) z.z_isinstance z.z_str (by decide +kernel)) (ed_and (ed_cmp opd_le dLe_noex (ed_callB crd_len dLen_noex z.z_len (by decide +kernel) (ad_cons (ed_var 0) ad_nil)) (ed_int) (by rfl)) (ed_and1 (ed_callB (crd_all rfl) dAll_noex z.z_all (by decide +kernel) (ad_cons (ed_lc (own := [("letter", 1)]) rfl nd (id_seq (ed_var 0)) (blkOk_by (N := ["value", "letter"]) (sc := defScope s_is_said) (by decide +kernel)) bg_name (fun _ _ _ _ _ => pg_name (i := 1) nd rfl (Or.inl rfl)) (fun _ _ _ _ _ => bt_nil) (fun _ _ _ _ _ => (ed_cmp (opd_inD1 hu2) dInD_noex (ed_var 1) (ed_glob z.c_LETTERS) (by rfl)))) ad_nil))))))))
  bd_nil)
theorem b_is_act (z : Zs K mg) (c_is_said : CalD P w K mg base 1 "is_said" g_is_said) (c_is_state : CalD P w K mg base 2 "is_state" g_is_state) (c_is_symbol : CalD P w K mg base 1 "is_symbol" g_is_symbol) (c_is_whole : CalD P w K mg base 1 "is_whole" g_is_whole) : BodyD P w K mg base 2 ["states", "key", "act", "after", "move", "deed", "symbol", "said"] "is_act" (defScope s_is_act) (defBody s_is_act) F_is_act := by
  intro f cdv A outer s H G E hr tk hp
  have hu : (cxF P w K mg base ["states", "key", "act", "after", "move", "deed", "symbol", "said"] "is_act" (defScope s_is_act) f cdv A outer s H E).A.units + 64 < cLine := by have := hr.un; omega
  have hu2 : (cxF P w K mg base ["states", "key", "act", "after", "move", "deed", "symbol", "said"] "is_act" (defScope s_is_act) f cdv A outer s H E).A.units + 65 < cLine := by have := hr.un; omega
  have nd := sc_is_act.nd
  have hk_is_said : 1 ≤ 2 := by decide
  have hk_is_whole : 1 ≤ 2 := by decide
  have hk_is_state : 2 ≤ 2 := by decide
  have hk_is_symbol : 1 ≤ 2 := by decide
  exact (bd_cons ((sd_asg (ed_var 2) (gd_tl (is := [3, 4, 5, 6, 7]) rfl (pgs_cons (pg_name (i := 3) nd rfl (Or.inl rfl)) (pgs_cons (pg_name (i := 4) nd rfl (Or.inl rfl)) (pgs_cons (pg_name (i := 5) nd rfl (Or.inl rfl)) (pgs_cons (pg_name (i := 6) nd rfl (Or.inl rfl)) (pgs_cons (pg_name (i := 7) nd rfl (Or.inl rfl)) pgs_nil))))))))
  (bd_cons ((sd_if (td_w (wd_or (td_not (td_val (ed_call c_is_state hr hk_is_state tk (ad_cons (ed_var 0) (ad_cons (ed_var 3) ad_nil))))) (wd_or (td_not (td_val (ed_call c_is_whole hr hk_is_whole tk (ad_cons (ed_var 4) ad_nil)))) (wd_one (td_not (td_chain opd_le dLe_noex opd_le dLe_noex (ed_un und_neg dNeg_noex (ed_int)) (ed_var 4) (ed_int))))))) (bd_cons ((sd_ret (ed_bl)))
  bd_nil) bd_nil))
  (bd_cons ((sd_if (td_w (wd_or (td_w (wd_and (td_cmp (opd_eq hu) dEq_noex (ed_ix (ixdD hu2) dIxD_noex (ed_var 1) (ed_int)) (ed_str (by decide +kernel)) (by rfl)) (wd_one (td_cmp (opd_eq hu) dEq_noex (ed_var 4) (ed_un und_neg dNeg_noex (ed_int)) (by rfl))))) (wd_one (td_w (wd_and (td_cmp (opd_eq hu) dEq_noex (ed_ix (ixdD hu2) dIxD_noex (ed_var 1) (ed_int)) (ed_str (by decide +kernel)) (by rfl)) (wd_one (td_cmp (opd_eq hu) dEq_noex (ed_var 4) (ed_int) (by rfl)))))))) (bd_cons ((sd_ret (ed_bl)))
  bd_nil) bd_nil))
  (bd_cons ((sd_if (td_w (wd_or (td_not (td_val (ed_isi .str (ed_var 5) z.z_isinstance z.z_str (by decide +kernel)))) (wd_or (td_cmp (opd_inD2 hu2) dInD_noex (ed_var 5) (ed_glob z.c_DEEDS) (by rfl)) (wd_one (td_not (td_val (ed_call c_is_said hr hk_is_said tk (ad_cons (ed_var 7) ad_nil)))))))) (bd_cons ((sd_ret (ed_bl)))
  bd_nil) bd_nil))
  (bd_cons ((sd_if (td_w (wd_and (td_cmp (opd_eq hu) dEq_noex (ed_ix (ixdD hu2) dIxD_noex (ed_var 1) (ed_int)) (ed_str (by decide +kernel)) (by rfl)) (wd_one (td_cmp (opd_inD1 hu2) dInD_noex (ed_var 5) (ed_tup (ad_cons (ed_str (by decide +kernel)) (ad_cons (ed_str (by decide +kernel)) ad_nil)) (alen_cons (alen_cons alen_nil))) (by rfl))))) (bd_cons ((sd_ret (ed_bl)))
  bd_nil) bd_nil))
  (bd_cons ((sd_if (td_cmp (opd_inD1 hu2) dInD_noex (ed_var 5) (ed_tup (ad_cons (ed_str (by decide +kernel)) (ad_cons (ed_str (by decide +kernel)) ad_nil)) (alen_cons (alen_cons alen_nil))) (by rfl)) (bd_cons ((sd_ret (ed_call c_is_symbol hr hk_is_symbol tk (ad_cons (ed_var 6) ad_nil))))
  bd_nil) bd_nil))
  (bd_cons ((sd_ret ((ed_and (ed_isi .str (ed_var 6) z.z_isinstance z.z_str (by decide +kernel)) (ed_and1 (ed_cmp (opd_eq hu) dEq_noex (ed_var 6) (ed_str (by decide +kernel)) (by rfl)))))))
  bd_nil)))))))
theorem b_is_row (z : Zs K mg) : BodyD P w K mg base 0 ["value"] "is_row" (defScope s_is_row) (defBody s_is_row) F_is_row := by
  intro f cdv A outer s H G E hr tk hp
  have hu : (cxF P w K mg base ["value"] "is_row" (defScope s_is_row) f cdv A outer s H E).A.units + 64 < cLine := by have := hr.un; omega
  have hu2 : (cxF P w K mg base ["value"] "is_row" (defScope s_is_row) f cdv A outer s H E).A.units + 65 < cLine := by have := hr.un; omega
  have nd := sc_is_row.nd
  exact (bd_cons ((sd_ret (ed_isi2 .list .tuple (ed_var 0) z.z_isinstance z.z_list (by decide +kernel) z.z_tuple (by decide +kernel))))
  bd_nil)
theorem b_is_rule (z : Zs K mg) (c_is_act : CalD P w K mg base 3 "is_act" g_is_act) (c_is_key : CalD P w K mg base 3 "is_key" g_is_key) (c_is_row : CalD P w K mg base 1 "is_row" g_is_row) : BodyD P w K mg base 3 ["letters", "states", "rule"] "is_rule" (defScope s_is_rule) (defBody s_is_rule) F_is_rule := by
  intro f cdv A outer s H G E hr tk hp
  have hu : (cxF P w K mg base ["letters", "states", "rule"] "is_rule" (defScope s_is_rule) f cdv A outer s H E).A.units + 64 < cLine := by have := hr.un; omega
  have hu2 : (cxF P w K mg base ["letters", "states", "rule"] "is_rule" (defScope s_is_rule) f cdv A outer s H E).A.units + 65 < cLine := by have := hr.un; omega
  have nd := sc_is_rule.nd
  have hk_is_key : 3 ≤ 3 := by decide
  have hk_is_row : 1 ≤ 3 := by decide
  have hk_is_act : 3 ≤ 3 := by decide
  exact (bd_cons ((sd_if (td_w (wd_or (td_not (td_val (ed_call c_is_row hr hk_is_row tk (ad_cons (ed_var 2) ad_nil)))) (wd_one (td_cmp (opd_ne hu) dEq_noex (ed_callB crd_len dLen_noex z.z_len (by decide +kernel) (ad_cons (ed_var 2) ad_nil)) (ed_int) (by rfl))))) (bd_cons ((sd_ret (ed_bl)))
  bd_nil) bd_nil))
  (bd_cons ((sd_ret ((ed_and (ed_call c_is_key hr hk_is_key tk (ad_cons (ed_var 0) (ad_cons (ed_var 1) (ad_cons (ed_sl (ed_var 2) od_none (od_some (ed_int))) ad_nil)))) (ed_and1 (ed_call c_is_act hr hk_is_act tk (ad_cons (ed_var 1) (ad_cons (ed_sl (ed_var 2) od_none (od_some (ed_int))) (ad_cons (ed_sl (ed_var 2) (od_some (ed_int)) od_none) ad_nil)))))))))
  bd_nil))
theorem b_check_machine (z : Zs K mg) (c_is_alphabet : CalD P w K mg base 1 "is_alphabet" g_is_alphabet) (c_is_rule : CalD P w K mg base 4 "is_rule" g_is_rule) (c_is_state : CalD P w K mg base 2 "is_state" g_is_state) (c_is_whole : CalD P w K mg base 1 "is_whole" g_is_whole) (x_BadMachine : ExcD P w K mg base "BadMachine" ["where"]) : BodyD P w K mg base 4 ["letters", "states", "rules", "yes", "index", "rule", "state"] "check_machine" (defScope s_check_machine) (defBody s_check_machine) F_check_machine := by
  intro f cdv A outer s H G E hr tk hp
  have hu : (cxF P w K mg base ["letters", "states", "rules", "yes", "index", "rule", "state"] "check_machine" (defScope s_check_machine) f cdv A outer s H E).A.units + 64 < cLine := by have := hr.un; omega
  have hu2 : (cxF P w K mg base ["letters", "states", "rules", "yes", "index", "rule", "state"] "check_machine" (defScope s_check_machine) f cdv A outer s H E).A.units + 65 < cLine := by have := hr.un; omega
  have nd := sc_check_machine.nd
  have hk_is_state : 2 ≤ 4 := by decide
  have hk_is_whole : 1 ≤ 4 := by decide
  have hk_is_rule : 4 ≤ 4 := by decide
  have hk_is_alphabet : 1 ≤ 4 := by decide
  exact (bd_cons ((sd_if (td_not (td_val (ed_call c_is_alphabet hr hk_is_alphabet tk (ad_cons (ed_var 0) ad_nil)))) (bd_cons ((sd_raise rfl x_BadMachine hr (by decide) tk (ad_cons (ed_str (by decide +kernel)) ad_nil)))
  bd_nil) bd_nil))
  (bd_cons ((sd_if (td_w (wd_or (td_not (td_val (ed_call c_is_whole hr hk_is_whole tk (ad_cons (ed_var 1) ad_nil)))) (wd_one (td_not (td_chain opd_le dLe_noex opd_le dLe_noex (ed_int) (ed_var 1) (ed_glob z.c_MOST_STATES)))))) (bd_cons ((sd_raise rfl x_BadMachine hr (by decide) tk (ad_cons (ed_str (by decide +kernel)) ad_nil)))
  bd_nil) bd_nil))
  (bd_cons ((sd_if (td_cmp opd_gt dGt_noex (ed_callB crd_len dLen_noex z.z_len (by decide +kernel) (ad_cons (ed_var 2) ad_nil)) (ed_glob z.c_MOST_RULES) (by rfl)) (bd_cons ((sd_raise rfl x_BadMachine hr (by decide) tk (ad_cons (ed_str (by decide +kernel)) ad_nil)))
  bd_nil) bd_nil))
  (bd_cons ((sd_for [4, 5] hp rfl (id_enumA z.z_enumerate (ad_cons (ed_var 2) ad_nil)) (gd_tl (is := [4, 5]) rfl (pgs_cons (pg_name (i := 4) nd rfl (Or.inl rfl)) (pgs_cons (pg_name (i := 5) nd rfl (Or.inl rfl)) pgs_nil))) (bd_cons ((sd_if (td_not (td_val (ed_call c_is_rule hr hk_is_rule tk (ad_cons (ed_var 0) (ad_cons (ed_var 1) (ad_cons (ed_var 5) ad_nil)))))) (bd_cons ((sd_raise rfl x_BadMachine hr (by decide) tk (ad_cons (ed_var 4) ad_nil)))
  bd_nil) bd_nil))
  bd_nil)))
  (bd_cons ((sd_for [6] hp rfl (id_seq (ed_var 3)) (gd_name 6 nd) (bd_cons ((sd_if (td_not (td_val (ed_call c_is_state hr hk_is_state tk (ad_cons (ed_var 1) (ad_cons (ed_var 6) ad_nil))))) (bd_cons ((sd_raise rfl x_BadMachine hr (by decide) tk (ad_cons (ed_str (by decide +kernel)) ad_nil)))
  bd_nil) bd_nil))
  bd_nil)))
  bd_nil)))))
theorem b_frozen (z : Zs K mg) {k : Nat} {g : List D → R RV} (hk0 : 0 ≤ k) (c_frozen : CalD P w K mg base k "frozen" g) : BodyD P w K mg base k ["value", "part"] "frozen" (defScope s_frozen) (defBody s_frozen) (F_frozen g) := by
  intro f cdv A outer s H G E hr tk hp
  have hu : (cxF P w K mg base ["value", "part"] "frozen" (defScope s_frozen) f cdv A outer s H E).A.units + 64 < cLine := by have := hr.un; omega
  have hu2 : (cxF P w K mg base ["value", "part"] "frozen" (defScope s_frozen) f cdv A outer s H E).A.units + 65 < cLine := by have := hr.un; omega
  have nd := sc_frozen.nd
  have hk_frozen : k ≤ k := Nat.le_refl k
  exact (bd_cons ((sd_if (td_val (ed_isi2 .list .tuple (ed_var 0) z.z_isinstance z.z_list (by decide +kernel) z.z_tuple (by decide +kernel))) (bd_cons ((sd_ret (ed_callT (crd_tupleS rfl) dTupleS_noex z.z_tuple (by decide +kernel) (ad_cons (ed_lc (own := [("part", 1)]) rfl nd (id_seq (ed_var 0)) (blkOk_by (N := ["value", "part"]) (sc := defScope s_frozen) (by decide +kernel)) bg_name (fun _ _ _ _ _ => pg_name (i := 1) nd rfl (Or.inl rfl)) (fun _ _ _ _ _ => bt_nil) (fun _ _ _ _ _ => (ed_call c_frozen hr hk_frozen takes_no (ad_cons (ed_var 1) ad_nil)))) ad_nil))))
  bd_nil) bd_nil))
  (bd_cons ((sd_ret (ed_var 0)))
  bd_nil))
theorem b_first_guess (z : Zs K mg) : BodyD P w K mg base 0 ["rules", "at"] "first_guess" (defScope s_first_guess) (defBody s_first_guess) F_first_guess := by
  intro f cdv A outer s H G E hr tk hp
  have hu : (cxF P w K mg base ["rules", "at"] "first_guess" (defScope s_first_guess) f cdv A outer s H E).A.units + 64 < cLine := by have := hr.un; omega
  have hu2 : (cxF P w K mg base ["rules", "at"] "first_guess" (defScope s_first_guess) f cdv A outer s H E).A.units + 65 < cLine := by have := hr.un; omega
  have nd := sc_first_guess.nd
  exact (bd_cons ((sd_for [1] hp rfl (id_range1 z.z_range (ad_cons (ed_bin opd_sub dSub_noex (ed_callB crd_len dLen_noex z.z_len (by decide +kernel) (ad_cons (ed_var 0) ad_nil)) (ed_int)) ad_nil)) (gd_name 1 nd) (bd_cons ((sd_if (td_cmp (opd_eq hu) dEq_noex (ed_sl (ed_ix (ixdD hu2) dIxD_noex (ed_var 0) (ed_var 1)) od_none (od_some (ed_int))) (ed_sl (ed_ix (ixdD hu2) dIxD_noex (ed_var 0) (ed_bin opd_add dAdd_noex (ed_var 1) (ed_int))) od_none (od_some (ed_int))) (by rfl)) (bd_cons ((sd_ret (ed_sl (ed_ix (ixdD hu2) dIxD_noex (ed_var 0) (ed_var 1)) od_none (od_some (ed_int)))))
  bd_nil) bd_nil))
  bd_nil)))
  (bd_cons ((sd_ret (ed_non)))
  bd_nil))
theorem b_Machine_init (z : Zs K mg) (c_check_machine : CalD P w K mg base 5 "check_machine" g_check_machine) (c_first_guess : CalD P w K mg base 1 "first_guess" g_first_guess) (c_frozen : CalD P w K mg base 8 "frozen" g_frozen) : BodyI P w K mg base 8 ["self", "letters", "states", "rules", "yes", "rows", "found", "rule", "symbol", "table"] "Machine.__init__" (defScope s_Machine_init) (defBody s_Machine_init) F_Machine_init := by
  intro f cdv A outer s H Hb G E hr tk hp
  have hu : (cxF P w K mg base ["self", "letters", "states", "rules", "yes", "rows", "found", "rule", "symbol", "table"] "Machine.__init__" (defScope s_Machine_init) f cdv A outer s H E).A.units + 64 < cLine := by have := hr.un; omega
  have hu2 : (cxF P w K mg base ["self", "letters", "states", "rules", "yes", "rows", "found", "rule", "symbol", "table"] "Machine.__init__" (defScope s_Machine_init) f cdv A outer s H E).A.units + 65 < cLine := by have := hr.un; omega
  have nd := sc_Machine_init.nd
  have hk_check_machine : 5 ≤ 8 := by decide
  have hk_first_guess : 1 ≤ 8 := by decide
  have hk_frozen : 8 ≤ 8 := by decide
  exact (bd_cons ((sd_expr (ed_call c_check_machine hr hk_check_machine tk (ad_cons (ed_var 1) (ad_cons (ed_var 2) (ad_cons (ed_var 3) (ad_cons (ed_var 4) ad_nil)))))))
  (bd_cons ((sd_set (i := 5) nd (ed_call c_frozen hr hk_frozen tk (ad_cons (ed_var 3) ad_nil))))
  (bd_cons ((sd_fld 0 ["Machine"] z.f_letters (ed_var 1)))
  (bd_cons ((sd_fld 0 ["Machine"] z.f_states (ed_var 2)))
  (bd_cons ((sd_frz 5 (sd_fld 0 ["Machine"] z.f_rules (ed_callT (crd_tupleS rfl) dTupleS_noex z.z_tuple (by decide +kernel) (ad_cons (ed_ss rfl hu z.z_sorted z.z_set (ed_var 5)) ad_nil)))))
  (bd_cons ((sd_fld 0 ["Machine"] z.f_yes (ed_callT (crd_tupleS rfl) dTupleS_noex z.z_tuple (by decide +kernel) (ad_cons (ed_ss rfl hu z.z_sorted z.z_set (ed_var 4)) ad_nil))))
  (bd_cons ((sd_set (i := 6) nd (ed_bin opd_add dAdd_noex (ed_lc (own := [("rule", 7)]) rfl nd (id_seq (ed_var 5)) (blkOk_by (N := ["self", "letters", "states", "rules", "yes", "rows", "found", "rule", "symbol", "table"]) (sc := defScope s_Machine_init) (by decide +kernel)) bg_name (fun _ _ _ _ _ => pg_name (i := 7) nd rfl (Or.inl rfl)) (fun _ _ _ _ _ => (bt_one (td_cmp (opd_ne hu) dEq_noex (ed_ix (ixdD hu2) dIxD_noex (ed_var 7) (ed_int)) (ed_str (by decide +kernel)) (by rfl)))) (fun _ _ _ _ _ => (ed_ix (ixdD hu2) dIxD_noex (ed_var 7) (ed_int)))) (ed_lc (own := [("rule", 7)]) rfl nd (id_seq (ed_var 5)) (blkOk_by (N := ["self", "letters", "states", "rules", "yes", "rows", "found", "rule", "symbol", "table"]) (sc := defScope s_Machine_init) (by decide +kernel)) bg_name (fun _ _ _ _ _ => pg_name (i := 7) nd rfl (Or.inl rfl)) (fun _ _ _ _ _ => (bt_one (td_cmp (opd_ne hu) dEq_noex (ed_ix (ixdD hu2) dIxD_noex (ed_var 7) (ed_int)) (ed_str (by decide +kernel)) (by rfl)))) (fun _ _ _ _ _ => (ed_ix (ixdD hu2) dIxD_noex (ed_var 7) (ed_int)))))))
  (bd_cons ((sd_frz 6 (sd_fld 0 ["Machine"] z.f_symbols (ed_callT (crd_tupleS rfl) dTupleS_noex z.z_tuple (by decide +kernel) (ad_cons (ed_ss rfl hu z.z_sorted z.z_set (ed_var 6)) ad_nil)))))
  (bd_cons ((sd_fld 0 ["Machine"] z.f_known_symbols (ed_dc (own := [("symbol", 8)]) rfl nd (id_seq (ed_ownF 0 ["Machine"] z.f_symbols)) (blkOk_by (N := ["self", "letters", "states", "rules", "yes", "rows", "found", "rule", "symbol", "table"]) (sc := defScope s_Machine_init) (by decide +kernel)) bg_name (fun _ _ _ _ _ => pg_name (i := 8) nd rfl (Or.inl rfl)) (fun _ _ _ _ _ => bt_nil) (fun _ _ _ _ _ => (ed_var 8)) (fun _ _ _ _ _ => (ed_bl)))))
  (bd_cons ((sd_fld 0 ["Machine"] z.f_guess (ed_call c_first_guess hr hk_first_guess tk (ad_cons (ed_ownF 0 ["Machine"] z.f_rules) ad_nil))))
  (bd_cons ((sd_set (i := 9) nd (ed_dict0)))
  (bd_cons ((sd_for [] hp rfl (id_seq (ed_ownF 0 ["Machine"] z.f_rules)) (gd_name 7 nd) (bd_cons ((sd_put 9 hu2 (ed_sl (ed_var 7) od_none (od_some (ed_int))) (ed_view (ed_bin opd_add dAdd_noex (ed_get2 hu2 (ed_var 9) (ed_sl (ed_var 7) od_none (od_some (ed_int))) (ed_tup ad_nil alen_nil)) (ed_tup (ad_cons (ed_sl (ed_var 7) (od_some (ed_int)) od_none) ad_nil) (alen_cons alen_nil))))))
  bd_nil)))
  (bd_cons ((sd_frz 9 (sd_fld 0 ["Machine"] z.f__table (ed_var 9))))
  bd_nil)))))))))))))
theorem b_law_whole (z : Zs K mg) : BodyD P w K mg base 0 ["value"] "_law_whole" (defScope s_law_whole) (defBody s_law_whole) F_law_whole := by
  intro f cdv A outer s H G E hr tk hp
  have hu : (cxF P w K mg base ["value"] "_law_whole" (defScope s_law_whole) f cdv A outer s H E).A.units + 64 < cLine := by have := hr.un; omega
  have hu2 : (cxF P w K mg base ["value"] "_law_whole" (defScope s_law_whole) f cdv A outer s H E).A.units + 65 < cLine := by have := hr.un; omega
  have nd := sc_law_whole.nd
  exact (bd_cons ((sd_ret ((ed_and (ed_isi .int (ed_var 0) z.z_isinstance z.z_int (by decide +kernel)) (ed_and1 (ed_not (ed_isi .bool (ed_var 0) z.z_isinstance z.z_bool (by decide +kernel))))))))
  bd_nil)
theorem b_law_same (z : Zs K mg) (c_law_whole : CalD P w K mg base 1 "_law_whole" g_law_whole) {k : Nat} {g : List D → R RV} (hk0 : 1 ≤ k) (c_law_same : CalD P w K mg base k "_law_same" g) : BodyD P w K mg base k ["told", "due", "k"] "_law_same" (defScope s_law_same) (defBody s_law_same) (F_law_same g) := by
  intro f cdv A outer s H G E hr tk hp
  have hu : (cxF P w K mg base ["told", "due", "k"] "_law_same" (defScope s_law_same) f cdv A outer s H E).A.units + 64 < cLine := by have := hr.un; omega
  have hu2 : (cxF P w K mg base ["told", "due", "k"] "_law_same" (defScope s_law_same) f cdv A outer s H E).A.units + 65 < cLine := by have := hr.un; omega
  have nd := sc_law_same.nd
  have hk_law_same : k ≤ k := Nat.le_refl k
  have hk_law_whole : 1 ≤ k := by omega
  exact (bd_cons ((sd_if (td_val (ed_isi .tuple (ed_var 1) z.z_isinstance z.z_tuple (by decide +kernel))) (bd_cons ((sd_if (td_w (wd_or (td_not (td_val (ed_isi .tuple (ed_var 0) z.z_isinstance z.z_tuple (by decide +kernel)))) (wd_one (td_cmp (opd_ne hu) dEq_noex (ed_callB crd_len dLen_noex z.z_len (by decide +kernel) (ad_cons (ed_var 0) ad_nil)) (ed_callB crd_len dLen_noex z.z_len (by decide +kernel) (ad_cons (ed_var 1) ad_nil)) (by rfl))))) (bd_cons ((sd_ret (ed_bl)))
  bd_nil) bd_nil))
  (bd_cons ((sd_for [2] hp rfl (id_range1 z.z_range (ad_cons (ed_callB crd_len dLen_noex z.z_len (by decide +kernel) (ad_cons (ed_var 1) ad_nil)) ad_nil)) (gd_name 2 nd) (bd_cons ((sd_if (td_not (td_val (ed_call c_law_same hr hk_law_same tk (ad_cons (ed_ix (ixdD hu2) dIxD_noex (ed_var 0) (ed_var 2)) (ad_cons (ed_ix (ixdD hu2) dIxD_noex (ed_var 1) (ed_var 2)) ad_nil))))) (bd_cons ((sd_ret (ed_bl)))
  bd_nil) bd_nil))
  bd_nil)))
  (bd_cons ((sd_ret (ed_bl)))
  bd_nil))) bd_nil))
  (bd_cons ((sd_if (td_cmp opd_isN' dIsNn_noex (ed_var 1) (ed_non) (by rfl)) (bd_cons ((sd_ret (ed_cmp opd_isN' dIsNn_noex (ed_var 0) (ed_non) (by rfl))))
  bd_nil) bd_nil))
  (bd_cons ((sd_if (td_val (ed_isi .bool (ed_var 1) z.z_isinstance z.z_bool (by decide +kernel))) (bd_cons ((sd_ret ((ed_and (ed_isi .bool (ed_var 0) z.z_isinstance z.z_bool (by decide +kernel)) (ed_and1 (ed_cmp (opd_eq hu) dEq_noex (ed_var 0) (ed_var 1) (by rfl)))))))
  bd_nil) bd_nil))
  (bd_cons ((sd_if (td_val (ed_isi .int (ed_var 1) z.z_isinstance z.z_int (by decide +kernel))) (bd_cons ((sd_ret ((ed_and (ed_call c_law_whole hr hk_law_whole tk (ad_cons (ed_var 0) ad_nil)) (ed_and1 (ed_cmp (opd_eq hu) dEq_noex (ed_var 0) (ed_var 1) (by rfl)))))))
  bd_nil) bd_nil))
  (bd_cons ((sd_ret ((ed_and (ed_isi .str (ed_var 0) z.z_isinstance z.z_str (by decide +kernel)) (ed_and1 (ed_cmp (opd_eq hu) dEq_noex (ed_var 0) (ed_var 1) (by rfl)))))))
  bd_nil)))))
theorem b_law_pool (z : Zs K mg) (c_law_digits : CalD P w K mg base 1 "_law_digits" g_law_digits) (c_law_symbol : CalD P w K mg base 1 "_law_symbol" g_law_symbol) : BodyD P w K mg base 1 ["cell", "words", "row", "pool", "k", "part"] "_law_pool" (defScope s_law_pool) (defBody s_law_pool) F_law_pool := by
  intro f cdv A outer s H G E hr tk hp
  have hu : (cxF P w K mg base ["cell", "words", "row", "pool", "k", "part"] "_law_pool" (defScope s_law_pool) f cdv A outer s H E).A.units + 64 < cLine := by have := hr.un; omega
  have hu2 : (cxF P w K mg base ["cell", "words", "row", "pool", "k", "part"] "_law_pool" (defScope s_law_pool) f cdv A outer s H E).A.units + 65 < cLine := by have := hr.un; omega
  have nd := sc_law_pool.nd
  have hk_law_digits : 1 ≤ 1 := by decide
  have hk_law_symbol : 1 ≤ 1 := by decide
  exact (bd_cons ((sd_set (i := 1) nd (ed_lst (ad_cons (ed_str (by decide +kernel)) (ad_cons (ed_str (by decide +kernel)) (ad_cons (ed_str (by decide +kernel)) (ad_cons (ed_str (by decide +kernel)) (ad_cons (ed_str (by decide +kernel)) (ad_cons (ed_str (by decide +kernel)) (ad_cons (ed_str (by decide +kernel)) (ad_cons (ed_str (by decide +kernel)) (ad_cons (ed_str (by decide +kernel)) (ad_cons (ed_str (by decide +kernel)) (ad_cons (ed_str (by decide +kernel)) (ad_cons (ed_str (by decide +kernel)) ad_nil)))))))))))) (alen_cons (alen_cons (alen_cons (alen_cons (alen_cons (alen_cons (alen_cons (alen_cons (alen_cons (alen_cons (alen_cons (alen_cons alen_nil)))))))))))))))
  (bd_cons ((sd_set (i := 2) nd (ed_call c_law_digits hr hk_law_digits tk (ad_cons (ed_var 0) (ad_cons (ed_bin opd_mulw dMulW_noex (ed_bin opd_add dAdd_noex (ed_lst (ad_cons (ed_int) (ad_cons (ed_int) (ad_cons (ed_int) ad_nil))) (alen_cons (alen_cons (alen_cons alen_nil)))) (ed_bin opd_mulw dMulW_noex (ed_lst (ad_cons (ed_int) ad_nil) (alen_cons alen_nil)) (ed_int))) (ed_int)) ad_nil)))))
  (bd_cons ((sd_set (i := 3) nd (ed_lst ad_nil alen_nil)))
  (bd_cons ((sd_for [4, 5] hp rfl (id_range1 z.z_range (ad_cons (ed_int) ad_nil)) (gd_name 4 nd) (bd_cons ((sd_frz 2 (sd_set (i := 5) nd (ed_sl (ed_var 2) (od_some (ed_bin opd_mulw dMulW_noex (ed_int) (ed_var 4))) (od_some (ed_bin opd_add dAdd_noex (ed_bin opd_mulw dMulW_noex (ed_int) (ed_var 4)) (ed_int)))))))
  (bd_cons ((sd_frz 5 (sd_if (td_cmp (opd_eq hu) dEq_noex (ed_ix (ixdD hu2) dIxD_noex (ed_var 5) (ed_int)) (ed_int) (by rfl)) (bd_cons ((sd_frz 1 (sd_append 3 (ed_ix (ixdD hu2) dIxD_noex (ed_var 1) (ed_ix (ixdD hu2) dIxD_noex (ed_var 5) (ed_int))))))
  bd_nil) (bd_cons ((sd_append 3 (ed_call c_law_symbol hr hk_law_symbol tk (ad_cons (ed_sl (ed_var 5) (od_some (ed_int)) od_none) ad_nil))))
  bd_nil))))
  bd_nil))))
  (bd_cons (sd_retV 3)
  bd_nil)))))
theorem b_law_form (z : Zs K mg) : BodyD P w K mg base 0 ["rule", "digit"] "_law_form" (defScope s_law_form) (defBody s_law_form) F_law_form := by
  intro f cdv A outer s H G E hr tk hp
  have hu : (cxF P w K mg base ["rule", "digit"] "_law_form" (defScope s_law_form) f cdv A outer s H E).A.units + 64 < cLine := by have := hr.un; omega
  have hu2 : (cxF P w K mg base ["rule", "digit"] "_law_form" (defScope s_law_form) f cdv A outer s H E).A.units + 65 < cLine := by have := hr.un; omega
  have nd := sc_law_form.nd
  exact (bd_cons ((sd_if (td_cmp (opd_eq hu) dEq_noex (ed_var 1) (ed_int) (by rfl)) (bd_cons ((sd_ret (ed_callT crd_list dList_noex z.z_list (by decide +kernel) (ad_cons (ed_var 0) ad_nil))))
  bd_nil) bd_nil))
  (bd_cons ((sd_ret (ed_callT (crd_tupleS rfl) dTupleS_noex z.z_tuple (by decide +kernel) (ad_cons (ed_var 0) ad_nil))))
  bd_nil))
theorem b_law_fields (z : Zs K mg) : BodyD P w K mg base 0 ["machine"] "_law_fields" (defScope s_law_fields) (defBody s_law_fields) F_law_fields := by
  intro f cdv A outer s H G E hr tk hp
  have hu : (cxF P w K mg base ["machine"] "_law_fields" (defScope s_law_fields) f cdv A outer s H E).A.units + 64 < cLine := by have := hr.un; omega
  have hu2 : (cxF P w K mg base ["machine"] "_law_fields" (defScope s_law_fields) f cdv A outer s H E).A.units + 65 < cLine := by have := hr.un; omega
  have nd := sc_law_fields.nd
  exact (bd_cons ((sd_ret (ed_tup (ad_cons (ed_fld ["Machine"] z.f_letters (ed_var 0)) (ad_cons (ed_fld ["Machine"] z.f_states (ed_var 0)) (ad_cons (ed_fld ["Machine"] z.f_rules (ed_var 0)) (ad_cons (ed_fld ["Machine"] z.f_yes (ed_var 0)) (ad_cons (ed_fld ["Machine"] z.f_symbols (ed_var 0)) (ad_cons (ed_fld ["Machine"] z.f_guess (ed_var 0)) ad_nil)))))) (alen_cons (alen_cons (alen_cons (alen_cons (alen_cons (alen_cons alen_nil)))))))))
  bd_nil)
theorem b_law (z : Zs K mg) (mk_Machine : MakD P w K mg base 9 "Machine" m_Machine) (mkk_Machine_3_yes : MakDk P w K mg base 9 "Machine" 3 ["yes"] m_Machine) (mkd_Machine_3 : MakDd P w K mg base 9 "Machine" dfl_Machine_3 m_Machine) (c_law_any_letters : CalD P w K mg base 2 "_law_any_letters" g_law_any_letters) (c_law_cell : CalD P w K mg base 1 "_law_cell" g_law_cell) (c_law_digits : CalD P w K mg base 1 "_law_digits" g_law_digits) (c_law_due : CalD P w K mg base 2 "_law_due" g_law_due) (c_law_fields : CalD P w K mg base 1 "_law_fields" g_law_fields) (c_law_form : CalD P w K mg base 1 "_law_form" g_law_form) (c_law_pool : CalD P w K mg base 2 "_law_pool" g_law_pool) (c_law_rules : CalD P w K mg base 3 "_law_rules" g_law_rules) (c_law_same : CalD P w K mg base 9 "_law_same" g_law_same) (c_law_yes : CalD P w K mg base 2 "_law_yes" g_law_yes) : BodyD P w K mg base 10 ["script", "head", "letters", "states", "many", "rules", "drawn", "forms", "handed", "k", "finals", "machine", "due", "other", "part"] "law" (defScope s_law) (defBody s_law) F_law := by
  intro f cdv A outer s H G E hr tk hp
  have hu : (cxF P w K mg base ["script", "head", "letters", "states", "many", "rules", "drawn", "forms", "handed", "k", "finals", "machine", "due", "other", "part"] "law" (defScope s_law) f cdv A outer s H E).A.units + 64 < cLine := by have := hr.un; omega
  have hu2 : (cxF P w K mg base ["script", "head", "letters", "states", "many", "rules", "drawn", "forms", "handed", "k", "finals", "machine", "due", "other", "part"] "law" (defScope s_law) f cdv A outer s H E).A.units + 65 < cLine := by have := hr.un; omega
  have nd := sc_law.nd
  have hk_law_digits : 1 ≤ 10 := by decide
  have hk_law_rules : 3 ≤ 10 := by decide
  have hk_law_form : 1 ≤ 10 := by decide
  have hk_law_yes : 2 ≤ 10 := by decide
  have hk_law_same : 9 ≤ 10 := by decide
  have hk_law_any_letters : 2 ≤ 10 := by decide
  have hk_law_fields : 1 ≤ 10 := by decide
  have hk_law_cell : 1 ≤ 10 := by decide
  have hk_law_pool : 2 ≤ 10 := by decide
  have hk_law_due : 2 ≤ 10 := by decide
  have hkk_Machine_3_yes : 9 + 1 ≤ 10 := by decide
  have hkd_Machine_3 : 9 + 1 ≤ 10 := by decide
  have hk_Machine : 9 + 1 ≤ 10 := by decide
  exact (bd_cons ((sd_set (i := 1) nd (ed_call c_law_digits hr hk_law_digits tk (ad_cons (ed_call c_law_cell hr hk_law_cell tk (ad_cons (ed_var 0) (ad_cons (ed_int) ad_nil))) (ad_cons (ed_lst (ad_cons (ed_int) (ad_cons (ed_int) (ad_cons (ed_int) (ad_cons (ed_int) (ad_cons (ed_int) (ad_cons (ed_int) ad_nil)))))) (alen_cons (alen_cons (alen_cons (alen_cons (alen_cons (alen_cons alen_nil))))))) ad_nil)))))
  (bd_cons ((sd_set (i := 2) nd (ed_call c_law_any_letters hr hk_law_any_letters tk (ad_cons (ed_call c_law_cell hr hk_law_cell tk (ad_cons (ed_var 0) (ad_cons (ed_int) ad_nil))) ad_nil))))
  (bd_cons ((sd_frz 1 (sd_set (i := 3) nd (ed_ix (ixdD hu2) dIxD_noex (ed_lst (ad_cons (ed_int) (ad_cons (ed_int) (ad_cons (ed_int) (ad_cons (ed_int) (ad_cons (ed_int) (ad_cons (ed_int) (ad_cons (ed_bin opd_add dAdd_noex (ed_int) (ed_ix (ixdD hu2) dIxD_noex (ed_var 1) (ed_int))) (ad_cons (ed_int) ad_nil)))))))) (alen_cons (alen_cons (alen_cons (alen_cons (alen_cons (alen_cons (alen_cons (alen_cons alen_nil))))))))) (ed_ix (ixdD hu2) dIxD_noex (ed_var 1) (ed_int))))))
  (bd_cons ((sd_set (i := 4) nd (ed_ix (ixdD hu2) dIxD_noex (ed_lst (ad_cons (ed_int) (ad_cons (ed_int) (ad_cons (ed_int) (ad_cons (ed_int) (ad_cons (ed_int) (ad_cons (ed_int) (ad_cons (ed_int) (ad_cons (ed_int) (ad_cons (ed_ix (ixdD hu2) dIxD_noex (ed_var 1) (ed_int)) (ad_cons (ed_ix (ixdD hu2) dIxD_noex (ed_var 1) (ed_int)) ad_nil)))))))))) (alen_cons (alen_cons (alen_cons (alen_cons (alen_cons (alen_cons (alen_cons (alen_cons (alen_cons (alen_cons alen_nil))))))))))) (ed_ix (ixdD hu2) dIxD_noex (ed_var 1) (ed_int)))))
  (bd_cons ((sd_frz 2 (sd_set (i := 5) nd (ed_call c_law_rules hr hk_law_rules tk (ad_cons (ed_var 0) (ad_cons (ed_int) (ad_cons (ed_var 4) (ad_cons (ed_var 2) (ad_cons (ed_var 3) (ad_cons (ed_call c_law_pool hr hk_law_pool tk (ad_cons (ed_call c_law_cell hr hk_law_cell tk (ad_cons (ed_var 0) (ad_cons (ed_int) ad_nil))) ad_nil)) ad_nil))))))))))
  (bd_cons ((sd_set (i := 6) nd (ed_call c_law_yes hr hk_law_yes tk (ad_cons (ed_call c_law_cell hr hk_law_cell tk (ad_cons (ed_var 0) (ad_cons (ed_int) ad_nil))) (ad_cons (ed_var 3) ad_nil)))))
  (bd_cons ((sd_set (i := 7) nd (ed_call c_law_digits hr hk_law_digits tk (ad_cons (ed_call c_law_cell hr hk_law_cell tk (ad_cons (ed_var 0) (ad_cons (ed_int) ad_nil))) (ad_cons (ed_bin opd_mulw dMulW_noex (ed_lst (ad_cons (ed_int) ad_nil) (alen_cons alen_nil)) (ed_int)) ad_nil)))))
  (bd_cons ((sd_frz 5 (sd_frz 7 (sd_setLcO 8 (own := [("k", 9)]) rfl nd (id_range1 z.z_range (ad_cons (ed_var 4) ad_nil)) (blkOk_by (N := ["script", "head", "letters", "states", "many", "rules", "drawn", "forms", "handed", "k", "finals", "machine", "due", "other", "part"]) (sc := defScope s_law) (by decide +kernel)) bg_name (fun _ _ _ _ _ => pg_name (i := 9) nd rfl (Or.inl rfl)) (fun _ _ _ _ _ => bt_nil) (fun _ _ _ _ _ => (ed_call c_law_form hr hk_law_form takes_no (ad_cons (ed_ix (ixdD hu2) dIxD_noex (ed_var 5) (ed_var 9)) (ad_cons (ed_ix (ixdD hu2) dIxD_noex (ed_var 7) (ed_var 9)) ad_nil))))))))
  (bd_cons ((sd_frz 6 (sd_set (i := 10) nd (ed_callT crd_list dList_noex z.z_list (by decide +kernel) (ad_cons (ed_var 6) ad_nil)))))
  (bd_cons ((sd_if (td_w (wd_and (td_cmp (opd_eq hu) dEq_noex (ed_ix (ixdD hu2) dIxD_noex (ed_var 1) (ed_int)) (ed_int) (by rfl)) (wd_one (td_cmp (opd_eq hu) dEq_noex (ed_ix (ixdD hu2) dIxD_noex (ed_var 1) (ed_int)) (ed_int) (by rfl))))) (bd_cons ((sd_set (i := 11) nd (ed_view (ed_fr ((ed_makeK mkk_Machine_3_yes hr hkk_Machine_3_yes tk (ad_cons (ed_var 2) (ad_cons (ed_var 3) (ad_cons (ed_callT (crd_tupleS rfl) dTupleS_noex z.z_tuple (by decide +kernel) (ad_cons (ed_var 8) ad_nil)) ad_nil))) (kd_cons (ed_callT (crd_tupleS rfl) dTupleS_noex z.z_tuple (by decide +kernel) (ad_cons (ed_var 10) ad_nil)) kd_nil)))))))
  bd_nil) (bd_cons ((sd_if (td_cmp (opd_eq hu) dEq_noex (ed_ix (ixdD hu2) dIxD_noex (ed_var 1) (ed_int)) (ed_int) (by rfl)) (bd_cons ((sd_set (i := 11) nd (ed_view (ed_fr ((ed_make mk_Machine hr hk_Machine tk (ad_cons (ed_var 2) (ad_cons (ed_var 3) (ad_cons (ed_callT (crd_tupleS rfl) dTupleS_noex z.z_tuple (by decide +kernel) (ad_cons (ed_var 8) ad_nil)) (ad_cons (ed_callT (crd_tupleS rfl) dTupleS_noex z.z_tuple (by decide +kernel) (ad_cons (ed_var 10) ad_nil)) ad_nil))))))))))
  bd_nil) (bd_cons ((sd_if (td_view (td_cmp (opd_eq hu) dEq_noex (ed_callB crd_len dLen_noex z.z_len (by decide +kernel) (ad_cons (ed_var 10) ad_nil)) (ed_int) (by rfl))) (bd_cons ((sd_set (i := 11) nd (ed_view (ed_fr ((ed_makeD mkd_Machine_3 hr hkd_Machine_3 tk (ad_cons (ed_var 2) (ad_cons (ed_var 3) (ad_cons (ed_var 8) ad_nil)))))))))
  bd_nil) (bd_cons ((sd_set (i := 11) nd (ed_view (ed_fr ((ed_make mk_Machine hr hk_Machine tk (ad_cons (ed_var 2) (ad_cons (ed_var 3) (ad_cons (ed_var 8) (ad_cons (ed_var 10) ad_nil))))))))))
  bd_nil)))
  bd_nil)))
  bd_nil)))
  (bd_cons ((sd_set (i := 12) nd (ed_call c_law_due hr hk_law_due tk (ad_cons (ed_var 2) (ad_cons (ed_var 3) (ad_cons (ed_var 5) (ad_cons (ed_var 6) ad_nil)))))))
  (bd_cons ((sd_frz 11 (sd_frz 12 (sd_if (td_not (td_val (ed_call c_law_same hr hk_law_same tk (ad_cons (ed_call c_law_fields hr hk_law_fields tk (ad_cons (ed_var 11) ad_nil)) (ad_cons (ed_var 12) ad_nil))))) (bd_cons ((sd_ret (ed_bl)))
  bd_nil) bd_nil))))
  (bd_cons ((sd_if (td_view (td_w (wd_or (td_cmp (opd_ne hu) dEq_noex (ed_var 8) (ed_lc (own := [("k", 9)]) rfl nd (id_range1 z.z_range (ad_cons (ed_var 4) ad_nil)) (blkOk_by (N := ["script", "head", "letters", "states", "many", "rules", "drawn", "forms", "handed", "k", "finals", "machine", "due", "other", "part"]) (sc := defScope s_law) (by decide +kernel)) bg_name (fun _ _ _ _ _ => pg_name (i := 9) nd rfl (Or.inl rfl)) (fun _ _ _ _ _ => bt_nil) (fun _ _ _ _ _ => (ed_call c_law_form hr hk_law_form takes_no (ad_cons (ed_ix (ixdD hu2) dIxD_noex (ed_var 5) (ed_var 9)) (ad_cons (ed_ix (ixdD hu2) dIxD_noex (ed_var 7) (ed_var 9)) ad_nil))))) (by rfl)) (wd_one (td_cmp (opd_ne hu) dEq_noex (ed_var 10) (ed_var 6) (by rfl)))))) (bd_cons ((sd_ret (ed_bl)))
  bd_nil) bd_nil))
  (bd_cons ((sd_set (i := 13) nd (ed_make mk_Machine hr hk_Machine tk (ad_cons (ed_var 2) (ad_cons (ed_var 3) (ad_cons (ed_sl (ed_var 5) (od_some (ed_int)) od_none) (ad_cons (ed_sl (ed_var 6) (od_some (ed_int)) od_none) ad_nil)))))))
  (bd_cons ((sd_frz 13 (sd_if (td_not (td_val (ed_call c_law_same hr hk_law_same tk (ad_cons (ed_call c_law_fields hr hk_law_fields tk (ad_cons (ed_var 13) ad_nil)) (ad_cons (ed_call c_law_due hr hk_law_due tk (ad_cons (ed_var 2) (ad_cons (ed_var 3) (ad_cons (ed_sl (ed_var 5) (od_some (ed_int)) od_none) (ad_cons (ed_sl (ed_var 6) (od_some (ed_int)) od_none) ad_nil))))) ad_nil))))) (bd_cons ((sd_ret (ed_bl)))
  bd_nil) bd_nil)))
  (bd_cons ((sd_for [14] hp rfl (id_range1 z.z_range (ad_cons (ed_var 4) ad_nil)) (gd_name 9 nd) (bd_aliasIf 8 9 14 nd (sa_cons (sa_put (j := "") 8 14 (ed_var 3)) (sa_cons (sa_put (j := "") 8 14 (ed_str (by decide +kernel))) sa_nil)) z.z_isinstance z.z_list)))
  (bd_cons ((sd_appendT 8 (ed_str (by decide +kernel))))
  (bd_cons ((sd_append 10 (ed_var 3)))
  (bd_cons ((sd_ret (ed_call c_law_same hr hk_law_same tk (ad_cons (ed_call c_law_fields hr hk_law_fields tk (ad_cons (ed_var 11) ad_nil)) (ad_cons (ed_var 12) ad_nil)))))
  bd_nil)))))))))))))))))))
end
end K00


set_option maxRecDepth 100000
set_option maxHeartbeats 0
namespace K00
open PySem PySem.Spec PyProof.Rows L2 L2H DL
def d_law_digits : He.DefD := ⟨("_law_digits", none), "_law_digits", "_law_digits", defArgs s_law_digits, defBody s_law_digits, defScope s_law_digits, [], []⟩
def d_law_any_letters : He.DefD := ⟨("_law_any_letters", none), "_law_any_letters", "_law_any_letters", defArgs s_law_any_letters, defBody s_law_any_letters, defScope s_law_any_letters, [], []⟩
def d_law_symbol : He.DefD := ⟨("_law_symbol", none), "_law_symbol", "_law_symbol", defArgs s_law_symbol, defBody s_law_symbol, defScope s_law_symbol, [], []⟩
def d_law_rule : He.DefD := ⟨("_law_rule", none), "_law_rule", "_law_rule", defArgs s_law_rule, defBody s_law_rule, defScope s_law_rule, [], []⟩
def d_law_cell : He.DefD := ⟨("_law_cell", none), "_law_cell", "_law_cell", defArgs s_law_cell, defBody s_law_cell, defScope s_law_cell, [], []⟩
def d_law_rules : He.DefD := ⟨("_law_rules", none), "_law_rules", "_law_rules", defArgs s_law_rules, defBody s_law_rules, defScope s_law_rules, [], []⟩
def d_law_yes : He.DefD := ⟨("_law_yes", none), "_law_yes", "_law_yes", defArgs s_law_yes, defBody s_law_yes, defScope s_law_yes, [], []⟩
def d_law_each_once : He.DefD := ⟨("_law_each_once", none), "_law_each_once", "_law_each_once", defArgs s_law_each_once, defBody s_law_each_once, defScope s_law_each_once, [], []⟩
def d_law_due : He.DefD := ⟨("_law_due", none), "_law_due", "_law_due", defArgs s_law_due, defBody s_law_due, defScope s_law_due, [], []⟩
def d_is_alphabet : He.DefD := ⟨("is_alphabet", none), "is_alphabet", "is_alphabet", defArgs s_is_alphabet, defBody s_is_alphabet, defScope s_is_alphabet, [], []⟩
def d_is_whole : He.DefD := ⟨("is_whole", none), "is_whole", "is_whole", defArgs s_is_whole, defBody s_is_whole, defScope s_is_whole, [], []⟩
def d_is_state : He.DefD := ⟨("is_state", none), "is_state", "is_state", defArgs s_is_state, defBody s_is_state, defScope s_is_state, [], []⟩
def d_signs_of : He.DefD := ⟨("signs_of", none), "signs_of", "signs_of", defArgs s_signs_of, defBody s_signs_of, defScope s_signs_of, [], []⟩
def d_is_symbol : He.DefD := ⟨("is_symbol", none), "is_symbol", "is_symbol", defArgs s_is_symbol, defBody s_is_symbol, defScope s_is_symbol, [], []⟩
def d_is_key : He.DefD := ⟨("is_key", none), "is_key", "is_key", defArgs s_is_key, defBody s_is_key, defScope s_is_key, [], []⟩
def d_is_said : He.DefD := ⟨("is_said", none), "is_said", "is_said", defArgs s_is_said, defBody s_is_said, defScope s_is_said, [], []⟩
def d_is_act : He.DefD := ⟨("is_act", none), "is_act", "is_act", defArgs s_is_act, defBody s_is_act, defScope s_is_act, [], []⟩
def d_is_row : He.DefD := ⟨("is_row", none), "is_row", "is_row", defArgs s_is_row, defBody s_is_row, defScope s_is_row, [], []⟩
def d_is_rule : He.DefD := ⟨("is_rule", none), "is_rule", "is_rule", defArgs s_is_rule, defBody s_is_rule, defScope s_is_rule, [], []⟩
def d_check_machine : He.DefD := ⟨("check_machine", none), "check_machine", "check_machine", defArgs s_check_machine, defBody s_check_machine, defScope s_check_machine, [], []⟩
def d_frozen : He.DefD := ⟨("frozen", none), "frozen", "frozen", defArgs s_frozen, defBody s_frozen, defScope s_frozen, [], []⟩
def d_first_guess : He.DefD := ⟨("first_guess", none), "first_guess", "first_guess", defArgs s_first_guess, defBody s_first_guess, defScope s_first_guess, [], []⟩
def d_law_whole : He.DefD := ⟨("_law_whole", none), "_law_whole", "_law_whole", defArgs s_law_whole, defBody s_law_whole, defScope s_law_whole, [], []⟩
def d_law_same : He.DefD := ⟨("_law_same", none), "_law_same", "_law_same", defArgs s_law_same, defBody s_law_same, defScope s_law_same, [], []⟩
def d_law_pool : He.DefD := ⟨("_law_pool", none), "_law_pool", "_law_pool", defArgs s_law_pool, defBody s_law_pool, defScope s_law_pool, [], []⟩
def d_law_form : He.DefD := ⟨("_law_form", none), "_law_form", "_law_form", defArgs s_law_form, defBody s_law_form, defScope s_law_form, [], []⟩
def d_law_fields : He.DefD := ⟨("_law_fields", none), "_law_fields", "_law_fields", defArgs s_law_fields, defBody s_law_fields, defScope s_law_fields, [], []⟩
def d_law : He.DefD := ⟨("law", none), "law", "law", defArgs s_law, defBody s_law, defScope s_law, [], []⟩
def d_Machine_init : He.DefD := ⟨("Machine", some "__init__"), "__init__", "Machine.__init__", defArgs s_Machine_init, defBody s_Machine_init, defScope s_Machine_init, [.adr (He.dflAt ("Machine", some "__init__") 0)], []⟩
abbrev s_BadMachine_init : Stmt := (clsBody (topS 3)).getD 0 (.Pass ⟨0, 0, 0, 0⟩)
theorem sc_BadMachine_init : FnScope ["self", "where"] ["self", "where"] (defScope s_BadMachine_init) := ⟨rfl, rfl, rfl, by decide +kernel, rfl, by decide +kernel, by decide +kernel⟩
def d_BadMachine_init : He.DefD := ⟨("BadMachine", some "__init__"), "__init__", "BadMachine.__init__", defArgs s_BadMachine_init, defBody s_BadMachine_init, defScope s_BadMachine_init, [], []⟩
def fn : List He.DefD := [d_law_digits, d_law_any_letters, d_law_symbol, d_law_rule, d_law_cell, d_law_rules, d_law_yes, d_law_each_once, d_law_due, d_is_alphabet, d_is_whole, d_is_state, d_signs_of, d_is_symbol, d_is_key, d_is_said, d_is_act, d_is_row, d_is_rule, d_check_machine, d_frozen, d_first_guess, d_law_whole, d_law_same, d_law_pool, d_law_form, d_law_fields, d_law, d_Machine_init, d_BadMachine_init]
def fa : List He.Fa := [.glo "_law_digits", .glo "_law_any_letters", .glo "_law_symbol", .glo "_law_rule", .glo "_law_cell", .glo "_law_rules", .glo "_law_yes", .glo "_law_each_once", .glo "_law_due", .glo "is_alphabet", .glo "is_whole", .glo "is_state", .glo "signs_of", .glo "is_symbol", .glo "is_key", .glo "is_said", .glo "is_act", .glo "is_row", .glo "is_rule", .glo "check_machine", .glo "frozen", .glo "first_guess", .glo "_law_whole", .glo "_law_same", .glo "_law_pool", .glo "_law_form", .glo "_law_fields", .glo "law", .glo "BadMachine", .glo "Machine", .free "abs", .free "all", .free "bool", .free "enumerate", .free "int", .free "isinstance", .free "len", .free "list", .free "range", .free "set", .free "sorted", .free "str", .free "tuple", .cls "Machine", .mkr "Machine", .noat "Machine" "_table", .noat "Machine" "guess", .noat "Machine" "known_symbols", .noat "Machine" "letters", .noat "Machine" "rules", .noat "Machine" "states", .noat "Machine" "symbols", .noat "Machine" "yes"]
def exs : List (PySem.W.Frag → Bool) := [fun K => glbB K "CAPITALS" c_CAPITALS, fun K => glbB K "DEEDS" c_DEEDS, fun K => glbB K "DIGITS" c_DIGITS, fun K => glbB K "LETTERS" c_LETTERS, fun K => glbB K "MOST_RULES" c_MOST_RULES, fun K => glbB K "MOST_STATES" c_MOST_STATES, fun K => dB K 9 (.ref (He.dflAt ("Machine", some "__init__") 0 K)) (.tup []), fun K => oexB K (He.ga K "BadMachine"), fun K => He.eqO (PySem.W.findIn K (.ref (He.ga K "BadMachine")) "__init__") (some (some (.ref (He.ma K (He.ga K "BadMachine") "__init__")))), fun K => decide (PySem.W.typeIn K (.ref (He.ma K (He.ga K "BadMachine") "__init__")) = some (.type "function")), fun K => He.eqO (PySem.W.findIn K (.ref (He.ga K "BadMachine")) "where") (some none), fun K => noList K]
def ex (K : PySem.W.Frag) : Bool := exs.all fun b => b K
theorem ex_at {K : PySem.W.Frag} (h : ex K = true) (i : Nat) {b : PySem.W.Frag → Bool} (e : exs[i]? = some b) : b K = true := List.all_eq_true.mp h b (List.mem_of_getElem? e)
abbrev Rw : PySem.W.OpenRow := PySem.W.OpenLaw.row PySem.Challenge.rw_pilerecall_k00_machine_fields
abbrev hk : PySem.W.Hook := He.hookX 5 fa fn [] [] ex
def ob (s : PySem.W.SharedT) : He.AlX := He.obsX 5 fa fn [] [] ex (HandSHeadRun.getT s)
theorem ob_eq (s : PySem.W.SharedT) : ob s = hk.obs s.abs := He.obsX_eq (HandSHeadRun.getT_eq s)
def nm0 : List PySem.Str := ["_wall", "RecallError", "BadMachine", "UnlikeLetters", "LETTERS", "CAPITALS", "DIGITS", "is_whole", "is_row", "frozen", "is_alphabet", "is_symbol", "signs_of", "MOST_STATES", "MOST_RULES", "other_states", "shifted_rules", "leaving_rules", "clearing_rules", "combined_rules", "shifted_states", "DEEDS", "is_state", "is_said", "is_key", "is_act", "is_rule", "check_machine", "first_guess", "Machine"]
def nm1 : List PySem.Str := ["_law_whole", "_law_same", "_law_cell", "_law_digits", "_law_any_letters", "_law_symbol", "_law_pool", "_law_rule", "_law_rules", "_law_yes", "_law_each_once", "_law_due", "_law_fields", "_law_form"]
def names : List PySem.Str := nm0 ++ nm1
theorem run (w : World) : HandSHeadRun.RunEq Rw (PySem.W.view Rw.prog [49]) hk ob 6000 names w := by
  intro os
  kernel_rfl
theorem facts {P : Program} {w : World} {K : PySem.W.Frag} {h : Heap} {mg : Str → Option Value} {f : Addr} (X : K.In h) (Gm : h.Ns mainGlobals mg) (hfa : mg ("law" : Str) = some (.ref f)) (c : He.SaysX fa fn [] [] ex w h K) :
    (∃ fd : FuncData, (∀ (s : Shared) (v : Value), BindsTo s fd ⟨[v], []⟩ [("script", v)]) ∧ ∀ base : Heap, K.In base → base.Ns mainGlobals mg → FnOk P w K mg base (L2N.CX P w) 11 f fd ["script"] (spD K ⟨mg, P, w⟩ g_law)) ∧ noList K = true := by
  have z : Zs K mg := by
    constructor
    · exact He.free_ok X Gm (c.t.d.fact 30 (f := .free "abs") rfl)
    · exact He.free_ok X Gm (c.t.d.fact 31 (f := .free "all") rfl)
    · exact He.free_ok X Gm (c.t.d.fact 32 (f := .free "bool") rfl)
    · exact He.free_ok X Gm (c.t.d.fact 33 (f := .free "enumerate") rfl)
    · exact He.free_ok X Gm (c.t.d.fact 34 (f := .free "int") rfl)
    · exact He.free_ok X Gm (c.t.d.fact 35 (f := .free "isinstance") rfl)
    · exact He.free_ok X Gm (c.t.d.fact 36 (f := .free "len") rfl)
    · exact He.free_ok X Gm (c.t.d.fact 37 (f := .free "list") rfl)
    · exact He.free_ok X Gm (c.t.d.fact 38 (f := .free "range") rfl)
    · exact He.free_ok X Gm (c.t.d.fact 39 (f := .free "set") rfl)
    · exact He.free_ok X Gm (c.t.d.fact 40 (f := .free "sorted") rfl)
    · exact He.free_ok X Gm (c.t.d.fact 41 (f := .free "str") rfl)
    · exact He.free_ok X Gm (c.t.d.fact 42 (f := .free "tuple") rfl)
    · exact glbB_ok X Gm (ex_at c.more 0 rfl)
    · exact glbB_ok X Gm (ex_at c.more 1 rfl)
    · exact glbB_ok X Gm (ex_at c.more 2 rfl)
    · exact glbB_ok X Gm (ex_at c.more 3 rfl)
    · exact glbB_ok X Gm (ex_at c.more 4 rfl)
    · exact glbB_ok X Gm (ex_at c.more 5 rfl)
    · exact (fldc_cons (fldc_of (He.glo_ok X Gm (c.t.d.fact 29 (f := .glo "Machine") rfl)) (He.cls_ok (c.t.d.fact 43 (f := .cls "Machine") rfl)) (He.noat_ok (c.t.d.fact 45 (f := .noat "Machine" "_table") rfl))) fldc_nil)
    · exact (fldc_cons (fldc_of (He.glo_ok X Gm (c.t.d.fact 29 (f := .glo "Machine") rfl)) (He.cls_ok (c.t.d.fact 43 (f := .cls "Machine") rfl)) (He.noat_ok (c.t.d.fact 46 (f := .noat "Machine" "guess") rfl))) fldc_nil)
    · exact (fldc_cons (fldc_of (He.glo_ok X Gm (c.t.d.fact 29 (f := .glo "Machine") rfl)) (He.cls_ok (c.t.d.fact 43 (f := .cls "Machine") rfl)) (He.noat_ok (c.t.d.fact 47 (f := .noat "Machine" "known_symbols") rfl))) fldc_nil)
    · exact (fldc_cons (fldc_of (He.glo_ok X Gm (c.t.d.fact 29 (f := .glo "Machine") rfl)) (He.cls_ok (c.t.d.fact 43 (f := .cls "Machine") rfl)) (He.noat_ok (c.t.d.fact 48 (f := .noat "Machine" "letters") rfl))) fldc_nil)
    · exact (fldc_cons (fldc_of (He.glo_ok X Gm (c.t.d.fact 29 (f := .glo "Machine") rfl)) (He.cls_ok (c.t.d.fact 43 (f := .cls "Machine") rfl)) (He.noat_ok (c.t.d.fact 49 (f := .noat "Machine" "rules") rfl))) fldc_nil)
    · exact (fldc_cons (fldc_of (He.glo_ok X Gm (c.t.d.fact 29 (f := .glo "Machine") rfl)) (He.cls_ok (c.t.d.fact 43 (f := .cls "Machine") rfl)) (He.noat_ok (c.t.d.fact 50 (f := .noat "Machine" "states") rfl))) fldc_nil)
    · exact (fldc_cons (fldc_of (He.glo_ok X Gm (c.t.d.fact 29 (f := .glo "Machine") rfl)) (He.cls_ok (c.t.d.fact 43 (f := .cls "Machine") rfl)) (He.noat_ok (c.t.d.fact 51 (f := .noat "Machine" "symbols") rfl))) fldc_nil)
    · exact (fldc_cons (fldc_of (He.glo_ok X Gm (c.t.d.fact 29 (f := .glo "Machine") rfl)) (He.cls_ok (c.t.d.fact 43 (f := .cls "Machine") rfl)) (He.noat_ok (c.t.d.fact 52 (f := .noat "Machine" "yes") rfl))) fldc_nil)
  obtain ⟨fd_law_digits, D_law_digits⟩ := c.t.d.def_ 0 (d := d_law_digits) rfl
  obtain ⟨fd_law_any_letters, D_law_any_letters⟩ := c.t.d.def_ 1 (d := d_law_any_letters) rfl
  obtain ⟨fd_law_symbol, D_law_symbol⟩ := c.t.d.def_ 2 (d := d_law_symbol) rfl
  obtain ⟨fd_law_rule, D_law_rule⟩ := c.t.d.def_ 3 (d := d_law_rule) rfl
  obtain ⟨fd_law_cell, D_law_cell⟩ := c.t.d.def_ 4 (d := d_law_cell) rfl
  obtain ⟨fd_law_rules, D_law_rules⟩ := c.t.d.def_ 5 (d := d_law_rules) rfl
  obtain ⟨fd_law_yes, D_law_yes⟩ := c.t.d.def_ 6 (d := d_law_yes) rfl
  obtain ⟨fd_law_each_once, D_law_each_once⟩ := c.t.d.def_ 7 (d := d_law_each_once) rfl
  obtain ⟨fd_law_due, D_law_due⟩ := c.t.d.def_ 8 (d := d_law_due) rfl
  obtain ⟨fd_is_alphabet, D_is_alphabet⟩ := c.t.d.def_ 9 (d := d_is_alphabet) rfl
  obtain ⟨fd_is_whole, D_is_whole⟩ := c.t.d.def_ 10 (d := d_is_whole) rfl
  obtain ⟨fd_is_state, D_is_state⟩ := c.t.d.def_ 11 (d := d_is_state) rfl
  obtain ⟨fd_signs_of, D_signs_of⟩ := c.t.d.def_ 12 (d := d_signs_of) rfl
  obtain ⟨fd_is_symbol, D_is_symbol⟩ := c.t.d.def_ 13 (d := d_is_symbol) rfl
  obtain ⟨fd_is_key, D_is_key⟩ := c.t.d.def_ 14 (d := d_is_key) rfl
  obtain ⟨fd_is_said, D_is_said⟩ := c.t.d.def_ 15 (d := d_is_said) rfl
  obtain ⟨fd_is_act, D_is_act⟩ := c.t.d.def_ 16 (d := d_is_act) rfl
  obtain ⟨fd_is_row, D_is_row⟩ := c.t.d.def_ 17 (d := d_is_row) rfl
  obtain ⟨fd_is_rule, D_is_rule⟩ := c.t.d.def_ 18 (d := d_is_rule) rfl
  obtain ⟨fd_check_machine, D_check_machine⟩ := c.t.d.def_ 19 (d := d_check_machine) rfl
  obtain ⟨fd_frozen, D_frozen⟩ := c.t.d.def_ 20 (d := d_frozen) rfl
  obtain ⟨fd_first_guess, D_first_guess⟩ := c.t.d.def_ 21 (d := d_first_guess) rfl
  obtain ⟨fd_law_whole, D_law_whole⟩ := c.t.d.def_ 22 (d := d_law_whole) rfl
  obtain ⟨fd_law_same, D_law_same⟩ := c.t.d.def_ 23 (d := d_law_same) rfl
  obtain ⟨fd_law_pool, D_law_pool⟩ := c.t.d.def_ 24 (d := d_law_pool) rfl
  obtain ⟨fd_law_form, D_law_form⟩ := c.t.d.def_ 25 (d := d_law_form) rfl
  obtain ⟨fd_law_fields, D_law_fields⟩ := c.t.d.def_ 26 (d := d_law_fields) rfl
  obtain ⟨fd_law, D_law⟩ := c.t.d.def_ 27 (d := d_law) rfl
  obtain ⟨fd_Machine_init, D_Machine_init⟩ := c.t.d.def_ 28 (d := d_Machine_init) rfl
  obtain ⟨fd_BadMachine_init, D_BadMachine_init⟩ := c.t.d.def_ 29 (d := d_BadMachine_init) rfl
  have bi_law_digits : Binds K fd_law_digits ["cell", "sizes"] [] := D_law_digits.bindsN fun _ _ _ _ _ _ us hl => match us, hl with | [_, _], _ => rfl
  have bi_law_any_letters : Binds K fd_law_any_letters ["cell"] [] := D_law_any_letters.bindsN fun _ _ _ _ _ _ us hl => match us, hl with | [_], _ => rfl
  have bi_law_symbol : Binds K fd_law_symbol ["row"] [] := D_law_symbol.bindsN fun _ _ _ _ _ _ us hl => match us, hl with | [_], _ => rfl
  have bi_law_rule : Binds K fd_law_rule ["cell", "letters", "states", "pool", "before"] [] := D_law_rule.bindsN fun _ _ _ _ _ _ us hl => match us, hl with | [_, _, _, _, _], _ => rfl
  have bi_law_cell : Binds K fd_law_cell ["script", "k"] [] := D_law_cell.bindsN fun _ _ _ _ _ _ us hl => match us, hl with | [_, _], _ => rfl
  have bi_law_rules : Binds K fd_law_rules ["script", "at", "many", "letters", "states", "pool"] [] := D_law_rules.bindsN fun _ _ _ _ _ _ us hl => match us, hl with | [_, _, _, _, _, _], _ => rfl
  have bi_law_yes : Binds K fd_law_yes ["cell", "states"] [] := D_law_yes.bindsN fun _ _ _ _ _ _ us hl => match us, hl with | [_, _], _ => rfl
  have bi_law_each_once : Binds K fd_law_each_once ["values"] [] := D_law_each_once.bindsN fun _ _ _ _ _ _ us hl => match us, hl with | [_], _ => rfl
  have bi_law_due : Binds K fd_law_due ["letters", "states", "rules", "finals"] [] := D_law_due.bindsN fun _ _ _ _ _ _ us hl => match us, hl with | [_, _, _, _], _ => rfl
  have bi_is_alphabet : Binds K fd_is_alphabet ["value"] [] := D_is_alphabet.bindsN fun _ _ _ _ _ _ us hl => match us, hl with | [_], _ => rfl
  have bi_is_whole : Binds K fd_is_whole ["value"] [] := D_is_whole.bindsN fun _ _ _ _ _ _ us hl => match us, hl with | [_], _ => rfl
  have bi_is_state : Binds K fd_is_state ["states", "value"] [] := D_is_state.bindsN fun _ _ _ _ _ _ us hl => match us, hl with | [_, _], _ => rfl
  have bi_signs_of : Binds K fd_signs_of ["letters"] [] := D_signs_of.bindsN fun _ _ _ _ _ _ us hl => match us, hl with | [_], _ => rfl
  have bi_is_symbol : Binds K fd_is_symbol ["value"] [] := D_is_symbol.bindsN fun _ _ _ _ _ _ us hl => match us, hl with | [_], _ => rfl
  have bi_is_key : Binds K fd_is_key ["letters", "states", "key"] [] := D_is_key.bindsN fun _ _ _ _ _ _ us hl => match us, hl with | [_, _, _], _ => rfl
  have bi_is_said : Binds K fd_is_said ["value"] [] := D_is_said.bindsN fun _ _ _ _ _ _ us hl => match us, hl with | [_], _ => rfl
  have bi_is_act : Binds K fd_is_act ["states", "key", "act"] [] := D_is_act.bindsN fun _ _ _ _ _ _ us hl => match us, hl with | [_, _, _], _ => rfl
  have bi_is_row : Binds K fd_is_row ["value"] [] := D_is_row.bindsN fun _ _ _ _ _ _ us hl => match us, hl with | [_], _ => rfl
  have bi_is_rule : Binds K fd_is_rule ["letters", "states", "rule"] [] := D_is_rule.bindsN fun _ _ _ _ _ _ us hl => match us, hl with | [_, _, _], _ => rfl
  have bi_check_machine : Binds K fd_check_machine ["letters", "states", "rules", "yes"] [] := D_check_machine.bindsN fun _ _ _ _ _ _ us hl => match us, hl with | [_, _, _, _], _ => rfl
  have bi_frozen : Binds K fd_frozen ["value"] [] := D_frozen.bindsN fun _ _ _ _ _ _ us hl => match us, hl with | [_], _ => rfl
  have bi_first_guess : Binds K fd_first_guess ["rules"] [] := D_first_guess.bindsN fun _ _ _ _ _ _ us hl => match us, hl with | [_], _ => rfl
  have bi_law_whole : Binds K fd_law_whole ["value"] [] := D_law_whole.bindsN fun _ _ _ _ _ _ us hl => match us, hl with | [_], _ => rfl
  have bi_law_same : Binds K fd_law_same ["told", "due"] [] := D_law_same.bindsN fun _ _ _ _ _ _ us hl => match us, hl with | [_, _], _ => rfl
  have bi_law_pool : Binds K fd_law_pool ["cell"] [] := D_law_pool.bindsN fun _ _ _ _ _ _ us hl => match us, hl with | [_], _ => rfl
  have bi_law_form : Binds K fd_law_form ["rule", "digit"] [] := D_law_form.bindsN fun _ _ _ _ _ _ us hl => match us, hl with | [_, _], _ => rfl
  have bi_law_fields : Binds K fd_law_fields ["machine"] [] := D_law_fields.bindsN fun _ _ _ _ _ _ us hl => match us, hl with | [_], _ => rfl
  have bi_BadMachine_init : Binds K fd_BadMachine_init ["self", "where"] [] := D_BadMachine_init.bindsN fun _ _ _ _ _ _ us hl => match us, hl with | [_, _], _ => rfl
  have bi_Machine_init : Binds K fd_Machine_init ["self", "letters", "states", "rules", "yes"] [] := binds_nil rfl (D_Machine_init.binds1 5 1 (by intro z; cases z) rfl fun _ _ _ _ _ _ _ us its hl hi => match us, hl, its, hi with | [_, _, _, _, _], _, [_], _ => ⟨_, rfl, rfl⟩)
  cases hfa.symm.trans (He.glo_ok X Gm (c.t.d.fact 27 (f := .glo "law") rfl))
  refine ⟨⟨fd_law, fun s v => D_law.bindsA (ps := ["script"]) (fun _ _ _ _ _ _ us hl => match us, hl with | [_], _ => rfl) s [v] rfl, fun base _ _ => ?_⟩, ex_at c.more 11 rfl⟩
  have e_BadMachine : ExcD P w K mg base "BadMachine" ["where"] := ⟨_, _, _, _, He.glo_ok X Gm (c.t.d.fact 28 (f := .glo "BadMachine") rfl), oexB_ok (ex_at c.more 7 rfl), He.eqO_ok (ex_at c.more 8 rfl), of_decide_eq_true (ex_at c.more 9 rfl), init1 D_BadMachine_init sc_BadMachine_init rfl, bi_BadMachine_init, fun x hx => by
    cases List.mem_singleton.mp hx; exact He.eqO_ok (ex_at c.more 10 rfl)⟩
  have c_law_digits : CalD P w K mg base 1 "_law_digits" g_law_digits := cal_of D_law_digits sc_law_digits rfl (He.glo_ok X Gm (c.t.d.fact 0 (f := .glo "_law_digits") rfl)) bi_law_digits (b_law_digits z)
  have c_law_any_letters : CalD P w K mg base 2 "_law_any_letters" g_law_any_letters := cal_of D_law_any_letters sc_law_any_letters rfl (He.glo_ok X Gm (c.t.d.fact 1 (f := .glo "_law_any_letters") rfl)) bi_law_any_letters (b_law_any_letters z c_law_digits)
  have c_law_symbol : CalD P w K mg base 1 "_law_symbol" g_law_symbol := cal_of D_law_symbol sc_law_symbol rfl (He.glo_ok X Gm (c.t.d.fact 2 (f := .glo "_law_symbol") rfl)) bi_law_symbol (b_law_symbol z)
  have c_law_rule : CalD P w K mg base 2 "_law_rule" g_law_rule := cal_of D_law_rule sc_law_rule rfl (He.glo_ok X Gm (c.t.d.fact 3 (f := .glo "_law_rule") rfl)) bi_law_rule (b_law_rule z c_law_digits c_law_symbol)
  have c_law_cell : CalD P w K mg base 1 "_law_cell" g_law_cell := cal_of D_law_cell sc_law_cell rfl (He.glo_ok X Gm (c.t.d.fact 4 (f := .glo "_law_cell") rfl)) bi_law_cell (b_law_cell z)
  have c_law_rules : CalD P w K mg base 3 "_law_rules" g_law_rules := cal_of D_law_rules sc_law_rules rfl (He.glo_ok X Gm (c.t.d.fact 5 (f := .glo "_law_rules") rfl)) bi_law_rules (b_law_rules z c_law_cell c_law_rule)
  have c_law_yes : CalD P w K mg base 2 "_law_yes" g_law_yes := cal_of D_law_yes sc_law_yes rfl (He.glo_ok X Gm (c.t.d.fact 6 (f := .glo "_law_yes") rfl)) bi_law_yes (b_law_yes z c_law_digits)
  have c_law_each_once : CalD P w K mg base 1 "_law_each_once" g_law_each_once := cal_of D_law_each_once sc_law_each_once rfl (He.glo_ok X Gm (c.t.d.fact 7 (f := .glo "_law_each_once") rfl)) bi_law_each_once (b_law_each_once z)
  have c_law_due : CalD P w K mg base 2 "_law_due" g_law_due := cal_of D_law_due sc_law_due rfl (He.glo_ok X Gm (c.t.d.fact 8 (f := .glo "_law_due") rfl)) bi_law_due (b_law_due z c_law_each_once)
  have c_is_alphabet : CalD P w K mg base 1 "is_alphabet" g_is_alphabet := cal_of D_is_alphabet sc_is_alphabet rfl (He.glo_ok X Gm (c.t.d.fact 9 (f := .glo "is_alphabet") rfl)) bi_is_alphabet (b_is_alphabet z)
  have c_is_whole : CalD P w K mg base 1 "is_whole" g_is_whole := cal_of D_is_whole sc_is_whole rfl (He.glo_ok X Gm (c.t.d.fact 10 (f := .glo "is_whole") rfl)) bi_is_whole (b_is_whole z)
  have c_is_state : CalD P w K mg base 2 "is_state" g_is_state := cal_of D_is_state sc_is_state rfl (He.glo_ok X Gm (c.t.d.fact 11 (f := .glo "is_state") rfl)) bi_is_state (b_is_state z c_is_whole)
  have c_signs_of : CalD P w K mg base 1 "signs_of" g_signs_of := cal_of D_signs_of sc_signs_of rfl (He.glo_ok X Gm (c.t.d.fact 12 (f := .glo "signs_of") rfl)) bi_signs_of (b_signs_of z)
  have c_is_symbol : CalD P w K mg base 1 "is_symbol" g_is_symbol := cal_of D_is_symbol sc_is_symbol rfl (He.glo_ok X Gm (c.t.d.fact 13 (f := .glo "is_symbol") rfl)) bi_is_symbol (b_is_symbol z)
  have c_is_key : CalD P w K mg base 3 "is_key" g_is_key := cal_of D_is_key sc_is_key rfl (He.glo_ok X Gm (c.t.d.fact 14 (f := .glo "is_key") rfl)) bi_is_key (b_is_key z c_is_state c_is_symbol c_signs_of)
  have c_is_said : CalD P w K mg base 1 "is_said" g_is_said := cal_of D_is_said sc_is_said rfl (He.glo_ok X Gm (c.t.d.fact 15 (f := .glo "is_said") rfl)) bi_is_said (b_is_said z)
  have c_is_act : CalD P w K mg base 3 "is_act" g_is_act := cal_of D_is_act sc_is_act rfl (He.glo_ok X Gm (c.t.d.fact 16 (f := .glo "is_act") rfl)) bi_is_act (b_is_act z c_is_said c_is_state c_is_symbol c_is_whole)
  have c_is_row : CalD P w K mg base 1 "is_row" g_is_row := cal_of D_is_row sc_is_row rfl (He.glo_ok X Gm (c.t.d.fact 17 (f := .glo "is_row") rfl)) bi_is_row (b_is_row z)
  have c_is_rule : CalD P w K mg base 4 "is_rule" g_is_rule := cal_of D_is_rule sc_is_rule rfl (He.glo_ok X Gm (c.t.d.fact 18 (f := .glo "is_rule") rfl)) bi_is_rule (b_is_rule z c_is_act c_is_key c_is_row)
  have c_check_machine : CalD P w K mg base 5 "check_machine" g_check_machine := cal_of D_check_machine sc_check_machine rfl (He.glo_ok X Gm (c.t.d.fact 19 (f := .glo "check_machine") rfl)) bi_check_machine (b_check_machine z c_is_alphabet c_is_rule c_is_state c_is_whole e_BadMachine)
  have c_frozen : CalD P w K mg base 8 "frozen" g_frozen := cal_rec (k0 := 0) D_frozen sc_frozen rfl (He.glo_ok X Gm (c.t.d.fact 20 (f := .glo "frozen") rfl)) bi_frozen (fun k g hk c1 => b_frozen z hk c1) 8
  have c_first_guess : CalD P w K mg base 1 "first_guess" g_first_guess := cal_of D_first_guess sc_first_guess rfl (He.glo_ok X Gm (c.t.d.fact 21 (f := .glo "first_guess") rfl)) bi_first_guess (b_first_guess z)
  have mkk_Machine_3_yes : MakDk P w K mg base 9 "Machine" 3 ["yes"] m_Machine := ⟨_, _, _, _, He.mkr_ok (c.t.d.fact 44 (f := .mkr "Machine") rfl), He.glo_ok X Gm (c.t.d.fact 29 (f := .glo "Machine") rfl), fn_i D_Machine_init sc_Machine_init rfl (b_Machine_init z c_check_machine c_first_guess c_frozen), bindsK D_Machine_init (by intro z; cases z) (fun _ _ _ _ _ _ _ us ws its h1 h2 h3 => match us, ws, its, h1, h2, h3 with | [_, _, _, _], [_], [_], _, _, _ => ⟨_, rfl, rfl⟩)⟩
  have mkd_Machine_3 : MakDd P w K mg base 9 "Machine" dfl_Machine_3 m_Machine := by
    obtain ⟨dss, rd, hb⟩ := D_Machine_init.binds1 (ps := ["self", "letters", "states", "rules", "yes"]) 4 0 (by intro z; cases z) rfl fun _ _ _ _ _ _ _ us its hl hi => match us, hl, its, hi with | [_, _, _, _], _, [_], _ => ⟨_, rfl, rfl⟩
    exact ⟨_, _, _, _, _, dss, He.mkr_ok (c.t.d.fact 44 (f := .mkr "Machine") rfl), He.glo_ok X Gm (c.t.d.fact 29 (f := .glo "Machine") rfl), fn_i D_Machine_init sc_Machine_init rfl (b_Machine_init z c_check_machine c_first_guess c_frozen), hb, rd, fun M G => .cons (dfl_ok (ex_at c.more 6 rfl) M G) .nil⟩
  have mk_Machine : MakD P w K mg base 9 "Machine" m_Machine := ⟨_, _, _, _, He.mkr_ok (c.t.d.fact 44 (f := .mkr "Machine") rfl), He.glo_ok X Gm (c.t.d.fact 29 (f := .glo "Machine") rfl), fn_i D_Machine_init sc_Machine_init rfl (b_Machine_init z c_check_machine c_first_guess c_frozen), bi_Machine_init⟩
  have c_law_whole : CalD P w K mg base 1 "_law_whole" g_law_whole := cal_of D_law_whole sc_law_whole rfl (He.glo_ok X Gm (c.t.d.fact 22 (f := .glo "_law_whole") rfl)) bi_law_whole (b_law_whole z)
  have c_law_same : CalD P w K mg base 9 "_law_same" g_law_same := cal_rec (k0 := 1) D_law_same sc_law_same rfl (He.glo_ok X Gm (c.t.d.fact 23 (f := .glo "_law_same") rfl)) bi_law_same (fun k g hk c1 => b_law_same z c_law_whole hk c1) 8
  have c_law_pool : CalD P w K mg base 2 "_law_pool" g_law_pool := cal_of D_law_pool sc_law_pool rfl (He.glo_ok X Gm (c.t.d.fact 24 (f := .glo "_law_pool") rfl)) bi_law_pool (b_law_pool z c_law_digits c_law_symbol)
  have c_law_form : CalD P w K mg base 1 "_law_form" g_law_form := cal_of D_law_form sc_law_form rfl (He.glo_ok X Gm (c.t.d.fact 25 (f := .glo "_law_form") rfl)) bi_law_form (b_law_form z)
  have c_law_fields : CalD P w K mg base 1 "_law_fields" g_law_fields := cal_of D_law_fields sc_law_fields rfl (He.glo_ok X Gm (c.t.d.fact 26 (f := .glo "_law_fields") rfl)) bi_law_fields (b_law_fields z)
  exact fn_d D_law sc_law rfl (b_law z mk_Machine mkk_Machine_3_yes mkd_Machine_3 c_law_any_letters c_law_cell c_law_digits c_law_due c_law_fields c_law_form c_law_pool c_law_rules c_law_same c_law_yes)
end K00


open PySem PySem.W PySem.Calls PyProof.Rows
set_option maxHeartbeats 0 in
theorem PySem.Challenge.cw_pilerecall_k00_machine_fields_holds : PySem.Challenge.rw_pilerecall_k00_machine_fields.Holds := by
  w_on; o_law
  refine HandSHeadRun.head_any (r := OpenLaw.row PySem.Challenge.rw_pilerecall_k00_machine_fields) (q := view (OpenLaw.row PySem.Challenge.rw_pilerecall_k00_machine_fields).prog [49]) (H := K00.hk) (ob := K00.ob) (M := 6000) (loose := K00.names) (d := HandSHeadRun.topDef (OpenLaw.row PySem.Challenge.rw_pilerecall_k00_machine_fields).prog 49) (kwd := []) K00.ob_eq
    (by kernel_rfl) (fun s => by kernel_rfl) K00.run (by kernel_rfl) (by kernel_rfl) (by kernel_rfl) (by rfl) (by first | assumption | decide +kernel) (by decide +kernel) ⟨rfl, rfl, rfl, rfl, rfl, by decide +kernel⟩ ?hw ?hc
  case hw => w_witness2
  case hc =>
    refine DL.walk_ofW (l := PySem.Challenge.rw_pilerecall_k00_machine_fields) (n := 63) (k := 11) (x := "script") (CX := fun w => L2N.CX (PySem.Challenge.rw_pilerecall_k00_machine_fields).prog w) rfl (by decide) (by kernel_rfl) ⟨rfl, by decide, by decide⟩ ?F ?C
    case C => intro w H s e s' h; obtain ⟨_, _, _, _, _, _, _, _, _, _, _, _, z⟩ := h; exact z
    intro w mg fa h Y Gm hmg0
    obtain ⟨K, KX, c⟩ := Y
    have hmg : mg ("law" : PySem.Str) = some (.ref fa) := by
      have e : (HandSHeadRun.topDef (OpenLaw.row PySem.Challenge.rw_pilerecall_k00_machine_fields).prog 49).name = ("law" : PySem.Str) := by kernel_rfl
      rw [← e]
      exact hmg0
    obtain ⟨⟨fd, hb, hF⟩, hn⟩ := K00.facts (P := (PySem.Challenge.rw_pilerecall_k00_machine_fields).prog) (w := w) KX Gm hmg c
    exact ⟨K, fd, DL.spD K ⟨mg, (PySem.Challenge.rw_pilerecall_k00_machine_fields).prog, w⟩ K00.g_law, KX, hb, fun H a ns hl ho hS => DL.law_end K00.law_true hn ns hl hS, hF⟩

