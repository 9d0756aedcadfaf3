import PyProof.Rows.All
import Wide.All
import OpenK.AllK
import Wide.FinOn
import HandS.ForMost
import HandS.TupSets
import KE.KDictKeyed
import KE.SortData
import HandS.IsInst
import HandS.DictTup
import KE.KDictDisplayH
import HandS.Walk
import KE.KDictCopyH
import PySem.Challenge.RW_indexwise_k16_whole_weights_count
set_option Elab.async false
set_option linter.all false
set_option autoImplicit false
set_option maxRecDepth 100000
/-! Probing in tables of any size 2^k: every slot is met, the first free slot is found (own work over HandS.TupSets' general lemmas). -/
namespace Nk
open PySem PySem.Spec PyProof.Rows L2

/-- 1 + 5 + .. + 5^(n-1) -/
def geo : Nat → Nat
  | 0 => 0
  | n + 1 => 5 * geo n + 1
theorem five_geo : ∀ n, 5 ^ n = 4 * geo n + 1
  | 0 => rfl
  | n + 1 => by
    rw [Nat.pow_succ, five_geo n]
    show (4 * geo n + 1) * 5 = 4 * (5 * geo n + 1) + 1
    omega
theorem geo_add (a : Nat) : ∀ b, geo (a + b) = 5 ^ b * geo a + geo b
  | 0 => by
    show geo a = 1 * geo a + 0
    omega
  | b + 1 => by
    show 5 * geo (a + b) + 1 = 5 ^ (b + 1) * geo a + (5 * geo b + 1)
    rw [geo_add a b, Nat.pow_succ, Nat.mul_add, ← Nat.mul_assoc, Nat.mul_comm (5 ^ b) 5]
    omega
/-- at a power of two it is that power times an odd number -/
theorem geo_two : ∀ k, ∃ c, geo (2 ^ k) = 2 ^ k * (2 * c + 1)
  | 0 => ⟨0, rfl⟩
  | k + 1 => by
    obtain ⟨c, e⟩ := geo_two k
    have h : geo (2 ^ (k + 1)) = 2 * geo (2 ^ k) * (2 * geo (2 ^ k) + 1) := by
      rw [Nat.pow_succ, Nat.mul_two, geo_add, five_geo]
      generalize geo (2 ^ k) = g
      have e1 : (4 * g + 1) * g + g = (4 * g + 1 + 1) * g := (Nat.succ_mul _ _).symm
      have e2 : 4 * g + 1 + 1 = 2 * (2 * g + 1) := by omega
      rw [e1, e2, Nat.mul_assoc, Nat.mul_comm (2 * g + 1) g, ← Nat.mul_assoc]
    refine ⟨c * (2 * geo (2 ^ k) + 1) + geo (2 ^ k), ?_⟩
    have e3 : 2 * (c * (2 * geo (2 ^ k) + 1) + geo (2 ^ k)) + 1 = (2 * c + 1) * (2 * geo (2 ^ k) + 1) := by
      rw [Nat.add_mul, Nat.mul_add 2, ← Nat.mul_assoc, Nat.one_mul]
      omega
    rw [e3, h, ← Nat.mul_assoc]
    generalize 2 * geo (2 ^ k) + 1 = y
    rw [e, Nat.pow_succ]
    congr 1
    rw [← Nat.mul_assoc, Nat.mul_comm 2 (2 ^ k)]
theorem mod_two (v M x : Nat) : (v + M * x) % (M * 2) = v % M + M * ((v / M + x) % 2) := by
  rcases Nat.eq_zero_or_pos M with h | h
  · subst h
    simp
  · rw [Nat.mod_mul, Nat.add_mul_mod_self_left, Nat.add_mul_div_left _ _ h]
/-- every rest is met -/
theorem geo_meets (i : Nat) : ∀ k j, j < 2 ^ k → ∃ n, n < 2 ^ k ∧ (5 ^ n * i + geo n) % 2 ^ k = j
  | 0, j, h => ⟨0, Nat.one_pos, by
    have : j = 0 := by
      have h' : j < 1 := h
      omega
    rw [this]
    exact Nat.mod_one _⟩
  | k + 1, j, h => by
    have hM : 0 < 2 ^ k := Nat.pow_pos (by decide)
    have h2 : 2 ^ (k + 1) = 2 ^ k * 2 := Nat.pow_succ ..
    rw [h2] at h
    obtain ⟨n, hn, e⟩ := geo_meets i k (j % 2 ^ k) (Nat.mod_lt _ hM)
    obtain ⟨c, ec⟩ := geo_two k
    have e5 := five_geo (2 ^ k)
    have ga := geo_add n (2 ^ k)
    have p5 : 5 ^ (n + 2 ^ k) = 5 ^ (2 ^ k) * 5 ^ n := by rw [Nat.pow_add, Nat.mul_comm]
    rw [h2]
    generalize 2 ^ k = M at *
    generalize hv : 5 ^ n * i + geo n = v at e
    have hj : j = j % M + M * (j / M % 2) := by
      have q := Nat.mod_mul (x := j) (a := M) (b := 2)
      rw [Nat.mod_eq_of_lt h] at q
      exact q
    by_cases hp : v / M % 2 = j / M % 2
    · refine ⟨n, by omega, ?_⟩
      rw [hv]
      have q := mod_two v M 0
      rw [Nat.mul_zero, Nat.add_zero, Nat.add_zero] at q
      rw [q, e, hp, ← hj]
    · refine ⟨n + M, by omega, ?_⟩
      have ev : 5 ^ (n + M) * i + geo (n + M) = v + M * ((2 * c + 1) * (4 * v + 1)) := by
        have a1 : 5 ^ M * (5 ^ n * i) + 5 ^ M * geo n = 5 ^ M * v := by rw [← Nat.mul_add, hv]
        rw [p5, ga, Nat.mul_assoc, ← Nat.add_assoc, a1, e5, ec]
        have a2 : (4 * (M * (2 * c + 1)) + 1) * v = v + M * ((2 * c + 1) * (4 * v)) := by
          rw [Nat.add_mul, Nat.one_mul, Nat.add_comm]
          congr 1
          rw [Nat.mul_assoc, Nat.mul_left_comm, Nat.mul_assoc]
        have a3 : (2 * c + 1) * (4 * v + 1) = (2 * c + 1) * (4 * v) + (2 * c + 1) := by rw [Nat.mul_add, Nat.mul_one]
        rw [a2, a3]
        generalize (2 * c + 1) * (4 * v) = y
        generalize 2 * c + 1 = z
        rw [Nat.mul_add, Nat.add_assoc]
      rw [ev, mod_two, e]
      have odd : ((2 * c + 1) * (4 * v + 1)) % 2 = 1 := by
        rw [Nat.mul_mod]
        have a1 : (2 * c + 1) % 2 = 1 := by omega
        have a2 : (4 * v + 1) % 2 = 1 := by omega
        rw [a1, a2]
      generalize (2 * c + 1) * (4 * v + 1) = x at odd
      have : (v / M + x) % 2 = j / M % 2 := by omega
      rw [this, ← hj]

/-- a mask: one less than a power of two, not too large -/
def Msk (m : Nat) : Prop := ∃ k, 3 ≤ k ∧ k ≤ 13 ∧ m + 1 = 2 ^ k
theorem Msk.bd {m : Nat} (h : Msk m) : 7 ≤ m ∧ m ≤ 8191 := by
  obtain ⟨k, h1, h2, e⟩ := h
  have a : 2 ^ 3 ≤ 2 ^ k := Nat.pow_le_pow_right (by decide) h1
  have b : 2 ^ k ≤ 2 ^ 13 := Nat.pow_le_pow_right (by decide) h2
  omega
theorem Msk.odd {m : Nat} (h : Msk m) : m % 2 = 1 := by
  obtain ⟨k, h1, h2, e⟩ := h
  obtain ⟨j, rfl⟩ : ∃ j, k = j + 1 := ⟨k - 1, by omega⟩
  rw [Nat.pow_succ] at e
  omega
theorem lcg_val (m i : Nat) (hi : i ≤ m) : ∀ n, lcgI m i n = (5 ^ n * i + geo n) % (m + 1)
  | 0 => by
    show i = (1 * i + 0) % (m + 1)
    rw [Nat.one_mul, Nat.add_zero, Nat.mod_eq_of_lt (Nat.lt_succ_of_le hi)]
  | n + 1 => by
    show (lcgI m i n * 5 + 1) % (m + 1) = (5 ^ (n + 1) * i + (5 * geo n + 1)) % (m + 1)
    rw [lcg_val m i hi n]
    have e : 5 ^ (n + 1) * i + (5 * geo n + 1) = (5 ^ n * i + geo n) * 5 + 1 := by
      rw [Nat.pow_succ, Nat.add_mul, Nat.mul_right_comm]
      omega
    rw [e]
    generalize 5 ^ n * i + geo n = v
    rw [Nat.add_mod, Nat.mul_mod, Nat.mod_mod, ← Nat.mul_mod, ← Nat.add_mod]
theorem lcg_meets {m : Nat} (hm : Msk m) {i j : Nat} (hi : i ≤ m) (hj : j ≤ m) : ∃ n, n ≤ m ∧ lcgI m i n = j := by
  obtain ⟨k, h1, h2, e⟩ := hm
  obtain ⟨n, hn, q⟩ := geo_meets i k j (by omega)
  refine ⟨n, by omega, ?_⟩
  rw [lcg_val m i hi, e]
  exact q
/-- each slot begins a run early enough -/
theorem run_to {m : Nat} (hm : Msk m) (h : Int) {j : Nat} (hj : j ≤ m) : ∃ n, n ≤ m + 12 ∧ runI m (SetTable.bits h) n = j := by
  obtain ⟨k, hk, e⟩ := lcg_meets hm (runI_le m (SetTable.bits h) 12) hj
  exact ⟨12 + k, by omega, (runI_tail (bits_lt h) k).trans e⟩
/-- the k-th slot on the way of the hash h -/
abbrev wy (m : Nat) (h : Int) (k : Nat) : Nat := way m h k
theorem way_to {m : Nat} (hm : Msk m) (h : Int) {j : Nat} (hj : j ≤ m) : ∃ k, k < 10 * SetTable.turns m ∧ way m h k = j := by
  obtain ⟨n, hn, e⟩ := run_to hm h hj
  obtain ⟨k, hk, q⟩ := run_nth m (SetTable.bits h) n
  have hk2 : k < 10 * SetTable.turns m := by
    show k < 10 * (m + 15)
    omega
  exact ⟨k, hk2, (congrArg SetTable.Probe.j q).trans e⟩
theorem way_in (m : Nat) (h : Int) (k : Nat) : way m h k ≤ m := by
  have hb : SetTable.bits h % (m + 1) ≤ m := Nat.le_of_lt_succ (Nat.mod_lt _ (Nat.succ_pos _))
  have r := runEnd_bd hb
  have z : (runAt m (SetTable.bits h % (m + 1)) (SetTable.bits h)).j + (runAt m (SetTable.bits h % (m + 1)) (SetTable.bits h)).more ≤ m := by
    show SetTable.bits h % (m + 1) + (SetTable.runEnd m (SetTable.bits h % (m + 1)) - SetTable.bits h % (m + 1)) ≤ m
    omega
  exact Nat.le_trans (Nat.le_add_right _ _) (nth_in k _ z)

/-! ### the table -/
/-- every entry is found again on the way of its hash -/
structure Tab (t : SetTable) (hs : List Int) : Prop where
  ris : Ris t.place.toList
  dm : t.dummies = #[]
  sz : t.place.size = hs.length
  mok : Msk t.mask
  bd : ∀ x ∈ t.place.toList, x ≤ t.mask
  reach : ∀ (i : Nat) (h : Int) (j : Nat), hs[i]? = some h → t.place.toList[i]? = some j → ∃ k, way t.mask h k = j ∧ ∀ k', k' < k → way t.mask h k' ∈ t.place.toList
theorem Tab.len {t : SetTable} {hs : List Int} (T : Tab t hs) : t.place.toList.length = hs.length := by
  rw [Array.length_toList, T.sz]
theorem Tab.first {t : SetTable} {hs : List Int} (T : Tab t hs) (hl : hs.length ≤ t.mask) (h : Int) :
    ∃ K, K < 10 * SetTable.turns t.mask ∧ way t.mask h K ∉ t.place.toList ∧ ∀ k, k < K → way t.mask h k ∈ t.place.toList := by
  have hlen : t.place.toList.length < t.mask + 1 := by
    rw [T.len]
    omega
  obtain ⟨j, hj, hn⟩ := st_missing t.place.toList (t.mask + 1) hlen
  obtain ⟨k, hk, e⟩ := way_to T.mok h (Nat.le_of_lt_succ hj)
  have hk0 : way t.mask h k ∉ t.place.toList := by
    rw [e]
    exact hn
  obtain ⟨K, h1, h2, h3⟩ := st_least (p := fun k => way t.mask h k ∉ t.place.toList) k hk0
  exact ⟨K, Nat.lt_of_le_of_lt h1 hk, h2, fun k' hk' => Classical.byContradiction fun c => h3 k' hk' c⟩
theorem Tab.before {t : SetTable} {hs : List Int} (T : Tab t hs) {h : Int} {K i j : Nat} (hK : way t.mask h K ∉ t.place.toList) (hi : hs[i]? = some h) (hj : t.place.toList[i]? = some j) : ∃ k, k < K ∧ way t.mask h k = j := by
  obtain ⟨k, e, hb⟩ := T.reach i h j hi hj
  refine ⟨k, ?_, e⟩
  apply Classical.byContradiction
  intro c
  rcases Nat.eq_or_lt_of_le (Nat.le_of_not_lt c) with d | d
  · rw [d, e] at hK
    exact hK (List.mem_of_getElem? hj)
  · exact hK (hb K d)
/-- one more entry, at the first free slot of its way -/
theorem Tab.put {t : SetTable} {hs : List Int} (T : Tab t hs) {h : Int} {K : Nat} (hK : way t.mask h K ∉ t.place.toList) (hb : ∀ k, k < K → way t.mask h k ∈ t.place.toList) :
    ∃ t1 p, t.put (way t.mask h K) = (t1, p) ∧ p ≤ hs.length ∧ Tab t1 (hs.take p ++ h :: hs.drop p) ∧ t1.mask = t.mask ∧ t1.led = t.led ∧ t1.plain = t.plain ∧ t1.fill = hs.length + 1 := by
  have hpl : SetTable.below t.place (way t.mask h K) ≤ hs.length := by
    rw [← T.sz]
    exact (below_cut T.ris _).1
  have hpl2 : SetTable.below t.place (way t.mask h K) ≤ t.place.toList.length := by
    rw [T.len]
    exact hpl
  have hpp := put_place t (way t.mask h K)
  have hno : t.place[SetTable.below t.place (way t.mask h K)]? ≠ some (way t.mask h K) := fun e => hK (List.mem_of_getElem? (by rw [Array.getElem?_toList]; exact e))
  have hri := ris_insert T.ris hno
  have hdm := put_dm T.dm (way t.mask h K)
  refine ⟨(t.put (way t.mask h K)).1, SetTable.below t.place (way t.mask h K), rfl, hpl, ?_, rfl, rfl, rfl, ?_⟩
  · generalize hq : SetTable.below t.place (way t.mask h K) = p at *
    generalize ht : (t.put (way t.mask h K)).1 = t1 at *
    have hmk : t1.mask = t.mask := by rw [← ht]; rfl
    have hsz : t1.place.size = hs.length + 1 := by
      rw [← Array.length_toList, hpp, len_ins _ hpl2, T.len]
    have hri' : Ris t1.place.toList := by
      rw [hpp]
      rw [SetTable.toList_insertAt] at hri
      exact hri
    refine ⟨hri', hdm, by rw [hsz, len_ins _ hpl], by rw [hmk]; exact T.mok, fun x hx => ?_, fun i h' j h1 h2 => ?_⟩
    · rw [hpp] at hx
      rw [hmk]
      rcases mem_ins.1 hx with z | z
      · rw [z]
        exact way_in _ _ _
      · exact T.bd x z
    · rw [tins_get hs hpl] at h1
      rw [hpp, tins_get _ hpl2] at h2
      rw [hmk, hpp]
      by_cases c : i < p
      · rw [if_pos c] at h1 h2
        obtain ⟨k, e, z⟩ := T.reach i h' j h1 h2
        exact ⟨k, e, fun k' hk' => mem_ins.2 (.inr (z k' hk'))⟩
      · rw [if_neg c] at h1 h2
        by_cases d : i = p
        · rw [if_pos d] at h1 h2
          cases h1
          cases h2
          exact ⟨K, rfl, fun k' hk' => mem_ins.2 (.inr (hb k' hk'))⟩
        · rw [if_neg d] at h1 h2
          obtain ⟨k, e, z⟩ := T.reach (i - 1) h' j h1 h2
          exact ⟨k, e, fun k' hk' => mem_ins.2 (.inr (z k' hk'))⟩
  · show (t.put (way t.mask h K)).1.place.size + (t.put (way t.mask h K)).1.dummies.size = hs.length + 1
    rw [hdm, ← Array.length_toList, hpp, len_ins _ hpl2, T.len]
    rfl

/-! ### all laid anew -/
theorem free_way {m : Nat} (hm : Msk m) (owner : Array (Option Nat)) (h : Int) {j : Nat} (hj : j ≤ m) (hf : oAt owner j = none) :
    ∃ K, SetTable.layClean.free m owner (SetTable.turns m) (SetTable.bits h % (m + 1)) (SetTable.bits h) = some (way m h K) ∧ oAt owner (way m h K) = none ∧ ∀ k, k < K → oAt owner (way m h k) ≠ none := by
  obtain ⟨n, hn, e⟩ := run_to hm h hj
  have hw : oAt owner (way m h (off m (SetTable.bits h % (m + 1)) (SetTable.bits h) n)) = none := by
    have q : way m h (off m (SetTable.bits h % (m + 1)) (SetTable.bits h) n) = j := by
      have q1 := nth_off m n (SetTable.bits h % (m + 1)) (SetTable.bits h)
      rw [itL_run] at q1
      exact (congrArg SetTable.Probe.j q1).trans e
    rw [q]
    exact hf
  obtain ⟨K, k1, k2, k3⟩ := st_least (p := fun k => oAt owner (way m h k) = none) _ hw
  refine ⟨K, free_spec m owner (SetTable.turns m) n _ _ K ?_ k1 (fun k hk => ?_) ?_, k2, k3⟩
  · show n < m + 15
    omega
  · have q := k3 k hk
    cases z : oAt owner (way m h k) with
    | none => exact absurd z q
    | some x => rfl
  · show (oAt owner (way m h K)).isNone = true
    rw [k2]
    rfl
theorem own_step {m : Nat} (hm : Msk m) {done : List Int} {owner : Array (Option Nat)} (W : Own m done owner) (hl : done.length ≤ m) (h : Int) :
    ∃ j, SetTable.layClean.free m owner (SetTable.turns m) (SetTable.bits h % (m + 1)) (SetTable.bits h) = some j ∧ Own m (done ++ [h]) (owner.setIfInBounds j (some done.length)) := by
  obtain ⟨ps, hps, hin⟩ := W.ps
  obtain ⟨j0, h0, hn0⟩ := st_missing ps (m + 1) (by omega)
  have hj0 : oAt owner j0 = none := Classical.byContradiction fun c => hn0 (hin j0 (Nat.le_of_lt_succ h0) c)
  obtain ⟨K, e1, e2, e3⟩ := free_way hm owner h (Nat.le_of_lt_succ h0) hj0
  have hjs : way m h K < owner.size := by
    rw [W.sz]
    exact Nat.lt_succ_of_le (way_in _ _ _)
  have hself := oAt_set_self (some done.length) hjs
  have mono : ∀ {i : Nat}, oAt owner i ≠ none → oAt (owner.setIfInBounds (way m h K) (some done.length)) i ≠ none := fun {i} hi => by
    by_cases c : i = way m h K
    · rw [c, hself]
      exact fun e => nomatch e
    · rw [oAt_set_ne _ c]
      exact hi
  refine ⟨way m h K, e1, ⟨by rw [Array.size_setIfInBounds]; exact W.sz, fun j k hj e => ?_, fun k hk => ?_, way m h K :: ps, by simp [hps], fun j hj e => ?_⟩⟩
  · by_cases c : j = way m h K
    · rw [c, hself] at e
      have ek : done.length = k := Option.some.inj e
      refine ⟨h, K, ?_, c.symm, fun k' hk' => mono (e3 k' hk')⟩
      rw [← ek]
      simp
    · rw [oAt_set_ne _ c] at e
      obtain ⟨h', K', a1, a2, a3⟩ := W.at_ j k hj e
      refine ⟨h', K', ?_, a2, fun k' hk' => mono (a3 k' hk')⟩
      rw [List.getElem?_append_left (List.getElem?_eq_some_iff.mp a1).1]
      exact a1
  · by_cases c : k < done.length
    · obtain ⟨j, hj, e⟩ := W.all k c
      refine ⟨j, hj, ?_⟩
      rw [oAt_set_ne _ (fun z => by rw [z, e2] at e; cases e)]
      exact e
    · have ek : k = done.length := by
        simp at hk
        omega
      rw [ek]
      exact ⟨way m h K, way_in _ _ _, hself⟩
  · by_cases c : j = way m h K
    · rw [c]
      exact List.mem_cons_self
    · rw [oAt_set_ne _ c] at e
      exact List.mem_cons_of_mem _ (hin j hj e)
theorem own_fold {m : Nat} (hm : Msk m) : ∀ (rest done : List Int) (owner : Array (Option Nat)), Own m done owner → done.length + rest.length ≤ m →
    ∃ owner', rest.foldl (stepF m) (some (owner, done.length)) = some (owner', (done ++ rest).length) ∧ Own m (done ++ rest) owner'
  | [], done, owner, W, _ => ⟨owner, by simp, by simpa using W⟩
  | h :: rest, done, owner, W, hl => by
    rw [List.length_cons] at hl
    obtain ⟨j, e, W'⟩ := own_step hm W (by omega) h
    have hl' : (done ++ [h]).length = done.length + 1 := by simp
    obtain ⟨owner', f, W2⟩ := own_fold hm rest (done ++ [h]) _ W' (by rw [hl']; omega)
    have ea : done ++ [h] ++ rest = done ++ h :: rest := by simp
    rw [ea, hl'] at f
    rw [ea] at W2
    refine ⟨owner', ?_, W2⟩
    rw [List.foldl_cons, stepF_some e]
    exact f
theorem lay_ok {m : Nat} (hm : Msk m) {hs : Array Int} (hn : hs.size ≤ m) : ∃ owner, SetTable.layClean m hs = some owner ∧ Own m hs.toList owner := by
  obtain ⟨owner, f, W⟩ := own_fold hm hs.toList [] _ (Own.init m) (by simpa using hn)
  refine ⟨owner, ?_, by simpa using W⟩
  rw [layClean_eq]
  have f' : hs.toList.foldl (stepF m) (some (Array.replicate (m + 1) none, 0)) = some (owner, ([] ++ hs.toList).length) := f
  rw [f']
  rfl
theorem relay_ok (t : SetTable) {hs : Array Int} {wanted M : Nat} (hw : SetTable.sizeAbove wanted - 1 = M) (hM : Msk M) (hn : hs.size ≤ M) :
    ∃ t' order, t.relaid hs wanted = some (t', order) ∧ order.toList.Perm (List.range hs.size) ∧ Tab t' (order.toList.map fun i => hs.getD i 0) ∧ t'.mask = M ∧ t'.led = t.led ∧ t'.plain = t.plain := by
  obtain ⟨owner, e, W⟩ := lay_ok hM hn
  have hr : t.relaid hs wanted = some (tabOf t M owner, ((liveOf M owner).map (·.2)).toArray) := by
    rw [relaid_eq, hw, e]
    rfl
  have ris := ris_live (fun j => owner.getD j none) (List.range (M + 1)) (by
    unfold Ris
    first | exact List.pairwise_lt_range | exact List.pairwise_lt_range _)
  have r1 : Ris ((liveOf M owner).map (·.1)) := ris.1
  have nd : ((liveOf M owner).map (·.1)).Nodup := List.Pairwise.imp (fun h => Nat.ne_of_lt h) r1
  have hlen : (liveOf M owner).length = hs.size := by
    obtain ⟨ps, p1, p2⟩ := W.ps
    have a := nat_nodup_len ((liveOf M owner).map (·.1)) ps nd fun x hx => by
      obtain ⟨⟨y, k⟩, hq, ey⟩ := List.mem_map.mp hx
      have ey : y = x := ey
      subst ey
      obtain ⟨b1, b2⟩ := (mem_live W.sz).1 hq
      exact p2 y b1 (by rw [b2]; exact fun z => nomatch z)
    have b := nat_nodup_len (List.range hs.size) ((liveOf M owner).map (·.2)) List.nodup_range fun k hk => by
      obtain ⟨j, b1, b2⟩ := W.all k (by rw [Array.length_toList]; exact List.mem_range.mp hk)
      exact List.mem_map.mpr ⟨(j, k), (mem_live W.sz).2 ⟨b1, b2⟩, rfl⟩
    rw [List.length_map, p1, Array.length_toList] at a
    rw [List.length_map, List.length_range] at b
    exact Nat.le_antisymm a b
  refine ⟨tabOf t M owner, ((liveOf M owner).map (·.2)).toArray, hr, ?_, ⟨r1, rfl, ?_, hM, fun x hx => ?_, fun i h j h1 h2 => ?_⟩, rfl, rfl, rfl⟩
  · refine perm_range hs.size _ (by simpa using hlen) fun k hk => ?_
    obtain ⟨j, b1, b2⟩ := W.all k (by rw [Array.length_toList]; exact hk)
    exact List.mem_map.mpr ⟨(j, k), (mem_live W.sz).2 ⟨b1, b2⟩, rfl⟩
  · show ((liveOf M owner).map (·.1)).toArray.size = (((liveOf M owner).map (·.2)).map fun i => hs.getD i 0).length
    simp
  · exact Nat.le_of_lt_succ (List.mem_range.mp (ris.2 x hx))
  · have h1' : (((liveOf M owner).map (·.2)).map fun i => hs.getD i 0)[i]? = some h := h1
    have h2' : ((liveOf M owner).map (·.1))[i]? = some j := h2
    rw [List.getElem?_map, List.getElem?_map] at h1'
    rw [List.getElem?_map] at h2'
    cases hq : (liveOf M owner)[i]? with
    | none =>
      rw [hq] at h2'
      cases h2'
    | some q =>
      obtain ⟨y, k⟩ := q
      rw [hq] at h1' h2'
      cases h2'
      have eh : hs.getD k 0 = h := Option.some.inj h1'
      obtain ⟨b1, b2⟩ := (mem_live W.sz).1 (List.mem_of_getElem? hq)
      obtain ⟨h0, K, a1, a2, a3⟩ := W.at_ y k b1 b2
      have e0 : hs.getD k 0 = h0 := by
        rw [Array.getD_eq_getD_getElem?, ← Array.getElem?_toList, a1]
        rfl
      have e2 : h0 = h := e0.symm.trans eh
      subst e2
      refine ⟨K, a2, fun k' hk' => ?_⟩
      show way M h0 k' ∈ (liveOf M owner).map (·.1)
      cases z : oAt owner (way M h0 k') with
      | none => exact absurd z (a3 k' hk')
      | some k2 => exact List.mem_map.mpr ⟨(way M h0 k', k2), (mem_live W.sz).2 ⟨way_in _ _ _, z⟩, rfl⟩
theorem grow5 : SetTable.sizeAbove (SetTable.grown 5) = 32 := by decide +kernel
theorem grow19 : SetTable.sizeAbove (SetTable.grown 19) = 128 := by decide +kernel
theorem grow77 : SetTable.sizeAbove (SetTable.grown 77) = 512 := by decide +kernel
theorem grow307 : SetTable.sizeAbove (SetTable.grown 307) = 2048 := by decide +kernel
theorem grow1229 : SetTable.sizeAbove (SetTable.grown 1229) = 8192 := by decide +kernel
end Nk


/-! Sets of nested tuples, of texts: set(xs) of distinct things, its members gathered, its length. -/
namespace Nk
open PySem PySem.Spec PyProof.Rows L2

/-- at a stands the nested tuple k -/
def NKey (h : Heap) (k : NestedKey) (a : Addr) : Prop := NestedIs h k (.ref a) ∧ k.depth ≤ 8
theorem NKey.typeIs {s : Shared} {k : NestedKey} {a : Addr} (x : NKey s.heap k a) : s.TypeIs (.ref a) "tuple" := by
  obtain ⟨x, _⟩ := x
  cases x with
  | tup h1 h2 _ _ => exact ⟨_, h1, h2⟩
theorem NKey.keep {h h' : Heap} {k : NestedKey} {a : Addr} (x : NKey h k a) (hk : ∀ b o vs n, h.get? b = some o → o.data = .seq vs n → h'.get? b = some o) : NKey h' k a := ⟨NestedIs.at hk _ _ x.1, x.2⟩
theorem NKey.all {h h' : Heap} {k : NestedKey} {a : Addr} (x : NKey h k a) (hk : ∀ b o, h.get? b = some o → h'.get? b = some o) : NKey h' k a := x.keep fun b o _ _ e _ => hk b o e
theorem NKey.but {h h' : Heap} {k : NestedKey} {a d : Addr} {o : Obj} {es : Array (Int × Value)} {ep : Nat} {t : SetTable} (x : NKey h k a) (ho : h.get? d = some o) (hd : o.data = .set es ep t) (hs : Heap.SameBut d h h') : NKey h' k a :=
  x.keep fun b ob vs n e q => (hs.2 b (fun z => by
    subst z
    rw [ho] at e
    cases e
    rw [hd] at q
    cases q)).trans e
theorem NKey.inj {h : Heap} {k k' : NestedKey} {a : Addr} (x : NKey h k a) (y : NKey h k' a) : k = k' := NestedIs.inj _ _ _ x.1 y.1

section
variable {P : Program} {w : World}
/-- hashByValue of v, n deep, comes to something -/
def HashAt (P : Program) (w : World) (n : Nat) (s : Shared) (v : Value) : Prop := ∀ (A : Around) (E : Value → Shared → Prop) (Q : Bool → Shared → Prop), (∀ b, Q b s) → wpAny (model P w) A (hashByValue n v) Q E s
theorem HashAt.pure {n : Nat} {s : Shared} {v : Value} {b : Bool} (h : hashByValue n v = Pure.pure b) : HashAt P w n s v := fun A E Q hq => by
  rw [h]
  exact wpAny_pure (hq b)
theorem HashAt.tuple {n : Nat} {s : Shared} {a : Addr} {o : Obj} {vs : Array Value} {m : Nat} (ho : s.heap.get? a = some o) (hc : o.cls = .type "tuple") (hd : o.data = .seq vs m) (hq : ∀ v ∈ vs.toList, HashAt P w n s v) : HashAt P w (n + 1) s (.ref a) := fun A E Q h => by
  unfold hashByValue
  refine wpAny_bind (wpAny_specialOf (T := "tuple") ⟨o, ho, hc⟩ F.slot_tuple_hash.lookup ?_)
  show wpAny _ _ (seqItems? (.ref a) >>= _) _ _ s
  refine wpAny_bind (wpAny_seqItems ho hd ?_)
  refine wpAny_bind ?_
  show wpAny _ _ (forIn vs _ _) _ _ s
  rw [← Array.forIn_toList]
  refine wpAny_forIn_list _ (fun rest r s' => r.1 = none ∧ s' = s ∧ ∀ v ∈ rest, HashAt P w n s v) _ ?_ ?_ _ _ ⟨rfl, rfl, hq⟩
  · rintro v rest r s' ⟨hr, rfl, hall⟩
    refine wpAny_bind (hall v List.mem_cons_self _ _ _ fun b => ?_)
    cases b with
    | true =>
      simp only [Bool.not_true, Bool.false_eq_true, if_false]
      exact wpAny_pure ⟨rfl, rfl, fun u hu => hall u (List.mem_cons_of_mem _ hu)⟩
    | false =>
      simp only [Bool.not_false, if_true]
      exact wpAny_pure (wpAny_pure (h _))
  · rintro ⟨r1, r2⟩ s' ⟨hr, rfl, _⟩
    simp only at hr
    subst hr
    exact wpAny_pure (h _)
mutual
theorem hashAt_key : ∀ (k : NestedKey) (v : Value) (n : Nat) (s : Shared), NestedIs s.heap k v → HashAt P w n s v
  | .none, _, n, s, x => by cases x; cases n <;> exact .pure rfl
  | .num i, _, n, s, x => by cases x <;> cases n <;> exact .pure rfl
  | .text y, _, n, s, x => by cases x; cases n <;> exact .pure rfl
  | .tup ks, _, n, s, x => by
    cases x with
    | tup hg hc hd hk =>
      cases n with
      | zero => exact .pure rfl
      | succ n => exact .tuple hg hc hd (hashAt_keys ks _ n s hk)
theorem hashAt_keys : ∀ (ks : List NestedKey) (vs : List Value) (n : Nat) (s : Shared), NestedAll s.heap ks vs → ∀ v ∈ vs, HashAt P w n s v
  | [], _, n, s, x, v, hv => by cases x; cases hv
  | k :: ks, _, n, s, x, v, hv => by
    cases x with
    | cons x1 x2 =>
      rcases List.mem_cons.mp hv with e | hv
      · rw [e]
        exact hashAt_key k _ n s x1
      · exact hashAt_keys ks _ n s x2 v hv
end
/-- no class statement of the program's in v, n deep -/
def PlainAt (P : Program) (w : World) (n : Nat) (s : Shared) (v : Value) : Prop := ∀ (A : Around) (E : Value → Shared → Prop) (Q : Bool → Shared → Prop), Q false s → wpAny (model P w) A (ofAClassStatement n v) Q E s
theorem PlainAt.pure {n : Nat} {s : Shared} {v : Value} (h : ofAClassStatement n v = Pure.pure false) : PlainAt P w n s v := fun A E Q hq => by
  rw [h]
  exact wpAny_pure hq
theorem PlainAt.tuple {n : Nat} {s : Shared} {a : Addr} {o : Obj} {vs : Array Value} {m : Nat} (ho : s.heap.get? a = some o) (hc : o.cls = .type "tuple") (hd : o.data = .seq vs m) (hq : ∀ v ∈ vs.toList, PlainAt P w n s v) : PlainAt P w (n + 1) s (.ref a) := fun A E Q h => by
  unfold ofAClassStatement
  refine wpAny_bind (wpAny_typeOf (T := "tuple") ⟨o, ho, hc⟩ ?_)
  dsimp only
  have e : (("tuple" : String) == "tuple") = true := by decide
  simp only [e, if_true, Bool.not_true, Bool.false_eq_true, if_false]
  try refine wpAny_bind (wpAny_pure ?_)
  try simp only [Bool.not_true, Bool.false_eq_true, if_false]
  show wpAny _ _ (seqItems? (.ref a) >>= _) _ _ s
  refine wpAny_bind (wpAny_seqItems ho hd ?_)
  dsimp only
  refine wpAny_bind ?_
  show wpAny _ _ (forIn vs _ _) _ _ s
  rw [← Array.forIn_toList]
  refine wpAny_forIn_list _ (fun rest r s' => r.1 = none ∧ s' = s ∧ ∀ v ∈ rest, PlainAt P w n s v) _ ?_ ?_ _ _ ⟨rfl, rfl, hq⟩
  · rintro v rest r s' ⟨hr, rfl, hall⟩
    refine wpAny_bind (hall v List.mem_cons_self _ _ _ ?_)
    simp only [Bool.false_eq_true, if_false]
    exact wpAny_pure ⟨rfl, rfl, fun u hu => hall u (List.mem_cons_of_mem _ hu)⟩
  · rintro ⟨r1, r2⟩ s' ⟨hr, rfl, _⟩
    simp only at hr
    subst hr
    exact wpAny_pure h
mutual
theorem plainAt_key : ∀ (k : NestedKey) (v : Value) (n : Nat) (s : Shared), NestedIs s.heap k v → k.depth ≤ n → PlainAt P w n s v
  | .none, _, n, s, x, _ => by cases x; cases n <;> exact .pure rfl
  | .num i, _, n, s, x, _ => by cases x <;> cases n <;> exact .pure rfl
  | .text y, _, n, s, x, _ => by cases x; cases n <;> exact .pure rfl
  | .tup ks, _, n, s, x, hn => by
    cases x with
    | tup hg hc hd hk =>
      simp only [NestedKey.depth] at hn
      cases n with
      | zero => omega
      | succ n => exact .tuple hg hc hd (plainAt_keys ks _ n s hk (by omega))
theorem plainAt_keys : ∀ (ks : List NestedKey) (vs : List Value) (n : Nat) (s : Shared), NestedAll s.heap ks vs → NestedKey.depthAll ks ≤ n → ∀ v ∈ vs, PlainAt P w n s v
  | [], _, n, s, x, _, v, hv => by cases x; cases hv
  | k :: ks, _, n, s, x, hn, v, hv => by
    cases x with
    | cons x1 x2 =>
      simp only [NestedKey.depthAll] at hn
      rcases List.mem_cons.mp hv with e | hv
      · rw [e]
        exact plainAt_key k _ n s x1 (by omega)
      · exact plainAt_keys ks _ n s x2 (by omega) v hv
end
variable {A : Around} {E : Value → Shared → Prop} {s : Shared}
theorem NKey.quiet {k : NestedKey} {b : Addr} {Q : Bool → Shared → Prop} (hk : NKey s.heap k b) (h : Q true s) : wpAny (model P w) A (eqIsQuiet 8 (.ref b)) Q E s := quiet_key k _ 8 s hk.1 hk.2 A E Q h
theorem NKey.plain {k : NestedKey} {b : Addr} {Q : Bool → Shared → Prop} (hk : NKey s.heap k b) (h : Q false s) : wpAny (model P w) A (ofAClassStatement 8 (.ref b)) Q E s := plainAt_key k _ 8 s hk.1 hk.2 A E Q h
theorem NKey.eqB {k k' : NestedKey} {b c : Addr} {Q : Bool → Shared → Prop} (hu : A.units + 8 < cLine) (hk : NKey s.heap k b) (hk' : NKey s.heap k' c) (h : Q (decide (k = k')) s) : wpAny (model P w) A (eqBool (.ref b) (.ref c)) Q E s :=
  (nestedKind P w).eqBool hu hk hk' h
/-- a search among nested tuples shows nothing -/
theorem seen_key {k : NestedKey} {b : Addr} {Q : Bool → Shared → Prop} (hk : NKey s.heap k b) {ys : List Value} (hy : ∀ y ∈ ys, ∃ k' c, y = Value.ref c ∧ NKey s.heap k' c) (h : Q false s) :
    wpAny (model P w) A (searchCouldBeSeen (.ref b) ys) Q E s := by
  unfold searchCouldBeSeen
  refine wpAny_bind ?_
  refine wpAny_forIn_list _ (fun rest r s' => r.1 = none ∧ s' = s ∧ ∀ y ∈ rest, ∃ k' c, y = Value.ref c ∧ NKey s.heap k' c) _ ?_ ?_ _ _ ⟨rfl, rfl, hy⟩
  · rintro v rest r s' ⟨hr, rfl, hall⟩
    obtain ⟨k', c, rfl, hc⟩ := hall v List.mem_cons_self
    have rest' : ∀ y ∈ rest, ∃ k' c, y = Value.ref c ∧ NKey s'.heap k' c := fun u hu' => hall u (List.mem_cons_of_mem _ hu')
    dsimp only
    by_cases hv : (b == c || (carriedByValue (.ref b) && carriedByValue (.ref c))) = true
    · refine wp_if_pos hv ?_
      exact wpAny_pure ⟨rfl, rfl, rest'⟩
    · refine wp_if_neg hv ?_
      refine wpAny_bind (hk.quiet ?_)
      simp only [Bool.not_true, Bool.false_eq_true, if_false]
      refine wpAny_bind (hc.quiet ?_)
      simp only [Bool.not_true, Bool.false_eq_true, if_false]
      refine wpAny_bind (hk.plain ?_)
      simp only [Bool.false_eq_true, if_false]
      refine wpAny_bind (hc.plain ?_)
      simp only [Bool.false_eq_true, if_false]
      exact wpAny_pure ⟨rfl, rfl, rest'⟩
  · rintro ⟨r1, r2⟩ s' ⟨hr, rfl, _⟩
    simp only at hr
    subst hr
    exact wpAny_pure h
end

/-! ### the set -/
abbrev nh (w : World) (p : Addr × NestedKey) : Int := p.2.hash w
def rowsN (w : World) (L : List (Addr × NestedKey)) : List (Int × Value) := L.map fun p => (nh w p, Value.ref p.1)
/-- the masks that come -/
def mlist : List Nat := [7, 31, 127, 511, 2047, 8191]
theorem mlist_msk {m : Nat} (h : m ∈ mlist) : Msk m := by
  simp only [mlist, List.mem_cons, List.not_mem_nil, or_false] at h
  rcases h with e | e | e | e | e | e
  · exact ⟨3, by decide, by decide, by rw [e]⟩
  · exact ⟨5, by decide, by decide, by rw [e]⟩
  · exact ⟨7, by decide, by decide, by rw [e]⟩
  · exact ⟨9, by decide, by decide, by rw [e]⟩
  · exact ⟨11, by decide, by decide, by rw [e]⟩
  · exact ⟨13, by decide, by decide, by rw [e]⟩
structure SetN (w : World) (h : Heap) (a : Addr) (L : List (Addr × NestedKey)) (es : Array (Int × Value)) (ep : Nat) (t : SetTable) : Prop where
  ob : ∃ o, h.get? a = some o ∧ o.ExactSet ∧ o.data = .set es ep t
  rows : es.toList = rowsN w L
  tab : Tab t (L.map (nh w))
  nd : (L.map (·.2)).Nodup
  tup : ∀ p ∈ L, NKey h p.2 p.1
  led : w.params.followText "set-order" = true ∨ t.led = true
  room : L.length * 5 < t.mask * 3
  few : L.length < 4096
  msk : t.mask ∈ mlist
section
variable {P : Program} {w : World} {A : Around} {E : Value → Shared → Prop} {s : Shared} {a : Addr} {L : List (Addr × NestedKey)} {es : Array (Int × Value)} {ep : Nat} {t : SetTable}
theorem size_rows (h : es.toList = rowsN w L) : es.size = L.length := by
  have q := congrArg List.length h
  unfold rowsN at q
  rw [Array.length_toList, List.length_map] at q
  exact q
theorem fits_of (h1 : t.place.size = es.size) (h2 : t.dummies = #[]) (h3 : es.size ≤ t.mask) : t.fits es.size = true := by
  unfold SetTable.fits SetTable.fill
  rw [h2, Bool.and_eq_true, beq_iff_eq, decide_eq_true_eq]
  show t.place.size = es.size ∧ t.place.size + 0 ≤ t.mask
  omega
theorem SetN.size (R : SetN w s.heap a L es ep t) : es.size = L.length := size_rows R.rows
theorem SetN.psz (R : SetN w s.heap a L es ep t) : t.place.size = L.length := by
  have h := R.tab.sz
  rw [List.length_map] at h
  exact h
theorem SetN.fits (R : SetN w s.heap a L es ep t) : t.fits es.size = true :=
  fits_of (by rw [R.psz, R.size]) R.tab.dm (by rw [R.size]; have := R.room; omega)
theorem SetN.entry (R : SetN w s.heap a L es ep t) {i : Nat} {p : Addr × NestedKey} (h : L[i]? = some p) : es[i]? = some (nh w p, Value.ref p.1) := by
  rw [← Array.getElem?_toList, R.rows]
  unfold rowsN
  rw [List.getElem?_map, h]
  rfl
theorem SetN.gw (R : SetN w s.heap a L es ep t) : ¬ t.gaveWay = true := by
  unfold SetTable.gaveWay
  rw [R.tab.mok.odd]
  decide
theorem nth_nodummy (m : Nat) : ∀ (n : Nat) (p : SetTable.Probe), p.dummy = none → (nth m p n).dummy = none
  | 0, _, h => h
  | n + 1, p, h => nth_nodummy m n (adv m p) (by
    unfold adv
    split <;> exact h)
/-- the way's c-th state -/
abbrev wst (m : Nat) (h : Int) (c : Nat) : SetTable.Probe := nth m (runAt m (SetTable.bits h % (m + 1)) (SetTable.bits h)) c

/-- THE SEARCH of a key that isn't there, from the c-th step of the way on -/
theorem search_go (R : SetN w s.heap a L es ep t) {x : Addr} {k : NestedKey} (hx : NKey s.heap k x) (hnew : k ∉ L.map (·.2)) (hu : A.units + 8 < cLine) {K : Nat} (hKf : K < 10 * SetTable.turns t.mask)
    (hK : way t.mask (k.hash w) K ∉ t.place.toList) (hKb : ∀ c, c < K → way t.mask (k.hash w) c ∈ t.place.toList) {Q : SetFound → Shared → Prop} (hout : Q (.free (way t.mask (k.hash w) K) false) s) :
    ∀ (f c : Nat) (stand : Option SetTable.Probe), stand.getD (t.probeStart (k.hash w)) = wst t.mask (k.hash w) c → c ≤ K → K - c < f → wpAny (model P w) A (setSearchFrom a (.ref x) (k.hash w) true f stand) Q E s
  | 0, c, stand, _, _, hf => absurd hf (Nat.not_lt_zero _)
  | f + 1, c, stand, hst, hc, hf => by
    obtain ⟨o, ho, hex, hd⟩ := R.ob
    rw [setSearchFrom_succ]
    refine wpAny_bind (wpAny_setState_of ho hd R.fits ?_)
    dsimp only
    refine wp_if_neg R.gw ?_
    try refine wpAny_bind (wpAny_pure ?_)
    have sh : ∀ q, nth t.mask (wst t.mask (k.hash w) c) q = wst t.mask (k.hash w) (c + q) := fun q => (nth_add t.mask c _ q).symm
    have e1 : ∀ q, (nth t.mask (wst t.mask (k.hash w) c) q).j = way t.mask (k.hash w) (c + q) := fun q => congrArg SetTable.Probe.j (sh q)
    have eK : c + (K - c) = K := by omega
    have spec := go_spec t R.tab.ris R.tab.dm (fun i => (es[i]?.map (·.1)).getD 0) (k.hash w) (10 * SetTable.turns t.mask) (K - c) (wst t.mask (k.hash w) c) (nth_nodummy _ c _ rfl) (by omega)
      (fun q hq => by rw [e1]; exact hKb (c + q) (by omega)) (by rw [e1, eK]; exact hK)
    rcases spec with ⟨q, i, hq, hi, hh, hno, hpr⟩ | ⟨hno, hpr⟩
    · have hpr' : t.probe (fun i => (es[i]?.map (·.1)).getD 0) (k.hash w) (stand.getD (t.probeStart (k.hash w))) = some (.candidate (way t.mask (k.hash w) (c + q)) i (wst t.mask (k.hash w) (c + (q + 1)))) := by
        rw [hst, ← e1, ← sh]
        exact hpr
      rw [hpr']
      dsimp only
      rw [e1] at hi
      have hil : i < L.length := by
        have h1 : i < t.place.toList.length := (List.getElem?_eq_some_iff.mp hi).1
        rw [Array.length_toList, R.psz] at h1
        exact h1
      obtain ⟨p, hp⟩ : ∃ p, L[i]? = some p := ⟨L[i], List.getElem?_eq_getElem hil⟩
      have hmem : p ∈ L := List.mem_of_getElem? hp
      have hne : ¬ p.2 = k := fun e => hnew (List.mem_map.mpr ⟨p, hmem, e⟩)
      have rest : wpAny (model P w) A (searchRest a (.ref x) (k.hash w) true f es t (way t.mask (k.hash w) (c + q)) i (wst t.mask (k.hash w) (c + (q + 1)))) Q E s := by
        unfold searchRest
        rw [R.entry hp]
        dsimp only
        refine wpAny_bind (wpAny_holding ((R.tup p hmem).eqB hu hx ?_))
        refine wpAny_bind (wpAny_setState_of ho hd R.fits ?_)
        dsimp only
        refine wp_if_neg (by simp [hne]) ?_
        try refine wpAny_bind (wpAny_pure ?_)
        rw [sameMem]
        dsimp only
        have hsl : t.slot (way t.mask (k.hash w) (c + q)) = .live i := slot_live R.tab.ris hi
        simp only [if_true, hsl, R.entry hp]
        refine wpAny_bind (wpAny_isSame_ref_self (wpAny_bind (wpAny_pure ?_)))
        simp only [if_true]
        refine wp_if_neg (by simp [hne]) ?_
        exact search_go R hx hnew hu hKf hK hKb hout f (c + (q + 1)) _ rfl (by omega) (by omega)
      by_cases hl : t.led = true
      · refine wp_if_neg (by simp [hl]) ?_
        try refine wpAny_bind (wpAny_pure ?_)
        exact rest
      · refine wp_if_pos (by simp [hl]) ?_
        refine wpAny_bind (seen_key hx (fun y hy => ?_) ?_)
        · obtain ⟨e, he, ee⟩ := List.mem_map.mp hy
          have he1 : e ∈ es ∧ e.1 = k.hash w := by simpa using he
          have he2 : e ∈ es.toList := by simpa using he1.1
          rw [R.rows] at he2
          obtain ⟨p2, hp2, e2⟩ := List.mem_map.mp he2
          refine ⟨p2.2, p2.1, ?_, R.tup p2 hp2⟩
          rw [← ee, ← e2]
        · refine wp_if_neg (by decide) ?_
          try refine wpAny_bind (wpAny_pure ?_)
          exact rest
    · have hpr' : t.probe (fun i => (es[i]?.map (·.1)).getD 0) (k.hash w) (stand.getD (t.probeStart (k.hash w))) = some (.empty (way t.mask (k.hash w) K) none) := by
        have e2 : way t.mask (k.hash w) K = (nth t.mask (wst t.mask (k.hash w) c) (K - c)).j := by rw [e1, eK]
        rw [hst, e2]
        exact hpr
      rw [hpr']
      dsimp only
      exact wpAny_pure hout
theorem search_new (R : SetN w s.heap a L es ep t) {x : Addr} {k : NestedKey} (hx : NKey s.heap k x) (hnew : k ∉ L.map (·.2)) (hu : A.units + 8 < cLine) {Q : SetFound → Shared → Prop}
    (hout : ∀ K, way t.mask (k.hash w) K ∉ t.place.toList → (∀ c, c < K → way t.mask (k.hash w) c ∈ t.place.toList) → Q (.free (way t.mask (k.hash w) K) false) s) :
    wpAny (model P w) A (setSearch a (.ref x) (k.hash w) true) Q E s := by
  have hroom := R.room
  obtain ⟨K, hKf, hK, hKb⟩ := R.tab.first (by rw [List.length_map]; omega) (k.hash w)
  have hbig : K < 100000 := by
    have b := R.tab.mok.bd
    have e : 10 * SetTable.turns t.mask = 10 * (t.mask + 15) := rfl
    omega
  unfold setSearch
  exact search_go R hx hnew hu hKf hK hKb (hout K hK hKb) 100000 0 none rfl (Nat.zero_le _) (by omega)
theorem rows_ins (L : List (Addr × NestedKey)) (p : Nat) (q : Addr × NestedKey) : rowsN w (L.take p ++ q :: L.drop p) = (rowsN w L).take p ++ (nh w q, Value.ref q.1) :: (rowsN w L).drop p := by
  unfold rowsN
  rw [List.map_append, List.map_cons, List.map_take, List.map_drop]
theorem rows_order (L : List (Addr × NestedKey)) (es : Array (Int × Value)) (order : Array Nat) (hr : es.toList = rowsN w L) (hp : order.toList.Perm (List.range L.length)) :
    ∃ L2, (order.filterMap (es[·]?)).toList = rowsN w L2 ∧ L2.Perm L ∧ L2.map (nh w) = order.toList.map fun i => (es.map (·.1)).getD i 0 := by
  have hsz := size_rows hr
  have ent : ∀ i (h : i < L.length), es[i]? = some (nh w L[i], Value.ref (L[i]).1) := fun i h => by
    rw [← Array.getElem?_toList, hr]
    unfold rowsN
    rw [List.getElem?_map, List.getElem?_eq_getElem h]
    rfl
  have key : ∀ l : List Nat, (∀ i ∈ l, i < L.length) → l.filterMap (fun i => es[i]?) = rowsN w (l.filterMap fun i => L[i]?) ∧ (l.filterMap fun i => L[i]?).map (nh w) = l.map fun i => (es.map (·.1)).getD i 0 := by
    intro l
    induction l with
    | nil => intro _; exact ⟨rfl, rfl⟩
    | cons i l ih =>
      intro hl
      have hi := hl i List.mem_cons_self
      obtain ⟨e1, e3⟩ := ih fun j hj => hl j (List.mem_cons_of_mem _ hj)
      rw [List.filterMap_cons_some (ent i hi), List.filterMap_cons_some (List.getElem?_eq_getElem hi), e1, List.map_cons, List.map_cons, e3]
      refine ⟨rfl, ?_⟩
      have e5 : (es.map (·.1))[i]? = some (nh w L[i]) := by rw [Array.getElem?_map, ent i hi]; rfl
      simp [Array.getD_eq_getD_getElem?, e5]
  obtain ⟨e1, e3⟩ := key order.toList fun i hi => List.mem_range.mp (hp.mem_iff.mp hi)
  refine ⟨_, by first | (rw [Array.toList_filterMap]; exact e1) | simpa using e1, ?_, e3⟩
  have h1 := hp.filterMap fun i => L[i]?
  rw [List.filterMap_getElem?_range_length] at h1
  exact h1

/-- the table laid anew, larger -/
theorem relayN {o : Obj} (ho : s.heap.get? a = some o) (hex : o.ExactSet) (hd : o.data = .set es ep t) (hrows : es.toList = rowsN w L) (hsz : t.place.size = es.size) (hdm : t.dummies = #[]) (hfl : es.size ≤ t.mask)
    (nd : (L.map (·.2)).Nodup) (tup : ∀ p ∈ L, NKey s.heap p.2 p.1) (ld : w.params.followText "set-order" = true ∨ t.led = true) (few : L.length < 4096) {wanted M : Nat}
    (hw : SetTable.sizeAbove wanted = M + 1) (hM : M ∈ mlist) (hn : L.length * 5 < M * 3) {Q : Unit → Shared → Prop}
    (hQ : ∀ h' L' es' ep' t', Heap.SameBut a s.heap h' → SetN w h' a L' es' ep' t' → L'.Perm L → Q () { s with heap := h' }) : wpAny (model P w) A (setRelay a wanted) Q E s := by
  have hsl := size_rows hrows
  have hMb := (mlist_msk hM).bd
  obtain ⟨t', order, e, hp, T, em, el, ep'⟩ := relay_ok t (hs := es.map (·.1)) (wanted := wanted) (by rw [hw, Nat.add_sub_cancel]) (mlist_msk hM) (by rw [Array.size_map, hsl]; omega)
  rw [Array.size_map, hsl] at hp
  obtain ⟨L2, r1, r2, r3⟩ := rows_order L es order hrows hp
  rw [← r3] at T
  have hs2 : (order.filterMap (es[·]?)).size = es.size := by rw [size_rows r1, r2.length_eq, hsl]
  rw [setRelay_eq]
  refine wpAny_bind (wpAny_setState_of ho hd (fits_of hsz hdm hfl) ?_)
  dsimp only
  refine wp_if_neg (by rw [sizeLine_eq, hw]; omega) ?_
  try refine wpAny_bind (wpAny_pure ?_)
  rw [e]
  dsimp only
  refine wpAny_bind ?_
  refine wp_if_neg (by rw [hs2]; simp) ?_
  try refine wpAny_bind (wpAny_pure ?_)
  refine wpAny_pure ?_
  dsimp only
  refine wpAny_storeSet_of ho hd ?_ (by rw [hs2, hsl, sizeLine_eq]; omega)
  have sb : Heap.SameBut a s.heap (s.heap.update a (Obj.putSet (order.filterMap (es[·]?)) t')) := Heap.SameBut.update ..
  refine hQ _ L2 (order.filterMap (es[·]?)) (ep + 1) t' sb ⟨⟨_, store_at ho hd, ⟨hex.1, hex.2.1, hex.2.2⟩, rfl⟩, r1, T, (r2.map (·.2)).nodup_iff.mpr nd, fun p hpm => (tup p (r2.mem_iff.mp hpm)).but ho hd sb, by rw [el]; exact ld, ?_, by rw [r2.length_eq]; exact few, by rw [em]; exact hM⟩ r2
  rw [r2.length_eq, em]
  exact hn

/-- ADDING a key that isn't there -/
theorem addN (R : SetN w s.heap a L es ep t) {x : Addr} {k : NestedKey} (hx : NKey s.heap k x) (hnew : k ∉ L.map (·.2)) (hu : A.units + 8 < cLine) (hfew : L.length + 1 < 4096) {Q : Bool → Shared → Prop}
    (hQ : ∀ h' L' es' ep' t', Heap.SameBut a s.heap h' → SetN w h' a L' es' ep' t' → L'.Perm ((x, k) :: L) → Q true { s with heap := h' }) :
    wpAny (model P w) A (setAddHashed a (.ref x) (k.hash w)) Q E s := by
  obtain ⟨o, ho, hex, hd⟩ := R.ob
  have hsl := R.size
  have hroom := R.room
  unfold setAddHashed
  refine wpAny_holding ?_
  rw [show (100000 : Nat) = 99999 + 1 from rfl, setAddHashedIn_succ]
  refine wpAny_bind (wpAny_setState_of ho hd R.fits ?_)
  dsimp only
  refine wp_if_neg (by simp [byScan, Value.scannable]) ?_
  try refine wpAny_bind (wpAny_pure ?_)
  refine wpAny_bind (search_new R hx hnew hu fun K hK hb => ?_)
  dsimp only
  refine wpAny_bind (wpAny_setState_of ho hd R.fits ?_)
  dsimp only
  obtain ⟨t1, p, ept, q2, q3, q4, q5, q6, q9⟩ := R.tab.put hK hb
  rw [List.length_map] at q2 q9
  rw [ept]
  dsimp only
  -- whatever hashByValue says, the table is t2: t1 but for 'plain'
  have fin : ∀ t2 : SetTable, t2.place = t1.place → t2.dummies = t1.dummies → t2.mask = t1.mask → t2.led = t1.led →
      wpAny (model P w) A (do
        storeSet a (SetTable.insertAt es p (k.hash w, Value.ref x)) t2
        if (!false && t2.tooFull) = true then do
          setRelay a (SetTable.grown (es.size + 1))
          pure true
        else pure true) Q E s := by
    intro t2 u1 u2 u3 u4
    have hin : (SetTable.insertAt es p (k.hash w, Value.ref x)).toList = rowsN w (L.take p ++ (x, k) :: L.drop p) := by
      rw [SetTable.toList_insertAt, rows_ins, R.rows]
    have pm := put_perm L p (x, k)
    have hlen : (L.take p ++ (x, k) :: L.drop p).length = L.length + 1 := pm.length_eq
    have hhs : (L.take p ++ (x, k) :: L.drop p).map (nh w) = (L.map (nh w)).take p ++ k.hash w :: (L.map (nh w)).drop p := by
      rw [List.map_append, List.map_cons, List.map_take, List.map_drop]
    have T2 : Tab t2 ((L.take p ++ (x, k) :: L.drop p).map (nh w)) := by
      rw [hhs]
      refine ⟨by rw [u1]; exact q3.ris, by rw [u2]; exact q3.dm, by rw [u1]; exact q3.sz, by rw [u3]; exact q3.mok, by rw [u1, u3]; exact q3.bd, by rw [u1, u3]; exact q3.reach⟩
    have nd1 : ((L.take p ++ (x, k) :: L.drop p).map (·.2)).Nodup := by
      refine (pm.map (·.2)).nodup_iff.mpr ?_
      rw [List.map_cons]
      exact List.nodup_cons.mpr ⟨hnew, R.nd⟩
    have hes : (SetTable.insertAt es p (k.hash w, Value.ref x)).size = L.length + 1 := by rw [size_rows hin, hlen]
    have hfill : t2.fill = L.length + 1 := by
      rw [← q9]
      unfold SetTable.fill
      rw [u1, u2]
    generalize SetTable.insertAt es p (k.hash w, Value.ref x) = es1 at hin hes ⊢
    generalize L.take p ++ (x, k) :: L.drop p = L1 at pm hlen T2 nd1 hin
    refine wpAny_bind (wpAny_storeSet_of ho hd ?_ (by rw [hes, sizeLine_eq]; omega))
    have sb : Heap.SameBut a s.heap (s.heap.update a (Obj.putSet es1 t2)) := Heap.SameBut.update ..
    have ho1 := store_at (es' := es1) (t' := t2) ho hd
    generalize s.heap.update a (Obj.putSet es1 t2) = h1 at sb ho1 ⊢
    have tup1 : ∀ p ∈ L1, NKey h1 p.2 p.1 := fun p hp => by
      rcases List.mem_cons.mp (pm.mem_iff.mp hp) with e | hp
      · rw [e]
        exact hx.but ho hd sb
      · exact (R.tup p hp).but ho hd sb
    have ld1 : w.params.followText "set-order" = true ∨ t2.led = true := by
      rw [u4, q5]
      exact R.led
    have mk2 : t2.mask = t.mask := by rw [u3, q4]
    by_cases hf : t2.tooFull = true
    · refine wp_if_pos (by simp [hf]) ?_
      have hfull : (L.length + 1) * 5 ≥ t.mask * 3 := by
        have h := hf
        unfold SetTable.tooFull at h
        rw [decide_eq_true_eq, hfill, mk2] at h
        exact h
      have hsz1 : t2.place.size = es1.size := by
        have h := T2.sz
        rw [List.length_map, hlen] at h
        rw [h, hes]
      rw [hsl]
      have go : ∀ M, SetTable.sizeAbove (SetTable.grown (L.length + 1)) = M + 1 → M ∈ mlist → (L.length + 1) * 5 < M * 3 →
          wpAny (model P w) A (do
            setRelay a (SetTable.grown (L.length + 1))
            pure true) Q E { s with heap := h1 } := fun M h1' h2' h4' => by
        refine wpAny_bind (relayN (s := { s with heap := h1 }) ho1 ⟨hex.1, hex.2.1, hex.2.2⟩ rfl hin hsz1 T2.dm (by rw [hes, mk2]; have b := R.tab.mok.bd; omega) nd1 tup1 ld1 (by rw [hlen]; exact hfew) h1' h2' (by rw [hlen]; exact h4') ?_)
        intro h2 L2 es2 ep2 t3 sb2 R2 pm2
        exact wpAny_pure (hQ h2 L2 es2 ep2 t3 (sb.trans sb2) R2 (pm2.trans pm))
      have cs := R.msk
      simp only [mlist, List.mem_cons, List.not_mem_nil, or_false] at cs
      rcases cs with e | e | e | e | e | e
      · have e2 : L.length + 1 = 5 := by rw [e] at hfull hroom; omega
        rw [e2] at go ⊢
        exact go 31 grow5 (by simp [mlist]) (by decide)
      · have e2 : L.length + 1 = 19 := by rw [e] at hfull hroom; omega
        rw [e2] at go ⊢
        exact go 127 grow19 (by simp [mlist]) (by decide)
      · have e2 : L.length + 1 = 77 := by rw [e] at hfull hroom; omega
        rw [e2] at go ⊢
        exact go 511 grow77 (by simp [mlist]) (by decide)
      · have e2 : L.length + 1 = 307 := by rw [e] at hfull hroom; omega
        rw [e2] at go ⊢
        exact go 2047 grow307 (by simp [mlist]) (by decide)
      · have e2 : L.length + 1 = 1229 := by rw [e] at hfull hroom; omega
        rw [e2] at go ⊢
        exact go 8191 grow1229 (by simp [mlist]) (by decide)
      · exfalso
        rw [e] at hfull
        omega
    · refine wp_if_neg (by simp [hf]) ?_
      refine wpAny_pure (hQ h1 L1 es1 (ep + 1) t2 sb ⟨⟨_, ho1, ⟨hex.1, hex.2.1, hex.2.2⟩, rfl⟩, hin, T2, nd1, tup1, ld1, ?_, by rw [hlen]; exact hfew, by rw [mk2]; exact R.msk⟩ pm)
      have h := hf
      unfold SetTable.tooFull at h
      rw [decide_eq_true_eq, hfill] at h
      rw [hlen]
      omega
  by_cases hp : t1.plain = true
  · first
      | (refine wpAny_bind ?_; refine wp_if_pos hp ?_; refine hashAt_key k _ 8 s hx.1 _ _ _ fun b => ?_)
      | refine wp_if_pos hp (wpAny_bind (hashAt_key k _ 8 s hx.1 _ _ _ fun b => ?_))
    cases b with
    | true =>
      simp only [if_true]
      exact fin t1 rfl rfl rfl rfl
    | false =>
      simp only [Bool.false_eq_true, if_false]
      exact fin _ rfl rfl rfl rfl
  · first
      | (refine wpAny_bind ?_; refine wp_if_neg hp ?_; refine wpAny_pure ?_)
      | refine wp_if_neg hp ?_
    try simp only [if_true]
    exact fin t1 rfl rfl rfl rfl
end
end Nk


/-! set(xs) of a list or a tuple, of distinct nested tuples or distinct texts. -/
namespace Nk
open PySem PySem.Spec PyProof.Rows L2

/-- the set at a holds the values vs, in whatever order -/
def SetB (w : World) (h : Heap) (a : Addr) (vs : List Value) : Prop :=
  ∃ o es ep t, h.get? a = some o ∧ o.ExactSet ∧ o.data = .set es ep t ∧ t.fits es.size = true ∧ es.size < scanBound ∧ Ris t.place.toList ∧ (w.params.followText "set-order" = true ∨ t.led = true) ∧ (es.toList.map (·.2)).Perm vs
theorem SetB.at {w : World} {h h' : Heap} {a : Addr} {vs : List Value} (x : SetB w h a vs) (k : ∀ o, h.get? a = some o → h'.get? a = some o) : SetB w h' a vs := by
  obtain ⟨o, es, ep, t, ho, r⟩ := x
  exact ⟨o, es, ep, t, k o ho, r⟩

section
variable {P : Program} {w : World} {A : Around} {E : Value → Shared → Prop} {s : Shared}

/-- the loop that fills a set; G: what holds of the set at S behind i items -/
structure Fills (P : Program) (w : World) (A : Around) (S : Addr) (h0 : Heap) (n : Nat) (Pv : Nat → Value → Prop) (G : Nat → Heap → Prop) : Prop where
  keep : ∀ i h h', G i h → (∀ o, h.get? S = some o → h'.get? S = some o) → (∀ b o, h0.get? b = some o → h'.get? b = some o) → G i h'
  add : ∀ (i : Nat) (v : Value) (s' : Shared) (E : Value → Shared → Prop) (Q : Bool → Shared → Prop), i < n → Pv i v → G i s'.heap → (∀ b o, h0.get? b = some o → s'.heap.get? b = some o) →
    (∀ b h' tk, Heap.SameBut S s'.heap h' → G (i + 1) h' → s'.toks ≤ tk → Q b { s' with heap := h', toks := tk }) → wpAny (model P w) A (setAdd S v) Q E s'
theorem fill_loop {I : Addr} {fp wr : List Addr} {Gg : Array GenState → Array GenState → Prop} {n : Nat} {Pv : Nat → Value → Prop} {St : Nat → Shared → Prop} {R : Result → Shared → Prop} {G : Nat → Heap → Prop}
    (W : WalksS P w A.in1 I fp wr Gg n Pv St) (S : Addr) (hSf : S ∉ fp) (h0 : Heap) (hS0 : h0.get? S = none) (hw0 : ∀ b ∈ wr, h0.get? b = none) (F : Fills P w A.in1 S h0 n Pv G) :
    ∀ (k i : Nat) (s : Shared), n - i = k → i ≤ n → St i s → (∀ b o, h0.get? b = some o → s.heap.get? b = some o) → G i s.heap →
      (∀ s', Moved (S :: wr) Gg s s' → G n s'.heap → (∀ b o, h0.get? b = some o → s'.heap.get? b = some o) → R (.ok (.ret .none)) s') →
      codeAny (model P w) A (.builtin "set.update.loop" ⟨[.ref S, .ref I], []⟩) R s := by
  have hSw : S ∉ wr := fun h => hSf (W.sub _ h)
  have hsub : ∀ b ∈ wr, b ∈ S :: wr := fun b hb => List.mem_cons_of_mem _ hb
  have keepM : ∀ {s s' : Shared}, Moved wr Gg s s' → (∀ b o, h0.get? b = some o → s.heap.get? b = some o) → ∀ b o, h0.get? b = some o → s'.heap.get? b = some o := fun hm hkp b o e =>
    hm.heap b o (fun hb => by rw [hw0 b hb] at e; cases e) (hkp b o e)
  intro k
  induction k with
  | zero =>
    intro i s hk' hi hst hkp g hR
    obtain rfl : i = n := by omega
    refine codeAny_builtin PyProof.Rows.F.entry_set_update_loop ?_
    rw [Around.under_plainId PyProof.Rows.F.plain_set_update_loop _]
    show wpAny _ A.in1 (pyNext (.ref I) >>= _) _ _ s
    refine wpAny_bind (W.done s _ _ hst fun s' hm => ?_)
    show wpAny _ A.in1 (ret Value.none) _ _ s'
    exact wpAny_pure (hR s' (hm.mono hsub) (F.keep _ _ _ g (fun o e => hm.heap S o hSw e) (keepM hm hkp)) (keepM hm hkp))
  | succ k ih =>
    intro i s hk' hi hst hkp g hR
    have hlt : i < n := by omega
    refine codeAny_builtin PyProof.Rows.F.entry_set_update_loop ?_
    rw [Around.under_plainId PyProof.Rows.F.plain_set_update_loop _]
    show wpAny _ A.in1 (pyNext (.ref I) >>= _) _ _ s
    refine wpAny_bind (W.item i s _ _ hlt hst fun v s' hP hst' hm => ?_)
    have hkp' := keepM hm hkp
    have g' := F.keep _ _ _ g (fun o e => hm.heap S o hSw e) hkp'
    show wpAny _ A.in1 (holding [v] (setAdd S v) >>= _) _ _ s'
    refine wpAny_bind (wpAny_holding (F.add i v s' _ _ hlt hP g' hkp' fun b h' tk hsb g2 htk => ?_))
    have hkp2 : ∀ b o, h0.get? b = some o → h'.get? b = some o := fun b o e => (hsb.2 b (fun z => by rw [z, hS0] at e; cases e)).trans (hkp' b o e)
    refine wpAny_pure ⟨plainId_quiet PyProof.Rows.F.plain_set_update_loop _, ih (i + 1) _ (by omega) hlt (W.frame _ s' _ _ hst' htk fun b hb o e => ?_) hkp2 g2 fun s'' hm'' g'' hkp'' => ?_⟩
    · rw [hsb.2 b (fun h : b = S => hSf (by rw [← h]; exact hb))]; exact e
    · refine hR s'' (Moved.trans W.gtrans ((hm.mono hsub).then_heap htk fun b o hb e => ?_) hm'') g'' hkp''
      rw [hsb.2 b (fun h : b = S => hb (by rw [h]; exact List.mem_cons_self))]; exact e

/-- an empty set as set() makes it -/
abbrev set0 (w : World) : Obj := { cls := .type "set", dict := none, data := .set #[] 0 (.fresh 0 0 (!w.params.followText "set-order")) }

set_option maxRecDepth 100000 in
set_option maxHeartbeats 3200000 in
/-- set(xs), xs a list or a tuple: its class is T, I0 the iterator's object -/
theorem call_set_seq {T IT : String} {l : Addr} {items : Array Value} {G : Nat → Heap → Prop} {Q : Value → Shared → Prop} (hh : A.handled = none) (hl : ∃ o, s.heap.get? l = some o ∧ o.cls = .type T ∧ ∃ n, o.data = .seq items n)
    (hsls : isSubtype (.type T) (.type "set") = pure false) (hslf : isSubtype (.type T) (.type "frozenset") = pure false) (hne : (Value.type T == Value.type "dict") = false)
    (hit : ∀ (A' : Around) (s' : Shared) (Q' : Value → Shared → Prop) (E' : Value → Shared → Prop), (∃ o, s'.heap.get? l = some o ∧ o.cls = .type T ∧ ∃ n, o.data = .seq items n) →
      Q' (.ref s'.heap.objs.size) { s' with heap := s'.heap.push { cls := .type IT, data := .fields #[.ref l, .int 0 0] } } → wpAny (model P w) A' (pyIter (.ref l)) Q' E' s')
    (hW : ∀ (A' : Around) (I : Addr), A'.handled = none → l ≠ I → ∃ St : Nat → Heap → Prop, Walks P w A' I [I, l] [I] items.size (fun i v => items[i]? = some v) St ∧
      ∀ h : Heap, h.get? I = some { cls := .type IT, data := .fields #[.ref l, .int 0 0] } → (∃ o, h.get? l = some o ∧ o.cls = .type T ∧ ∃ n, o.data = .seq items n) → St 0 h)
    (F : Fills P w A.in1.in1.in1 s.heap.objs.size s.heap items.size (fun i v => items[i]? = some v) G)
    (g0 : ∀ h', h'.get? s.heap.objs.size = some (set0 w) → (∀ b o, s.heap.get? b = some o → h'.get? b = some o) → G 0 h')
    (h : ∀ (h' : Heap) (tk : Nat), G items.size h' → (∀ b o, s.heap.get? b = some o → h'.get? b = some o) → Q (.ref s.heap.objs.size) { s with heap := h', toks := tk }) :
    wpAny (model P w) A (call (.type "set") [.ref l]) Q E s := by
  obtain ⟨c, tl, hmro⟩ := PySem.F.called_set.mro
  have hmade := PySem.F.called_set.made
  have hsub := PySem.F.called_set.sub
  refine wpAny_call (codeAny_of_tree ?_)
  show wpAny _ _ (callAny (.type "set") _) _ _ _
  refine wpAny_pure ⟨Code.quiet_builtin _ (by decide +kernel), codeAny_builtin PySem.F.entry_type_call ?_⟩
  rw [Around.under_plain (weight_type_call_type "set" [.ref l] []) rfl]
  have h1 := PySem.F.called_set.notType
  have h2 := PySem.F.called_set.canCreate
  have hct := PySem.F.typeCall_set_1 (.ref l)
  repeat (any_goals (first | assumption | wp_step))
  refine codeAny_mono (code_set_led1 (.ref l) (E := E) (Q₁ := fun obj s₁ => obj = .ref s.heap.objs.size ∧ s₁ = { s with heap := s.heap.push (set0 w) }) ⟨rfl, rfl⟩) fun r s₁ hr => ?_
  cases r with
  | error e => exact hr
  | ok fl =>
    cases fl with
    | ret obj =>
      obtain ⟨rfl, rfl⟩ := hr
      have hS : (s.heap.push (set0 w)).get? s.heap.objs.size = some (set0 w) := Heap.get?_push_size _ rfl
      have hT : Shared.TypeIs { s with heap := s.heap.push (set0 w) } (.ref s.heap.objs.size) "set" := ⟨_, hS, rfl⟩
      have hli := PySem.F.called_set.init.lookup
      have hbi := PySem.F.called_set.init.bind (.ref s.heap.objs.size)
      repeat (any_goals (first | assumption | wp_step))
      refine codeAny_mono (codeAny_call_builtin (R := wants (fun r s₂ => r = .none ∧ ∃ h' tk, s₂ = { s with heap := h', toks := tk } ∧ G items.size h' ∧ (∀ b o, s.heap.get? b = some o → h'.get? b = some o)) E)
        PySem.F.called_set.init.plain PySem.F.entry_set_init (PySem.check_set_init_1 hT ?_)) fun r₂ s₂ hr₂ => ?_
      · obtain ⟨ol, hol, hcl, nl, hdl⟩ := hl
        obtain ⟨ocls, odict, odata, oslots⟩ := ol
        simp only at hcl hdl
        subst hcl; subst hdl
        have hol' : (s.heap.push (set0 w)).get? l = some { cls := .type T, dict := odict, data := .seq items nl, slots := oslots } := Heap.get?_push_of_some _ hol
        have hl1 : ∃ o, (s.heap.push (set0 w)).get? l = some o ∧ o.cls = .type T ∧ ∃ n, o.data = .seq items n := ⟨_, hol', rfl, nl, rfl⟩
        unfold Builtin.«set.__init__» noKeywords Builtin.Frozenset.updateFrom
        generalize hPI : pyIter = PI
        wp_walk
        subst hPI
        refine hit _ _ _ _ hl1 ?_
        refine wpAny_bind (wpAny_runValue ?_)
        have hlS : l < s.heap.objs.size := Heap.lt_size hol
        have hh3 : A.in1.in1.in1.handled = none := by simp [hh]
        have hz1 : (s.heap.push (set0 w)).objs.size = s.heap.objs.size + 1 := Heap.size_push ..
        have hneI : l ≠ (s.heap.push (set0 w)).objs.size := by
          rw [Heap.size_push]; exact Nat.ne_of_lt (Nat.lt_succ_of_lt hlS)
        have hSf : s.heap.objs.size ∉ [(s.heap.push (set0 w)).objs.size, l] := by
          rw [Heap.size_push]; simp only [List.mem_cons, List.mem_singleton, List.not_mem_nil, or_false, not_or]
          exact ⟨Nat.ne_of_lt (Nat.lt_succ_self _), Nat.ne_of_gt hlS⟩
        have none_of : ∀ b, s.heap.objs.size ≤ b → s.heap.get? b = none := fun b hb => by
          cases q : s.heap.get? b with
          | none => rfl
          | some o => exact absurd (Nat.lt_of_lt_of_le (Heap.lt_size q) hb) (Nat.lt_irrefl _)
        obtain ⟨St, WW, hSt⟩ := hW A.in1.in1.in1 _ hh3 hneI
        refine fill_loop WW.toS s.heap.objs.size
          hSf s.heap (none_of _ (Nat.le_refl _)) (fun b hb => none_of b (by
            rw [List.mem_singleton.mp hb, Heap.size_push]
            exact Nat.le_succ _)) F (items.size - 0) 0 _ (by omega) (Nat.zero_le _)
          (hSt _ (Heap.get?_push_size _ rfl) ⟨_, Heap.get?_push_of_some _ hol', rfl, nl, rfl⟩) (fun b o e => Heap.get?_push_of_some _ (Heap.get?_push_of_some _ e)) ?hS0 ?hR
        case hS0 => exact g0 _ (Heap.get?_push_of_some _ hS) fun b o e => Heap.get?_push_of_some _ (Heap.get?_push_of_some _ e)
        case hR =>
          intro s' hm hS' hkp
          obtain ⟨h', g2, d', tk', os'⟩ := s'
          have eg : g2 = s.gens := hm.gens
          have ed : d' = s.drawn := hm.drawn
          have eo : os' = s.os := hm.os
          subst eg; subst ed; subst eo
          show wpAny _ _ _ _ _ _
          refine wpAny_pure ?_
          show wpAny _ _ (ret Value.none) _ _ _
          exact wpAny_pure ⟨rfl, h', tk', rfl, hS', hkp⟩
      · cases r₂ with
        | error e => exact hr₂
        | ok fl₂ =>
          cases fl₂ with
          | ret r =>
            obtain ⟨rfl, h', tk, rfl, hS', hk'⟩ := hr₂
            repeat (any_goals (first | assumption | wp_step))
            exact h _ _ hS' hk'
          | _ => exact hr₂.elim
    | _ => exact hr.elim

theorem call_set_list {l : Addr} {items : Array Value} {G : Nat → Heap → Prop} {Q : Value → Shared → Prop} (hh : A.handled = none) (hl : s.heap.IsList l items)
    (F : Fills P w A.in1.in1.in1 s.heap.objs.size s.heap items.size (fun i v => items[i]? = some v) G)
    (g0 : ∀ h', h'.get? s.heap.objs.size = some (set0 w) → (∀ b o, s.heap.get? b = some o → h'.get? b = some o) → G 0 h')
    (h : ∀ (h' : Heap) (tk : Nat), G items.size h' → (∀ b o, s.heap.get? b = some o → h'.get? b = some o) → Q (.ref s.heap.objs.size) { s with heap := h', toks := tk }) :
    wpAny (model P w) A (call (.type "set") [.ref l]) Q E s :=
  call_set_seq (T := "list") (IT := "list_iterator") hh hl PySem.F.sub_list_set PySem.F.sub_list_frozenset (by decide) (fun _ _ _ _ h1 h2 => wpAny_pyIter_list h1 h2)
    (fun A' I hA hI => ⟨_, Walks.list hA I l hI items, fun h e1 e2 => ⟨⟨_, e1, rfl, rfl⟩, e2⟩⟩) F g0 h

theorem call_set_tuple {l : Addr} {items : Array Value} {G : Nat → Heap → Prop} {Q : Value → Shared → Prop} (hh : A.handled = none) (hl : s.heap.IsTuple l items)
    (F : Fills P w A.in1.in1.in1 s.heap.objs.size s.heap items.size (fun i v => items[i]? = some v) G)
    (g0 : ∀ h', h'.get? s.heap.objs.size = some (set0 w) → (∀ b o, s.heap.get? b = some o → h'.get? b = some o) → G 0 h')
    (h : ∀ (h' : Heap) (tk : Nat), G items.size h' → (∀ b o, s.heap.get? b = some o → h'.get? b = some o) → Q (.ref s.heap.objs.size) { s with heap := h', toks := tk }) :
    wpAny (model P w) A (call (.type "set") [.ref l]) Q E s :=
  call_set_seq (T := "tuple") (IT := "tuple_iterator") hh hl PySem.F.sub_tuple_set PySem.F.sub_tuple_frozenset (by decide) (fun _ _ _ _ h1 h2 => wpAny_pyIter_tuple h1 h2)
    (fun A' I hA hI => ⟨_, Walks.tuple hA I l hI items, fun h e1 e2 => ⟨⟨_, e1, rfl, rfl⟩, e2⟩⟩) F g0 h
end
end Nk


/-! The two kinds of things put into sets here: nested tuples, texts. -/
namespace Nk
open PySem PySem.Spec PyProof.Rows L2
section
variable {P : Program} {w : World} {A : Around} {E : Value → Shared → Prop} {s : Shared}
theorem ref_list {L0 : List (Addr × NestedKey)} {items : Array Value} (hit : items.toList = L0.map fun p => Value.ref p.1) {i : Nat} {v : Value} (h : items[i]? = some v) : ∃ p, L0[i]? = some p ∧ v = .ref p.1 := by
  rw [← Array.getElem?_toList, hit, List.getElem?_map] at h
  obtain ⟨p, e1, e2⟩ := Option.map_eq_some_iff.mp h
  exact ⟨p, e1, e2.symm⟩
theorem take_snoc {α : Type} {l : List α} {i : Nat} {x : α} (h : l[i]? = some x) : l.take (i + 1) = l.take i ++ [x] := by
  rw [List.take_add_one, h]
  rfl
theorem not_before {α β : Type} {f : α → β} {l : List α} {i : Nat} {x : α} (hn : (l.map f).Nodup) (h : l[i]? = some x) : f x ∉ (l.take i).map f := by
  have e : (l.map f).take (i + 1) = (l.take i).map f ++ [f x] := by
    rw [← List.map_take, take_snoc h, List.map_append]
    rfl
  have hn2 : ((l.take i).map f ++ [f x]).Nodup := by
    rw [← e]
    exact hn.sublist (List.take_sublist _ _)
  intro hm
  exact (List.nodup_append.mp hn2).2.2 _ hm _ (List.mem_singleton.mpr rfl) rfl
/-- nested tuples -/
def GN (w : World) (S : Addr) (L0 : List (Addr × NestedKey)) (i : Nat) (h : Heap) : Prop := ∃ L es ep t, SetN w h S L es ep t ∧ L.Perm (L0.take i)
theorem GN.start {S : Addr} {L0 : List (Addr × NestedKey)} {h : Heap} (ho : h.get? S = some (set0 w)) : GN w S L0 0 h := by
  refine ⟨[], #[], 0, _, ⟨⟨_, ho, ⟨rfl, rfl, rfl⟩, rfl⟩, rfl, ⟨List.Pairwise.nil, rfl, rfl, mlist_msk (m := 7) (by simp [mlist]), fun x hx => (by cases hx), fun i h j hi => (by simp at hi)⟩, List.nodup_nil, fun p hp => (by cases hp), ?_, (by show 0 * 5 < 7 * 3; decide), (by show 0 < 4096; decide), (by simp [mlist, SetTable.fresh])⟩, List.Perm.refl _⟩
  show _ ∨ (!w.params.followText "set-order") = true
  cases w.params.followText "set-order"
  · exact .inr rfl
  · exact .inl rfl
theorem GN.setB {S : Addr} {L0 : List (Addr × NestedKey)} {h : Heap} {i : Nat} (g : GN w S L0 i h) : SetB w h S ((L0.take i).map fun p => Value.ref p.1) := by
  obtain ⟨L, es, ep, t, R, pm⟩ := g
  obtain ⟨o, ho, hex, hd⟩ := R.ob
  have e : es.toList.map (·.2) = L.map fun p => Value.ref p.1 := by
    rw [R.rows]
    unfold rowsN
    rw [List.map_map]
    rfl
  refine ⟨o, es, ep, t, ho, hex, hd, ?_, ?_, R.tab.ris, R.led, ?_⟩
  · have hp := R.tab.sz
    rw [List.length_map] at hp
    exact fits_of (by rw [hp, size_rows R.rows]) R.tab.dm (by rw [size_rows R.rows]; have := R.room; omega)
  · rw [size_rows R.rows]
    exact R.few
  · rw [e]
    exact pm.map _
theorem fills_keys {S : Addr} {h0 : Heap} {items : Array Value} {L0 : List (Addr × NestedKey)} (hit : items.toList = L0.map fun p => Value.ref p.1) (hk : ∀ p ∈ L0, NKey h0 p.2 p.1) (hn : (L0.map (·.2)).Nodup) (hf : L0.length < 4096) (hu : A.units + 12 < cLine) :
    Fills P w A S h0 items.size (fun i v => items[i]? = some v) (GN w S L0) where
  keep := fun i h h' g k1 k2 => by
    obtain ⟨L, es, ep, t, R, pm⟩ := g
    obtain ⟨o, ho, r⟩ := R.ob
    exact ⟨L, es, ep, t, ⟨⟨o, k1 o ho, r⟩, R.rows, R.tab, R.nd, fun p hp => (hk p (List.mem_of_mem_take (pm.mem_iff.mp hp))).all k2, R.led, R.room, R.few, R.msk⟩, pm⟩
  add := fun i v s' E Q hi hv g k2 hQ => by
    obtain ⟨p, hp, rfl⟩ := ref_list hit hv
    obtain ⟨L, es, ep, t, R, pm⟩ := g
    have hx : NKey s'.heap p.2 p.1 := (hk p (List.mem_of_getElem? hp)).all k2
    have hd : p.2.depth ≤ 8 := hx.2
    have hil : i < L0.length := (List.getElem?_eq_some_iff.mp hp).1
    have hlen : L.length = i := by rw [pm.length_eq, List.length_take]; omega
    unfold setAdd
    refine wpAny_holding ?_
    refine wpAny_bind (pyHash_key p.2 _ _ _ _ hx.1 (by omega) ?_)
    refine addN (s := { s' with toks := s'.toks + p.2.draws }) R hx (fun hm => ?_) (by omega) (by omega) fun h' L' es' ep' t' sb R' pm' => ?_
    · exact not_before hn hp ((pm.map (·.2)).mem_iff.mp hm)
    · refine hQ true h' _ sb ⟨L', es', ep', t', R', ?_⟩ (Nat.le_add_right _ _)
      rw [take_snoc hp]
      exact (pm'.trans (pm.cons _)).trans (List.perm_append_singleton _ _).symm
/-- texts -/
def GS (w : World) (S : Addr) (us : List Value) (i : Nat) (h : Heap) : Prop :=
  ∃ o es ep t, h.get? S = some o ∧ o.ExactSet ∧ o.data = .set es ep t ∧ t.fits es.size = true ∧ es.size < scanBound ∧ Ris t.place.toList ∧ (w.params.followText "set-order" = true ∨ t.led = true) ∧ (es.toList.map (·.2)).Perm (us.take i) ∧
    ∀ e ∈ es.toList, ∃ z tk, e.2 = .str z tk ∧ e.1 = hashStr w z
theorem GS.start {S : Addr} {us : List Value} {h : Heap} (ho : h.get? S = some (set0 w)) : GS w S us 0 h := by
  refine ⟨_, #[], 0, _, ho, ⟨rfl, rfl, rfl⟩, rfl, rfl, by decide, List.Pairwise.nil, ?_, List.Perm.refl _, fun e he => (by cases he)⟩
  show _ ∨ (!w.params.followText "set-order") = true
  cases w.params.followText "set-order"
  · exact .inr rfl
  · exact .inl rfl
theorem GS.setB {S : Addr} {us : List Value} {h : Heap} {i : Nat} (g : GS w S us i h) : SetB w h S (us.take i) := by
  obtain ⟨o, es, ep, t, ho, hex, hd, hf, hb, hr, hl, pm, _⟩ := g
  exact ⟨o, es, ep, t, ho, hex, hd, hf, hb, hr, hl, pm⟩
/-- what a table holds: the texts us, and all is well with it -/
structure Holds1 (w : World) (us : List Value) (es : Array (Int × Value)) (t : SetTable) : Prop where
  fit : t.fits es.size = true
  few : es.size < scanBound
  ris : Ris t.place.toList
  led : w.params.followText "set-order" = true ∨ t.led = true
  all : (es.toList.map (·.2)).Perm us
  txt : ∀ e ∈ es.toList, ∃ z tk, e.2 = .str z tk ∧ e.1 = hashStr w z
/-- the table laid anew holds the same -/
theorem Holds1.again {us : List Value} {es : Array (Int × Value)} {t : SetTable} (c : Holds1 w us es t) (n : Nat) : Holds1 w us (relayAll t es n).1 (relayAll t es n).2.1 := by
  have p := relayAll_perm t es n
  have z : (relayAll t es n).1.size = es.size := by
    have q := p.length_eq
    simpa using q
  refine ⟨?_, z ▸ c.few, relayAll_ris t es n, c.led.imp id fun q => (relayAll_led t es n).trans q, (p.map _).trans c.all, fun e he => c.txt e (p.mem_iff.mp he)⟩
  exact relayAll_fits t es n
/-- one store of a set's table -/
theorem store_txt {a : Addr} {us : List Value} {o : Obj} {es es1 : Array (Int × Value)} {ep : Nat} {t t1 : SetTable} {Q : Unit → Shared → Prop} (c : Holds1 w us es1 t1) (ho : s.heap.get? a = some o) (hex : o.ExactSet) (hd : o.data = .set es ep t)
    (h : ∀ h' o' ep', Heap.SameBut a s.heap h' → h'.get? a = some o' → o'.ExactSet → o'.data = .set es1 ep' t1 → Q () { s with heap := h' }) : wpAny (model P w) A (storeSet a es1 t1) Q E s :=
  wpAny_storeSet_of ho hd (h _ _ _ (Heap.SameBut.update ..) (store_at ho hd) hex rfl) (fits_of_scanBound c.few)
theorem strs_ix : ∀ {us : List Value} {zs : List Str}, StrsAre us zs → ∀ {i : Nat} {v : Value}, us[i]? = some v → ∃ z t, zs[i]? = some z ∧ v = .str z t
  | _, _, .nil, _, _, e => by simp at e
  | _, _, .cons z t _, 0, _, e => by
    cases e
    exact ⟨z, t, rfl, rfl⟩
  | _, _, .cons _ _ r, _ + 1, _, e => strs_ix r (by simpa using e)
theorem fills_strs {S : Addr} {h0 : Heap} {items : Array Value} {zs : List Str} (hit : StrsAre items.toList zs) (hn : zs.Nodup) (hf : zs.length < 4095) :
    Fills P w A S h0 items.size (fun i v => items[i]? = some v) (GS w S items.toList) where
  keep := fun i h h' g k1 k2 => by
    obtain ⟨o, es, ep, t, ho, r⟩ := g
    exact ⟨o, es, ep, t, k1 o ho, r⟩
  add := fun i v s' E Q hi hv g k2 hQ => by
    have hv' : items.toList[i]? = some v := by rw [Array.getElem?_toList]; exact hv
    obtain ⟨z, tk, hz, rfl⟩ := strs_ix hit hv'
    obtain ⟨o, es, ep, t, ho, hex, hd, hfi, hb, hr, hl, pm, ge⟩ := g
    have hlz := StrsAre.length hit
    rw [Array.length_toList] at hlz
    have hkey : (strKind P w).is z (.str z tk) = true := strKind_is P w z tk
    have hsc : (Value.str z tk).scannable = true := rfl
    have hel : ElemsOf (strKind P w) es.toList := fun e he => by
      obtain ⟨y, tk', e1, e2⟩ := ge e he
      refine ⟨⟨y, ?_, e2⟩, ?_⟩
      · rw [e1]
        exact strKind_is P w y tk'
      · rw [e1]
        rfl
    have hsz : es.size = i := by
      have q := pm.length_eq
      rw [List.length_map, Array.length_toList, List.length_take, Array.length_toList] at q
      omega
    unfold setAdd
    refine wpAny_holding ?_
    refine wpAny_bind ((strKind P w).pyHash hkey ?_)
    unfold setAddHashed setAddHashedIn
    refine wpAny_holding (wpAny_bind (wpAny_setState_of (s := { s' with toks := s'.toks + 1 }) ho hd hfi ?_))
    dsimp only
    rw [byScan_of hsc hb hel]
    simp only [↓reduceIte]
    unfold setAddByScan
    refine wpAny_bind ?_
    refine wpAny_bind (wpAny_rule ?_)
    refine wpAny_bind (wpAny_setScan_of (s := { s' with toks := s'.toks + 1 }) hkey ho hd hfi hel ?_)
    have hnone : List.findIdx? (fun e => (strKind P w).is z e.2) es.toList = none := by
      rw [List.findIdx?_eq_none_iff]
      intro e he
      obtain ⟨y, tk', e1, _⟩ := ge e he
      cases q : (strKind P w).is z e.2 with
      | false => rfl
      | true =>
        exfalso
        obtain ⟨u, hu⟩ := Value.isStrOf_shape q
        have hm : e.2 ∈ items.toList.take i := pm.mem_iff.mp (List.mem_map.mpr ⟨e, he, rfl⟩)
        obtain ⟨j, hj, ej⟩ := List.mem_iff_getElem.mp hm
        rw [List.length_take] at hj
        have ej2 : items.toList[j]? = some e.2 := by
          rw [← ej, List.getElem_take, ← List.getElem?_eq_getElem]
        obtain ⟨z', t', hz', e3⟩ := strs_ix hit ej2
        rw [hu] at e3
        injection e3 with e3
        subst e3
        have hij : j < i := by omega
        obtain ⟨b1, b2⟩ := List.getElem?_eq_some_iff.mp hz'
        obtain ⟨c1, c2⟩ := List.getElem?_eq_some_iff.mp hz
        exact (List.pairwise_iff_getElem.mp hn) j i b1 c1 hij (b2.trans c2.symm)
    rw [hnone]
    dsimp only
    have hgw : ∀ (b : Bool) {s₁ : Shared} {Q' : Unit → Shared → Prop}, Q' () s₁ → wpAny (model P w) A (match b with | true => rule "set.scan.the-table-gave-way" | false => pure ()) Q' E s₁ :=
      fun b s₁ Q' q => by cases b <;> first | exact wpAny_pure q | exact wpAny_rule q
    have pmn := layNew_perm t es ((strKind P w).hash z) (.str z tk)
    have hf1 := layNew_fits t es ((strKind P w).hash z) (.str z tk)
    have hr1 := layNew_ris t es ((strKind P w).hash z) (.str z tk) hr
    have hl1 := layNew_led t es ((strKind P w).hash z) (.str z tk)
    generalize layNew t es ((strKind P w).hash z) (.str z tk) = Z at pmn hf1 hr1 hl1 ⊢
    obtain ⟨es1, t1, wasDummy, gave⟩ := Z
    dsimp only at pmn hf1 hr1 hl1 ⊢
    rw [Array.toList_push] at pmn
    have pc : es1.toList.Perm (((strKind P w).hash z, Value.str z tk) :: es.toList) := pmn.trans (List.perm_append_singleton _ _)
    have g1 : ∀ e ∈ es1.toList, ∃ z tk, e.2 = .str z tk ∧ e.1 = hashStr w z := fun e he => by
      rcases List.mem_cons.mp (pc.mem_iff.mp he) with q | q
      · rw [q]
        exact ⟨z, tk, rfl, rfl⟩
      · exact ge e q
    have pm1 : (es1.toList.map (·.2)).Perm (items.toList.take (i + 1)) := by
      rw [take_snoc hv']
      have pc2 : (es1.toList.map (·.2)).Perm (Value.str z tk :: es.toList.map (·.2)) := pc.map (·.2)
      exact (pc2.trans (pm.cons _)).trans (List.perm_append_singleton _ _).symm
    have hb1 : es1.size < scanBound := by
      rw [← Array.length_toList, pc.length_eq, List.length_cons, Array.length_toList, hsz]
      unfold scanBound
      omega
    have hled : w.params.followText "set-order" = true ∨ t1.led = true := hl.imp id fun q => by rw [hl1]; exact q
    refine wpAny_bind (hgw _ ?_)
    have c1 : ∀ t2 : SetTable, t2 = t1 ∨ t2 = { t1 with plain := false } → Holds1 w (items.toList.take (i + 1)) es1 t2 := fun t2 q => by
      rcases q with rfl | rfl
      · exact ⟨hf1, hb1, hr1, hled, pm1, g1⟩
      · exact ⟨SetTable.fits_plain_off hf1, hb1, hr1, hled, pm1, g1⟩
    have gs : ∀ (es2 : Array (Int × Value)) (t2 : SetTable), Holds1 w (items.toList.take (i + 1)) es2 t2 → ∀ {h' : Heap} {o' : Obj} {ep' : Nat}, h'.get? S = some o' → o'.ExactSet → o'.data = .set es2 ep' t2 → GS w S items.toList (i + 1) h' :=
      fun es2 t2 c h' o' ep' q1 q2 q3 => ⟨o', es2, ep', t2, q1, q2, q3, c.fit, c.few, c.ris, c.led, c.all, c.txt⟩
    have fin : ∀ h', Heap.SameBut S s'.heap h' → GS w S items.toList (i + 1) h' → Q true { s' with heap := h', toks := s'.toks + 1 } := fun h' sb r => hQ true h' _ sb r (Nat.le_succ _)
    split
    · refine wpAny_bind ?_
      rw [hashByValue_scannable 8 hsc]
      refine wpAny_pure ?_
      have why : (if plainKind (Value.str z tk) = true then t1 else { t1 with plain := false }) = t1 ∨ (if plainKind (Value.str z tk) = true then t1 else { t1 with plain := false }) = { t1 with plain := false } := by
        split
        · exact .inl rfl
        · exact .inr rfl
      have cc := c1 _ why
      generalize (if plainKind (Value.str z tk) = true then t1 else { t1 with plain := false }) = t2 at cc ⊢
      refine wpAny_bind (store_txt (s := { s' with toks := s'.toks + 1 }) cc ho hex hd fun h2 o2 ep2 sb2 ho2 hex2 hd2 => ?_)
      split
      · refine wpAny_bind (hgw _ ?_)
        exact wpAny_bind (store_txt (s := { s' with heap := h2, toks := s'.toks + 1 }) (cc.again _) ho2 hex2 hd2 fun h3 o3 ep3 sb3 ho3 hex3 hd3 => wpAny_pure (wpAny_pure (fin h3 (sb2.trans sb3) (gs _ _ (cc.again _) ho3 hex3 hd3))))
      · exact wpAny_pure (wpAny_pure (fin h2 sb2 (gs _ _ cc ho2 hex2 hd2)))
    · refine wpAny_bind (wpAny_pure ?_)
      simp only [↓reduceIte]
      refine wpAny_bind (store_txt (s := { s' with toks := s'.toks + 1 }) (c1 _ (.inl rfl)) ho hex hd fun h2 o2 ep2 sb2 ho2 hex2 hd2 => ?_)
      split
      · refine wpAny_bind (hgw _ ?_)
        exact wpAny_bind (store_txt (s := { s' with heap := h2, toks := s'.toks + 1 }) ((c1 _ (.inl rfl)).again _) ho2 hex2 hd2 fun h3 o3 ep3 sb3 ho3 hex3 hd3 => wpAny_pure (wpAny_pure (fin h3 (sb2.trans sb3) (gs _ _ ((c1 _ (.inl rfl)).again _) ho3 hex3 hd3))))
      · exact wpAny_pure (wpAny_pure (fin h2 sb2 (gs _ _ (c1 _ (.inl rfl)) ho2 hex2 hd2)))
end
end Nk


/-! Data of ints, texts and tuples over the layer's heap; sorted(..) of lists of them, of sets of them; set(..), len(set(..)). -/
namespace Nk
open PySem PySem.Spec PyProof.Rows L2

/-- what no store changes: the tuples, the locked things -/
def KT (H H' : Hp) : Prop := (∀ b xs, H b = some (.tup xs) → H' b = some (.tup xs)) ∧ ∀ b o xs, H b = some (.frz o (.tup xs)) → H' b = some (.frz o (.tup xs))
theorem KT.refl (H : Hp) : KT H H := ⟨fun _ _ h => h, fun _ _ _ h => h⟩
theorem KT.trans {H H1 H2 : Hp} (a : KT H H1) (b : KT H1 H2) : KT H H2 := ⟨fun c xs h => b.1 c xs (a.1 c xs h), fun c o u h => b.2 c o u (a.2 c o u h)⟩
theorem KT.of {H H' : Hp} (h : Same H H') : KT H H' := ⟨fun b xs e => h b _ e, fun b o u e => h b _ e⟩
theorem same_new {H : Hp} {p : Addr} (h : H p = none) (o : HO) : Same H (upd H p o) := fun b x e => by
  rw [upd_ne (ne_of_none e h)]
  exact e
theorem KT.new {H : Hp} {p : Addr} (h : H p = none) (o : HO) : KT H (upd H p o) := .of (same_new h o)
/-- a store at p, where no tuple stands -/
theorem KT.put {H : Hp} {p : Addr} {u : HO} (h : H p = some u) (h1 : ∀ xs, u ≠ .tup xs) (h2 : ∀ o v, u ≠ .frz o (.tup v)) (o : HO) : KT H (upd H p o) :=
  ⟨fun b xs e => by
    rw [upd_ne (ne_of e h (fun z => h1 xs z.symm))]
    exact e, fun b ob v e => by
    rw [upd_ne (ne_of e h (fun z => h2 ob v z.symm))]
    exact e⟩
theorem KT.sqT {K : PySem.W.Frag} {H H' : Hp} {a : Addr} {xs : List V} (e : KT H H') (h : SqT K H a xs) : SqT K H' a xs := by
  rcases h with (h | ⟨o, h⟩) | h
  · exact .inl (.inl (e.1 _ _ h))
  · exact .inl (.inr ⟨o, e.2 _ _ _ h⟩)
  · exact .inr h
theorem tyx_tup {K : PySem.W.Frag} {H : Hp} {a : Addr} {xs : List V} (h : SqT K H a xs) : TyX K H (.ref a) (.type "tuple") := by
  rcases h with (h | ⟨o, h⟩) | ⟨o, its, n, hk, hc, _⟩
  · exact .base (.tup h)
  · exact .fTuple h
  · exact .kTuple hk hc
/-- a tuple that is known to have no dict of its own -/
def IsP (u : HO) (xs : List V) : Prop := ∃ o : Obj, u = .frz o (.tup xs) ∧ o.dict = none
def SqP (K : PySem.W.Frag) (H : Hp) (a : Addr) (xs : List V) : Prop :=
  (∃ u, H a = some u ∧ IsP u xs) ∨
    ∃ (o : Obj) (its : Array Value) (n : Nat), K.lookup a = some o ∧ o.cls = .type "tuple" ∧ o.dict = none ∧ o.data = .seq its n ∧ its.size ≤ sizeLine ∧ Vals xs its.toList
theorem SqP.T {K : PySem.W.Frag} {H : Hp} {a : Addr} {xs : List V} (h : SqP K H a xs) : SqT K H a xs := by
  rcases h with ⟨u, h, o, rfl, _⟩ | ⟨o, its, n, h1, h2, _, h3⟩
  · exact .inl (.inr ⟨o, h⟩)
  · exact .inr ⟨o, its, n, h1, h2, h3⟩
theorem KT.sqP {K : PySem.W.Frag} {H H' : Hp} {a : Addr} {xs : List V} (e : KT H H') (h : SqP K H a xs) : SqP K H' a xs := by
  rcases h with ⟨u, h, o, rfl, hd⟩ | h
  · exact .inl ⟨_, e.2 _ _ _ h, o, rfl, hd⟩
  · exact .inr h
theorem sqP_new {K : PySem.W.Frag} {H : Hp} {p : Addr} {u : HO} {xs : List V} (h : IsP u xs) : SqP K (upd H p u) p xs := .inl ⟨u, upd_same, h⟩

mutual
/-- the value v is the data d: ints, texts, tuples of these -/
inductive TD (K : PySem.W.Frag) (H : Hp) : V → PyData → Prop
  | int (i : Int) : TD K H (.int i) (.int i)
  | str (x : Str) : TD K H (.str x) (.str x)
  | tup {a : Addr} {xs : List V} {ds : List PyData} : SqP K H a xs → TDs K H xs ds → TD K H (.ref a) (.tuple ds)
inductive TDs (K : PySem.W.Frag) (H : Hp) : List V → List PyData → Prop
  | nil : TDs K H [] []
  | cons {v : V} {vs : List V} {d : PyData} {ds : List PyData} : TD K H v d → TDs K H vs ds → TDs K H (v :: vs) (d :: ds)
end
section
variable {K : PySem.W.Frag} {H H' : Hp}
mutual
theorem TD.kt (e : KT H H') : ∀ (d : PyData) (v : V), TD K H v d → TD K H' v d
  | .int i, _, h => by cases h; exact .int i
  | .str x, _, h => by cases h; exact .str x
  | .tuple ds, _, h => by
    cases h with
    | tup h1 h2 => exact .tup (e.sqP h1) (TDs.kt e ds _ h2)
  | .none, _, h => by cases h
  | .bool _, _, h => by cases h
  | .list _, _, h => by cases h
  | .dict _, _, h => by cases h
theorem TDs.kt (e : KT H H') : ∀ (ds : List PyData) (vs : List V), TDs K H vs ds → TDs K H' vs ds
  | [], _, h => by cases h; exact .nil
  | d :: ds, _, h => by
    cases h with
    | cons h1 h2 => exact .cons (TD.kt e d _ h1) (TDs.kt e ds _ h2)
end
theorem TD.up {v : V} {d : PyData} (h : TD K H v d) (e : KT H H') : TD K H' v d := TD.kt e d v h
theorem TDs.up {vs : List V} {ds : List PyData} (h : TDs K H vs ds) (e : KT H H') : TDs K H' vs ds := TDs.kt e ds vs h
mutual
theorem TD.dp : ∀ (d : PyData) (v : V), TD K H v d → Dp K H v d
  | .int i, _, h => by cases h; exact .int i
  | .str x, _, h => by cases h; exact .str x
  | .tuple ds, _, h => by
    cases h with
    | tup h1 h2 => exact .tup h1.T (TDs.dp ds _ h2)
  | .none, _, h => by cases h
  | .bool _, _, h => by cases h
  | .list _, _, h => by cases h
  | .dict _, _, h => by cases h
theorem TDs.dp : ∀ (ds : List PyData) (vs : List V), TDs K H vs ds → DpAll K H vs ds
  | [], _, h => by cases h; exact .nil
  | d :: ds, _, h => by
    cases h with
    | cons h1 h2 => exact .cons (TD.dp d _ h1) (TDs.dp ds _ h2)
end
theorem TDs.length : ∀ {vs : List V} {ds : List PyData}, TDs K H vs ds → vs.length = ds.length
  | _, _, .nil => rfl
  | _, _, .cons _ t => congrArg (· + 1) (TDs.length t)
theorem TDs.get : ∀ {vs : List V} {ds : List PyData}, TDs K H vs ds → ∀ {i : Nat} {d : PyData}, ds[i]? = some d → ∃ v, vs[i]? = some v ∧ TD K H v d
  | _, _, .nil, _, _, e => by simp at e
  | _, _, .cons h _, 0, _, e => by
    cases e
    exact ⟨_, rfl, h⟩
  | _, _, .cons _ t, i + 1, d, e => by
    obtain ⟨v, e1, e2⟩ := TDs.get t (i := i) (d := d) (by simpa using e)
    exact ⟨v, by simpa using e1, e2⟩
theorem TDs.at : ∀ {vs : List V} {ds : List PyData}, TDs K H vs ds → ∀ {i : Nat} {v : V}, vs[i]? = some v → ∃ d, ds[i]? = some d ∧ TD K H v d
  | _, _, .nil, _, _, e => by simp at e
  | _, _, .cons h _, 0, _, e => by
    cases e
    exact ⟨_, rfl, h⟩
  | _, _, .cons _ t, i + 1, v, e => by
    obtain ⟨d, e1, e2⟩ := TDs.at t (i := i) (v := v) (by simpa using e)
    exact ⟨d, by simpa using e1, e2⟩
theorem TDs.append : ∀ {vs ws : List V} {ds es : List PyData}, TDs K H vs ds → TDs K H ws es → TDs K H (vs ++ ws) (ds ++ es)
  | _, _, _, _, .nil, s => s
  | _, _, _, _, .cons h t, s => .cons h (TDs.append t s)
theorem TDs.snoc {vs : List V} {v : V} {ds : List PyData} {d : PyData} (h : TDs K H vs ds) (h1 : TD K H v d) : TDs K H (vs ++ [v]) (ds ++ [d]) := h.append (.cons h1 .nil)
theorem TD.tupInv {v : V} {ds : List PyData} (h : TD K H v (.tuple ds)) : ∃ a xs, v = .ref a ∧ SqP K H a xs ∧ TDs K H xs ds := by
  cases h with
  | tup h1 h2 => exact ⟨_, _, rfl, h1, h2⟩
theorem TD.intInv {v : V} {i : Int} (h : TD K H v (.int i)) : v = .int i := by
  cases h
  rfl
theorem TD.strInv {v : V} {x : Str} (h : TD K H v (.str x)) : v = .str x := by
  cases h
  rfl
theorem TDs.one {vs : List V} {d : PyData} (h : TDs K H vs [d]) : ∃ v, vs = [v] ∧ TD K H v d := by
  cases h with
  | cons h t => cases t; exact ⟨_, rfl, h⟩
theorem TDs.two {vs : List V} {d e : PyData} (h : TDs K H vs [d, e]) : ∃ v u, vs = [v, u] ∧ TD K H v d ∧ TD K H u e := by
  cases h with
  | cons h t =>
    obtain ⟨u, rfl, h2⟩ := t.one
    exact ⟨_, u, rfl, h, h2⟩
theorem TDs.three {vs : List V} {d e f : PyData} (h : TDs K H vs [d, e, f]) : ∃ v u z, vs = [v, u, z] ∧ TD K H v d ∧ TD K H u e ∧ TD K H z f := by
  cases h with
  | cons h t =>
    obtain ⟨u, z, rfl, h2, h3⟩ := t.two
    exact ⟨_, u, z, rfl, h, h2, h3⟩
theorem TDs.ofPerm {β : Type} {enc : β → PyData} : ∀ {bs cs : List β}, bs.Perm cs → ∀ {vs : List V}, TDs K H vs (bs.map enc) → ∃ ws, ws.Perm vs ∧ TDs K H ws (cs.map enc) := by
  intro bs cs pm
  induction pm with
  | nil => intro vs h; exact ⟨vs, List.Perm.refl _, h⟩
  | cons x _ ih =>
    intro vs h
    cases h with
    | cons h t =>
      obtain ⟨ws, p, q⟩ := ih t
      exact ⟨_, p.cons _, .cons h q⟩
  | swap x y l =>
    intro vs h
    cases h with
    | cons h t =>
      cases t with
      | cons h2 t => exact ⟨_, List.Perm.swap _ _ _, .cons h2 (.cons h t)⟩
  | trans _ _ ih1 ih2 =>
    intro vs h
    obtain ⟨ws, p, q⟩ := ih1 h
    obtain ⟨us, p2, q2⟩ := ih2 q
    exact ⟨us, p2.trans p, q2⟩
end

/-! ### nested keys -/
mutual
theorem nested_of_reads {h : Heap} : ∀ (k : NestedKey) (v : Value) (as : List Addr), Reads h v k.data as → NestedIs h k v
  | .none, _, _, r => by cases r; exact .none
  | .num i, _, _, r => by cases r; exact .int _ _
  | .text x, _, _, r => by cases r; exact .text _ _
  | .tup ks, _, _, r => by
    cases r with
    | tuple h1 h2 h3 h4 => exact .tup h1 h2 h3 (nested_of_readsAll ks _ _ h4)
theorem nested_of_readsAll {h : Heap} : ∀ (ks : List NestedKey) (vs : List Value) (as : List Addr), ReadsAll h vs (NestedKey.datas ks) as → NestedAll h ks vs
  | [], _, _, r => by cases r; exact .nil
  | k :: ks, _, _, r => by
    cases r with
    | cons h1 h2 => exact .cons (nested_of_reads k _ _ h1) (nested_of_readsAll ks _ _ h2)
end
theorem datas_map (ks : List NestedKey) : NestedKey.datas ks = ks.map NestedKey.data := by
  induction ks with
  | nil => rfl
  | cons k ks ih => rw [NestedKey.datas, ih, List.map_cons]
section
variable {X : Cx} {pins : List (Addr × Obj)} {σ : L2.St} {H : Hp} {s : Shared}
theorem TD.reads (I : Inv X pins σ H s) {v : V} {d : PyData} {u : Value} (h : TD X.K H v d) (r : RelV v u) : ∃ as, Reads s.heap u d as := Dp.reads I d v u (TD.dp d v h) r
theorem TD.nkey (I : Inv X pins σ H s) {a : Addr} {k : NestedKey} (h : TD X.K H (.ref a) k.data) (hd : k.depth ≤ 8) : NKey s.heap k a := by
  obtain ⟨as, r⟩ := h.reads I (u := .ref a) rfl
  exact ⟨nested_of_reads k _ as r, hd⟩
/-- what a raw value stands for -/
def St1 (K : PySem.W.Frag) (H : Hp) {β : Type} (enc : β → PyData) (u : Value) (b : β) : Prop := ∃ v, RelV v u ∧ TD K H v (enc b)
theorem each_st {β : Type} {enc : β → PyData} : ∀ {xs : List V} {us : List Value} {bs : List β}, Vals xs us → TDs X.K H xs (bs.map enc) → PySem.W.EachIs (St1 X.K H enc) us bs
  | _, _, [], r, h => by
    cases h
    cases r
    exact .nil
  | _, _, b :: bs, r, h => by
    cases h with
    | cons h1 h2 =>
      cases r with
      | cons r1 r2 => exact .cons ⟨_, r1, h1⟩ (each_st r2 h2)
theorem each_rd (I : Inv X pins σ H s) {β : Type} {enc : β → PyData} {us : List Value} {bs : List β} (e : PySem.W.EachIs (St1 X.K H enc) us bs) : PySem.W.EachIs (fun u b => ∃ as, Reads s.heap u (enc b) as) us bs :=
  e.mono fun _ _ ⟨v, r, h⟩ => h.reads I r
theorem st_back {β : Type} {enc : β → PyData} : ∀ {us : List Value} {bs : List β}, PySem.W.EachIs (St1 X.K H enc) us bs → ∃ xs, Vals xs us ∧ TDs X.K H xs (bs.map enc)
  | _, _, .nil => ⟨[], .nil, .nil⟩
  | _, _, .cons ⟨v, r, h⟩ t => by
    obtain ⟨xs, r2, h2⟩ := st_back t
    exact ⟨v :: xs, .cons r r2, .cons h h2⟩
end

/-! ### tuples made -/
section
variable {X : Cx} {es : List Expr} {t : TA} {pos : Pos}
theorem Inv.plain {pins : List (Addr × Obj)} {σ : L2.St} {H : Hp} {s : Shared} {a : Addr} {xs : List V} (I : Inv X pins σ H s) (h : SqP X.K H a xs) : ∃ its : List Value, Vals xs its ∧ PlainSeq "tuple" s.heap a its.toArray ∧ xs.length ≤ sizeLine := by
  rcases h with ⟨u, h, o, rfl, hd⟩ | ⟨o, its, n, hk, hc, hd, hs, hz, r⟩
  · obtain ⟨ho, z, its, r, o', ho', hc, n, hq⟩ := I.hok _ _ h
    rw [ho] at ho'
    cases ho'
    exact ⟨its, r, ⟨o, n, ho, hc, hd, hq⟩, z⟩
  · refine ⟨its.toList, r, ⟨o, n, I.kIn a o hk, hc, hd, by simpa using hs⟩, ?_⟩
    have e : xs.length = its.toList.length := r.length
    simp only [Array.length_toList] at e
    omega
theorem isP_ok {P : Program} {w : World} {H : Hp} {h : Heap} {p : Addr} {xs : List V} {us : List Value} {n : Nat} (r : Vals xs us) (hz : xs.length ≤ sizeLine) (ho : h.get? p = some { cls := .type "tuple", data := .seq us.toArray n }) :
    ObjOk P w H h p (.frz { cls := .type "tuple", data := .seq us.toArray n } (.tup xs)) := ⟨ho, hz, us, r, _, ho, rfl, _, rfl⟩
/-- a tuple display -/
def tTupP (t : TA) : TE := fun σ H Q => t σ H fun xs H1 => xs.length ≤ sizeLine ∧ ∀ p u, H1 p = none → IsP u xs → Q (.ref p) (upd H1 p u)
theorem pe_tupP {x1} (h : PA X es t) : PE X (.Tuple es x1 pos) (tTupP t) := by
  refine ⟨fun pins s σ H Q I hq => ?_⟩
  refine wpAny_Tuple_spliced (thn (h.run pos pins s σ H _ I hq) fun us s1 ⟨xs, H1, I1, r, z, q⟩ => ⟨by rw [← r.length]; exact z, ?_⟩)
  have hf : H1 s1.heap.objs.size = none := I1.hok.fresh (Nat.le_refl _)
  exact ⟨.ref s1.heap.objs.size, _, I1.laid (t' := s1.toks) (fun b u e => Heap.get?_push_of_some _ e) (Nat.le_refl _) (isP_ok r z (Heap.get?_push_size _ rfl)), rfl, q _ _ hf ⟨_, rfl, rfl⟩⟩
/-- tuple(xs), xs a list -/
def rTupP (K : PySem.W.Frag) : List V → Hp → VK → Prop := fun vs H Q => ∃ p ys, vs = [.ref p] ∧ SqL K H p ys ∧ ∀ l u, H l = none → IsP u ys → Q (.ref l) (upd H l u)
theorem cr_tupP : CallR X (.type "tuple") (rTupP X.K) := by
  intro pins s σ H xs us Q I r h
  obtain ⟨p, ys, rfl, hq, q⟩ := h
  rw [Vals.ref1 r]
  obtain ⟨its, r', pl, hz⟩ := I.list hq
  have hlen := r'.length
  refine call_tuple_list pl.isList (fun h' kp => ?_) (by simp only [List.size_toArray] <;> omega)
  have I1 : Inv X pins σ H { s with heap := h' } := I.kept (t' := s.toks) kp
  exact ⟨.ref h'.objs.size, _, I1.laid (t' := s.toks) (fun b o e => Heap.get?_push_of_some _ e) (Nat.le_refl _) (isP_ok r' hz (Heap.get?_push_size _ rfl)), rfl, q _ _ (I1.hok.fresh (Nat.le_refl _)) ⟨_, rfl, rfl⟩⟩
end

/-! ### sorted(xs) -/
/-- what is asked of things that are sorted -/
structure Srt1 {β : Type} (enc : β → PyData) (bs : List β) : Prop where
  alk : PySem.W.AllAlike (bs.map enc)
  srt : PySem.W.Sortable (bs.map enc)
  dep : ∀ b ∈ bs, (enc b).depth ≤ 16
/-- sorted(xs): a new list -/
def rSortL (K : PySem.W.Frag) : List V → Hp → VK → Prop := fun vs H Q => ∃ (β : Type) (enc : β → PyData) (a : Addr) (xs : List V) (bs : List β), vs = [.ref a] ∧ SqL K H a xs ∧ TDs K H xs (bs.map enc) ∧ Srt1 enc bs ∧
  ∀ ys p, TDs K H ys ((bs.mergeSort (PySem.W.dataLe false enc)).map enc) → H p = none → Q (.ref p) (upd H p (.lst ys))
section
variable {X : Cx}
theorem cr_sortL (hu : X.A.units + 64 < cLine) : CallR X (.builtin "sorted") (rSortL X.K) := by
  intro pins s σ H vs us Q I r h
  obtain ⟨β, enc, a, xs, bs, rfl, hs, hd, S, q⟩ := h
  obtain ⟨its, rv, hl, hz⟩ := I.list hs
  rw [Vals.ref1 r]
  have e := each_st (X := X) rv hd
  have hbl : bs.length = its.length := e.length.symm
  refine PySem.W.sorted_data (R := St1 X.K H enc) hl.isList e (each_rd I e) S.alk S.srt (by rw [hbl, ← rv.length]; exact hz) (fun b hb => by have := S.dep b hb; omega) fun out ho eo => ?_
  obtain ⟨ys, r2, h2⟩ := st_back (X := X) eo
  obtain ⟨ep, he'⟩ := PyProof.Rows.sortedAll_at s.heap its out.toArray
  have hlen : ys.length ≤ sizeLine := by
    rw [r2.length, ho, hbl, ← rv.length]
    exact hz
  exact ⟨.ref _, upd H (s.heap.objs.size + 1) (.lst ys), I.laid (t' := s.toks) (fun _ _ => PyProof.Rows.sortedAll_old) (Nat.le_succ _) ⟨hlen, out, ep, r2, he'⟩, rfl, q ys _ h2 (I.hok.fresh (Nat.le_succ _))⟩
end

/-! ### sets -/
/-- the set at a, of the things xs -/
def SetX (w : World) (a : Addr) (xs : List V) : HO := .ext fun h => ∃ us, Vals xs us ∧ SetB w h a us
theorem setX_ok {P : Program} {w : World} {H : Hp} {h : Heap} {a : Addr} {xs : List V} {us : List Value} (r : Vals xs us) (b : SetB w h a us) : ObjOk P w H h a (SetX w a xs) := by
  have ⟨o, es, ep, t, ho, _⟩ := b
  exact ⟨⟨us, r, b⟩, ⟨o, ho⟩, fun h1 h2 ⟨us', r', b'⟩ k => ⟨us', r', b'.at k⟩⟩
/-- the things are distinct: nested tuples, or texts -/
def DistN (K : PySem.W.Frag) (H : Hp) (xs : List V) : Prop := ∃ ks : List NestedKey, ks.Nodup ∧ TDs K H xs (ks.map NestedKey.data) ∧ ∀ k ∈ ks, k.depth ≤ 8 ∧ ∃ l, k = .tup l
def DistS (xs : List V) : Prop := ∃ zs : List Str, zs.Nodup ∧ xs = zs.map V.str
def rSetX (K : PySem.W.Frag) (w : World) : List V → Hp → VK → Prop := fun vs H Q => ∃ (a : Addr) (xs : List V), vs = [.ref a] ∧ (SqL K H a xs ∨ SqT K H a xs) ∧ (DistN K H xs ∨ DistS xs) ∧ xs.length < 4095 ∧ ∀ p, H p = none → Q (.ref p) (upd H p (SetX w p xs))
section
variable {X : Cx} {pins : List (Addr × Obj)} {σ : L2.St} {H : Hp} {s : Shared}
theorem keys_of (I : Inv X pins σ H s) : ∀ {ks : List NestedKey} {xs : List V} {us : List Value}, TDs X.K H xs (ks.map NestedKey.data) → Vals xs us → (∀ k ∈ ks, k.depth ≤ 8 ∧ ∃ l, k = .tup l) →
    ∃ L0 : List (Addr × NestedKey), us = L0.map (fun p => Value.ref p.1) ∧ L0.map (·.2) = ks ∧ ∀ p ∈ L0, NKey s.heap p.2 p.1
  | [], _, _, h, r, _ => by
    cases h
    cases r
    exact ⟨[], rfl, rfl, fun p hp => (by cases hp)⟩
  | k :: ks, _, _, h, r, hk => by
    cases h with
    | cons h1 h2 =>
      cases r with
      | cons r1 r2 =>
        obtain ⟨hd, l, rfl⟩ := hk k List.mem_cons_self
        obtain ⟨L0, e1, e2, e3⟩ := keys_of I h2 r2 fun k' hk' => hk k' (List.mem_cons_of_mem _ hk')
        obtain ⟨a, ys, rfl, _⟩ := TD.tupInv (h1 : TD X.K H _ (.tuple (NestedKey.datas l)))
        cases r1
        refine ⟨(a, .tup l) :: L0, by rw [List.map_cons, e1], by rw [List.map_cons, e2], fun p hp => ?_⟩
        rcases List.mem_cons.mp hp with e | hp
        · rw [e]
          exact h1.nkey I hd
        · exact e3 p hp
theorem strsOf : ∀ {zs : List Str} {us : List Value}, Vals (zs.map V.str) us → StrsAre us zs
  | [], _, .nil => .nil
  | z :: zs, _, .cons r t => by
    obtain ⟨tk, rfl⟩ := r
    exact .cons z tk (strsOf t)
end
section
variable {X : Cx}
theorem cr_setX (hc : X.calm = true) (hu : X.A.units + 64 < cLine) : CallR X (.type "set") (rSetX X.K X.w) := by
  intro pins s σ H vs us Q I r h
  obtain ⟨a, xs, rfl, hq, hd, hf, q⟩ := h
  rw [Vals.ref1 r]
  have hn : H s.heap.objs.size = none := I.hok.fresh (Nat.le_refl _)
  -- the end, for each kind of things
  have fin : ∀ (items : Array Value) (h' : Heap) (tk : Nat), Vals xs items.toList → SetB X.w h' s.heap.objs.size items.toList → (∀ b o, s.heap.get? b = some o → h'.get? b = some o) → EP X pins σ Q (.ref s.heap.objs.size) { s with heap := h', toks := tk } :=
    fun items h' tk rv b k => ⟨.ref s.heap.objs.size, upd H s.heap.objs.size (SetX X.w s.heap.objs.size xs), I.laid (t' := tk) k (Nat.le_refl _) (setX_ok rv b), rfl, q _ hn⟩
  have all : ∀ (items : Array Value), Vals xs items.toList → (∀ G : Nat → Heap → Prop, Fills X.prog X.w X.A.in1.in1.in1 s.heap.objs.size s.heap items.size (fun i v => items[i]? = some v) G →
      (∀ h', h'.get? s.heap.objs.size = some (set0 X.w) → (∀ b o, s.heap.get? b = some o → h'.get? b = some o) → G 0 h') →
      (∀ (h' : Heap) (tk : Nat), G items.size h' → (∀ b o, s.heap.get? b = some o → h'.get? b = some o) → EP X pins σ Q (.ref s.heap.objs.size) { s with heap := h', toks := tk }) →
      wpAny (model X.prog X.w) X.A (call (.type "set") [.ref a]) (EP X pins σ Q) X.xe s) → wpAny (model X.prog X.w) X.A (call (.type "set") [.ref a]) (EP X pins σ Q) X.xe s := by
    intro items rv go
    have hl := rv.length
    have hsz : items.toList.length = items.size := Array.length_toList
    rcases hd with ⟨ks, nd, hks, hk⟩ | ⟨zs, nd, ez⟩
    · obtain ⟨L0, e1, e2, e3⟩ := keys_of I hks rv hk
      have hL : L0.length = items.size := by rw [← hsz, e1, List.length_map]
      refine go (GN X.w s.heap.objs.size L0) (fills_keys e1 e3 (by rw [e2]; exact nd) (by omega) (by show X.A.units + 1 + 1 + 1 + 12 < cLine; omega)) (fun h' ho _ => GN.start ho) fun h' tk g k => fin items h' tk rv ?_ k
      have b := g.setB
      rw [← hL, List.take_length, ← e1] at b
      exact b
    · subst ez
      refine go (GS X.w s.heap.objs.size items.toList) (fills_strs (strsOf rv) nd (by rw [List.length_map] at hf; exact hf)) (fun h' ho _ => GS.start ho) fun h' tk g k => fin items h' tk rv ?_ k
      have b := g.setB
      rw [← hsz, List.take_length] at b
      exact b
  rcases hq with hq | hq
  · obtain ⟨its, rv, pl, hz⟩ := I.list hq
    exact all its.toArray (by simpa using rv) fun G F g0 h => call_set_list (I.ok.hd hc) pl.isList F g0 h
  · obtain ⟨its, rv, pl, hz⟩ := I.tuple hq
    exact all its.toArray (by simpa using rv) fun G F g0 h => call_set_tuple (I.ok.hd hc) (show s.heap.IsTuple a its.toArray from pl) F g0 h
/-- len(set) -/
def rLenX (w : World) : List V → Hp → VK → Prop := fun vs H Q => ∃ (a : Addr) (xs : List V), vs = [.ref a] ∧ H a = some (SetX w a xs) ∧ Q (.int xs.length) H
theorem cr_lenX : CallR X (.builtin "len") (rLenX X.w) := by
  intro pins s σ H vs us Q I r h
  obtain ⟨a, xs, rfl, ha, q⟩ := h
  rw [Vals.ref1 r]
  obtain ⟨us', rv, o, es, ep, t, ho, hex, hd, hf, hb, _, _, pm⟩ := (I.hok a _ ha).1
  have hn : es.size = xs.length := by
    rw [rv.length, ← pm.length_eq, List.length_map, Array.length_toList]
  refine call_len_set ho hex hd hf (by unfold scanBound at hb; omega) ⟨.int xs.length, H, I.tok _, ⟨_, by rw [hn]⟩, q⟩
/-- sorted(set) -/
def rSortX (K : PySem.W.Frag) (w : World) : List V → Hp → VK → Prop := fun vs H Q => ∃ (β : Type) (enc : β → PyData) (a : Addr) (xs : List V) (bs : List β), vs = [.ref a] ∧ H a = some (SetX w a xs) ∧ TDs K H xs (bs.map enc) ∧ Srt1 enc bs ∧
  ∀ (bs' : List β) (ys : List V) (p : Addr), bs'.Perm bs → TDs K H ys ((bs'.mergeSort (PySem.W.dataLe false enc)).map enc) → H p = none → Q (.ref p) (upd H p (.lst ys))
theorem srt_perm {β : Type} {enc : β → PyData} {bs cs : List β} (S : Srt1 enc bs) (pm : cs.Perm bs) : Srt1 enc cs := by
  have mm : ∀ {d : PyData}, d ∈ cs.map enc → d ∈ bs.map enc := fun hd => (pm.map enc).mem_iff.mp hd
  refine ⟨fun d hd d' hd' => S.alk d (mm hd) d' (mm hd'), ?_, fun b hb => S.dep b (pm.mem_iff.mp hb)⟩
  rcases S.srt with h | h
  · exact .inl fun d hd => h d (mm hd)
  · exact .inr fun d hd => h d (mm hd)
theorem perm_each {β : Type} {R : Value → β → Prop} {us vs : List Value} (pm : us.Perm vs) : ∀ {bs : List β}, PySem.W.EachIs R vs bs → ∃ cs, cs.Perm bs ∧ PySem.W.EachIs R us cs := by
  induction pm with
  | nil => intro bs h; exact ⟨bs, List.Perm.refl _, h⟩
  | cons x _ ih =>
    intro bs h
    cases h with
    | cons h t =>
      obtain ⟨cs, p, q⟩ := ih t
      exact ⟨_, p.cons _, .cons h q⟩
  | swap x y l =>
    intro bs h
    cases h with
    | cons h t =>
      cases t with
      | cons h2 t => exact ⟨_, List.Perm.swap _ _ _, .cons h2 (.cons h t)⟩
  | trans _ _ ih1 ih2 =>
    intro bs h
    obtain ⟨cs, p, q⟩ := ih2 h
    obtain ⟨ds, p2, q2⟩ := ih1 q
    exact ⟨ds, p2.trans p, q2⟩
theorem sort_call {A : Around} {E : Value → Shared → Prop} {s : Shared} {P : Program} {w : World} {β : Type} {R : Value → β → Prop} {enc : β → PyData} {vs : List Value} {bs : List β} {Q : Value → Shared → Prop}
    (e : PySem.W.EachIs R vs bs) (er : PySem.W.EachIs (fun v b => ∃ as, Reads s.heap v (enc b) as) vs bs) (S : Srt1 enc bs) (hL : vs.length ≤ sizeLine) (hu : A.units + 32 < cLine)
    (h : ∀ out h' c, out.length = vs.length → PySem.W.EachIs R out (bs.mergeSort (PySem.W.dataLe false enc)) → (∀ b o, s.heap.get? b = some o → h'.get? b = some o) → h'.get? s.heap.objs.size = some (seqObj "list" (List.toArray out) c) →
      Q .none { s with heap := h' }) :
    wpAny (model P w) A (call (.builtin "list.sort") [.ref s.heap.objs.size]) Q E { s with heap := s.heap.push (seqObj "list" vs.toArray 0) } := by
  have ho : (s.heap.push (seqObj "list" vs.toArray 0)).get? s.heap.objs.size = some (seqObj "list" vs.toArray 0) := Heap.get?_push_size _ rfl
  have er' : PySem.W.EachIs (fun v b => ∃ as, Reads (PySem.W.sortingHeap (s.heap.push (seqObj "list" vs.toArray 0)) s.heap.objs.size vs) v (enc b) as) vs bs :=
    er.mono fun _ _ ⟨as, r⟩ => ⟨as, PyProof.Rows.Reads.keeps (fun b o q => PySem.W.sortingHeap_old (Nat.ne_of_lt (Heap.lt_size q)) (Heap.get?_push_of_some _ q)) r⟩
  refine wpAny_call_entry PyProof.Rows.slot_list_sort ⟨_, ho, rfl⟩ PyProof.Rows.entry_list_sort
    (PySem.W.list_sort_vals (s := { s with heap := s.heap.push (seqObj "list" vs.toArray 0) }) (κ := PySem.W.dataKind (PySem.W.sortingHeap (s.heap.push (seqObj "list" vs.toArray 0)) s.heap.objs.size vs) (bs.map enc)) ho
      (PySem.W.SortsAt.data (s := { s with heap := PySem.W.sortingHeap (s.heap.push (seqObj "list" vs.toArray 0)) s.heap.objs.size vs }) (PySem.W.each_map (R := fun v d => ∃ as, Reads (PySem.W.sortingHeap (s.heap.push (seqObj "list" vs.toArray 0)) s.heap.objs.size vs) v d as) enc er') S.alk S.srt
        (PySem.W.bound_map (A := A.in1) fun b hb => by have := S.dep b hb; show A.units + 1 + _ < cLine; omega)) hL ⟨.none, rfl, ?_⟩) (PyProof.Rows.args_list_sort _)
  obtain ⟨c, hc⟩ := PyProof.Rows.sortedHeap_at (vs := vs) (out := (PySem.W.sortVals (PySem.W.dataKind (PySem.W.sortingHeap (s.heap.push (seqObj "list" vs.toArray 0)) s.heap.objs.size vs) (bs.map enc)) false vs vs).toArray) ho
  refine h _ _ c (by rw [PySem.W.sortVals_length false rfl]) (PySem.W.sortVals_data false e er' S.alk) (fun b o q => ?_) hc
  have hlt := Heap.lt_size q
  rw [PyProof.Rows.sortedHeap_old (Nat.ne_of_lt hlt) (by rw [PyProof.Rows.size_push']; exact Nat.lt_succ_of_lt hlt)]
  exact Heap.get?_push_of_some _ q
theorem cr_sortX (hc : X.calm = true) (hu : X.A.units + 64 < cLine) : CallR X (.builtin "sorted") (rSortX X.K X.w) := by
  intro pins s σ H vs us Q I r h
  obtain ⟨β, enc, a, xs, bs, rfl, ha, hd, S, q⟩ := h
  rw [Vals.ref1 r]
  obtain ⟨us', rv, o, es, ep, t, ho, hex, hdat, hf, hb, hr, hl, pm⟩ := (I.hok a _ ha).1
  have e := each_st (X := X) rv hd
  refine Calls.call_function_entry PyProof.Rows.kind_sorted PyProof.Rows.plain_sorted PyProof.Rows.entry_sorted (PyProof.Rows.args_sorted1 _) ?_
  unfold Builtin.«sorted»
  refine wpAny_bind (m := checkCount "sorted" 1 1 _) (wpAny_pure ?_)
  refine wpAny_bind (collect_set (A := X.A.in1) (I.ok.hd hc) ⟨o, ho, hex.1, hdat⟩ hf hb hr hl fun s1 out k1 hz g1 o1 pm1 => ?_)
  have pmo : out.Perm us' := pm1.trans pm
  obtain ⟨bs', pb, eo⟩ := perm_each pmo e
  have hol : out.length ≤ sizeLine := by
    rw [pmo.length_eq, ← pm.length_eq, List.length_map, Array.length_toList]
    exact fits_of_scanBound hb
  refine wpAny_bind (wpAny_newList ?_ hol)
  have er1 : PySem.W.EachIs (fun u b => ∃ as, Reads s1.heap u (enc b) as) out bs' := (each_rd I eo).mono fun _ _ ⟨as, r⟩ => ⟨as, PyProof.Rows.Reads.keeps k1 r⟩
  refine wpAny_bind (wpAny_holding (sort_call eo er1 (srt_perm S pb) hol (by show X.A.units + 1 + 32 < cLine; omega) fun out2 h' c ho2 eo2 kp hD => ?_))
  refine wpAny_pure ⟨_, rfl, ?_⟩
  obtain ⟨ys, r2, h2⟩ := st_back (X := X) eo2
  have hn : H s1.heap.objs.size = none := I.hok.fresh hz
  have hlen : ys.length ≤ sizeLine := by rw [r2.length, ho2]; exact hol
  have kk : ∀ b ob, s.heap.get? b = some ob → h'.get? b = some ob := fun b ob q => kp b ob (k1 b ob q)
  have J : Inv X pins σ (upd H s1.heap.objs.size (.lst ys)) { s with heap := h', gens := s1.gens, drawn := s1.drawn, toks := s1.toks } :=
    I.call (ch := []) (Un.laid kk hz hn) (I.hok.laid kk hz ⟨hlen, out2, c, r2, hD⟩) (by rw [g1]; exact I.bare) (fun _ z => nomatch z)
  have es1 : ({ s1 with heap := h' } : Shared) = { s with heap := h', gens := s1.gens, drawn := s1.drawn, toks := s1.toks } := by
    cases s1
    cases s
    cases o1
    rfl
  rw [es1]
  exact ⟨.ref _, _, J, rfl, q bs' ys _ pb h2 hn⟩
end
end Nk


/-! Dicts from products of names (nested tuples) to ints; dict(pairs); sorted(d.items()) of a dict from texts to ints. -/
namespace Nk
open PySem PySem.Spec PyProof.Rows L2

/-- the powers of a product: names with their powers -/
abbrev Pow := List (Str × Int)
/-- a sum of products -/
abbrev Sm := List (Pow × Int)
def encF (f : Str × Int) : NestedKey := .tup [.text f.1, .num f.2]
def encP (p : Pow) : NestedKey := .tup (p.map encF)
def dF (f : Str × Int) : PyData := .tuple [.str f.1, .int f.2]
def dP (p : Pow) : PyData := .tuple (p.map dF)
def dT (e : Pow × Int) : PyData := .tuple [dP e.1, .int e.2]
def dS (s : Sm) : PyData := .tuple (s.map dT)
theorem encF_data (f : Str × Int) : (encF f).data = dF f := rfl
theorem encP_data (p : Pow) : (encP p).data = dP p := by
  show PyData.tuple (NestedKey.datas (p.map encF)) = PyData.tuple (p.map dF)
  rw [datas_map, List.map_map]
  rfl
theorem encF_inj {f g : Str × Int} (h : encF f = encF g) : f = g := by
  injection h with h
  injection h with h1 h2
  injection h1 with h1
  injection h2 with h2 _
  injection h2 with h2
  exact Prod.ext h1 h2
theorem map_encF_inj : ∀ {p q : Pow}, p.map encF = q.map encF → p = q
  | [], [], _ => rfl
  | [], _ :: _, h => by cases h
  | _ :: _, [], h => by cases h
  | f :: p, g :: q, h => by
    rw [List.map_cons, List.map_cons] at h
    injection h with h1 h2
    rw [encF_inj h1, map_encF_inj h2]
theorem encP_inj {p q : Pow} (h : encP p = encP q) : p = q := by
  injection h with h
  exact map_encF_inj h
theorem depth_encF (f : Str × Int) : (encF f).depth = 1 := by simp [encF, NestedKey.depth, NestedKey.depthAll]
theorem depth_encFs : ∀ p : Pow, NestedKey.depthAll (p.map encF) ≤ 1
  | [] => Nat.zero_le _
  | f :: p => by
    rw [List.map_cons, NestedKey.depthAll, depth_encF]
    exact Nat.max_le.mpr ⟨Nat.le_refl _, depth_encFs p⟩
theorem depth_encP (p : Pow) : (encP p).depth ≤ 8 := by
  have h := depth_encFs p
  show NestedKey.depthAll (p.map encF) + 1 ≤ 8
  omega
theorem depth_dF (f : Str × Int) : (dF f).depth = 1 := by simp [dF, PyData.depth, PyData.depthAll]
theorem depth_dFs : ∀ p : Pow, PyData.depthAll (p.map dF) ≤ 1
  | [] => Nat.zero_le _
  | f :: p => by
    rw [List.map_cons, PyData.depthAll, depth_dF]
    exact Nat.max_le.mpr ⟨Nat.le_refl _, depth_dFs p⟩
theorem depth_dP (p : Pow) : (dP p).depth ≤ 2 := by
  have h := depth_dFs p
  show PyData.depthAll (p.map dF) + 1 ≤ 2
  omega
theorem depth_dT (e : Pow × Int) : (dT e).depth ≤ 3 := by
  have h := depth_dP e.1
  show PyData.depthAll [dP e.1, .int e.2] + 1 ≤ 3
  simp only [PyData.depthAll, PyData.depth]
  omega

/-! ### the dict as a list -/
def getM (m : Sm) (p : Pow) : Int := ((m.find? fun e => decide (e.1 = p)).map (·.2)).getD 0
def putM (m : Sm) (p : Pow) (n : Int) : Sm := if m.any (fun e => decide (e.1 = p)) = true then m.map (fun e => if e.1 = p then (e.1, n) else e) else m ++ [(p, n)]
abbrev Ent := Pow × Addr × Int
def putA (kas : List Ent) (p : Pow) (a : Addr) (n : Int) : List Ent := if kas.any (fun e => decide (e.1 = p)) = true then kas.map (fun e => if e.1 = p then (e.1, e.2.1, n) else e) else kas ++ [(p, a, n)]
abbrev bare (kas : List Ent) : Sm := kas.map fun e => (e.1, e.2.2)
theorem bare_put (kas : List Ent) (p : Pow) (a : Addr) (n : Int) : bare (putA kas p a n) = putM (bare kas) p n := by
  unfold putA putM bare
  have e : (kas.map fun e => (e.1, e.2.2)).any (fun e => decide (e.1 = p)) = kas.any (fun e => decide (e.1 = p)) := by
    rw [List.any_map]
    rfl
  rw [e]
  split
  · rw [List.map_map, List.map_map]
    refine List.map_congr_left fun x _ => ?_
    show (fun e : Ent => (e.1, e.2.2)) (if x.1 = p then (x.1, x.2.1, n) else x) = if x.1 = p then (x.1, n) else (x.1, x.2.2)
    by_cases h : x.1 = p
    · rw [if_pos h, if_pos h]
    · rw [if_neg h, if_neg h]
  · rw [List.map_append]
    rfl
theorem length_putM (m : Sm) (p : Pow) (n : Int) : (putM m p n).length ≤ m.length + 1 := by
  unfold putM
  split
  · rw [List.length_map]
    exact Nat.le_succ _
  · rw [List.length_append]
    exact Nat.le_refl _
theorem mem_putA {kas : List Ent} {p : Pow} {a : Addr} {n : Int} {x : Ent} (h : x ∈ putA kas p a n) : (∃ y ∈ kas, x.1 = y.1 ∧ x.2.1 = y.2.1) ∨ (x.1 = p ∧ x.2.1 = a) := by
  unfold putA at h
  split at h
  · obtain ⟨y, hy, e⟩ := List.mem_map.mp h
    refine .inl ⟨y, hy, ?_⟩
    split at e <;> (subst e; exact ⟨rfl, rfl⟩)
  · rcases List.mem_append.mp h with h | h
    · exact .inl ⟨x, h, rfl, rfl⟩
    · rw [List.mem_singleton.mp h]
      exact .inr ⟨rfl, rfl⟩

/-! ### the dict in the heap -/
abbrev RE (p : Ent) (q : NestedKey × Addr × Value) : Prop := q.1 = encP p.1 ∧ q.2.1 = p.2.1 ∧ ∃ t, q.2.2 = .int p.2.2 t
abbrev PX (kas : List Ent) (xs : List (NestedKey × Addr × Value)) : Prop := Paired RE kas xs
theorem PX.find {p : Pow} : ∀ {kas : List Ent} {xs : List (NestedKey × Addr × Value)}, PX kas xs →
    (∃ t, ((atKey xs (encP p)).map (·.2)).getD (.int 0 0) = .int (getM (bare kas) p) t) ∧ (atKey xs (encP p)).isSome = kas.any (fun e => decide (e.1 = p)) ∧
      (atKey xs (encP p) = none → getM (bare kas) p = 0) ∧ ∀ q, atKey xs (encP p) = some q → ∃ t, q.2 = .int (getM (bare kas) p) t
  | [], _, h => by
    cases h
    exact ⟨⟨0, rfl⟩, rfl, fun _ => rfl, fun q e => by cases e⟩
  | e :: kas, _, h => by
    cases h with
    | @cons _ q _ ys r t =>
      obtain ⟨r1, r2, tk, r3⟩ := r
      obtain ⟨i1, i2, i3, i4⟩ := PX.find (p := p) t
      by_cases c : e.1 = p
      · have ea : atKey (q :: ys) (encP p) = some q.2 := by
          unfold atKey
          rw [List.find?_cons_of_pos (by rw [r1, c]; exact decide_eq_true rfl)]
          rfl
        have eg : getM (bare (e :: kas)) p = e.2.2 := by
          unfold getM bare
          rw [List.map_cons, List.find?_cons_of_pos (by exact decide_eq_true c)]
          rfl
        rw [ea, eg]
        refine ⟨⟨tk, r3⟩, ?_, fun z => absurd z (by simp), fun q' z => ?_⟩
        · rw [List.any_cons, decide_eq_true c]
          rfl
        · cases z
          exact ⟨tk, r3⟩
      · have hne : ¬ q.1 = encP p := fun z => c (encP_inj (r1.symm.trans z))
        have ea : atKey (q :: ys) (encP p) = atKey ys (encP p) := by
          unfold atKey
          rw [List.find?_cons_of_neg (by rw [decide_eq_true_eq]; exact hne)]
        have eg : getM (bare (e :: kas)) p = getM (bare kas) p := by
          unfold getM bare
          rw [List.map_cons, List.find?_cons_of_neg (by rw [decide_eq_true_eq]; exact c)]
        rw [ea, eg]
        refine ⟨i1, ?_, i3, i4⟩
        rw [i2, List.any_cons, decide_eq_false c]
        rfl
theorem PX.put {p : Pow} {a : Addr} {n : Int} {t : Tok} {kas : List Ent} {xs : List (NestedKey × Addr × Value)} (h : PX kas xs) : PX (putA kas p a n) (storedH xs (encP p) a (.int n t)) := by
  unfold putA storedH
  rw [(PX.find (p := p) h).2.1]
  have key : ∀ {kas : List Ent} {xs : List (NestedKey × Addr × Value)}, PX kas xs → PX (kas.map (fun e => if e.1 = p then (e.1, e.2.1, n) else e)) (xs.map (putAt (encP p) (.int n t))) := by
    intro kas xs h
    induction h with
    | nil => exact .nil
    | @cons e q _ _ r _ ih =>
      refine .cons ?_ ih
      obtain ⟨r1, r2, tk, r3⟩ := r
      unfold putAt
      show RE (if e.1 = p then (e.1, e.2.1, n) else e) (if q.1 = encP p then (q.1, q.2.1, .int n t) else q)
      by_cases c : e.1 = p
      · rw [if_pos c, if_pos (by rw [r1, c])]
        exact ⟨r1, r2, t, rfl⟩
      · rw [if_neg c, if_neg (fun z => c (encP_inj (r1.symm.trans z)))]
        exact ⟨r1, r2, tk, r3⟩
  have app : ∀ {kas : List Ent} {xs : List (NestedKey × Addr × Value)}, PX kas xs → PX (kas ++ [(p, a, n)]) (xs ++ [(encP p, a, .int n t)]) := by
    intro kas xs h
    induction h with
    | nil => exact .cons ⟨rfl, rfl, t, rfl⟩ .nil
    | cons r _ ih => exact .cons r ih
  split
  · exact key h
  · exact app h
def DNok (P : Program) (w : World) (d : Addr) (kas : List Ent) (h : Heap) : Prop := (d == sysModules) = false ∧ kas.length ≤ sizeLine ∧ ∃ xs : List (NestedKey × Addr × Value), PX kas xs ∧
  ∃ o es ep, h.get? d = some o ∧ o.ExactDict ∧ o.data = .dict es ep ∧ es.toList = xs.map (entryOfKey (nestedKind P w)) ∧ (xs.map (·.1)).Nodup
def DN (P : Program) (w : World) (d : Addr) (kas : List Ent) : HO := .ext (DNok P w d kas)
theorem dn_ok {P : Program} {w : World} {H : Hp} {h : Heap} {d : Addr} {kas : List Ent} (x : DNok P w d kas h) : ObjOk P w H h d (DN P w d kas) := by
  have ⟨_, _, _, _, o, _, _, ho, _⟩ := x
  refine ⟨x, ⟨o, ho⟩, fun h1 h2 y k => ?_⟩
  obtain ⟨z1, z2, xs, r, o, es, ep, ho, q⟩ := y
  exact ⟨z1, z2, xs, r, o, es, ep, k o ho, q⟩
/-- the keys' own tuples -/
def KeysOn (K : PySem.W.Frag) (H : Hp) (kas : List Ent) : Prop := ∀ e ∈ kas, TD K H (.ref e.2.1) (dP e.1)
theorem KeysOn.up {K : PySem.W.Frag} {H H' : Hp} {kas : List Ent} (h : KeysOn K H kas) (e : KT H H') : KeysOn K H' kas := fun x hx => (h x hx).up e
/-- at d a dict m -/
def DM (K : PySem.W.Frag) (P : Program) (w : World) (H : Hp) (d : Addr) (m : Sm) : Prop := ∃ kas, H d = some (DN P w d kas) ∧ KeysOn K H kas ∧ bare kas = m
def But (d : Addr) (H H' : Hp) : Prop := ∀ b, b ≠ d → H' b = H b
theorem But.upd {H : Hp} {d : Addr} {o : HO} : But d H (upd H d o) := fun _ h => upd_ne h
theorem DM.kt {K : PySem.W.Frag} {P : Program} {w : World} {H H' : Hp} {d : Addr} {m : Sm} (h : DM K P w H d m) (b : But d H H') : KT H H' := by
  obtain ⟨kas, e, _⟩ := h
  refine ⟨fun c xs q => ?_, fun c o u q => ?_⟩
  · rw [b c (ne_of q e (by unfold DN; exact fun z => by cases z))]
    exact q
  · rw [b c (ne_of q e (by unfold DN; exact fun z => by cases z))]
    exact q
theorem DM.up {K : PySem.W.Frag} {P : Program} {w : World} {H H' : Hp} {d : Addr} {m : Sm} (h : DM K P w H d m) (s : Same H H') : DM K P w H' d m := by
  obtain ⟨kas, e, k, r⟩ := h
  exact ⟨kas, s _ _ e, k.up (.of s), r⟩
section
variable {X : Cx} {pins : List (Addr × Obj)} {σ : L2.St} {H : Hp} {s : Shared} {d : Addr} {m : Sm} {kas : List Ent}
theorem dn_full (I : Inv X pins σ H s) (x : DNok X.prog X.w d kas s.heap) (hk : KeysOn X.K H kas) : ∃ xs, PX kas xs ∧ s.heap.DictOfH (nestedKind X.prog X.w) d xs := by
  obtain ⟨z1, z2, xs, r, o, es, ep, ho, q1, q2, q3, q4⟩ := x
  refine ⟨xs, r, o, es, ep, ho, q1, q2, q3, ?_, q4⟩
  have key : ∀ {kas : List Ent} {xs : List (NestedKey × Addr × Value)}, PX kas xs → KeysOn X.K H kas → ∀ y ∈ xs, (nestedKind X.prog X.w).is s.heap y.1 y.2.1 := by
    intro kas xs r
    induction r with
    | nil => intro _ y hy; cases hy
    | @cons e q _ _ r0 _ ih =>
      intro hk y hy
      rcases List.mem_cons.mp hy with e0 | hy
      · obtain ⟨r1, r2, _⟩ := r0
        have h := hk e List.mem_cons_self
        rw [← encP_data] at h
        rw [e0, r1, r2]
        exact h.nkey I (depth_encP _)
      · exact ih (fun z hz => hk z (List.mem_cons_of_mem _ hz)) y hy
  exact key r hk
theorem dm_get (I : Inv X pins σ H s) (h : DM X.K X.prog X.w H d m) : ∃ kas xs, H d = some (DN X.prog X.w d kas) ∧ bare kas = m ∧ (d == sysModules) = false ∧ KeysOn X.K H kas ∧ PX kas xs ∧ s.heap.DictOfH (nestedKind X.prog X.w) d xs ∧ kas.length ≤ sizeLine := by
  obtain ⟨kas, e, hk, hb⟩ := h
  have x := (I.hok d _ e).1
  obtain ⟨xs, r, q⟩ := dn_full I x hk
  exact ⟨kas, xs, e, hb, x.1, hk, r, q, x.2.1⟩
theorem px_len : ∀ {kas : List Ent} {xs : List (NestedKey × Addr × Value)}, PX kas xs → kas.length = xs.length
  | _, _, .nil => rfl
  | _, _, .cons _ t => congrArg (· + 1) (px_len t)
theorem dn_new {h' : Heap} {xs : List (NestedKey × Addr × Value)} (hs : (d == sysModules) = false) (hz : kas.length ≤ sizeLine) (r : PX kas xs) (q : h'.DictOfH (nestedKind X.prog X.w) d xs) : DNok X.prog X.w d kas h' := by
  obtain ⟨o, es, ep, ho, q1, q2, q3, _, q4⟩ := q
  exact ⟨hs, hz, xs, r, o, es, ep, ho, q1, q2, q3, q4⟩
end

/-! ### d[k] = n -/
def rSetN (K : PySem.W.Frag) (P : Program) (w : World) : TSet := fun o i v H Q => ∃ (d b : Addr) (m : Sm) (p : Pow) (n : Int), o = .ref d ∧ i = .ref b ∧ v = .int n ∧ DM K P w H d m ∧ TD K H (.ref b) (dP p) ∧ m.length < sizeLine ∧
  ∀ H', But d H H' → DM K P w H' d (putM m p n) → Q H'
section
variable {X : Cx}
theorem set_N (hu : X.A.units + 64 < cLine) : PSet X (rSetN X.K X.prog X.w) := by
  intro pins s σ H o i v ov iv vv Q I ro ri rv h
  obtain ⟨d, b, m, p, n, rfl, rfl, rfl, hm, hp, hl, q⟩ := h
  cases ro
  cases ri
  obtain ⟨t, rfl⟩ := rv
  obtain ⟨kas, xs, e, hb, hs, hk, r, hd, hz⟩ := dm_get I hm
  have hkey : (nestedKind X.prog X.w).is s.heap (encP p) b := by
    rw [← encP_data] at hp
    exact hp.nkey I (depth_encP _)
  have hlen : xs.length < sizeLine := by
    rw [← px_len r]
    rw [← hb, List.length_map] at hl
    exact hl
  refine wpAny_setItem_heap (knd := nestedKind X.prog X.w) (by show X.A.units + 1 + 8 < cLine; omega) hkey hd (fun h' hd' sb => ?_) (Nat.le_of_lt hlen)
  have r' := PX.put (p := p) (a := b) (n := n) (t := t) r
  have ne : ∀ o, H d = some o → o = DN X.prog X.w d kas := fun o z => by rw [e] at z; exact (Option.some.inj z).symm
  have hz' : (putA kas p b n).length ≤ sizeLine := by
    have h1 := length_putM (bare kas) p n
    rw [← bare_put kas p b n, List.length_map, List.length_map] at h1
    rw [px_len r] at h1
    omega
  have I2 : Inv X pins σ (upd H d (DN X.prog X.w d (putA kas p b n))) { s with heap := h', toks := s.toks + (nestedKind X.prog X.w).draws (encP p) } :=
    d_write I (by rw [e]; exact True.intro) sb (let ⟨o, _, _, ho, _⟩ := hd'; ⟨o, ho⟩) (dn_ok (dn_new hs hz' r' hd'))
  refine ⟨_, I2, q _ But.upd ⟨_, upd_same, fun x hx => ?_, ?_⟩⟩
  · have kt : KT H (upd H d (DN X.prog X.w d (putA kas p b n))) := hm.kt But.upd
    rcases mem_putA hx with ⟨y, hy, e1, e2⟩ | ⟨e1, e2⟩
    · rw [e1, e2]
      exact (hk y hy).up kt
    · rw [e1, e2]
      exact hp.up kt
  · rw [bare_put, hb]
end

/-! ### d.get(k, 0) -/
def tGetN (K : PySem.W.Frag) (P : Program) (w : World) (td ty tx : TE) : TE := fun σ H Q => td σ H fun x H1 => (∃ d m, x = .ref d ∧ DM K P w H1 d m) ∧ ty σ H1 fun y H2 => tx σ H2 fun z H3 => ∃ d b m p, x = .ref d ∧ y = .ref b ∧ z = .int 0 ∧ DM K P w H3 d m ∧ TD K H3 (.ref b) (dP p) ∧ Q (.int (getM m p)) H3
section
variable {X : Cx} {o e f : Expr} {td ty tx : TE} {apos cpos : Pos}
theorem pe_getN (hu : X.A.units + 64 < cLine) (ho : PE X o td) (he : PE X e ty) (hf : PE X f tx) (m : M2 X o "get" apos e f cpos) : PE X (.Call (.Attribute o "get" apos) [e, f] [] cpos) (tGetN X.K X.prog X.w td ty tx) := by
  refine ⟨fun pins s σ H Q I h => ?_⟩
  refine wpAny_Call_method m.base m.few m.line PySem.F.plainAttrs_dict PySem.F.slot_dict_get PySem.F.type_dict_get (thn (ho.run pins s σ H _ I h) fun u s1 ⟨x, H1, I1, rx, ⟨d, m1, ex, hd1⟩, q1⟩ => ?_)
  subst ex
  obtain rfl : u = Value.ref d := rx
  obtain ⟨_, _, _, _, _, _, _, dd1, _⟩ := dm_get I1 hd1
  refine ⟨dd1.typeIs, fun a e2 => ?_, ?_⟩
  · obtain ⟨ob, es, ep, hg, hx, _⟩ := dd1
    cases e2
    exact ⟨ob, hg, hx.2.1⟩
  rw [m.trees]
  refine Calls.callWith_builtin rfl (Calls.evalArgs_plain (Calls.spliced_cons (thn (he.run pins s1 σ H1 _ I1 q1) fun iv s2 ⟨y, H2, I2, ry, q2⟩ =>
    Calls.spliced_cons (thn (hf.run pins s2 σ H2 _ I2 q2) fun fv s3 ⟨z, H3, I3, rz, d', b, mm, p, e1, e2, e3, hm, hp, q3⟩ => Calls.spliced_nil ?_))))
  cases e1
  subst e2
  subst e3
  obtain rfl : iv = Value.ref b := ry
  obtain ⟨t, rfl⟩ := rz
  obtain ⟨kas, xs, e, hb, hs, hk, r, hd, hz⟩ := dm_get I3 hm
  have hkey : (nestedKind X.prog X.w).is s3.heap (encP p) b := by
    rw [← encP_data] at hp
    exact hp.nkey I3 (depth_encP _)
  refine call_meetsIn PySem.F.slot_dict_get hd.typeIs PySem.F.entry_dict_get (PySem.F.args_dict_get_3 _ _ _) (meetsH_dict_get_default (nestedKind X.prog X.w) d b hs (.int 0 t)) ⟨by show X.A.units + 1 + 8 < cLine; omega, encP p, xs, hkey, hd, ?_⟩
  have fin : ∀ u, RelV (.int (getM mm p)) u → EP X pins σ Q u { s3 with toks := s3.toks + (nestedKind X.prog X.w).draws (encP p) } := fun u ru => ⟨_, H3, I3.tok _, ru, q3⟩
  obtain ⟨_, _, f3, f4⟩ := PX.find (p := p) r
  rw [hb] at f3 f4
  cases ha : atKey xs (encP p) with
  | none =>
    refine fin _ ⟨t, ?_⟩
    rw [f3 ha]
    rfl
  | some q =>
    obtain ⟨t', e'⟩ := f4 q ha
    exact fin _ ⟨t', e'⟩
end

/-! ### {k: n} -/
def tDispN (K : PySem.W.Frag) (P : Program) (w : World) (tk tv : TE) : TE := fun σ H Q => ∀ d, H d = none → ∀ H1, But d H H1 → DM K P w H1 d [] → tk σ H1 fun x H2 => tv σ H2 fun y H3 => ∃ b p n, x = .ref b ∧ y = .int n ∧ DM K P w H3 d [] ∧ TD K H3 (.ref b) (dP p) ∧
  ∀ H4, But d H3 H4 → DM K P w H4 d [(p, n)] → Q (.ref d) H4
section
variable {X : Cx} {pos : Pos} {k v : Expr} {tk tv : TE}
theorem dn_empty {P : Program} {w : World} (h : Heap) (hb : sysModules < h.objs.size) : DNok P w h.objs.size [] (h.push { cls := .type "dict", data := .dict #[] }) := by
  refine ⟨beq_eq_false_iff_ne.mpr (Ne.symm (Nat.ne_of_lt hb)), Nat.zero_le _, [], .nil, _, #[], _, Heap.get?_push_size _ rfl, ⟨rfl, rfl, rfl⟩, rfl, rfl, List.nodup_nil⟩
theorem pe_dispN (hu : X.A.units + 64 < cLine) (hk : PE X k tk) (hv : PE X v tv) : PE X (.Dict [some k] [v] pos) (tDispN X.K X.prog X.w tk tv) := by
  refine ⟨fun pins s σ H Q I q => ?_⟩
  have hn := I.hok.fresh (Nat.le_refl s.heap.objs.size)
  have I1 := I.laid (a := s.heap.objs.size) (o := DN X.prog X.w s.heap.objs.size []) (h' := s.heap.push { cls := .type "dict", data := .dict #[] }) (t' := s.toks) (fun _ _ q => Heap.get?_push_of_some _ q) (Nat.le_refl _) (dn_ok (dn_empty s.heap I.big))
  have q1 := q _ hn _ But.upd ⟨[], upd_same, (fun x hx => by cases hx), rfl⟩
  have hpp : PPs X pos [some k] [v] [(tk, tv)] := pps_cons hk hv pps_nil
  have run := hpp.run pins _ σ _ (fun ps H3 => match ps with
    | [(x, y)] => ∃ b p n, x = .ref b ∧ y = .int n ∧ DM X.K X.prog X.w H3 s.heap.objs.size [] ∧ TD X.K H3 (.ref b) (dP p) ∧ ∀ H4, But s.heap.objs.size H3 H4 → DM X.K X.prog X.w H4 s.heap.objs.size [(p, n)] → Q (.ref s.heap.objs.size) H4
    | _ => False) I1 q1
  obtain ⟨pairs, hpe⟩ : ∃ pairs, pairs = pairTrees [some k] [v] X.env pos := ⟨_, rfl⟩
  have hlen : pairs.length = 1 := by rw [hpe]; rfl
  have hshape : (evalEachOpt [some k] X.env).zip ((evalEach [v] X.env).map fun v => do let x ← v; standAt pos; pure x) = pairs.map fun p => (some p.1, p.2) := by rw [hpe]; rfl
  rw [arm_eval_Dict, hshape, dictDisplay_pairs pairs (fun z => by rw [z] at hlen; cases hlen) (by omega)]
  refine wpAny_bind (wpAny_standAt (wpAny_bind (wpAny_subDictH (knd := nestedKind X.prog X.w) (show X.A.units + 8 < cLine by omega) (by omega) ?_)))
  rw [hpe]
  refine thn run fun ws s2 ⟨ps, H3, I3, rel, q3⟩ => ?_
  cases rel with
  | nil => exact q3.elim
  | @cons xy pr _ _ r0 t0 =>
    cases t0 with
    | cons _ _ => exact q3.elim
    | nil =>
    obtain ⟨x, y⟩ := xy
    obtain ⟨b, p, n, ex, ey, hm, hp, q3⟩ := q3
    subst ex
    subst ey
    obtain ⟨r1, r2⟩ := r0
    obtain ⟨w1, w2⟩ := pr
    obtain rfl : w1 = Value.ref b := r1
    obtain ⟨t, e2⟩ := r2
    subst e2
    obtain ⟨kas, xs, e, hb, hs, hk', r, hd, hz⟩ := dm_get I3 hm
    have hka : kas = [] := List.map_eq_nil_iff.mp hb
    subst hka
    cases r
    have hkey : (nestedKind X.prog X.w).is s2.heap (encP p) b := by
      rw [← encP_data] at hp
      exact hp.nkey I3 (depth_encP _)
    refine ⟨[(encP p, b, .int n t)], ⟨rfl, rfl, hkey, True.intro⟩, hd, fun h' tk hd' sb => wpAny_pure ?_⟩
    have r' : PX [(p, b, n)] (storedAllH [] [(encP p, b, Value.int n t)]) := .cons ⟨rfl, rfl, t, rfl⟩ .nil
    refine ⟨.ref s.heap.objs.size, upd H3 s.heap.objs.size (DN X.prog X.w s.heap.objs.size [(p, b, n)]), d_write I3 (by rw [e]; exact True.intro) sb (let ⟨o, _, _, ho, _⟩ := hd'; ⟨o, ho⟩) (dn_ok (dn_new hs (show 1 ≤ sizeLine by rw [sizeLine_eq]; decide) r' hd')), rfl, q3 _ But.upd ⟨_, upd_same, fun z hz => ?_, rfl⟩⟩
    rw [List.mem_singleton.mp hz]
    exact hp.up (hm.kt But.upd)
end
end Nk


/-! dict(pairs); d.items() walked; sorted(d.items()). -/
namespace Nk
open PySem PySem.Spec PyProof.Rows L2

/-! ### dict(pairs) -/
section
variable {X : Cx} {pins : List (Addr × Obj)} {σ : L2.St} {H : Hp} {s : Shared}
abbrev PrIs {β : Type} (K : PySem.W.Frag) (H : Hp) (h : Heap) (kd : β → PyData) (n : β → Int) (b : β) (p : Addr × Value × Value) : Prop := PairAt h p.1 p.2.1 p.2.2 ∧ (∃ x, RelV x p.2.1 ∧ TD K H x (kd b)) ∧ ∃ t, p.2.2 = .int (n b) t
theorem prs_of {β : Type} {kd : β → PyData} {n : β → Int} (I : Inv X pins σ H s) : ∀ {bs : List β} {xs : List V} {us : List Value}, TDs X.K H xs (bs.map fun b => .tuple [kd b, .int (n b)]) → Vals xs us →
    ∃ L : List (Addr × Value × Value), us = L.map (fun p => Value.ref p.1) ∧ Paired (PrIs X.K H s.heap kd n) bs L
  | [], _, _, h, r => by
    cases h
    cases r
    exact ⟨[], rfl, .nil⟩
  | b :: bs, _, _, h, r => by
    cases h with
    | cons h1 h2 =>
      cases r with
      | cons r1 r2 =>
        obtain ⟨L, e1, e2⟩ := prs_of I h2 r2
        obtain ⟨a, ys, rfl, hs, hd⟩ := h1.tupInv
        cases r1
        obtain ⟨v, u, rfl, hv, hu⟩ := hd.two
        cases hu
        obtain ⟨its, rv, ⟨o, nn, ho, hc, _, hq⟩, _⟩ := Inv.plain I hs
        obtain ⟨w1, w2, rfl, q1, q2⟩ := vals2 rv
        obtain ⟨t, rfl⟩ := q2
        refine ⟨(a, w1, .int (n b) t) :: L, by rw [List.map_cons, e1], .cons ⟨.inl ⟨o, ho, hc, nn, hq⟩, ⟨_, q1, hv⟩, t, rfl⟩ e2⟩
theorem items_of {β : Type} {kd : β → PyData} {n : β → Int} {bs : List β} {L : List (Addr × Value × Value)} {us : List Value} (e : us = L.map (fun p => Value.ref p.1)) (r : Paired (PrIs X.K H s.heap kd n) bs L) :
    PairItems s.heap us.toArray (fun j => (L[j]?.map (·.1)).getD 0) (L.map (·.2)) := by
  subst e
  refine ⟨by simp, fun j k v hj => ?_⟩
  rw [List.getElem?_map] at hj
  cases hL : L[j]? with
  | none => rw [hL] at hj; cases hj
  | some p =>
    rw [hL] at hj
    cases p with
    | mk a kv =>
      cases hj
      obtain ⟨b, hb, q⟩ : ∃ b, b ∈ bs ∧ PrIs X.K H s.heap kd n b (a, k, v) := by
        induction r generalizing j with
        | nil => simp at hL
        | cons r0 _ ih =>
          cases j with
          | zero =>
            cases hL
            exact ⟨_, List.mem_cons_self, r0⟩
          | succ j =>
            obtain ⟨b, hb, q⟩ := ih j (by simpa using hL)
            exact ⟨b, List.mem_cons_of_mem _ hb, q⟩
      refine ⟨by simp [hL], ?_⟩
      show PairAt s.heap ((L[j]?.map (·.1)).getD 0) k v
      rw [hL]
      exact q.1
end
theorem keys_px : ∀ {kas : List Ent} {xs : List (NestedKey × Addr × Value)}, PX kas xs → xs.map (·.1) = (bare kas).map fun e => encP e.1
  | _, _, .nil => rfl
  | _, _, .cons r t => by
    rw [List.map_cons, keys_px t, r.1]
    rfl
theorem nodup_enc {s : Sm} (h : (s.map (·.1)).Nodup) : (s.map fun e => encP e.1).Nodup := by
  have e : s.map (fun e => encP e.1) = (s.map (·.1)).map encP := by rw [List.map_map]; rfl
  rw [e]
  unfold List.Nodup at h ⊢
  rw [List.pairwise_map]
  exact h.imp fun {a b} h1 h2 => h1 (encP_inj h2)
/-- dict(s) of a sum -/
def rDictN (K : PySem.W.Frag) (P : Program) (w : World) : List V → Hp → VK → Prop := fun vs H Q => ∃ (a : Addr) (m : Sm), vs = [.ref a] ∧ TD K H (.ref a) (dS m) ∧ (m.map (·.1)).Nodup ∧
  ∀ d H', H d = none → But d H H' → DM K P w H' d m → Q (.ref d) H'
section
variable {X : Cx}
theorem cr_dictN (hc : X.calm = true) (hu : X.A.units + 64 < cLine) : CallR X (.type "dict") (rDictN X.K X.prog X.w) := by
  intro pins s σ H vs us Q I r h
  obtain ⟨a, m, rfl, hm, hnd, q⟩ := h
  rw [Vals.ref1 r]
  obtain ⟨a', xs, ea, hs, hd⟩ := hm.tupInv
  cases ea
  obtain ⟨its, rv, pl, hz⟩ := Inv.plain I hs
  obtain ⟨L, e1, rp⟩ := prs_of (kd := fun e : Pow × Int => dP e.1) (n := fun e => e.2) I hd rv
  obtain ⟨kas, ps, r1, r2, r3, r4⟩ : ∃ (kas : List Ent) (ps : List (NestedKey × Addr × Value)), PX kas ps ∧ bare kas = m ∧ ps.map (fun x => (Value.ref x.2.1, x.2.2)) = L.map (·.2) ∧ KeysOn X.K H kas := by
    clear e1 hd hm hnd q
    induction rp with
    | nil => exact ⟨[], [], .nil, rfl, rfl, fun _ hx => (by cases hx)⟩
    | @cons b p _ _ r0 _ ih =>
      obtain ⟨kas, ps, i1, i2, i3, i4⟩ := ih
      obtain ⟨_, ⟨x, q1, q2⟩, t, q3⟩ := r0
      obtain ⟨ka, ys, ex, _⟩ := TD.tupInv (q2 : TD X.K H x (.tuple (b.1.map dF)))
      subst ex
      obtain ⟨pa, pk, pv⟩ := p
      cases q1
      cases q3
      refine ⟨(b.1, ka, b.2) :: kas, (encP b.1, ka, .int b.2 t) :: ps, .cons ⟨rfl, rfl, t, rfl⟩ i1, by rw [← i2]; rfl, by rw [List.map_cons, List.map_cons, i3], fun z hz => ?_⟩
      rcases List.mem_cons.mp hz with e | hz
      · rw [e]
        exact q2
      · exact i4 z hz
  have hlen : L.length = its.length := by rw [e1, List.length_map]
  have hpl : ps.length = L.length := by
    have := congrArg List.length r3
    simpa using this
  have hkn : (ps.map (·.1)).Nodup := by
    rw [keys_px r1, r2]
    exact nodup_enc hnd
  have hz' : L.length ≤ sizeLine := by rw [hlen, ← rv.length]; exact hz
  have hn : H s.heap.objs.size = none := I.hok.fresh (Nat.le_refl _)
  refine call_dict_pairsH (knd := nestedKind X.prog X.w) (ps := ps) (PairArg.tuple a its.toArray (fun j => (L[j]?.map (·.1)).getD 0) (L.map (·.2))) (I.ok.hd hc) (show X.A.units + 1 + 1 + 8 < cLine by omega) ⟨pl, items_of e1 rp⟩ ⟨by rw [List.length_map, hpl], fun i key v hi => ?_⟩ (fun h' kp x hx => ?_) (by rw [List.length_map]; exact hz') fun h' tk hd' kp => ?_
  · have hi : (L.map (·.2))[i]? = some (key, v) := hi
    rw [← r3, List.getElem?_map] at hi
    cases hp : ps[i]? with
    | none => rw [hp] at hi; cases hi
    | some x =>
      rw [hp] at hi
      obtain ⟨k, b, v'⟩ := x
      cases hi
      exact ⟨k, b, rfl, rfl⟩
  · obtain ⟨y, hy, e2, e3⟩ : ∃ y ∈ kas, x.1 = encP y.1 ∧ x.2.1 = y.2.1 := by
      clear hpl hkn r3
      clear r2 r4
      induction r1 with
      | nil => cases hx
      | cons r0 _ ih =>
        rcases List.mem_cons.mp hx with e | hx
        · rw [e]
          exact ⟨_, List.mem_cons_self, r0.1, r0.2.1⟩
        · obtain ⟨y, hy, e⟩ := ih hx
          exact ⟨y, List.mem_cons_of_mem _ hy, e⟩
    have t := r4 y hy
    rw [← encP_data] at t
    rw [e2, e3]
    exact nestedKind_stays.stays (fun b o _ _ e _ => kp b o (Nat.ne_of_lt (Heap.lt_size e)) (fun z => nomatch z) e) (t.nkey I (depth_encP _))
  · rw [storedAllH_nil_of_nodup ps hkn] at hd'
    have hsz : kas.length ≤ sizeLine := by rw [px_len r1, hpl]; exact hz'
    refine ⟨.ref s.heap.objs.size, upd H s.heap.objs.size (DN X.prog X.w s.heap.objs.size kas), I.laid (t' := tk) (fun b o e => kp b o (fun z => nomatch z) e) (Nat.le_refl _) (dn_ok (dn_new (beq_eq_false_iff_ne.mpr (Nat.ne_of_gt I.big)) hsz r1 hd')), rfl, q _ _ hn But.upd ⟨kas, upd_same, r4.up (KT.new hn _), r2⟩⟩
end

/-! ### dicts from texts to ints -/
abbrev entS (f : Str × Int) : L2.Key × V := (Sum.inr f.1, .int f.2)
/-- dict(p) of the powers of a product -/
def rDictS (K : PySem.W.Frag) : List V → Hp → VK → Prop := fun vs H Q => ∃ (a : Addr) (m : Pow), vs = [.ref a] ∧ TD K H (.ref a) (dP m) ∧ (m.map (·.1)).Nodup ∧
  ∀ d, H d = none → Q (.ref d) (upd H d (.dK (m.map entS)))
section
variable {X : Cx}
theorem cr_dictS (hc : X.calm = true) : CallR X (.type "dict") (rDictS X.K) := by
  intro pins s σ H vs us Q I r h
  obtain ⟨a, m, rfl, hm, hnd, q⟩ := h
  rw [Vals.ref1 r]
  obtain ⟨a', xs, ea, hs, hd⟩ := hm.tupInv
  cases ea
  obtain ⟨its, rv, pl, hz⟩ := Inv.plain I hs
  obtain ⟨L, e1, rp⟩ := prs_of (kd := fun e : Str × Int => .str e.1) (n := fun e => e.2) I hd rv
  obtain ⟨ps, r1, r2, r3⟩ : ∃ (ps : List (L2.Key × Value)), KV (m.map entS) ps ∧ ps.map (·.1) = m.map (fun f => (Sum.inr f.1 : L2.Key)) ∧ Paired (fun (x : L2.Key × Value) (p : Addr × Value × Value) => x.2 = p.2.2 ∧ (mixKind X.prog X.w).is x.1 p.2.1 = true) ps L := by
    clear e1 hd hm hnd q
    induction rp with
    | nil => exact ⟨[], .nil, rfl, .nil⟩
    | @cons b p _ _ r0 _ ih =>
      obtain ⟨ps, i1, i2, i3⟩ := ih
      obtain ⟨_, ⟨x, q1, q2⟩, t, q3⟩ := r0
      cases q2.strInv
      refine ⟨(Sum.inr b.1, p.2.2) :: ps, .cons ⟨rfl, t, q3⟩ i1, by rw [List.map_cons, List.map_cons, i2], .cons ⟨rfl, kV_is (k := Sum.inr b.1) q1⟩ i3⟩
  have hlen : L.length = its.length := by rw [e1, List.length_map]
  have hpl : ps.length = L.length := Paired.length r3
  have hkn : (ps.map (·.1)).Nodup := by
    rw [r2]
    have e : m.map (fun f => (Sum.inr f.1 : L2.Key)) = (m.map (·.1)).map Sum.inr := by rw [List.map_map]; rfl
    rw [e]
    unfold List.Nodup at hnd ⊢
    rw [List.pairwise_map]
    exact hnd.imp fun {a b} h1 h2 => h1 (Sum.inr.inj h2)
  have hz' : L.length ≤ sizeLine := by rw [hlen, ← rv.length]; exact hz
  have hn : H s.heap.objs.size = none := I.hok.fresh (Nat.le_refl _)
  refine call_dict_pairs (knd := mixKind X.prog X.w) (kvs := ps) (PairArg.tuple a its.toArray (fun j => (L[j]?.map (·.1)).getD 0) (L.map (·.2))) (I.ok.hd hc) ⟨pl, items_of e1 rp⟩ ⟨by rw [List.length_map, hpl], fun i key v hi => ?_⟩ (by rw [List.length_map]; exact hz') fun h' tk hd' kp => ?_
  · have hi : (L.map (·.2))[i]? = some (key, v) := hi
    rw [List.getElem?_map] at hi
    cases hp : L[i]? with
    | none => rw [hp] at hi; cases hi
    | some x =>
      rw [hp] at hi
      obtain ⟨b, k, v'⟩ := x
      cases hi
      obtain ⟨y, hy, e2, e3⟩ := L2.DX.pget r3 hp
      obtain ⟨y1, y2⟩ := y
      cases e2
      exact ⟨y1, hy, e3⟩
  · rw [merged_nil_of_nodup ps hkn] at hd'
    have hsz : (m.map entS).length ≤ sizeLine := by rw [Paired.length r1, hpl]; exact hz'
    exact ⟨.ref s.heap.objs.size, upd H s.heap.objs.size (.dK (m.map entS)), I.laid (t' := tk) (fun b o e => kp b o (fun z => nomatch z) e) (Nat.le_refl _) (show ObjOk X.prog X.w _ _ _ (.dK (m.map entS)) from ⟨hsz, beq_eq_false_iff_ne.mpr (Nat.ne_of_gt I.big), ps, r1, hd'⟩), rfl, q _ hn⟩
end

/-! ### for powers, times in d.items() -/
def ItN (P : Program) (w : World) (d : Addr) (o : Obj) (kas : List Ent) : It :=
  ⟨fun i H => H d = some (.frz o (DN P w d kas)) ∧ i < kas.length, fun i H x H' => ∃ T e, kas[i]? = some e ∧ x = .ref T ∧ H T = none ∧ H' = upd H T (.tup [.ref e.2.1, .int e.2.2]), fun i H => H d = some (.frz o (DN P w d kas)) ∧ kas.length ≤ i⟩
theorem walk_itemsN {P : Program} {w : World} {d : Addr} {o : Obj} {kas : List Ent} : Walk (ItN P w d o kas) kas.length (fun H => H d = some (.frz o (DN P w d kas)))
    (fun i H x H' => ∃ T e, kas[i]? = some e ∧ x = .ref T ∧ H T = none ∧ H' = upd H T (.tup [.ref e.2.1, .int e.2.2])) :=
  ⟨fun _ _ hi q => ⟨q, hi⟩, fun _ q => ⟨q, Nat.le_refl _⟩, fun _ _ _ _ _ _ y => y⟩
section
variable {X : Cx} {pins : List (Addr × Obj)} {σ : L2.St} {H : Hp} {s : Shared} {d : Addr} {o : Obj} {kas : List Ent}
theorem frzN (I : Inv X pins σ H s) (h : H d = some (.frz o (DN X.prog X.w d kas))) :
    (d == sysModules) = false ∧ s.heap.get? d = some o ∧ ∃ (es : Array DictEntry) (ep : Nat), o.data = .dict es ep ∧ DT.Raw s.heap d es ep ∧ es.size = kas.length ∧
      ∀ (i : Nat) (e : Ent) (hi : i < es.size), kas[i]? = some e → es[i].key = .ref e.2.1 ∧ RelV (.int e.2.2) es[i].val := by
  obtain ⟨hd, ⟨hs, hz, xs, r, o', es, ep, ho, hx, hdt, hes, _⟩, _⟩ := I.hok d _ h
  rw [hd] at ho
  cases ho
  have l1 : es.size = xs.length := by rw [← Array.length_toList, hes, List.length_map]
  refine ⟨hs, hd, es, ep, hdt, ⟨o, hd, hx, hdt⟩, by rw [l1, px_len r], fun i e hi he => ?_⟩
  have q : es[i]? = (xs[i]?).map (entryOfKey (nestedKind X.prog X.w)) := by
    rw [← Array.getElem?_toList, hes, List.getElem?_map]
  rw [Array.getElem?_eq_getElem hi] at q
  obtain ⟨x, hx, r1, r2, t, r3⟩ := paired_get r he
  rw [hx] at q
  have q' : es[i] = entryOfKey (nestedKind X.prog X.w) x := Option.some.inj q
  rw [q']
  exact ⟨by show Value.ref x.2.1 = _; rw [r2], t, r3⟩
end
section
variable {P : Program} {w : World} {K : PySem.W.Frag} {d : Addr} {o : Obj} {es : Array DictEntry} {ep : Nat}
theorem turn_itemsN {kas : List Ent} {elts : List Expr} {kk : Nat} {tpos : Pos} (it : Addr) (hod : o.data = .dict es ep) :
    Turn P w K (.Tuple elts kk tpos) (ItN P w d o kas) [it] it (fun i h => ∃ ok ov, IsItemIter h it d i kas.length ep ok ov) where
  mem := by simp
  obj := fun i h st b hb => by
    have e : b = it := by simpa using hb
    subst e
    obtain ⟨ok, ov, e⟩ := st
    exact ⟨_, e, fun v z => nomatch z⟩
  keep := fun i h h' st k => let ⟨ok, ov, e⟩ := st; ⟨ok, ov, k it (by simp) _ e⟩
  item := by
    intro X hP hw hK hc i pins s σ H E I hf st hg
    subst hP hw hK
    obtain ⟨hd, hi⟩ := hg
    obtain ⟨hs, hgd, es', ep', hdt, raw, hsz, hen⟩ := frzN I hd
    obtain ⟨rfl, rfl⟩ := dict_ep hod hdt
    obtain ⟨e, he⟩ : ∃ p, kas[i]? = some p := ⟨kas[i], List.getElem?_eq_getElem hi⟩
    have hi' : i < es'.size := by omega
    obtain ⟨hk1, hk2⟩ := hen i e hi' he
    obtain ⟨ok, ov, hit⟩ := st
    rw [← hsz] at hit
    have hlt : it < s.heap.objs.size := Heap.lt_size hit
    refine DT.nextI hit raw hi' fun h' ho hT hz hk => ?_
    refine ⟨_, rfl, wpAny_letOwnedTupleGo_items (s := { s with heap := h' }) ho fun h'' he' sb => ?_⟩
    have hT2 : h''.get? s.heap.objs.size = some { cls := .type "tuple", data := .seq #[es'[i].key, es'[i].val] } := (sb.2 _ (Nat.ne_of_gt hlt)).trans hT
    have new : ObjOk X.prog X.w (upd H s.heap.objs.size (.tup [.ref e.2.1, .int e.2.2])) h'' s.heap.objs.size (.tup [.ref e.2.1, .int e.2.2]) :=
      ⟨by show 2 ≤ sizeLine; decide, [es'[i].key, es'[i].val], .cons hk1 (.cons hk2 .nil), ⟨_, hT2, rfl, _, rfl⟩⟩
    have I1 : Inv X pins σ (upd H s.heap.objs.size (.tup [.ref e.2.1, .int e.2.2])) { s with heap := h'' } :=
      I.turnedNew (t' := s.toks) (ch := [it]) (fun b ob hb e => (sb.2 b (by simpa using hb)).trans (hk b ob (by simpa using hb) e)) hf (Nat.le_refl _) new
    refine ⟨.ref s.heap.objs.size, _, I1, rfl, ⟨_, e, he, rfl, I.hok.fresh (Nat.le_refl _), rfl⟩, ⟨es'[i].key, es'[i].val, ?_⟩, fun b hb => ?_⟩
    · rw [← hsz]; exact he'
    · have e : b = it := by simpa using hb
      rw [e, upd_ne (Nat.ne_of_lt hlt)]
      exact (hf it (by simp)).1
  done := by
    intro X hP hw hK hc i pins s σ H E I hf st hg
    subst hP hw hK
    obtain ⟨hd, hi⟩ := hg
    obtain ⟨f0, f1, f2, f3, f4, f5⟩ := hf it (by simp)
    obtain ⟨hs, hgd, es', ep', hdt, raw, hsz, hen⟩ := frzN I hd
    obtain ⟨rfl, rfl⟩ := dict_ep hod hdt
    obtain ⟨ok, ov, hit⟩ := st
    rw [← hsz] at hit
    exact DT.endI (I.ok.hd hc) hit raw (by omega) fun h' eb => ⟨rfl, I.turned (t' := s.toks) (fun b ob hb e => eb b ob hb e) f0 f1 f3 f4 f5⟩
  self := fun A i s Q E st h => by
    obtain ⟨ok, ov, hit⟩ := st
    exact wpAny_pyIter_itemiter hit h
end
def iItemsN (P : Program) (w : World) (td : TE) : TI := fun σ H R => td σ H fun x H1 => ∃ d o kas, x = .ref d ∧ H1 d = some (.frz o (DN P w d kas)) ∧ R (ItN P w d o kas) H1
section
variable {X : Cx} {e : Expr} {td : TE} {apos cpos : Pos}
theorem pi_itemsN {elts : List Expr} {kk : Nat} {tpos : Pos} (he : PE X e td) (hbase : attributeBase e "items" X.env (eval e X.env) = eval e X.env := by rfl) (hline : (apos.endLine == cpos.line) = true := by rfl) :
    PI X (.Tuple elts kk tpos) (.Call (.Attribute e "items" apos) [] [] cpos) (iItemsN X.prog X.w td) := by
  refine ⟨fun pins s σ H R I h => ?_⟩
  refine wpAny_Call_method (T := "dict") (id := "dict.items") hbase rfl hline F.plainAttrs_dict F.slot_dict_items F.type_dict_items (thn (he.run pins s σ H _ I h) fun u s1 ⟨x, H1, I1, rx, d, o, kas, ex, hd, q⟩ => ?_)
  subst ex
  obtain rfl : u = Value.ref d := rx
  obtain ⟨hs, hgd, es, ep, hdt, raw, hsz, hen⟩ := frzN I1 hd
  refine ⟨raw.typeIs, fun a z => ?_, ?_⟩
  · cases z
    obtain ⟨ob, hg, hx, _⟩ := raw
    exact ⟨ob, hg, hx.2.1⟩
  have I2 : Inv X pins σ H1 { s1 with heap := s1.heap.push { cls := .type "dict_items", data := .fields #[.ref d] } } := I1.kept (t' := s1.toks) fun b ob q => Heap.get?_push_of_some _ q
  have fin : wpAny (model X.prog X.w) X.A (pyIter (.ref s1.heap.objs.size)) (PIE X pins σ (.Tuple elts kk tpos) R) X.xe { s1 with heap := s1.heap.push { cls := .type "dict_items", data := .fields #[.ref d] } } := by
    refine DT.iterI (d := d) ⟨_, Heap.get?_push_size _ rfl, rfl, rfl⟩ (raw.push _) (pi_one (tk := s1.toks) I2 _ (turn_itemsN _ hdt) ⟨.none, .none, ?_⟩ q)
    rw [← hsz]
    exact Heap.get?_push_size _ rfl
  show wpAny _ _ (callWith cpos (.builtin "dict.items") [.ref d] [] []) _ X.xe s1
  exact method_meetsIn F.slot_dict_items F.entry_dict_items rfl (PySem.evalArgs_none ⟨rfl, raw.typeIs, F.args_dict_items_1 _, _, DT.meetsItems (es := es) (ep := ep) hs, ⟨raw, fin⟩⟩)
end

/-! ### {} -/
def tDNewN (K : PySem.W.Frag) (P : Program) (w : World) : TE := fun _ H Q => ∀ d H', H d = none → But d H H' → DM K P w H' d [] → Q (.ref d) H'
theorem pe_dnewN {X : Cx} {pos : Pos} : PE X (.Dict [] [] pos) (tDNewN X.K X.prog X.w) := ⟨fun pins s σ H Q I h =>
  wpAny_Dict_empty ⟨.ref s.heap.objs.size, upd H s.heap.objs.size (DN X.prog X.w s.heap.objs.size []), I.laid (a := s.heap.objs.size) (t' := s.toks) (fun _ _ q => Heap.get?_push_of_some _ q) (Nat.le_refl _) (dn_ok (dn_empty s.heap I.big)), rfl,
    h _ _ (I.hok.fresh (Nat.le_refl _)) But.upd ⟨[], upd_same, (fun x hx => by cases hx), rfl⟩⟩⟩

/-! ### sorted(d.items()), texts to ints -/
def rItemsS : V → List V → Hp → VK → Prop := fun x xs H Q => ∃ (a : Addr) (kvs : List (L2.Key × V)), x = .ref a ∧ xs = [] ∧ H a = some (.dK kvs) ∧ ∀ p, H p = none → Q (.ref p) (upd H p (L2.DX.itemsO p a))
theorem mt_itemsS {X : Cx} : MtR X "dict.items" rItemsS := by
  intro pins s σ H x xs v us Q I rx rxs h
  obtain ⟨a, kvs, rfl, rfl, ha, q⟩ := h
  cases rx
  cases rxs
  obtain ⟨z, hd, vs, r, o, es, ep, ho, hx, hdat, _⟩ := dk_of I.hok ha
  refine DT.callItems (es := es) (ep := ep) hd ⟨o, ho, hx, hdat⟩ ?_
  have hf : H s.heap.objs.size = none := I.hok.fresh (Nat.le_refl _)
  exact ⟨.ref s.heap.objs.size, upd H s.heap.objs.size (L2.DX.itemsO s.heap.objs.size a), I.laid (t' := s.toks) (fun b u e => Heap.get?_push_of_some _ e) (Nat.le_refl _) (L2.DX.itemsO_ok (Heap.get?_push_size _ rfl)), rfl, q _ hf⟩

theorem paired_ix {α β : Type} {R : α → β → Prop} : ∀ {l1 : List α} {l2 : List β}, l1.length = l2.length → (∀ (j : Nat) (a : α) (b : β), l1[j]? = some a → l2[j]? = some b → R a b) → Paired R l1 l2
  | [], [], _, _ => .nil
  | [], _ :: _, h, _ => by simp at h
  | _ :: _, [], h, _ => by simp at h
  | a :: l1, b :: l2, h, r => .cons (r 0 a b rfl rfl) (paired_ix (by simpa using h) fun j a' b' h1 h2 => r (j + 1) a' b' (by simpa using h1) (by simpa using h2))
def TkIs (lo : Addr) (h' : Heap) (f : Str × Int) (a : Addr) : Prop := lo ≤ a ∧ ∃ us, Vals [V.str f.1, .int f.2] us ∧ h'.get? a = some { cls := .type "tuple", data := .seq us.toArray }
theorem takeP {X : Cx} {pins : List (Addr × Obj)} {σ : L2.St} {H0 : Hp} {s : Shared} {h' : Heap} {tk : Nat} (I0 : Inv X pins σ H0 s) : ∀ (m : Pow) (L : List Addr) (H1 : Hp), Inv X pins σ H1 { s with heap := h', toks := tk } → L.Nodup → (∀ a ∈ L, H1 a = none) →
    Paired (TkIs s.heap.objs.size h') m L → ∃ H2, Inv X pins σ H2 { s with heap := h', toks := tk } ∧ Same H1 H2 ∧ TDs X.K H2 (L.map V.ref) (m.map dF)
  | [], _, H1, I1, _, _, h => by
    cases h
    exact ⟨H1, I1, fun _ _ e => e, .nil⟩
  | f :: m, _, H1, I1, hn, hnone, h => by
    cases h with
    | @cons _ a _ L r t =>
      obtain ⟨hb, us, rv, ho⟩ := r
      have hna := hnone a List.mem_cons_self
      have new : ∀ H2, ObjOk X.prog X.w H2 h' a (.frz { cls := .type "tuple", data := .seq us.toArray } (.tup [V.str f.1, .int f.2])) := fun H2 => isP_ok rv (by show 2 ≤ sizeLine; decide) ho
      have I2 : Inv X pins σ (upd H1 a (.frz { cls := .type "tuple", data := .seq us.toArray } (.tup [V.str f.1, .int f.2]))) { s with heap := h', toks := tk } :=
        I1.take (h' := h') (t' := tk) (fun b ob _ e => e) (I0.fpOk hb hna) (new _)
      rw [List.nodup_cons] at hn
      obtain ⟨H2, I3, g, q⟩ := takeP I0 m L _ I2 hn.2 (fun c hc => by
        rw [upd_ne (fun z => hn.1 (by rw [← z]; exact hc))]
        exact hnone c (List.mem_cons_of_mem _ hc)) t
      have sm : Same H1 H2 := fun b o e => g b o (by rw [upd_ne (ne_of_none e hna)]; exact e)
      exact ⟨H2, I3, sm, .cons (.tup (.inl ⟨_, g _ _ upd_same, _, rfl, rfl⟩) (.cons (.str _) (.cons (.int _) .nil))) q⟩
/-- sorted(d.items()) -/
def rSortIt (K : PySem.W.Frag) : List V → Hp → VK → Prop := fun vs H Q => ∃ (p a : Addr) (m : Pow), vs = [.ref p] ∧ H p = some (L2.DX.itemsO p a) ∧ H a = some (.dK (m.map entS)) ∧ Srt1 dF m ∧
  ∀ H' l ys, Same H H' → H' l = some (.lst ys) → TDs K H' ys ((m.mergeSort (PySem.W.dataLe false dF)).map dF) → Q (.ref l) H'
section
variable {X : Cx}
theorem cr_sortIt (hc : X.calm = true) (hu : X.A.units + 64 < cLine) : CallR X (.builtin "sorted") (rSortIt X.K) := by
  intro pins s σ H xs us Q I r h
  obtain ⟨p, a, m, rfl, hp, ha, S, q⟩ := h
  rw [Vals.ref1 r]
  have view : s.heap.IsItemsView p a := (show ObjOk X.prog X.w H s.heap p (L2.DX.itemsO p a) from I.hok p _ hp).1
  obtain ⟨z, hd, vs, rel, o, es, ep, ho, hx, hdat, hes, hkv, hn⟩ := dk_of I.hok ha
  have hh : X.A.handled = none := I.ok.hd hc
  have l1 : (m.map entS).length = vs.length := Paired.length rel
  have l2 : es.toList.length = vs.length := hkv.length
  rw [Array.length_toList] at l2
  rw [List.length_map] at l1 z
  refine DT.sortedI (es := es) (ep := ep) hh view ⟨o, ho, hx, hdat⟩ (by omega) fun h' tk as hk hlt hl hG => ?_
  have nd : as.Nodup := List.Pairwise.imp (fun h => Nat.ne_of_lt h) hG.rise
  have I1 : Inv X pins σ H { s with heap := h', toks := tk } := I.kept (t' := tk) hk
  have tks : Paired (TkIs s.heap.objs.size h') m as := paired_ix (by omega) fun j f b hj hb => by
    obtain ⟨e, he, hg⟩ := hG.pairs j b hb
    obtain ⟨kv, hv, e1, e2⟩ := paired_get rel (show (m.map entS)[j]? = some (entS f) by rw [List.getElem?_map, hj]; rfl)
    obtain ⟨k, v⟩ := kv
    cases e1
    obtain ⟨q1, q2⟩ := hkv.get? (i := j) (e := e) (k := Sum.inr f.1) (v := v) (by rw [Array.getElem?_toList]; exact he) hv
    refine ⟨Nat.le_of_lt (hG.above b (List.mem_of_getElem? hb)), [e.key, e.val], .cons (relV_key (k := Sum.inr f.1) q1) (.cons (by rw [q2]; exact e2) .nil), hg⟩
  obtain ⟨H2, I2, sm, td⟩ := takeP I m as H I1 nd (fun c hc' => I.hok.fresh (Nat.le_of_lt (hG.above c hc'))) tks
  have rv : Vals (as.map V.ref) (as.map Value.ref) := vals_maps V.ref Value.ref as fun _ _ => rfl
  have e := each_st (X := X) rv td
  have hz2 : (as.map Value.ref).length ≤ sizeLine := by rw [List.length_map]; omega
  refine sort_call (s := { s with heap := h', toks := tk }) e (each_rd I2 e) S hz2 (by show X.A.units + 1 + 32 < cLine; omega) fun out h2 c ho2 eo kp hD => ?_
  obtain ⟨ys, r2, h2'⟩ := st_back (X := X) eo
  have hlen : ys.length ≤ sizeLine := by rw [r2.length, ho2]; exact hz2
  have hn2 : H2 h'.objs.size = none := I2.hok.fresh (Nat.le_refl _)
  have J : Inv X pins σ (upd H2 h'.objs.size (.lst ys)) { s with heap := h2, toks := tk } :=
    I2.laid (a := h'.objs.size) (t' := tk) kp (Nat.le_refl _) ⟨hlen, out, c, r2, hD⟩
  exact ⟨.ref h'.objs.size, _, J, rfl, q _ _ ys (fun b o e => same_new hn2 _ b o (sm b o e)) upd_same (h2'.up (KT.new hn2 _))⟩
end
end Nk


/-! The plain laws: what the program's functions compute, and that it answers as the law says. -/
namespace Nk
open PySem PySem.Spec PyProof.Rows L2

/-! ### dicts as lists -/
section
variable {κ : Type} [DecidableEq κ]
def getG (m : List (κ × Int)) (k : κ) : Int := ((m.find? fun e => decide (e.1 = k)).map (·.2)).getD 0
def putG (m : List (κ × Int)) (k : κ) (n : Int) : List (κ × Int) := if m.any (fun e => decide (e.1 = k)) = true then m.map (fun e => if e.1 = k then (e.1, n) else e) else m ++ [(k, n)]
def sumG (g : κ → Int) : List (κ × Int) → Int
  | [] => 0
  | e :: m => e.2 * g e.1 + sumG g m
def prodG (g : κ → Int) : List (κ × Int) → Int
  | [] => 1
  | e :: m => g e.1 ^ e.2.toNat * prodG g m
theorem getG_cons (e : κ × Int) (m : List (κ × Int)) (k : κ) : getG (e :: m) k = if e.1 = k then e.2 else getG m k := by
  unfold getG
  by_cases h : e.1 = k
  · rw [List.find?_cons_of_pos (by rw [decide_eq_true_eq]; exact h), if_pos h]
    rfl
  · rw [List.find?_cons_of_neg (by rw [decide_eq_true_eq]; exact h), if_neg h]
theorem getG_none {m : List (κ × Int)} {k : κ} (h : k ∉ m.map (·.1)) : getG m k = 0 := by
  induction m with
  | nil => rfl
  | cons e m ih =>
    rw [List.map_cons, List.mem_cons, not_or] at h
    rw [getG_cons, if_neg (fun z => h.1 z.symm), ih h.2]
theorem getG_mem {m : List (κ × Int)} (hn : (m.map (·.1)).Nodup) {e : κ × Int} (h : e ∈ m) : getG m e.1 = e.2 := by
  induction m with
  | nil => cases h
  | cons f m ih =>
    rw [List.map_cons, List.nodup_cons] at hn
    rw [getG_cons]
    rcases List.mem_cons.mp h with z | h
    · rw [z, if_pos rfl]
    · rw [if_neg (fun z => hn.1 (by rw [z]; exact List.mem_map.mpr ⟨e, h, rfl⟩)), ih hn.2 h]
theorem any_key {m : List (κ × Int)} {k : κ} : m.any (fun e => decide (e.1 = k)) = true ↔ k ∈ m.map (·.1) := by
  rw [List.any_eq_true, List.mem_map]
  constructor
  · rintro ⟨e, he, h⟩
    exact ⟨e, he, of_decide_eq_true h⟩
  · rintro ⟨e, he, h⟩
    exact ⟨e, he, decide_eq_true h⟩
theorem keys_map (m : List (κ × Int)) (k : κ) (n : Int) : (m.map fun e => if e.1 = k then (e.1, n) else e).map (·.1) = m.map (·.1) := by
  rw [List.map_map]
  refine List.map_congr_left fun e _ => ?_
  show (if e.1 = k then (e.1, n) else e).1 = e.1
  split <;> rfl
theorem putG_nodup {m : List (κ × Int)} (hn : (m.map (·.1)).Nodup) (k : κ) (n : Int) : ((putG m k n).map (·.1)).Nodup := by
  unfold putG
  by_cases h : m.any (fun e => decide (e.1 = k)) = true
  · rw [if_pos h, keys_map]
    exact hn
  · rw [if_neg h, List.map_append, List.nodup_append]
    refine ⟨hn, by simp, fun a ha b hb z => h (any_key.mpr ?_)⟩
    have : b = k := by simpa using hb
    rw [← this, ← z]
    exact ha
theorem mem_putG {m : List (κ × Int)} {k : κ} {n : Int} {e : κ × Int} (h : e ∈ putG m k n) : e = (k, n) ∨ (e ∈ m ∧ e.1 ≠ k) := by
  unfold putG at h
  by_cases c : m.any (fun e => decide (e.1 = k)) = true
  · rw [if_pos c] at h
    obtain ⟨f, hf, z⟩ := List.mem_map.mp h
    by_cases q : f.1 = k
    · rw [if_pos q, q] at z
      exact .inl z.symm
    · rw [if_neg q] at z
      rw [← z]
      exact .inr ⟨hf, q⟩
  · rw [if_neg c] at h
    rcases List.mem_append.mp h with h | h
    · exact .inr ⟨h, fun z => c (any_key.mpr (by rw [← z]; exact List.mem_map.mpr ⟨e, h, rfl⟩))⟩
    · exact .inl (by simpa using h)
theorem map_off {m : List (κ × Int)} {k : κ} {n : Int} (h : k ∉ m.map (·.1)) : m.map (fun e => if e.1 = k then (e.1, n) else e) = m := by
  conv => rhs; rw [← List.map_id m]
  refine List.map_congr_left fun e he => ?_
  rw [if_neg (fun z => h (by rw [← z]; exact List.mem_map.mpr ⟨e, he, rfl⟩))]
  rfl
theorem sumG_append (g : κ → Int) : ∀ a b : List (κ × Int), sumG g (a ++ b) = sumG g a + sumG g b
  | [], b => by show sumG g b = 0 + _; omega
  | e :: a, b => by
    show e.2 * g e.1 + sumG g (a ++ b) = e.2 * g e.1 + sumG g a + _
    rw [sumG_append g a b]
    omega
theorem prodG_append (g : κ → Int) : ∀ a b : List (κ × Int), prodG g (a ++ b) = prodG g a * prodG g b
  | [], b => by show prodG g b = 1 * _; rw [Int.one_mul]
  | e :: a, b => by
    show _ * prodG g (a ++ b) = _ * prodG g a * _
    rw [prodG_append g a b, Int.mul_assoc]
theorem sumG_put (g : κ → Int) {m : List (κ × Int)} (hn : (m.map (·.1)).Nodup) (k : κ) (n : Int) : sumG g (putG m k (getG m k + n)) = sumG g m + n * g k := by
  unfold putG
  by_cases h : m.any (fun e => decide (e.1 = k)) = true
  · rw [if_pos h]
    have hk := any_key.mp h
    clear h
    induction m with
    | nil => simp at hk
    | cons e m ih =>
      rw [List.map_cons, List.nodup_cons] at hn
      rw [getG_cons, List.map_cons]
      by_cases c : e.1 = k
      · rw [if_pos c, if_pos c, map_off (by rw [← c]; exact hn.1)]
        show (e.2 + n) * g e.1 + sumG g m = e.2 * g e.1 + sumG g m + n * g k
        rw [c, Int.add_mul]
        omega
      · rw [if_neg c, if_neg c]
        show e.2 * g e.1 + sumG g _ = e.2 * g e.1 + sumG g m + n * g k
        have hk' : k ∈ m.map (·.1) := by
          rw [List.map_cons] at hk
          exact (List.mem_cons.mp hk).resolve_left fun z => c z.symm
        rw [ih hn.2 hk']
        omega
  · rw [if_neg h, getG_none (fun z => h (any_key.mpr z)), sumG_append]
    show sumG g m + ((0 + n) * g k + 0) = _
    rw [Int.zero_add]
    omega
theorem prodG_put (g : κ → Int) {m : List (κ × Int)} (hn : (m.map (·.1)).Nodup) (hp : ∀ e ∈ m, 0 ≤ e.2) (k : κ) {n : Int} (h0 : 0 ≤ n) : prodG g (putG m k (getG m k + n)) = prodG g m * g k ^ n.toNat := by
  unfold putG
  by_cases h : m.any (fun e => decide (e.1 = k)) = true
  · rw [if_pos h]
    have hk := any_key.mp h
    clear h
    induction m with
    | nil => simp at hk
    | cons e m ih =>
      rw [List.map_cons, List.nodup_cons] at hn
      rw [getG_cons, List.map_cons]
      have he := hp e List.mem_cons_self
      by_cases c : e.1 = k
      · rw [if_pos c, if_pos c, map_off (by rw [← c]; exact hn.1)]
        show g e.1 ^ (e.2 + n).toNat * prodG g m = g e.1 ^ e.2.toNat * prodG g m * g k ^ n.toNat
        rw [c, Int.toNat_add he h0, Int.pow_add, Int.mul_assoc, Int.mul_assoc, Int.mul_comm (g k ^ n.toNat)]
      · rw [if_neg c, if_neg c]
        show g e.1 ^ e.2.toNat * prodG g _ = g e.1 ^ e.2.toNat * prodG g m * g k ^ n.toNat
        have hk' : k ∈ m.map (·.1) := by
          rw [List.map_cons] at hk
          exact (List.mem_cons.mp hk).resolve_left fun z => c z.symm
        rw [ih hn.2 (fun f hf => hp f (List.mem_cons_of_mem _ hf)) hk', Int.mul_assoc]
  · rw [if_neg h, getG_none (fun z => h (any_key.mpr z)), prodG_append]
    show prodG g m * (g k ^ (0 + n).toNat * 1) = _
    rw [Int.zero_add, Int.mul_one]
theorem getG_nonneg {m : List (κ × Int)} (h : ∀ e ∈ m, 0 ≤ e.2) (k : κ) : 0 ≤ getG m k := by
  induction m with
  | nil => exact Int.le_refl _
  | cons e m ih =>
    rw [getG_cons]
    split
    · exact h e List.mem_cons_self
    · exact ih fun f hf => h f (List.mem_cons_of_mem _ hf)
theorem sumG_perm (g : κ → Int) {a b : List (κ × Int)} (h : a.Perm b) : sumG g a = sumG g b := by
  induction h with
  | nil => rfl
  | cons x _ ih => show _ + _ = _ + _; rw [ih]
  | swap x y l =>
    show y.2 * g y.1 + (x.2 * g x.1 + sumG g l) = x.2 * g x.1 + (y.2 * g y.1 + sumG g l)
    omega
  | trans _ _ i j => exact i.trans j
theorem prodG_perm (g : κ → Int) {a b : List (κ × Int)} (h : a.Perm b) : prodG g a = prodG g b := by
  induction h with
  | nil => rfl
  | cons x _ ih => show _ * _ = _ * _; rw [ih]
  | swap x y l =>
    show g y.1 ^ y.2.toNat * (g x.1 ^ x.2.toNat * prodG g l) = g x.1 ^ x.2.toNat * (g y.1 ^ y.2.toNat * prodG g l)
    rw [← Int.mul_assoc, ← Int.mul_assoc, Int.mul_comm (g y.1 ^ y.2.toNat)]
  | trans _ _ i j => exact i.trans j
theorem sumG_filter (g : κ → Int) {a : List (κ × Int)} (h : ∀ e ∈ a, 0 ≤ e.2) : sumG g (a.filter fun e => decide (0 < e.2)) = sumG g a := by
  induction a with
  | nil => rfl
  | cons e a ih =>
    have ih := ih fun f hf => h f (List.mem_cons_of_mem _ hf)
    have he := h e List.mem_cons_self
    by_cases c : 0 < e.2
    · rw [List.filter_cons_of_pos (by rw [decide_eq_true_eq]; exact c)]
      show _ + _ = _ + _
      rw [ih]
    · rw [List.filter_cons_of_neg (by rw [decide_eq_true_eq]; exact c), ih]
      have e0 : e.2 = 0 := by omega
      show _ = e.2 * _ + _
      rw [e0, Int.zero_mul, Int.zero_add]
end
theorem getM_eq (m : Sm) (p : Pow) : getM m p = getG m p := rfl
theorem putM_eq (m : Sm) (p : Pow) (n : Int) : putM m p n = putG m p n := rfl

/-! ### the order -/
abbrev leF := PySem.W.dataLe false dF
abbrev leT := PySem.W.dataLe false dT
abbrev leS := PySem.W.dataLe false PyData.str
theorem tot {β : Type} (enc : β → PyData) : PySem.W.TotalLe (PySem.W.dataLe false enc) := PySem.W.sortLe_total _ _ _
theorem toks_anti {β : Type} {enc : β → PyData} {a b : β} (h1 : PySem.W.dataLe false enc a b = true) (h2 : PySem.W.dataLe false enc b a = true) : PySem.W.keyToks (enc a) = PySem.W.keyToks (enc b) := by
  have h1 : (!PyProof.Rows.lexLt PyProof.Rows.itemOrd (PySem.W.keyToks (enc b)) (PySem.W.keyToks (enc a))) = true := h1
  have h2 : (!PyProof.Rows.lexLt PyProof.Rows.itemOrd (PySem.W.keyToks (enc a)) (PySem.W.keyToks (enc b))) = true := h2
  rw [Bool.not_eq_true'] at h1 h2
  exact PyProof.Rows.lex_total _ _ h2 h1
theorem toks_str {x y : Str} (h : PySem.W.keyToks (.str x) = PySem.W.keyToks (.str y)) : x = y := by
  simp only [PySem.W.keyToks, List.cons.injEq, Sum.inr.injEq, and_true] at h
  exact PySem.W.str_of_cps h
theorem toks_dFe (f : Str × Int) : PySem.W.keyToks (dF f) = [.inl 1, .inr f.1.cps.toList, .inl 1, .inl f.2, .inl 0] := by
  simp [dF, PySem.W.keyToks, PySem.W.keyToksAll]
theorem toks_dF {f g : Str × Int} (h : PySem.W.keyToks (dF f) = PySem.W.keyToks (dF g)) : f = g := by
  rw [toks_dFe, toks_dFe] at h
  simp only [List.cons.injEq, Sum.inr.injEq, Sum.inl.injEq, and_true, true_and] at h
  exact Prod.ext (PySem.W.str_of_cps h.1) h.2
theorem toks_dFs : ∀ {p q : Pow} {l m : List (Int ⊕ List Nat)}, PySem.W.keyToksAll (p.map dF) ++ l = PySem.W.keyToksAll (q.map dF) ++ m → p = q ∧ l = m
  | [], [], _, _, h => by
    simp only [List.map_nil, PySem.W.keyToksAll, List.cons_append, List.nil_append, List.cons.injEq, true_and] at h
    exact ⟨rfl, h⟩
  | [], g :: q, _, _, h => by
    simp [PySem.W.keyToksAll] at h
  | f :: p, [], _, _, h => by
    simp [PySem.W.keyToksAll] at h
  | f :: p, g :: q, l, m, h => by
    rw [List.map_cons, List.map_cons, PySem.W.toks_all_cons, PySem.W.toks_all_cons, toks_dFe, toks_dFe] at h
    simp only [List.cons_append, List.nil_append, List.append_assoc, List.cons.injEq, Sum.inr.injEq, Sum.inl.injEq, true_and] at h
    obtain ⟨h1, h2, h3⟩ := h
    obtain ⟨h4, h5⟩ := toks_dFs h3
    rw [h4]
    exact ⟨by rw [show f = g from Prod.ext (PySem.W.str_of_cps h1) h2], h5⟩
theorem toks_dT {a b : Pow × Int} (h : PySem.W.keyToks (dT a) = PySem.W.keyToks (dT b)) : a = b := by
  obtain ⟨p, n⟩ := a
  obtain ⟨q, m⟩ := b
  simp only [dT, dP, PySem.W.keyToks, PySem.W.toks_all_cons, PySem.W.keyToksAll, List.cons.injEq, true_and] at h
  obtain ⟨h1, h2⟩ := toks_dFs h
  simp at h2
  rw [h1, h2]
/-- a row in order is what it comes to, however it is mixed -/
theorem sort_self {β : Type} {enc : β → PyData} (inj : ∀ {a b : β}, PySem.W.keyToks (enc a) = PySem.W.keyToks (enc b) → a = b) {l m : List β} (h : l.Pairwise fun a b => PySem.W.dataLe false enc a b = true) (p : m.Perm l) : m.mergeSort (PySem.W.dataLe false enc) = l :=
  List.Perm.eq_of_pairwise (fun a b _ _ h1 h2 => inj (toks_anti h1 h2)) (PySem.W.sort_pairwise (tot enc) m) h ((List.mergeSort_perm _ _).trans p)

/-! ### the program's own -/
def summed (m : Sm) : Sm := (m.filter fun e => decide (0 < e.2)).mergeSort leT
structure Len where
  n : Int
  p : Pow
def ofLengthM (L : Len) : Sm := L.p.foldl (fun m f => putG m [(f.1, 1)] f.2) [([], L.n)]
def ofLength (L : Len) : Sm := summed (ofLengthM L)
def together (s t : Sm) : Sm := summed (t.foldl (fun m e => putG m e.1 (getG m e.1 + e.2)) s)
def powsM (a b : Pow) : Pow := b.foldl (fun m f => putG m f.1 (getG m f.1 + f.2)) a
def pows (a b : Pow) : Pow := (powsM a b).mergeSort leF
def prodRow (one : Pow) (times : Int) (m : Sm) (t : Sm) : Sm := t.foldl (fun m e => putG m (pows one e.1) (getG m (pows one e.1) + times * e.2)) m
def prodM (s t : Sm) : Sm := s.foldl (fun m e => prodRow e.1 e.2 m t) []
def product (s t : Sm) : Sm := summed (prodM s t)
inductive Kd where
  | whole : Kd
  | place : Len → Kd
  | row : Len → Kd → Kd
  | pair : Kd → Kd → Kd
def oneS : Sm := [([], 1)]
def weight : Kd → Sm
  | .whole => oneS
  | .place _ => oneS
  | .row L k => product (ofLength L) (weight k)
  | .pair k j => together (weight k) (weight j)
abbrev mono (ν : Str → Int) (p : Pow) : Int := prodG ν p
abbrev ev (ν : Str → Int) (s : Sm) : Int := sumG (mono ν) s
def worth (ν : Str → Int) (L : Len) : Int := L.n + sumG ν L.p
def count (ν : Str → Int) : Kd → Int
  | .whole => 1
  | .place _ => 1
  | .row L k => worth ν L * count ν k
  | .pair k j => count ν k + count ν j
theorem ev_cons (ν : Str → Int) (e : Pow × Int) (t : Sm) : ev ν (e :: t) = e.2 * mono ν e.1 + ev ν t := rfl
abbrev degP (p : Pow) : Int := sumG (fun _ => 1) p
structure GoodP (N : List Str) (D : Int) (p : Pow) : Prop where
  nod : (p.map (·.1)).Nodup
  srt : p.Pairwise fun a b => leF a b = true
  pos : ∀ f ∈ p, 1 ≤ f.2 ∧ f.1 ∈ N
  deg : degP p ≤ D
structure GoodS (N : List Str) (D : Int) (s : Sm) : Prop where
  nod : (s.map (·.1)).Nodup
  srt : s.Pairwise fun a b => leT a b = true
  pos : ∀ e ∈ s, 1 ≤ e.2 ∧ GoodP N D e.1
/-- while a sum is made -/
structure Pre (N : List Str) (D : Int) (s : Sm) : Prop where
  nod : (s.map (·.1)).Nodup
  pos : ∀ e ∈ s, 0 ≤ e.2 ∧ GoodP N D e.1
section
variable {N : List Str} {D E : Int} {ν : Str → Int}
theorem GoodP.up {p : Pow} (h : GoodP N D p) (d : D ≤ E) : GoodP N E p := ⟨h.nod, h.srt, h.pos, Int.le_trans h.deg d⟩
theorem GoodS.up {s : Sm} (h : GoodS N D s) (d : D ≤ E) : GoodS N E s := ⟨h.nod, h.srt, fun e he => ⟨(h.pos e he).1, (h.pos e he).2.up d⟩⟩
theorem GoodS.pre {s : Sm} (h : GoodS N D s) : Pre N D s := ⟨h.nod, fun e he => ⟨by have := (h.pos e he).1; omega, (h.pos e he).2⟩⟩
theorem Pre.put {s : Sm} (h : Pre N D s) {p : Pow} {n : Int} (hp : GoodP N D p) (h0 : 0 ≤ n) : Pre N D (putG s p n) := by
  refine ⟨putG_nodup h.nod _ _, fun e he => ?_⟩
  rcases mem_putG he with rfl | ⟨he, _⟩
  · exact ⟨h0, hp⟩
  · exact h.pos e he
theorem Pre.nn {s : Sm} (h : Pre N D s) : ∀ e ∈ s, 0 ≤ e.2 := fun e he => (h.pos e he).1
theorem Pre.add {s : Sm} (h : Pre N D s) {p : Pow} {n : Int} (hp : GoodP N D p) (h0 : 0 ≤ n) : Pre N D (putG s p (getG s p + n)) ∧ ev ν (putG s p (getG s p + n)) = ev ν s + n * mono ν p :=
  ⟨h.put hp (by have := getG_nonneg h.nn p; omega), sumG_put _ h.nod _ _⟩
theorem summed_good {s : Sm} (h : Pre N D s) : GoodS N D (summed s) ∧ ev ν (summed s) = ev ν s := by
  have pm : (summed s).Perm (s.filter fun e => decide (0 < e.2)) := List.mergeSort_perm _ _
  refine ⟨⟨?_, PySem.W.sort_pairwise (tot dT) _, fun e he => ?_⟩, (sumG_perm _ pm).trans (sumG_filter _ h.nn)⟩
  · rw [(pm.map (·.1)).nodup_iff]
    exact (List.filter_sublist.map _).nodup h.nod
  · obtain ⟨he, hc⟩ := List.mem_filter.mp (pm.mem_iff.mp he)
    have := of_decide_eq_true hc
    exact ⟨by omega, (h.pos e he).2⟩
theorem good_nil (hD : 0 ≤ D) : GoodP N D [] := ⟨List.nodup_nil, .nil, fun _ h => (by cases h), hD⟩
theorem good_one {x : Str} (hx : x ∈ N) (hD : 1 ≤ D) : GoodP N D [(x, 1)] :=
  ⟨by simp, List.pairwise_singleton _ _, fun f hf => by rw [List.mem_singleton.mp hf]; exact ⟨Int.le_refl _, hx⟩, by show (1 : Int) * 1 + 0 ≤ D; omega⟩
/-- the lengths of the law -/
structure LenOk (N : List Str) (L : Len) : Prop where
  n0 : 0 ≤ L.n
  n3 : L.n ≤ 3
  nod : (L.p.map (·.1)).Nodup
  pos : ∀ f ∈ L.p, 1 ≤ f.2 ∧ f.2 ≤ 3 ∧ f.1 ∈ N
theorem ofLen_run {L : Len} : ∀ (r : Pow) (m : Sm), Pre N 1 m → (∀ e ∈ m, e.2 ≤ 3) → (r.map (·.1)).Nodup → (∀ f ∈ r, 1 ≤ f.2 ∧ f.2 ≤ 3 ∧ f.1 ∈ N) → (∀ f ∈ r, [(f.1, (1 : Int))] ∉ m.map (·.1)) →
    Pre N 1 (r.foldl (fun m f => putG m [(f.1, 1)] f.2) m) ∧ (∀ e ∈ r.foldl (fun m f => putG m [(f.1, 1)] f.2) m, e.2 ≤ 3) ∧ ev ν (r.foldl (fun m f => putG m [(f.1, 1)] f.2) m) = ev ν m + sumG ν r
  | [], m, h, h3, _, _, _ => ⟨h, h3, (Int.add_zero _).symm⟩
  | f :: r, m, h, h3, hn, hp, hf => by
    rw [List.map_cons, List.nodup_cons] at hn
    obtain ⟨p1, p2, p3⟩ := hp f List.mem_cons_self
    have g0 : getG m [(f.1, (1 : Int))] = 0 := getG_none (hf f List.mem_cons_self)
    obtain ⟨q1, q2⟩ := h.add (ν := ν) (good_one p3 (Int.le_refl 1)) (n := f.2) (by omega)
    rw [g0, Int.zero_add] at q1 q2
    obtain ⟨i1, i2, i3⟩ := ofLen_run (L := L) r (putG m [(f.1, 1)] f.2) q1 (fun e he => by
      rcases mem_putG he with rfl | ⟨he, _⟩
      · exact p2
      · exact h3 e he) hn.2 (fun g hg => hp g (List.mem_cons_of_mem _ hg)) (fun g hg hm => by
        obtain ⟨e, he, z⟩ := List.mem_map.mp hm
        rcases mem_putG he with rfl | ⟨he, _⟩
        · have z' : f.1 = g.1 := by
            have := congrArg (List.map Prod.fst) z
            simpa using this
          exact hn.1 (by rw [z']; exact List.mem_map.mpr ⟨g, hg, rfl⟩)
        · exact hf g (List.mem_cons_of_mem _ hg) (List.mem_map.mpr ⟨e, he, z⟩))
    refine ⟨i1, i2, ?_⟩
    rw [List.foldl_cons, i3, q2]
    show _ + f.2 * (ν f.1 ^ (1 : Int).toNat * 1) + _ = _ + (f.2 * ν f.1 + _)
    rw [Int.mul_one, show (1 : Int).toNat = 1 from rfl, Int.pow_succ, Int.pow_zero, Int.one_mul]
    omega
theorem ofLengthM_good {L : Len} (h : LenOk N L) : Pre N 1 (ofLengthM L) ∧ (∀ e ∈ ofLengthM L, e.2 ≤ 3) ∧ ev ν (ofLengthM L) = worth ν L := by
  obtain ⟨i1, i2, i3⟩ := ofLen_run (ν := ν) (L := L) L.p [([], L.n)] ⟨by simp, fun e he => by rw [List.mem_singleton.mp he]; exact ⟨h.n0, good_nil (by omega)⟩⟩
    (fun e he => by rw [List.mem_singleton.mp he]; exact h.n3) h.nod h.pos (fun f _ => by simp)
  refine ⟨i1, i2, ?_⟩
  unfold ofLengthM
  rw [i3]
  show L.n * 1 + 0 + _ = L.n + _
  omega
theorem mem_summed {m : Sm} {e : Pow × Int} (h : e ∈ summed m) : e ∈ m := (List.mem_filter.mp ((List.mergeSort_perm _ _).mem_iff.mp h)).1
theorem ofLength_good {L : Len} (h : LenOk N L) : GoodS N 1 (ofLength L) ∧ (∀ e ∈ ofLength L, e.2 ≤ 3) ∧ ev ν (ofLength L) = worth ν L := by
  obtain ⟨i1, i2, i3⟩ := ofLengthM_good (ν := ν) h
  obtain ⟨j1, j2⟩ := summed_good (ν := ν) i1
  exact ⟨j1, fun e he => i2 e (mem_summed he), j2.trans i3⟩
theorem adds_good : ∀ (t m : Sm), Pre N D m → (∀ e ∈ t, 1 ≤ e.2 ∧ GoodP N D e.1) →
    Pre N D (t.foldl (fun m e => putG m e.1 (getG m e.1 + e.2)) m) ∧ ev ν (t.foldl (fun m e => putG m e.1 (getG m e.1 + e.2)) m) = ev ν m + ev ν t
  | [], m, h, _ => ⟨h, (Int.add_zero _).symm⟩
  | e :: t, m, h, ht => by
    obtain ⟨p1, p2⟩ := ht e List.mem_cons_self
    obtain ⟨q1, q2⟩ := h.add (ν := ν) p2 (n := e.2) (by omega)
    obtain ⟨i1, i2⟩ := adds_good t _ q1 fun f hf => ht f (List.mem_cons_of_mem _ hf)
    refine ⟨i1, ?_⟩
    rw [List.foldl_cons, i2, q2, ev_cons]
    omega
theorem together_good {s t : Sm} (hs : GoodS N D s) (ht : GoodS N D t) : GoodS N D (together s t) ∧ ev ν (together s t) = ev ν s + ev ν t := by
  obtain ⟨i1, i2⟩ := adds_good (ν := ν) t s hs.pre ht.pos
  obtain ⟨j1, j2⟩ := summed_good (ν := ν) i1
  exact ⟨j1, j2.trans i2⟩
/-- while powers are put together -/
structure PreP (N : List Str) (D : Int) (p : Pow) : Prop where
  nod : (p.map (·.1)).Nodup
  pos : ∀ f ∈ p, 1 ≤ f.2 ∧ f.1 ∈ N
  deg : degP p ≤ D
theorem powsM_good : ∀ (b a : Pow) (D : Int), PreP N D a → (∀ f ∈ b, 1 ≤ f.2 ∧ f.1 ∈ N) → PreP N (D + degP b) (powsM a b) ∧ mono ν (powsM a b) = mono ν a * mono ν b
  | [], a, D, h, _ => ⟨⟨h.nod, h.pos, by have := h.deg; show _ ≤ _ + (0 : Int); exact (by omega : degP a ≤ D + 0)⟩, by show _ = _ * (1 : Int); rw [Int.mul_one]; rfl⟩
  | f :: b, a, D, h, hb => by
    obtain ⟨p1, p2⟩ := hb f List.mem_cons_self
    have nn : ∀ e ∈ a, 0 ≤ e.2 := fun e he => by have := (h.pos e he).1; omega
    have g0 := getG_nonneg nn f.1
    have h' : PreP N (D + f.2) (putG a f.1 (getG a f.1 + f.2)) := by
      refine ⟨putG_nodup h.nod _ _, fun e he => ?_, ?_⟩
      · rcases mem_putG he with rfl | ⟨he, _⟩
        · exact ⟨by show 1 ≤ _ + _; omega, p2⟩
        · exact h.pos e he
      · have e : degP (putG a f.1 (getG a f.1 + f.2)) = degP a + f.2 * 1 := sumG_put (fun _ : Str => (1 : Int)) h.nod f.1 f.2
        have z := h.deg
        rw [e]
        omega
    obtain ⟨i1, i2⟩ := powsM_good b _ (D + f.2) h' fun g hg => hb g (List.mem_cons_of_mem _ hg)
    have e : powsM a (f :: b) = powsM (putG a f.1 (getG a f.1 + f.2)) b := rfl
    rw [e]
    refine ⟨⟨i1.nod, i1.pos, ?_⟩, ?_⟩
    · have := i1.deg
      have z : degP (f :: b) = f.2 * 1 + degP b := rfl
      rw [z]
      omega
    · rw [i2]
      have e := prodG_put ν h.nod nn f.1 (n := f.2) (by omega)
      rw [show mono ν (putG a f.1 (getG a f.1 + f.2)) = _ from e, Int.mul_assoc]
      rfl
theorem pows_good {a b : Pow} (ha : GoodP N D a) (hb : GoodP N E b) : GoodP N (D + E) (pows a b) ∧ mono ν (pows a b) = mono ν a * mono ν b := by
  obtain ⟨i1, i2⟩ := powsM_good (ν := ν) b a D ⟨ha.nod, ha.pos, ha.deg⟩ hb.pos
  have pm : (pows a b).Perm (powsM a b) := List.mergeSort_perm _ _
  refine ⟨⟨?_, PySem.W.sort_pairwise (tot dF) _, fun f hf => i1.pos f (pm.mem_iff.mp hf), ?_⟩, (prodG_perm _ pm).trans i2⟩
  · rw [(pm.map (·.1)).nodup_iff]
    exact i1.nod
  · have h1 := i1.deg
    have h2 := hb.deg
    have e : degP (pows a b) = degP (powsM a b) := sumG_perm _ pm
    rw [e]
    omega
theorem prodRow_good {one : Pow} {times : Int} (ho : GoodP N D one) (h1 : 1 ≤ times) : ∀ (t m : Sm), Pre N (D + E) m → (∀ e ∈ t, 1 ≤ e.2 ∧ GoodP N E e.1) →
    Pre N (D + E) (prodRow one times m t) ∧ ev ν (prodRow one times m t) = ev ν m + times * mono ν one * ev ν t
  | [], m, h, _ => ⟨h, by show ev ν m = _ + _ * (0 : Int); rw [Int.mul_zero]; omega⟩
  | e :: t, m, h, ht => by
    obtain ⟨p1, p2⟩ := ht e List.mem_cons_self
    obtain ⟨g1, g2⟩ := pows_good (ν := ν) ho p2
    have hm : 0 ≤ times * e.2 := Int.mul_nonneg (by omega) (by omega)
    obtain ⟨q1, q2⟩ := h.add (ν := ν) g1 hm
    obtain ⟨i1, i2⟩ := prodRow_good ho h1 t _ q1 fun f hf => ht f (List.mem_cons_of_mem _ hf)
    refine ⟨i1, ?_⟩
    have e1 : prodRow one times m (e :: t) = prodRow one times (putG m (pows one e.1) (getG m (pows one e.1) + times * e.2)) t := rfl
    rw [e1, i2, q2, g2]
    rw [ev_cons, Int.mul_add, show times * e.2 * (mono ν one * mono ν e.1) = times * mono ν one * (e.2 * mono ν e.1) from by
      rw [Int.mul_assoc, Int.mul_assoc, Int.mul_left_comm e.2]]
    omega
theorem prodM_good {t : Sm} (ht : ∀ e ∈ t, 1 ≤ e.2 ∧ GoodP N E e.1) : ∀ (s m : Sm), Pre N (D + E) m → (∀ e ∈ s, 1 ≤ e.2 ∧ GoodP N D e.1) →
    Pre N (D + E) (s.foldl (fun m e => prodRow e.1 e.2 m t) m) ∧ ev ν (s.foldl (fun m e => prodRow e.1 e.2 m t) m) = ev ν m + ev ν s * ev ν t
  | [], m, h, _ => ⟨h, by show ev ν m = _ + (0 : Int) * _; rw [Int.zero_mul]; omega⟩
  | e :: s, m, h, hs => by
    obtain ⟨p1, p2⟩ := hs e List.mem_cons_self
    obtain ⟨q1, q2⟩ := prodRow_good (ν := ν) p2 p1 t m h ht
    obtain ⟨i1, i2⟩ := prodM_good ht s _ q1 fun f hf => hs f (List.mem_cons_of_mem _ hf)
    refine ⟨i1, ?_⟩
    rw [List.foldl_cons, i2, q2]
    show _ = _ + (e.2 * mono ν e.1 + ev ν s) * _
    rw [Int.add_mul]
    omega
theorem product_good {s t : Sm} (hs : GoodS N D s) (ht : GoodS N E t) : GoodS N (D + E) (product s t) ∧ ev ν (product s t) = ev ν s * ev ν t := by
  obtain ⟨i1, i2⟩ := prodM_good (ν := ν) (D := D) ht.pos s [] ⟨List.nodup_nil, fun _ h => by cases h⟩ hs.pos
  obtain ⟨j1, j2⟩ := summed_good (ν := ν) i1
  refine ⟨j1, j2.trans (i2.trans ?_)⟩
  show (0 : Int) + _ = _
  omega
end

/-! ### kinds -/
def KdOk (N : List Str) : Kd → Prop
  | .whole => True
  | .place L => LenOk N L
  | .row L k => LenOk N L ∧ KdOk N k
  | .pair k j => KdOk N k ∧ KdOk N j
def rows : Kd → Int
  | .whole => 0
  | .place _ => 0
  | .row _ k => 1 + rows k
  | .pair k j => rows k + rows j
def size : Kd → Int
  | .whole => 1
  | .place _ => 1
  | .row _ k => size k + 1
  | .pair k j => size k + size j + 1
theorem rows_nn : ∀ k : Kd, 0 ≤ rows k
  | .whole => Int.le_refl _
  | .place _ => Int.le_refl _
  | .row _ k => by have := rows_nn k; show 0 ≤ 1 + rows k; omega
  | .pair k j => by have := rows_nn k; have := rows_nn j; show 0 ≤ rows k + rows j; omega
theorem rows_size : ∀ k : Kd, rows k + 1 ≤ size k
  | .whole => by show (0 : Int) + 1 ≤ 1; omega
  | .place _ => by show (0 : Int) + 1 ≤ 1; omega
  | .row _ k => by have := rows_size k; show 1 + rows k + 1 ≤ size k + 1; omega
  | .pair k j => by have := rows_size k; have := rows_size j; show rows k + rows j + 1 ≤ size k + size j + 1; omega
theorem oneS_good {N : List Str} : GoodS N 0 oneS :=
  ⟨by simp [oneS], List.pairwise_singleton _ _, fun e he => by rw [List.mem_singleton.mp he]; exact ⟨Int.le_refl _, good_nil (Int.le_refl _)⟩⟩
theorem weight_good {N : List Str} {ν : Str → Int} : ∀ k : Kd, KdOk N k → GoodS N (rows k) (weight k) ∧ ev ν (weight k) = count ν k
  | .whole, _ => ⟨oneS_good, rfl⟩
  | .place _, _ => ⟨oneS_good, rfl⟩
  | .row L k, h => by
    obtain ⟨i1, _, i2⟩ := ofLength_good (ν := ν) h.1
    obtain ⟨j1, j2⟩ := weight_good (ν := ν) k h.2
    obtain ⟨k1, k2⟩ := product_good (ν := ν) i1 j1
    refine ⟨k1, ?_⟩
    show ev ν (product _ _) = worth ν L * count ν k
    rw [k2, i2, j2]
  | .pair k j, h => by
    obtain ⟨i1, i2⟩ := weight_good (ν := ν) k h.1
    obtain ⟨j1, j2⟩ := weight_good (ν := ν) j h.2
    have := rows_nn k
    have := rows_nn j
    obtain ⟨k1, k2⟩ := together_good (ν := ν) (i1.up (show rows k ≤ rows k + rows j by omega)) (j1.up (show rows j ≤ rows k + rows j by omega))
    refine ⟨k1, ?_⟩
    show ev ν (together _ _) = count ν k + count ν j
    rw [k2, i2, j2]
end Nk


/-! How many products a weight has at most. -/
namespace Nk
open PySem PySem.Spec PyProof.Rows L2

def vecs : Nat → Nat → List (List Nat)
  | 0, _ => [[]]
  | n + 1, d => (List.range (d + 1)).flatMap fun k => (vecs n (d - k)).map (k :: ·)
theorem mem_vecs : ∀ {l : List Nat} {d : Nat}, l.sum ≤ d → l ∈ vecs l.length d
  | [], _, _ => List.mem_singleton.mpr rfl
  | k :: l, d, h => by
    rw [List.sum_cons] at h
    show k :: l ∈ (List.range (d + 1)).flatMap fun k => (vecs l.length (d - k)).map (k :: ·)
    rw [List.mem_flatMap]
    exact ⟨k, List.mem_range.mpr (by omega), List.mem_map.mpr ⟨l, mem_vecs (by omega), rfl⟩⟩
theorem vecs_le : ∀ n : Nat, n ≤ 4 → (vecs n 11).length ≤ 1365
  | 0, _ => by decide +kernel
  | 1, _ => by decide +kernel
  | 2, _ => by decide +kernel
  | 3, _ => by decide +kernel
  | 4, _ => by decide +kernel
  | n + 5, h => by omega
theorem nodup_sub {α : Type} [DecidableEq α] : ∀ l : List α, ∃ m : List α, m.Nodup ∧ m.length ≤ l.length ∧ ∀ x ∈ l, x ∈ m
  | [] => ⟨[], List.nodup_nil, Nat.le_refl _, fun _ h => h⟩
  | a :: l => by
    obtain ⟨m, h1, h2, h3⟩ := nodup_sub l
    by_cases c : a ∈ m
    · exact ⟨m, h1, Nat.le_succ_of_le h2, fun x hx => (List.mem_cons.mp hx).elim (fun e => by rw [e]; exact c) (h3 x)⟩
    · exact ⟨a :: m, List.nodup_cons.mpr ⟨c, h1⟩, Nat.succ_le_succ h2, fun x hx => (List.mem_cons.mp hx).elim (fun e => by rw [e]; exact List.mem_cons_self) fun h => List.mem_cons_of_mem _ (h3 x h)⟩
def vec (M : List Str) (p : Pow) : List Nat := M.map fun x => (getG p x).toNat
theorem sum_off {f : Str × Int} {p : Pow} : ∀ M : List Str, f.1 ∉ M → vec M (f :: p) = vec M p
  | [], _ => rfl
  | x :: M, h => by
    rw [List.mem_cons, not_or] at h
    show (getG (f :: p) x).toNat :: vec M (f :: p) = _
    rw [sum_off M h.2, getG_cons, if_neg h.1]
    rfl
theorem vec_sum : ∀ {p : Pow} {M : List Str}, M.Nodup → (∀ f ∈ p, 0 ≤ f.2) → ((vec M p).sum : Int) ≤ degP p
  | [], M, _, _ => by
    have e : ∀ M : List Str, (vec M []).sum = 0 := fun M => by
      induction M with
      | nil => rfl
      | cons x M ih =>
        show ((getG ([] : Pow) x).toNat :: vec M []).sum = 0
        rw [List.sum_cons, ih]
        rfl
    rw [e]
    exact Int.le_refl _
  | f :: p, M, hn, hp => by
    have ih := vec_sum (p := p) hn fun g hg => hp g (List.mem_cons_of_mem _ hg)
    have hf := hp f List.mem_cons_self
    have e : degP (f :: p) = f.2 * 1 + degP p := rfl
    have key : ∀ M : List Str, M.Nodup → ((vec M (f :: p)).sum : Int) ≤ f.2 + ((vec M p).sum : Int) := by
      intro M hn
      induction M with
      | nil => show (0 : Int) ≤ _ + 0; omega
      | cons x M ih =>
        rw [List.nodup_cons] at hn
        have e1 : vec (x :: M) (f :: p) = (getG (f :: p) x).toNat :: vec M (f :: p) := rfl
        have e2 : vec (x :: M) p = (getG p x).toNat :: vec M p := rfl
        rw [e1, e2, List.sum_cons, List.sum_cons, getG_cons]
        by_cases c : f.1 = x
        · rw [if_pos c, sum_off M (by rw [c]; exact hn.1)]
          omega
        · rw [if_neg c]
          have := ih hn.2
          omega
    have := key M hn
    omega
theorem vec_inj {N M : List Str} {D : Int} (hM : ∀ x ∈ N, x ∈ M) {p q : Pow} (hp : GoodP N D p) (hq : GoodP N D q) (h : vec M p = vec M q) : p = q := by
  have at_ : ∀ x ∈ M, (getG p x).toNat = (getG q x).toNat := by
    intro x hx
    unfold vec at h
    have := List.map_inj_left.mp h x hx
    exact this
  have half : ∀ {p q : Pow}, GoodP N D p → GoodP N D q → (∀ x ∈ M, (getG p x).toNat = (getG q x).toNat) → ∀ f ∈ p, f ∈ q := by
    intro p q hp hq at_ f hf
    obtain ⟨h1, h2⟩ := hp.pos f hf
    have e := at_ f.1 (hM _ h2)
    rw [getG_mem hp.nod hf] at e
    by_cases c : f.1 ∈ q.map (·.1)
    · obtain ⟨g, hg, z⟩ := List.mem_map.mp c
      have e2 := getG_mem hq.nod hg
      rw [z] at e2
      rw [e2] at e
      have := (hq.pos g hg).1
      have e3 : f.2 = g.2 := by omega
      rw [show f = g from Prod.ext z.symm e3]
      exact hg
    · rw [getG_none c] at e
      omega
  have nd : ∀ {p : Pow}, GoodP N D p → p.Nodup := fun hp => by
    have := hp.nod
    unfold List.Nodup at this ⊢
    rw [List.pairwise_map] at this
    exact this.imp fun h z => h (by rw [z])
  have pm : p.Perm q := (List.perm_ext_iff_of_nodup (nd hp) (nd hq)).mpr fun f => ⟨half hp hq at_ f, half hq hp (fun x hx => (at_ x hx).symm) f⟩
  exact List.Perm.eq_of_pairwise (fun a b _ _ h1 h2 => toks_dF (toks_anti h1 h2)) hp.srt hq.srt pm
theorem keys_len {N : List Str} (hN : N.length ≤ 4) {D : Int} (hD : D ≤ 11) {s : Sm} (hn : (s.map (·.1)).Nodup) (hg : ∀ e ∈ s, GoodP N D e.1) : s.length ≤ 1365 := by
  obtain ⟨M, m1, m2, m3⟩ := nodup_sub N
  have e : s.length = ((s.map (·.1)).map (vec M)).length := by rw [List.length_map, List.length_map]
  rw [e]
  have good : ∀ p ∈ s.map (·.1), GoodP N D p := fun p hp => by
    obtain ⟨z, hz, rfl⟩ := List.mem_map.mp hp
    exact hg z hz
  have nd : ((s.map (·.1)).map (vec M)).Nodup := by
    have n := hn
    unfold List.Nodup at n ⊢
    rw [List.pairwise_map]
    exact List.Pairwise.imp_of_mem (fun {a b} ha hb hne z => hne (vec_inj m3 (good a ha) (good b hb) z)) n
  refine Nat.le_trans (List.Nodup.length_le_of_subset nd (l₂ := vecs M.length 11) fun l hl => ?_) (vecs_le _ (by omega))
  obtain ⟨p, hp, rfl⟩ := List.mem_map.mp hl
  have g := good p hp
  have d := vec_sum (p := p) m1 (fun f hf => by have := (g.pos f hf).1; omega)
  have e : (vec M p).length = M.length := List.length_map _
  rw [← e]
  refine mem_vecs ?_
  have := g.deg
  omega
theorem good_len {N : List Str} (hN : N.length ≤ 4) {D : Int} (hD : D ≤ 11) {s : Sm} (h : GoodS N D s) : s.length ≤ 1365 := keys_len hN hD h.nod fun e he => (h.pos e he).2
theorem pre_len {N : List Str} (hN : N.length ≤ 4) {D : Int} (hD : D ≤ 11) {s : Sm} (h : Pre N D s) : s.length ≤ 1365 := keys_len hN hD h.nod fun e he => (h.pos e he).2
/-- the names of a product are as many as there are names at most -/
theorem len_le {N : List Str} {p : Pow} (hn : (p.map (·.1)).Nodup) (h : ∀ f ∈ p, f.1 ∈ N) : p.length ≤ N.length := by
  have e : p.length = (p.map (·.1)).length := (List.length_map _).symm
  rw [e]
  exact List.Nodup.length_le_of_subset hn fun x hx => by
    obtain ⟨f, hf, rfl⟩ := List.mem_map.mp hx
    exact h f hf
theorem sum_bound {ν : Str → Int} {B : Int} (hB : 0 ≤ B) : ∀ {p : Pow}, (∀ f ∈ p, 0 ≤ f.2 ∧ f.2 ≤ 3 ∧ 0 ≤ ν f.1 ∧ ν f.1 ≤ B) → 0 ≤ sumG ν p ∧ sumG ν p ≤ p.length * (3 * B)
  | [], _ => ⟨Int.le_refl _, by show (0 : Int) ≤ ((0 : Nat) : Int) * _; simp⟩
  | f :: p, h => by
    obtain ⟨i1, i2⟩ := sum_bound hB (p := p) fun g hg => h g (List.mem_cons_of_mem _ hg)
    obtain ⟨a, b, c, d⟩ := h f List.mem_cons_self
    have m1 : 0 ≤ f.2 * ν f.1 := Int.mul_nonneg a c
    have m2 : f.2 * ν f.1 ≤ 3 * B := Int.mul_le_mul b d c (by omega)
    have e : sumG ν (f :: p) = f.2 * ν f.1 + sumG ν p := rfl
    have e2 : ((f :: p).length : Int) * (3 * B) = p.length * (3 * B) + 3 * B := by
      rw [List.length_cons, Int.natCast_add, Int.add_mul]
      simp
    rw [e, e2]
    omega
theorem worth_bound {N : List Str} (hN : N.length ≤ 4) {L : Len} (h : LenOk N L) {ν : Str → Int} {B : Int} (hB : 0 ≤ B) (hν : ∀ x ∈ N, 0 ≤ ν x ∧ ν x ≤ B) : 0 ≤ worth ν L ∧ worth ν L ≤ 3 + 12 * B := by
  obtain ⟨i1, i2⟩ := sum_bound hB (ν := ν) (p := L.p) fun f hf => by
    obtain ⟨a, b, c⟩ := h.pos f hf
    exact ⟨by omega, b, hν _ c⟩
  have l := len_le h.nod fun f hf => (h.pos f hf).2.2
  have l2 : (L.p.length : Int) * (3 * B) ≤ 4 * (3 * B) := Int.mul_le_mul_of_nonneg_right (by omega) (by omega)
  have a := h.n0
  have b := h.n3
  unfold worth
  omega
end Nk


/-! The walk, part 1: the sums. -/
namespace Nk
open PySem PySem.Spec PyProof.Rows L2

def topS (i : Nat) : Stmt := PySem.Challenge.pw_indexwise_k16_whole_weights_count.main.body.getD i (.Pass ⟨0, 0, 0, 0⟩)
abbrev sSummed : Stmt := topS 2
abbrev sOfLength : Stmt := topS 3
abbrev sTogether : Stmt := topS 4
abbrev sPowers : Stmt := topS 5
abbrev sProduct : Stmt := topS 6
abbrev sWeight : Stmt := topS 7
abbrev sSumWorth : Stmt := topS 8
abbrev nSummed : List Str := ["counts", "powers", "times"]
theorem scSummed : FnScope nSummed ["counts"] (defScope sSummed) := ⟨rfl, rfl, rfl, by decide +kernel, rfl, by decide +kernel, by decide +kernel⟩

/-! ### things of the data -/
theorem alike_dF (f g : Str × Int) : PySem.W.alike (dF f) (dF g) = true := by simp [dF, PySem.W.alike, PySem.W.alikeAll]
theorem alike_dFs : ∀ p q : Pow, PySem.W.alikeAll (p.map dF) (q.map dF) = true
  | [], _ => by simp [PySem.W.alikeAll]
  | _ :: _, [] => by simp [PySem.W.alikeAll]
  | f :: p, g :: q => by
    rw [List.map_cons, List.map_cons, PySem.W.alikeAll, alike_dF, alike_dFs p q]
    rfl
theorem alike_dT (a b : Pow × Int) : PySem.W.alike (dT a) (dT b) = true := by
  simp [dT, dP, PySem.W.alike, PySem.W.alikeAll, alike_dFs]
theorem srt_dT (s : Sm) : Srt1 dT s := ⟨.of alike_dT, .tuples fun b => ⟨_, _, rfl⟩, fun b _ => by have := depth_dT b; omega⟩
theorem srt_dF (p : Pow) : Srt1 dF p := ⟨.of alike_dF, .tuples fun b => ⟨_, _, rfl⟩, fun b _ => by rw [depth_dF]; omega⟩
theorem srt_str (l : List Str) : Srt1 PyData.str l := ⟨.of fun _ _ => by simp [PySem.W.alike], .others fun b => ⟨by simp, by simp⟩, fun b _ => by simp [PyData.depth]⟩
theorem sm_upd {H0 H1 : Hp} {D : Addr} {o : HO} (s : Same H0 H1) (n : H0 D = none) : Same H0 (upd H1 D o) := fun b x e => by
  rw [upd_ne (ne_of_none e n)]
  exact s b x e
theorem none_of {H0 H1 : Hp} {p : Addr} (s : Same H0 H1) (n : H1 p = none) : H0 p = none := by
  cases e : H0 p with
  | none => rfl
  | some o =>
    rw [s _ _ e] at n
    cases n
theorem kt_lst {H : Hp} {D : Addr} {xs : List V} {o : HO} (h : H D = some (.lst xs)) : KT H (upd H D o) := KT.put h (fun _ z => by cases z) (fun _ _ z => by cases z) o
theorem kt_dk {H : Hp} {D : Addr} {xs : List (L2.Key × V)} {o : HO} (h : H D = some (.dK xs)) : KT H (upd H D o) := KT.put h (fun _ z => by cases z) (fun _ _ z => by cases z) o
theorem szl (n : Nat) (h : n ≤ 1000000) : n < sizeLine := by rw [sizeLine_eq]; omega

section
variable {P : Program} {w : World} {K : PySem.W.Frag} {mg : Str → Option Value} {base : Heap}
/-! ### summed -/
def spSummed (P : Program) (w : World) (K : PySem.W.Frag) : Sp := fun vs H Q _ => ∃ d m, vs = [.ref d] ∧ DM K P w H d m ∧ m.length ≤ 100000 ∧ ∀ H' r, Same H H' → TD K H' (.ref r) (dS (summed m)) → Q (.ref r) H'
theorem take_filter (m : Sm) {i : Nat} {e : Pow × Int} (h : m[i]? = some e) : (m.take (i + 1)).filter (fun e => decide (0 < e.2)) = (m.take i).filter (fun e => decide (0 < e.2)) ++ if 0 < e.2 then [e] else [] := by
  rw [List.take_add_one, h, List.filter_append]
  show _ ++ List.filter _ [e] = _
  by_cases c : 0 < e.2
  · rw [if_pos c, List.filter_cons_of_pos (by rw [decide_eq_true_eq]; exact c)]
    rfl
  · rw [if_neg c, List.filter_cons_of_neg (by rw [decide_eq_true_eq]; exact c)]
    rfl
theorem ok_summed {f : Addr} {fd : FuncData} (F : Fun K "summed" "summed" sSummed f fd) (mt : mg "tuple" = none) (ms : mg "sorted" = none) : FnOk P w K mg base CX0 1 f fd ["counts"] (spSummed P w K) := by
  refine F.ok scSummed (fun vs H Q E h => ?_) (fun cdv A outer s H vs Q E hr h => ?_)
  · obtain ⟨d, m, rfl, _⟩ := h
    rfl
  · obtain ⟨d, m, rfl, hm, hz, q⟩ := h
    refine ⟨_, pss_one (ps_ret (pe_lock (pe_callTy cr_tupP (by rfl) mt PyProof.Rows.boot_tuple (pa_cons (pe_callB (cr_sortL hr.units) (by rfl) ms PyProof.Rows.boot_sorted (pa_cons
      (pe_lc (g := gTup K 2 (gCons (gName 1) (gCons (gName 2) gNil))) (own := [("powers", 1), ("times", 2)]) rfl scSummed.nd (pi_itemsN (pv 0)) (blkOk_by (N := nSummed) (sc := defScope sSummed) (by decide +kernel))
        (fun _ _ _ _ _ => pg_tup rfl (pgs_cons (pg_name (i := 1) scSummed.nd rfl (Or.inl rfl)) (pgs_cons (pg_name (i := 2) scSummed.nd rfl (Or.inl rfl)) pgs_nil)))
        (fun _ _ _ _ _ => pts_one (pt_cmpR op_gt (pv 2) pe_int (nomark _)))
        (fun _ _ _ _ _ => pe_tupP (pa_cons (pv 1) (pa_cons (pv 2) pa_nil)))) pa_nil)) pa_nil)))), ?_⟩
    obtain ⟨kas, e, hk, hb⟩ := hm
    refine ⟨d, _, e, True.intro, fun od => ?_⟩
    obtain ⟨H0, hH0⟩ : ∃ H0, H0 = upd H d (.frz od (DN P w d kas)) := ⟨_, rfl⟩
    rw [← hH0]
    have e0 : H0 d = some (.frz od (DN P w d kas)) := by rw [hH0]; exact upd_same
    have k0 : KT H H0 := by rw [hH0]; exact KT.put e (fun _ z => by cases z) (fun _ _ z => by cases z) _
    have hk0 : KeysOn K H0 kas := hk.up k0
    refine ⟨.ref d, rfl, d, od, kas, rfl, e0, fun D hD => lc_it walk_itemsN (fun i Hx => Same H0 Hx ∧ ∃ ys, Hx D = some (.lst ys) ∧ ys.length ≤ i ∧ TDs K Hx ys ((((bare kas).take i).filter fun e => decide (0 < e.2)).map dT))
      ⟨same_new hD _, [], upd_same, Nat.le_refl _, .nil⟩ (fun i Hx _ p => p.1 _ _ e0) (fun i x Hx Hx' hi p y => ?_) (fun Hx p => ?_)⟩
    · obtain ⟨sm, ys, hy, hl, ht⟩ := p
      obtain ⟨T, en, hen, rfl, nT, rfl⟩ := y
      have hen' : (bare kas)[i]? = some (en.1, en.2.2) := by rw [List.getElem?_map, hen]; rfl
      have htk := take_filter _ hen'
      have nTD : D ≠ T := ne_of_none hy nT
      have smT : Same H0 (upd Hx T (.tup [.ref en.2.1, .int en.2.2])) := fun b o z => same_new nT _ _ _ (sm _ _ z)
      refine ⟨T, _, rfl, .inl (.inl upd_same), rfl, _, _, rfl, _, _, rfl, rfl, rfl, _, rfl, _, _, rfl, rfl, _, rfl, ?_⟩
      refine ite2 (fun c => ?_) (fun c => ?_)
      · have c' : 0 < en.2.2 := of_decide_eq_true c
        refine ⟨_, rfl, _, rfl, Nat.le_of_lt (szl 2 (by omega)), fun p u hp hu => ⟨ys, ?_, ?_, ?_⟩⟩
        · rw [upd_ne (ne_of_none (by rw [upd_ne nTD]; exact hy) hp), upd_ne nTD]
          exact hy
        · rw [← hb, List.length_map] at hz
          exact szl _ (by omega)
        · have n0T : H0 T = none := none_of sm nT
          have n0p : H0 p = none := none_of smT hp
          refine ⟨sm_upd (sm_upd smT n0p) hD, _, upd_same, by rw [List.length_append]; exact Nat.succ_le_succ hl, ?_⟩
          have k1 : KT Hx (upd Hx T (.tup [.ref en.2.1, .int en.2.2])) := KT.new nT _
          have k2 : KT (upd Hx T (.tup [.ref en.2.1, .int en.2.2])) (upd (upd Hx T (.tup [.ref en.2.1, .int en.2.2])) p u) := KT.new hp _
          have hyp : upd (upd Hx T (.tup [.ref en.2.1, .int en.2.2])) p u D = some (.lst ys) := by
            rw [upd_ne (ne_of_none (by rw [upd_ne nTD]; exact hy) hp), upd_ne nTD]
            exact hy
          have k3 : KT (upd (upd Hx T (.tup [.ref en.2.1, .int en.2.2])) p u) (upd (upd (upd Hx T (.tup [.ref en.2.1, .int en.2.2])) p u) D (.lst (ys ++ [.ref p]))) := kt_lst hyp
          rw [htk, if_pos c', List.map_append]
          refine (ht.up ((k1.trans k2).trans k3)).snoc ?_
          exact .tup (k3.sqP (sqP_new hu)) (.cons ((hk0 en (List.mem_of_getElem? hen)).up ((KT.of sm).trans ((k1.trans k2).trans k3))) (.cons (.int _) .nil))
      · have c' : ¬ 0 < en.2.2 := fun z => c (decide_eq_true z)
        refine ⟨smT, ys, ?_, by omega, ?_⟩
        · rw [upd_ne nTD]
          exact hy
        · rw [htk, if_neg c', List.append_nil]
          exact ht.up (KT.new nT _)
    · obtain ⟨sm, ys, hy, hl, ht⟩ := p
      rw [List.take_of_length_le (by rw [List.length_map]; exact Nat.le_refl _), hb] at ht
      refine ⟨_, dT, D, ys, _, rfl, SqL.of hy, ht, srt_dT _, fun zs l hzs hl => ⟨l, zs, rfl, SqL.of upd_same, fun r u hr hu => ⟨?_, ?_⟩⟩⟩
      · rw [upd_ne (ne_of_none (by rw [upd_ne (ne_of_none (sm _ _ e0) hl)]; exact sm _ _ e0) hr), upd_ne (ne_of_none (sm _ _ e0) hl)]
        exact sm _ _ e0
      · have s1 : Same Hx (upd Hx l (.lst zs)) := same_new hl _
        have s2 : Same (upd Hx l (.lst zs)) (upd (upd Hx l (.lst zs)) r u) := same_new hr _
        have e3 : upd (upd Hx l (.lst zs)) r u d = some (.frz od (DN P w d kas)) := s2 _ _ (s1 _ _ (sm _ _ e0))
        have k4 : KT (upd (upd Hx l (.lst zs)) r u) (upd (upd (upd Hx l (.lst zs)) r u) d (DN P w d kas)) := KT.put e3 (fun _ z => by cases z) (fun _ _ z => by cases z) _
        refine q _ r (fun b o z => ?_) (.tup (k4.sqP (sqP_new hu)) ((hzs.up ((KT.of s1).trans (KT.of s2))).up k4))
        by_cases c : b = d
        · rw [c, upd_same]
          rw [c, e] at z
          exact z
        · rw [upd_ne c]
          refine s2 _ _ (s1 _ _ (sm _ _ ?_))
          rw [hH0, upd_ne c]
          exact z
end
end Nk


/-! The walk, part 2: of_length, together, powers_together, product. -/
namespace Nk
open PySem PySem.Spec PyProof.Rows L2

def dL (L : Len) : PyData := .tuple [.int L.n, dP L.p]
theorem But.same {d : Addr} {H H' : Hp} (b : But d H H') (n : H d = none) : Same H H' := fun c o e => by
  rw [b c (ne_of_none e n)]
  exact e
theorem sm_but {d : Addr} {H H1 H2 : Hp} (s : Same H H1) (n : H d = none) (b : But d H1 H2) : Same H H2 := fun c o e => by
  rw [b c (ne_of_none e n)]
  exact s c o e
theorem sm_new {H H1 : Hp} {p : Addr} {o : HO} (s : Same H H1) (n : H1 p = none) : Same H (upd H1 p o) := fun b x e => same_new n o b x (s b x e)
theorem foldl_take {α β : Type} (f : β → α → β) (b : β) {l : List α} {i : Nat} {a : α} (h : l[i]? = some a) : (l.take (i + 1)).foldl f b = f ((l.take i).foldl f b) a := by
  rw [List.take_add_one, h, List.foldl_append]
  rfl
theorem Same.td {K : PySem.W.Frag} {H H' : Hp} {v : V} {d : PyData} (s : Same H H') (h : TD K H v d) : TD K H' v d := h.up (.of s)
/-- the i-th thing of a tuple of things -/
theorem TDs.ix {K : PySem.W.Frag} {H : Hp} {β : Type} {enc : β → PyData} {xs : List V} {bs : List β} (h : TDs K H xs (bs.map enc)) {i : Nat} {v : V} (e : xs[i]? = some v) : ∃ b, bs[i]? = some b ∧ TD K H v (enc b) := by
  obtain ⟨d, h1, h2⟩ := h.at e
  rw [List.getElem?_map] at h1
  cases hb : bs[i]? with
  | none => rw [hb] at h1; cases h1
  | some b =>
    rw [hb] at h1
    cases h1
    exact ⟨b, rfl, h2⟩
theorem TDs.len {K : PySem.W.Frag} {H : Hp} {β : Type} {enc : β → PyData} {xs : List V} {bs : List β} (h : TDs K H xs (bs.map enc)) : xs.length = bs.length := by
  rw [h.length, List.length_map]

theorem lt_le {n m : Nat} (h : n < m) : n ≤ m := Nat.le_of_lt h
abbrev nOfLength : List Str := ["a", "counts", "name", "times"]
theorem scOfLength : FnScope nOfLength ["a"] (defScope sOfLength) := ⟨rfl, rfl, rfl, by decide +kernel, rfl, by decide +kernel, by decide +kernel⟩
abbrev nTogether : List Str := ["s", "t", "counts", "powers", "times"]
theorem scTogether : FnScope nTogether ["s", "t"] (defScope sTogether) := ⟨rfl, rfl, rfl, by decide +kernel, rfl, by decide +kernel, by decide +kernel⟩
abbrev nPowers : List Str := ["one", "other", "found", "name", "power"]
theorem scPowers : FnScope nPowers ["one", "other"] (defScope sPowers) := ⟨rfl, rfl, rfl, by decide +kernel, rfl, by decide +kernel, by decide +kernel⟩
abbrev nProduct : List Str := ["s", "t", "counts", "one", "times", "other", "often", "powers"]
theorem scProduct : FnScope nProduct ["s", "t"] (defScope sProduct) := ⟨rfl, rfl, rfl, by decide +kernel, rfl, by decide +kernel, by decide +kernel⟩

section
variable {P : Program} {w : World} {K : PySem.W.Frag} {mg : Str → Option Value} {base : Heap}

/-! ### of_length -/
def spOfLength (K : PySem.W.Frag) : Sp := fun vs H Q _ => ∃ v L N, vs = [v] ∧ TD K H v (dL L) ∧ LenOk N L ∧ N.length ≤ 4 ∧ ∀ H' r, Same H H' → TD K H' (.ref r) (dS (ofLength L)) → Q (.ref r) H'
theorem LenOk.take {N : List Str} {L : Len} (h : LenOk N L) (i : Nat) : LenOk N ⟨L.n, L.p.take i⟩ := by
  refine ⟨h.n0, h.n3, ?_, fun f hf => h.pos f (List.mem_of_mem_take hf)⟩
  show ((L.p.take i).map (·.1)).Nodup
  rw [List.map_take]
  exact (List.take_sublist _ _).nodup h.nod
theorem ok_ofLength {f fS : Addr} {fd fdS : FuncData} (F : Fun K "of_length" "of_length" sOfLength f fd) (G : FnOk P w K mg base CX0 1 fS fdS ["counts"] (spSummed P w K)) (bS : Binds K fdS ["counts"] []) (kS : PySem.W.keepIn K (.ref fS) = true) (gS : mg "summed" = some (.ref fS)) :
    FnOk P w K mg base CX0 2 f fd ["a"] (spOfLength K) := by
  refine F.ok scOfLength (fun vs H Q E h => ?_) (fun cdv A outer s H vs Q E hr h => ?_)
  · obtain ⟨v, L, N, rfl, _⟩ := h
    rfl
  · obtain ⟨v, L, N, rfl, hv, hL, hN, q⟩ := h
    refine ⟨_, pss_cons (ps_set (i := 1) scOfLength.nd rfl (.inl rfl) (pe_dispN hr.units (pe_tupP pa_nil) (pe_ix ix_tup (pv 0) pe_int (fun _ _ => rfl))))
      (pss_cons (ps_for PassesOwn.never rfl (pi_tup (pe_ix ix_tup (pv 0) pe_int (fun _ _ => rfl))) (pg_tup rfl (pgs_cons (pg_name (i := 2) scOfLength.nd rfl (.inl rfl)) (pgs_cons (pg_name (i := 3) scOfLength.nd rfl (.inl rfl)) pgs_nil)))
        (pss_one (ps_asg (pv 3) (pg_sub (pv 1) (pe_tupP (pa_cons (pe_tupP (pa_cons (pv 2) (pa_cons pe_int pa_nil))) pa_nil)) (set_N hr.units)))))
      (pss_one (ps_ret (pe_call G hr (by rfl) gS kS bS .nil pass0 (pa_cons (pv 1) pa_nil))))), ?_⟩
    obtain ⟨a, xs, rfl, hs, hd⟩ := hv.tupInv
    obtain ⟨vn, vp, rfl, hvn, hvp⟩ := hd.two
    obtain rfl := hvn.intInv
    obtain ⟨b, ys, rfl, hbs, hbd⟩ := TD.tupInv (hvp : TD K H _ (.tuple (L.p.map dF)))
    intro d hd H1 b1 m1
    have s1 := b1.same hd
    refine ⟨Nat.zero_le _, fun p u hp hu => ⟨_, rfl, a, _, 0, .int L.n, rfl, rfl, (KT.new hp u).sqT ((KT.of s1).sqT hs.T), atI_nat (j := 0) rfl, p, [], L.n, rfl, rfl, m1.up (same_new hp u), .tup (sqP_new hu) .nil, fun H4 b4 m4 => ?_⟩⟩
    have s4 : Same H H4 := sm_but (sm_new s1 hp) hd b4
    refine ⟨_, rfl, a, _, 1, .ref b, rfl, rfl, (KT.of s4).sqT hs.T, atI_nat (j := 1) rfl, b, rfl, ⟨ys, (KT.of s4).sqT hbs.T⟩, for_it (walk_tup (xs := ys)) (fun i σ Hx => ∃ y2 y3, σ = [some (.ref a), some (.ref d), y2, y3] ∧ Same H Hx ∧ DM K P w Hx d ((L.p.take i).foldl (fun m f => putG m [(f.1, 1)] f.2) [([], L.n)]))
      ⟨none, none, rfl, s4, m4⟩ (fun i σ Hx _ p => ?_) (fun i x σ Hx Hx' hi p y => ?_) (fun σ Hx p => ?_)⟩
    · obtain ⟨_, _, _, sm, _⟩ := p
      exact (KT.of sm).sqT hbs.T
    · obtain ⟨y2, y3, rfl, sm, dm⟩ := p
      obtain ⟨rfl, hx⟩ := y
      obtain ⟨fl, hfl, tx⟩ := hbd.ix hx
      obtain ⟨a2, zs, rfl, hz, hzd⟩ := (tx.up (.of sm)).tupInv
      obtain ⟨u1, u2, rfl, t1, t2⟩ := hzd.two
      obtain rfl := t1.strInv
      obtain rfl := t2.intInv
      have pre := (ofLengthM_good (ν := fun _ => 0) (hL.take i)).1
      refine ⟨a2, _, rfl, hz.T, rfl, _, _, rfl, _, _, rfl, rfl, _, rfl, _, rfl, _, rfl, lt_le (szl 2 (by omega)), fun p1 v1 hp1 hv1 => ⟨lt_le (szl 1 (by omega)), fun p2 v2 hp2 hv2 => ⟨d, p2, _, [(fl.1, 1)], fl.2, rfl, rfl, rfl, (dm.up (same_new hp1 v1)).up (same_new hp2 v2), ?_, ?_, fun H5 b5 m5 => ?_⟩⟩⟩
      · refine .tup (sqP_new hv2) (.cons (.tup ((KT.new hp2 v2).sqP (sqP_new hv1)) (.cons (.str _) (.cons (.int _) .nil))) .nil)
      · exact szl _ (Nat.le_trans (pre_len hN (by omega) pre) (by omega))
      · refine ⟨_, _, rfl, sm_but (sm_new (sm_new sm hp1) hp2) hd b5, ?_⟩
        rw [foldl_take _ _ hfl]
        exact m5
    · obtain ⟨y2, y3, rfl, sm, dm⟩ := p
      rw [List.take_of_length_le (Nat.le_of_eq hbd.len.symm)] at dm
      refine ⟨_, rfl, d, _, rfl, dm, Nat.le_trans (pre_len hN (by omega) (ofLengthM_good (ν := fun _ => 0) hL).1) (by omega), fun H6 r s6 t6 => ?_⟩
      exact q H6 r (fun c o e => s6 c o (sm c o e)) t6

/-! ### together -/
def addM (m : Sm) (e : Pow × Int) : Sm := putG m e.1 (getG m e.1 + e.2)
def spTogether (K : PySem.W.Frag) : Sp := fun vs H Q _ => ∃ u v s t N D, vs = [u, v] ∧ TD K H u (dS s) ∧ TD K H v (dS t) ∧ GoodS N D s ∧ GoodS N D t ∧ N.length ≤ 4 ∧ D ≤ 11 ∧ ∀ H' r, Same H H' → TD K H' (.ref r) (dS (together s t)) → Q (.ref r) H'
theorem ok_together {f fS : Addr} {fd fdS : FuncData} (F : Fun K "together" "together" sTogether f fd) (G : FnOk P w K mg base CX0 1 fS fdS ["counts"] (spSummed P w K)) (bS : Binds K fdS ["counts"] []) (kS : PySem.W.keepIn K (.ref fS) = true) (gS : mg "summed" = some (.ref fS)) (md : mg "dict" = none) :
    FnOk P w K mg base CX0 2 f fd ["s", "t"] (spTogether K) := by
  refine F.ok scTogether (fun vs H Q E h => ?_) (fun cdv A outer s H vs Q E hr h => ?_)
  · obtain ⟨u, v, s, t, N, D, rfl, _⟩ := h
    rfl
  · obtain ⟨u, v, s, t, N, D, rfl, hu, hv, gs, gt, hN, hD, q⟩ := h
    refine ⟨_, pss_cons (ps_set (i := 2) scTogether.nd rfl (.inl rfl) (pe_callTy (cr_dictN rfl hr.units) (by rfl) md PyProof.Rows.boot_dict (pa_cons (pv 0) pa_nil)))
      (pss_cons (ps_for PassesOwn.never rfl (pi_tup (pv 1)) (pg_tup rfl (pgs_cons (pg_name (i := 3) scTogether.nd rfl (.inl rfl)) (pgs_cons (pg_name (i := 4) scTogether.nd rfl (.inl rfl)) pgs_nil)))
        (pss_one (ps_asg (pe_op op_add (pe_getN hr.units (pv 2) (pv 3) pe_int ⟨rfl, rfl, rfl, rfl⟩) (pv 4)) (pg_sub (pv 2) (pv 3) (set_N hr.units)))))
      (pss_one (ps_ret (pe_call G hr (by rfl) gS kS bS .nil pass0 (pa_cons (pv 2) pa_nil))))), ?_⟩
    obtain ⟨a, xs, rfl, _, _⟩ := hu.tupInv
    obtain ⟨b, ys, rfl, hbs, hbd⟩ := TD.tupInv (hv : TD K H _ (.tuple (t.map dT)))
    refine ⟨_, rfl, a, s, rfl, hu, gs.nod, fun d H1 hd b1 m1 => ?_⟩
    have s1 := b1.same hd
    refine ⟨.ref b, rfl, b, rfl, ⟨ys, (KT.of s1).sqT hbs.T⟩, for_it (walk_tup (xs := ys)) (fun i σ Hx => ∃ y3 y4, σ = [some (.ref a), some (.ref b), some (.ref d), y3, y4] ∧ Same H Hx ∧ DM K P w Hx d ((t.take i).foldl addM s))
      ⟨none, none, rfl, s1, m1⟩ (fun i σ Hx _ p => ?_) (fun i x σ Hx Hx' hi p y => ?_) (fun σ Hx p => ?_)⟩
    · obtain ⟨_, _, _, sm, _⟩ := p
      exact (KT.of sm).sqT hbs.T
    · obtain ⟨y3, y4, rfl, sm, dm⟩ := p
      obtain ⟨rfl, hx⟩ := y
      obtain ⟨e, he, tx⟩ := hbd.ix hx
      obtain ⟨a2, zs, rfl, hz, hzd⟩ := (tx.up (.of sm)).tupInv
      obtain ⟨u1, u2, rfl, t1, t2⟩ := hzd.two
      obtain rfl := t2.intInv
      obtain ⟨a3, ws, rfl, _, _⟩ := TD.tupInv (t1 : TD K _ _ (.tuple (e.1.map dF)))
      have pre := (adds_good (ν := fun _ => 0) (t.take i) s gs.pre (fun z hz => gt.pos z (List.mem_of_mem_take hz))).1
      refine ⟨a2, _, rfl, hz.T, rfl, _, _, rfl, _, _, rfl, rfl, _, rfl, ⟨d, _, rfl, dm⟩, _, rfl, d, a3, _, e.1, rfl, rfl, rfl, dm, t1, _, rfl, _, _, rfl, rfl, _, rfl, _, rfl, d, a3, _, e.1, _, rfl, rfl, rfl, dm, t1, szl _ (Nat.le_trans (pre_len hN hD pre) (by omega)), fun H5 b5 m5 => ?_⟩
      refine ⟨_, _, rfl, sm_but sm hd b5, ?_⟩
      rw [foldl_take _ _ he]
      exact m5
    · obtain ⟨y3, y4, rfl, sm, dm⟩ := p
      rw [List.take_of_length_le (Nat.le_of_eq hbd.len.symm)] at dm
      have pre := (adds_good (ν := fun _ => 0) t s gs.pre gt.pos).1
      refine ⟨_, rfl, d, _, rfl, dm, Nat.le_trans (pre_len hN hD pre) (by omega), fun H6 r s6 t6 => ?_⟩
      exact q H6 r (fun c o e => s6 c o (sm c o e)) t6

/-! ### powers_together -/
theorem valS (m : Pow) (x : Str) : (valV (m.map entS) (Sum.inr x)).getD (.int 0) = .int (getG m x) := by
  induction m with
  | nil => rfl
  | cons f m ih =>
    rw [getG_cons]
    by_cases c : f.1 = x
    · rw [if_pos c]
      show (valV (entS f :: m.map entS) (Sum.inr x)).getD (.int 0) = _
      rw [valV_pos (by show (Sum.inr f.1 : L2.Key) = _; rw [c])]
      rfl
    · rw [if_neg c]
      show (valV (entS f :: m.map entS) (Sum.inr x)).getD (.int 0) = _
      unfold valV
      rw [List.find?_cons_of_neg (by rw [decide_eq_true_eq]; exact fun z => c (Sum.inr.inj z))]
      exact ih
theorem putS (m : Pow) (x : Str) (n : Int) : putK (m.map entS) (Sum.inr x) (.int n) = (putG m x n).map entS := by
  unfold putK putG
  have e : (m.map entS).any (fun kv => decide (kv.1 = (Sum.inr x : L2.Key))) = m.any (fun e => decide (e.1 = x)) := by
    rw [List.any_map]
    congr 1
    funext f
    show decide ((Sum.inr f.1 : L2.Key) = Sum.inr x) = decide (f.1 = x)
    by_cases c : f.1 = x
    · rw [decide_eq_true c, decide_eq_true (by rw [c])]
    · rw [decide_eq_false c, decide_eq_false (fun z => c (Sum.inr.inj z))]
  rw [e]
  by_cases h : m.any (fun e => decide (e.1 = x)) = true
  · rw [if_pos h, if_pos h, List.map_map, List.map_map]
    refine List.map_congr_left fun f _ => ?_
    show (if (Sum.inr f.1 : L2.Key) = Sum.inr x then ((Sum.inr f.1 : L2.Key), V.int n) else entS f) = entS (if f.1 = x then (f.1, n) else f)
    by_cases c : f.1 = x
    · rw [if_pos c, if_pos (by rw [c])]
    · rw [if_neg c, if_neg (fun z => c (Sum.inr.inj z))]
  · rw [if_neg h, if_neg h, List.map_append]
    rfl
def spPows (K : PySem.W.Frag) : Sp := fun vs H Q _ => ∃ u v a b N D E, vs = [u, v] ∧ TD K H u (dP a) ∧ TD K H v (dP b) ∧ GoodP N D a ∧ GoodP N E b ∧ N.length ≤ 4 ∧ ∀ H' r, Same H H' → TD K H' (.ref r) (dP (pows a b)) → Q (.ref r) H'
theorem ok_powers {f : Addr} {fd : FuncData} (F : Fun K "powers_together" "powers_together" sPowers f fd) (md : mg "dict" = none) (mt : mg "tuple" = none) (ms : mg "sorted" = none) :
    FnOk P w K mg base CX0 1 f fd ["one", "other"] (spPows K) := by
  refine F.ok scPowers (fun vs H Q E h => ?_) (fun cdv A outer s H vs Q E hr h => ?_)
  · obtain ⟨u, v, a, b, N, D, E, rfl, _⟩ := h
    rfl
  · obtain ⟨u, v, pa, pb, N, D, E, rfl, hu, hv, ga, gb, hN, q⟩ := h
    refine ⟨_, pss_cons (ps_set (i := 2) scPowers.nd rfl (.inl rfl) (pe_callTy (cr_dictS rfl) (by rfl) md PyProof.Rows.boot_dict (pa_cons (pv 0) pa_nil)))
      (pss_cons (ps_for PassesOwn.never rfl (pi_tup (pv 1)) (pg_tup rfl (pgs_cons (pg_name (i := 3) scPowers.nd rfl (.inl rfl)) (pgs_cons (pg_name (i := 4) scPowers.nd rfl (.inl rfl)) pgs_nil)))
        (pss_one (ps_dput (hu_of hr) (pv 2) (pv 3) (pe_op op_add (pe_dget2 (hu_of hr) (pv 2) (pv 3) pe_int ⟨rfl, rfl, rfl, rfl⟩) (pv 4)) rfl)))
      (pss_one (ps_ret (pe_callTy cr_tupP (by rfl) mt PyProof.Rows.boot_tuple (pa_cons (pe_callB (cr_sortIt rfl hr.units) (by rfl) ms PyProof.Rows.boot_sorted (pa_cons (pe_bm0 PySem.F.plainAttrs_dict PySem.F.slot_dict_items PySem.F.type_dict_items mt_itemsS (pv 2)) pa_nil)) pa_nil))))), ?_⟩
    obtain ⟨a, xs, rfl, _, _⟩ := TD.tupInv (hu : TD K H _ (.tuple (pa.map dF)))
    obtain ⟨b, ys, rfl, hbs, hbd⟩ := TD.tupInv (hv : TD K H _ (.tuple (pb.map dF)))
    refine ⟨_, rfl, a, pa, rfl, hu, ga.nod, fun d hd => ?_⟩
    have s1 : Same H (upd H d (.dK (pa.map entS))) := same_new hd _
    refine ⟨.ref b, rfl, b, rfl, ⟨ys, (KT.of s1).sqT hbs.T⟩, for_it (walk_tup (xs := ys)) (fun i σ Hx => ∃ y3 y4, σ = [some (.ref a), some (.ref b), some (.ref d), y3, y4] ∧ Same H Hx ∧ Hx d = some (.dK ((powsM pa (pb.take i)).map entS)))
      ⟨none, none, rfl, s1, upd_same⟩ (fun i σ Hx _ p => ?_) (fun i x σ Hx Hx' hi p y => ?_) (fun σ Hx p => ?_)⟩
    · obtain ⟨_, _, _, sm, _⟩ := p
      exact (KT.of sm).sqT hbs.T
    · obtain ⟨y3, y4, rfl, sm, dm⟩ := p
      obtain ⟨rfl, hx⟩ := y
      obtain ⟨fl, he, tx⟩ := hbd.ix hx
      obtain ⟨a2, zs, rfl, hz, hzd⟩ := (tx.up (.of sm)).tupInv
      obtain ⟨u1, u2, rfl, t1, t2⟩ := hzd.two
      obtain rfl := t1.strInv
      obtain rfl := t2.intInv
      have pre := (powsM_good (ν := fun _ => 0) (pb.take i) pa D ⟨ga.nod, ga.pos, ga.deg⟩ (fun z hz => gb.pos z (List.mem_of_mem_take hz))).1
      have len := len_le pre.nod fun f hf => (pre.pos f hf).2
      refine ⟨a2, _, rfl, hz.T, rfl, _, _, rfl, _, _, rfl, rfl, _, rfl, d, rfl, .inl ⟨_, .inl dm⟩, _, rfl, _, DGet.k (k := Sum.inr fl.1) dm, _, rfl, _, _, valS _ _, rfl, _, rfl, _, rfl, d, _, rfl, DPut.k (k := Sum.inr fl.1) dm ?_, _, _, rfl, sm_upd sm hd, ?_⟩
      · rw [List.length_map]
        exact szl _ (by omega)
      · rw [upd_same, putS]
        have e : powsM pa (pb.take (i + 1)) = putG (powsM pa (pb.take i)) fl.1 (getG (powsM pa (pb.take i)) fl.1 + fl.2) := foldl_take _ _ he
        rw [e]
    · obtain ⟨y3, y4, rfl, sm, dm⟩ := p
      rw [List.take_of_length_le (Nat.le_of_eq hbd.len.symm)] at dm
      refine ⟨_, rfl, .inr (.inr (.inl ⟨rfl, .inl ⟨_, dm⟩⟩)), d, _, rfl, rfl, dm, fun p hp => ⟨p, d, powsM pa pb, rfl, upd_same, ?_, srt_dF _, fun H' l zs s' hl td => ⟨l, zs, rfl, SqL.of hl, fun r u hr hu => ?_⟩⟩⟩
      · rw [upd_ne (ne_of_none dm hp)]
        exact dm
      · refine q _ r (sm_new (fun c o e => s' c o (sm_new sm hp c o e)) hr) (.tup (sqP_new hu) (td.up (KT.new hr _)))

/-! ### product -/
def rowM (t : Sm) (m : Sm) (e : Pow × Int) : Sm := prodRow e.1 e.2 m t
def spProduct (K : PySem.W.Frag) : Sp := fun vs H Q _ => ∃ u v s t N D E, vs = [u, v] ∧ TD K H u (dS s) ∧ TD K H v (dS t) ∧ GoodS N D s ∧ (∀ e ∈ s, e.2 ≤ 3) ∧ GoodS N E t ∧ N.length ≤ 4 ∧ D + E ≤ 11 ∧ ∀ H' r, Same H H' → TD K H' (.ref r) (dS (product s t)) → Q (.ref r) H'
theorem ok_product {f fS fP : Addr} {fd fdS fdP : FuncData} (F : Fun K "product" "product" sProduct f fd) (G : FnOk P w K mg base CX0 1 fS fdS ["counts"] (spSummed P w K)) (bS : Binds K fdS ["counts"] []) (kS : PySem.W.keepIn K (.ref fS) = true) (gS : mg "summed" = some (.ref fS))
    (GP : FnOk P w K mg base CX0 1 fP fdP ["one", "other"] (spPows K)) (bP : Binds K fdP ["one", "other"] []) (kP : PySem.W.keepIn K (.ref fP) = true) (gP : mg "powers_together" = some (.ref fP)) :
    FnOk P w K mg base CX0 2 f fd ["s", "t"] (spProduct K) := by
  refine F.ok scProduct (fun vs H Q E h => ?_) (fun cdv A outer s H vs Q E hr h => ?_)
  · obtain ⟨u, v, s, t, N, D, E, rfl, _⟩ := h
    rfl
  · obtain ⟨u, v, s, t, N, D, E, rfl, hu, hv, gs, h3, gt, hN, hD, q⟩ := h
    refine ⟨_, pss_cons (ps_set (i := 2) scProduct.nd rfl (.inl rfl) pe_dnewN)
      (pss_cons (ps_for PassesOwn.never rfl (pi_tup (pv 0)) (pg_tup rfl (pgs_cons (pg_name (i := 3) scProduct.nd rfl (.inl rfl)) (pgs_cons (pg_name (i := 4) scProduct.nd rfl (.inl rfl)) pgs_nil)))
        (pss_one (ps_for PassesOwn.never rfl (pi_tup (pv 1)) (pg_tup rfl (pgs_cons (pg_name (i := 5) scProduct.nd rfl (.inl rfl)) (pgs_cons (pg_name (i := 6) scProduct.nd rfl (.inl rfl)) pgs_nil)))
          (pss_cons (ps_set (i := 7) scProduct.nd rfl (.inl rfl) (pe_call GP hr (by rfl) gP kP bP .nil pass0 (pa_cons (pv 3) (pa_cons (pv 5) pa_nil))))
          (pss_one (ps_asg (pe_op op_add (pe_getN hr.units (pv 2) (pv 7) pe_int ⟨rfl, rfl, rfl, rfl⟩) (pe_op op_mul (pv 4) (pv 6))) (pg_sub (pv 2) (pv 7) (set_N hr.units))))))))
      (pss_one (ps_ret (pe_call G hr (by rfl) gS kS bS .nil pass0 (pa_cons (pv 2) pa_nil))))), ?_⟩
    obtain ⟨a, xs, rfl, has, had⟩ := TD.tupInv (hu : TD K H _ (.tuple (s.map dT)))
    obtain ⟨b, ys, rfl, hbs, hbd⟩ := TD.tupInv (hv : TD K H _ (.tuple (t.map dT)))
    intro d H1 hd b1 m1
    have s1 := b1.same hd
    have preM : ∀ i, Pre N (D + E) ((s.take i).foldl (rowM t) []) := fun i =>
      (prodM_good (ν := fun _ => 0) (D := D) gt.pos (s.take i) [] ⟨List.nodup_nil, fun _ h => by cases h⟩ fun z hz => gs.pos z (List.mem_of_mem_take hz)).1
    refine ⟨.ref a, rfl, a, rfl, ⟨xs, (KT.of s1).sqT has.T⟩, for_it (walk_tup (xs := xs)) (fun i σ Hx => ∃ y3 y4 y5 y6 y7, σ = [some (.ref a), some (.ref b), some (.ref d), y3, y4, y5, y6, y7] ∧ Same H Hx ∧ DM K P w Hx d ((s.take i).foldl (rowM t) []))
      ⟨none, none, none, none, none, rfl, s1, m1⟩ (fun i σ Hx _ p => ?_) (fun i x σ Hx Hx' hi p y => ?_) (fun σ Hx p => ?_)⟩
    · obtain ⟨_, _, _, _, _, _, sm, _⟩ := p
      exact (KT.of sm).sqT has.T
    · obtain ⟨y3, y4, y5, y6, y7, rfl, sm, dm⟩ := p
      obtain ⟨rfl, hx⟩ := y
      obtain ⟨e, he, tx⟩ := had.ix hx
      obtain ⟨a2, zs, rfl, hz, hzd⟩ := (tx.up (.of sm)).tupInv
      obtain ⟨u1, u2, rfl, t1, t2⟩ := hzd.two
      obtain rfl := t2.intInv
      obtain ⟨a3, ws, rfl, w1, w2⟩ := TD.tupInv (t1 : TD K _ _ (.tuple (e.1.map dF)))
      obtain ⟨e1, e2⟩ := gs.pos e (List.mem_of_getElem? he)
      have e3 := h3 e (List.mem_of_getElem? he)
      have preR : ∀ j, Pre N (D + E) (prodRow e.1 e.2 ((s.take i).foldl (rowM t) []) (t.take j)) := fun j =>
        (prodRow_good (ν := fun _ => 0) e2 e1 (t.take j) _ (preM i) fun z hz => gt.pos z (List.mem_of_mem_take hz)).1
      refine ⟨a2, _, rfl, hz.T, rfl, _, _, rfl, _, _, rfl, rfl, .ref b, rfl, b, rfl, ⟨ys, (KT.of sm).sqT hbs.T⟩,
        for_it (walk_tup (xs := ys)) (fun j σ Hz => ∃ y5 y6 y7, σ = [some (.ref a), some (.ref b), some (.ref d), some (.ref a3), some (.int e.2), y5, y6, y7] ∧ Same H Hz ∧ TD K Hz (.ref a3) (dP e.1) ∧ DM K P w Hz d (prodRow e.1 e.2 ((s.take i).foldl (rowM t) []) (t.take j)))
          ⟨y5, y6, y7, rfl, sm, t1, dm⟩ (fun j σ Hz _ p => ?_) (fun j x σ Hz Hz' hj p y => ?_) (fun σ Hz p => ?_)⟩
      · obtain ⟨_, _, _, _, sz, _⟩ := p
        exact (KT.of sz).sqT hbs.T
      · obtain ⟨y5, y6, y7, rfl, sz, to, dm⟩ := p
        obtain ⟨rfl, hx2⟩ := y
        obtain ⟨g, hg, ty⟩ := hbd.ix hx2
        obtain ⟨b2, zs2, rfl, hz2, hzd2⟩ := (ty.up (.of sz)).tupInv
        obtain ⟨v1, v2, rfl, r1, r2⟩ := hzd2.two
        obtain rfl := r2.intInv
        obtain ⟨g1, g2⟩ := gt.pos g (List.mem_of_getElem? hg)
        have pre := preR j
        refine ⟨b2, _, rfl, hz2.T, rfl, _, _, rfl, _, _, rfl, rfl, _, rfl, _, rfl, _, _, e.1, g.1, N, D, E, rfl, to, r1, e2, g2, hN, fun H5 r s5 tr => ?_⟩
        have dm5 := dm.up s5
        refine ⟨_, rfl, ⟨d, _, rfl, dm5⟩, _, rfl, d, r, _, _, rfl, rfl, rfl, dm5, tr, _, rfl, _, rfl, _, _, rfl, rfl, .inl ⟨by omega, by omega⟩, _, _, rfl, rfl, _, rfl, _, rfl, d, r, _, _, _, rfl, rfl, rfl, dm5, tr, szl _ (Nat.le_trans (pre_len hN hD pre) (by omega)), fun H6 b6 m6 => ?_⟩
        refine ⟨_, _, _, rfl, sm_but (fun c o e => s5 c o (sz c o e)) hd b6, (to.up (.of s5)).up (dm5.kt b6), ?_⟩
        have e : prodRow e.1 e.2 ((s.take i).foldl (rowM t) []) (t.take (j + 1)) = _ := foldl_take _ _ hg
        rw [e]
        exact m6
      · obtain ⟨y5, y6, y7, rfl, sz, to, dm⟩ := p
        rw [List.take_of_length_le (Nat.le_of_eq hbd.len.symm)] at dm
        refine ⟨_, _, _, _, _, rfl, sz, ?_⟩
        rw [foldl_take _ _ he]
        exact dm
    · obtain ⟨y3, y4, y5, y6, y7, rfl, sm, dm⟩ := p
      rw [List.take_of_length_le (Nat.le_of_eq had.len.symm)] at dm
      have pre := preM s.length
      rw [List.take_length] at pre
      refine ⟨_, rfl, d, _, rfl, dm, Nat.le_trans (pre_len hN hD pre) (by omega), fun H6 r s6 t6 => ?_⟩
      exact q H6 r (fun c o e => s6 c o (sm c o e)) t6
end
end Nk


/-! The walk, part 3: weight, sum_worth, is_whole, worth. -/
namespace Nk
open PySem PySem.Spec PyProof.Rows L2

def dK : Kd → PyData
  | .whole => .tuple [.str "whole"]
  | .place L => .tuple [.str "place", dL L]
  | .row L k => .tuple [.str "row", dL L, dK k]
  | .pair k j => .tuple [.str "pair", dK k, dK j]
def tag : Kd → Str
  | .whole => "whole"
  | .place _ => "place"
  | .row _ _ => "row"
  | .pair _ _ => "pair"
theorem ne_rw : decide (V.str "row" = V.str "pair") = false := by decide +kernel
theorem ne_wr : decide (V.str "whole" = V.str "row") = false := by decide +kernel
theorem ne_wp : decide (V.str "whole" = V.str "pair") = false := by decide +kernel
theorem ne_lr : decide (V.str "place" = V.str "row") = false := by decide +kernel
theorem ne_lp : decide (V.str "place" = V.str "pair") = false := by decide +kernel
theorem ne_pr : decide (V.str "pair" = V.str "row") = false := by decide +kernel
theorem ifF {b : Bool} {A B : Prop} (e : b = false) (h : B) : if b = true then A else B := by
  rw [e]
  exact iteF h
theorem ifT {b : Bool} {A B : Prop} (e : b = true) (h : A) : if b = true then A else B := by
  rw [e]
  exact iteT h
section
variable {K : PySem.W.Frag} {H : Hp}
theorem kd_whole {v : V} (h : TD K H v (dK .whole)) : ∃ a, v = .ref a ∧ SqT K H a [.str "whole"] := by
  obtain ⟨a, xs, rfl, hs, hd⟩ := h.tupInv
  obtain ⟨u, rfl, t⟩ := hd.one
  obtain rfl := t.strInv
  exact ⟨a, rfl, hs.T⟩
theorem kd_place {v : V} {L : Len} (h : TD K H v (dK (.place L))) : ∃ a l, v = .ref a ∧ SqT K H a [.str "place", l] ∧ TD K H l (dL L) := by
  obtain ⟨a, xs, rfl, hs, hd⟩ := h.tupInv
  obtain ⟨u, l, rfl, t, t2⟩ := hd.two
  obtain rfl := t.strInv
  exact ⟨a, l, rfl, hs.T, t2⟩
theorem kd_row {v : V} {L : Len} {k : Kd} (h : TD K H v (dK (.row L k))) : ∃ a l x, v = .ref a ∧ SqT K H a [.str "row", l, x] ∧ TD K H l (dL L) ∧ TD K H x (dK k) := by
  obtain ⟨a, xs, rfl, hs, hd⟩ := h.tupInv
  obtain ⟨u, l, x, rfl, t, t2, t3⟩ := hd.three
  obtain rfl := t.strInv
  exact ⟨a, l, x, rfl, hs.T, t2, t3⟩
theorem kd_pair {v : V} {k j : Kd} (h : TD K H v (dK (.pair k j))) : ∃ a x y, v = .ref a ∧ SqT K H a [.str "pair", x, y] ∧ TD K H x (dK k) ∧ TD K H y (dK j) := by
  obtain ⟨a, xs, rfl, hs, hd⟩ := h.tupInv
  obtain ⟨u, l, x, rfl, t, t2, t3⟩ := hd.three
  obtain rfl := t.strInv
  exact ⟨a, l, x, rfl, hs.T, t2, t3⟩
end
theorem size_pos (k : Kd) : 1 ≤ size k := by
  have := rows_size k
  have := rows_nn k
  omega
abbrev nWeight : List Str := ["kind"]
theorem scWeight : FnScope nWeight ["kind"] (defScope sWeight) := ⟨rfl, rfl, rfl, by decide +kernel, rfl, by decide +kernel, by decide +kernel⟩
/-- the written constant -/
def OneIs (K : PySem.W.Frag) (a : Addr) : Prop := ∀ H, TD K H (.ref a) (dS oneS)
section
variable {P : Program} {w : World} {K : PySem.W.Frag} {mg : Str → Option Value} {base : Heap}
/-! ### weight -/
def spWeight (K : PySem.W.Frag) (n : Nat) : Sp := fun vs H Q _ => ∃ v κ N, vs = [v] ∧ TD K H v (dK κ) ∧ KdOk N κ ∧ N.length ≤ 4 ∧ size κ ≤ n ∧ size κ ≤ 12 ∧ ∀ H' r, Same H H' → TD K H' (.ref r) (dS (weight κ)) → Q (.ref r) H'
theorem weight_none {f : Addr} {fd : FuncData} : FnOk P w K mg base CX0 0 f fd ["kind"] (spWeight K 0) := by
  have no : ∀ vs H Q E, ¬ spWeight K 0 vs H Q E := fun vs H Q E h => by
    obtain ⟨v, κ, N, _, _, _, _, h1, _⟩ := h
    have := size_pos κ
    omega
  exact ⟨fun vs H Q E h => absurd h (no vs H Q E), fun A outer s H args us vs Q E _ _ _ _ h => absurd h (no vs H Q E)⟩
theorem ok_weight {n : Nat} {f fL fT fP a1 : Addr} {fd fdL fdT fdP : FuncData} (F : Fun K "weight" "weight" sWeight f fd) (bF : Binds K fd ["kind"] []) (gF : mg "weight" = some (.ref f))
    (GL : FnOk P w K mg base CX0 2 fL fdL ["a"] (spOfLength K)) (bL : Binds K fdL ["a"] []) (kL : PySem.W.keepIn K (.ref fL) = true) (gL : mg "of_length" = some (.ref fL))
    (GT : FnOk P w K mg base CX0 2 fT fdT ["s", "t"] (spTogether K)) (bT : Binds K fdT ["s", "t"] []) (kT : PySem.W.keepIn K (.ref fT) = true) (gT : mg "together" = some (.ref fT))
    (GP : FnOk P w K mg base CX0 2 fP fdP ["s", "t"] (spProduct K)) (bP : Binds K fdP ["s", "t"] []) (kP : PySem.W.keepIn K (.ref fP) = true) (gP : mg "product" = some (.ref fP))
    (g1 : mg "ONE" = some (.ref a1)) (h1 : OneIs K a1)
    (G : FnOk P w K mg base CX0 (2 + n) f fd ["kind"] (spWeight K n)) : FnOk P w K mg base CX0 (2 + (n + 1)) f fd ["kind"] (spWeight K (n + 1)) := by
  refine F.ok scWeight (fun vs H Q E h => ?_) (fun cdv A outer s H vs Q E hr h => ?_)
  · obtain ⟨v, κ, N, rfl, _⟩ := h
    rfl
  · obtain ⟨v, κ, N, rfl, hv, hk, hN, hn, h12, q⟩ := h
    have hr2 := hr.mono (show 2 ≤ 2 + n by omega)
    refine ⟨_, pss_cons (ps_if (pt_cmpR op_eq (pe_ix ix_tup (pv 0) pe_int (fun _ _ => rfl)) pe_str (nomark _))
        (pss_one (ps_ret (pe_call GP hr2 (by rfl) gP kP bP .nil pass0 (pa_cons (pe_call GL hr2 (by rfl) gL kL bL .nil pass0 (pa_cons (pe_ix ix_tup (pv 0) pe_int (fun _ _ => rfl)) pa_nil)) (pa_cons (pe_call G hr (by rfl) gF F.kp bF .nil pass0 (pa_cons (pe_ix ix_tup (pv 0) pe_int (fun _ _ => rfl)) pa_nil)) pa_nil))))) pss_nil)
      (pss_cons (ps_if (pt_cmpR op_eq (pe_ix ix_tup (pv 0) pe_int (fun _ _ => rfl)) pe_str (nomark _))
        (pss_one (ps_ret (pe_call GT hr2 (by rfl) gT kT bT .nil pass0 (pa_cons (pe_call G hr (by rfl) gF F.kp bF .nil pass0 (pa_cons (pe_ix ix_tup (pv 0) pe_int (fun _ _ => rfl)) pa_nil)) (pa_cons (pe_call G hr (by rfl) gF F.kp bF .nil pass0 (pa_cons (pe_ix ix_tup (pv 0) pe_int (fun _ _ => rfl)) pa_nil)) pa_nil))))) pss_nil)
      (pss_one (ps_ret (pe_glob rfl g1 (v := V.ref a1) rfl)))), ?_⟩
    cases κ with
    | whole =>
      obtain ⟨a, rfl, hs⟩ := kd_whole hv
      refine ⟨_, rfl, a, _, 0, _, rfl, rfl, hs, atI_nat (j := 0) rfl, rfl, _, rfl, ifF ne_wr ?_⟩
      refine ⟨_, rfl, a, _, 0, _, rfl, rfl, hs, atI_nat (j := 0) rfl, rfl, _, rfl, ifF ne_wp ?_⟩
      exact q H a1 (Same.refl _) (h1 H)
    | place L =>
      obtain ⟨a, l, rfl, hs, tl⟩ := kd_place hv
      refine ⟨_, rfl, a, _, 0, _, rfl, rfl, hs, atI_nat (j := 0) rfl, rfl, _, rfl, ifF ne_lr ?_⟩
      refine ⟨_, rfl, a, _, 0, _, rfl, rfl, hs, atI_nat (j := 0) rfl, rfl, _, rfl, ifF ne_lp ?_⟩
      exact q H a1 (Same.refl _) (h1 H)
    | row L k =>
      obtain ⟨a, l, x, rfl, hs, tl, tk⟩ := kd_row hv
      obtain ⟨hL, hk⟩ := hk
      have hn' : size k + 1 ≤ (n + 1 : Nat) := hn
      have h12' : size k + 1 ≤ 12 := h12
      have hrw := rows_size k
      refine ⟨_, rfl, a, _, 0, _, rfl, rfl, hs, atI_nat (j := 0) rfl, rfl, _, rfl, ifT (decide_eq_true rfl) ?_⟩
      refine ⟨_, rfl, a, _, 1, _, rfl, rfl, hs, atI_nat (j := 1) rfl, l, L, N, rfl, tl, hL, hN, fun H1 r1 s1 t1 => ?_⟩
      refine ⟨_, rfl, a, _, 2, _, rfl, rfl, (KT.of s1).sqT hs, atI_nat (j := 2) rfl, x, k, N, rfl, tk.up (.of s1), hk, hN, by omega, by omega, fun H2 r2 s2 t2 => ?_⟩
      obtain ⟨o1, o2, _⟩ := ofLength_good (ν := fun _ => 0) hL
      refine ⟨_, _, _, _, N, _, _, rfl, t1.up (.of s2), t2, o1, o2, (weight_good (ν := fun _ => 0) k hk).1, hN, by omega, fun H3 r3 s3 t3 => ?_⟩
      exact q H3 r3 ((s1.trans s2).trans s3) t3
    | pair k j =>
      obtain ⟨a, x, y, rfl, hs, tk, tj⟩ := kd_pair hv
      obtain ⟨hk, hj⟩ := hk
      have hn' : size k + size j + 1 ≤ (n + 1 : Nat) := hn
      have h12' : size k + size j + 1 ≤ 12 := h12
      have r1 := rows_size k
      have r2 := rows_size j
      have p1 := rows_nn k
      have p2 := rows_nn j
      refine ⟨_, rfl, a, _, 0, _, rfl, rfl, hs, atI_nat (j := 0) rfl, rfl, _, rfl, ifF ne_pr ?_⟩
      refine ⟨_, rfl, a, _, 0, _, rfl, rfl, hs, atI_nat (j := 0) rfl, rfl, _, rfl, ifT (decide_eq_true rfl) ?_⟩
      refine ⟨_, rfl, a, _, 1, _, rfl, rfl, hs, atI_nat (j := 1) rfl, x, k, N, rfl, tk, hk, hN, by omega, by omega, fun H1 q1 s1 t1 => ?_⟩
      refine ⟨_, rfl, a, _, 2, _, rfl, rfl, (KT.of s1).sqT hs, atI_nat (j := 2) rfl, y, j, N, rfl, tj.up (.of s1), hj, hN, by omega, by omega, fun H2 q2 s2 t2 => ?_⟩
      refine ⟨_, _, _, _, N, rows k + rows j, rfl, t1.up (.of s2), t2, (weight_good (ν := fun _ => 0) k hk).1.up (by omega), (weight_good (ν := fun _ => 0) j hj).1.up (by omega), hN, by omega, fun H3 r3 s3 t3 => ?_⟩
      exact q H3 r3 ((s1.trans s2).trans s3) t3
end
end Nk


/-! The walk, part 4: sum_worth, is_whole, worth, is_value. -/
namespace Nk
open PySem PySem.Spec PyProof.Rows L2

abbrev sIsWhole : Stmt := topS 10
abbrev sWorth : Stmt := topS 11
abbrev sIsValue : Stmt := topS 14
abbrev nSumWorth : List Str := ["s", "numbers", "found", "powers", "times", "name", "power", "k"]
theorem scSumWorth : FnScope nSumWorth ["s", "numbers"] (defScope sSumWorth) := ⟨rfl, rfl, rfl, by decide +kernel, rfl, by decide +kernel, by decide +kernel⟩
abbrev nIsWhole : List Str := ["thing"]
theorem scIsWhole : FnScope nIsWhole ["thing"] (defScope sIsWhole) := ⟨rfl, rfl, rfl, by decide +kernel, rfl, by decide +kernel, by decide +kernel⟩
abbrev nWorth : List Str := ["a", "numbers", "name", "times"]
theorem scWorth : FnScope nWorth ["a", "numbers"] (defScope sWorth) := ⟨rfl, rfl, rfl, by decide +kernel, rfl, by decide +kernel, by decide +kernel⟩
abbrev nIsValue : List Str := ["kind", "numbers", "thing", "one"]
theorem scIsValue : FnScope nIsValue ["kind", "numbers", "thing"] (defScope sIsValue) := ⟨rfl, rfl, rfl, by decide +kernel, rfl, by decide +kernel, by decide +kernel⟩

/-- the numbers of the names -/
def NumD (H : Hp) (d : Addr) (ν : Str → Int) : Prop := ∃ kvs, H d = some (.dK kvs) ∧ (∀ x, (valV kvs (Sum.inr x)).getD (.int 0) = .int (ν x)) ∧ ∀ x, 0 ≤ ν x ∧ ν x ≤ 60
theorem NumD.up {H H' : Hp} {d : Addr} {ν : Str → Int} (h : NumD H d ν) (s : Same H H') : NumD H' d ν := by
  obtain ⟨kvs, e, r⟩ := h
  exact ⟨kvs, s _ _ e, r⟩
theorem pow_le_deg : ∀ {p : Pow}, (∀ f ∈ p, 1 ≤ f.2) → ∀ f ∈ p, f.2 ≤ degP p ∧ 0 ≤ degP p
  | [], _, f, h => by cases h
  | g :: p, h1, f, h => by
    have e : degP (g :: p) = g.2 * 1 + degP p := rfl
    have hg := h1 g List.mem_cons_self
    have h0 : 0 ≤ degP p := by
      cases p with
      | nil => exact Int.le_refl _
      | cons z p => exact (pow_le_deg (fun f hf => h1 f (List.mem_cons_of_mem _ hf)) z List.mem_cons_self).2
    rcases List.mem_cons.mp h with rfl | h
    · omega
    · have := (pow_le_deg (fun f hf => h1 f (List.mem_cons_of_mem _ hf)) f h).1
      omega
theorem sumG_take {κ : Type} [DecidableEq κ] (g : κ → Int) {l : List (κ × Int)} {i : Nat} {e : κ × Int} (h : l[i]? = some e) : sumG g (l.take (i + 1)) = sumG g (l.take i) + e.2 * g e.1 := by
  rw [List.take_add_one, h, sumG_append]
  show _ + (e.2 * g e.1 + 0) = _
  omega
theorem prodG_take {κ : Type} [DecidableEq κ] (g : κ → Int) {l : List (κ × Int)} {i : Nat} {e : κ × Int} (h : l[i]? = some e) : prodG g (l.take (i + 1)) = prodG g (l.take i) * g e.1 ^ e.2.toNat := by
  rw [List.take_add_one, h, prodG_append]
  show _ * (g e.1 ^ e.2.toNat * 1) = _
  rw [Int.mul_one]

section
variable {P : Program} {w : World} {K : PySem.W.Frag} {mg : Str → Option Value} {base : Heap}
/-! ### sum_worth -/
def spSumWorth (K : PySem.W.Frag) : Sp := fun vs H Q _ => ∃ u d s ν N D, vs = [u, .ref d] ∧ TD K H u (dS s) ∧ NumD H d ν ∧ GoodS N D s ∧ D ≤ 11 ∧ Q (.int (ev ν s)) H
theorem ok_sumWorth {f : Addr} {fd : FuncData} (F : Fun K "sum_worth" "sum_worth" sSumWorth f fd) (mr : mg "range" = none) : FnOk P w K mg base CX0 1 f fd ["s", "numbers"] (spSumWorth K) := by
  refine F.ok scSumWorth (fun vs H Q E h => ?_) (fun cdv A outer s H vs Q E hr h => ?_)
  · obtain ⟨u, d, s, ν, N, D, rfl, _⟩ := h
    rfl
  · obtain ⟨u, d, s, ν, N, D, rfl, hu, hnum, gs, hD, q⟩ := h
    refine ⟨_, pss_cons (ps_set (i := 2) scSumWorth.nd rfl (.inl rfl) pe_int)
      (pss_cons (ps_for PassesOwn.never rfl (pi_tup (pv 0)) (pg_tup rfl (pgs_cons (pg_name (i := 3) scSumWorth.nd rfl (.inl rfl)) (pgs_cons (pg_name (i := 4) scSumWorth.nd rfl (.inl rfl)) pgs_nil)))
        (pss_cons (ps_for PassesOwn.never rfl (pi_tup (pv 3)) (pg_tup rfl (pgs_cons (pg_name (i := 5) scSumWorth.nd rfl (.inl rfl)) (pgs_cons (pg_name (i := 6) scSumWorth.nd rfl (.inl rfl)) pgs_nil)))
          (pss_one (ps_for PassesOwn.never rfl (pi_range1 (by rfl) mr (pa_cons (pv 6) pa_nil)) (pg_name (i := 7) scSumWorth.nd rfl (.inl rfl))
            (pss_one (ps_set (i := 4) scSumWorth.nd rfl (.inl rfl) (pe_op op_mul (pv 4) (pe_dget2 (hu_of hr) (pv 1) (pv 5) pe_int ⟨rfl, rfl, rfl, rfl⟩)))))))
        (pss_one (ps_aug (i := 2) scSumWorth.nd rfl (.inl rfl) (pv 4) ip_add))))
      (pss_one (ps_ret (pv 2)))), ?_⟩
    obtain ⟨a, xs, rfl, has, had⟩ := TD.tupInv (hu : TD K H _ (.tuple (s.map dT)))
    obtain ⟨kvs, hkd, hval, hbd⟩ := hnum
    refine ⟨.ref a, rfl, a, rfl, ⟨xs, has.T⟩, for_it (walk_tup (xs := xs)) (fun i σ Hx => ∃ y3 y4 y5 y6 y7, σ = [some (.ref a), some (.ref d), some (.int (ev ν (s.take i))), y3, y4, y5, y6, y7] ∧ Hx = H)
      ⟨none, none, none, none, none, rfl, rfl⟩ (fun i σ Hx _ p => ?_) (fun i x σ Hx Hx' hi p y => ?_) (fun σ Hx p => ?_)⟩
    · obtain ⟨_, _, _, _, _, _, rfl⟩ := p
      exact has.T
    · obtain ⟨y3, y4, y5, y6, y7, rfl, rfl⟩ := p
      obtain ⟨rfl, hx⟩ := y
      obtain ⟨e, he, tx⟩ := had.ix hx
      obtain ⟨a2, zs, rfl, hz, hzd⟩ := tx.tupInv
      obtain ⟨u1, u2, rfl, t1, t2⟩ := hzd.two
      obtain rfl := t2.intInv
      obtain ⟨a3, ws, rfl, w1, w2⟩ := TD.tupInv (t1 : TD K _ _ (.tuple (e.1.map dF)))
      obtain ⟨e1, e2⟩ := gs.pos e (List.mem_of_getElem? he)
      refine ⟨a2, _, rfl, hz.T, rfl, _, _, rfl, _, _, rfl, rfl, .ref a3, rfl, a3, rfl, ⟨ws, w1.T⟩,
        for_it (walk_tup (xs := ws)) (fun j σ Hz => ∃ y5 y6 y7, σ = [some (.ref a), some (.ref d), some (.int (ev ν (s.take i))), some (.ref a3), some (.int (e.2 * mono ν (e.1.take j))), y5, y6, y7] ∧ Hz = Hx')
          ⟨y5, y6, y7, ?_, rfl⟩ (fun j σ Hz _ p => ?_) (fun j x σ Hz Hz' hj p y => ?_) (fun σ Hz p => ?_)⟩
      · show _ = [_, _, _, _, some (V.int (e.2 * 1)), _, _, _]
        rw [Int.mul_one]
        rfl
      · obtain ⟨_, _, _, _, rfl⟩ := p
        exact w1.T
      · obtain ⟨y5, y6, y7, rfl, rfl⟩ := p
        obtain ⟨rfl, hx2⟩ := y
        obtain ⟨g, hg, ty⟩ := w2.ix hx2
        obtain ⟨b2, zs2, rfl, hz2, hzd2⟩ := ty.tupInv
        obtain ⟨v1, v2, rfl, r1, r2⟩ := hzd2.two
        obtain rfl := r1.strInv
        obtain rfl := r2.intInv
        have hg1 := (e2.pos g (List.mem_of_getElem? hg)).1
        have hg2 := (pow_le_deg (fun f hf => (e2.pos f hf).1) g (List.mem_of_getElem? hg)).1
        have hg3 := e2.deg
        refine ⟨b2, _, rfl, hz2.T, rfl, _, _, rfl, _, _, rfl, rfl, .int g.2, rfl, g.2, rfl, by omega, by omega,
          for_range (n := g.2.toNat) (fun l σ Hz => ∃ y7, σ = [some (.ref a), some (.ref d), some (.int (ev ν (s.take i))), some (.ref a3), some (.int (e.2 * mono ν (e.1.take j) * ν g.1 ^ l)), some (.str g.1), some (.int g.2), y7] ∧ Hz = Hz')
            ⟨y7, ?_, rfl⟩ (fun l σ Hl hl p => ?_) (fun σ Hl p => ?_)⟩
        · rw [Int.pow_zero, Int.mul_one]
          rfl
        · obtain ⟨y7, rfl, rfl⟩ := p
          have hb := hbd g.1
          refine ⟨_, rfl, .ref d, rfl, d, rfl, .inl ⟨_, .inl hkd⟩, _, rfl, _, DGet.k (k := Sum.inr g.1) hkd, _, _, rfl, hval _, .inr ⟨by omega, by omega⟩, some (.int (0 + (l : Int))), ?_, rfl⟩
          rw [Int.pow_succ, ← Int.mul_assoc]
          rfl
        · obtain ⟨y7, rfl, rfl⟩ := p
          refine ⟨some (.str g.1), some (.int g.2), y7, ?_, rfl⟩
          rw [show mono ν (e.1.take (j + 1)) = _ from prodG_take ν hg, ← Int.mul_assoc]
      · obtain ⟨y5, y6, y7, rfl, rfl⟩ := p
        rw [List.take_of_length_le (Nat.le_of_eq w2.len.symm)]
        refine ⟨_, rfl, _, rfl, _, _, rfl, rfl, some (.ref a3), some (.int (e.2 * mono ν e.1)), y5, y6, y7, ?_, rfl⟩
        rw [show ev ν (s.take (i + 1)) = _ from sumG_take (mono ν) he]
        rfl
    · obtain ⟨y3, y4, y5, y6, y7, rfl, rfl⟩ := p
      rw [List.take_of_length_le (Nat.le_of_eq had.len.symm)]
      exact ⟨_, rfl, q⟩

/-! ### is_whole -/
def spIsWhole : Sp := fun vs H Q _ => ∃ i : Int, vs = [.int i] ∧ Q (.bl true) H
theorem ok_isWhole {f : Addr} {fd : FuncData} (F : Fun K "is_whole" "is_whole" sIsWhole f fd) (mi : mg "isinstance" = none) (mn : mg "int" = none) (mb : mg "bool" = none) : FnOk P w K mg base CX0 1 f fd ["thing"] spIsWhole := by
  refine F.ok scIsWhole (fun vs H Q E h => ?_) (fun cdv A outer s H vs Q E hr h => ?_)
  · obtain ⟨i, rfl, _⟩ := h
    rfl
  · obtain ⟨i, rfl, q⟩ := h
    refine ⟨_, pss_one (ps_ret (pe_and (pe_callB call_isi (by rfl) mi PyProof.Rows.boot_isinstance (pa_cons (pv 0) (pa_cons (pe_bltn (by rfl) mn PyProof.Rows.boot_int (v := V.ty "int") rfl) pa_nil)))
      (pe_one (pe_not (pe_callB call_isi (by rfl) mi PyProof.Rows.boot_isinstance (pa_cons (pv 0) (pa_cons (pe_bltn (by rfl) mb PyProof.Rows.boot_bool (v := V.ty "bool") rfl) pa_nil))))))), ?_⟩
    refine ⟨_, rfl, _, _, _, _, true, rfl, .ty "int", .base (.int i), kit_ty (by decide +kernel), true, rfl, iteT ?_⟩
    exact ⟨_, rfl, _, _, _, _, false, rfl, .ty "bool", .base (.int i), kit_ty (by decide +kernel), false, rfl, q⟩

/-! ### worth -/
def spWorth (K : PySem.W.Frag) : Sp := fun vs H Q _ => ∃ v d L N ν, vs = [v, .ref d] ∧ TD K H v (dL L) ∧ NumD H d ν ∧ LenOk N L ∧ N.length ≤ 4 ∧ ∀ H', Same H H' → Q (.int (worth ν L)) H'
theorem sum_map (ν : Str → Int) : ∀ p : Pow, (p.map fun f => f.2 * ν f.1).sum = sumG ν p
  | [] => rfl
  | f :: p => by
    rw [List.map_cons, List.sum_cons, sum_map ν p]
    rfl
theorem ok_worth {f : Addr} {fd : FuncData} (F : Fun K "worth" "worth" sWorth f fd) (ms : mg "sum" = none) : FnOk P w K mg base CX0 1 f fd ["a", "numbers"] (spWorth K) := by
  refine F.ok scWorth (fun vs H Q E h => ?_) (fun cdv A outer s H vs Q E hr h => ?_)
  · obtain ⟨v, d, L, N, ν, rfl, _⟩ := h
    rfl
  · obtain ⟨v, d, L, N, ν, rfl, hv, hnum, hL, hN, q⟩ := h
    refine ⟨_, pss_one (ps_ret (pe_op op_add (pe_ix ix_tup (pv 0) pe_int (fun _ _ => rfl)) (pe_callB (cr_sum rfl) (by rfl) ms PyProof.Rows.boot_sum (pa_cons
      (pe_lc (g := gTup K 2 (gCons (gName 2) (gCons (gName 3) gNil))) (tt := tYes) (own := [("name", 2), ("times", 3)]) rfl scWorth.nd (pi_tup (pe_ix ix_tup (pv 0) pe_int (fun _ _ => rfl))) (blkOk_by (N := nWorth) (sc := defScope sWorth) (by decide +kernel))
        (fun _ _ _ _ _ => pg_tup rfl (pgs_cons (pg_name (i := 2) scWorth.nd rfl (Or.inl rfl)) (pgs_cons (pg_name (i := 3) scWorth.nd rfl (Or.inl rfl)) pgs_nil)))
        (fun _ _ _ _ _ => pts_nil)
        (fun _ _ _ _ _ => pe_op op_mul (pv 3) (pe_dget2 (hu_of hr) (pv 1) (pv 2) pe_int ⟨rfl, rfl, rfl, rfl⟩))) pa_nil)))), ?_⟩
    obtain ⟨a, xs, rfl, hs, hd⟩ := hv.tupInv
    obtain ⟨vn, vp, rfl, hvn, hvp⟩ := hd.two
    obtain rfl := hvn.intInv
    obtain ⟨b, ys, rfl, hbs, hbd⟩ := TD.tupInv (hvp : TD K H _ (.tuple (L.p.map dF)))
    obtain ⟨kvs, hkd, hval, hbnd⟩ := hnum
    refine ⟨_, rfl, a, _, 0, _, rfl, rfl, hs.T, atI_nat (j := 0) rfl, _, rfl, a, _, 1, _, rfl, rfl, hs.T, atI_nat (j := 1) rfl, b, rfl, ⟨ys, hbs.T⟩, fun D hD =>
      lc_it (walk_tup (xs := ys)) (fun i Hx => Same H Hx ∧ Hx D = some (.lst (((L.p.take i).map fun f => f.2 * ν f.1).map V.int)))
        ⟨same_new hD _, upd_same⟩ (fun i Hx _ p => (KT.of p.1).sqT hbs.T) (fun i x Hx Hx' hi p y => ?_) (fun Hx p => ?_)⟩
    · obtain ⟨sm, hy⟩ := p
      obtain ⟨rfl, hx⟩ := y
      obtain ⟨e, he, tx⟩ := hbd.ix hx
      obtain ⟨a2, zs, rfl, hz, hzd⟩ := (tx.up (.of sm)).tupInv
      obtain ⟨u1, u2, rfl, t1, t2⟩ := hzd.two
      obtain rfl := t1.strInv
      obtain rfl := t2.intInv
      have hb := hbnd e.1
      have hi' : i < L.p.length := by rw [← hbd.len]; exact hi
      refine ⟨a2, _, rfl, hz.T, rfl, _, _, rfl, _, _, rfl, rfl, rfl, _, rfl, .ref d, rfl, d, rfl, .inl ⟨_, .inl (sm _ _ hkd)⟩, _, rfl, _, DGet.k (k := Sum.inr e.1) (sm _ _ hkd), _, _, rfl, hval _, .inr ⟨by omega, by omega⟩, _, hy, ?_, sm_upd sm hD, ?_⟩
      · have hl4 := len_le hL.nod fun f hf => (hL.pos f hf).2.2
        rw [List.length_map, List.length_map, List.length_take]
        exact szl _ (by omega)
      · rw [upd_same, List.take_add_one, he, List.map_append, List.map_append]
        rfl
    · obtain ⟨sm, hy⟩ := p
      rw [List.take_of_length_le (Nat.le_of_eq hbd.len.symm)] at hy
      refine ⟨D, _, rfl, SqL.of hy, _, _, rfl, rfl, ?_⟩
      rw [sum_map]
      exact q Hx sm
end
end Nk


/-! The walk, part 5: is_value. -/
namespace Nk
open PySem PySem.Spec PyProof.Rows L2

def valD (ν : Str → Int) : Kd → PyData
  | .whole => .int 0
  | .place _ => .int 0
  | .row L k => .tuple (List.replicate (worth ν L).toNat (valD ν k))
  | .pair k j => .tuple [valD ν k, valD ν j]
def lacks (ν : Str → Int) : Kd → Bool
  | .whole => false
  | .place L => decide (worth ν L = 0)
  | .row L k => decide (0 < worth ν L) && lacks ν k
  | .pair k j => lacks ν k || lacks ν j
theorem replicate_all (b : Bool) : ∀ m : Nat, (List.replicate m b).all id = (decide (m = 0) || b)
  | 0 => rfl
  | m + 1 => by
    rw [List.replicate_succ, List.all_cons, replicate_all b m]
    cases b <;> simp
section
variable {P : Program} {w : World} {K : PySem.W.Frag} {mg : Str → Option Value} {base : Heap}
def spIsValue (K : PySem.W.Frag) (n : Nat) : Sp := fun vs H Q _ => ∃ v d u κ N ν, vs = [v, .ref d, u] ∧ TD K H v (dK κ) ∧ NumD H d ν ∧ TD K H u (valD ν κ) ∧ KdOk N κ ∧ N.length ≤ 4 ∧ size κ ≤ n ∧ ∀ H', Same H H' → Q (.bl (!lacks ν κ)) H'
theorem isValue_none {f : Addr} {fd : FuncData} : FnOk P w K mg base CX0 0 f fd ["kind", "numbers", "thing"] (spIsValue K 0) := by
  have no : ∀ vs H Q E, ¬ spIsValue K 0 vs H Q E := fun vs H Q E h => by
    obtain ⟨v, d, u, κ, N, ν, _, _, _, _, _, _, h1, _⟩ := h
    have := size_pos κ
    omega
  exact ⟨fun vs H Q E h => absurd h (no vs H Q E), fun A outer s H args us vs Q E _ _ _ _ h => absurd h (no vs H Q E)⟩
theorem worth_small {N : List Str} {L : Len} (hL : LenOk N L) (hN : N.length ≤ 4) {H : Hp} {d : Addr} {ν : Str → Int} (h : NumD H d ν) : 0 ≤ worth ν L ∧ worth ν L ≤ 723 := by
  obtain ⟨_, _, _, hb⟩ := h
  have := worth_bound hN hL (B := 60) (by omega) (fun x _ => hb x)
  omega
theorem ok_isValue {n : Nat} {f fW fI : Addr} {tl : Tok} {fd fdW fdI : FuncData} (F : Fun K "is_value" "is_value" sIsValue f fd) (bF : Binds K fd ["kind", "numbers", "thing"] []) (gF : mg "is_value" = some (.ref f))
    (GI : FnOk P w K mg base CX0 1 fI fdI ["thing"] spIsWhole) (bI : Binds K fdI ["thing"] []) (kI : PySem.W.keepIn K (.ref fI) = true) (gI : mg "is_whole" = some (.ref fI))
    (GW : FnOk P w K mg base CX0 1 fW fdW ["a", "numbers"] (spWorth K)) (bW : Binds K fdW ["a", "numbers"] []) (kW : PySem.W.keepIn K (.ref fW) = true) (gW : mg "worth" = some (.ref fW))
    (gL : mg "LARGE" = some (.int 1000000000000 tl)) (mi : mg "isinstance" = none) (mt : mg "tuple" = none) (ml : mg "len" = none) (ma : mg "all" = none)
    (G : FnOk P w K mg base CX0 (1 + n) f fd ["kind", "numbers", "thing"] (spIsValue K n)) : FnOk P w K mg base CX0 (1 + (n + 1)) f fd ["kind", "numbers", "thing"] (spIsValue K (n + 1)) := by
  refine F.ok scIsValue (fun vs H Q E h => ?_) (fun cdv A outer s H vs Q E hr h => ?_)
  · obtain ⟨v, d, u, κ, N, ν, rfl, _⟩ := h
    rfl
  · obtain ⟨v, d, u, κ, N, ν, rfl, hv, hnum, hu, hk, hN, hn, q⟩ := h
    have hr1 := hr.mono (show 1 ≤ 1 + n by omega)
    refine ⟨_, pss_cons (ps_if (pt_cmpR op_eq (pe_ix ix_tup (pv 0) pe_int (fun _ _ => rfl)) pe_str (nomark _))
        (pss_one (ps_ret (pe_and (pe_call GI hr1 (by rfl) gI kI bI .nil pass0 (pa_cons (pv 2) pa_nil)) (pe_one (pe_chain op_le op_lt pe_int (pv 2) (pe_glob rfl gL (v := V.int 1000000000000) ⟨_, rfl⟩)))))) pss_nil)
      (pss_cons (ps_if (pt_cmpR op_eq (pe_ix ix_tup (pv 0) pe_int (fun _ _ => rfl)) pe_str (nomark _))
        (pss_one (ps_ret (pe_and (pe_call GI hr1 (by rfl) gI kI bI .nil pass0 (pa_cons (pv 2) pa_nil)) (pe_one (pe_chain op_le op_lt pe_int (pv 2) (pe_call GW hr1 (by rfl) gW kW bW .nil pass0 (pa_cons (pe_ix ix_tup (pv 0) pe_int (fun _ _ => rfl)) (pa_cons (pv 1) pa_nil)))))))) pss_nil)
      (pss_cons (ps_if (pt_not (pt_val (pe_callB call_isi (by rfl) mi PyProof.Rows.boot_isinstance (pa_cons (pv 2) (pa_cons (pe_bltn (by rfl) mt PyProof.Rows.boot_tuple (v := V.ty "tuple") rfl) pa_nil))))) (pss_one (ps_ret pe_bl)) pss_nil)
      (pss_cons (ps_if (pt_cmpR op_eq (pe_ix ix_tup (pv 0) pe_int (fun _ _ => rfl)) pe_str (nomark _))
        (pss_cons (ps_if (pt_cmpR op_ne (pe_callB call_len_seq (by rfl) ml PySem.boot_len (pa_cons (pv 2) pa_nil)) pe_int (nomark _)) (pss_one (ps_ret pe_bl)) pss_nil)
        (pss_one (ps_ret (pe_and (pe_call G hr (by rfl) gF F.kp bF .nil pass0 (pa_cons (pe_ix ix_tup (pv 0) pe_int (fun _ _ => rfl)) (pa_cons (pv 1) (pa_cons (pe_ix ix_tup (pv 2) pe_int (fun _ _ => rfl)) pa_nil))))
          (pe_one (pe_call G hr (by rfl) gF F.kp bF .nil pass0 (pa_cons (pe_ix ix_tup (pv 0) pe_int (fun _ _ => rfl)) (pa_cons (pv 1) (pa_cons (pe_ix ix_tup (pv 2) pe_int (fun _ _ => rfl)) pa_nil))))))))) pss_nil)
      (pss_cons (ps_if (pt_cmpR op_ne (pe_callB call_len_seq (by rfl) ml PySem.boot_len (pa_cons (pv 2) pa_nil)) (pe_call GW hr1 (by rfl) gW kW bW .nil pass0 (pa_cons (pe_ix ix_tup (pv 0) pe_int (fun _ _ => rfl)) (pa_cons (pv 1) pa_nil))) (nomark _)) (pss_one (ps_ret pe_bl)) pss_nil)
      (pss_one (ps_ret (pe_callB (cr_all rfl) (by rfl) ma PyProof.Rows.boot_all (pa_cons
        (pe_lc (g := gName 3) (tt := tYes) (te := tCall (spIsValue K n) [] E0 (tCons (tOp (rIxT K) (tVar 0) (tC (V.int 2))) (tCons (tVar 1) (tCons (tVar 3) tNil)))) (own := [("one", 3)]) rfl scIsValue.nd (pi_tup (pv 2)) (blkOk_by (N := nIsValue) (sc := defScope sIsValue) (by decide +kernel))
          (fun _ _ _ _ _ => pg_name (i := 3) scIsValue.nd rfl (Or.inl rfl))
          (fun _ _ _ _ _ => pts_nil)
          (fun _ _ _ _ _ => pe_call G hr (by rfl) gF F.kp bF .nil pass0 (pa_cons (pe_ix ix_tup (pv 0) pe_int (fun _ _ => rfl)) (pa_cons (pv 1) (pa_cons (pv 3) pa_nil))))) pa_nil)))))))), ?_⟩
    have hw := hr
    cases κ with
    | whole =>
      obtain ⟨a, rfl, hs⟩ := kd_whole hv
      cases hu
      refine ⟨_, rfl, a, _, 0, _, rfl, rfl, hs, atI_nat (j := 0) rfl, rfl, _, rfl, ifT (decide_eq_true rfl) ?_⟩
      exact ⟨_, rfl, 0, rfl, true, rfl, iteT ⟨_, rfl, _, _, rfl, rfl, true, rfl, iteT ⟨_, _, rfl, rfl, q H (Same.refl _)⟩⟩⟩
    | place L =>
      obtain ⟨a, l, rfl, hs, tl⟩ := kd_place hv
      cases hu
      have hb := worth_small (show LenOk N L from hk) hN hnum
      refine ⟨_, rfl, a, _, 0, _, rfl, rfl, hs, atI_nat (j := 0) rfl, rfl, _, rfl, ifF (by decide +kernel) ?_⟩
      refine ⟨_, rfl, a, _, 0, _, rfl, rfl, hs, atI_nat (j := 0) rfl, rfl, _, rfl, ifT (decide_eq_true rfl) ?_⟩
      refine ⟨_, rfl, 0, rfl, true, rfl, iteT ⟨_, rfl, _, _, rfl, rfl, true, rfl, iteT ⟨_, rfl, a, _, 1, _, rfl, rfl, hs, atI_nat (j := 1) rfl, _, rfl, l, d, L, N, ν, rfl, tl, hnum, hk, hN, fun H1 s1 => ⟨_, _, rfl, rfl, ?_⟩⟩⟩⟩
      have e : (!lacks ν (.place L)) = decide (0 < worth ν L) := by
        show (!decide (worth ν L = 0)) = _
        by_cases c : worth ν L = 0
        · rw [decide_eq_true c, decide_eq_false (by omega)]
          rfl
        · rw [decide_eq_false c, decide_eq_true (by omega)]
          rfl
      have z := q H1 s1
      rw [e] at z
      exact z
    | row L k =>
      obtain ⟨a, l, x, rfl, hs, tl, tk⟩ := kd_row hv
      obtain ⟨hL, hk⟩ := hk
      have hb := worth_small hL hN hnum
      have hn' : size k + 1 ≤ (n + 1 : Nat) := hn
      obtain ⟨b, ys, rfl, hbs, hbd⟩ := TD.tupInv (hu : TD K H _ (.tuple (List.replicate (worth ν L).toNat (valD ν k))))
      have hlen : ys.length = (worth ν L).toNat := by rw [hbd.length, List.length_replicate]
      refine ⟨_, rfl, a, _, 0, _, rfl, rfl, hs, atI_nat (j := 0) rfl, rfl, _, rfl, ifF (by decide +kernel) ?_⟩
      refine ⟨_, rfl, a, _, 0, _, rfl, rfl, hs, atI_nat (j := 0) rfl, rfl, _, rfl, ifF (by decide +kernel) ?_⟩
      refine ⟨_, rfl, _, _, _, _, true, rfl, .ty "tuple", tyx_tup hbs.T, kit_ty (by decide +kernel), true, rfl, ifF rfl ?_⟩
      refine ⟨_, rfl, a, _, 0, _, rfl, rfl, hs, atI_nat (j := 0) rfl, rfl, _, rfl, ifF (by decide +kernel) ?_⟩
      refine ⟨_, rfl, b, ys, rfl, .inr hbs.T, _, rfl, a, _, 1, _, rfl, rfl, hs, atI_nat (j := 1) rfl, _, rfl, l, d, L, N, ν, rfl, tl, hnum, hL, hN, fun H1 s1 => ⟨rfl, _, rfl, iteNS (by rw [hlen]; congr 1; omega) ?_⟩⟩
      refine ⟨_, rfl, b, rfl, ⟨ys, (KT.of s1).sqT hbs.T⟩, fun D hD => lc_it (walk_tup (xs := ys)) (fun i Hx => Same H1 Hx ∧ Hx D = some (.lst ((List.replicate i (!lacks ν k)).map V.bl)))
        ⟨same_new hD _, upd_same⟩ (fun i Hx _ p => (KT.of (s1.trans p.1)).sqT hbs.T) (fun i y Hx Hx' hi p z => ?_) (fun Hx p => ?_)⟩
      · obtain ⟨sm, hy⟩ := p
        obtain ⟨rfl, hx⟩ := z
        obtain ⟨dd, e1, e2⟩ := hbd.at hx
        have e3 : dd = valD ν k := by
          rw [List.getElem?_replicate] at e1
          split at e1
          · exact (Option.some.inj e1).symm
          · cases e1
        subst e3
        have sH := s1.trans sm
        refine ⟨rfl, .ref a, rfl, a, _, 2, _, rfl, rfl, (KT.of sH).sqT hs, atI_nat (j := 2) rfl, _, rfl, _, rfl, x, d, y, k, N, ν, rfl, tk.up (.of sH), hnum.up sH, e2.up (.of sH), hk, hN, by omega, fun H2 s2 => ⟨_, s2 _ _ hy, ?_, sm_upd (sm.trans s2) hD, ?_⟩⟩
        · rw [List.length_map, List.length_replicate]
          exact szl _ (by omega)
        · rw [upd_same, List.replicate_succ', List.map_append]
          rfl
      · obtain ⟨sm, hy⟩ := p
        refine ⟨D, _, rfl, SqL.of hy, ?_⟩
        rw [replicate_all, hlen]
        have e : (decide ((worth ν L).toNat = 0) || !lacks ν k) = !lacks ν (.row L k) := by
          show _ = !(decide (0 < worth ν L) && lacks ν k)
          by_cases c : 0 < worth ν L
          · rw [decide_eq_true c, decide_eq_false (by omega)]
            simp
          · rw [decide_eq_false c, decide_eq_true (by omega)]
            simp
        rw [e]
        exact q Hx (s1.trans sm)
    | pair k j =>
      obtain ⟨a, x, y, rfl, hs, tk, tj⟩ := kd_pair hv
      obtain ⟨hk, hj⟩ := hk
      have hn' : size k + size j + 1 ≤ (n + 1 : Nat) := hn
      have p1 := size_pos k
      have p2 := size_pos j
      obtain ⟨b, ys, rfl, hbs, hbd⟩ := TD.tupInv (hu : TD K H _ (.tuple [valD ν k, valD ν j]))
      obtain ⟨z1, z2, rfl, t1, t2⟩ := hbd.two
      refine ⟨_, rfl, a, _, 0, _, rfl, rfl, hs, atI_nat (j := 0) rfl, rfl, _, rfl, ifF (by decide +kernel) ?_⟩
      refine ⟨_, rfl, a, _, 0, _, rfl, rfl, hs, atI_nat (j := 0) rfl, rfl, _, rfl, ifF (by decide +kernel) ?_⟩
      refine ⟨_, rfl, _, _, _, _, true, rfl, .ty "tuple", tyx_tup hbs.T, kit_ty (by decide +kernel), true, rfl, ifF rfl ?_⟩
      refine ⟨_, rfl, a, _, 0, _, rfl, rfl, hs, atI_nat (j := 0) rfl, rfl, _, rfl, ifT (decide_eq_true rfl) ?_⟩
      refine ⟨_, rfl, b, _, rfl, .inr hbs.T, rfl, _, rfl, iteNS rfl ?_⟩
      refine ⟨_, rfl, a, _, 1, _, rfl, rfl, hs, atI_nat (j := 1) rfl, _, rfl, _, rfl, b, _, 0, _, rfl, rfl, hbs.T, atI_nat (j := 0) rfl, x, d, z1, k, N, ν, rfl, tk, hnum, t1, hk, hN, by omega, fun H1 s1 => ⟨_, rfl, ?_⟩⟩
      refine ite2 (fun c => ?_) (fun c => ?_)
      · refine ⟨_, rfl, a, _, 2, _, rfl, rfl, (KT.of s1).sqT hs, atI_nat (j := 2) rfl, _, rfl, _, rfl, b, _, 1, _, rfl, rfl, (KT.of s1).sqT hbs.T, atI_nat (j := 1) rfl, y, d, z2, j, N, ν, rfl, tj.up (.of s1), hnum.up s1, t2.up (.of s1), hj, hN, by omega, fun H2 s2 => ?_⟩
        have z := q H2 (s1.trans s2)
        have e : lacks ν (.pair k j) = lacks ν j := by
          show (lacks ν k || lacks ν j) = _
          rw [Bool.not_eq_true'] at c
          rw [c]
          rfl
        rw [e] at z
        exact z
      · have z := q H1 s1
        have e : lacks ν (.pair k j) = true := by
          show (lacks ν k || lacks ν j) = _
          cases hl : lacks ν k with
          | true => rfl
          | false =>
            rw [hl] at c
            exact absurd rfl c
        rw [e] at z
        exact z
end
end Nk


/-! The walk, part 6: the law's own helpers over kinds. -/
namespace Nk
open PySem PySem.Spec PyProof.Rows L2

abbrev sLawWorth : Stmt := topS 21
abbrev sLawCount : Stmt := topS 22
abbrev sLawThings : Stmt := topS 23
abbrev sLawValue : Stmt := topS 24
abbrev sLawStand : Stmt := topS 25
abbrev sLawLacks : Stmt := topS 26
abbrev sLawWhole : Stmt := topS 27
abbrev nLawWorth : List Str := ["_law_length_here", "_law_numbers", "_law_found", "_law_name", "_law_times"]
theorem scLawWorth : FnScope nLawWorth ["_law_length_here", "_law_numbers"] (defScope sLawWorth) := ⟨rfl, rfl, rfl, by decide +kernel, rfl, by decide +kernel, by decide +kernel⟩
abbrev nLawCount : List Str := ["_law_kind", "_law_numbers", "_law_around"]
theorem scLawCount : FnScope nLawCount ["_law_kind", "_law_numbers", "_law_around"] (defScope sLawCount) := ⟨rfl, rfl, rfl, by decide +kernel, rfl, by decide +kernel, by decide +kernel⟩
abbrev nLawThings : List Str := ["_law_kind", "_law_numbers"]
theorem scLawThings : FnScope nLawThings ["_law_kind", "_law_numbers"] (defScope sLawThings) := ⟨rfl, rfl, rfl, by decide +kernel, rfl, by decide +kernel, by decide +kernel⟩
abbrev nLawValue : List Str := ["_law_kind", "_law_numbers", "_law_k"]
theorem scLawValue : FnScope nLawValue ["_law_kind", "_law_numbers"] (defScope sLawValue) := ⟨rfl, rfl, rfl, by decide +kernel, rfl, by decide +kernel, by decide +kernel⟩
abbrev nLawStand : List Str := ["_law_value_here", "_law_part"]
theorem scLawStand : FnScope nLawStand ["_law_value_here"] (defScope sLawStand) := ⟨rfl, rfl, rfl, by decide +kernel, rfl, by decide +kernel, by decide +kernel⟩
theorem scLawLacks : FnScope nLawThings ["_law_kind", "_law_numbers"] (defScope sLawLacks) := ⟨rfl, rfl, rfl, by decide +kernel, rfl, by decide +kernel, by decide +kernel⟩
abbrev nLawWhole : List Str := ["_law_found", "_law_least"]
theorem scLawWhole : FnScope nLawWhole ["_law_found", "_law_least"] (defScope sLawWhole) := ⟨rfl, rfl, rfl, by decide +kernel, rfl, by decide +kernel, by decide +kernel⟩

section
variable {P : Program} {w : World} {K : PySem.W.Frag} {mg : Str → Option Value} {base : Heap}
/-! ### _law_worth -/
theorem ok_lawWorth {f : Addr} {fd : FuncData} (F : Fun K "_law_worth" "_law_worth" sLawWorth f fd) : FnOk P w K mg base CX0 1 f fd ["_law_length_here", "_law_numbers"] (spWorth K) := by
  refine F.ok scLawWorth (fun vs H Q E h => ?_) (fun cdv A outer s H vs Q E hr h => ?_)
  · obtain ⟨v, d, L, N, ν, rfl, _⟩ := h
    rfl
  · obtain ⟨v, d, L, N, ν, rfl, hv, hnum, hL, hN, q⟩ := h
    refine ⟨_, pss_cons (ps_set (i := 2) scLawWorth.nd rfl (.inl rfl) (pe_ix ix_tup (pv 0) pe_int (fun _ _ => rfl)))
      (pss_cons (ps_for PassesOwn.never rfl (pi_tup (pe_ix ix_tup (pv 0) pe_int (fun _ _ => rfl))) (pg_tup rfl (pgs_cons (pg_name (i := 3) scLawWorth.nd rfl (.inl rfl)) (pgs_cons (pg_name (i := 4) scLawWorth.nd rfl (.inl rfl)) pgs_nil)))
        (pss_one (ps_set (i := 2) scLawWorth.nd rfl (.inl rfl) (pe_op op_add (pv 2) (pe_op op_mul (pv 4) (pe_dget2 (hu_of hr) (pv 1) (pv 3) pe_int ⟨rfl, rfl, rfl, rfl⟩))))))
      (pss_one (ps_ret (pv 2)))), ?_⟩
    obtain ⟨a, xs, rfl, hs, hd⟩ := hv.tupInv
    obtain ⟨vn, vp, rfl, hvn, hvp⟩ := hd.two
    obtain rfl := hvn.intInv
    obtain ⟨b, ys, rfl, hbs, hbd⟩ := TD.tupInv (hvp : TD K H _ (.tuple (L.p.map dF)))
    obtain ⟨kvs, hkd, hval, hbnd⟩ := hnum
    refine ⟨_, rfl, a, _, 0, _, rfl, rfl, hs.T, atI_nat (j := 0) rfl, _, rfl, a, _, 1, _, rfl, rfl, hs.T, atI_nat (j := 1) rfl, b, rfl, ⟨ys, hbs.T⟩,
      for_it (walk_tup (xs := ys)) (fun i σ Hx => ∃ y3 y4, σ = [some (.ref a), some (.ref d), some (.int (L.n + sumG ν (L.p.take i))), y3, y4] ∧ Hx = H) ⟨none, none, ?_, rfl⟩ (fun i σ Hx _ p => ?_) (fun i x σ Hx Hx' hi p y => ?_) (fun σ Hx p => ?_)⟩
    · show _ = [_, _, some (V.int (L.n + 0)), _, _]
      rw [Int.add_zero]
      rfl
    · obtain ⟨_, _, _, rfl⟩ := p
      exact hbs.T
    · obtain ⟨y3, y4, rfl, rfl⟩ := p
      obtain ⟨rfl, hx⟩ := y
      obtain ⟨e, he, tx⟩ := hbd.ix hx
      obtain ⟨a2, zs, rfl, hz, hzd⟩ := tx.tupInv
      obtain ⟨u1, u2, rfl, t1, t2⟩ := hzd.two
      obtain rfl := t1.strInv
      obtain rfl := t2.intInv
      have hb := hbnd e.1
      refine ⟨a2, _, rfl, hz.T, rfl, _, _, rfl, _, _, rfl, rfl, _, rfl, _, rfl, .ref d, rfl, d, rfl, .inl ⟨_, .inl hkd⟩, _, rfl, _, DGet.k (k := Sum.inr e.1) hkd, _, _, rfl, hval _, .inr ⟨by omega, by omega⟩, _, _, rfl, rfl, some (.str e.1), some (.int e.2), ?_, rfl⟩
      rw [sumG_take ν he, ← Int.add_assoc]
      rfl
    · obtain ⟨y3, y4, rfl, rfl⟩ := p
      rw [List.take_of_length_le (Nat.le_of_eq hbd.len.symm)]
      exact ⟨_, rfl, q Hx (Same.refl _)⟩

/-! ### _law_count -/
def spCount (K : PySem.W.Frag) (n : Nat) : Sp := fun vs H Q _ => ∃ v d r κ N ν, vs = [v, .ref d, .int r] ∧ TD K H v (dK κ) ∧ NumD H d ν ∧ KdOk N κ ∧ N.length ≤ 4 ∧ size κ ≤ n ∧ ∀ H', Same H H' → Q (.int (r * count ν κ)) H'
theorem count_none {f : Addr} {fd : FuncData} {ps : List Str} : FnOk P w K mg base CX0 0 f fd ps (spCount K 0) := by
  have no : ∀ vs H Q E, ¬ spCount K 0 vs H Q E := fun vs H Q E h => by
    obtain ⟨v, d, r, κ, N, ν, _, _, _, _, _, h1, _⟩ := h
    have := size_pos κ
    omega
  exact ⟨fun vs H Q E h => absurd h (no vs H Q E), fun A outer s H args us vs Q E _ _ _ _ h => absurd h (no vs H Q E)⟩
theorem ok_count {n : Nat} {f fW : Addr} {fd fdW : FuncData} (F : Fun K "_law_count" "_law_count" sLawCount f fd) (bF : Binds K fd ["_law_kind", "_law_numbers", "_law_around"] []) (gF : mg "_law_count" = some (.ref f))
    (GW : FnOk P w K mg base CX0 1 fW fdW ["_law_length_here", "_law_numbers"] (spWorth K)) (bW : Binds K fdW ["_law_length_here", "_law_numbers"] []) (kW : PySem.W.keepIn K (.ref fW) = true) (gW : mg "_law_worth" = some (.ref fW))
    (G : FnOk P w K mg base CX0 (1 + n) f fd ["_law_kind", "_law_numbers", "_law_around"] (spCount K n)) : FnOk P w K mg base CX0 (1 + (n + 1)) f fd ["_law_kind", "_law_numbers", "_law_around"] (spCount K (n + 1)) := by
  refine F.ok scLawCount (fun vs H Q E h => ?_) (fun cdv A outer s H vs Q E hr h => ?_)
  · obtain ⟨v, d, r, κ, N, ν, rfl, _⟩ := h
    rfl
  · obtain ⟨v, d, r, κ, N, ν, rfl, hv, hnum, hk, hN, hn, q⟩ := h
    have hr1 := hr.mono (show 1 ≤ 1 + n by omega)
    refine ⟨_, pss_cons (ps_if (pt_cmpR op_eq (pe_ix ix_tup (pv 0) pe_int (fun _ _ => rfl)) pe_str (nomark _))
        (pss_one (ps_ret (pe_call G hr (by rfl) gF F.kp bF .nil pass0 (pa_cons (pe_ix ix_tup (pv 0) pe_int (fun _ _ => rfl)) (pa_cons (pv 1) (pa_cons (pe_op op_mul (pv 2) (pe_call GW hr1 (by rfl) gW kW bW .nil pass0 (pa_cons (pe_ix ix_tup (pv 0) pe_int (fun _ _ => rfl)) (pa_cons (pv 1) pa_nil)))) pa_nil)))))) pss_nil)
      (pss_cons (ps_if (pt_cmpR op_eq (pe_ix ix_tup (pv 0) pe_int (fun _ _ => rfl)) pe_str (nomark _))
        (pss_one (ps_ret (pe_op op_add (pe_call G hr (by rfl) gF F.kp bF .nil pass0 (pa_cons (pe_ix ix_tup (pv 0) pe_int (fun _ _ => rfl)) (pa_cons (pv 1) (pa_cons (pv 2) pa_nil)))) (pe_call G hr (by rfl) gF F.kp bF .nil pass0 (pa_cons (pe_ix ix_tup (pv 0) pe_int (fun _ _ => rfl)) (pa_cons (pv 1) (pa_cons (pv 2) pa_nil))))))) pss_nil)
      (pss_one (ps_ret (pv 2)))), ?_⟩
    cases κ with
    | whole =>
      obtain ⟨a, rfl, hs⟩ := kd_whole hv
      refine ⟨_, rfl, a, _, 0, _, rfl, rfl, hs, atI_nat (j := 0) rfl, rfl, _, rfl, ifF (by decide +kernel) ?_⟩
      refine ⟨_, rfl, a, _, 0, _, rfl, rfl, hs, atI_nat (j := 0) rfl, rfl, _, rfl, ifF (by decide +kernel) ?_⟩
      have z := q H (Same.refl _)
      rw [show count ν .whole = 1 from rfl, Int.mul_one] at z
      exact ⟨_, rfl, z⟩
    | place L =>
      obtain ⟨a, l, rfl, hs, _⟩ := kd_place hv
      refine ⟨_, rfl, a, _, 0, _, rfl, rfl, hs, atI_nat (j := 0) rfl, rfl, _, rfl, ifF (by decide +kernel) ?_⟩
      refine ⟨_, rfl, a, _, 0, _, rfl, rfl, hs, atI_nat (j := 0) rfl, rfl, _, rfl, ifF (by decide +kernel) ?_⟩
      have z := q H (Same.refl _)
      rw [show count ν (.place L) = 1 from rfl, Int.mul_one] at z
      exact ⟨_, rfl, z⟩
    | row L k =>
      obtain ⟨a, l, x, rfl, hs, tl, tk⟩ := kd_row hv
      obtain ⟨hL, hk⟩ := hk
      have hb := worth_small hL hN hnum
      have hn' : size k + 1 ≤ (n + 1 : Nat) := hn
      refine ⟨_, rfl, a, _, 0, _, rfl, rfl, hs, atI_nat (j := 0) rfl, rfl, _, rfl, ifT (decide_eq_true rfl) ?_⟩
      refine ⟨_, rfl, a, _, 2, _, rfl, rfl, hs, atI_nat (j := 2) rfl, _, rfl, _, rfl, _, rfl, a, _, 1, _, rfl, rfl, hs, atI_nat (j := 1) rfl, _, rfl, l, d, L, N, ν, rfl, tl, hnum, hL, hN, fun H1 s1 => ⟨_, _, rfl, rfl, .inr ⟨by omega, by omega⟩, x, d, _, k, N, ν, rfl, tk.up (.of s1), hnum.up s1, hk, hN, by omega, fun H2 s2 => ?_⟩⟩
      have z := q H2 (s1.trans s2)
      rw [show count ν (.row L k) = worth ν L * count ν k from rfl, ← Int.mul_assoc] at z
      exact z
    | pair k j =>
      obtain ⟨a, x, y, rfl, hs, tk, tj⟩ := kd_pair hv
      obtain ⟨hk, hj⟩ := hk
      have hn' : size k + size j + 1 ≤ (n + 1 : Nat) := hn
      have p1 := size_pos k
      have p2 := size_pos j
      refine ⟨_, rfl, a, _, 0, _, rfl, rfl, hs, atI_nat (j := 0) rfl, rfl, _, rfl, ifF (by decide +kernel) ?_⟩
      refine ⟨_, rfl, a, _, 0, _, rfl, rfl, hs, atI_nat (j := 0) rfl, rfl, _, rfl, ifT (decide_eq_true rfl) ?_⟩
      refine ⟨_, rfl, a, _, 1, _, rfl, rfl, hs, atI_nat (j := 1) rfl, _, rfl, _, rfl, x, d, r, k, N, ν, rfl, tk, hnum, hk, hN, by omega, fun H1 s1 => ?_⟩
      refine ⟨_, rfl, a, _, 2, _, rfl, rfl, (KT.of s1).sqT hs, atI_nat (j := 2) rfl, _, rfl, _, rfl, y, d, r, j, N, ν, rfl, tj.up (.of s1), hnum.up s1, hj, hN, by omega, fun H2 s2 => ⟨_, _, rfl, rfl, ?_⟩⟩
      have z := q H2 (s1.trans s2)
      rw [show count ν (.pair k j) = count ν k + count ν j from rfl, Int.mul_add] at z
      exact z

/-! ### _law_things -/
def spThings (K : PySem.W.Frag) (n : Nat) : Sp := fun vs H Q _ => ∃ v d κ N ν, vs = [v, .ref d] ∧ TD K H v (dK κ) ∧ NumD H d ν ∧ KdOk N κ ∧ N.length ≤ 4 ∧ size κ ≤ n ∧ ∀ H' t, Same H H' → Q (.int t) H'
theorem things_none {f : Addr} {fd : FuncData} {ps : List Str} : FnOk P w K mg base CX0 0 f fd ps (spThings K 0) := by
  have no : ∀ vs H Q E, ¬ spThings K 0 vs H Q E := fun vs H Q E h => by
    obtain ⟨v, d, κ, N, ν, _, _, _, _, _, h1, _⟩ := h
    have := size_pos κ
    omega
  exact ⟨fun vs H Q E h => absurd h (no vs H Q E), fun A outer s H args us vs Q E _ _ _ _ h => absurd h (no vs H Q E)⟩
theorem ok_things {n : Nat} {f fW : Addr} {fd fdW : FuncData} (F : Fun K "_law_things" "_law_things" sLawThings f fd) (bF : Binds K fd ["_law_kind", "_law_numbers"] []) (gF : mg "_law_things" = some (.ref f))
    (GW : FnOk P w K mg base CX0 1 fW fdW ["_law_length_here", "_law_numbers"] (spWorth K)) (bW : Binds K fdW ["_law_length_here", "_law_numbers"] []) (kW : PySem.W.keepIn K (.ref fW) = true) (gW : mg "_law_worth" = some (.ref fW))
    (G : FnOk P w K mg base CX0 (1 + n) f fd ["_law_kind", "_law_numbers"] (spThings K n)) : FnOk P w K mg base CX0 (1 + (n + 1)) f fd ["_law_kind", "_law_numbers"] (spThings K (n + 1)) := by
  refine F.ok scLawThings (fun vs H Q E h => ?_) (fun cdv A outer s H vs Q E hr h => ?_)
  · obtain ⟨v, d, κ, N, ν, rfl, _⟩ := h
    rfl
  · obtain ⟨v, d, κ, N, ν, rfl, hv, hnum, hk, hN, hn, q⟩ := h
    have hr1 := hr.mono (show 1 ≤ 1 + n by omega)
    refine ⟨_, pss_cons (ps_if (pt_cmpR op_eq (pe_ix ix_tup (pv 0) pe_int (fun _ _ => rfl)) pe_str (nomark _))
        (pss_one (ps_ret (pe_op op_add pe_int (pe_op op_mul (pe_call GW hr1 (by rfl) gW kW bW .nil pass0 (pa_cons (pe_ix ix_tup (pv 0) pe_int (fun _ _ => rfl)) (pa_cons (pv 1) pa_nil))) (pe_call G hr (by rfl) gF F.kp bF .nil pass0 (pa_cons (pe_ix ix_tup (pv 0) pe_int (fun _ _ => rfl)) (pa_cons (pv 1) pa_nil))))))) pss_nil)
      (pss_cons (ps_if (pt_cmpR op_eq (pe_ix ix_tup (pv 0) pe_int (fun _ _ => rfl)) pe_str (nomark _))
        (pss_one (ps_ret (pe_op op_add (pe_op op_add pe_int (pe_call G hr (by rfl) gF F.kp bF .nil pass0 (pa_cons (pe_ix ix_tup (pv 0) pe_int (fun _ _ => rfl)) (pa_cons (pv 1) pa_nil)))) (pe_call G hr (by rfl) gF F.kp bF .nil pass0 (pa_cons (pe_ix ix_tup (pv 0) pe_int (fun _ _ => rfl)) (pa_cons (pv 1) pa_nil)))))) pss_nil)
      (pss_one (ps_ret pe_int))), ?_⟩
    cases κ with
    | whole =>
      obtain ⟨a, rfl, hs⟩ := kd_whole hv
      refine ⟨_, rfl, a, _, 0, _, rfl, rfl, hs, atI_nat (j := 0) rfl, rfl, _, rfl, ifF (by decide +kernel) ?_⟩
      refine ⟨_, rfl, a, _, 0, _, rfl, rfl, hs, atI_nat (j := 0) rfl, rfl, _, rfl, ifF (by decide +kernel) ?_⟩
      exact q H _ (Same.refl _)
    | place L =>
      obtain ⟨a, l, rfl, hs, _⟩ := kd_place hv
      refine ⟨_, rfl, a, _, 0, _, rfl, rfl, hs, atI_nat (j := 0) rfl, rfl, _, rfl, ifF (by decide +kernel) ?_⟩
      refine ⟨_, rfl, a, _, 0, _, rfl, rfl, hs, atI_nat (j := 0) rfl, rfl, _, rfl, ifF (by decide +kernel) ?_⟩
      exact q H _ (Same.refl _)
    | row L k =>
      obtain ⟨a, l, x, rfl, hs, tl, tk⟩ := kd_row hv
      obtain ⟨hL, hk⟩ := hk
      have hb := worth_small hL hN hnum
      have hn' : size k + 1 ≤ (n + 1 : Nat) := hn
      refine ⟨_, rfl, a, _, 0, _, rfl, rfl, hs, atI_nat (j := 0) rfl, rfl, _, rfl, ifT (decide_eq_true rfl) ?_⟩
      refine ⟨_, rfl, a, _, 1, _, rfl, rfl, hs, atI_nat (j := 1) rfl, _, rfl, l, d, L, N, ν, rfl, tl, hnum, hL, hN, fun H1 s1 => ?_⟩
      refine ⟨_, rfl, a, _, 2, _, rfl, rfl, (KT.of s1).sqT hs, atI_nat (j := 2) rfl, _, rfl, x, d, k, N, ν, rfl, tk.up (.of s1), hnum.up s1, hk, hN, by omega, fun H2 t s2 => ⟨_, _, rfl, rfl, .inl ⟨by omega, by omega⟩, _, _, rfl, rfl, ?_⟩⟩
      exact q H2 _ (s1.trans s2)
    | pair k j =>
      obtain ⟨a, x, y, rfl, hs, tk, tj⟩ := kd_pair hv
      obtain ⟨hk, hj⟩ := hk
      have hn' : size k + size j + 1 ≤ (n + 1 : Nat) := hn
      have p1 := size_pos k
      have p2 := size_pos j
      refine ⟨_, rfl, a, _, 0, _, rfl, rfl, hs, atI_nat (j := 0) rfl, rfl, _, rfl, ifF (by decide +kernel) ?_⟩
      refine ⟨_, rfl, a, _, 0, _, rfl, rfl, hs, atI_nat (j := 0) rfl, rfl, _, rfl, ifT (decide_eq_true rfl) ?_⟩
      refine ⟨_, rfl, a, _, 1, _, rfl, rfl, hs, atI_nat (j := 1) rfl, _, rfl, x, d, k, N, ν, rfl, tk, hnum, hk, hN, by omega, fun H1 t1 s1 => ⟨_, _, rfl, rfl, ?_⟩⟩
      refine ⟨_, rfl, a, _, 2, _, rfl, rfl, (KT.of s1).sqT hs, atI_nat (j := 2) rfl, _, rfl, y, d, j, N, ν, rfl, tj.up (.of s1), hnum.up s1, hj, hN, by omega, fun H2 t2 s2 => ⟨_, _, rfl, rfl, ?_⟩⟩
      exact q H2 _ (s1.trans s2)
end
end Nk


/-! The walk, part 7: values, what stands in them, what lacks; whole numbers. -/
namespace Nk
open PySem PySem.Spec PyProof.Rows L2

/-- the parts of a kind's value -/
theorem parts {ν : Str → Int} {N : List Str} (hν : ∀ x, 0 ≤ ν x ∧ ν x ≤ 60) (hN : N.length ≤ 4) : ∀ κ : Kd, KdOk N κ → (valD ν κ = .int 0 ∧ count ν κ = 1) ∨
    ∃ κs : List Kd, valD ν κ = .tuple (κs.map (valD ν)) ∧ count ν κ = (κs.map (count ν)).sum ∧ κs.length ≤ 723 ∧ ∀ k ∈ κs, KdOk N k ∧ size k + 1 ≤ size κ
  | .whole, _ => .inl ⟨rfl, rfl⟩
  | .place _, _ => .inl ⟨rfl, rfl⟩
  | .row L k, h => by
    have hb := worth_bound hN h.1 (B := 60) (by omega) (fun x _ => hν x)
    refine .inr ⟨List.replicate (worth ν L).toNat k, ?_, ?_, ?_, fun j hj => ?_⟩
    · rw [List.map_replicate]
      rfl
    · rw [List.map_replicate]
      show worth ν L * count ν k = _
      have e : ∀ m : Nat, (List.replicate m (count ν k)).sum = (m : Int) * count ν k := fun m => by
        induction m with
        | zero => simp
        | succ m ih =>
          rw [List.replicate_succ, List.sum_cons, ih, Int.natCast_add, Int.add_mul]
          simp
          omega
      rw [e]
      congr 1
      omega
    · rw [List.length_replicate]
      omega
    · rw [List.eq_of_mem_replicate hj]
      exact ⟨h.2, Int.le_refl _⟩
  | .pair k j, h => by
    have p1 := size_pos k
    have p2 := size_pos j
    refine .inr ⟨[k, j], rfl, ?_, by show 2 ≤ 723; omega, fun i hi => ?_⟩
    · show count ν k + count ν j = count ν k + (count ν j + 0)
      omega
    · rcases List.mem_cons.mp hi with rfl | hi
      · exact ⟨h.1, by show _ ≤ size i + size j + 1; omega⟩
      · rw [List.mem_singleton.mp hi]
        exact ⟨h.2, by show _ ≤ size k + size j + 1; omega⟩

section
variable {P : Program} {w : World} {K : PySem.W.Frag} {mg : Str → Option Value} {base : Heap}
/-! ### _law_value -/
def spValue (K : PySem.W.Frag) (n : Nat) : Sp := fun vs H Q _ => ∃ v d κ N ν, vs = [v, .ref d] ∧ TD K H v (dK κ) ∧ NumD H d ν ∧ KdOk N κ ∧ N.length ≤ 4 ∧ size κ ≤ n ∧ ∀ H' u, Same H H' → TD K H' u (valD ν κ) → Q u H'
theorem value_none {f : Addr} {fd : FuncData} {ps : List Str} : FnOk P w K mg base CX0 0 f fd ps (spValue K 0) := by
  have no : ∀ vs H Q E, ¬ spValue K 0 vs H Q E := fun vs H Q E h => by
    obtain ⟨v, d, κ, N, ν, _, _, _, _, _, h1, _⟩ := h
    have := size_pos κ
    omega
  exact ⟨fun vs H Q E h => absurd h (no vs H Q E), fun A outer s H args us vs Q E _ _ _ _ h => absurd h (no vs H Q E)⟩
theorem ok_value {n : Nat} {f fW : Addr} {fd fdW : FuncData} (F : Fun K "_law_value" "_law_value" sLawValue f fd) (bF : Binds K fd ["_law_kind", "_law_numbers"] []) (gF : mg "_law_value" = some (.ref f))
    (GW : FnOk P w K mg base CX0 1 fW fdW ["_law_length_here", "_law_numbers"] (spWorth K)) (bW : Binds K fdW ["_law_length_here", "_law_numbers"] []) (kW : PySem.W.keepIn K (.ref fW) = true) (gW : mg "_law_worth" = some (.ref fW))
    (mt : mg "tuple" = none) (mr : mg "range" = none)
    (G : FnOk P w K mg base CX0 (1 + n) f fd ["_law_kind", "_law_numbers"] (spValue K n)) : FnOk P w K mg base CX0 (1 + (n + 1)) f fd ["_law_kind", "_law_numbers"] (spValue K (n + 1)) := by
  refine F.ok scLawValue (fun vs H Q E h => ?_) (fun cdv A outer s H vs Q E hr h => ?_)
  · obtain ⟨v, d, κ, N, ν, rfl, _⟩ := h
    rfl
  · obtain ⟨v, d, κ, N, ν, rfl, hv, hnum, hk, hN, hn, q⟩ := h
    have hr1 := hr.mono (show 1 ≤ 1 + n by omega)
    refine ⟨_, pss_cons (ps_if (pt_cmpR op_eq (pe_ix ix_tup (pv 0) pe_int (fun _ _ => rfl)) pe_str (nomark _))
        (pss_one (ps_ret (pe_callTy cr_tupP (by rfl) mt PyProof.Rows.boot_tuple (pa_cons
          (pe_lc (g := gName 2) (tt := tYes) (te := tCall (spValue K n) [] E0 (tCons (tOp (rIxT K) (tVar 0) (tC (V.int 2))) (tCons (tVar 1) tNil))) (own := [("_law_k", 2)]) rfl scLawValue.nd
            (pi_range1 (by rfl) mr (pa_cons (pe_call GW hr1 (by rfl) gW kW bW .nil pass0 (pa_cons (pe_ix ix_tup (pv 0) pe_int (fun _ _ => rfl)) (pa_cons (pv 1) pa_nil))) pa_nil)) (blkOk_by (N := nLawValue) (sc := defScope sLawValue) (by decide +kernel))
            (fun _ _ _ _ _ => pg_name (i := 2) scLawValue.nd rfl (Or.inl rfl))
            (fun _ _ _ _ _ => pts_nil)
            (fun _ _ _ _ _ => pe_call G hr (by rfl) gF F.kp bF .nil pass0 (pa_cons (pe_ix ix_tup (pv 0) pe_int (fun _ _ => rfl)) (pa_cons (pv 1) pa_nil)))) pa_nil)))) pss_nil)
      (pss_cons (ps_if (pt_cmpR op_eq (pe_ix ix_tup (pv 0) pe_int (fun _ _ => rfl)) pe_str (nomark _))
        (pss_one (ps_ret (pe_tupP (pa_cons (pe_call G hr (by rfl) gF F.kp bF .nil pass0 (pa_cons (pe_ix ix_tup (pv 0) pe_int (fun _ _ => rfl)) (pa_cons (pv 1) pa_nil))) (pa_cons (pe_call G hr (by rfl) gF F.kp bF .nil pass0 (pa_cons (pe_ix ix_tup (pv 0) pe_int (fun _ _ => rfl)) (pa_cons (pv 1) pa_nil))) pa_nil))))) pss_nil)
      (pss_one (ps_ret pe_int))), ?_⟩
    cases κ with
    | whole =>
      obtain ⟨a, rfl, hs⟩ := kd_whole hv
      refine ⟨_, rfl, a, _, 0, _, rfl, rfl, hs, atI_nat (j := 0) rfl, rfl, _, rfl, ifF (by decide +kernel) ?_⟩
      refine ⟨_, rfl, a, _, 0, _, rfl, rfl, hs, atI_nat (j := 0) rfl, rfl, _, rfl, ifF (by decide +kernel) ?_⟩
      exact q H _ (Same.refl _) (.int 0)
    | place L =>
      obtain ⟨a, l, rfl, hs, _⟩ := kd_place hv
      refine ⟨_, rfl, a, _, 0, _, rfl, rfl, hs, atI_nat (j := 0) rfl, rfl, _, rfl, ifF (by decide +kernel) ?_⟩
      refine ⟨_, rfl, a, _, 0, _, rfl, rfl, hs, atI_nat (j := 0) rfl, rfl, _, rfl, ifF (by decide +kernel) ?_⟩
      exact q H _ (Same.refl _) (.int 0)
    | row L k =>
      obtain ⟨a, l, x, rfl, hs, tl, tk⟩ := kd_row hv
      obtain ⟨hL, hk⟩ := hk
      have hb := worth_small hL hN hnum
      have hn' : size k + 1 ≤ (n + 1 : Nat) := hn
      refine ⟨_, rfl, a, _, 0, _, rfl, rfl, hs, atI_nat (j := 0) rfl, rfl, _, rfl, ifT (decide_eq_true rfl) ?_⟩
      refine ⟨_, rfl, a, _, 1, _, rfl, rfl, hs, atI_nat (j := 1) rfl, _, rfl, l, d, L, N, ν, rfl, tl, hnum, hL, hN, fun H1 s1 => ⟨worth ν L, rfl, by omega, by omega, fun D hD =>
        lc_it (walk_range (n := (worth ν L).toNat)) (fun i Hx => Same H1 Hx ∧ ∃ ys, Hx D = some (.lst ys) ∧ TDs K Hx ys (List.replicate i (valD ν k)))
          ⟨same_new hD _, [], upd_same, .nil⟩ (fun i Hx _ p => True.intro) (fun i y Hx Hx' hi p z => ?_) (fun Hx p => ?_)⟩⟩
      · obtain ⟨sm, ys, hy, td⟩ := p
        obtain ⟨rfl, rfl⟩ := z
        have sH := s1.trans sm
        refine ⟨rfl, .ref a, rfl, a, _, 2, _, rfl, rfl, (KT.of sH).sqT hs, atI_nat (j := 2) rfl, _, rfl, x, d, k, N, ν, rfl, tk.up (.of sH), hnum.up sH, hk, hN, by omega, fun H2 u s2 tu => ⟨_, s2 _ _ hy, ?_, sm_upd (sm.trans s2) hD, _, upd_same, ?_⟩⟩
        · rw [td.length, List.length_replicate]
          exact szl _ (by omega)
        · rw [List.replicate_succ']
          have kt := kt_lst (o := .lst (ys ++ [u])) (s2 _ _ hy)
          exact ((td.up (.of s2)).up kt).snoc (tu.up kt)
      · obtain ⟨sm, ys, hy, td⟩ := p
        refine ⟨D, ys, rfl, SqL.of hy, fun r u hr hu => q _ _ (sm_new (s1.trans sm) hr) (.tup (sqP_new hu) (td.up (KT.new hr _)))⟩
    | pair k j =>
      obtain ⟨a, x, y, rfl, hs, tk, tj⟩ := kd_pair hv
      obtain ⟨hk, hj⟩ := hk
      have hn' : size k + size j + 1 ≤ (n + 1 : Nat) := hn
      have p1 := size_pos k
      have p2 := size_pos j
      refine ⟨_, rfl, a, _, 0, _, rfl, rfl, hs, atI_nat (j := 0) rfl, rfl, _, rfl, ifF (by decide +kernel) ?_⟩
      refine ⟨_, rfl, a, _, 0, _, rfl, rfl, hs, atI_nat (j := 0) rfl, rfl, _, rfl, ifT (decide_eq_true rfl) ?_⟩
      refine ⟨_, rfl, a, _, 1, _, rfl, rfl, hs, atI_nat (j := 1) rfl, _, rfl, x, d, k, N, ν, rfl, tk, hnum, hk, hN, by omega, fun H1 u1 s1 t1 => ?_⟩
      refine ⟨_, rfl, a, _, 2, _, rfl, rfl, (KT.of s1).sqT hs, atI_nat (j := 2) rfl, _, rfl, y, d, j, N, ν, rfl, tj.up (.of s1), hnum.up s1, hj, hN, by omega, fun H2 u2 s2 t2 => ⟨lt_le (szl 2 (by omega)), fun r u hr hu => ?_⟩⟩
      exact q _ _ (sm_new (s1.trans s2) hr) (.tup (sqP_new hu) (.cons ((t1.up (.of s2)).up (KT.new hr _)) (.cons (t2.up (KT.new hr _)) .nil)))

/-! ### _law_stand -/
def spStand (K : PySem.W.Frag) (n : Nat) : Sp := fun vs H Q _ => ∃ u κ N ν, vs = [u] ∧ TD K H u (valD ν κ) ∧ (∀ x, 0 ≤ ν x ∧ ν x ≤ 60) ∧ KdOk N κ ∧ N.length ≤ 4 ∧ size κ ≤ n ∧ ∀ H', Same H H' → Q (.int (count ν κ)) H'
theorem stand_none {f : Addr} {fd : FuncData} {ps : List Str} : FnOk P w K mg base CX0 0 f fd ps (spStand K 0) := by
  have no : ∀ vs H Q E, ¬ spStand K 0 vs H Q E := fun vs H Q E h => by
    obtain ⟨v, κ, N, ν, _, _, _, _, _, h1, _⟩ := h
    have := size_pos κ
    omega
  exact ⟨fun vs H Q E h => absurd h (no vs H Q E), fun A outer s H args us vs Q E _ _ _ _ h => absurd h (no vs H Q E)⟩
theorem ok_stand {n : Nat} {f : Addr} {fd : FuncData} (F : Fun K "_law_stand" "_law_stand" sLawStand f fd) (bF : Binds K fd ["_law_value_here"] []) (gF : mg "_law_stand" = some (.ref f)) (mi : mg "isinstance" = none) (mt : mg "tuple" = none) (ms : mg "sum" = none)
    (G : FnOk P w K mg base CX0 (1 + n) f fd ["_law_value_here"] (spStand K n)) : FnOk P w K mg base CX0 (1 + (n + 1)) f fd ["_law_value_here"] (spStand K (n + 1)) := by
  refine F.ok scLawStand (fun vs H Q E h => ?_) (fun cdv A outer s H vs Q E hr h => ?_)
  · obtain ⟨u, κ, N, ν, rfl, _⟩ := h
    rfl
  · obtain ⟨u, κ, N, ν, rfl, hu, hν, hk, hN, hn, q⟩ := h
    refine ⟨_, pss_cons (ps_if (pt_val (pe_callB call_isi (by rfl) mi PyProof.Rows.boot_isinstance (pa_cons (pv 0) (pa_cons (pe_bltn (by rfl) mt PyProof.Rows.boot_tuple (v := V.ty "tuple") rfl) pa_nil))))
        (pss_one (ps_ret (pe_callB (cr_sum rfl) (by rfl) ms PyProof.Rows.boot_sum (pa_cons
          (pe_lc (g := gName 1) (tt := tYes) (te := tCall (spStand K n) [] E0 (tCons (tVar 1) tNil)) (own := [("_law_part", 1)]) rfl scLawStand.nd (pi_tup (pv 0)) (blkOk_by (N := nLawStand) (sc := defScope sLawStand) (by decide +kernel))
            (fun _ _ _ _ _ => pg_name (i := 1) scLawStand.nd rfl (Or.inl rfl))
            (fun _ _ _ _ _ => pts_nil)
            (fun _ _ _ _ _ => pe_call G hr (by rfl) gF F.kp bF .nil pass0 (pa_cons (pv 1) pa_nil))) pa_nil)))) pss_nil)
      (pss_one (ps_ret pe_int)), ?_⟩
    rcases parts hν hN κ hk with ⟨e1, e2⟩ | ⟨κs, e1, e2, hl, hks⟩
    · rw [e1] at hu
      obtain rfl := hu.intInv
      refine ⟨_, rfl, _, _, _, _, false, rfl, .ty "tuple", .base (.int 0), kit_ty (by decide +kernel), false, rfl, iteF ?_⟩
      have z := q H (Same.refl _)
      rw [e2] at z
      exact z
    · rw [e1] at hu
      obtain ⟨b, ys, rfl, hbs, hbd⟩ := hu.tupInv
      refine ⟨_, rfl, _, _, _, _, true, rfl, .ty "tuple", tyx_tup hbs.T, kit_ty (by decide +kernel), true, rfl, iteT ?_⟩
      refine ⟨_, rfl, b, rfl, ⟨ys, hbs.T⟩, fun D hD => lc_it (walk_tup (xs := ys)) (fun i Hx => Same H Hx ∧ Hx D = some (.lst (((κs.take i).map (count ν)).map V.int)))
        ⟨same_new hD _, upd_same⟩ (fun i Hx _ p => (KT.of p.1).sqT hbs.T) (fun i y Hx Hx' hi p z => ?_) (fun Hx p => ?_)⟩
      · obtain ⟨sm, hy⟩ := p
        obtain ⟨rfl, hx⟩ := z
        obtain ⟨k, hk', tk⟩ := hbd.ix hx
        obtain ⟨h1, h2⟩ := hks k (List.mem_of_getElem? hk')
        have hi' : i < κs.length := by rw [← hbd.len]; exact hi
        refine ⟨rfl, y, rfl, y, k, N, ν, rfl, tk.up (.of sm), hν, h1, hN, by omega, fun H2 s2 => ⟨_, s2 _ _ hy, ?_, sm_upd (sm.trans s2) hD, ?_⟩⟩
        · rw [List.length_map, List.length_map, List.length_take]
          exact szl _ (by omega)
        · rw [upd_same, List.take_add_one, hk', List.map_append, List.map_append]
          rfl
      · obtain ⟨sm, hy⟩ := p
        rw [List.take_of_length_le (Nat.le_of_eq hbd.len.symm)] at hy
        refine ⟨D, _, rfl, SqL.of hy, ?_⟩
        rw [← e2]
        exact q Hx sm

/-! ### _law_lacks -/
def spLacks (K : PySem.W.Frag) (n : Nat) : Sp := fun vs H Q _ => ∃ v d κ N ν, vs = [v, .ref d] ∧ TD K H v (dK κ) ∧ NumD H d ν ∧ KdOk N κ ∧ N.length ≤ 4 ∧ size κ ≤ n ∧ ∀ H', Same H H' → Q (.bl (lacks ν κ)) H'
theorem lacks_none {f : Addr} {fd : FuncData} {ps : List Str} : FnOk P w K mg base CX0 0 f fd ps (spLacks K 0) := by
  have no : ∀ vs H Q E, ¬ spLacks K 0 vs H Q E := fun vs H Q E h => by
    obtain ⟨v, d, κ, N, ν, _, _, _, _, _, h1, _⟩ := h
    have := size_pos κ
    omega
  exact ⟨fun vs H Q E h => absurd h (no vs H Q E), fun A outer s H args us vs Q E _ _ _ _ h => absurd h (no vs H Q E)⟩
theorem ok_lacks {n : Nat} {f fW : Addr} {fd fdW : FuncData} (F : Fun K "_law_lacks" "_law_lacks" sLawLacks f fd) (bF : Binds K fd ["_law_kind", "_law_numbers"] []) (gF : mg "_law_lacks" = some (.ref f))
    (GW : FnOk P w K mg base CX0 1 fW fdW ["_law_length_here", "_law_numbers"] (spWorth K)) (bW : Binds K fdW ["_law_length_here", "_law_numbers"] []) (kW : PySem.W.keepIn K (.ref fW) = true) (gW : mg "_law_worth" = some (.ref fW))
    (G : FnOk P w K mg base CX0 (1 + n) f fd ["_law_kind", "_law_numbers"] (spLacks K n)) : FnOk P w K mg base CX0 (1 + (n + 1)) f fd ["_law_kind", "_law_numbers"] (spLacks K (n + 1)) := by
  refine F.ok scLawLacks (fun vs H Q E h => ?_) (fun cdv A outer s H vs Q E hr h => ?_)
  · obtain ⟨v, d, κ, N, ν, rfl, _⟩ := h
    rfl
  · obtain ⟨v, d, κ, N, ν, rfl, hv, hnum, hk, hN, hn, q⟩ := h
    have hr1 := hr.mono (show 1 ≤ 1 + n by omega)
    refine ⟨_, pss_cons (ps_if (pt_cmpR op_eq (pe_ix ix_tup (pv 0) pe_int (fun _ _ => rfl)) pe_str (nomark _))
        (pss_one (ps_ret (pe_cmpR op_eq (pe_call GW hr1 (by rfl) gW kW bW .nil pass0 (pa_cons (pe_ix ix_tup (pv 0) pe_int (fun _ _ => rfl)) (pa_cons (pv 1) pa_nil))) pe_int (nomark _)))) pss_nil)
      (pss_cons (ps_if (pt_cmpR op_eq (pe_ix ix_tup (pv 0) pe_int (fun _ _ => rfl)) pe_str (nomark _))
        (pss_one (ps_ret (pe_and (pe_cmpR op_gt (pe_call GW hr1 (by rfl) gW kW bW .nil pass0 (pa_cons (pe_ix ix_tup (pv 0) pe_int (fun _ _ => rfl)) (pa_cons (pv 1) pa_nil))) pe_int (nomark _)) (pe_one (pe_call G hr (by rfl) gF F.kp bF .nil pass0 (pa_cons (pe_ix ix_tup (pv 0) pe_int (fun _ _ => rfl)) (pa_cons (pv 1) pa_nil))))))) pss_nil)
      (pss_one (ps_ret (pe_and (pe_cmpR op_eq (pe_ix ix_tup (pv 0) pe_int (fun _ _ => rfl)) pe_str (nomark _)) (pe_one (pe_or (pe_call G hr (by rfl) gF F.kp bF .nil pass0 (pa_cons (pe_ix ix_tup (pv 0) pe_int (fun _ _ => rfl)) (pa_cons (pv 1) pa_nil)))
        (pe_one (pe_call G hr (by rfl) gF F.kp bF .nil pass0 (pa_cons (pe_ix ix_tup (pv 0) pe_int (fun _ _ => rfl)) (pa_cons (pv 1) pa_nil)))))))))), ?_⟩
    cases κ with
    | whole =>
      obtain ⟨a, rfl, hs⟩ := kd_whole hv
      refine ⟨_, rfl, a, _, 0, _, rfl, rfl, hs, atI_nat (j := 0) rfl, rfl, _, rfl, ifF (by decide +kernel) ?_⟩
      refine ⟨_, rfl, a, _, 0, _, rfl, rfl, hs, atI_nat (j := 0) rfl, rfl, _, rfl, ifF (by decide +kernel) ?_⟩
      refine ⟨_, rfl, a, _, 0, _, rfl, rfl, hs, atI_nat (j := 0) rfl, rfl, _, rfl, ifF (by decide +kernel) ?_⟩
      exact q H (Same.refl _)
    | place L =>
      obtain ⟨a, l, rfl, hs, tl⟩ := kd_place hv
      refine ⟨_, rfl, a, _, 0, _, rfl, rfl, hs, atI_nat (j := 0) rfl, rfl, _, rfl, ifT (decide_eq_true rfl) ?_⟩
      refine ⟨_, rfl, a, _, 1, _, rfl, rfl, hs, atI_nat (j := 1) rfl, _, rfl, l, d, L, N, ν, rfl, tl, hnum, hk, hN, fun H1 s1 => ⟨rfl, ?_⟩⟩
      have z := q H1 s1
      have e : lacks ν (.place L) = decide (V.int (worth ν L) = V.int 0) := by
        show decide (worth ν L = 0) = _
        exact decide_eq_decide.mpr ⟨fun h => by rw [h], fun h => V.int.inj h⟩
      rw [e] at z
      exact z
    | row L k =>
      obtain ⟨a, l, x, rfl, hs, tl, tk⟩ := kd_row hv
      obtain ⟨hL, hk⟩ := hk
      have hn' : size k + 1 ≤ (n + 1 : Nat) := hn
      refine ⟨_, rfl, a, _, 0, _, rfl, rfl, hs, atI_nat (j := 0) rfl, rfl, _, rfl, ifF (by decide +kernel) ?_⟩
      refine ⟨_, rfl, a, _, 0, _, rfl, rfl, hs, atI_nat (j := 0) rfl, rfl, _, rfl, ifT (decide_eq_true rfl) ?_⟩
      refine ⟨_, rfl, a, _, 1, _, rfl, rfl, hs, atI_nat (j := 1) rfl, _, rfl, l, d, L, N, ν, rfl, tl, hnum, hL, hN, fun H1 s1 => ⟨_, _, rfl, rfl, _, rfl, ite2 (fun c => ?_) (fun c => ?_)⟩⟩
      · refine ⟨_, rfl, a, _, 2, _, rfl, rfl, (KT.of s1).sqT hs, atI_nat (j := 2) rfl, _, rfl, x, d, k, N, ν, rfl, tk.up (.of s1), hnum.up s1, hk, hN, by omega, fun H2 s2 => ?_⟩
        have z := q H2 (s1.trans s2)
        have e : lacks ν (.row L k) = lacks ν k := by
          show (decide (0 < worth ν L) && lacks ν k) = _
          rw [show decide (0 < worth ν L) = true from c]
          rfl
        rw [e] at z
        exact z
      · have z := q H1 s1
        have e : lacks ν (.row L k) = false := by
          show (decide (0 < worth ν L) && lacks ν k) = _
          rw [show decide (0 < worth ν L) = false from Bool.eq_false_iff.mpr c]
          rfl
        rw [e] at z
        exact z
    | pair k j =>
      obtain ⟨a, x, y, rfl, hs, tk, tj⟩ := kd_pair hv
      obtain ⟨hk, hj⟩ := hk
      have hn' : size k + size j + 1 ≤ (n + 1 : Nat) := hn
      have p1 := size_pos k
      have p2 := size_pos j
      refine ⟨_, rfl, a, _, 0, _, rfl, rfl, hs, atI_nat (j := 0) rfl, rfl, _, rfl, ifF (by decide +kernel) ?_⟩
      refine ⟨_, rfl, a, _, 0, _, rfl, rfl, hs, atI_nat (j := 0) rfl, rfl, _, rfl, ifF (by decide +kernel) ?_⟩
      refine ⟨_, rfl, a, _, 0, _, rfl, rfl, hs, atI_nat (j := 0) rfl, rfl, _, rfl, ifT (decide_eq_true rfl) ?_⟩
      refine ⟨_, rfl, a, _, 1, _, rfl, rfl, hs, atI_nat (j := 1) rfl, _, rfl, x, d, k, N, ν, rfl, tk, hnum, hk, hN, by omega, fun H1 s1 => ⟨_, rfl, ite2 (fun c => ?_) (fun c => ?_)⟩⟩
      · have z := q H1 s1
        have e : lacks ν (.pair k j) = true := by
          show (lacks ν k || lacks ν j) = _
          rw [c]
          rfl
        rw [e] at z
        exact z
      · refine ⟨_, rfl, a, _, 2, _, rfl, rfl, (KT.of s1).sqT hs, atI_nat (j := 2) rfl, _, rfl, y, d, j, N, ν, rfl, tj.up (.of s1), hnum.up s1, hj, hN, by omega, fun H2 s2 => ?_⟩
        have z := q H2 (s1.trans s2)
        have e : lacks ν (.pair k j) = lacks ν j := by
          show (lacks ν k || lacks ν j) = _
          rw [Bool.eq_false_iff.mpr c]
          rfl
        rw [e] at z
        exact z

/-! ### _law_whole -/
def spLawWhole : Sp := fun vs H Q _ => ∃ i j : Int, vs = [.int i, .int j] ∧ j ≤ i ∧ Q (.bl true) H
theorem ok_lawWhole {f : Addr} {fd : FuncData} (F : Fun K "_law_whole" "_law_whole" sLawWhole f fd) (mi : mg "isinstance" = none) (mn : mg "int" = none) (mb : mg "bool" = none) : FnOk P w K mg base CX0 1 f fd ["_law_found", "_law_least"] spLawWhole := by
  refine F.ok scLawWhole (fun vs H Q E h => ?_) (fun cdv A outer s H vs Q E hr h => ?_)
  · obtain ⟨i, j, rfl, _⟩ := h
    rfl
  · obtain ⟨i, j, rfl, hij, q⟩ := h
    refine ⟨_, pss_one (ps_ret (pe_and (pe_callB call_isi (by rfl) mi PyProof.Rows.boot_isinstance (pa_cons (pv 0) (pa_cons (pe_bltn (by rfl) mn PyProof.Rows.boot_int (v := V.ty "int") rfl) pa_nil)))
      (pe_and (pe_not (pe_callB call_isi (by rfl) mi PyProof.Rows.boot_isinstance (pa_cons (pv 0) (pa_cons (pe_bltn (by rfl) mb PyProof.Rows.boot_bool (v := V.ty "bool") rfl) pa_nil)))) (pe_one (pe_cmpR op_ge (pv 0) (pv 1) (nomark _)))))), ?_⟩
    refine ⟨_, rfl, _, _, _, _, true, rfl, .ty "int", .base (.int i), kit_ty (by decide +kernel), true, rfl, iteT ?_⟩
    refine ⟨_, rfl, _, _, _, _, false, rfl, .ty "bool", .base (.int i), kit_ty (by decide +kernel), false, rfl, true, rfl, iteT ?_⟩
    refine ⟨_, rfl, _, rfl, _, _, rfl, rfl, ?_⟩
    show Q (.bl (decide (j ≤ i))) H
    rw [decide_eq_true hij]
    exact q
end
end Nk


/-! The walk, part 8: _law_formed. -/
namespace Nk
open PySem PySem.Spec PyProof.Rows L2

abbrev sLawFormed : Stmt := topS 28
abbrev nLawFormed : List Str := ["_law_told", "_law_powers", "_law_times", "_law_called", "_law_name", "_law_power"]
theorem scLawFormed : FnScope nLawFormed ["_law_told"] (defScope sLawFormed) := ⟨rfl, rfl, rfl, by decide +kernel, rfl, by decide +kernel, by decide +kernel⟩

theorem depth_all {β : Type} {enc : β → PyData} {n : Nat} (h : ∀ b, (enc b).depth ≤ n) : ∀ l : List β, PyData.depthAll (l.map enc) ≤ n
  | [] => by simp [PyData.depthAll]
  | b :: l => by
    rw [List.map_cons, PyData.depthAll]
    exact Nat.max_le.mpr ⟨h b, depth_all h l⟩
theorem alike_all {β : Type} {enc : β → PyData} (h : ∀ a b, PySem.W.alike (enc a) (enc b) = true) (l : List β) : PySem.W.alikeAll (l.map enc) (l.map enc) = true := by
  induction l with
  | nil => simp [PySem.W.alikeAll]
  | cons b l ih =>
    rw [List.map_cons, PySem.W.alikeAll, h, ih]
    rfl
/-- two lists of the same things -/
def rNeL (K : PySem.W.Frag) : R2 := fun x y H Q => ∃ (β : Type) (enc : β → PyData) (l : List β) (a b : Addr) (xs ys : List V), x = .ref a ∧ y = .ref b ∧ SqL K H a xs ∧ SqL K H b ys ∧ TDs K H xs (l.map enc) ∧ TDs K H ys (l.map enc) ∧
  (∀ b b', PySem.W.alike (enc b) (enc b') = true) ∧ (∀ b, (enc b).depth ≤ 8) ∧ Q (.bl false) H
theorem op_neL {X : Cx} (hu : X.A.units + 64 < cLine) : OpR X (compareOp .NotEq) (rNeL X.K) := by
  intro pins s σ H x y v u Q I rx ry h
  obtain ⟨β, enc, l, a, b, xs, ys, rfl, rfl, hx, hy, tx, ty, al, dp, q⟩ := h
  cases rx
  cases ry
  obtain ⟨its, r1, p1, _⟩ := I.list hx
  obtain ⟨its2, r2, p2, _⟩ := I.list hy
  obtain ⟨as1, e1⟩ := PySem.W.each_readsAll enc (each_rd I (each_st (X := X) r1 tx))
  obtain ⟨as2, e2⟩ := PySem.W.each_readsAll enc (each_rd I (each_st (X := X) r2 ty))
  have hal := alike_all al l
  have hda := depth_all dp l
  have n1 : its.length = l.length := by rw [← r1.length, tx.length, List.length_map]
  have n2 : its2.length = l.length := by rw [← r2.length, ty.length, List.length_map]
  have rc : SeqAt.RcNeAt X.A s (.ref a) (.ref b) (!PyData.eqvAll (l.map enc) (l.map enc)) := by
    rw [← SeqAt.eqvAll_same_length (rfl : (l.map enc).length = (l.map enc).length)]
    have hsz : (l.map enc).length = its.toArray.size := by rw [List.length_map, List.size_toArray, n1]
    rw [hsz]
    refine SeqAt.RcNeAt.lists p1.isList p2.isList (by rw [List.size_toArray, List.size_toArray, n1, n2]) (by omega) fun j j1 j2 => ?_
    have z := PySem.W.eqAt_alikeAll (l.map enc) (l.map enc) X.A.in1 s its its2 _ _ e1 e2 hal (by show X.A.units + 1 + _ < cLine; omega) j (by simpa using j1) (by simpa using j2)
    simpa using z
  have e3 : PyData.eqvAll (l.map enc) (l.map enc) = true := PySem.W.eqvAll_refl_alike _ hal
  rw [e3] at rc
  exact rc X.prog X.w _ _ ⟨.bl false, H, I, rfl, q⟩
/-- names in order, where the powers are -/
theorem names_srt : ∀ {p : Pow}, p.Pairwise (fun a b => leF a b = true) → (p.map (·.1)).Pairwise (fun a b => leS a b = true) := by
  intro p h
  rw [List.pairwise_map]
  refine h.imp fun {f g} hfg => ?_
  have h1 : (!PySem.W.dataLt (dF g) (dF f)) = true := hfg
  show (!PySem.W.dataLt (.str g.1) (.str f.1)) = true
  rw [Bool.not_eq_true'] at h1 ⊢
  have e : PySem.W.dataLt (dF g) (dF f) = _ := PySem.W.dataLt_pair (x := .str g.1) (y := .int g.2) (x' := .str f.1) (y' := .int f.2) (by simp [PySem.W.alike]) (by simp [PySem.W.alike])
  rw [e] at h1
  by_cases c : PyData.eqv (.str g.1) (.str f.1) = true
  · have c' : g.1 = f.1 := by simpa [PyData.eqv] using c
    rw [c', PySem.W.dataLt_str]
    exact decide_eq_false (List.lt_irrefl _)
  · rw [if_neg c] at h1
    exact h1
def encT (e : Pow × Int) : NestedKey := .tup [encP e.1, .num e.2]
theorem encT_data (e : Pow × Int) : (encT e).data = dT e := by
  show PyData.tuple [(encP e.1).data, .int e.2] = _
  rw [encP_data]
  rfl
theorem depth_encT (e : Pow × Int) : (encT e).depth ≤ 8 := by
  have h := depth_encFs e.1
  have h2 : (encP e.1).depth = NestedKey.depthAll (e.1.map encF) + 1 := rfl
  show NestedKey.depthAll [encP e.1, .num e.2] + 1 ≤ 8
  simp only [NestedKey.depthAll, NestedKey.depth, h2]
  omega
section
variable {P : Program} {w : World} {K : PySem.W.Frag} {mg : Str → Option Value} {base : Heap}
theorem dist_T {H : Hp} {xs : List V} {s : Sm} (h : TDs K H xs (s.map dT)) (hn : (s.map (·.1)).Nodup) : DistN K H xs := by
  refine ⟨s.map encT, ?_, ?_, fun k hk => ?_⟩
  · unfold List.Nodup at hn ⊢
    rw [List.pairwise_map] at hn ⊢
    refine hn.imp fun {a b} hne z => hne ?_
    injection z with z
    injection z with z _
    exact encP_inj z
  · rw [List.map_map, show (NestedKey.data ∘ encT) = dT from funext encT_data]
    exact h
  · obtain ⟨e, _, rfl⟩ := List.mem_map.mp hk
    exact ⟨depth_encT e, _, rfl⟩
theorem dist_P {H : Hp} {xs : List V} {s : Sm} (h : TDs K H xs (s.map fun e => dP e.1)) (hn : (s.map (·.1)).Nodup) : DistN K H xs := by
  refine ⟨s.map fun e => encP e.1, nodup_enc hn, ?_, fun k hk => ?_⟩
  · rw [List.map_map, show (NestedKey.data ∘ fun e : Pow × Int => encP e.1) = fun e => dP e.1 from funext fun e => encP_data e.1]
    exact h
  · obtain ⟨e, _, rfl⟩ := List.mem_map.mp hk
    exact ⟨depth_encP e.1, _, rfl⟩
/-! ### _law_formed -/
def spFormed (K : PySem.W.Frag) : Sp := fun vs H Q _ => ∃ u s N D, vs = [u] ∧ TD K H u (dS s) ∧ GoodS N D s ∧ N.length ≤ 4 ∧ D ≤ 11 ∧ ∀ H', Same H H' → Q (.bl true) H'
theorem ok_formed {f fW : Addr} {fd fdW : FuncData} (F : Fun K "_law_formed" "_law_formed" sLawFormed f fd)
    (GW : FnOk P w K mg base CX0 1 fW fdW ["_law_found", "_law_least"] spLawWhole) (bW : Binds K fdW ["_law_found", "_law_least"] []) (kW : PySem.W.keepIn K (.ref fW) = true) (gW : mg "_law_whole" = some (.ref fW))
    (mi : mg "isinstance" = none) (mt : mg "tuple" = none) (ml : mg "list" = none) (ms : mg "sorted" = none) (me : mg "set" = none) (ma : mg "all" = none) (mn : mg "len" = none) : FnOk P w K mg base CX0 2 f fd ["_law_told"] (spFormed K) := by
  refine F.ok scLawFormed (fun vs H Q E h => ?_) (fun cdv A outer s H vs Q E hr h => ?_)
  · obtain ⟨u, s, N, D, rfl, _⟩ := h
    rfl
  · obtain ⟨u, s, N, D, rfl, hu, gs, hN, hD, q⟩ := h
    refine ⟨_, pss_cons (ps_if (pw_or (pt_not (pt_val (pe_callB call_isi (by rfl) mi PyProof.Rows.boot_isinstance (pa_cons (pv 0) (pa_cons (pe_bltn (by rfl) mt PyProof.Rows.boot_tuple (v := V.ty "tuple") rfl) pa_nil)))))
          (pw_or1 (pt_cmpR (op_neL hr.units) (pe_callTy call_list_of (by rfl) ml PyProof.Rows.boot_list (pa_cons (pv 0) pa_nil)) (pe_callB (cr_sortX rfl hr.units) (by rfl) ms PyProof.Rows.boot_sorted (pa_cons (pe_callTy (cr_setX rfl hr.units) (by rfl) me PyProof.Rows.boot_set (pa_cons (pv 0) pa_nil)) pa_nil)) (nomark _)))).pt
        (pss_one (ps_ret pe_bl)) pss_nil)
      (pss_cons (ps_for PassesOwn.never rfl (pi_tup (pv 0)) (pg_tup rfl (pgs_cons (pg_name (i := 1) scLawFormed.nd rfl (.inl rfl)) (pgs_cons (pg_name (i := 2) scLawFormed.nd rfl (.inl rfl)) pgs_nil)))
        (pss_cons (ps_if (pw_or (pt_not (pt_val (pe_callB call_isi (by rfl) mi PyProof.Rows.boot_isinstance (pa_cons (pv 1) (pa_cons (pe_bltn (by rfl) mt PyProof.Rows.boot_tuple (v := V.ty "tuple") rfl) pa_nil)))))
            (pw_or1 (pt_not (pt_val (pe_call GW hr (by rfl) gW kW bW .nil pass0 (pa_cons (pv 2) (pa_cons pe_int pa_nil))))))).pt
          (pss_one (ps_ret pe_bl)) pss_nil)
        (pss_cons (ps_setLc (i := 3) (g := gTup K 2 (gCons (gName 4) (gCons (gName 5) gNil))) (tt := tYes) (own := [("_law_name", 4), ("_law_power", 5)]) rfl scLawFormed.nd rfl rfl (sw_true rfl rfl rfl (by decide +kernel)) (pi_tup (pv 1)) (blkOk_by (N := nLawFormed) (sc := defScope sLawFormed) (by decide +kernel))
          (fun _ _ _ _ _ => pg_tup rfl (pgs_cons (pg_name (i := 4) scLawFormed.nd rfl (Or.inl rfl)) (pgs_cons (pg_name (i := 5) scLawFormed.nd rfl (Or.inl rfl)) pgs_nil)))
          (fun _ _ _ _ _ => pts_nil)
          (fun _ _ _ _ _ => pv 4))
        (pss_one (ps_if (pw_or (pt_cmpR (op_neL hr.units) (pv 3) (pe_callB (cr_sortX rfl hr.units) (by rfl) ms PyProof.Rows.boot_sorted (pa_cons (pe_callTy (cr_setX rfl hr.units) (by rfl) me PyProof.Rows.boot_set (pa_cons (pv 3) pa_nil)) pa_nil)) (nomark _))
            (pw_or1 (pt_not (pt_val (pe_callB (cr_all rfl) (by rfl) ma PyProof.Rows.boot_all (pa_cons
              (pe_lc (g := gTup K 2 (gCons (gName 4) (gCons (gName 5) gNil))) (tt := tYes) (te := tCall spLawWhole [] E0 (tCons (tVar 5) (tCons (tC (V.int 1)) tNil))) (own := [("_law_name", 4), ("_law_power", 5)]) rfl scLawFormed.nd (pi_tup (pv 1)) (blkOk_by (N := nLawFormed) (sc := defScope sLawFormed) (by decide +kernel))
                (fun _ _ _ _ _ => pg_tup rfl (pgs_cons (pg_name (i := 4) scLawFormed.nd rfl (Or.inl rfl)) (pgs_cons (pg_name (i := 5) scLawFormed.nd rfl (Or.inl rfl)) pgs_nil)))
                (fun _ _ _ _ _ => pts_nil)
                (fun _ _ _ _ _ => pe_call GW hr (by rfl) gW kW bW .nil pass0 (pa_cons (pv 5) (pa_cons pe_int pa_nil)))) pa_nil)))))).pt
          (pss_one (ps_ret pe_bl)) pss_nil)))))
      (pss_one (ps_ret (pe_cmpR op_eq (pe_callB cr_lenX (by rfl) mn PySem.boot_len (pa_cons (pe_callTy (cr_setX rfl hr.units) (by rfl) me PyProof.Rows.boot_set (pa_cons
          (pe_lc (g := gTup K 2 (gCons (gName 1) (gCons (gName 2) gNil))) (tt := tYes) (own := [("_law_powers", 1), ("_law_times", 2)]) rfl scLawFormed.nd (pi_tup (pv 0)) (blkOk_by (N := nLawFormed) (sc := defScope sLawFormed) (by decide +kernel))
            (fun _ _ _ _ _ => pg_tup rfl (pgs_cons (pg_name (i := 1) scLawFormed.nd rfl (Or.inl rfl)) (pgs_cons (pg_name (i := 2) scLawFormed.nd rfl (Or.inl rfl)) pgs_nil)))
            (fun _ _ _ _ _ => pts_nil)
            (fun _ _ _ _ _ => pv 1)) pa_nil)) pa_nil)) (pe_callB call_len_seq (by rfl) mn PySem.boot_len (pa_cons (pv 0) pa_nil)) (nomark _))))), ?_⟩
    obtain ⟨a, xs, rfl, has, had⟩ := TD.tupInv (hu : TD K H _ (.tuple (s.map dT)))
    have hsl := good_len hN hD gs
    have hxl : xs.length = s.length := had.len
    refine ⟨_, rfl, _, _, _, _, true, rfl, .ty "tuple", tyx_tup has.T, kit_ty (by decide +kernel), true, rfl, ifF rfl ?_⟩
    refine ⟨_, rfl, a, xs, rfl, .inr has.T, fun l hl => ?_⟩
    have s1 : Same H (upd H l (.lst xs)) := same_new hl _
    have td1 := had.up (.of s1)
    refine ⟨_, rfl, a, xs, rfl, .inr ((KT.of s1).sqT has.T), .inl (dist_T td1 gs.nod), by omega, fun p hp => ?_⟩
    have s2 : Same (upd H l (.lst xs)) (upd (upd H l (.lst xs)) p (SetX w p xs)) := same_new hp _
    have td2 := td1.up (.of s2)
    refine ⟨_, dT, p, xs, s, rfl, upd_same, td2, srt_dT s, fun bs' ys r pm tys hr' => ?_⟩
    have s3 : Same (upd (upd H l (.lst xs)) p (SetX w p xs)) (upd (upd (upd H l (.lst xs)) p (SetX w p xs)) r (.lst ys)) := same_new hr' _
    rw [sort_self toks_dT gs.srt pm] at tys
    refine ⟨_, dT, s, l, r, xs, ys, rfl, rfl, SqL.of (s3 _ _ (s2 _ _ upd_same)), SqL.of upd_same, td2.up (.of s3), tys.up (.of s3), alike_dT, fun b => by have := depth_dT b; omega, _, rfl, iteF ?_⟩
    have sH := (s1.trans s2).trans s3
    refine ⟨.ref a, rfl, a, rfl, ⟨xs, (KT.of sH).sqT has.T⟩, for_it (walk_tup (xs := xs)) (fun i σ Hx => ∃ y1 y2 y3 y4 y5, σ = [some (.ref a), y1, y2, y3, y4, y5] ∧ Same H Hx)
      ⟨none, none, none, none, none, rfl, sH⟩ (fun i σ Hx _ p => ?_) (fun i x σ Hx Hx' hi p y => ?_) (fun σ Hx p => ?_)⟩
    · obtain ⟨_, _, _, _, _, _, sm⟩ := p
      exact (KT.of sm).sqT has.T
    · obtain ⟨y1, y2, y3, y4, y5, rfl, sm⟩ := p
      obtain ⟨rfl, hx⟩ := y
      obtain ⟨e, he, tx⟩ := had.ix hx
      obtain ⟨a2, zs, rfl, hz, hzd⟩ := (tx.up (.of sm)).tupInv
      obtain ⟨u1, u2, rfl, t1, t2⟩ := hzd.two
      obtain rfl := t2.intInv
      obtain ⟨a3, ws, rfl, w1, w2⟩ := TD.tupInv (t1 : TD K _ _ (.tuple (e.1.map dF)))
      obtain ⟨e1, e2⟩ := gs.pos e (List.mem_of_getElem? he)
      have hel := len_le e2.nod fun f hf => (e2.pos f hf).2
      refine ⟨a2, _, rfl, hz.T, rfl, _, _, rfl, _, _, rfl, rfl, ?_⟩
      refine ⟨_, rfl, _, _, _, _, true, rfl, .ty "tuple", tyx_tup w1.T, kit_ty (by decide +kernel), true, rfl, ifF rfl ?_⟩
      refine ⟨_, rfl, e.2, 1, rfl, e1, true, rfl, ifF rfl ?_⟩
      refine ⟨.ref a3, rfl, a3, rfl, ⟨ws, w1.T⟩, fun D hD => lc_it (walk_tup (xs := ws)) (fun j Hz => Same Hx' Hz ∧ Hz D = some (.lst (((e.1.take j).map (·.1)).map V.str)))
        ⟨same_new hD _, upd_same⟩ (fun j Hz _ p => (KT.of p.1).sqT w1.T) (fun j y Hz Hz' hj p z => ?_) (fun Hz p => ?_)⟩
      · obtain ⟨sz, hy⟩ := p
        obtain ⟨rfl, hx2⟩ := z
        obtain ⟨g, hg, ty⟩ := w2.ix hx2
        obtain ⟨b2, zs2, rfl, hz2, hzd2⟩ := (ty.up (.of sz)).tupInv
        obtain ⟨v1, v2, rfl, r1, r2⟩ := hzd2.two
        obtain rfl := r1.strInv
        refine ⟨b2, _, rfl, hz2.T, rfl, _, _, rfl, _, _, rfl, rfl, rfl, .str g.1, rfl, _, hy, ?_, sm_upd sz hD, ?_⟩
        · rw [List.length_map, List.length_map, List.length_take]
          exact szl _ (by omega)
        · rw [upd_same, List.take_add_one, hg, List.map_append, List.map_append]
          rfl
      · obtain ⟨sz, hy⟩ := p
        rw [List.take_of_length_le (Nat.le_of_eq w2.len.symm)] at hy
        have nsrt := names_srt e2.srt
        have tds : ∀ H' : Hp, TDs K H' ((e.1.map (·.1)).map V.str) ((e.1.map (·.1)).map PyData.str) := fun H' => by
          generalize e.1.map (·.1) = l
          induction l with
          | nil => exact .nil
          | cons x l ih => exact .cons (.str x) ih
        refine ⟨.ref D, rfl, .ref D, rfl, D, _, rfl, .inl (SqL.of hy), .inr ⟨_, e2.nod, rfl⟩, by rw [List.length_map, List.length_map]; omega, fun p hp => ?_⟩
        have q2 : Same Hz (upd Hz p (SetX w p ((e.1.map (·.1)).map V.str))) := same_new hp _
        refine ⟨_, PyData.str, p, _, e.1.map fun f : Str × Int => f.1, rfl, upd_same, tds _, srt_str _, fun bs' ys r pm tys hr' => ?_⟩
        have q3 : Same (upd Hz p (SetX w p ((e.1.map (·.1)).map V.str))) (upd (upd Hz p (SetX w p ((e.1.map (·.1)).map V.str))) r (.lst ys)) := same_new hr' _
        rw [sort_self toks_str nsrt pm] at tys
        refine ⟨_, PyData.str, e.1.map fun f : Str × Int => f.1, D, r, _, ys, rfl, rfl, SqL.of (q3 _ _ (q2 _ _ hy)), SqL.of upd_same, tds _, tys.up (.of q3), fun _ _ => by simp [PySem.W.alike], fun b => by simp [PyData.depth], _, rfl, iteF ?_⟩
        have sz3 := (sz.trans q2).trans q3
        refine ⟨.ref a3, rfl, a3, rfl, ⟨ws, (KT.of sz3).sqT w1.T⟩, fun D2 hD2 => lc_it (walk_tup (xs := ws)) (fun j Hz => Same Hx' Hz ∧ Hz D2 = some (.lst ((List.replicate j true).map V.bl)))
          ⟨sm_new sz3 hD2, upd_same⟩ (fun j Hz _ p => (KT.of p.1).sqT w1.T) (fun j y Hz Hz' hj p z => ?_) (fun Hz p => ?_)⟩
        · obtain ⟨sz, hy⟩ := p
          obtain ⟨rfl, hx2⟩ := z
          obtain ⟨g, hg, ty⟩ := w2.ix hx2
          obtain ⟨b2, zs2, rfl, hz2, hzd2⟩ := (ty.up (.of sz)).tupInv
          obtain ⟨v1, v2, rfl, r1, r2⟩ := hzd2.two
          obtain rfl := r2.intInv
          have hj' : j < e.1.length := by rw [← w2.len]; exact hj
          refine ⟨b2, _, rfl, hz2.T, rfl, _, _, rfl, _, _, rfl, rfl, rfl, _, rfl, g.2, 1, rfl, (e2.pos g (List.mem_of_getElem? hg)).1, _, hy, ?_, sm_upd sz (none_of sz3 hD2), ?_⟩
          · rw [List.length_map, List.length_replicate]
            exact szl _ (by omega)
          · rw [upd_same, List.replicate_succ', List.map_append]
            rfl
        · obtain ⟨sz, hy⟩ := p
          refine ⟨D2, _, rfl, SqL.of hy, _, rfl, ?_⟩
          rw [replicate_all, Bool.or_true]
          refine ifF rfl ?_
          exact ⟨_, _, _, _, _, rfl, sm.trans sz⟩
    · obtain ⟨y1, y2, y3, y4, y5, rfl, sm⟩ := p
      refine ⟨.ref a, rfl, a, rfl, ⟨xs, (KT.of sm).sqT has.T⟩, fun D hD => lc_it (walk_tup (xs := xs)) (fun j Hz => Same Hx Hz ∧ ∃ ys, Hz D = some (.lst ys) ∧ TDs K Hz ys ((s.take j).map fun e => dP e.1))
        ⟨same_new hD _, [], upd_same, .nil⟩ (fun j Hz _ p => (KT.of (sm.trans p.1)).sqT has.T) (fun j y Hz Hz' hj p z => ?_) (fun Hz p => ?_)⟩
      · obtain ⟨sz, ys, hy, td⟩ := p
        obtain ⟨rfl, hx2⟩ := z
        obtain ⟨e, he, tx⟩ := had.ix hx2
        obtain ⟨b2, zs2, rfl, hz2, hzd2⟩ := (tx.up (.of (sm.trans sz))).tupInv
        obtain ⟨v1, v2, rfl, r1, r2⟩ := hzd2.two
        refine ⟨b2, _, rfl, hz2.T, rfl, _, _, rfl, _, _, rfl, rfl, rfl, v1, rfl, _, hy, ?_, sm_upd sz hD, _, upd_same, ?_⟩
        · rw [td.length, List.length_map, List.length_take]
          exact szl _ (by omega)
        · have kt := kt_lst (o := .lst (ys ++ [v1])) hy
          rw [List.take_add_one, he, List.map_append]
          exact (td.up kt).snoc (r1.up kt)
      · obtain ⟨sz, ys, hy, td⟩ := p
        rw [List.take_of_length_le (Nat.le_of_eq had.len.symm)] at td
        have hyl : ys.length = s.length := td.len
        refine ⟨D, ys, rfl, .inl (SqL.of hy), .inl (dist_P td gs.nod), by omega, fun p hp => ⟨p, ys, rfl, upd_same, .ref a, rfl, a, xs, rfl, .inr ((KT.new hp _).sqT ((KT.of (sm.trans sz)).sqT has.T)), rfl, ?_⟩⟩
        show Q (.bl (decide (V.int ys.length = V.int xs.length))) _
        rw [hyl, hxl, decide_eq_true rfl]
        exact q _ (sm_new (sm.trans sz) hp)
end
end Nk


/-! The walk, part 9: the draws, the state, the names. -/
namespace Nk
open PySem PySem.Spec PyProof.Rows L2

abbrev sLawDraw : Stmt := topS 16
abbrev sLawState : Stmt := topS 17
abbrev sLawNames : Stmt := topS 18
abbrev nLawDraw : List Str := ["_law_state_here", "_law_many", "_law_found"]
theorem scLawDraw : FnScope nLawDraw ["_law_state_here", "_law_many"] (defScope sLawDraw) := ⟨rfl, rfl, rfl, by decide +kernel, rfl, by decide +kernel, by decide +kernel⟩
abbrev nLawState : List Str := ["_law_script", "_law_k", "_law_cell"]
theorem scLawState : FnScope nLawState ["_law_script", "_law_k"] (defScope sLawState) := ⟨rfl, rfl, rfl, by decide +kernel, rfl, by decide +kernel, by decide +kernel⟩
abbrev nLawNames : List Str := ["_law_state_here", "_law_many", "_law_letters", "_law_stem", "_law_k", "_law_at", "_law_turn"]
theorem scLawNames : FnScope nLawNames ["_law_state_here", "_law_many"] (defScope sLawNames) := ⟨rfl, rfl, rfl, by decide +kernel, rfl, by decide +kernel, by decide +kernel⟩

/-- a state of the draws -/
abbrev StO (x : Int) (b : Bool) : HO := .lst [.int x, .bl b]
/-- all but a stays -/
def Mod (a : Addr) (H H' : Hp) : Prop := ∀ c o, c ≠ a → H c = some o → H' c = some o
theorem Mod.refl (a : Addr) (H : Hp) : Mod a H H := fun _ _ _ e => e
theorem Mod.trans {a : Addr} {H H1 H2 : Hp} (x : Mod a H H1) (y : Mod a H1 H2) : Mod a H H2 := fun c o n e => y c o n (x c o n e)
theorem Mod.upd {a : Addr} {H : Hp} {o : HO} : Mod a H (upd H a o) := fun c u n e => by
  rw [upd_ne n]
  exact e
theorem Mod.of {a : Addr} {H H' : Hp} (s : Same H H') : Mod a H H' := fun c o _ e => s c o e
theorem Mod.kt {a : Addr} {H H' : Hp} {xs : List V} (m : Mod a H H') (h : H a = some (.lst xs)) : KT H H' :=
  ⟨fun c ys e => m c _ (ne_of e h (fun z => by cases z)) e, fun c o ys e => m c _ (ne_of e h (fun z => by cases z)) e⟩
/-- a new thing changed -/
theorem Mod.same {a : Addr} {H H1 H2 : Hp} (m : Mod a H1 H2) (s : Same H H1) (n : H a = none) : Same H H2 := fun c o e => m c o (ne_of_none e n) (s c o e)

section
variable {P : Program} {w : World} {K : PySem.W.Frag} {mg : Str → Option Value} {base : Heap}
/-! ### _law_draw -/
def spDraw : Sp := fun vs H Q _ => ∃ a x b m, vs = [.ref a, .int m] ∧ H a = some (StO x b) ∧ 1 ≤ m ∧ m < 1000000 ∧ ∀ x' r, 0 ≤ r → r < m → Q (.int r) (upd H a (StO x' b))
theorem ok_draw {f : Addr} {fd : FuncData} (F : Fun K "_law_draw" "_law_draw" sLawDraw f fd) : FnOk P w K mg base CX0 1 f fd ["_law_state_here", "_law_many"] spDraw := by
  refine F.ok scLawDraw (fun vs H Q E h => ?_) (fun cdv A outer s H vs Q E hr h => ?_)
  · obtain ⟨a, x, b, m, rfl, _⟩ := h
    rfl
  · obtain ⟨a, x, b, m, rfl, ha, h1, h2, q⟩ := h
    refine ⟨_, pss_cons (ps_if (pt_val (pe_ix ix_list (pv 0) pe_int (fun _ _ => rfl)))
        (pss_cons (ps_set (i := 2) scLawDraw.nd rfl (.inl rfl) (pe_op op_mod (pe_ix ix_list (pv 0) pe_int (fun _ _ => rfl)) (pv 1)))
        (pss_cons (ps_asg (pe_op op_fdiv (pe_ix ix_list (pv 0) pe_int (fun _ _ => rfl)) (pv 1)) (pg_sub (pv 0) pe_int set_list))
        (pss_one (ps_ret (pv 2))))) pss_nil)
      (pss_cons (ps_asg (pe_op op_mod (pe_op op_add (pe_op op_mul (pe_ix ix_list (pv 0) pe_int (fun _ _ => rfl)) pe_int) pe_int) pe_int) (pg_sub (pv 0) pe_int set_list))
      (pss_one (ps_ret (pe_op op_mod (pe_op op_mod (pe_op op_mul (pe_op op_fdiv (pe_op op_mod (pe_op op_mul (pe_ix ix_list (pv 0) pe_int (fun _ _ => rfl)) pe_int) pe_int) pe_int) pe_int) pe_int) (pv 1))))), ?_⟩
    have hA : SqL K H a [.int x, .bl b] := SqL.of ha
    refine ⟨_, rfl, a, _, 1, _, rfl, rfl, hA, atI_nat (j := 1) rfl, b, rfl, ?_⟩
    cases b with
    | true =>
      refine iteT ⟨_, rfl, a, _, 0, _, rfl, rfl, hA, atI_nat (j := 0) rfl, _, rfl, _, _, rfl, rfl, by omega, ?_⟩
      refine ⟨_, rfl, a, _, 0, _, rfl, rfl, hA, atI_nat (j := 0) rfl, _, rfl, _, _, rfl, rfl, ⟨by omega, by omega⟩, _, rfl, a, _, 0, 0, rfl, rfl, ha, rfl, ?_⟩
      exact ⟨_, rfl, q _ _ (Int.emod_nonneg _ (by omega)) (Int.emod_lt_of_pos _ (by omega))⟩
    | false =>
      refine iteF ⟨_, rfl, a, _, 0, _, rfl, rfl, hA, atI_nat (j := 0) rfl, _, _, rfl, rfl, .inr ⟨by decide, by decide⟩, _, _, rfl, rfl, _, _, rfl, rfl, (show (0 : Int) < 2147483647 by decide), _, rfl, a, _, 0, 0, rfl, rfl, ha, rfl, ?_⟩
      refine ⟨_, rfl, a, _, 0, _, rfl, rfl, SqL.of upd_same, atI_nat (j := 0) rfl, _, _, rfl, rfl, .inr ⟨by decide, by decide⟩, _, _, rfl, rfl, (show (0 : Int) < 2147483629 by decide), _, _, rfl, rfl, ⟨by decide, by decide⟩, _, _, rfl, rfl, .inr ⟨by decide, by decide⟩, _, _, rfl, rfl, (show (0 : Int) < 2147483587 by decide), _, rfl, _, _, rfl, rfl, by omega, ?_⟩
      exact q _ _ (Int.emod_nonneg _ (by omega)) (Int.emod_lt_of_pos _ (by omega))

/-! ### _law_state -/
def spState (K : PySem.W.Frag) : Sp := fun vs H Q _ => ∃ (a : Addr) (ns : List Int) (k : Int), vs = [.ref a, .int k] ∧ SqL K H a (ns.map V.int) ∧ 0 ≤ k ∧ k ≤ 1000 ∧ ∀ p x b, H p = none → Q (.ref p) (upd H p (StO x b))
theorem ok_state {f : Addr} {fd : FuncData} (F : Fun K "_law_state" "_law_state" sLawState f fd) (ml : mg "len" = none) : FnOk P w K mg base CX0 1 f fd ["_law_script", "_law_k"] (spState K) := by
  refine F.ok scLawState (fun vs H Q E h => ?_) (fun cdv A outer s H vs Q E hr h => ?_)
  · obtain ⟨a, ns, k, rfl, _⟩ := h
    rfl
  · obtain ⟨a, ns, k, rfl, ha, h0, h1, q⟩ := h
    refine ⟨_, pss_cons (ps_set (i := 2) scLawState.nd rfl (.inl rfl) pe_int)
      (pss_cons (ps_if (pt_cmpR op_lt (pv 1) (pe_callB call_len_seq (by rfl) ml PySem.boot_len (pa_cons (pv 0) pa_nil)) (nomark _)) (pss_one (ps_set (i := 2) scLawState.nd rfl (.inl rfl) (pe_ix ix_list (pv 0) (pv 1) (fun _ _ => rfl)))) pss_nil)
      (pss_cons (ps_if (pt_cmpR op_lt (pv 2) (pe_op op_pow pe_int pe_int) (nomark _)) (pss_one (ps_ret (pe_lst (pa_cons (pe_op op_add (pe_op op_add (pv 2) (pe_op op_mul pe_int (pv 1))) pe_int) (pa_cons pe_bl pa_nil))))) pss_nil)
      (pss_one (ps_ret (pe_lst (pa_cons (pv 2) (pa_cons pe_bl pa_nil))))))), ?_⟩
    refine ⟨_, rfl, .ref a, rfl, a, _, rfl, .inl ha, _, _, rfl, rfl, _, rfl, ite2 (fun c => ?_) (fun c => ?_)⟩
    · have c : k < ((ns.map V.int).length : Int) := of_decide_eq_true c
      rw [List.length_map] at c
      have hk : k.toNat < ns.length := by omega
      have q1 : atI (ns.map V.int) ((k.toNat : Nat) : Int) = some (.int ns[k.toNat]) := atI_nat (by rw [List.getElem?_map, List.getElem?_eq_getElem hk] <;> rfl)
      rw [show ((k.toNat : Nat) : Int) = k by omega] at q1
      refine ⟨.ref a, rfl, _, rfl, a, _, k, _, rfl, rfl, ha, q1, ?_⟩
      refine ⟨_, rfl, _, _, rfl, rfl, ⟨by decide, by decide, by decide⟩, _, _, rfl, rfl, _, rfl, ite2 (fun _ => ?_) (fun _ => ?_)⟩
      · exact ⟨_, rfl, _, rfl, _, _, rfl, rfl, .inr ⟨by omega, by omega⟩, _, _, rfl, rfl, _, _, rfl, rfl, lt_le (szl 2 (by omega)), fun l hl => q l _ _ hl⟩
      · exact ⟨_, rfl, lt_le (szl 2 (by omega)), fun l hl => q l _ _ hl⟩
    · refine ⟨_, rfl, _, _, rfl, rfl, ⟨by decide, by decide, by decide⟩, _, _, rfl, rfl, _, rfl, ite2 (fun _ => ?_) (fun _ => ?_)⟩
      · exact ⟨_, rfl, _, rfl, _, _, rfl, rfl, .inr ⟨by omega, by omega⟩, _, _, rfl, rfl, _, _, rfl, rfl, lt_le (szl 2 (by omega)), fun l hl => q l _ _ hl⟩
      · exact ⟨_, rfl, lt_le (szl 2 (by omega)), fun l hl => q l _ _ hl⟩

/-! ### _law_names -/
theorem letter (i : Int) (h0 : 0 ≤ i) (h1 : i < 21) : ∃ c, atI ((("bcdfghjklmnpqrstvwxyz" : Str)).cps.toList) i = some c := by
  have e : (("bcdfghjklmnpqrstvwxyz" : Str)).cps.toList.length = 21 := by decide +kernel
  have hi : i.toNat < (("bcdfghjklmnpqrstvwxyz" : Str)).cps.toList.length := by omega
  refine ⟨(("bcdfghjklmnpqrstvwxyz" : Str)).cps.toList[i.toNat], ?_⟩
  have q := atI_nat (j := i.toNat) (List.getElem?_eq_getElem hi)
  rw [show ((i.toNat : Nat) : Int) = i by omega] at q
  exact q
def spNames : Sp := fun vs H Q _ => ∃ a x b, vs = [.ref a, .int 4] ∧ H a = some (StO x b) ∧ ∀ H' l (N : List Str) x', N.length = 4 → H l = none → Mod a H H' → H' a = some (StO x' b) → H' l = some (.lst (N.map V.str)) → Q (.ref l) H'
theorem ok_names {f fD : Addr} {fd fdD : FuncData} (F : Fun K "_law_names" "_law_names" sLawNames f fd) (G : FnOk P w K mg base CX0 1 fD fdD ["_law_state_here", "_law_many"] spDraw) (bD : Binds K fdD ["_law_state_here", "_law_many"] []) (kD : PySem.W.keepIn K (.ref fD) = true) (gD : mg "_law_draw" = some (.ref fD))
    (mr : mg "range" = none) (ml : mg "len" = none) : FnOk P w K mg base CX0 2 f fd ["_law_state_here", "_law_many"] spNames := by
  refine F.ok scLawNames (fun vs H Q E h => ?_) (fun cdv A outer s H vs Q E hr h => ?_)
  · obtain ⟨a, x, b, rfl, _⟩ := h
    rfl
  · obtain ⟨a, x, b, rfl, ha, q⟩ := h
    refine ⟨_, pss_cons (ps_set (i := 2) scLawNames.nd rfl (.inr rfl) pe_str)
      (pss_cons (ps_set (i := 3) scLawNames.nd rfl (.inr rfl) pe_str)
      (pss_cons (ps_for PassesOwn.never rfl (pi_range1 (by rfl) mr (pa_cons (pe_call G hr (by rfl) gD kD bD .nil pass0 (pa_cons (pv 0) (pa_cons pe_int pa_nil))) pa_nil)) (pg_name (i := 4) scLawNames.nd rfl (.inl rfl))
        (pss_one (ps_set (i := 3) scLawNames.nd rfl (.inr rfl) (pe_op op_add_str (pv 3) (pe_ix ix_str (pv 2) (pe_call G hr (by rfl) gD kD bD .nil pass0 (pa_cons (pv 0) (pa_cons pe_int pa_nil))) (fun _ _ => rfl))))))
      (pss_cons (ps_set (i := 5) scLawNames.nd rfl (.inr rfl) (pe_call G hr (by rfl) gD kD bD .nil pass0 (pa_cons (pv 0) (pa_cons (pe_op op_add (pe_callB call_len_str (by rfl) ml PySem.boot_len (pa_cons (pv 3) pa_nil)) pe_int) pa_nil))))
      (pss_cons (ps_set (i := 6) scLawNames.nd rfl (.inr rfl) (pe_call G hr (by rfl) gD kD bD .nil pass0 (pa_cons (pv 0) (pa_cons pe_int pa_nil))))
      (pss_one (ps_ret (pe_lc (g := gName 4) (tt := tYes) (own := [("_law_k", 4)]) rfl scLawNames.nd (pi_range1 (by rfl) mr (pa_cons (pv 1) pa_nil)) (blkOk_by (N := nLawNames) (sc := defScope sLawNames) (by decide +kernel))
          (fun _ _ _ _ _ => pg_name (i := 4) scLawNames.nd rfl (Or.inl rfl))
          (fun _ _ _ _ _ => pts_nil)
          (fun _ _ _ _ _ => pe_op op_add_str (pe_op op_add_str (pe_slice sl_str (pv 3) po_none (po_some (pv 5))) (pe_ix ix_str (pv 2) (pe_op op_mod (pe_op op_add (pv 6) (pe_op op_mul pe_int (pv 4))) pe_int) (fun _ _ => rfl))) (pe_slice sl_str (pv 3) (po_some (pv 5)) po_none))))))))), ?_⟩
    have ell : (("bcdfghjklmnpqrstvwxyz" : Str)).length = 21 := by decide +kernel
    refine ⟨_, rfl, a, x, b, 8, rfl, ha, by omega, by omega, fun x1 n n0 n8 => ⟨n, rfl, by omega, by omega,
      for_range (n := n.toNat) (fun i σ Hx => ∃ z y4 x', σ = [some (.ref a), some (.int 4), some (.str "bcdfghjklmnpqrstvwxyz"), some (.str z), y4, none, none] ∧ z.length ≤ i ∧ Mod a H Hx ∧ Hx a = some (StO x' b))
        ⟨_, none, x1, rfl, by decide, Mod.upd, upd_same⟩ (fun i σ Hx hi p => ?_) (fun σ Hx p => ?_)⟩⟩
    · obtain ⟨z, y4, x', rfl, hz, md, hx⟩ := p
      refine ⟨_, rfl, _, rfl, .ref a, rfl, a, x', b, 21, rfl, hx, by omega, by omega, fun x2 r r0 r1 => ?_⟩
      obtain ⟨c, hc⟩ := letter r r0 r1
      refine ⟨_, r, c, rfl, rfl, by rw [ell]; exact lt_le (szl 21 (by omega)), hc, z, _, rfl, rfl, ?_, ?_⟩
      · have e1 : (⟨#[c]⟩ : Str).length = 1 := rfl
        rw [e1]
        exact lt_le (szl _ (by omega))
      · refine ⟨_, _, x2, rfl, ?_, md.trans Mod.upd, upd_same⟩
        rw [PyProof.Rows.len_cat]
        have e1 : (⟨#[c]⟩ : Str).length = 1 := rfl
        omega
    · obtain ⟨z, y4, x', rfl, hz, md, hx⟩ := p
      refine ⟨_, rfl, _, rfl, z, rfl, lt_le (szl _ (by omega)), _, _, rfl, rfl, a, x', b, _, rfl, hx, by omega, by omega, fun x2 t t0 t1 => ?_⟩
      refine ⟨_, rfl, a, x2, b, 21, rfl, upd_same, by omega, by omega, fun x3 u u0 u1 => ?_⟩
      obtain ⟨H1, hH1⟩ : ∃ H1, H1 = upd (upd Hx a (StO x2 b)) a (StO x3 b) := ⟨_, rfl⟩
      rw [← hH1]
      have md1 : Mod a H H1 := by rw [hH1]; exact (md.trans Mod.upd).trans Mod.upd
      have ha1 : H1 a = some (StO x3 b) := by rw [hH1]; exact upd_same
      refine ⟨_, rfl, 4, rfl, by omega, by omega, fun D hD => lc_it (walk_range (n := 4)) (fun i Hz => Same H1 Hz ∧ ∃ N : List Str, N.length = i ∧ Hz D = some (.lst (N.map V.str)))
        ⟨same_new hD _, [], rfl, upd_same⟩ (fun i Hz _ p => True.intro) (fun i y Hz Hz' hi p yy => ?_) (fun Hz p => ?_)⟩
      · obtain ⟨sz, N, hN, hy⟩ := p
        obtain ⟨rfl, rfl⟩ := yy
        obtain ⟨c, hc⟩ := letter ((u + 5 * (0 + (i : Int))) % 21) (Int.emod_nonneg _ (by omega)) (Int.emod_lt_of_pos _ (by omega))
        have l1 := cutS_length z none (some t)
        have l2 := cutS_length z (some t) none
        have l3 : (⟨#[c]⟩ : Str).length = 1 := rfl
        refine ⟨rfl, _, rfl, _, rfl, t, rfl, z, rfl, lt_le (szl _ (by omega)), _, rfl, _, rfl, _, rfl, _, _, rfl, rfl, .inl ⟨by decide, by decide⟩, _, _, rfl, rfl, _, _, rfl, rfl, (show (0 : Int) < 21 by decide), _, _, c, rfl, rfl, by rw [ell]; exact lt_le (szl 21 (by omega)), hc, _, _, rfl, rfl, ?_, ?_⟩
        · rw [l3]
          exact lt_le (szl _ (by omega))
        refine ⟨_, rfl, _, rfl, t, rfl, z, rfl, lt_le (szl _ (by omega)), _, _, rfl, rfl, ?_, _, hy, ?_, sm_upd sz hD, N ++ [cutS z none (some t) ++ ⟨#[c]⟩ ++ cutS z (some t) none], ?_, ?_⟩
        · rw [PyProof.Rows.len_cat, l3]
          exact lt_le (szl _ (by omega))
        · rw [List.length_map]
          exact szl _ (by omega)
        · rw [List.length_append, hN]
          rfl
        · rw [upd_same, List.map_append]
          rfl
      · obtain ⟨sz, N, hN, hy⟩ := p
        have hD0 : H D = none := by
          have ne : D ≠ a := ne_of_none ha1 hD |>.symm
          cases e : H D with
          | none => rfl
          | some o =>
            rw [md1 _ _ ne e] at hD
            cases hD
        exact q Hz D N x3 hN hD0 (md1.trans (Mod.of sz)) (sz _ _ ha1) hy
end
end Nk


/-! The walk, part 10: a drawn length. -/
namespace Nk
open PySem PySem.Spec PyProof.Rows L2

abbrev sLawLength : Stmt := topS 19
abbrev nLawLength : List Str := ["_law_state_here", "_law_names_here", "_law_most", "_law_counts", "_law_name", "_law_way", "_law_count_here"]
theorem scLawLength : FnScope nLawLength ["_law_state_here", "_law_names_here", "_law_most"] (defScope sLawLength) := ⟨rfl, rfl, rfl, by decide +kernel, rfl, by decide +kernel, by decide +kernel⟩
theorem pick4 (r : Int) (h0 : 0 ≤ r) (h1 : r < 4) : ∃ v : Int, atI [V.int 0, V.int 0, V.int 1, V.int 2] r = some (.int v) ∧ 0 ≤ v ∧ v ≤ 2 := by
  have c : r = 0 ∨ r = 1 ∨ r = 2 ∨ r = 3 := by omega
  rcases c with rfl | rfl | rfl | rfl
  · exact ⟨0, rfl, by omega, by omega⟩
  · exact ⟨0, rfl, by omega, by omega⟩
  · exact ⟨1, rfl, by omega, by omega⟩
  · exact ⟨2, rfl, by omega, by omega⟩
/-- while a length is drawn -/
structure Cnt (N : List Str) (m : Pow) : Prop where
  nod : (m.map (·.1)).Nodup
  pos : ∀ f ∈ m, 1 ≤ f.2 ∧ f.2 ≤ 3 ∧ f.1 ∈ N
theorem Cnt.put {N : List Str} {m : Pow} (h : Cnt N m) {x : Str} {n : Int} (hx : x ∈ N) (h1 : 1 ≤ n) (h3 : n ≤ 3) : Cnt N (putG m x n) := by
  refine ⟨putG_nodup h.nod _ _, fun f hf => ?_⟩
  rcases mem_putG hf with rfl | ⟨hf, _⟩
  · exact ⟨h1, h3, hx⟩
  · exact h.pos f hf
theorem Cnt.len {N : List Str} {m : Pow} (h : Cnt N m) (hN : N.length ≤ 4) : (m.map entS).length < sizeLine := by
  rw [List.length_map]
  exact szl _ (Nat.le_trans (Nat.le_trans (len_le h.nod fun f hf => (h.pos f hf).2.2) hN) (by omega))
theorem Cnt.ok {N : List Str} {m : Pow} (h : Cnt N m) {n : Int} (h0 : 0 ≤ n) (h3 : n ≤ 3) : LenOk N ⟨n, m.mergeSort leF⟩ := by
  have pm : (m.mergeSort leF).Perm m := List.mergeSort_perm _ _
  refine ⟨h0, h3, ?_, fun f hf => h.pos f (pm.mem_iff.mp hf)⟩
  show ((m.mergeSort leF).map (·.1)).Nodup
  rw [(pm.map (·.1)).nodup_iff]
  exact h.nod
section
variable {P : Program} {w : World} {K : PySem.W.Frag} {mg : Str → Option Value} {base : Heap}
def spLength (K : PySem.W.Frag) : Sp := fun vs H Q _ => ∃ (a l : Addr) (x : Int) (b : Bool) (N : List Str), vs = [.ref a, .ref l, .int 3] ∧ H a = some (StO x b) ∧ H l = some (.lst (N.map V.str)) ∧ l ≠ a ∧ N.length ≤ 4 ∧
  ∀ H' r x' L, Mod a H H' → H' a = some (StO x' b) → LenOk N L → TD K H' (.ref r) (dL L) → Q (.ref r) H'
theorem ok_length {f fD : Addr} {fd fdD : FuncData} (F : Fun K "_law_length" "_law_length" sLawLength f fd) (G : FnOk P w K mg base CX0 1 fD fdD ["_law_state_here", "_law_many"] spDraw) (bD : Binds K fdD ["_law_state_here", "_law_many"] []) (kD : PySem.W.keepIn K (.ref fD) = true) (gD : mg "_law_draw" = some (.ref fD))
    (mt : mg "tuple" = none) (ms : mg "sorted" = none) : FnOk P w K mg base CX0 2 f fd ["_law_state_here", "_law_names_here", "_law_most"] (spLength K) := by
  refine F.ok scLawLength (fun vs H Q E h => ?_) (fun cdv A outer s H vs Q E hr h => ?_)
  · obtain ⟨a, l, x, b, N, rfl, _⟩ := h
    rfl
  · obtain ⟨a, l, x, b, N, rfl, ha, hl, hla, hN, q⟩ := h
    refine ⟨_, pss_cons (ps_set (i := 3) scLawLength.nd rfl (.inl rfl) pe_dnewK)
      (pss_cons (ps_for PassesOwn.never rfl (pi_list (pv 1)) (pg_name (i := 4) scLawLength.nd rfl (.inl rfl))
        (pss_cons (ps_set (i := 5) scLawLength.nd rfl (.inl rfl) (pe_call G hr (by rfl) gD kD bD .nil pass0 (pa_cons (pv 0) (pa_cons pe_int pa_nil))))
        (pss_cons (ps_if (pt_cmpR op_gt (pv 5) pe_int (nomark _)) (pss_one (ps_dput (hu_of hr) (pv 3) (pv 4) pe_int rfl)) pss_nil)
        (pss_one (ps_if (pt_cmpR op_eq (pv 5) pe_int (nomark _)) (pss_one (ps_dput (hu_of hr) (pv 3) (pv 4) (pe_op op_add pe_int (pe_call G hr (by rfl) gD kD bD .nil pass0 (pa_cons (pv 0) (pa_cons (pv 2) pa_nil)))) rfl)) pss_nil)))))
      (pss_cons (ps_set (i := 6) scLawLength.nd rfl (.inl rfl) (pe_ix ix_list (pe_lst (pa_cons pe_int (pa_cons pe_int (pa_cons pe_int (pa_cons pe_int pa_nil))))) (pe_call G hr (by rfl) gD kD bD .nil pass0 (pa_cons (pv 0) (pa_cons pe_int pa_nil))) (fun _ _ => rfl)))
      (pss_cons (ps_if (pt_cmpR op_eq (pv 6) pe_int (nomark _)) (pss_one (ps_set (i := 6) scLawLength.nd rfl (.inl rfl) (pe_call G hr (by rfl) gD kD bD .nil pass0 (pa_cons (pv 0) (pa_cons (pe_op op_add (pv 2) pe_int) pa_nil))))) pss_nil)
      (pss_one (ps_ret (pe_tupP (pa_cons (pv 6) (pa_cons (pe_callTy cr_tupP (by rfl) mt PyProof.Rows.boot_tuple (pa_cons (pe_callB (cr_sortIt rfl hr.units) (by rfl) ms PyProof.Rows.boot_sorted (pa_cons (pe_bm0 PySem.F.plainAttrs_dict PySem.F.slot_dict_items PySem.F.type_dict_items mt_itemsS (pv 3)) pa_nil)) pa_nil)) pa_nil)))))))), ?_⟩
    intro d hd
    have nda : a ≠ d := ne_of_none ha hd
    have ndl : l ≠ d := ne_of_none hl hd
    -- a store in d
    have md_d : ∀ {Hx : Hp} {o : HO}, Mod a H Hx → Mod a H (upd Hx d o) := fun m c u n e => by
      rw [upd_ne (ne_of_none e hd)]
      exact m c u n e
    refine ⟨.ref l, rfl, l, rfl, ⟨_, SqL.of (by rw [upd_ne ndl]; exact hl)⟩, for_it (walk_list (xs := N.map V.str)) (fun i σ Hx => ∃ m x' y4 y5, σ = [some (.ref a), some (.ref l), some (.int 3), some (.ref d), y4, y5, none] ∧ Mod a H Hx ∧ Hx a = some (StO x' b) ∧ Hx d = some (.dK (m.map entS)) ∧ Cnt N m)
      ⟨[], x, none, none, rfl, md_d (Mod.refl a H), by rw [upd_ne nda]; exact ha, upd_same, List.nodup_nil, fun f hf => by cases hf⟩ (fun i σ Hx _ p => ?_) (fun i z σ Hx Hx' hi p y => ?_) (fun σ Hx p => ?_)⟩
    · obtain ⟨m, x', y4, y5, _, md, _⟩ := p
      exact SqL.of (md _ _ hla hl)
    · obtain ⟨m, x', y4, y5, rfl, md, hx, hdx, ct⟩ := p
      obtain ⟨rfl, hz⟩ := y
      rw [List.getElem?_map] at hz
      obtain ⟨nm, hnm, rfl⟩ : ∃ nm, N[i]? = some nm ∧ z = .str nm := by
        cases hh : N[i]? with
        | none => rw [hh] at hz; cases hz
        | some nm =>
          rw [hh] at hz
          exact ⟨nm, rfl, (Option.some.inj hz).symm⟩
      have hmem := List.mem_of_getElem? hnm
      refine ⟨_, rfl, a, x', b, 4, rfl, hx, by omega, by omega, fun x1 way w0 w4 => ?_⟩
      have md1 : Mod a H (upd Hx' a (StO x1 b)) := md.trans Mod.upd
      have hd1 : upd Hx' a (StO x1 b) d = some (.dK (m.map entS)) := by rw [upd_ne nda.symm]; exact hdx
      have ha1 : upd Hx' a (StO x1 b) a = some (StO x1 b) := upd_same
      generalize upd Hx' a (StO x1 b) = H1 at md1 hd1 ha1 ⊢
      refine ⟨_, rfl, _, _, rfl, rfl, _, rfl, ite2 (fun c => ⟨_, rfl, _, rfl, d, _, rfl, DPut.k (k := Sum.inr nm) hd1 (ct.len hN), ?_⟩) (fun c => ?_)⟩
      · have md2 : Mod a H (upd H1 d (.dK (putK (m.map entS) (Sum.inr nm) (.int 1)))) := md_d md1
        have hd2 : upd H1 d (.dK (putK (m.map entS) (Sum.inr nm) (.int 1))) d = some (.dK ((putG m nm 1).map entS)) := by rw [upd_same, putS]
        have ha2 : upd H1 d (.dK (putK (m.map entS) (Sum.inr nm) (.int 1))) a = some (StO x1 b) := by rw [upd_ne nda]; exact ha1
        generalize upd H1 d (.dK (putK (m.map entS) (Sum.inr nm) (.int 1))) = H2 at md2 hd2 ha2 ⊢
        have ct2 : Cnt N (putG m nm 1) := ct.put hmem (by omega) (by omega)
        refine ⟨_, rfl, rfl, _, rfl, ite2 (fun c => ⟨_, rfl, _, rfl, a, x1, b, 3, rfl, ha2, by omega, by omega, fun x2 r r0 r3 => ⟨_, _, rfl, rfl, _, rfl, _, rfl, d, _, rfl, DPut.k (k := Sum.inr nm) (kvs := (putG m nm 1).map entS) (by rw [upd_ne nda.symm]; exact hd2) (ct2.len hN), ?_⟩⟩) (fun c => ?_)⟩
        · exact ⟨putG (putG m nm 1) nm (1 + r), x2, _, _, rfl, md_d (md2.trans Mod.upd), by rw [upd_ne nda, upd_same], by rw [upd_same]; exact congrArg (fun z => some (HO.dK z)) (putS _ _ _), ct2.put hmem (by omega) (by omega)⟩
        · exact ⟨putG m nm 1, x1, _, _, rfl, md2, ha2, hd2, ct2⟩
      · refine ⟨_, rfl, rfl, _, rfl, ite2 (fun c => ⟨_, rfl, _, rfl, a, x1, b, 3, rfl, ha1, by omega, by omega, fun x2 r r0 r3 => ⟨_, _, rfl, rfl, _, rfl, _, rfl, d, _, rfl, DPut.k (k := Sum.inr nm) (kvs := m.map entS) (by rw [upd_ne nda.symm]; exact hd1) (ct.len hN), ?_⟩⟩) (fun c => ?_)⟩
        · exact ⟨putG m nm (1 + r), x2, _, _, rfl, md_d (md1.trans Mod.upd), by rw [upd_ne nda, upd_same], by rw [upd_same]; exact congrArg (fun z => some (HO.dK z)) (putS _ _ _), ct.put hmem (by omega) (by omega)⟩
        · exact ⟨m, x1, _, _, rfl, md1, ha1, hd1, ct⟩
    · obtain ⟨m, x', y4, y5, rfl, md, hx, hdx, ct⟩ := p
      have last : ∀ (Hz : Hp) (xz v : Int), 0 ≤ v → v ≤ 3 → Mod a H Hz → Hz a = some (StO xz b) → Hz d = some (.dK (m.map entS)) → ∀ (p : Addr), Hz p = none → ∀ H' l ys, Same (upd Hz p (L2.DX.itemsO p d)) H' → H' l = some (.lst ys) → TDs K H' ys ((m.mergeSort (PySem.W.dataLe false dF)).map dF) →
          ∀ r u, H' r = none → IsP u ys → ∀ r2 u2, upd H' r u r2 = none → IsP u2 [.int v, .ref r] → Q (.ref r2) (upd (upd H' r u) r2 u2) := by
        intro Hz xz v v0 v3 mz hz hdz p hp H' l ys s' hl td r u hr hu r2 u2 hr2 hu2
        have sm : Same Hz (upd (upd H' r u) r2 u2) := sm_new (sm_new (fun c o e => s' c o (same_new hp _ c o e)) hr) hr2
        refine q _ r2 xz ⟨v, m.mergeSort leF⟩ (mz.trans (Mod.of sm)) (sm _ _ hz) (ct.ok v0 v3) (.tup (sqP_new hu2) (.cons (.int v) (.cons (.tup ((KT.new hr2 u2).sqP (sqP_new hu)) ?_) .nil)))
        exact (td.up (KT.new hr u)).up (KT.new hr2 u2)
      refine ⟨by show 4 ≤ sizeLine; exact lt_le (szl 4 (by omega)), fun qa hq => ⟨_, rfl, a, x', b, 4, rfl, ?_, by omega, by omega, fun x1 r r0 r4 => ?_⟩⟩
      · rw [upd_ne (ne_of_none hx hq)]
        exact hx
      have naq : a ≠ qa := ne_of_none hx hq
      have ndq : d ≠ qa := ne_of_none hdx hq
      obtain ⟨v, hv, v0, v2⟩ := pick4 r r0 r4
      refine ⟨qa, _, r, .int v, rfl, rfl, SqL.of (by rw [upd_ne naq.symm, upd_same]), hv, ?_⟩
      have md1 : Mod a H (upd (upd Hx qa (.lst [.int 0, .int 0, .int 1, .int 2])) a (StO x1 b)) := (md.trans (Mod.of (same_new hq _))).trans Mod.upd
      have ha1 : upd (upd Hx qa (.lst [.int 0, .int 0, .int 1, .int 2])) a (StO x1 b) a = some (StO x1 b) := upd_same
      have hd1 : upd (upd Hx qa (.lst [.int 0, .int 0, .int 1, .int 2])) a (StO x1 b) d = some (.dK (m.map entS)) := by
        rw [upd_ne nda.symm, upd_ne ndq]
        exact hdx
      generalize upd (upd Hx qa (.lst [.int 0, .int 0, .int 1, .int 2])) a (StO x1 b) = H1 at md1 ha1 hd1 ⊢
      refine ⟨_, rfl, rfl, _, rfl, ite2 (fun c => ⟨_, rfl, _, rfl, _, _, rfl, rfl, a, x1, b, _, rfl, ha1, by omega, by omega, fun x2 g g0 g4 => ?_⟩) (fun c => ?_)⟩
      · have md2 := md1.trans (Mod.upd (H := H1) (o := StO x2 b))
        have hd2 : upd H1 a (StO x2 b) d = some (.dK (m.map entS)) := by
          rw [upd_ne nda.symm]
          exact hd1
        refine ⟨_, rfl, _, rfl, .inr (.inr (.inl ⟨rfl, .inl ⟨_, hd2⟩⟩)), d, _, rfl, rfl, hd2, fun p hp => ⟨p, d, m, rfl, upd_same, ?_, srt_dF _, fun H' l ys s' hl td => ⟨l, ys, rfl, SqL.of hl, fun r u hr hu => ⟨lt_le (szl 2 (by omega)), fun r2 u2 hr2 hu2 => ?_⟩⟩⟩⟩
        · rw [upd_ne (ne_of_none hd2 hp)]
          exact hd2
        · exact last _ x2 g g0 (by omega) md2 upd_same hd2 p hp H' l ys s' hl td r u hr hu r2 u2 hr2 hu2
      · refine ⟨_, rfl, _, rfl, .inr (.inr (.inl ⟨rfl, .inl ⟨_, hd1⟩⟩)), d, _, rfl, rfl, hd1, fun p hp => ⟨p, d, m, rfl, upd_same, ?_, srt_dF _, fun H' l ys s' hl td => ⟨l, ys, rfl, SqL.of hl, fun r u hr hu => ⟨lt_le (szl 2 (by omega)), fun r2 u2 hr2 hu2 => ?_⟩⟩⟩⟩
        · rw [upd_ne (ne_of_none hd1 hp)]
          exact hd1
        · exact last _ x1 v v0 (by omega) md1 ha1 hd1 p hp H' l ys s' hl td r u hr hu r2 u2 hr2 hu2
end
end Nk


/-! The walk, part 11: the pile of kinds. -/
namespace Nk
open PySem PySem.Spec PyProof.Rows L2

abbrev sLawGrown : Stmt := topS 20
abbrev nLawGrown : List Str := ["_law_script", "_law_start", "_law_end", "_law_names_here", "_law_most", "_law_pile", "_law_k", "_law_state_here", "_law_way", "_law_kind", "_law_size", "_law_last", "_law_first", "_law_other"]
theorem scLawGrown : FnScope nLawGrown ["_law_script", "_law_start", "_law_end", "_law_names_here", "_law_most"] (defScope sLawGrown) := ⟨rfl, rfl, rfl, by decide +kernel, rfl, by decide +kernel, by decide +kernel⟩
def dKS (κ : Kd) : PyData := .tuple [dK κ, .int (size κ)]
theorem atI_last2 {α : Type} (xs : List α) (u v : α) : atI (xs ++ [u] ++ [v]) (-2) = some u := by
  have hl : (xs ++ [u] ++ [v]).length = xs.length + 2 := by simp
  have e : ixN (xs ++ [u] ++ [v]).length (-2) = some xs.length := by
    unfold ixN
    rw [if_neg (by omega), if_pos (by omega)]
    congr 1
    omega
  unfold atI
  rw [e]
  simp
theorem TDs.unsnoc {K : PySem.W.Frag} {H : Hp} : ∀ {ds : List PyData} {d : PyData} {xs : List V}, TDs K H xs (ds ++ [d]) → ∃ ys v, xs = ys ++ [v] ∧ TDs K H ys ds ∧ TD K H v d
  | [], d, xs, h => by
    obtain ⟨v, rfl, t⟩ := TDs.one (h : TDs K H xs [d])
    exact ⟨[], v, rfl, .nil, t⟩
  | e :: ds, d, _, h => by
    cases h with
    | cons h1 h2 =>
      obtain ⟨ys, v, rfl, t1, t2⟩ := h2.unsnoc
      exact ⟨_ :: ys, v, rfl, .cons h1 t1, t2⟩
section
variable {K : PySem.W.Frag}
/-- the pile at q -/
structure Pile (K : PySem.W.Frag) (N : List Str) (H : Hp) (q : Addr) (xs : List V) (κs : List Kd) : Prop where
  at_ : H q = some (.lst xs)
  td : TDs K H xs (κs.map dKS)
  ok : ∀ κ ∈ κs, KdOk N κ ∧ size κ ≤ 12
theorem Pile.up {N : List Str} {H H' : Hp} {q : Addr} {xs : List V} {κs : List Kd} (h : Pile K N H q xs κs) (s : Same H H') : Pile K N H' q xs κs := ⟨s _ _ h.at_, h.td.up (.of s), h.ok⟩
theorem Pile.mod {N : List Str} {H H' : Hp} {q a : Addr} {xs ys : List V} {κs : List Kd} (h : Pile K N H q xs κs) (s : Mod a H H') (ha : H a = some (.lst ys)) (n : q ≠ a) : Pile K N H' q xs κs := ⟨s _ _ n h.at_, h.td.up (s.kt ha), h.ok⟩
theorem Pile.len {N : List Str} {H : Hp} {q : Addr} {xs : List V} {κs : List Kd} (h : Pile K N H q xs κs) : xs.length = κs.length := h.td.len
/-- the last one taken -/
theorem Pile.pop {N : List Str} {H : Hp} {q : Addr} {xs : List V} {κs : List Kd} {κ : Kd} (h : Pile K N H q xs (κs ++ [κ])) : ∃ ys a v, xs = ys ++ [.ref a] ∧ SqT K H a [v, .int (size κ)] ∧ TD K H v (dK κ) ∧
    TDs K H ys (κs.map dKS) ∧ xs[xs.length - 1]? = some (.ref a) ∧ SqT K (upd H q (.lst xs.dropLast)) a [v, .int (size κ)] ∧ TD K (upd H q (.lst xs.dropLast)) v (dK κ) ∧ Pile K N (upd H q (.lst xs.dropLast)) q ys κs := by
  have t := h.td
  rw [List.map_append] at t
  obtain ⟨ys, v, rfl, t1, t2⟩ := TDs.unsnoc (t : TDs K H xs (κs.map dKS ++ [dKS κ]))
  obtain ⟨a, zs, rfl, hs, hd⟩ := t2.tupInv
  obtain ⟨u1, u2, rfl, r1, r2⟩ := hd.two
  obtain rfl := r2.intInv
  have kt := kt_lst (o := .lst (ys ++ [V.ref a]).dropLast) h.at_
  refine ⟨ys, a, u1, rfl, hs.T, r1, t1, ?_, kt.sqT hs.T, r1.up kt, by rw [upd_same, List.dropLast_concat], t1.up kt, fun k hk => h.ok k (List.mem_append_left _ hk)⟩
  rw [List.length_append]
  simp
/-- one put on -/
theorem Pile.push {N : List Str} {H : Hp} {q t1 t2 : Addr} {u1 u2 : HO} {xs : List V} {κs : List Kd} {κ : Kd} (h : Pile K N H q xs κs) (h1 : H t1 = none) (tk : TD K (upd H t1 u1) (.ref t1) (dK κ)) (h2 : upd H t1 u1 t2 = none)
    (p2 : IsP u2 [.ref t1, .int (size κ)]) (hk : KdOk N κ ∧ size κ ≤ 12) : (upd (upd H t1 u1) t2 u2) q = some (.lst xs) ∧ Pile K N (upd (upd (upd H t1 u1) t2 u2) q (.lst (xs ++ [.ref t2]))) q (xs ++ [.ref t2]) (κs ++ [κ]) := by
  have e : (upd (upd H t1 u1) t2 u2) q = some (.lst xs) := same_new h2 u2 _ _ (same_new h1 u1 _ _ h.at_)
  have kt := kt_lst (o := .lst (xs ++ [.ref t2])) e
  refine ⟨e, upd_same, ?_, fun k hk' => ?_⟩
  · rw [List.map_append]
    refine ((((h.td.up (KT.new h1 u1)).up (KT.new h2 u2)).up kt)).snoc (.tup (kt.sqP (sqP_new p2)) (.cons ((tk.up (KT.new h2 u2)).up kt) (.cons (.int _) .nil)))
  · rcases List.mem_append.mp hk' with hk' | hk'
    · exact h.ok k hk'
    · rw [List.mem_singleton.mp hk']
      exact hk
end
theorem snoc_of {α : Type} : ∀ {l : List α}, l ≠ [] → ∃ m a, l = m ++ [a]
  | [], h => absurd rfl h
  | [a], _ => ⟨[], a, rfl⟩
  | a :: b :: l, _ => by
    obtain ⟨m, c, e⟩ := snoc_of (l := b :: l) (by simp)
    exact ⟨a :: m, c, by rw [e]; rfl⟩
/-- a test that reads as b -/
def TTis (t : TT) (σ : L2.St) (H : Hp) (b : Bool) : Prop := ∀ Q : Bool → Hp → Prop, Q b H → t σ H Q
theorem and_is {t u : TT} {σ : L2.St} {H : Hp} {b c : Bool} (h1 : TTis t σ H b) (h2 : b = true → TTis u σ H c) : TTis (tAnd t u) σ H (b && c) := fun Q q => h1 _ (by
  show if b = true then u σ H Q else Q false H
  cases b with
  | true => exact h2 rfl Q q
  | false => exact q)
theorem if_and {t u : TT} {a c : TS} {D : Ends} {σ : L2.St} {H : Hp} {p q : Bool} (h1 : TTis t σ H p) (h2 : p = true → TTis u σ H q) (h : if (p && q) = true then a D σ H else c D σ H) : tIfS (tAnd t u) a c D σ H := and_is h1 h2 _ h
section
variable {P : Program} {w : World} {K : PySem.W.Frag} {mg : Str → Option Value} {base : Heap}
def spGrown (K : PySem.W.Frag) : Sp := fun vs H Q _ => ∃ (s l : Addr) (ns : List Int) (N : List Str), vs = [.ref s, .int 1, .int 63, .ref l, .int 3] ∧ SqL K H s (ns.map V.int) ∧ H l = some (.lst (N.map V.str)) ∧ N.length = 4 ∧
  ∀ H' q ys κs, Same H H' → Pile K N H' q ys κs → Q (.ref q) H'
theorem ok_grown {f fD fS fL : Addr} {fd fdD fdS fdL : FuncData} (F : Fun K "_law_grown" "_law_grown" sLawGrown f fd)
    (GD : FnOk P w K mg base CX0 1 fD fdD ["_law_state_here", "_law_many"] spDraw) (bD : Binds K fdD ["_law_state_here", "_law_many"] []) (kD : PySem.W.keepIn K (.ref fD) = true) (gD : mg "_law_draw" = some (.ref fD))
    (GS : FnOk P w K mg base CX0 1 fS fdS ["_law_script", "_law_k"] (spState K)) (bS : Binds K fdS ["_law_script", "_law_k"] []) (kS : PySem.W.keepIn K (.ref fS) = true) (gS : mg "_law_state" = some (.ref fS))
    (GL : FnOk P w K mg base CX0 2 fL fdL ["_law_state_here", "_law_names_here", "_law_most"] (spLength K)) (bL : Binds K fdL ["_law_state_here", "_law_names_here", "_law_most"] []) (kL : PySem.W.keepIn K (.ref fL) = true) (gL : mg "_law_length" = some (.ref fL))
    (mr : mg "range" = none) (mx : mg "max" = none) (mn : mg "min" = none) (ml : mg "len" = none) : FnOk P w K mg base CX0 3 f fd ["_law_script", "_law_start", "_law_end", "_law_names_here", "_law_most"] (spGrown K) := by
  refine F.ok scLawGrown (fun vs H Q E h => ?_) (fun cdv A outer s H vs Q E hr h => ?_)
  · obtain ⟨s, l, ns, N, rfl, _⟩ := h
    rfl
  · obtain ⟨sc, l, ns, N, rfl, hsc, hl, hN, q⟩ := h
    have hr1 := hr.mono (show 1 ≤ 2 by omega)
    refine ⟨_, pss_cons (ps_set (i := 5) scLawGrown.nd rfl (.inl rfl) (pe_lst (pa_cons (pe_tupP (pa_cons (pe_tupP (pa_cons pe_str pa_nil)) (pa_cons pe_int pa_nil))) pa_nil)))
      (pss_cons (ps_for PassesOwn.never rfl (pi_range2 (by rfl) mr (pa_cons (pv 1) (pa_cons (pe_callB (call_max2 rfl) (by rfl) mx PyProof.Rows.boot_max (pa_cons (pe_op op_add (pv 1) pe_int) (pa_cons (pe_callB (call_min2 rfl) (by rfl) mn PyProof.Rows.boot_min (pa_cons (pv 2) (pa_cons (pe_callB call_len_seq (by rfl) ml PySem.boot_len (pa_cons (pv 0) pa_nil)) pa_nil))) pa_nil))) pa_nil))) (pg_name (i := 6) scLawGrown.nd rfl (.inl rfl))
        (pss_cons (ps_set (i := 7) scLawGrown.nd rfl (.inl rfl) (pe_call GS hr1 (by rfl) gS kS bS .nil pass0 (pa_cons (pv 0) (pa_cons (pv 6) pa_nil))))
        (pss_cons (ps_set (i := 8) scLawGrown.nd rfl (.inl rfl) (pe_call GD hr1 (by rfl) gD kD bD .nil pass0 (pa_cons (pv 7) (pa_cons pe_int pa_nil))))
        (pss_one (ps_if (pw_and (pt_cmpR op_lt (pv 8) pe_int (nomark _)) (pw_and1 (pt_cmpR op_lt (pe_ix ix_tup (pe_ix ix_list (pv 5) (pe_un un_neg pe_int) (fun _ _ => rfl)) pe_int (fun _ _ => rfl)) pe_int (nomark _)))).pt
          (pss_cons (ps_asg (pe_bm0 PySem.F.plainAttrs_list PySem.F.slot_list_pop PySem.F.type_list_pop mt_pop (pv 5)) (pg_tup rfl (pgs_cons (pg_name (i := 9) scLawGrown.nd rfl (.inl rfl)) (pgs_cons (pg_name (i := 10) scLawGrown.nd rfl (.inl rfl)) pgs_nil))))
          (pss_one (ps_expr (pe_bm PySem.F.plainAttrs_list PySem.F.slot_list_append PySem.F.type_list_append mt_append (pv 5) (pa_cons (pe_tupP (pa_cons (pe_tupP (pa_cons pe_str (pa_cons (pe_call GL hr (by rfl) gL kL bL .nil pass0 (pa_cons (pv 7) (pa_cons (pv 3) (pa_cons (pv 4) pa_nil)))) (pa_cons (pv 9) pa_nil)))) (pa_cons (pe_op op_add (pv 10) pe_int) pa_nil))) pa_nil)))))
          (pss_one (ps_if (pw_and (pt_cmpR op_lt (pv 8) pe_int (nomark _)) (pw_and (pt_cmpR op_gt (pe_callB call_len_seq (by rfl) ml PySem.boot_len (pa_cons (pv 5) pa_nil)) pe_int (nomark _)) (pw_and1 (pt_cmpR op_lt (pe_op op_add (pe_ix ix_tup (pe_ix ix_list (pv 5) (pe_un un_neg pe_int) (fun _ _ => rfl)) pe_int (fun _ _ => rfl)) (pe_ix ix_tup (pe_ix ix_list (pv 5) (pe_un un_neg pe_int) (fun _ _ => rfl)) pe_int (fun _ _ => rfl))) pe_int (nomark _))))).pt
            (pss_cons (ps_asg (pe_bm0 PySem.F.plainAttrs_list PySem.F.slot_list_pop PySem.F.type_list_pop mt_pop (pv 5)) (pg_tup rfl (pgs_cons (pg_name (i := 11) scLawGrown.nd rfl (.inl rfl)) (pgs_cons (pg_name (i := 10) scLawGrown.nd rfl (.inl rfl)) pgs_nil))))
            (pss_cons (ps_asg (pe_bm0 PySem.F.plainAttrs_list PySem.F.slot_list_pop PySem.F.type_list_pop mt_pop (pv 5)) (pg_tup rfl (pgs_cons (pg_name (i := 12) scLawGrown.nd rfl (.inl rfl)) (pgs_cons (pg_name (i := 13) scLawGrown.nd rfl (.inl rfl)) pgs_nil))))
            (pss_one (ps_expr (pe_bm PySem.F.plainAttrs_list PySem.F.slot_list_append PySem.F.type_list_append mt_append (pv 5) (pa_cons (pe_tupP (pa_cons (pe_tupP (pa_cons pe_str (pa_cons (pv 12) (pa_cons (pv 11) pa_nil)))) (pa_cons (pe_op op_add (pe_op op_add (pv 10) (pv 13)) pe_int) pa_nil))) pa_nil))))))
            (pss_one (ps_if (pt_cmpR op_eq (pv 8) pe_int (nomark _))
              (pss_one (ps_expr (pe_bm PySem.F.plainAttrs_list PySem.F.slot_list_append PySem.F.type_list_append mt_append (pv 5) (pa_cons (pe_tupP (pa_cons (pe_tupP (pa_cons pe_str (pa_cons (pe_call GL hr (by rfl) gL kL bL .nil pass0 (pa_cons (pv 7) (pa_cons (pv 3) (pa_cons (pv 4) pa_nil)))) pa_nil))) (pa_cons pe_int pa_nil))) pa_nil))))
              (pss_one (ps_expr (pe_bm PySem.F.plainAttrs_list PySem.F.slot_list_append PySem.F.type_list_append mt_append (pv 5) (pa_cons (pe_tupP (pa_cons (pe_tupP (pa_cons pe_str pa_nil)) (pa_cons pe_int pa_nil))) pa_nil)))))))))))))
      (pss_one (ps_ret (pv 5)))), ?_⟩
    refine ⟨lt_le (szl 1 (by omega)), fun t1 u1 h1 p1 => ⟨lt_le (szl 2 (by omega)), fun t2 u2 h2 p2 => ⟨lt_le (szl 1 (by omega)), fun q0 hq => ?_⟩⟩⟩
    have hsm : Same H (upd (upd (upd H t1 u1) t2 u2) q0 (.lst [.ref t2])) := sm_new (sm_new (same_new h1 u1) h2) hq
    have hq0 : H q0 = none := none_of (sm_new (same_new h1 u1) h2) hq
    have pl0 : Pile K N (upd (upd (upd H t1 u1) t2 u2) q0 (.lst [.ref t2])) q0 [.ref t2] [.whole] := by
      refine ⟨upd_same, .cons (.tup ((KT.new hq _).sqP (sqP_new p2)) (.cons ?_ (.cons (.int 1) .nil))) .nil, fun k hk => ?_⟩
      · exact .tup ((KT.new hq _).sqP ((KT.new h2 u2).sqP (sqP_new p1))) (.cons (.str _) .nil)
      · rw [List.mem_singleton.mp hk]
        exact ⟨True.intro, by show (1 : Int) ≤ 12; omega⟩
    obtain ⟨J, hJ⟩ : ∃ J : Int, J = (if (if ((ns.map V.int).length : Int) < 63 then ((ns.map V.int).length : Int) else 63) > 1 + 1 then (if ((ns.map V.int).length : Int) < 63 then ((ns.map V.int).length : Int) else 63) else 1 + 1) := ⟨_, rfl⟩
    have hJ2 : 2 ≤ J ∧ J ≤ 63 := by
      rw [hJ]
      split <;> split <;> omega
    refine ⟨_, rfl, _, rfl, _, _, rfl, rfl, _, rfl, .ref sc, rfl, sc, _, rfl, .inl (hsm.seq hsc), _, _, rfl, _, _, rfl, _, J, by rw [hJ], ⟨by omega, by omega, by omega, by omega⟩,
      for_range (lo := 1) (n := (J - 1).toNat) (fun i σ Hx => ∃ y6 y7 y8 y9 y10 y11 y12 y13 ys κs, σ = [some (.ref sc), some (.int 1), some (.int 63), some (.ref l), some (.int 3), some (.ref q0), y6, y7, y8, y9, y10, y11, y12, y13] ∧ Same H Hx ∧ Pile K N Hx q0 ys κs ∧ κs ≠ [] ∧ κs.length ≤ i + 1)
        ⟨none, none, none, none, none, none, none, none, _, _, rfl, hsm, pl0, by simp, by simp⟩ (fun i σ Hx hi p => ?_) (fun σ Hx p => ?_)⟩
    · obtain ⟨y6, y7, y8, y9, y10, y11, y12, y13, ys, κs, rfl, sm, pl, hne, hlen⟩ := p
      refine ⟨_, rfl, _, rfl, sc, ns, 1 + (i : Int), rfl, sm.seq hsc, by omega, by omega, fun p x b hp => ?_⟩
      refine ⟨_, rfl, p, x, b, 7, rfl, upd_same, by omega, by omega, fun x1 way w0 w7 => ?_⟩
      have hp0 : H p = none := none_of sm hp
      have hqp : q0 ≠ p := ne_of_none pl.at_ hp
      have hlp : l ≠ p := ne_of_none (sm _ _ hl) hp
      have sm2 : Same H (upd (upd Hx p (StO x b)) p (StO x1 b)) := sm_upd (sm_new sm hp) hp0
      have hp2 : upd (upd Hx p (StO x b)) p (StO x1 b) p = some (StO x1 b) := upd_same
      have pl2 : Pile K N (upd (upd Hx p (StO x b)) p (StO x1 b)) q0 ys κs := (pl.up (same_new hp (StO x b))).mod Mod.upd upd_same hqp
      generalize upd (upd Hx p (StO x b)) p (StO x1 b) = H2 at sm2 hp2 pl2 ⊢
      obtain ⟨κs', κ, rfl⟩ := snoc_of hne
      obtain ⟨ys', a, v, rfl, hsa, tv, tys, hlast, hsa', tv', plp⟩ := pl2.pop
      have hyl : (ys' ++ [V.ref a]).length = (κs' ++ [κ]).length := pl2.len
      have hk := pl2.ok κ (List.mem_append_right _ (List.mem_singleton.mpr rfl))
      have hH2l : H2 l = some (.lst (N.map V.str)) := sm2 _ _ hl
      have szq : ys'.length < sizeLine := by
        rw [List.length_append, List.length_append] at hyl
        rw [List.length_append] at hlen
        exact szl _ (by omega)
      have szq2 : (ys' ++ [V.ref a]).length < sizeLine := by
        rw [hyl]
        exact szl _ (by omega)
      dsimp only [gName]
      refine if_and (p := decide (way < 2)) (q := decide (size κ < 12)) (fun Q' q' => ⟨_, rfl, _, _, rfl, rfl, _, rfl, q'⟩)
        (fun _ Q' q' => ⟨_, rfl, 1, rfl, q0, _, -1, _, rfl, rfl, SqL.of pl2.at_, atI_last _ _, a, _, 1, _, rfl, rfl, hsa, atI_nat (j := 1) rfl, _, _, rfl, rfl, _, rfl, q'⟩) ?_
      refine ite2 (fun c => ?_) (fun c => ?_)
      · -- a row
        rw [Bool.and_eq_true] at c
        have c2 : size κ < 12 := of_decide_eq_true c.2
        refine ⟨_, rfl, .inl ⟨rfl, _, SqL.of pl2.at_⟩, q0, _, .ref a, rfl, rfl, pl2.at_, hlast, a, _, rfl, hsa', rfl, _, _, rfl, _, _, rfl, rfl, ?_⟩
        have sm3 : Same H (upd H2 q0 (.lst (ys' ++ [V.ref a]).dropLast)) := sm_upd sm2 hq0
        have hp3 : upd H2 q0 (.lst (ys' ++ [V.ref a]).dropLast) p = some (StO x1 b) := by rw [upd_ne hqp.symm]; exact hp2
        generalize upd H2 q0 (.lst (ys' ++ [V.ref a]).dropLast) = H3 at sm3 hp3 plp tv' ⊢
        refine ⟨_, rfl, .inl ⟨rfl, _, SqL.of plp.at_⟩, _, rfl, _, rfl, _, rfl, p, l, x1, b, N, rfl, hp3, sm3 _ _ hl, hlp, by omega, fun H4 r x' L md h4 hL tL => ?_⟩
        have sm4 : Same H H4 := md.same sm3 hp0
        have pl4 := plp.mod md hp3 hqp
        have tv4 := tv'.up (md.kt hp3)
        refine ⟨_, rfl, lt_le (szl 3 (by omega)), fun t1 u1 h1 p1 => ⟨_, rfl, _, _, rfl, rfl, lt_le (szl 2 (by omega)), fun t2 u2 h2 p2 => ?_⟩⟩
        obtain ⟨e1, e2⟩ := pl4.push (κ := .row L κ) h1 (.tup (sqP_new p1) (.cons (.str _) (.cons (tL.up (KT.new h1 u1)) (.cons (tv4.up (KT.new h1 u1)) .nil)))) h2 p2 ⟨⟨hL, hk.1⟩, by show size κ + 1 ≤ 12; omega⟩
        refine ⟨q0, _, .ref t2, rfl, rfl, e1, szq, _, _, _, _, _, _, _, _, _, _, rfl, sm_upd (sm_new (sm_new sm4 h1) h2) hq0, e2, by simp, ?_⟩
        rw [List.length_append] at hlen ⊢
        have : ([Kd.row L κ]).length = 1 := rfl
        have : ([κ]).length = 1 := rfl
        omega
      · obtain ⟨n2, hn2⟩ : ∃ n2 : Int, 1 < (κs' ++ [κ]).length → ∃ κs'' κ2 ys'' a2 v2, κs' = κs'' ++ [κ2] ∧ n2 = size κ2 ∧ ys' = ys'' ++ [.ref a2] ∧ SqT K H2 a2 [v2, .int n2] := by
          by_cases h0 : κs' = []
          · refine ⟨0, fun h => ?_⟩
            rw [h0] at h
            exact absurd h (show ¬ 1 < 1 by omega)
          · obtain ⟨κs'', κ2, rfl⟩ := snoc_of h0
            rw [List.map_append] at tys
            obtain ⟨ys'', v3, rfl, z1, z2⟩ := TDs.unsnoc (tys : TDs K H2 ys' (κs''.map dKS ++ [dKS κ2]))
            obtain ⟨a2, zs, rfl, hs2, hd2⟩ := z2.tupInv
            obtain ⟨u1, u2, rfl, r1, r2⟩ := hd2.two
            obtain rfl := r2.intInv
            exact ⟨size κ2, fun _ => ⟨κs'', κ2, ys'', a2, u1, rfl, rfl, rfl, hs2.T⟩⟩
        refine if_and (p := decide (way < 5)) (q := decide (1 < ((ys' ++ [V.ref a]).length : Int)) && decide (size κ + n2 < 12)) (fun Q' q' => ⟨_, rfl, _, _, rfl, rfl, _, rfl, q'⟩)
          (fun _ => and_is (fun Q' q' => ⟨.ref q0, rfl, q0, _, rfl, .inl (SqL.of pl2.at_), _, _, rfl, rfl, _, rfl, q'⟩) (fun hb Q' q' => ?_)) ?_
        · have hb' : (1 : Int) < ((ys' ++ [V.ref a]).length : Int) := of_decide_eq_true hb
          obtain ⟨κs'', κ2, ys'', a2, v2, _, _, rfl, hs2⟩ := hn2 (by rw [← hyl]; omega)
          exact ⟨_, rfl, 1, rfl, q0, _, -1, _, rfl, rfl, SqL.of pl2.at_, atI_last _ _, a, _, 1, _, rfl, rfl, hsa, atI_nat (j := 1) rfl, _, rfl, 2, rfl, q0, _, -2, _, rfl, rfl, SqL.of pl2.at_, atI_last2 _ _ _, a2, _, 1, _, rfl, rfl, hs2, atI_nat (j := 1) rfl, _, _, rfl, rfl, _, _, rfl, rfl, _, rfl, q'⟩
        refine ite2 (fun c => ?_) (fun c => ?_)
        · -- a pair
          rw [Bool.and_eq_true, Bool.and_eq_true] at c
          have c2 : (1 : Int) < ((ys' ++ [V.ref a]).length : Int) := of_decide_eq_true c.2.1
          have c3 : size κ + n2 < 12 := of_decide_eq_true c.2.2
          obtain ⟨κs'', κ2, _, _, _, rfl, rfl, _, _⟩ := hn2 (by rw [← hyl]; omega)
          refine ⟨_, rfl, .inl ⟨rfl, _, SqL.of pl2.at_⟩, q0, _, .ref a, rfl, rfl, pl2.at_, hlast, a, _, rfl, hsa', rfl, _, _, rfl, _, _, rfl, rfl, ?_⟩
          have sm3 : Same H (upd H2 q0 (.lst (ys' ++ [V.ref a]).dropLast)) := sm_upd sm2 hq0
          generalize upd H2 q0 (.lst (ys' ++ [V.ref a]).dropLast) = H3 at sm3 plp tv' ⊢
          have hk2 := plp.ok κ2 (List.mem_append_right _ (List.mem_singleton.mpr rfl))
          have atp := plp.at_
          obtain ⟨ys2, a2, v2, rfl, hs2, tv2, tys2, hlast2, hs2', tv2', plq⟩ := plp.pop
          refine ⟨_, rfl, .inl ⟨rfl, _, SqL.of atp⟩, q0, _, .ref a2, rfl, rfl, atp, hlast2, a2, _, rfl, hs2', rfl, _, _, rfl, _, _, rfl, rfl, ?_⟩
          have sm4 : Same H (upd H3 q0 (.lst (ys2 ++ [V.ref a2]).dropLast)) := sm_upd sm3 hq0
          have tv3 := tv'.up (kt_lst (o := .lst (ys2 ++ [V.ref a2]).dropLast) atp)
          generalize upd H3 q0 (.lst (ys2 ++ [V.ref a2]).dropLast) = H4 at sm4 plq tv2' tv3 ⊢
          refine ⟨_, rfl, .inl ⟨rfl, _, SqL.of plq.at_⟩, _, rfl, _, rfl, lt_le (szl 3 (by omega)), fun t1 u1 h1 p1 => ⟨_, rfl, _, rfl, _, _, rfl, rfl, _, _, rfl, rfl, lt_le (szl 2 (by omega)), fun t2 u2 h2 p2 => ?_⟩⟩
          have es : size κ + size κ2 + 1 = size (.pair κ2 κ) := by show _ = size κ2 + size κ + 1; omega
          replace p2 : IsP u2 [.ref t1, .int (size (.pair κ2 κ))] := by rw [← es]; exact p2
          obtain ⟨e1, e2⟩ := plq.push (κ := .pair κ2 κ) h1 (.tup (sqP_new p1) (.cons (.str _) (.cons (tv2'.up (KT.new h1 u1)) (.cons (tv3.up (KT.new h1 u1)) .nil)))) h2 p2 ⟨⟨hk2.1, hk.1⟩, by rw [← es]; omega⟩
          refine ⟨q0, _, .ref t2, rfl, rfl, e1, ?_, _, _, _, _, _, _, _, _, _, _, rfl, sm_upd (sm_new (sm_new sm4 h1) h2) hq0, e2, by simp, ?_⟩
          · have := szq
            rw [List.length_append] at this
            omega
          · rw [List.length_append, List.length_append] at hlen
            rw [List.length_append]
            have : ([Kd.pair κ2 κ]).length = 1 := rfl
            omega
        · refine ⟨_, rfl, rfl, _, rfl, ite2 (fun c => ?_) (fun c => ?_)⟩
          · -- a place
            refine ⟨_, rfl, .inl ⟨rfl, _, SqL.of pl2.at_⟩, _, rfl, _, rfl, _, rfl, p, l, x1, b, N, rfl, hp2, hH2l, hlp, by omega, fun H4 r x' L md h4 hL tL => ?_⟩
            have sm4 : Same H H4 := md.same sm2 hp0
            have pl4 := pl2.mod md hp2 hqp
            refine ⟨lt_le (szl 2 (by omega)), fun t1 u1 h1 p1 => ⟨lt_le (szl 2 (by omega)), fun t2 u2 h2 p2 => ?_⟩⟩
            obtain ⟨e1, e2⟩ := pl4.push (κ := .place L) h1 (.tup (sqP_new p1) (.cons (.str _) (.cons (tL.up (KT.new h1 u1)) .nil))) h2 p2 ⟨hL, by show (1 : Int) ≤ 12; omega⟩
            refine ⟨q0, _, .ref t2, rfl, rfl, e1, szq2, _, _, _, _, _, _, _, _, _, _, rfl, sm_upd (sm_new (sm_new sm4 h1) h2) hq0, e2, by simp, ?_⟩
            rw [List.length_append]
            have : ([Kd.place L]).length = 1 := rfl
            omega
          · -- a whole number
            refine ⟨_, rfl, .inl ⟨rfl, _, SqL.of pl2.at_⟩, lt_le (szl 1 (by omega)), fun t1 u1 h1 p1 => ⟨lt_le (szl 2 (by omega)), fun t2 u2 h2 p2 => ?_⟩⟩
            obtain ⟨e1, e2⟩ := pl2.push (κ := .whole) h1 (.tup (sqP_new p1) (.cons (.str _) .nil)) h2 p2 ⟨True.intro, by show (1 : Int) ≤ 12; omega⟩
            refine ⟨q0, _, .ref t2, rfl, rfl, e1, szq2, _, _, _, _, _, _, _, _, _, _, rfl, sm_upd (sm_new (sm_new sm2 h1) h2) hq0, e2, by simp, ?_⟩
            rw [List.length_append]
            have : ([Kd.whole]).length = 1 := rfl
            omega
    · obtain ⟨y6, y7, y8, y9, y10, y11, y12, y13, ys, κs, rfl, sm, pl, hne, hlen⟩ := p
      exact ⟨_, rfl, q Hx q0 ys κs sm pl⟩
end
end Nk


/-! The walk, part 12: the law. -/
namespace Nk
open PySem PySem.Spec PyProof.Rows L2

abbrev sLaw : Stmt := topS 29
abbrev nLaw : List Str := ["_law_script", "_law_first", "_law_names_here", "_law_numbers", "_law_great", "_law_name", "_law_kind", "_law_size", "_law_told", "_law_many", "_law_value_here"]
theorem scLaw : FnScope nLaw ["_law_script"] (defScope sLaw) := ⟨rfl, rfl, rfl, by decide +kernel, rfl, by decide +kernel, by decide +kernel⟩
/-- numbers drawn for names -/
structure Drawn (N : List Str) (m : Pow) : Prop where
  nod : (m.map (·.1)).Nodup
  pos : ∀ f ∈ m, 0 ≤ f.2 ∧ f.2 ≤ 60 ∧ f.1 ∈ N
theorem Drawn.put {N : List Str} {m : Pow} (h : Drawn N m) {x : Str} {n : Int} (hx : x ∈ N) (h1 : 0 ≤ n) (h3 : n ≤ 60) : Drawn N (putG m x n) := by
  refine ⟨putG_nodup h.nod _ _, fun f hf => ?_⟩
  rcases mem_putG hf with rfl | ⟨hf, _⟩
  · exact ⟨h1, h3, hx⟩
  · exact h.pos f hf
theorem Drawn.len {N : List Str} {m : Pow} (h : Drawn N m) (hN : N.length = 4) : (m.map entS).length < sizeLine := by
  rw [List.length_map]
  exact szl _ (Nat.le_trans (len_le h.nod fun f hf => (h.pos f hf).2.2) (by omega))
theorem getG_le {m : Pow} {B : Int} (hB : 0 ≤ B) (h : ∀ f ∈ m, f.2 ≤ B) (x : Str) : getG m x ≤ B := by
  induction m with
  | nil => exact hB
  | cons e m ih =>
    rw [getG_cons]
    split
    · exact h e List.mem_cons_self
    · exact ih fun f hf => h f (List.mem_cons_of_mem _ hf)
theorem Drawn.num {N : List Str} {m : Pow} (h : Drawn N m) {H : Hp} {d : Addr} (e : H d = some (.dK (m.map entS))) : NumD H d (getG m) :=
  ⟨_, e, fun x => valS m x, fun x => ⟨getG_nonneg (fun f hf => (h.pos f hf).1) x, getG_le (by omega) (fun f hf => (h.pos f hf).2.1) x⟩⟩
section
variable {P : Program} {w : World} {K : PySem.W.Frag} {mg : Str → Option Value} {base : Heap}
def spLaw (K : PySem.W.Frag) : Sp := fun vs H Q _ => ∃ (a : Addr) (ns : List Int), vs = [.ref a] ∧ SqL K H a (ns.map V.int) ∧ ns.length ≤ 63 ∧ ∀ H', Q (.bl true) H'
theorem ok_law {f fS fN fD fG fW fC fF fU fT fV fA fI fL : Addr} {fd fdS fdN fdD fdG fdW fdC fdF fdU fdT fdV fdA fdI fdL : FuncData} (F : Fun K "law" "law" sLaw f fd)
    (GS : FnOk P w K mg base CX0 1 fS fdS ["_law_script", "_law_k"] (spState K)) (bS : Binds K fdS ["_law_script", "_law_k"] []) (kS : PySem.W.keepIn K (.ref fS) = true) (gS : mg "_law_state" = some (.ref fS))
    (GN : FnOk P w K mg base CX0 2 fN fdN ["_law_state_here", "_law_many"] spNames) (bN : Binds K fdN ["_law_state_here", "_law_many"] []) (kN : PySem.W.keepIn K (.ref fN) = true) (gN : mg "_law_names" = some (.ref fN))
    (GD : FnOk P w K mg base CX0 1 fD fdD ["_law_state_here", "_law_many"] spDraw) (bD : Binds K fdD ["_law_state_here", "_law_many"] []) (kD : PySem.W.keepIn K (.ref fD) = true) (gD : mg "_law_draw" = some (.ref fD))
    (GG : FnOk P w K mg base CX0 3 fG fdG ["_law_script", "_law_start", "_law_end", "_law_names_here", "_law_most"] (spGrown K)) (bG : Binds K fdG ["_law_script", "_law_start", "_law_end", "_law_names_here", "_law_most"] []) (kG : PySem.W.keepIn K (.ref fG) = true) (gG : mg "_law_grown" = some (.ref fG))
    (GW : FnOk P w K mg base CX0 14 fW fdW ["kind"] (spWeight K 12)) (bW : Binds K fdW ["kind"] []) (kW : PySem.W.keepIn K (.ref fW) = true) (gW : mg "weight" = some (.ref fW))
    (GC : FnOk P w K mg base CX0 13 fC fdC ["_law_kind", "_law_numbers", "_law_around"] (spCount K 12)) (bC : Binds K fdC ["_law_kind", "_law_numbers", "_law_around"] []) (kC : PySem.W.keepIn K (.ref fC) = true) (gC : mg "_law_count" = some (.ref fC))
    (GF : FnOk P w K mg base CX0 2 fF fdF ["_law_told"] (spFormed K)) (bF : Binds K fdF ["_law_told"] []) (kF : PySem.W.keepIn K (.ref fF) = true) (gF : mg "_law_formed" = some (.ref fF))
    (GU : FnOk P w K mg base CX0 1 fU fdU ["s", "numbers"] (spSumWorth K)) (bU : Binds K fdU ["s", "numbers"] []) (kU : PySem.W.keepIn K (.ref fU) = true) (gU : mg "sum_worth" = some (.ref fU))
    (GT : FnOk P w K mg base CX0 13 fT fdT ["_law_kind", "_law_numbers"] (spThings K 12)) (bT : Binds K fdT ["_law_kind", "_law_numbers"] []) (kT : PySem.W.keepIn K (.ref fT) = true) (gT : mg "_law_things" = some (.ref fT))
    (GV : FnOk P w K mg base CX0 13 fV fdV ["_law_kind", "_law_numbers"] (spValue K 12)) (bV : Binds K fdV ["_law_kind", "_law_numbers"] []) (kV : PySem.W.keepIn K (.ref fV) = true) (gV : mg "_law_value" = some (.ref fV))
    (GA : FnOk P w K mg base CX0 13 fA fdA ["_law_value_here"] (spStand K 12)) (bA : Binds K fdA ["_law_value_here"] []) (kA : PySem.W.keepIn K (.ref fA) = true) (gA : mg "_law_stand" = some (.ref fA))
    (GI : FnOk P w K mg base CX0 13 fI fdI ["kind", "numbers", "thing"] (spIsValue K 12)) (bI : Binds K fdI ["kind", "numbers", "thing"] []) (kI : PySem.W.keepIn K (.ref fI) = true) (gI : mg "is_value" = some (.ref fI))
    (GL : FnOk P w K mg base CX0 13 fL fdL ["_law_kind", "_law_numbers"] (spLacks K 12)) (bL : Binds K fdL ["_law_kind", "_law_numbers"] []) (kL : PySem.W.keepIn K (.ref fL) = true) (gL : mg "_law_lacks" = some (.ref fL)) :
    FnOk P w K mg base CX0 15 f fd ["_law_script"] (spLaw K) := by
  refine F.ok scLaw (fun vs H Q E h => ?_) (fun cdv A outer s H vs Q E hr h => ?_)
  · obtain ⟨a, ns, rfl, _⟩ := h
    rfl
  · obtain ⟨a, ns, rfl, hsc, hns, q⟩ := h
    have hr1 := hr.mono (show 1 ≤ 14 by omega)
    have hr2 := hr.mono (show 2 ≤ 14 by omega)
    have hr3 := hr.mono (show 3 ≤ 14 by omega)
    have hr13 := hr.mono (show 13 ≤ 14 by omega)
    refine ⟨_, pss_cons (ps_set (i := 1) scLaw.nd rfl (.inl rfl) (pe_call GS hr1 (by rfl) gS kS bS .nil pass0 (pa_cons (pv 0) (pa_cons pe_int pa_nil))))
      (pss_cons (ps_set (i := 2) scLaw.nd rfl (.inl rfl) (pe_call GN hr2 (by rfl) gN kN bN .nil pass0 (pa_cons (pv 1) (pa_cons pe_int pa_nil))))
      (pss_cons (ps_set (i := 3) scLaw.nd rfl (.inl rfl) pe_dnewK)
      (pss_cons (ps_set (i := 4) scLaw.nd rfl (.inl rfl) pe_dnewK)
      (pss_cons (ps_for PassesOwn.never rfl (pi_list (pv 2)) (pg_name (i := 5) scLaw.nd rfl (.inl rfl))
        (pss_cons (ps_dput (hu_of hr) (pv 3) (pv 5) (pe_call GD hr1 (by rfl) gD kD bD .nil pass0 (pa_cons (pv 1) (pa_cons pe_int pa_nil))) rfl)
        (pss_one (ps_dput (hu_of hr) (pv 4) (pv 5) (pe_call GD hr1 (by rfl) gD kD bD .nil pass0 (pa_cons (pv 1) (pa_cons pe_int pa_nil))) rfl))))
      (pss_cons (ps_for PassesOwn.never rfl (pi_list (pe_call GG hr3 (by rfl) gG kG bG .nil pass0 (pa_cons (pv 0) (pa_cons pe_int (pa_cons pe_int (pa_cons (pv 2) (pa_cons pe_int pa_nil)))))))
          (pg_tup rfl (pgs_cons (pg_name (i := 6) scLaw.nd rfl (.inl rfl)) (pgs_cons (pg_name (i := 7) scLaw.nd rfl (.inl rfl)) pgs_nil)))
        (pss_cons (ps_set (i := 8) scLaw.nd rfl (.inl rfl) (pe_call GW hr (by rfl) gW kW bW .nil pass0 (pa_cons (pv 6) pa_nil)))
        (pss_cons (ps_set (i := 9) scLaw.nd rfl (.inl rfl) (pe_call GC hr13 (by rfl) gC kC bC .nil pass0 (pa_cons (pv 6) (pa_cons (pv 3) (pa_cons pe_int pa_nil)))))
        (pss_cons (ps_if (pw_or (pt_not (pt_val (pe_call GF hr2 (by rfl) gF kF bF .nil pass0 (pa_cons (pv 8) pa_nil)))) (pw_or1 (pt_cmpR op_ne (pe_call GU hr1 (by rfl) gU kU bU .nil pass0 (pa_cons (pv 8) (pa_cons (pv 3) pa_nil))) (pv 9) (nomark _)))).pt (pss_one (ps_ret pe_bl)) pss_nil)
        (pss_cons (ps_if (pt_cmpR op_ne (pe_call GU hr1 (by rfl) gU kU bU .nil pass0 (pa_cons (pv 8) (pa_cons (pv 4) pa_nil))) (pe_call GC hr13 (by rfl) gC kC bC .nil pass0 (pa_cons (pv 6) (pa_cons (pv 4) (pa_cons pe_int pa_nil)))) (nomark _)) (pss_one (ps_ret pe_bl)) pss_nil)
        (pss_one (ps_if (pt_cmpR op_le (pe_call GT hr13 (by rfl) gT kT bT .nil pass0 (pa_cons (pv 6) (pa_cons (pv 3) pa_nil))) pe_int (nomark _))
          (pss_cons (ps_set (i := 10) scLaw.nd rfl (.inl rfl) (pe_call GV hr13 (by rfl) gV kV bV .nil pass0 (pa_cons (pv 6) (pa_cons (pv 3) pa_nil))))
          (pss_one (ps_if (pw_or (pt_cmpR op_ne (pe_call GA hr13 (by rfl) gA kA bA .nil pass0 (pa_cons (pv 10) pa_nil)) (pv 9) (nomark _)) (pw_or1 (pt_cmpR op_eq (pe_call GI hr13 (by rfl) gI kI bI .nil pass0 (pa_cons (pv 6) (pa_cons (pv 3) (pa_cons (pv 10) pa_nil)))) (pe_call GL hr13 (by rfl) gL kL bL .nil pass0 (pa_cons (pv 6) (pa_cons (pv 3) pa_nil))) (nomark _)))).pt (pss_one (ps_ret pe_bl)) pss_nil))) pss_nil)))))))
      (pss_one (ps_ret pe_bl))))))), ?_⟩
    -- the state, the names
    refine ⟨_, rfl, a, ns, 0, rfl, hsc, by omega, by omega, fun p x b hp => ?_⟩
    have sm1 : Same H (upd H p (StO x b)) := same_new hp _
    refine ⟨_, rfl, p, x, b, rfl, upd_same, fun H2 l N x' hN hl0 md hp2 hl => ?_⟩
    have sm2 : Same H H2 := md.same sm1 hp
    have hlp : l ≠ p := fun z => by
      rw [z, upd_same] at hl0
      cases hl0
    intro d1 hd1
    have n1p : d1 ≠ p := (ne_of_none hp2 hd1).symm
    have n1l : d1 ≠ l := (ne_of_none hl hd1).symm
    intro d2 hd2
    have n21 : d2 ≠ d1 := fun z => by
      rw [z, upd_same] at hd2
      cases hd2
    have hd2' : H2 d2 = none := by
      rw [upd_ne n21] at hd2
      exact hd2
    have n2p : d2 ≠ p := (ne_of_none hp2 hd2').symm
    have n2l : d2 ≠ l := (ne_of_none hl hd2').symm
    have z1 : H d1 = none := none_of sm2 hd1
    have z2 : H d2 = none := none_of sm2 hd2'
    refine ⟨.ref l, rfl, l, rfl, ⟨N.map V.str, SqL.of (by rw [upd_ne n2l.symm, upd_ne n1l.symm]; exact hl)⟩, for_it (walk_list (xs := N.map V.str)) (fun i σ Hx => ∃ m1 m2 xx y5, σ = [some (.ref a), some (.ref p), some (.ref l), some (.ref d1), some (.ref d2), y5, none, none, none, none, none] ∧ Same H Hx ∧ Hx p = some (StO xx b) ∧ Hx l = some (.lst (N.map V.str)) ∧
        Hx d1 = some (.dK (m1.map entS)) ∧ Hx d2 = some (.dK (m2.map entS)) ∧ Drawn N m1 ∧ Drawn N m2)
      ⟨[], [], x', none, rfl, sm_upd (sm_upd sm2 z1) z2, by rw [upd_ne n2p.symm, upd_ne n1p.symm]; exact hp2, by rw [upd_ne n2l.symm, upd_ne n1l.symm]; exact hl, by rw [upd_ne n21.symm, upd_same]; rfl, upd_same, ⟨List.nodup_nil, fun f hf => by cases hf⟩, ⟨List.nodup_nil, fun f hf => by cases hf⟩⟩
      (fun i σ Hx _ p => ?_) (fun i z σ Hx Hx' hi pp y => ?_) (fun σ Hx pp => ?_)⟩
    · obtain ⟨m1, m2, xx, y5, _, _, _, hxl, _⟩ := p
      exact SqL.of hxl
    · obtain ⟨m1, m2, xx, y5, rfl, sm, hxp, hxl, h1, h2, D1, D2⟩ := pp
      obtain ⟨rfl, hz⟩ := y
      rw [List.getElem?_map] at hz
      obtain ⟨nm, hnm, rfl⟩ : ∃ nm, N[i]? = some nm ∧ z = .str nm := by
        cases hh : N[i]? with
        | none => rw [hh] at hz; cases hz
        | some nm =>
          rw [hh] at hz
          exact ⟨nm, rfl, (Option.some.inj hz).symm⟩
      have hmem := List.mem_of_getElem? hnm
      refine ⟨_, rfl, p, xx, b, 3, rfl, hxp, by omega, by omega, fun x1 r r0 r3 => ⟨.ref d1, rfl, _, rfl, d1, _, rfl, DPut.k (k := Sum.inr nm) (kvs := m1.map entS) (by rw [upd_ne n1p]; exact h1) (D1.len hN), ?_⟩⟩
      refine ⟨_, rfl, p, x1, b, 61, rfl, by rw [upd_ne n1p.symm, upd_same], by omega, by omega, fun x2 g g0 g61 => ⟨.ref d2, rfl, _, rfl, d2, _, rfl, DPut.k (k := Sum.inr nm) (kvs := m2.map entS) (by rw [upd_ne n2p, upd_ne n21, upd_ne n2p]; exact h2) (D2.len hN), ?_⟩⟩
      refine ⟨putG m1 nm r, putG m2 nm g, x2, _, rfl, sm_upd (sm_upd (sm_upd (sm_upd sm hp) z1) hp) z2, by rw [upd_ne n2p.symm, upd_same], ?_, ?_, ?_, D1.put hmem r0 (by omega), D2.put hmem g0 (by omega)⟩
      · rw [upd_ne n2l.symm, upd_ne hlp, upd_ne n1l.symm, upd_ne hlp]
        exact hxl
      · rw [upd_ne n21.symm, upd_ne n1p, upd_same]
        exact congrArg (fun z => some (HO.dK z)) (putS _ _ _)
      · rw [upd_same]
        exact congrArg (fun z => some (HO.dK z)) (putS _ _ _)
    · obtain ⟨m1, m2, xx, y5, rfl, sm, hxp, hxl, h1, h2, D1, D2⟩ := pp
      have hN4 : N.length ≤ 4 := by omega
      -- the pile
      refine ⟨_, rfl, _, rfl, a, l, ns, N, rfl, sm.seq hsc, hxl, hN, fun Hg qq ys κs sg pl => ⟨qq, rfl, ⟨ys, SqL.of pl.at_⟩, for_it (walk_list (xs := ys)) (fun i σ Hz => ∃ y5 y6 y7 y8 y9 y10, σ = [some (.ref a), some (.ref p), some (.ref l), some (.ref d1), some (.ref d2), y5, y6, y7, y8, y9, y10] ∧ Same Hg Hz)
        ⟨_, _, _, _, _, _, rfl, Same.refl _⟩ (fun i σ Hz _ pp => ?_) (fun i z σ Hz Hz' hi pp y => ?_) (fun σ Hz pp => ?_)⟩⟩
      · obtain ⟨_, _, _, _, _, _, _, sz⟩ := pp
        exact SqL.of (sz _ _ pl.at_)
      · obtain ⟨y5, y6, y7, y8, y9, y10, rfl, sz⟩ := pp
        obtain ⟨rfl, hz⟩ := y
        obtain ⟨κ, hκ, tx⟩ := pl.td.ix hz
        obtain ⟨a2, zs, rfl, hs2, hd2⟩ := (tx.up (.of sz)).tupInv
        obtain ⟨v, u2, rfl, tv, t2⟩ := hd2.two
        obtain rfl := t2.intInv
        obtain ⟨ok, s12⟩ := pl.ok κ (List.mem_of_getElem? hκ)
        have n1 := (D1.num h1).up (Same.trans sg sz)
        have n2 := (D2.num h2).up (Same.trans sg sz)
        have hrw := rows_size κ
        obtain ⟨wg1, we1⟩ := weight_good (ν := getG m1) κ ok
        obtain ⟨_, we2⟩ := weight_good (ν := getG m2) κ ok
        have hB : ∀ x, 0 ≤ getG m1 x ∧ getG m1 x ≤ 60 := fun x => by
          obtain ⟨_, _, _, hb⟩ := n1
          exact hb x
        refine ⟨a2, _, rfl, hs2.T, rfl, _, _, rfl, _, _, rfl, rfl, ?_⟩
        refine ⟨_, rfl, v, κ, N, rfl, tv, ok, hN4, s12, s12, fun H3 r s3 t3 => ?_⟩
        refine ⟨_, rfl, _, rfl, v, d1, 1, κ, N, getG m1, rfl, tv.up (.of s3), n1.up s3, ok, hN4, s12, fun H4 s4 => ?_⟩
        refine ⟨_, rfl, _, weight κ, N, rows κ, rfl, t3.up (.of s4), wg1, hN4, by omega, fun H5 s5 => ⟨true, rfl, ifF rfl ?_⟩⟩
        have s35 := (s3.trans s4).trans s5
        have t5 := (t3.up (.of s4)).up (.of s5)
        refine ⟨_, rfl, _, rfl, _, d1, weight κ, getG m1, N, rows κ, rfl, t5, n1.up s35, wg1, by omega, _, rfl, rfl, _, rfl, iteNS (by rw [we1, Int.one_mul]) ?_⟩
        refine ⟨_, rfl, _, rfl, _, d2, weight κ, getG m2, N, rows κ, rfl, t5, n2.up s35, wg1, by omega, _, rfl, _, rfl, v, d2, 1, κ, N, getG m2, rfl, tv.up (.of s35), n2.up s35, ok, hN4, s12, fun H6 s6 => ⟨rfl, _, rfl, iteNS (by rw [we2, Int.one_mul]) ?_⟩⟩
        have s36 := s35.trans s6
        refine ⟨_, rfl, _, rfl, v, d1, κ, N, getG m1, rfl, tv.up (.of s36), n1.up s36, ok, hN4, s12, fun H7 t s7 => ⟨_, _, rfl, rfl, _, rfl, ite2 (fun c => ?_) (fun c => ?_)⟩⟩
        · have s37 := s36.trans s7
          refine ⟨_, rfl, _, rfl, v, d1, κ, N, getG m1, rfl, tv.up (.of s37), n1.up s37, ok, hN4, s12, fun H8 u s8 tu => ?_⟩
          have s38 := s37.trans s8
          refine ⟨_, rfl, u, κ, N, getG m1, rfl, tu, hB, ok, hN4, s12, fun H9 s9 => ⟨_, rfl, rfl, _, rfl, iteNS (by rw [Int.one_mul]) ?_⟩⟩
          have s39 := s38.trans s9
          refine ⟨_, rfl, _, rfl, _, rfl, v, d1, u, κ, N, getG m1, rfl, tv.up (.of s39), n1.up s39, tu.up (.of s9), ok, hN4, s12, fun H10 s10 => ?_⟩
          have s310 := s39.trans s10
          refine ⟨_, rfl, _, rfl, v, d1, κ, N, getG m1, rfl, tv.up (.of s310), n1.up s310, ok, hN4, s12, fun H11 s11 => ⟨rfl, _, rfl, ifF ?_ ?_⟩⟩
          · cases lacks (getG m1) κ <;> decide
          · exact ⟨_, _, _, _, _, _, rfl, (sz.trans s310).trans s11⟩
        · exact ⟨_, _, _, _, _, _, rfl, (sz.trans s36).trans s7⟩
      · obtain ⟨y5, y6, y7, y8, y9, y10, rfl, sz⟩ := pp
        exact q Hz
end
end Nk


/-! What the top has written: all the defs, put together. -/
namespace Nk
open PySem PySem.Spec PyProof.Rows L2
theorem all_mk {l : PySem.W.OpenLaw} {w : World} {K : PySem.W.Frag} {h : Heap} {mg : Str → Option Value} {fa : Addr} (X : K.In h) (G : h.Ns mainGlobals mg) (hfa : mg "law" = some (.ref fa))
    {f1 f2 f3 f4 f5 f6 f7 f8 f9 f10 f11 f12 f13 f14 f15 f16 f17 f18 f19 f20 f21 f22 f23 f24 e1 e2 e3 : Addr} {od1 an1 od2 an2 od3 an3 od4 an4 od5 an5 od6 an6 od7 an7 od8 an8 od9 an9 od10 an10 od11 an11 od12 an12 od13 an13 od14 an14 od15 an15 od16 an16 od17 an17 od18 an18 od19 an19 od20 an20 od21 an21 od22 an22 od23 an23 od24 an24 : Option Addr} {sl1 sl2 sl3 sl4 sl5 sl6 sl7 sl8 sl9 sl10 sl11 sl12 sl13 sl14 sl15 sl16 sl17 sl18 sl19 sl20 sl21 sl22 sl23 sl24 se1 se2 se3 : Array (Option Value)} {ne1 ne2 ne3 : Nat} {te tl : Tok}
    {oc1 kV1 dc1 pm1 cd1 ct1 oc2 kV2 dc2 pm2 cd2 ct2 oc3 kV3 dc3 pm3 cd3 ct3 oc4 kV4 dc4 pm4 cd4 ct4 oc5 kV5 dc5 pm5 cd5 ct5 oc6 kV6 dc6 pm6 cd6 ct6 oc7 kV7 dc7 pm7 cd7 ct7 oc8 kV8 dc8 pm8 cd8 ct8 oc9 kV9 dc9 pm9 cd9 ct9 oc10 kV10 dc10 pm10 cd10 ct10 oc11 kV11 dc11 pm11 cd11 ct11 oc12 kV12 dc12 pm12 cd12 ct12 oc13 kV13 dc13 pm13 cd13 ct13 oc14 kV14 dc14 pm14 cd14 ct14 oc15 kV15 dc15 pm15 cd15 ct15 oc16 kV16 dc16 pm16 cd16 ct16 oc17 kV17 dc17 pm17 cd17 ct17 oc18 kV18 dc18 pm18 cd18 ct18 oc19 kV19 dc19 pm19 cd19 ct19 oc20 kV20 dc20 pm20 cd20 ct20 oc21 kV21 dc21 pm21 cd21 ct21 oc22 kV22 dc22 pm22 cd22 ct22 oc23 kV23 dc23 pm23 cd23 ct23 oc24 kV24 dc24 pm24 cd24 ct24 : Value}
    (a1 : PySem.W.nsIn K mainGlobals "summed" = some (some (.ref f1))) (l1 : K.lookup f1 = some ⟨oc1, od1, .func (PySem.W.fnOf "summed" "summed" (defArgs sSummed) (defBody sSummed) (defScope sSummed) .none kV1 dc1 pm1 an1 cd1 ct1), sl1⟩) (c1 : PySem.W.codeIn K cd1 "summed" = true) (k1 : PySem.W.keepIn K (.ref f1) = true)
    (a2 : PySem.W.nsIn K mainGlobals "of_length" = some (some (.ref f2))) (l2 : K.lookup f2 = some ⟨oc2, od2, .func (PySem.W.fnOf "of_length" "of_length" (defArgs sOfLength) (defBody sOfLength) (defScope sOfLength) .none kV2 dc2 pm2 an2 cd2 ct2), sl2⟩) (c2 : PySem.W.codeIn K cd2 "of_length" = true) (k2 : PySem.W.keepIn K (.ref f2) = true)
    (a3 : PySem.W.nsIn K mainGlobals "together" = some (some (.ref f3))) (l3 : K.lookup f3 = some ⟨oc3, od3, .func (PySem.W.fnOf "together" "together" (defArgs sTogether) (defBody sTogether) (defScope sTogether) .none kV3 dc3 pm3 an3 cd3 ct3), sl3⟩) (c3 : PySem.W.codeIn K cd3 "together" = true) (k3 : PySem.W.keepIn K (.ref f3) = true)
    (a4 : PySem.W.nsIn K mainGlobals "powers_together" = some (some (.ref f4))) (l4 : K.lookup f4 = some ⟨oc4, od4, .func (PySem.W.fnOf "powers_together" "powers_together" (defArgs sPowers) (defBody sPowers) (defScope sPowers) .none kV4 dc4 pm4 an4 cd4 ct4), sl4⟩) (c4 : PySem.W.codeIn K cd4 "powers_together" = true) (k4 : PySem.W.keepIn K (.ref f4) = true)
    (a5 : PySem.W.nsIn K mainGlobals "product" = some (some (.ref f5))) (l5 : K.lookup f5 = some ⟨oc5, od5, .func (PySem.W.fnOf "product" "product" (defArgs sProduct) (defBody sProduct) (defScope sProduct) .none kV5 dc5 pm5 an5 cd5 ct5), sl5⟩) (c5 : PySem.W.codeIn K cd5 "product" = true) (k5 : PySem.W.keepIn K (.ref f5) = true)
    (a6 : PySem.W.nsIn K mainGlobals "weight" = some (some (.ref f6))) (l6 : K.lookup f6 = some ⟨oc6, od6, .func (PySem.W.fnOf "weight" "weight" (defArgs sWeight) (defBody sWeight) (defScope sWeight) .none kV6 dc6 pm6 an6 cd6 ct6), sl6⟩) (c6 : PySem.W.codeIn K cd6 "weight" = true) (k6 : PySem.W.keepIn K (.ref f6) = true)
    (a7 : PySem.W.nsIn K mainGlobals "sum_worth" = some (some (.ref f7))) (l7 : K.lookup f7 = some ⟨oc7, od7, .func (PySem.W.fnOf "sum_worth" "sum_worth" (defArgs sSumWorth) (defBody sSumWorth) (defScope sSumWorth) .none kV7 dc7 pm7 an7 cd7 ct7), sl7⟩) (c7 : PySem.W.codeIn K cd7 "sum_worth" = true) (k7 : PySem.W.keepIn K (.ref f7) = true)
    (a8 : PySem.W.nsIn K mainGlobals "is_whole" = some (some (.ref f8))) (l8 : K.lookup f8 = some ⟨oc8, od8, .func (PySem.W.fnOf "is_whole" "is_whole" (defArgs sIsWhole) (defBody sIsWhole) (defScope sIsWhole) .none kV8 dc8 pm8 an8 cd8 ct8), sl8⟩) (c8 : PySem.W.codeIn K cd8 "is_whole" = true) (k8 : PySem.W.keepIn K (.ref f8) = true)
    (a9 : PySem.W.nsIn K mainGlobals "worth" = some (some (.ref f9))) (l9 : K.lookup f9 = some ⟨oc9, od9, .func (PySem.W.fnOf "worth" "worth" (defArgs sWorth) (defBody sWorth) (defScope sWorth) .none kV9 dc9 pm9 an9 cd9 ct9), sl9⟩) (c9 : PySem.W.codeIn K cd9 "worth" = true) (k9 : PySem.W.keepIn K (.ref f9) = true)
    (a10 : PySem.W.nsIn K mainGlobals "is_value" = some (some (.ref f10))) (l10 : K.lookup f10 = some ⟨oc10, od10, .func (PySem.W.fnOf "is_value" "is_value" (defArgs sIsValue) (defBody sIsValue) (defScope sIsValue) .none kV10 dc10 pm10 an10 cd10 ct10), sl10⟩) (c10 : PySem.W.codeIn K cd10 "is_value" = true) (k10 : PySem.W.keepIn K (.ref f10) = true)
    (a11 : PySem.W.nsIn K mainGlobals "_law_draw" = some (some (.ref f11))) (l11 : K.lookup f11 = some ⟨oc11, od11, .func (PySem.W.fnOf "_law_draw" "_law_draw" (defArgs sLawDraw) (defBody sLawDraw) (defScope sLawDraw) .none kV11 dc11 pm11 an11 cd11 ct11), sl11⟩) (c11 : PySem.W.codeIn K cd11 "_law_draw" = true) (k11 : PySem.W.keepIn K (.ref f11) = true)
    (a12 : PySem.W.nsIn K mainGlobals "_law_state" = some (some (.ref f12))) (l12 : K.lookup f12 = some ⟨oc12, od12, .func (PySem.W.fnOf "_law_state" "_law_state" (defArgs sLawState) (defBody sLawState) (defScope sLawState) .none kV12 dc12 pm12 an12 cd12 ct12), sl12⟩) (c12 : PySem.W.codeIn K cd12 "_law_state" = true) (k12 : PySem.W.keepIn K (.ref f12) = true)
    (a13 : PySem.W.nsIn K mainGlobals "_law_names" = some (some (.ref f13))) (l13 : K.lookup f13 = some ⟨oc13, od13, .func (PySem.W.fnOf "_law_names" "_law_names" (defArgs sLawNames) (defBody sLawNames) (defScope sLawNames) .none kV13 dc13 pm13 an13 cd13 ct13), sl13⟩) (c13 : PySem.W.codeIn K cd13 "_law_names" = true) (k13 : PySem.W.keepIn K (.ref f13) = true)
    (a14 : PySem.W.nsIn K mainGlobals "_law_length" = some (some (.ref f14))) (l14 : K.lookup f14 = some ⟨oc14, od14, .func (PySem.W.fnOf "_law_length" "_law_length" (defArgs sLawLength) (defBody sLawLength) (defScope sLawLength) .none kV14 dc14 pm14 an14 cd14 ct14), sl14⟩) (c14 : PySem.W.codeIn K cd14 "_law_length" = true) (k14 : PySem.W.keepIn K (.ref f14) = true)
    (a15 : PySem.W.nsIn K mainGlobals "_law_grown" = some (some (.ref f15))) (l15 : K.lookup f15 = some ⟨oc15, od15, .func (PySem.W.fnOf "_law_grown" "_law_grown" (defArgs sLawGrown) (defBody sLawGrown) (defScope sLawGrown) .none kV15 dc15 pm15 an15 cd15 ct15), sl15⟩) (c15 : PySem.W.codeIn K cd15 "_law_grown" = true) (k15 : PySem.W.keepIn K (.ref f15) = true)
    (a16 : PySem.W.nsIn K mainGlobals "_law_worth" = some (some (.ref f16))) (l16 : K.lookup f16 = some ⟨oc16, od16, .func (PySem.W.fnOf "_law_worth" "_law_worth" (defArgs sLawWorth) (defBody sLawWorth) (defScope sLawWorth) .none kV16 dc16 pm16 an16 cd16 ct16), sl16⟩) (c16 : PySem.W.codeIn K cd16 "_law_worth" = true) (k16 : PySem.W.keepIn K (.ref f16) = true)
    (a17 : PySem.W.nsIn K mainGlobals "_law_count" = some (some (.ref f17))) (l17 : K.lookup f17 = some ⟨oc17, od17, .func (PySem.W.fnOf "_law_count" "_law_count" (defArgs sLawCount) (defBody sLawCount) (defScope sLawCount) .none kV17 dc17 pm17 an17 cd17 ct17), sl17⟩) (c17 : PySem.W.codeIn K cd17 "_law_count" = true) (k17 : PySem.W.keepIn K (.ref f17) = true)
    (a18 : PySem.W.nsIn K mainGlobals "_law_things" = some (some (.ref f18))) (l18 : K.lookup f18 = some ⟨oc18, od18, .func (PySem.W.fnOf "_law_things" "_law_things" (defArgs sLawThings) (defBody sLawThings) (defScope sLawThings) .none kV18 dc18 pm18 an18 cd18 ct18), sl18⟩) (c18 : PySem.W.codeIn K cd18 "_law_things" = true) (k18 : PySem.W.keepIn K (.ref f18) = true)
    (a19 : PySem.W.nsIn K mainGlobals "_law_value" = some (some (.ref f19))) (l19 : K.lookup f19 = some ⟨oc19, od19, .func (PySem.W.fnOf "_law_value" "_law_value" (defArgs sLawValue) (defBody sLawValue) (defScope sLawValue) .none kV19 dc19 pm19 an19 cd19 ct19), sl19⟩) (c19 : PySem.W.codeIn K cd19 "_law_value" = true) (k19 : PySem.W.keepIn K (.ref f19) = true)
    (a20 : PySem.W.nsIn K mainGlobals "_law_stand" = some (some (.ref f20))) (l20 : K.lookup f20 = some ⟨oc20, od20, .func (PySem.W.fnOf "_law_stand" "_law_stand" (defArgs sLawStand) (defBody sLawStand) (defScope sLawStand) .none kV20 dc20 pm20 an20 cd20 ct20), sl20⟩) (c20 : PySem.W.codeIn K cd20 "_law_stand" = true) (k20 : PySem.W.keepIn K (.ref f20) = true)
    (a21 : PySem.W.nsIn K mainGlobals "_law_lacks" = some (some (.ref f21))) (l21 : K.lookup f21 = some ⟨oc21, od21, .func (PySem.W.fnOf "_law_lacks" "_law_lacks" (defArgs sLawLacks) (defBody sLawLacks) (defScope sLawLacks) .none kV21 dc21 pm21 an21 cd21 ct21), sl21⟩) (c21 : PySem.W.codeIn K cd21 "_law_lacks" = true) (k21 : PySem.W.keepIn K (.ref f21) = true)
    (a22 : PySem.W.nsIn K mainGlobals "_law_whole" = some (some (.ref f22))) (l22 : K.lookup f22 = some ⟨oc22, od22, .func (PySem.W.fnOf "_law_whole" "_law_whole" (defArgs sLawWhole) (defBody sLawWhole) (defScope sLawWhole) .none kV22 dc22 pm22 an22 cd22 ct22), sl22⟩) (c22 : PySem.W.codeIn K cd22 "_law_whole" = true) (k22 : PySem.W.keepIn K (.ref f22) = true)
    (a23 : PySem.W.nsIn K mainGlobals "_law_formed" = some (some (.ref f23))) (l23 : K.lookup f23 = some ⟨oc23, od23, .func (PySem.W.fnOf "_law_formed" "_law_formed" (defArgs sLawFormed) (defBody sLawFormed) (defScope sLawFormed) .none kV23 dc23 pm23 an23 cd23 ct23), sl23⟩) (c23 : PySem.W.codeIn K cd23 "_law_formed" = true) (k23 : PySem.W.keepIn K (.ref f23) = true)
    (a24 : PySem.W.nsIn K mainGlobals "law" = some (some (.ref f24))) (l24 : K.lookup f24 = some ⟨oc24, od24, .func (PySem.W.fnOf "law" "law" (defArgs sLaw) (defBody sLaw) (defScope sLaw) .none kV24 dc24 pm24 an24 cd24 ct24), sl24⟩) (c24 : PySem.W.codeIn K cd24 "law" = true) (k24 : PySem.W.keepIn K (.ref f24) = true)
    (o0 : PySem.W.nsIn K mainGlobals "ONE" = some (some (.ref e1))) (o1 : K.lookup e1 = some ⟨.type "tuple", none, .seq #[.ref e2] ne1, se1⟩) (o2 : K.lookup e2 = some ⟨.type "tuple", none, .seq #[.ref e3, .int 1 te] ne2, se2⟩) (o3 : K.lookup e3 = some ⟨.type "tuple", none, .seq #[] ne3, se3⟩)
    (o4 : PySem.W.nsIn K mainGlobals "LARGE" = some (some (.int 1000000000000 tl)))
    (z1 : PySem.W.nsIn K mainGlobals "tuple" = some none)
    (z2 : PySem.W.nsIn K mainGlobals "sorted" = some none)
    (z3 : PySem.W.nsIn K mainGlobals "dict" = some none)
    (z4 : PySem.W.nsIn K mainGlobals "range" = some none)
    (z5 : PySem.W.nsIn K mainGlobals "isinstance" = some none)
    (z6 : PySem.W.nsIn K mainGlobals "int" = some none)
    (z7 : PySem.W.nsIn K mainGlobals "bool" = some none)
    (z8 : PySem.W.nsIn K mainGlobals "sum" = some none)
    (z9 : PySem.W.nsIn K mainGlobals "len" = some none)
    (z10 : PySem.W.nsIn K mainGlobals "all" = some none)
    (z11 : PySem.W.nsIn K mainGlobals "max" = some none)
    (z12 : PySem.W.nsIn K mainGlobals "min" = some none)
    (z13 : PySem.W.nsIn K mainGlobals "list" = some none)
    (z14 : PySem.W.nsIn K mainGlobals "set" = some none)
    : ∃ fd : FuncData, (∀ (s : Shared) (v : Value), BindsTo s fd ⟨[v], []⟩ [("_law_script", v)]) ∧ ∀ base : Heap, K.In base → base.Ns mainGlobals mg → FnOk l.prog w K mg base CX0 15 fa fd ["_law_script"] (spLaw K) := by
  have e := hfa.symm.trans (PySem.W.mg_of X G a24)
  cases e
  have F1 := fun_mk (st := sSummed) l1 c1 k1
  have b1 := F1.binds (ps := ["counts"]) fun _ _ _ _ _ _ us hl => match us, hl with | [_], _ => rfl
  have g1 := PySem.W.mg_of X G a1
  have F2 := fun_mk (st := sOfLength) l2 c2 k2
  have b2 := F2.binds (ps := ["a"]) fun _ _ _ _ _ _ us hl => match us, hl with | [_], _ => rfl
  have g2 := PySem.W.mg_of X G a2
  have F3 := fun_mk (st := sTogether) l3 c3 k3
  have b3 := F3.binds (ps := ["s", "t"]) fun _ _ _ _ _ _ us hl => match us, hl with | [_, _], _ => rfl
  have g3 := PySem.W.mg_of X G a3
  have F4 := fun_mk (st := sPowers) l4 c4 k4
  have b4 := F4.binds (ps := ["one", "other"]) fun _ _ _ _ _ _ us hl => match us, hl with | [_, _], _ => rfl
  have g4 := PySem.W.mg_of X G a4
  have F5 := fun_mk (st := sProduct) l5 c5 k5
  have b5 := F5.binds (ps := ["s", "t"]) fun _ _ _ _ _ _ us hl => match us, hl with | [_, _], _ => rfl
  have g5 := PySem.W.mg_of X G a5
  have F6 := fun_mk (st := sWeight) l6 c6 k6
  have b6 := F6.binds (ps := ["kind"]) fun _ _ _ _ _ _ us hl => match us, hl with | [_], _ => rfl
  have g6 := PySem.W.mg_of X G a6
  have F7 := fun_mk (st := sSumWorth) l7 c7 k7
  have b7 := F7.binds (ps := ["s", "numbers"]) fun _ _ _ _ _ _ us hl => match us, hl with | [_, _], _ => rfl
  have g7 := PySem.W.mg_of X G a7
  have F8 := fun_mk (st := sIsWhole) l8 c8 k8
  have b8 := F8.binds (ps := ["thing"]) fun _ _ _ _ _ _ us hl => match us, hl with | [_], _ => rfl
  have g8 := PySem.W.mg_of X G a8
  have F9 := fun_mk (st := sWorth) l9 c9 k9
  have b9 := F9.binds (ps := ["a", "numbers"]) fun _ _ _ _ _ _ us hl => match us, hl with | [_, _], _ => rfl
  have g9 := PySem.W.mg_of X G a9
  have F10 := fun_mk (st := sIsValue) l10 c10 k10
  have b10 := F10.binds (ps := ["kind", "numbers", "thing"]) fun _ _ _ _ _ _ us hl => match us, hl with | [_, _, _], _ => rfl
  have g10 := PySem.W.mg_of X G a10
  have F11 := fun_mk (st := sLawDraw) l11 c11 k11
  have b11 := F11.binds (ps := ["_law_state_here", "_law_many"]) fun _ _ _ _ _ _ us hl => match us, hl with | [_, _], _ => rfl
  have g11 := PySem.W.mg_of X G a11
  have F12 := fun_mk (st := sLawState) l12 c12 k12
  have b12 := F12.binds (ps := ["_law_script", "_law_k"]) fun _ _ _ _ _ _ us hl => match us, hl with | [_, _], _ => rfl
  have g12 := PySem.W.mg_of X G a12
  have F13 := fun_mk (st := sLawNames) l13 c13 k13
  have b13 := F13.binds (ps := ["_law_state_here", "_law_many"]) fun _ _ _ _ _ _ us hl => match us, hl with | [_, _], _ => rfl
  have g13 := PySem.W.mg_of X G a13
  have F14 := fun_mk (st := sLawLength) l14 c14 k14
  have b14 := F14.binds (ps := ["_law_state_here", "_law_names_here", "_law_most"]) fun _ _ _ _ _ _ us hl => match us, hl with | [_, _, _], _ => rfl
  have g14 := PySem.W.mg_of X G a14
  have F15 := fun_mk (st := sLawGrown) l15 c15 k15
  have b15 := F15.binds (ps := ["_law_script", "_law_start", "_law_end", "_law_names_here", "_law_most"]) fun _ _ _ _ _ _ us hl => match us, hl with | [_, _, _, _, _], _ => rfl
  have g15 := PySem.W.mg_of X G a15
  have F16 := fun_mk (st := sLawWorth) l16 c16 k16
  have b16 := F16.binds (ps := ["_law_length_here", "_law_numbers"]) fun _ _ _ _ _ _ us hl => match us, hl with | [_, _], _ => rfl
  have g16 := PySem.W.mg_of X G a16
  have F17 := fun_mk (st := sLawCount) l17 c17 k17
  have b17 := F17.binds (ps := ["_law_kind", "_law_numbers", "_law_around"]) fun _ _ _ _ _ _ us hl => match us, hl with | [_, _, _], _ => rfl
  have g17 := PySem.W.mg_of X G a17
  have F18 := fun_mk (st := sLawThings) l18 c18 k18
  have b18 := F18.binds (ps := ["_law_kind", "_law_numbers"]) fun _ _ _ _ _ _ us hl => match us, hl with | [_, _], _ => rfl
  have g18 := PySem.W.mg_of X G a18
  have F19 := fun_mk (st := sLawValue) l19 c19 k19
  have b19 := F19.binds (ps := ["_law_kind", "_law_numbers"]) fun _ _ _ _ _ _ us hl => match us, hl with | [_, _], _ => rfl
  have g19 := PySem.W.mg_of X G a19
  have F20 := fun_mk (st := sLawStand) l20 c20 k20
  have b20 := F20.binds (ps := ["_law_value_here"]) fun _ _ _ _ _ _ us hl => match us, hl with | [_], _ => rfl
  have g20 := PySem.W.mg_of X G a20
  have F21 := fun_mk (st := sLawLacks) l21 c21 k21
  have b21 := F21.binds (ps := ["_law_kind", "_law_numbers"]) fun _ _ _ _ _ _ us hl => match us, hl with | [_, _], _ => rfl
  have g21 := PySem.W.mg_of X G a21
  have F22 := fun_mk (st := sLawWhole) l22 c22 k22
  have b22 := F22.binds (ps := ["_law_found", "_law_least"]) fun _ _ _ _ _ _ us hl => match us, hl with | [_, _], _ => rfl
  have g22 := PySem.W.mg_of X G a22
  have F23 := fun_mk (st := sLawFormed) l23 c23 k23
  have b23 := F23.binds (ps := ["_law_told"]) fun _ _ _ _ _ _ us hl => match us, hl with | [_], _ => rfl
  have g23 := PySem.W.mg_of X G a23
  have F24 := fun_mk (st := sLaw) l24 c24 k24
  have m_tuple := PySem.W.mg_none_of X G z1
  have m_sorted := PySem.W.mg_none_of X G z2
  have m_dict := PySem.W.mg_none_of X G z3
  have m_range := PySem.W.mg_none_of X G z4
  have m_isinstance := PySem.W.mg_none_of X G z5
  have m_int := PySem.W.mg_none_of X G z6
  have m_bool := PySem.W.mg_none_of X G z7
  have m_sum := PySem.W.mg_none_of X G z8
  have m_len := PySem.W.mg_none_of X G z9
  have m_all := PySem.W.mg_none_of X G z10
  have m_max := PySem.W.mg_none_of X G z11
  have m_min := PySem.W.mg_none_of X G z12
  have m_list := PySem.W.mg_none_of X G z13
  have m_set := PySem.W.mg_none_of X G z14
  have gONE := PySem.W.mg_of X G o0
  have gLARGE := PySem.W.mg_of X G o4
  have hOne : OneIs K e1 := fun H => by
    have t3 : TD K H (.ref e3) (dP []) := .tup (.inr ⟨_, _, _, o3, rfl, rfl, rfl, Nat.zero_le _, .nil⟩) .nil
    have t2 : TD K H (.ref e2) (dT ([], 1)) := .tup (xs := [.ref e3, .int 1]) (.inr ⟨_, _, _, o2, rfl, rfl, rfl, lt_le (szl 2 (by omega)), .cons rfl (.cons ⟨_, rfl⟩ .nil)⟩) (.cons t3 (.cons (.int 1) .nil))
    exact .tup (xs := [.ref e2]) (.inr ⟨_, _, _, o1, rfl, rfl, rfl, lt_le (szl 1 (by omega)), .cons rfl .nil⟩) (.cons t2 .nil)
  refine ⟨PySem.W.fnOf "law" "law" (defArgs sLaw) (defBody sLaw) (defScope sLaw) .none kV24 dc24 pm24 an24 cd24 ct24, fun s v => .of_eq rfl, fun base _ _ => ?_⟩
  have Gs := ok_summed (P := l.prog) (w := w) (mg := mg) (base := base) F1 m_tuple m_sorted
  have Gl := ok_ofLength F2 Gs b1 k1 g1
  have Gt := ok_together F3 Gs b1 k1 g1 m_dict
  have Gp := ok_powers (P := l.prog) (w := w) (mg := mg) (base := base) F4 m_dict m_tuple m_sorted
  have Gr := ok_product F5 Gs b1 k1 g1 Gp b4 k4 g4
  have Gw : ∀ n : Nat, FnOk l.prog w K mg base CX0 (2 + n) f6 (PySem.W.fnOf "weight" "weight" (defArgs sWeight) (defBody sWeight) (defScope sWeight) .none kV6 dc6 pm6 an6 cd6 ct6) ["kind"] (spWeight K n) := fun n => by
    induction n with
    | zero => exact (weight_none (P := l.prog) (w := w) (mg := mg) (base := base) (K := K)).mono (by omega)
    | succ n ih => exact ok_weight F6 b6 g6 Gl b2 k2 g2 Gt b3 k3 g3 Gr b5 k5 g5 gONE hOne ih
  have Gu := ok_sumWorth (P := l.prog) (w := w) (mg := mg) (base := base) F7 m_range
  have Gi := ok_isWhole (P := l.prog) (w := w) (mg := mg) (base := base) F8 m_isinstance m_int m_bool
  have Go := ok_worth (P := l.prog) (w := w) (mg := mg) (base := base) F9 m_sum
  have Gv : ∀ n : Nat, FnOk l.prog w K mg base CX0 (1 + n) f10 (PySem.W.fnOf "is_value" "is_value" (defArgs sIsValue) (defBody sIsValue) (defScope sIsValue) .none kV10 dc10 pm10 an10 cd10 ct10) ["kind", "numbers", "thing"] (spIsValue K n) := fun n => by
    induction n with
    | zero => exact (isValue_none (P := l.prog) (w := w) (mg := mg) (base := base) (K := K)).mono (by omega)
    | succ n ih => exact ok_isValue F10 b10 g10 Gi b8 k8 g8 Go b9 k9 g9 gLARGE m_isinstance m_tuple m_len m_all ih
  have GD := ok_draw (P := l.prog) (w := w) (mg := mg) (base := base) F11
  have GS := ok_state (P := l.prog) (w := w) (mg := mg) (base := base) F12 m_len
  have GN := ok_names F13 GD b11 k11 g11 m_range m_len
  have GL := ok_length F14 GD b11 k11 g11 m_tuple m_sorted
  have GG := ok_grown F15 GD b11 k11 g11 GS b12 k12 g12 GL b14 k14 g14 m_range m_max m_min m_len
  have GW := ok_lawWorth (P := l.prog) (w := w) (mg := mg) (base := base) F16
  have GC : ∀ n : Nat, FnOk l.prog w K mg base CX0 (1 + n) f17 (PySem.W.fnOf "_law_count" "_law_count" (defArgs sLawCount) (defBody sLawCount) (defScope sLawCount) .none kV17 dc17 pm17 an17 cd17 ct17) ["_law_kind", "_law_numbers", "_law_around"] (spCount K n) := fun n => by
    induction n with
    | zero => exact (count_none (P := l.prog) (w := w) (mg := mg) (base := base) (K := K)).mono (by omega)
    | succ n ih => exact ok_count F17 b17 g17 GW b16 k16 g16 ih
  have GT : ∀ n : Nat, FnOk l.prog w K mg base CX0 (1 + n) f18 (PySem.W.fnOf "_law_things" "_law_things" (defArgs sLawThings) (defBody sLawThings) (defScope sLawThings) .none kV18 dc18 pm18 an18 cd18 ct18) ["_law_kind", "_law_numbers"] (spThings K n) := fun n => by
    induction n with
    | zero => exact (things_none (P := l.prog) (w := w) (mg := mg) (base := base) (K := K)).mono (by omega)
    | succ n ih => exact ok_things F18 b18 g18 GW b16 k16 g16 ih
  have GV : ∀ n : Nat, FnOk l.prog w K mg base CX0 (1 + n) f19 (PySem.W.fnOf "_law_value" "_law_value" (defArgs sLawValue) (defBody sLawValue) (defScope sLawValue) .none kV19 dc19 pm19 an19 cd19 ct19) ["_law_kind", "_law_numbers"] (spValue K n) := fun n => by
    induction n with
    | zero => exact (value_none (P := l.prog) (w := w) (mg := mg) (base := base) (K := K)).mono (by omega)
    | succ n ih => exact ok_value F19 b19 g19 GW b16 k16 g16 m_tuple m_range ih
  have GK : ∀ n : Nat, FnOk l.prog w K mg base CX0 (1 + n) f21 (PySem.W.fnOf "_law_lacks" "_law_lacks" (defArgs sLawLacks) (defBody sLawLacks) (defScope sLawLacks) .none kV21 dc21 pm21 an21 cd21 ct21) ["_law_kind", "_law_numbers"] (spLacks K n) := fun n => by
    induction n with
    | zero => exact (lacks_none (P := l.prog) (w := w) (mg := mg) (base := base) (K := K)).mono (by omega)
    | succ n ih => exact ok_lacks F21 b21 g21 GW b16 k16 g16 ih
  have GA : ∀ n : Nat, FnOk l.prog w K mg base CX0 (1 + n) f20 (PySem.W.fnOf "_law_stand" "_law_stand" (defArgs sLawStand) (defBody sLawStand) (defScope sLawStand) .none kV20 dc20 pm20 an20 cd20 ct20) ["_law_value_here"] (spStand K n) := fun n => by
    induction n with
    | zero => exact (stand_none (P := l.prog) (w := w) (mg := mg) (base := base) (K := K)).mono (by omega)
    | succ n ih => exact ok_stand F20 b20 g20 m_isinstance m_tuple m_sum ih
  have GH := ok_lawWhole (P := l.prog) (w := w) (mg := mg) (base := base) F22 m_isinstance m_int m_bool
  have GF := ok_formed F23 GH b22 k22 g22 m_isinstance m_tuple m_list m_sorted m_set m_all m_len
  exact ok_law F24 GS b12 k12 g12 GN b13 k13 g13 GD b11 k11 g11 GG b15 k15 g15 (Gw 12) b6 k6 g6 (GC 12) b17 k17 g17 GF b23 k23 g23 Gu b7 k7 g7 (GT 12) b18 k18 g18 (GV 12) b19 k19 g19 (GA 12) b20 k20 g20 (Gv 12) b10 k10 g10 (GK 12) b21 k21 g21
end Nk

open PySem PySem.W PyProof.Rows
set_option maxRecDepth 100000 in
set_option maxHeartbeats 0 in
theorem PySem.Challenge.cw_indexwise_k16_whole_weights_count_holds : PySem.Challenge.rw_indexwise_k16_whole_weights_count.Holds := by
  w_on; o_law; k_head; (case hw => w_witness2)
  k_fill
  refine L2.walk_of (l := PySem.Challenge.rw_indexwise_k16_whole_weights_count) (n := 63) (k := 15) (x := "_law_script") (CX := fun _ => L2.CX0) (sp := fun w => Nk.spLaw _) rfl (by decide) rfl ⟨rfl, by decide, by decide⟩ (fun w h Y => PySem.W.kIn_of Y) ?F (fun _ _ a ns hl _ hS => ⟨a, ns, rfl, hS, hl, fun _ => rfl⟩) (fun _ _ _ _ _ h => h)
  case F =>
    intro w mg fa h KX G hmg
    refine' Nk.all_mk KX G hmg ?a1 ?l1 ?c1 ?k1 ?a2 ?l2 ?c2 ?k2 ?a3 ?l3 ?c3 ?k3 ?a4 ?l4 ?c4 ?k4 ?a5 ?l5 ?c5 ?k5 ?a6 ?l6 ?c6 ?k6 ?a7 ?l7 ?c7 ?k7 ?a8 ?l8 ?c8 ?k8 ?a9 ?l9 ?c9 ?k9 ?a10 ?l10 ?c10 ?k10 ?a11 ?l11 ?c11 ?k11 ?a12 ?l12 ?c12 ?k12 ?a13 ?l13 ?c13 ?k13 ?a14 ?l14 ?c14 ?k14 ?a15 ?l15 ?c15 ?k15 ?a16 ?l16 ?c16 ?k16 ?a17 ?l17 ?c17 ?k17 ?a18 ?l18 ?c18 ?k18 ?a19 ?l19 ?c19 ?k19 ?a20 ?l20 ?c20 ?k20 ?a21 ?l21 ?c21 ?k21 ?a22 ?l22 ?c22 ?k22 ?a23 ?l23 ?c23 ?k23 ?a24 ?l24 ?c24 ?k24 ?o0 ?o1 ?o2 ?o3 ?o4 ?z1 ?z2 ?z3 ?z4 ?z5 ?z6 ?z7 ?z8 ?z9 ?z10 ?z11 ?z12 ?z13 ?z14
    (case a1 => k_is)
    (case l1 => k_is)
    (case c1 => k_is)
    (case k1 => k_is)
    (case a2 => k_is)
    (case l2 => k_is)
    (case c2 => k_is)
    (case k2 => k_is)
    (case a3 => k_is)
    (case l3 => k_is)
    (case c3 => k_is)
    (case k3 => k_is)
    (case a4 => k_is)
    (case l4 => k_is)
    (case c4 => k_is)
    (case k4 => k_is)
    (case a5 => k_is)
    (case l5 => k_is)
    (case c5 => k_is)
    (case k5 => k_is)
    (case a6 => k_is)
    (case l6 => k_is)
    (case c6 => k_is)
    (case k6 => k_is)
    (case a7 => k_is)
    (case l7 => k_is)
    (case c7 => k_is)
    (case k7 => k_is)
    (case a8 => k_is)
    (case l8 => k_is)
    (case c8 => k_is)
    (case k8 => k_is)
    (case a9 => k_is)
    (case l9 => k_is)
    (case c9 => k_is)
    (case k9 => k_is)
    (case a10 => k_is)
    (case l10 => k_is)
    (case c10 => k_is)
    (case k10 => k_is)
    (case a11 => k_is)
    (case l11 => k_is)
    (case c11 => k_is)
    (case k11 => k_is)
    (case a12 => k_is)
    (case l12 => k_is)
    (case c12 => k_is)
    (case k12 => k_is)
    (case a13 => k_is)
    (case l13 => k_is)
    (case c13 => k_is)
    (case k13 => k_is)
    (case a14 => k_is)
    (case l14 => k_is)
    (case c14 => k_is)
    (case k14 => k_is)
    (case a15 => k_is)
    (case l15 => k_is)
    (case c15 => k_is)
    (case k15 => k_is)
    (case a16 => k_is)
    (case l16 => k_is)
    (case c16 => k_is)
    (case k16 => k_is)
    (case a17 => k_is)
    (case l17 => k_is)
    (case c17 => k_is)
    (case k17 => k_is)
    (case a18 => k_is)
    (case l18 => k_is)
    (case c18 => k_is)
    (case k18 => k_is)
    (case a19 => k_is)
    (case l19 => k_is)
    (case c19 => k_is)
    (case k19 => k_is)
    (case a20 => k_is)
    (case l20 => k_is)
    (case c20 => k_is)
    (case k20 => k_is)
    (case a21 => k_is)
    (case l21 => k_is)
    (case c21 => k_is)
    (case k21 => k_is)
    (case a22 => k_is)
    (case l22 => k_is)
    (case c22 => k_is)
    (case k22 => k_is)
    (case a23 => k_is)
    (case l23 => k_is)
    (case c23 => k_is)
    (case k23 => k_is)
    (case a24 => k_is)
    (case l24 => k_is)
    (case c24 => k_is)
    (case k24 => k_is)
    (case o0 => k_is)
    (case o1 => k_is)
    (case o2 => k_is)
    (case o3 => k_is)
    (case o4 => k_is)
    (case z1 => k_is)
    (case z2 => k_is)
    (case z3 => k_is)
    (case z4 => k_is)
    (case z5 => k_is)
    (case z6 => k_is)
    (case z7 => k_is)
    (case z8 => k_is)
    (case z9 => k_is)
    (case z10 => k_is)
    (case z11 => k_is)
    (case z12 => k_is)
    (case z13 => k_is)
    (case z14 => k_is)
