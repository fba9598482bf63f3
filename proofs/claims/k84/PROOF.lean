import PyProof.Rows.All
import HandS.TupSets
import HandS.Conv
import HandS.More
import KE.SortData
import Wide.All
import OpenK.AllK
import Wide.FinOn
import HandS.ForMost
import HandS.Wide
import HandS.TupAny
import HandS.Style
import HandS.IsInst
import HandS.Comp
import HandS.Iter
import HandS.Zip
import HandS.Rev
import HandS.Words
import HandS.Text
import HandS.TupLen
import HandS.Zip0
import PyProof.ZipIter
import KE.GoesEnumKw
import KE.GoesMore
import HandS.SortKw
import KE.KDictDisplayH
import HandS.OwnEq
import KE.KCallOwn
import PyProof.SumAny
import PyProof.SumWalkG
import PyProof.WalksMore
import HandS.Defaults
import HandS.Head0
import HandS.Head1
import HandS.Head2
import HandS.HeadEnd
import HandS.HeadHook1
import HandS.HeadHook2
import PySem.Challenge.RW_glovepairs_k84_whole_small_skins_by_all
set_option Elab.async false
set_option linter.all false
set_option maxRecDepth 100000
/-! Sg1: tables of a set, of any power of two: each slot is met. -/
namespace Sg
open PySem PySem.Spec PyProof.Rows L2
/-- 1 + 5 + 25 + .. -/
def c5 : Nat → Nat
  | 0 => 0
  | k + 1 => 5 * c5 k + 1
theorem pow5 : ∀ k, 5 ^ k = 4 * c5 k + 1
  | 0 => rfl
  | k + 1 => by
    rw [Nat.pow_succ, pow5 k]
    show (4 * c5 k + 1) * 5 = 4 * (5 * c5 k + 1) + 1
    omega
theorem c5_add (a : Nat) : ∀ b, c5 (a + b) = c5 a * 5 ^ b + c5 b
  | 0 => by simp [c5]
  | b + 1 => by
    show 5 * c5 (a + b) + 1 = c5 a * 5 ^ (b + 1) + (5 * c5 b + 1)
    rw [c5_add a b, Nat.pow_succ, Nat.mul_add, ← Nat.mul_assoc (c5 a)]
    rw [Nat.mul_comm 5 (c5 a * 5 ^ b)]
    omega
theorem c5_two : ∀ n, ∃ q, c5 (2 ^ n) = 2 ^ n * (2 * q + 1)
  | 0 => ⟨0, rfl⟩
  | n + 1 => by
    obtain ⟨q, e⟩ := c5_two n
    have h : c5 (2 ^ (n + 1)) = c5 (2 ^ n) * (2 * (2 * c5 (2 ^ n) + 1)) := by
      rw [Nat.pow_succ, Nat.mul_two, c5_add, pow5]
      have e1 : ∀ z : Nat, z * (4 * z + 1) + z = z * (2 * (2 * z + 1)) := fun z => by
        rw [show 2 * (2 * z + 1) = 4 * z + 1 + 1 by omega, Nat.mul_add z (4 * z + 1) 1, Nat.mul_one]
      exact e1 _
    refine ⟨2 * q * c5 (2 ^ n) + q + c5 (2 ^ n), ?_⟩
    rw [h]
    generalize hz : c5 (2 ^ n) = z at e ⊢
    rw [Nat.pow_succ]
    conv => lhs; arg 1; rw [e]
    have : (2 * q + 1) * (2 * z + 1) = 2 * (2 * q * z + q + z) + 1 := by
      rw [Nat.add_mul, Nat.mul_add, Nat.mul_add, Nat.mul_add]
      rw [show 2 * q * (2 * z) = 2 * (2 * q * z) by rw [Nat.mul_left_comm]]
      omega
    rw [← this]
    rw [Nat.mul_assoc, Nat.mul_assoc]
    congr 1
    rw [Nat.mul_left_comm]
/-- a whole round further -/
theorem c5_far (n k : Nat) : ∃ u, c5 (2 ^ n + k) = c5 k + 2 ^ n * (2 * u + 1) := by
  obtain ⟨q, e⟩ := c5_two n
  rw [c5_add, e, pow5]
  refine ⟨q * (4 * c5 k + 1) + 2 * c5 k, ?_⟩
  rw [Nat.mul_assoc, Nat.add_comm]
  congr 2
  rw [Nat.add_mul]
  rw [show 2 * q * (4 * c5 k + 1) = 2 * (q * (4 * c5 k + 1)) by rw [Nat.mul_assoc]]
  omega
theorem half {N x j : Nat} (hN : 0 < N) (hj : j < N * 2) (h : x % N = j % N) : x % (N * 2) = j ∨ (x + N) % (N * 2) = j := by
  have hx := Nat.mod_lt x (show 0 < N * 2 by omega)
  have h1 : x % (N * 2) % N = x % N := Nat.mod_mul_right_mod x N 2
  generalize hr : x % (N * 2) = r at hx h1
  rw [h] at h1
  have add : (x + N) % (N * 2) = (r + N) % (N * 2) := by rw [Nat.add_mod, hr, Nat.add_mod r N, Nat.mod_eq_of_lt hx]
  rw [add]
  rcases Nat.lt_or_ge r N with a | a
  · rw [Nat.mod_eq_of_lt a] at h1
    rcases Nat.lt_or_ge j N with b | b
    · rw [Nat.mod_eq_of_lt b] at h1; exact .inl h1
    · right
      have : j % N = j - N := by rw [Nat.mod_eq_sub_mod b, Nat.mod_eq_of_lt (by omega)]
      rw [Nat.mod_eq_of_lt (by omega)]
      omega
  · have e1 : r % N = r - N := by rw [Nat.mod_eq_sub_mod a, Nat.mod_eq_of_lt (by omega)]
    rw [e1] at h1
    rcases Nat.lt_or_ge j N with b | b
    · right
      rw [Nat.mod_eq_of_lt b] at h1
      rw [Nat.mod_eq_sub_mod (by omega), Nat.mod_eq_of_lt (by omega)]
      omega
    · left
      have : j % N = j - N := by rw [Nat.mod_eq_sub_mod b, Nat.mod_eq_of_lt (by omega)]
      omega
theorem c5_all : ∀ n j, j < 2 ^ n → ∃ k, k < 2 ^ n ∧ c5 k % 2 ^ n = j
  | 0, j, h => ⟨0, by simp, by simp at h; subst h; rfl⟩
  | n + 1, j, h => by
    have hN : 0 < 2 ^ n := Nat.pow_pos (by decide)
    obtain ⟨k, hk, e⟩ := c5_all n (j % 2 ^ n) (Nat.mod_lt _ hN)
    rw [Nat.pow_succ] at h ⊢
    rcases half hN h e with z | z
    · exact ⟨k, by omega, z⟩
    · obtain ⟨u, eu⟩ := c5_far n k
      refine ⟨2 ^ n + k, by omega, ?_⟩
      rw [eu, show c5 k + 2 ^ n * (2 * u + 1) = c5 k + 2 ^ n + 2 ^ n * 2 * u by rw [Nat.mul_add, Nat.mul_one, Nat.mul_assoc]; omega, Nat.add_mul_mod_self_left]
      exact z
/-- the masks that come -/
def Pw (m : Nat) : Prop := ∃ n, m + 1 = 2 ^ n ∧ 3 ≤ n
theorem lcg_c5 (m : Nat) : ∀ k, lcgN m k = c5 k % (m + 1)
  | 0 => by simp [lcgN, c5]
  | k + 1 => by
    show (lcgN m k * 5 + 1) % (m + 1) = (5 * c5 k + 1) % (m + 1)
    rw [lcg_c5 m k, Nat.add_mod, Nat.mod_mul_mod, ← Nat.add_mod, Nat.mul_comm]
theorem lcg_any {m : Nat} (h : Pw m) {i j : Nat} (hi : i ≤ m) (hj : j ≤ m) : ∃ k, k ≤ m ∧ lcgI m i k = j := by
  obtain ⟨n, e, _⟩ := h
  obtain ⟨a, ha, ea⟩ := c5_all n i (by omega)
  obtain ⟨b, hb, eb⟩ := c5_all n j (by omega)
  have ai : lcgN m a = i := by rw [lcg_c5, e]; exact ea
  rcases Nat.lt_or_ge b a with z | z
  · refine ⟨b + (m + 1) - a, by omega, ?_⟩
    rw [← ai, lcgN_add, lcg_c5, show a + (b + (m + 1) - a) = 2 ^ n + b by omega, e]
    obtain ⟨u, eu⟩ := c5_far n b
    rw [eu, Nat.add_mul_mod_self_left]
    exact eb
  · refine ⟨b - a, by omega, ?_⟩
    rw [← ai, lcgN_add, lcg_c5, show a + (b - a) = b by omega, e]
    exact eb
theorem meets_run {m : Nat} (hm : Pw m) (h : Int) {j : Nat} (hj : j ≤ m) : ∃ n, n ≤ m + 12 ∧ runI m (SetTable.bits h) n = j := by
  obtain ⟨k, hk, e⟩ := lcg_any hm (runI_le m (SetTable.bits h) 12) hj
  exact ⟨12 + k, by omega, (runI_tail (bits_lt h) k).trans e⟩
theorem meets_way {m : Nat} (hm : Pw m) (h : Int) {j : Nat} (hj : j ≤ m) : ∃ k, k < 10 * SetTable.turns m ∧ way m h k = j := by
  obtain ⟨n, hn, e⟩ := meets_run hm h hj
  obtain ⟨k, hk, e2⟩ := run_nth m (SetTable.bits h) n
  exact ⟨k, by unfold SetTable.turns; omega, (congrArg SetTable.Probe.j e2).trans e⟩
theorem way_in (m : Nat) (h : Int) (k : Nat) : way m h k ≤ m := by
  have hi : SetTable.bits h % (m + 1) ≤ m := Nat.le_of_lt_succ (Nat.mod_lt _ (Nat.succ_pos _))
  have b := runEnd_bd hi
  have q := nth_in (m := m) k (runAt m (SetTable.bits h % (m + 1)) (SetTable.bits h)) (show SetTable.bits h % (m + 1) + (SetTable.runEnd m (SetTable.bits h % (m + 1)) - SetTable.bits h % (m + 1)) ≤ m by omega)
  exact Nat.le_trans (Nat.le_add_right _ _) q
/-! ### sizes -/
theorem above_go : ∀ (f s n : Nat), (∃ k, s = 2 ^ k ∧ 3 ≤ k) → n < 2 ^ f * s → ∃ k, SetTable.sizeAbove.go n f s = 2 ^ k ∧ 3 ≤ k ∧ n < 2 ^ k ∧ (2 ^ k ≤ 2 * n ∨ 2 ^ k = s)
  | 0, s, n, ⟨k, e, h3⟩, h => ⟨k, e, h3, by rw [← e]; simpa using h, .inr e.symm⟩
  | f + 1, s, n, ⟨k, e, h3⟩, h => by
    unfold SetTable.sizeAbove.go
    by_cases c : s ≤ n
    · rw [if_pos c]
      obtain ⟨k', e1, e2, e3, e4⟩ := above_go f (s * 2) n ⟨k + 1, by rw [e, Nat.pow_succ], by omega⟩ (by rw [Nat.pow_succ] at h; rw [Nat.mul_comm s 2, ← Nat.mul_assoc]; exact h)
      refine ⟨k', e1, e2, e3, .inl ?_⟩
      rcases e4 with z | z
      · exact z
      · omega
    · rw [if_neg c]
      exact ⟨k, e, h3, by omega, .inr e.symm⟩
theorem above {n : Nat} (h : n < 2 ^ 64) : ∃ k, SetTable.sizeAbove n = 2 ^ k ∧ 3 ≤ k ∧ n < 2 ^ k ∧ (2 ^ k ≤ 2 * n ∨ 2 ^ k = 8) :=
  above_go 64 8 n ⟨3, rfl, Nat.le_refl _⟩ (Nat.lt_of_lt_of_le h (by decide))
end Sg
set_option Elab.async false
set_option linter.all false
set_option maxRecDepth 100000
/-! Sg2: a table whose entries are all found again: one put in; all laid anew. -/
namespace Sg
open PySem PySem.Spec PyProof.Rows L2
/-- each entry's slot lies on its hash's way, behind slots that are taken -/
structure Tb (t : SetTable) (hs : List Int) : Prop where
  ris : Ris t.place.toList
  dm : t.dummies = #[]
  sz : t.place.size = hs.length
  pw : Pw t.mask
  bd : ∀ x ∈ t.place.toList, x ≤ t.mask
  on : ∀ (i : Nat) (h : Int) (j : Nat), hs[i]? = some h → t.place.toList[i]? = some j → ∃ k, way t.mask h k = j ∧ ∀ c, c < k → way t.mask h c ∈ t.place.toList
section
variable {t : SetTable} {hs : List Int}
theorem Tb.len (T : Tb t hs) : t.place.toList.length = hs.length := T.sz
theorem Tb.gap (T : Tb t hs) (hl : hs.length ≤ t.mask) (h : Int) : ∃ K, K < 10 * SetTable.turns t.mask ∧ way t.mask h K ∉ t.place.toList ∧ ∀ c, c < K → way t.mask h c ∈ t.place.toList := by
  obtain ⟨j, hj, out⟩ := st_missing t.place.toList (t.mask + 1) (by rw [T.len]; omega)
  obtain ⟨k, hk, e⟩ := meets_way T.pw h (Nat.le_of_lt_succ hj)
  obtain ⟨K, a, b, c⟩ := st_least (p := fun k => way t.mask h k ∉ t.place.toList) k (fun z => out (e ▸ z))
  exact ⟨K, by omega, b, fun i hi => Classical.not_not.mp (c i hi)⟩
theorem Tb.ahead (T : Tb t hs) {h : Int} {K i j : Nat} (hK : way t.mask h K ∉ t.place.toList) (hi : hs[i]? = some h) (hj : t.place.toList[i]? = some j) : ∃ k, k < K ∧ way t.mask h k = j := by
  obtain ⟨k, e, b⟩ := T.on i h j hi hj
  rcases Nat.lt_or_ge k K with z | z
  · exact ⟨k, z, e⟩
  · rcases Nat.lt_or_ge K k with y | y
    · exact absurd (b K y) hK
    · have : k = K := by omega
      subst this
      exact absurd (e ▸ List.mem_of_getElem? hj) hK
theorem Tb.put (T : Tb t hs) {h : Int} {K : Nat} (hK : way t.mask h K ∉ t.place.toList) (hb : ∀ c, c < K → way t.mask h c ∈ t.place.toList) {j p : Nat} (ej : way t.mask h K = j) (ep : SetTable.below t.place j = p) :
    p ≤ hs.length ∧ Tb (t.put j).1 (hs.take p ++ h :: hs.drop p) ∧ (t.put j).1.fill = hs.length + 1 := by
  have hp : p ≤ t.place.toList.length := by rw [← ep]; exact (below_cut T.ris j).1
  have hp2 : p ≤ hs.length := by rw [← T.len]; exact hp
  have pl : (t.put j).1.place.toList = t.place.toList.take p ++ j :: t.place.toList.drop p := by rw [← ep]; exact put_place t j
  have ps : (t.put j).1.place.size = hs.length + 1 := by rw [← Array.length_toList, pl, len_ins _ hp, T.len]
  have no : t.place[SetTable.below t.place j]? ≠ some j := fun e => hK (by rw [ej]; exact List.mem_of_getElem? (by rw [Array.getElem?_toList]; exact e))
  have more : ∀ x, x ∈ t.place.toList → x ∈ (t.put j).1.place.toList := fun x hx => by rw [pl]; exact mem_ins.2 (.inr hx)
  refine ⟨hp2, ⟨ris_insert T.ris no, put_dm T.dm j, by rw [ps, len_ins _ hp2], T.pw, fun x hx => ?_, fun i h' j' e1 e2 => ?_⟩, ?_⟩
  · rw [pl] at hx
    rcases mem_ins.1 hx with rfl | z
    · rw [← ej]; exact way_in t.mask h K
    · exact T.bd x z
  · show ∃ k, way t.mask h' k = j' ∧ ∀ c, c < k → way t.mask h' c ∈ (t.put j).1.place.toList
    rw [tins_get hs hp2] at e1
    rw [pl, tins_get _ hp] at e2
    have old : ∀ i', hs[i']? = some h' → t.place.toList[i']? = some j' → ∃ k, way t.mask h' k = j' ∧ ∀ c, c < k → way t.mask h' c ∈ (t.put j).1.place.toList := fun i' a b => by
      obtain ⟨k, e, z⟩ := T.on i' h' j' a b
      exact ⟨k, e, fun c hc => more _ (z c hc)⟩
    by_cases a : i < p
    · rw [if_pos a] at e1 e2
      exact old i e1 e2
    · rw [if_neg a] at e1 e2
      by_cases b : i = p
      · rw [if_pos b] at e1 e2
        cases e1
        cases e2
        exact ⟨K, ej, fun c hc => more _ (hb c hc)⟩
      · rw [if_neg b] at e1 e2
        exact old (i - 1) e1 e2
  · show (t.put j).1.place.size + (t.put j).1.dummies.size = _
    rw [ps, put_dm T.dm j]
    rfl
end
/-! ### laid anew -/
theorem free_any {m : Nat} (hm : Pw m) (ow : Array (Option Nat)) (h : Int) {j : Nat} (hj : j ≤ m) (hf : oAt ow j = none) :
    ∃ K, SetTable.layClean.free m ow (SetTable.turns m) (SetTable.bits h % (m + 1)) (SetTable.bits h) = some (way m h K) ∧ oAt ow (way m h K) = none ∧ ∀ c, c < K → oAt ow (way m h c) ≠ none := by
  obtain ⟨n, hn, e⟩ := meets_run hm h hj
  have at_n : way m h (off m (SetTable.bits h % (m + 1)) (SetTable.bits h) n) = j := by
    have := congrArg SetTable.Probe.j (nth_off m n (SetTable.bits h % (m + 1)) (SetTable.bits h))
    rw [itL_run] at this
    exact this.trans e
  obtain ⟨K, a, b, c⟩ := st_least (p := fun k => oAt ow (way m h k) = none) _ (at_n ▸ hf)
  have some_of : ∀ c, oAt ow (way m h c) ≠ none → (oAt ow (way m h c)).isNone = false := fun c hc => by
    cases z : oAt ow (way m h c) with
    | none => exact absurd z hc
    | some _ => rfl
  refine ⟨K, free_spec m ow (SetTable.turns m) n _ _ K (by unfold SetTable.turns; omega) a (fun k hk => some_of k (c k hk)) ?_, b, c⟩
  show (oAt ow (way m h K)).isNone = true
  rw [b]
  rfl
theorem ow_step {m : Nat} (hm : Pw m) {done : List Int} {ow : Array (Option Nat)} (W : Own m done ow) (hl : done.length ≤ m) (h : Int) :
    ∃ j, SetTable.layClean.free m ow (SetTable.turns m) (SetTable.bits h % (m + 1)) (SetTable.bits h) = some j ∧ Own m (done ++ [h]) (ow.setIfInBounds j (some done.length)) := by
  obtain ⟨ps, lps, inp⟩ := W.ps
  obtain ⟨j0, lt0, out0⟩ := st_missing ps (m + 1) (by omega)
  have free0 : oAt ow j0 = none := Classical.byContradiction fun z => out0 (inp j0 (Nat.le_of_lt_succ lt0) z)
  obtain ⟨K, e1, e2, e3⟩ := free_any hm ow h (Nat.le_of_lt_succ lt0) free0
  generalize ej : way m h K = j at e1 e2
  have jm : j ≤ m := by rw [← ej]; exact way_in m h K
  have self : oAt (ow.setIfInBounds j (some done.length)) j = some done.length := oAt_set_self _ (by rw [W.sz]; omega)
  have other : ∀ {i : Nat}, i ≠ j → oAt (ow.setIfInBounds j (some done.length)) i = oAt ow i := fun hi => oAt_set_ne _ hi
  have stays : ∀ {i : Nat}, oAt ow i ≠ none → oAt (ow.setIfInBounds j (some done.length)) i ≠ none := fun {i} hi => by
    by_cases c : i = j
    · rw [c, self]; simp
    · rw [other c]; exact hi
  refine ⟨j, e1, by rw [Array.size_setIfInBounds]; exact W.sz, fun i k hi e => ?_, fun k hk => ?_, j :: ps, by simp [lps], fun i hi e => ?_⟩
  · by_cases c : i = j
    · rw [c, self] at e
      cases e
      exact ⟨h, K, by simp, by rw [c]; exact ej, fun k' hk' => stays (e3 k' hk')⟩
    · rw [other c] at e
      obtain ⟨h', K', a1, a2, a3⟩ := W.at_ i k hi e
      exact ⟨h', K', by rw [List.getElem?_append_left (List.getElem?_eq_some_iff.mp a1).1]; exact a1, a2, fun k' hk' => stays (a3 k' hk')⟩
  · rw [List.length_append, List.length_singleton] at hk
    by_cases c : k < done.length
    · obtain ⟨i, hi, e⟩ := W.all k c
      exact ⟨i, hi, by rw [other (fun z => by rw [z, e2] at e; cases e)]; exact e⟩
    · exact ⟨j, jm, by rw [self]; congr 1; omega⟩
  · by_cases c : i = j
    · rw [c]; exact List.mem_cons_self
    · rw [other c] at e; exact List.mem_cons_of_mem _ (inp i hi e)
theorem lay_fold {m : Nat} (hm : Pw m) : ∀ (rest done : List Int) (ow : Array (Option Nat)), Own m done ow → done.length + rest.length ≤ m → ∃ ow', rest.foldl (stepF m) (some (ow, done.length)) = some (ow', (done ++ rest).length) ∧ Own m (done ++ rest) ow'
  | [], done, ow, W, _ => ⟨ow, by simp, by simpa using W⟩
  | h :: rest, done, ow, W, hl => by
    simp only [List.length_cons] at hl
    obtain ⟨j, e, W1⟩ := ow_step hm W (by omega) h
    obtain ⟨ow', f, W2⟩ := lay_fold hm rest (done ++ [h]) _ W1 (by simp; omega)
    refine ⟨ow', ?_, by simpa using W2⟩
    rw [List.foldl_cons, stepF_some e]
    simpa using f
theorem lay_all {m : Nat} (hm : Pw m) {hs : Array Int} (hn : hs.size ≤ m) : ∃ ow, SetTable.layClean m hs = some ow ∧ Own m hs.toList ow := by
  obtain ⟨ow, f, W⟩ := lay_fold hm hs.toList [] _ (Own.init m) (by simpa using hn)
  refine ⟨ow, ?_, by simpa using W⟩
  rw [layClean_eq, show (0 : Nat) = ([] : List Int).length from rfl, f]
  rfl
theorem relaid_any (t : SetTable) {hs : Array Int} {wanted M : Nat} (hw : SetTable.sizeAbove wanted - 1 = M) (hM : Pw M) (hn : hs.size ≤ M) :
    ∃ t' order, t.relaid hs wanted = some (t', order) ∧ order.toList.Perm (List.range hs.size) ∧ Tb t' (order.toList.map fun i => hs.getD i 0) ∧ t'.mask = M ∧ t'.led = t.led ∧ t'.plain = t.plain := by
  obtain ⟨ow, e, W⟩ := lay_all hM hn
  have live : ∀ {j k : Nat}, (j, k) ∈ liveOf M ow ↔ j ≤ M ∧ oAt ow j = some k := mem_live W.sz
  obtain ⟨r1, r2⟩ := ris_live (fun j => ow.getD j none) (List.range (M + 1)) (by
    unfold Ris
    first | exact List.pairwise_lt_range | exact List.pairwise_lt_range _)
  have r1 : Ris ((liveOf M ow).map (·.1)) := r1
  have r2 : ∀ x ∈ (liveOf M ow).map (·.1), x ∈ List.range (M + 1) := r2
  have sz : (liveOf M ow).length = hs.size := by
    obtain ⟨ps, p1, p2⟩ := W.ps
    have up := nat_nodup_len ((liveOf M ow).map (·.1)) ps (show ((liveOf M ow).map (·.1)).Nodup from List.Pairwise.imp (fun h => Nat.ne_of_lt h) r1) fun x hx => by
      obtain ⟨⟨y, k⟩, hq, ey⟩ := List.mem_map.mp hx
      cases ey
      obtain ⟨b1, b2⟩ := live.1 hq
      exact p2 y b1 (by rw [b2]; simp)
    have dn := nat_nodup_len (List.range hs.size) ((liveOf M ow).map (·.2)) List.nodup_range fun k hk => by
      obtain ⟨j, b1, b2⟩ := W.all k (List.mem_range.mp hk)
      exact List.mem_map.mpr ⟨(j, k), live.2 ⟨b1, b2⟩, rfl⟩
    have p1 : ps.length = hs.size := p1
    simp only [List.length_map, List.length_range] at up dn
    omega
  refine ⟨tabOf t M ow, ((liveOf M ow).map (·.2)).toArray, by rw [relaid_eq, hw, e]; rfl, ?_, ⟨r1, rfl, ?_, hM, fun x hx => Nat.le_of_lt_succ (List.mem_range.mp (r2 x hx)), fun i h j h1 h2 => ?_⟩, rfl, rfl, rfl⟩
  · refine perm_range hs.size _ (by simpa using sz) fun k hk => ?_
    obtain ⟨j, b1, b2⟩ := W.all k hk
    exact List.mem_map.mpr ⟨(j, k), live.2 ⟨b1, b2⟩, rfl⟩
  · show ((liveOf M ow).map (·.1)).toArray.size = _
    simp
  · have h1 : (((liveOf M ow).map (·.2)).map fun i => hs.getD i 0)[i]? = some h := h1
    have h2 : ((liveOf M ow).map (·.1))[i]? = some j := h2
    rw [List.getElem?_map] at h2
    obtain ⟨⟨y, k⟩, hq, ey⟩ := Option.map_eq_some_iff.mp h2
    cases ey
    rw [List.getElem?_map, List.getElem?_map, hq] at h1
    have eh : hs.getD k 0 = h := Option.some.inj h1
    obtain ⟨b1, b2⟩ := live.1 (List.mem_of_getElem? hq)
    obtain ⟨h0, K, a1, a2, a3⟩ := W.at_ y k b1 b2
    have e0 : h0 = h := by rw [← eh, Array.getD_eq_getD_getElem?, ← Array.getElem?_toList, a1]; rfl
    subst e0
    refine ⟨K, a2, fun c hc => ?_⟩
    show way M h0 c ∈ (liveOf M ow).map (·.1)
    cases z : oAt ow (way M h0 c) with
    | none => exact absurd z (a3 c hc)
    | some k2 => exact List.mem_map.mpr ⟨(way M h0 c, k2), live.2 ⟨way_in M h0 c, z⟩, rfl⟩
end Sg
set_option Elab.async false
set_option linter.all false
set_option maxRecDepth 100000
set_option maxHeartbeats 1000000
/-! Sg3: a set of tuples of ints, of any size up to 1400: a member looked for, one added. -/
namespace Sg
open PySem PySem.Spec PyProof.Rows L2
/-- the set at a: its members' addresses and ints -/
structure St (P : Program) (w : World) (h : Heap) (a : Addr) (L : List (Addr × List Int)) (es : Array (Int × Value)) (ep : Nat) (t : SetTable) : Prop where
  ob : ∃ o, h.get? a = some o ∧ o.ExactSet ∧ o.data = .set es ep t
  rows : es.toList = rowsOf P w L
  tab : Tb t (L.map fun p => thash P w p.2)
  nd : (L.map (·.2)).Nodup
  tup : ∀ p ∈ L, IsT P w h p.2 p.1
  plain : t.plain = true
  led : w.params.followText "set-order" = true ∨ t.led = true
  room : L.length * 5 < t.mask * 3
  big : t.mask ≤ 8191
section
variable {P : Program} {w : World} {A : Around} {E : Value → Shared → Prop} {s : Shared} {a : Addr} {L : List (Addr × List Int)} {es : Array (Int × Value)} {ep : Nat} {t : SetTable}
theorem rows_len (h : es.toList = rowsOf P w L) : es.size = L.length := by
  rw [← Array.length_toList, h]
  unfold rowsOf
  rw [List.length_map]
theorem St.fits (R : St P w s.heap a L es ep t) : t.fits es.size = true := by
  have h1 : t.place.size = L.length := R.tab.sz.trans (List.length_map _)
  have h2 := rows_len R.rows
  have h3 := R.room
  unfold SetTable.fits SetTable.fill
  rw [R.tab.dm, Bool.and_eq_true, beq_iff_eq, decide_eq_true_eq]
  exact ⟨h1.trans h2.symm, by show t.place.size + 0 ≤ t.mask; omega⟩
theorem row_at (h : es.toList = rowsOf P w L) {i : Nat} {p : Addr × List Int} (e : L[i]? = some p) : es[i]? = some (thash P w p.2, Value.ref p.1) := by
  rw [← Array.getElem?_toList, h]
  unfold rowsOf
  rw [List.getElem?_map, e]
  rfl
theorem odd {m : Nat} (h : Pw m) : m % 2 = 1 := by
  obtain ⟨n, e, h3⟩ := h
  obtain ⟨k, rfl⟩ : ∃ k, n = k + 1 := ⟨n - 1, by omega⟩
  rw [Nat.pow_succ] at e
  omega
theorem no_dummy (m : Nat) : ∀ (n : Nat) (p : SetTable.Probe), p.dummy = none → (nth m p n).dummy = none
  | 0, p, h => h
  | n + 1, p, h => no_dummy m n (adv m p) (by unfold adv; split <;> exact h)
/-- the search, from its c-th step on; K: the first gap on the way of k -/
theorem search (R : St P w s.heap a L es ep t) {x : Addr} {k : List Int} (hx : IsT P w s.heap k x) (hu : A.units < cLine) {p0 : SetTable.Probe} (e0 : p0 = runAt t.mask (SetTable.bits (thash P w k) % (t.mask + 1)) (SetTable.bits (thash P w k))) {W : Nat → Nat} (eW : W = way t.mask (thash P w k)) {K : Nat} (hKf : K < 10 * SetTable.turns t.mask)
    (gap : W K ∉ t.place.toList) (full : ∀ c, c < K → W c ∈ t.place.toList) {Q : SetFound → Shared → Prop} (yes : k ∈ L.map (·.2) → Q (.there none) s) (no : k ∉ L.map (·.2) → Q (.free (W K) false) s) :
    ∀ (f c : Nat) (stand : Option SetTable.Probe), stand.getD (t.probeStart (thash P w k)) = nth t.mask p0 c → c ≤ K → K - c < f → (∀ (i : Nat) p, L[i]? = some p → p.2 = k → ∃ d, c ≤ d ∧ d < K ∧ t.place.toList[i]? = some (W d)) →
      wpAny (model P w) A (setSearchFrom a (.ref x) (thash P w k) true f stand) Q E s
  | 0, c, stand, _, _, hf, _ => absurd hf (Nat.not_lt_zero _)
  | f + 1, c, stand, hst, hc, hf, left => by
    obtain ⟨o, ho, hex, hd⟩ := R.ob
    have wj : ∀ n, (nth t.mask p0 n).j = W n := fun n => by rw [e0, eW]
    have sh : ∀ q, nth t.mask (nth t.mask p0 c) q = nth t.mask p0 (c + q) := fun q => (nth_add t.mask c p0 q).symm
    have hashAt : ∀ (i : Nat) p, L[i]? = some p → ((es[i]?.map (·.1)).getD 0) = thash P w p.2 := fun i p hp => by rw [row_at R.rows hp]; rfl
    have spec := go_spec t R.tab.ris R.tab.dm (fun i => (es[i]?.map (·.1)).getD 0) (thash P w k) (10 * SetTable.turns t.mask) (K - c) (nth t.mask p0 c) (no_dummy t.mask c p0 (by rw [e0]; rfl)) (by omega)
      (fun q hq => by rw [sh, wj]; exact full _ (by omega)) (by rw [sh, wj, show c + (K - c) = K by omega]; exact gap)
    rw [setSearchFrom_succ]
    refine wpAny_bind (wpAny_setState_of ho hd R.fits ?_)
    dsimp only
    refine wp_if_neg (by unfold SetTable.gaveWay; rw [odd R.tab.pw]; decide) ?_
    try refine wpAny_bind (wpAny_pure ?_)
    rw [show t.probe (fun i => (es[i]?.map (·.1)).getD 0) (thash P w k) (stand.getD (t.probeStart (thash P w k))) = SetTable.probe.go t (fun i => (es[i]?.map (·.1)).getD 0) (thash P w k) (10 * SetTable.turns t.mask) (nth t.mask p0 c) by rw [hst]; rfl]
    rcases spec with ⟨q, i, hq, hi, hh, first, go⟩ | ⟨none_, go⟩
    · rw [go]
      dsimp only
      rw [sh, wj] at hi
      have hil : i < L.length := by
        have := (List.getElem?_eq_some_iff.mp hi).1
        rwa [R.tab.len, List.length_map] at this
      obtain ⟨p, hp⟩ : ∃ p, L[i]? = some p := ⟨L[i], List.getElem?_eq_getElem hil⟩
      have hpt := R.tup p (List.mem_of_getElem? hp)
      have slot : t.slot (nth t.mask (nth t.mask p0 c) q).j = .live i := by rw [sh, wj]; exact slot_live R.tab.ris hi
      have rest : wpAny (model P w) A (searchRest a (.ref x) (thash P w k) true f es t (nth t.mask (nth t.mask p0 c) q).j i (nth t.mask (nth t.mask p0 c) (q + 1))) Q E s := by
        unfold searchRest
        rw [row_at R.rows hp]
        dsimp only
        refine wpAny_bind (wpAny_holding (wpAny_eqBool_tuple hu hpt hx (wpAny_bind (wpAny_setState_of ho hd R.fits ?_))))
        dsimp only
        by_cases same : p.2 = k
        · refine wp_if_pos (by simp [same]) (wpAny_pure (yes (List.mem_map.mpr ⟨p, List.mem_of_getElem? hp, same⟩)))
        · refine wp_if_neg (by simp [same]) ?_
          try refine wpAny_bind (wpAny_pure ?_)
          rw [sameMem]
          dsimp only
          simp only [if_true, slot, row_at R.rows hp]
          refine wpAny_bind (wpAny_isSame_ref_self (wpAny_bind (wpAny_pure ?_)))
          simp only [if_true]
          refine wp_if_neg (by simp [same]) ?_
          refine search R hx hu e0 eW hKf gap full yes no f (c + (q + 1)) _ (by rw [sh]; rfl) (by omega) (by omega) fun i2 p2 h2 hk2 => ?_
          obtain ⟨d, d1, d2, d3⟩ := left i2 p2 h2 hk2
          refine ⟨d, ?_, d2, d3⟩
          rcases Nat.lt_trichotomy d (c + q) with z | z | z
          · exact absurd ((hashAt i2 p2 h2).trans (congrArg (thash P w) hk2)) (first (d - c) i2 (by omega) (by rw [sh, wj, show c + (d - c) = d by omega]; exact d3))
          · rw [z] at d3
            have u1 := slot_live R.tab.ris d3
            have u2 := slot_live R.tab.ris hi
            rw [u2] at u1
            injection u1 with u1
            rw [← u1, hp] at h2
            cases h2
            exact absurd hk2 same
          · omega
      by_cases led : t.led = true
      · refine wp_if_neg (by simp [led]) ?_
        try refine wpAny_bind (wpAny_pure ?_)
        exact rest
      · refine wp_if_pos (by simp [led]) (wpAny_bind (seen_tup hx (fun y hy => ?_) ?_))
        · obtain ⟨e, he, rfl⟩ := List.mem_map.mp hy
          have m1 : e ∈ es.toList := by
            have : e ∈ es ∧ e.1 = thash P w k := by simpa using he
            simpa using this.1
          rw [R.rows] at m1
          obtain ⟨p2, m2, rfl⟩ := List.mem_map.mp m1
          exact ⟨p2.2, p2.1, rfl, R.tup p2 m2⟩
        · refine wp_if_neg (by decide) ?_
          try refine wpAny_bind (wpAny_pure ?_)
          exact rest
    · rw [go]
      dsimp only
      rw [sh, wj, show c + (K - c) = K by omega]
      refine wpAny_pure (no fun hm => ?_)
      obtain ⟨p2, m2, hk2⟩ := List.mem_map.mp hm
      obtain ⟨i2, h2⟩ := List.mem_iff_getElem?.mp m2
      obtain ⟨d, d1, d2, d3⟩ := left i2 p2 h2 hk2
      exact none_ (d - c) i2 (by omega) (by rw [sh, wj, show c + (d - c) = d by omega]; exact d3) ((hashAt i2 p2 h2).trans (congrArg (thash P w) hk2))
theorem search_ok (R : St P w s.heap a L es ep t) {x : Addr} {k : List Int} (hx : IsT P w s.heap k x) (hu : A.units < cLine) {Q : SetFound → Shared → Prop} (yes : k ∈ L.map (·.2) → Q (.there none) s)
    (no : ∀ K, k ∉ L.map (·.2) → way t.mask (thash P w k) K ∉ t.place.toList → (∀ c, c < K → way t.mask (thash P w k) c ∈ t.place.toList) → Q (.free (way t.mask (thash P w k) K) false) s) : wpAny (model P w) A (setSearch a (.ref x) (thash P w k) true) Q E s := by
  have h1 := R.room
  have h2 := R.big
  obtain ⟨K, k1, k2, k3⟩ := R.tab.gap (by rw [List.length_map]; omega) (thash P w k)
  unfold setSearch
  refine search R hx hu rfl rfl k1 k2 k3 yes (fun m => no K m k2 k3) 100000 0 none rfl (Nat.zero_le _) (by unfold SetTable.turns at k1; omega) fun i p hp hk => ?_
  have hi : (L.map fun p => thash P w p.2)[i]? = some (thash P w k) := by rw [List.getElem?_map, hp, ← hk]; rfl
  have lt : i < t.place.toList.length := by rw [R.tab.len]; exact (List.getElem?_eq_some_iff.mp hi).1
  obtain ⟨c, c1, c2⟩ := R.tab.ahead k2 hi (List.getElem?_eq_getElem lt)
  exact ⟨c, Nat.zero_le _, c1, by rw [List.getElem?_eq_getElem lt, c2]⟩
/-- the table laid anew -/
theorem relay_ok {o : Obj} (ho : s.heap.get? a = some o) (hex : o.ExactSet) (hd : o.data = .set es ep t) (hrows : es.toList = rowsOf P w L) (hsz : t.place.size = es.size) (hdm : t.dummies = #[]) (hfl : es.size ≤ t.mask) (nd : (L.map (·.2)).Nodup) (tup : ∀ p ∈ L, IsT P w s.heap p.2 p.1)
    (pl : t.plain = true) (ld : w.params.followText "set-order" = true ∨ t.led = true) {wanted M : Nat} (hw : SetTable.sizeAbove wanted = M + 1) (hM : Pw M) (hb : M ≤ 8191) (hn : L.length * 5 < M * 3) {Q : Unit → Shared → Prop}
    (hQ : ∀ h' L' es' ep' t', Heap.SameBut a s.heap h' → St P w h' a L' es' ep' t' → L'.Perm L → Q () { s with heap := h' }) : wpAny (model P w) A (setRelay a wanted) Q E s := by
  have sl := rows_len hrows
  have fits : t.fits es.size = true := by
    unfold SetTable.fits SetTable.fill
    rw [hdm, Bool.and_eq_true, beq_iff_eq, decide_eq_true_eq]
    exact ⟨hsz, by show t.place.size + 0 ≤ t.mask; omega⟩
  obtain ⟨t', order, e, pm, T, em, el, epl⟩ := relaid_any t (hs := es.map (·.1)) (wanted := wanted) (M := M) (by omega) hM (by rw [Array.size_map, sl]; omega)
  rw [Array.size_map, sl] at pm
  obtain ⟨L2, r1, r2, r3⟩ := order_rows L es order hrows pm
  rw [← r3] at T
  have sz2 : (order.filterMap (es[·]?)).size = L.length := (rows_len r1).trans r2.length_eq
  rw [setRelay_eq]
  refine wpAny_bind (wpAny_setState_of ho hd fits ?_)
  dsimp only
  refine wp_if_neg (by rw [hw, sizeLine_eq]; omega) ?_
  try refine wpAny_bind (wpAny_pure ?_)
  rw [e]
  dsimp only
  refine wpAny_bind (wp_if_neg (by rw [sz2, sl]; simp) ?_)
  try refine wpAny_bind (wpAny_pure ?_)
  refine wpAny_pure ?_
  dsimp only
  refine wpAny_storeSet_of ho hd ?_ (by rw [sz2, sizeLine_eq]; omega)
  have sb : Heap.SameBut a s.heap (s.heap.update a (Obj.putSet (order.filterMap (es[·]?)) t')) := Heap.SameBut.update ..
  exact hQ _ L2 _ (ep + 1) t' sb ⟨⟨_, store_at ho hd, ⟨hex.1, hex.2.1, hex.2.2⟩, rfl⟩, r1, T, (r2.map (·.2)).nodup_iff.mpr nd, fun p hp => isT_same (tup p (r2.mem_iff.mp hp)) ho hd sb, by rw [epl]; exact pl, by rw [el]; exact ld, by rw [r2.length_eq, em]; exact hn, by rw [em]; exact hb⟩ r2
/-- sizes that come -/
theorem grow {n : Nat} (h : n ≤ 1400) (h1 : 0 < n) : ∃ M, SetTable.sizeAbove (SetTable.grown n) = M + 1 ∧ Pw M ∧ M ≤ 8191 ∧ n * 5 < M * 3 := by
  have e : SetTable.grown n = n * 4 := by unfold SetTable.grown; rw [if_neg (by omega)]
  rw [e]
  obtain ⟨k, e1, e2, e3, e4⟩ := above (n := n * 4) (by omega)
  have hp : 2 ^ k ≤ 8192 := by
    rcases Nat.lt_or_ge 13 k with z | z
    · exfalso
      have : 2 ^ 14 ≤ 2 ^ k := Nat.pow_le_pow_right (by decide) z
      have b : (2 : Nat) ^ 14 = 16384 := rfl
      rcases e4 with y | y <;> omega
    · exact Nat.le_trans (Nat.pow_le_pow_right (by decide) z) (by decide)
  exact ⟨2 ^ k - 1, by omega, ⟨k, by omega, e2⟩, by omega, by omega⟩
/-- one added -/
theorem add_ok (R : St P w s.heap a L es ep t) {x : Addr} {k : List Int} (hx : IsT P w s.heap k x) (hu : A.units < cLine) (few : L.length + 1 ≤ 1400) {Q : Bool → Shared → Prop}
    (hQ : ∀ b h' L' es' ep' t', Heap.SameBut a s.heap h' → St P w h' a L' es' ep' t' → (k ∈ L.map (·.2) → L' = L) → (k ∉ L.map (·.2) → L'.Perm ((x, k) :: L)) → Q b { s with heap := h' }) : wpAny (model P w) A (setAddHashed a (.ref x) (thash P w k)) Q E s := by
  obtain ⟨o, ho, hex, hd⟩ := R.ob
  have sl := rows_len R.rows
  unfold setAddHashed
  refine wpAny_holding ?_
  rw [show (100000 : Nat) = 99999 + 1 from rfl, setAddHashedIn_succ]
  refine wpAny_bind (wpAny_setState_of ho hd R.fits ?_)
  dsimp only
  refine wp_if_neg (by simp [byScan, Value.scannable]) ?_
  try refine wpAny_bind (wpAny_pure ?_)
  refine wpAny_bind (search_ok R hx hu (fun m => ?_) fun K m k2 k3 => ?_)
  · dsimp only
    exact wpAny_pure (hQ false s.heap L es ep t (Heap.SameBut.refl a s.heap) R (fun _ => rfl) fun z => absurd m z)
  · dsimp only
    refine wpAny_bind (wpAny_setState_of ho hd R.fits ?_)
    dsimp only
    generalize ej : way t.mask (thash P w k) K = j at k2
    generalize ep1 : SetTable.below t.place j = p
    obtain ⟨q1, q2, q3⟩ := R.tab.put (h := thash P w k) (K := K) (j := j) (p := p) (by rw [ej]; exact k2) k3 ej ep1
    have epair : t.put j = ((t.put j).1, p) := by rw [← ep1]; rfl
    have f1 : (t.put j).1.plain = true := R.plain
    have f2 : (t.put j).1.led = t.led := rfl
    have f3 : (t.put j).1.mask = t.mask := rfl
    rw [epair]
    generalize (t.put j).1 = t1 at q2 q3 f1 f2 f3
    dsimp only
    first
      | (refine wpAny_bind ?_; refine wp_if_pos f1 ?_; refine hashBy_tup hx ?_)
      | refine wp_if_pos f1 (wpAny_bind (hashBy_tup hx ?_))
    simp only [if_true]
    have rows1 : (SetTable.insertAt es p (thash P w k, Value.ref x)).toList = rowsOf P w (L.take p ++ (x, k) :: L.drop p) := by rw [SetTable.toList_insertAt, rows_put, R.rows]
    have pm := put_perm L p (x, k)
    have hmap : (L.take p ++ (x, k) :: L.drop p).map (fun p => thash P w p.2) = (L.map fun p => thash P w p.2).take p ++ thash P w k :: (L.map fun p => thash P w p.2).drop p := by simp
    rw [← hmap] at q2
    rw [List.length_map] at q3
    generalize hes1 : SetTable.insertAt es p (thash P w k, Value.ref x) = es1 at rows1 ⊢
    generalize L.take p ++ (x, k) :: L.drop p = L1 at pm q2 rows1
    have len1 : L1.length = L.length + 1 := pm.length_eq
    have sz1 : es1.size = L.length + 1 := (rows_len rows1).trans len1
    refine wpAny_bind (wpAny_storeSet_of ho hd ?_ (by rw [sz1, sizeLine_eq]; omega))
    have sb : Heap.SameBut a s.heap (s.heap.update a (Obj.putSet es1 t1)) := Heap.SameBut.update ..
    have ho1 := store_at (es' := es1) (t' := t1) ho hd
    generalize s.heap.update a (Obj.putSet es1 t1) = h1 at sb ho1 ⊢
    have nd1 : (L1.map (·.2)).Nodup := (pm.map (·.2)).nodup_iff.mpr (List.nodup_cons.mpr ⟨m, R.nd⟩)
    have tup1 : ∀ p ∈ L1, IsT P w h1 p.2 p.1 := fun p hp => by
      rcases List.mem_cons.mp (pm.mem_iff.mp hp) with rfl | z
      · exact isT_same hx ho hd sb
      · exact isT_same (R.tup p z) ho hd sb
    have led1 : w.params.followText "set-order" = true ∨ t1.led = true := by rw [f2]; exact R.led
    have h5 := R.room
    have h6 := R.big
    by_cases tf : t1.tooFull = true
    · obtain ⟨M, g1, g2, g3, g4⟩ := grow few (Nat.succ_pos _)
      have relay : wpAny (model P w) A (setRelay a (SetTable.grown (es.size + 1))) (fun _ s' => wpAny (model P w) A (pure true) Q E s') E { s with heap := h1 } := by
        rw [sl]
        refine relay_ok (s := { s with heap := h1 }) ho1 ⟨hex.1, hex.2.1, hex.2.2⟩ rfl rows1 ?_ q2.dm (by rw [sz1, f3]; have := q2.pw; omega) nd1 tup1 f1 led1 g1 g2 g3 (by rw [len1]; exact g4) fun h2 L2 es2 ep2 t2 sb2 R2 pm2 => ?_
        · rw [q2.sz, List.length_map, len1, sz1]
        · exact wpAny_pure (hQ true h2 L2 es2 ep2 t2 (sb.trans sb2) R2 (fun z => absurd z m) fun _ => pm2.trans pm)
      first
        | (refine wpAny_bind ?_; refine wp_if_pos (by simp [tf]) ?_; exact relay)
        | (refine wp_if_pos (by simp [tf]) ?_; exact wpAny_bind relay)
    · have room1 : L1.length * 5 < t1.mask * 3 := by
        unfold SetTable.tooFull at tf
        rw [decide_eq_true_eq, q3] at tf
        rw [len1]
        omega
      have fin := hQ true h1 L1 es1 (ep + 1) t1 sb ⟨⟨_, ho1, ⟨hex.1, hex.2.1, hex.2.2⟩, rfl⟩, rows1, q2, nd1, tup1, f1, led1, room1, by rw [f3]; exact h6⟩ (fun z => absurd z m) fun _ => pm
      first
        | (refine wp_if_neg (by simp [tf]) ?_; exact wpAny_pure fin)
        | (refine wpAny_bind ?_; refine wp_if_neg (by simp [tf]) ?_; refine wpAny_pure ?_; exact wpAny_pure fin)
end
end Sg
set_option Elab.async false
set_option linter.all false
set_option maxRecDepth 100000
set_option maxHeartbeats 3200000
/-! Sg4: set(..) of a list of tuples, of a dict with tuple keys. -/
namespace Sg
open PySem PySem.Spec PyProof.Rows L2
section
variable {P : Program} {w : World} {A : Around} {E : Value → Shared → Prop} {s : Shared}
abbrev newSet (w : World) : Obj := { cls := .type "set", dict := none, data := .set #[] 0 (.fresh 0 0 (!w.params.followText "set-order")) }
theorem St.new {h : Heap} {a : Addr} (ho : h.get? a = some (newSet w)) : St P w h a [] #[] 0 (.fresh 0 0 (!w.params.followText "set-order")) where
  ob := ⟨_, ho, ⟨rfl, rfl, rfl⟩, rfl⟩
  rows := rfl
  tab := ⟨List.Pairwise.nil, rfl, rfl, ⟨3, rfl, Nat.le_refl _⟩, fun x hx => (by cases hx), fun i h j hi => (by simp at hi)⟩
  nd := List.nodup_nil
  tup := fun p hp => (by cases hp)
  plain := rfl
  led := by
    show _ ∨ (!w.params.followText "set-order") = true
    cases w.params.followText "set-order"
    · exact .inr rfl
    · exact .inl rfl
  room := by show 0 * 5 < 7 * 3; decide
  big := by show 7 ≤ 8191; decide
/-- set(u): the new set filled -/
theorem set_call {u : Value} {Q : Value → Shared → Prop}
    (h : wpAny (model P w) A.in1.in1 (Builtin.Frozenset.updateFrom "set.__init__" s.heap.objs.size u) (fun _ s' => Q (.ref s.heap.objs.size) s') E { s with heap := s.heap.push (newSet w) }) :
    wpAny (model P w) A (call (.type "set") [u]) Q E s := by
  obtain ⟨c, tl, hmro⟩ := F.called_set.mro
  have hmade := F.called_set.made
  have hsub := F.called_set.sub
  refine wpAny_call (codeAny_of_tree ?_)
  show wpAny _ _ (callAny (.type "set") _) _ _ _
  refine wpAny_pure ⟨Code.quiet_builtin _ (by decide +kernel), codeAny_builtin F.entry_type_call ?_⟩
  rw [Around.under_plain (weight_type_call_type "set" [u] []) rfl]
  have h1 := F.called_set.notType
  have h2 := F.called_set.canCreate
  have hct := F.typeCall_set_1 u
  repeat (any_goals (first | assumption | wp_step))
  refine codeAny_mono (code_set_led1 u (E := E) (Q₁ := fun obj s₁ => obj = .ref s.heap.objs.size ∧ s₁ = { s with heap := s.heap.push (newSet w) }) ⟨rfl, rfl⟩) fun r s₁ hr => ?_
  cases r with
  | error e => exact hr
  | ok fl => cases fl with
    | ret obj =>
      obtain ⟨rfl, rfl⟩ := hr
      have hS : (s.heap.push (newSet w)).get? s.heap.objs.size = some (newSet w) := Heap.get?_push_size _ rfl
      have hT : Shared.TypeIs { s with heap := s.heap.push (newSet w) } (.ref s.heap.objs.size) "set" := ⟨_, hS, rfl⟩
      have hli := F.called_set.init.lookup
      have hbi := F.called_set.init.bind (.ref s.heap.objs.size)
      repeat (any_goals (first | assumption | wp_step))
      refine codeAny_mono (codeAny_call_builtin (R := wants (fun r s₂ => r = .none ∧ Q (.ref s.heap.objs.size) s₂) E) F.called_set.init.plain F.entry_set_init (check_set_init_1 hT ?_)) fun r₂ s₂ hr₂ => ?_
      · unfold Builtin.«set.__init__» noKeywords
        generalize hU : Builtin.Frozenset.updateFrom = U at h ⊢
        wp_walk
        exact wpAny_mono h (fun _ s' hq => wpAny_pure ⟨rfl, hq⟩) fun _ _ x => x
      · cases r₂ with
        | error e => exact hr₂
        | ok fl₂ => cases fl₂ with
          | ret r =>
            obtain ⟨rfl, hq⟩ := hr₂
            repeat (any_goals (first | assumption | wp_step))
          | _ => exact hr₂.elim
    | _ => exact hr.elim
/-- the list's items, one after the other -/
theorem list_loop {S I l : Addr} {items : Array Value} {R : Result → Shared → Prop} (hh : A.in1.handled = none) (hu : A.in1.units < cLine) (ks : List (Addr × List Int)) (hit : items.toList = ks.map fun p => Value.ref p.1) (few : ks.length ≤ 1400) {h0 : Heap} (hk : ∀ p ∈ ks, IsT P w h0 p.2 p.1)
    (hS0 : h0.get? S = none) (hI0 : h0.get? I = none) (hSI : S ≠ I) (hl0 : h0.IsList l items) :
    ∀ (k i : Nat) (s : Shared), items.size - i = k → i ≤ items.size → s.heap.IsListIter I l i → (∀ b o, h0.get? b = some o → s.heap.get? b = some o) → (∃ L es ep t, St P w s.heap S L es ep t ∧ Got ks i L) →
      (∀ h' tk L es ep t, St P w h' S L es ep t → Got ks ks.length L → (∀ b o, h0.get? b = some o → h'.get? b = some o) → R (.ok (.ret .none)) { s with heap := h', toks := tk }) →
      codeAny (model P w) A (.builtin "set.update.loop" ⟨[.ref S, .ref I], []⟩) R s := by
  have hn : items.size = ks.length := by rw [← Array.length_toList, hit, List.length_map]
  intro k
  induction k with
  | zero =>
    intro i s hk' hi st keep ⟨L, es, ep, t, hS, g⟩ hR
    have hin : i = items.size := by omega
    refine codeAny_builtin F.entry_set_update_loop ?_
    rw [Around.under_plainId F.plain_set_update_loop _]
    show wpAny _ A.in1 (pyNext (.ref I) >>= _) _ _ s
    refine wpAny_bind (wpAny_pyNext_list_end hh st (hl0.at fun o e => keep _ o e) (Array.getElem?_eq_none (by omega)) fun h' eb => ?_)
    show wpAny _ A.in1 (ret Value.none) _ _ _
    have up : ∀ b o, h0.get? b = some o → h'.get? b = some o := fun b o e => eb b o (fun z => by rw [z, hI0] at e; cases e) (keep b o e)
    obtain ⟨o, ho, r⟩ := hS.ob
    rw [hin, hn] at g
    exact wpAny_pure (hR h' s.toks L es ep t ⟨⟨o, eb S o hSI ho, r⟩, hS.rows, hS.tab, hS.nd, fun p hp => isT_keep (hk p (List.mem_of_mem_take (g.sub p hp))) up, hS.plain, hS.led, hS.room, hS.big⟩ g up)
  | succ k ih =>
    intro i s hk' hi st keep ⟨L, es, ep, t, hS, g⟩ hR
    have lt : i < ks.length := by omega
    have hx : items[i]? = some (Value.ref ks[i].1) := by rw [← Array.getElem?_toList, hit, List.getElem?_map, List.getElem?_eq_getElem lt]; rfl
    refine codeAny_builtin F.entry_set_update_loop ?_
    rw [Around.under_plainId F.plain_set_update_loop _]
    show wpAny _ A.in1 (pyNext (.ref I) >>= _) _ _ s
    refine wpAny_bind (wpAny_pyNext_list_item st (hl0.at fun o e => keep _ o e) hx fun h' st' sb => ?_)
    show wpAny _ A.in1 (holding [Value.ref ks[i].1] (setAdd S (.ref ks[i].1)) >>= _) _ _ _
    have up : ∀ b o, h0.get? b = some o → h'.get? b = some o := fun b o e => (sb.2 b (fun z => by rw [z, hI0] at e; cases e)).trans (keep b o e)
    have m : ks[i] ∈ ks := List.getElem_mem lt
    have hT : IsT P w h' ks[i].2 ks[i].1 := isT_keep (hk _ m) up
    obtain ⟨o, ho, r⟩ := hS.ob
    have hS' : St P w h' S L es ep t := ⟨⟨o, (sb.2 S hSI).trans ho, r⟩, hS.rows, hS.tab, hS.nd, fun p hp => isT_keep (hk p (List.mem_of_mem_take (g.sub p hp))) up, hS.plain, hS.led, hS.room, hS.big⟩
    unfold setAdd
    refine wpAny_bind (wpAny_holding (wpAny_holding (wpAny_bind (wpAny_pyHash_tuple hu hT ?_))))
    refine add_ok (s := { s with heap := h', toks := s.toks + (ks[i].2.length + 1) }) hS' hT hu (by have := g.len; omega) fun b h2 L2 es2 ep2 t2 sb2 hS2 c1 c2 => ?_
    have g2 : Got ks (i + 1) L2 := by
      by_cases c : ks[i].2 ∈ L.map (·.2)
      · rw [c1 c]; exact g.same (List.getElem?_eq_getElem lt) c
      · exact g.more (List.getElem?_eq_getElem lt) (c2 c)
    refine wpAny_pure ⟨plainId_quiet F.plain_set_update_loop _, ih (i + 1) _ (by omega) (by omega) (st'.at fun o e => (sb2.2 I (Ne.symm hSI)).trans e) (fun b o e => (sb2.2 b (fun z => by rw [z, hS0] at e; cases e)).trans (up b o e)) ⟨L2, es2, ep2, t2, hS2, g2⟩ fun h3 tk L3 es3 ep3 t3 hS3 g3 up3 => ?_⟩
    exact hR h3 tk L3 es3 ep3 t3 hS3 g3 up3
/-- set(xs), xs a list of tuples of ints -/
theorem set_list {l : Addr} {items : Array Value} (ks : List (Addr × List Int)) {Q : Value → Shared → Prop} (hh : A.handled = none) (hu : A.units + 4 < cLine) (hl : s.heap.IsList l items) (hit : items.toList = ks.map fun p => Value.ref p.1) (hk : ∀ p ∈ ks, IsT P w s.heap p.2 p.1) (few : ks.length ≤ 1400)
    (h : ∀ (h' : Heap) (tk : Nat) L es ep t, St P w h' s.heap.objs.size L es ep t → Got ks ks.length L → (∀ b o, s.heap.get? b = some o → h'.get? b = some o) → Q (.ref s.heap.objs.size) { s with heap := h', toks := tk }) : wpAny (model P w) A (call (.type "set") [.ref l]) Q E s := by
  refine set_call ?_
  have up : ∀ b o, s.heap.get? b = some o → (s.heap.push (newSet w)).get? b = some o := fun b o e => Heap.get?_push_of_some _ e
  have hl1 : (s.heap.push (newSet w)).IsList l items := hl.at fun o e => up l o e
  have hll : l < s.heap.objs.size := by obtain ⟨_, e, _⟩ := hl; exact Heap.lt_size e
  have none_ : ∀ b, s.heap.objs.size ≤ b → s.heap.get? b = none := fun b hb => by
    cases q : s.heap.get? b with
    | none => rfl
    | some o => exact absurd (Nat.lt_of_lt_of_le (Heap.lt_size q) hb) (Nat.lt_irrefl _)
  have e2 : (s.heap.push (newSet w)).objs.size = s.heap.objs.size + 1 := Heap.size_push ..
  have loop : wpAny (model P w) A.in1.in1 (pyIter (.ref l)) (fun it s1 => wpAny (model P w) A.in1.in1 (runValue (.builtin "set.update.loop" ⟨[.ref s.heap.objs.size, it], []⟩) >>= fun _ => pure ()) (fun _ s' => Q (.ref s.heap.objs.size) s') E s1) E { s with heap := s.heap.push (newSet w) } := by
    refine wpAny_pyIter_list hl1 (wpAny_bind (wpAny_runValue ?_))
    refine list_loop (A := A.in1.in1) (by simpa using hh) (by show A.units + 3 < cLine; omega) ks hit few hk (none_ _ (Nat.le_refl _)) (none_ (s.heap.push (newSet w)).objs.size (by rw [e2]; exact Nat.le_succ _)) (by rw [e2]; exact Nat.ne_of_lt (Nat.lt_succ_self _)) hl (items.size - 0) 0 _ (by omega) (Nat.zero_le _)
      ⟨_, Heap.get?_push_size _ rfl, rfl, rfl⟩ (fun b o e => Heap.get?_push_of_some _ (up b o e)) ⟨[], #[], 0, _, St.new (Heap.get?_push_of_some _ (Heap.get?_push_size _ rfl)), Got.zero ks⟩ fun h' tk L es ep t hS g kp => ?_
    exact wpAny_pure (h h' tk L es ep t hS g kp)
  obtain ⟨ol, hol, hcl, nl, hdl⟩ := id hl1
  obtain ⟨oc, od, odt, osl⟩ := ol
  simp only at hcl hdl
  subst hcl hdl
  have f1 := F.sub_list_set
  have f2 := F.sub_list_frozenset
  have hne : (Value.type "list" == Value.type "dict") = false := by decide
  unfold Builtin.Frozenset.updateFrom
  generalize hPI : pyIter = PI at loop ⊢
  wp_walk
  exact loop
end
end Sg
set_option Elab.async false
set_option linter.all false
set_option maxRecDepth 100000
set_option maxHeartbeats 3200000
/-! Sg5: set(..) of a dict whose keys are tuples of ints. -/
namespace Sg
open PySem PySem.Spec PyProof.Rows L2
section
variable {P : Program} {w : World} {A : Around} {E : Value → Shared → Prop} {s : Shared}
/-- place made ahead -/
theorem ahead_ok {S : Addr} {n : Nat} (hn : n ≤ 1400) (ho : s.heap.get? S = some (newSet w)) {Q : Unit → Shared → Prop} (hQ : ∀ h' es ep t, Heap.SameBut S s.heap h' → St P w h' S [] es ep t → Q () { s with heap := h' }) : wpAny (model P w) A (setRoomFor S n) Q E s := by
  unfold setRoomFor
  refine wpAny_bind (wpAny_setState_of (es := #[]) (ep := 0) (t := .fresh 0 0 (!w.params.followText "set-order")) ho rfl rfl ?_)
  dsimp only
  have e : (SetTable.fresh 0 0 (!w.params.followText "set-order")).roomFor n = if (0 + n) * 5 ≥ 7 * 3 then some ((0 + n) * 2) else none := rfl
  rw [e]
  by_cases c : (0 + n) * 5 ≥ 7 * 3
  · rw [if_pos c]
    dsimp only
    obtain ⟨k, e1, e2, e3, e4⟩ := above (n := (0 + n) * 2) (by omega)
    have hp : 2 ^ k ≤ 8192 := by
      rcases Nat.lt_or_ge 13 k with z | z
      · exfalso
        have : 2 ^ 14 ≤ 2 ^ k := Nat.pow_le_pow_right (by decide) z
        have b : (2 : Nat) ^ 14 = 16384 := rfl
        rcases e4 with y | y <;> omega
      · exact Nat.le_trans (Nat.pow_le_pow_right (by decide) z) (by decide)
    have p8 : 8 ≤ 2 ^ k := Nat.pow_le_pow_right (by decide : 0 < 2) e2
    refine relay_ok (L := []) (es := #[]) (ep := 0) (M := 2 ^ k - 1) ho ⟨rfl, rfl, rfl⟩ rfl rfl rfl rfl (by show 0 ≤ 7; decide) List.nodup_nil (fun p hp => by cases hp) rfl ?_ (by omega) ⟨k, by omega, e2⟩ (by omega) (by show 0 * 5 < _; omega) fun h' L' es' ep' t' sb hS pm => ?_
    · show _ ∨ (!w.params.followText "set-order") = true
      cases w.params.followText "set-order"
      · exact .inr rfl
      · exact .inl rfl
    · cases pm.eq_nil
      exact hQ h' es' ep' t' sb hS
  · rw [if_neg c]
    exact wpAny_pure (hQ s.heap _ _ _ (Heap.SameBut.refl S s.heap) (St.new ho))
theorem hash_eq (k : List Int) : tupleKeyHash (mixKind P w) (k.map Sum.inl) = thash P w k := by
  show reduceHash (Builtin.Tuple.tupleHashOf ((k.map Sum.inl).map (keyH w))) = reduceHash (Builtin.Tuple.tupleHashOf (k.map hashInt))
  rw [List.map_map]
  rfl
/-- set(d) -/
theorem set_dict {d : Addr} {o : Obj} {es : Array DictEntry} {ep : Nat} (ks : List (Addr × List Int)) {Q : Value → Shared → Prop} (hu : A.units + 4 < cLine) (hd : (d == sysModules) = false) (ho : s.heap.get? d = some o) (hx : o.ExactDict) (hdat : o.data = .dict es ep)
    (hit : ∀ (i : Nat) (p : Addr × List Int), ks[i]? = some p → ∃ v, es[i]? = some ⟨thash P w p.2, Value.ref p.1, v⟩) (hn : es.size = ks.length) (hk : ∀ p ∈ ks, IsT P w s.heap p.2 p.1) (few : ks.length ≤ 1400)
    (h : ∀ (h' : Heap) L es ep t, St P w h' s.heap.objs.size L es ep t → Got ks ks.length L → (∀ b o, s.heap.get? b = some o → h'.get? b = some o) → Q (.ref s.heap.objs.size) { s with heap := h' }) : wpAny (model P w) A (call (.type "set") [.ref d]) Q E s := by
  refine set_call ?_
  have hlt : d < s.heap.objs.size := Heap.lt_size ho
  have up : ∀ b o, s.heap.get? b = some o → (s.heap.push (newSet w)).get? b = some o := fun b o e => Heap.get?_push_of_some _ e
  have ho1 : (s.heap.push (newSet w)).get? d = some o := up _ _ ho
  have none_ : s.heap.get? s.heap.objs.size = none := by
    cases q : s.heap.get? s.heap.objs.size with
    | none => rfl
    | some o => exact absurd (Heap.lt_size q) (Nat.lt_irrefl _)
  have keep1 : ∀ {h' : Heap}, Heap.SameBut s.heap.objs.size (s.heap.push (newSet w)) h' → ∀ b o, s.heap.get? b = some o → h'.get? b = some o := fun sb b o e => (sb.2 b (fun z => by rw [z, none_] at e; cases e)).trans (up b o e)
  unfold Builtin.Frozenset.updateFrom
  generalize hPI : setRoomFor = PI
  have f1 : isSubtype (Value.type "dict") (Value.type "set") = pure false := by rw [isSubtype_type]; kernel_rfl
  have f2 : isSubtype (Value.type "dict") (Value.type "frozenset") = pure false := by rw [isSubtype_type]; kernel_rfl
  obtain ⟨oc, od, odt, osl⟩ := o
  obtain ⟨hc1, hc2, hc3⟩ := hx
  simp only at hc1 hc2 hc3 hdat
  subst hc1 hc2 hc3 hdat
  wp_walk
  rw [← hPI]
  refine ahead_ok (by omega) (Heap.get?_push_size _ rfl) fun h1 es1 ep1 t1 sb1 hS1 => ?_
  have keep2 : ∀ b o, s.heap.get? b = some o → h1.get? b = some o := keep1 sb1
  refine wpAny_bind (wpAny_dictEntries (keep2 _ _ ho) rfl ?_)
  rw [Std.Legacy.Range.forIn_eq_forIn_range']
  refine wpAny_bind (wpAny_forIn_list _ (fun rest _ s' => ∃ i h', s' = { s with heap := h' } ∧ i ≤ es.size ∧ rest = List.range' i (es.size - i) ∧ (∀ b o, s.heap.get? b = some o → h'.get? b = some o) ∧ ∃ L es ep t, St P w h' s.heap.objs.size L es ep t ∧ Got ks i L) _ ?_ ?_ _ _ ⟨0, h1, rfl, Nat.zero_le _, ?_, keep2, [], es1, ep1, t1, hS1, Got.zero ks⟩)
  · rintro i rest _ s' ⟨i', h', rfl, hi, hr, up', L, es2, ep2, t2, hS2, g⟩
    cases hz : es.size - i' with
    | zero => rw [hz] at hr; cases hr
    | succ z =>
      rw [hz, List.range'_succ] at hr
      obtain ⟨rfl, rfl⟩ := List.cons.inj hr
      have lt : i < ks.length := by omega
      obtain ⟨v, hv⟩ := hit i ks[i] (List.getElem?_eq_getElem lt)
      have hT : IsT P w h' ks[i].2 ks[i].1 := isT_keep (hk _ (List.getElem_mem lt)) up'
      refine wpAny_bind (wpAny_dictEntries (up' _ _ ho) rfl ?_)
      rw [hv]
      dsimp only
      refine wpAny_bind (wpAny_holding (add_ok (s := { s with heap := h' }) hS2 hT (by show A.units + 2 < cLine; omega) (by have := g.len; omega) fun b h2 L2 es3 ep3 t3 sb2 hS3 c1 c2 => ?_))
      have g2 : Got ks (i + 1) L2 := by
        by_cases c : ks[i].2 ∈ L.map (·.2)
        · rw [c1 c]; exact g.same (List.getElem?_eq_getElem lt) c
        · exact g.more (List.getElem?_eq_getElem lt) (c2 c)
      have up2 : ∀ b o, s.heap.get? b = some o → h2.get? b = some o := fun b o e => (sb2.2 b (fun z => by rw [z, none_] at e; cases e)).trans (up' b o e)
      have hfin : ∃ i' h', ({ s with heap := h2 } : Shared) = { s with heap := h' } ∧ i' ≤ es.size ∧ List.range' (i + 1) z = List.range' i' (es.size - i') ∧ (∀ b o, s.heap.get? b = some o → h'.get? b = some o) ∧ ∃ L es ep t, St P w h' s.heap.objs.size L es ep t ∧ Got ks i' L :=
        ⟨i + 1, h2, rfl, by omega, by rw [show es.size - (i + 1) = z by omega], up2, L2, es3, ep3, t3, hS3, g2⟩
      have ep_ : wpAny (model P w) A.in1.in1 (dictEpoch d) (fun q s' => q = ep ∧ s' = { s with heap := h2 }) E { s with heap := h2 } := by
        have := up2 _ _ ho
        exact wpAny_dictEpoch this rfl ⟨rfl, rfl⟩
      refine wpAny_bind (wpAny_mono ep_ (fun q s' hq => ?_) fun _ _ x => x)
      obtain ⟨rfl, rfl⟩ := hq
      refine wp_if_neg (by simp) ?_
      exact wpAny_pure hfin
  · rintro b s' ⟨i, h', rfl, hi, hr, up', L, es2, ep2, t2, hS2, g⟩
    have : es.size - i = 0 := by
      cases hz : es.size - i with
      | zero => rfl
      | succ z => rw [hz, List.range'_succ] at hr; cases hr
    have e : i = ks.length := by omega
    rw [e] at g
    exact wpAny_pure (h h' L es2 ep2 t2 hS2 g up')
  · simp [Std.Legacy.Range.size]
end
end Sg
set_option Elab.async false
set_option linter.all false
set_option maxRecDepth 100000
/-! Sg6: sorted(..) of a list, a set, a dict's keys: tuples of ints, any number of them. -/
namespace Sg
open PySem PySem.Spec PyProof.Rows L2
theorem perm_inv {α β : Type} (f : α → β) {m n : List β} (h : m.Perm n) : ∀ l : List α, n = l.map f → ∃ l' : List α, l'.Perm l ∧ m = l'.map f := by
  induction h with
  | nil =>
    intro l e
    cases l with
    | nil => exact ⟨[], .nil, rfl⟩
    | cons _ _ => cases e
  | cons x _ ih =>
    intro l e
    cases l with
    | nil => cases e
    | cons y l =>
      rw [List.map_cons] at e
      obtain ⟨e1, e2⟩ := List.cons.inj e
      obtain ⟨l', p, e3⟩ := ih l e2
      exact ⟨y :: l', p.cons y, by rw [e1, e3, List.map_cons]⟩
  | swap x y r =>
    intro l e
    cases l with
    | nil => cases e
    | cons a l => cases l with
      | nil => cases e
      | cons b l =>
        rw [List.map_cons, List.map_cons] at e
        obtain ⟨e1, e2⟩ := List.cons.inj e
        obtain ⟨e3, e4⟩ := List.cons.inj e2
        exact ⟨b :: a :: l, .swap _ _ _, by rw [e1, e3, e4]; rfl⟩
  | trans _ _ i1 i2 =>
    intro l e
    obtain ⟨l1, p1, e1⟩ := i2 l e
    obtain ⟨l2, p2, e2⟩ := i1 l1 e1
    exact ⟨l2, p2.trans p1, e2⟩
def encR (k : List Int) : PyData := .tuple (k.map PyData.int)
/-- the order of tuples of ints -/
def rowLe : List Int → List Int → Bool := PySem.W.dataLe false encR
/-- what sorted(..) gives of tuples of ints -/
def sortR (ks : List (List Int)) : List (List Int) := ks.mergeSort rowLe
theorem toks_inj : ∀ {k l : List Int}, PySem.W.keyToksAll (k.map PyData.int) = PySem.W.keyToksAll (l.map PyData.int) → k = l
  | [], [], _ => rfl
  | [], _ :: _, h => by simp [PySem.W.keyToksAll] at h
  | _ :: _, [], h => by simp [PySem.W.keyToksAll] at h
  | a :: k, b :: l, h => by
    simp only [List.map_cons, PySem.W.keyToksAll, PySem.W.keyToks, List.cons_append, List.nil_append, List.cons.injEq, Sum.inl.injEq, true_and] at h
    rw [h.1, toks_inj h.2]
theorem rowLe_anti {k l : List Int} (h1 : rowLe k l = true) (h2 : rowLe l k = true) : k = l := by
  have a : (!(listOrd itemOrd).blt (PySem.W.keyToks (encR l)) (PySem.W.keyToks (encR k))) = true := h1
  have b : (!(listOrd itemOrd).blt (PySem.W.keyToks (encR k)) (PySem.W.keyToks (encR l))) = true := h2
  rw [Bool.not_eq_true'] at a b
  have e := (listOrd itemOrd).total _ _ b a
  simp only [encR, PySem.W.keyToks] at e
  exact toks_inj e
theorem rowLe_total : PySem.W.TotalLe rowLe := PySem.W.sortLe_total (listOrd itemOrd) false fun b => PySem.W.keyToks (encR b)
theorem sortR_perm {ks ls : List (List Int)} (h : ks.Perm ls) : sortR ks = sortR ls := by
  refine List.Perm.eq_of_pairwise (le := fun a b => rowLe a b = true) (fun a b _ _ h1 h2 => rowLe_anti h1 h2) (PySem.W.sort_pairwise rowLe_total ks) (PySem.W.sort_pairwise rowLe_total ls) ?_
  exact ((List.mergeSort_perm _ _).trans h).trans (List.mergeSort_perm _ _).symm
theorem sortR_mem {ks : List (List Int)} {k : List Int} : k ∈ sortR ks ↔ k ∈ ks := (List.mergeSort_perm _ _).mem_iff
/-- each once -/
def ddp : List (List Int) → List (List Int)
  | [] => []
  | k :: ks => if k ∈ ks then ddp ks else k :: ddp ks
theorem ddp_mem {k : List Int} : ∀ {ks : List (List Int)}, k ∈ ddp ks ↔ k ∈ ks
  | [] => Iff.rfl
  | x :: ks => by
    unfold ddp
    by_cases h : x ∈ ks
    · rw [if_pos h, ddp_mem, List.mem_cons]
      exact ⟨.inr, fun z => z.elim (fun e => by rw [e]; exact h) id⟩
    · rw [if_neg h, List.mem_cons, List.mem_cons, ddp_mem]
theorem ddp_nodup : ∀ {ks : List (List Int)}, (ddp ks).Nodup
  | [] => List.nodup_nil
  | x :: ks => by
    unfold ddp
    by_cases h : x ∈ ks
    · rw [if_pos h]; exact ddp_nodup
    · rw [if_neg h]; exact List.nodup_cons.mpr ⟨fun z => h (ddp_mem.mp z), ddp_nodup⟩
theorem ddp_same : ∀ {ks : List (List Int)}, ks.Nodup → ddp ks = ks
  | [], _ => rfl
  | x :: ks, h => by
    obtain ⟨h1, h2⟩ := List.nodup_cons.mp h
    unfold ddp
    rw [if_neg h1, ddp_same h2]
theorem ddp_perm {ks ls : List (List Int)} (n : ls.Nodup) (h : ∀ k, k ∈ ls ↔ k ∈ ks) : ls.Perm (ddp ks) :=
  (List.perm_ext_iff_of_nodup n ddp_nodup).mpr fun k => (h k).trans ddp_mem.symm
section
variable {P : Program} {w : World} {A : Around} {E : Value → Shared → Prop} {s : Shared}
theorem reads_ints {h : Heap} : ∀ {k : List Int} {us : List Value}, IntsAre us k → ReadsAll h us (k.map PyData.int) []
  | [], _, .nil => .nil
  | _ :: _, _, .cons x t r => .cons (as := []) (bs := []) (.int x t) (reads_ints r)
theorem reads_tup {h : Heap} {k : List Int} {a : Addr} (x : IsT P w h k a) : Reads h (.ref a) (encR k) [] := by
  obtain ⟨b, its, e, ⟨o, ho, hc, n, hd⟩, hi⟩ := tupInts_of x
  cases e
  exact .tuple ho hc hd (reads_ints hi)
theorem alike_ints : ∀ k l : List Int, PySem.W.alikeAll (k.map PyData.int) (l.map PyData.int) = true
  | [], _ => by simp [PySem.W.alikeAll]
  | _ :: _, [] => by simp [PySem.W.alikeAll]
  | a :: k, b :: l => by simp [PySem.W.alikeAll, PySem.W.alike, alike_ints k l]
abbrev rfs (bs : List (Addr × List Int)) : List Value := bs.map fun p => Value.ref p.1
theorem each_rf {R : Value → Addr × List Int → Prop} : ∀ bs : List (Addr × List Int), (∀ p ∈ bs, R (.ref p.1) p) → PySem.W.EachIs R (rfs bs) bs
  | [], _ => .nil
  | p :: bs, h => .cons (h p List.mem_cons_self) (each_rf bs fun q hq => h q (List.mem_cons_of_mem _ hq))
theorem rf_each : ∀ {out : List Value} {bs : List (Addr × List Int)}, PySem.W.EachIs (fun v (b : Addr × List Int) => v = Value.ref b.1) out bs → out = rfs bs
  | _, _, .nil => rfl
  | _, _, .cons e t => by rw [e, rf_each t]; rfl
/-- what is true after sorted(..), where its row has come from -/
theorem sorted_coll {v : Value} (bs : List (Addr × List Int)) {Q : Value → Shared → Prop} (ha : argsOk "sorted" ⟨[v], []⟩) (hk : ∀ p ∈ bs, IsT P w s.heap p.2 p.1) (hne : ∀ p ∈ bs, p.2 ≠ []) (hl : bs.length ≤ sizeLine) (hu : A.units + 6 < cLine)
    (hc : ∀ R : List Value → Shared → Prop, (∀ vs s', (∀ b o, s.heap.get? b = some o → s'.heap.get? b = some o) → s'.gens = s.gens → s'.os = s.os → vs.Perm (rfs bs) → R vs s') → wpAny (model P w) A.in1 (collect v) R E s)
    (h : ∀ (s1 : Shared) (h' : Heap) p ls c, (∀ b o, s.heap.get? b = some o → s1.heap.get? b = some o) → s1.gens = s.gens → s1.os = s.os → (∀ b o, s1.heap.get? b = some o → h'.get? b = some o) → s1.heap.objs.size ≤ p → h'.get? p = some (seqObj "list" (rfs ls).toArray c) → ls.Perm bs → ls.map (·.2) = sortR (bs.map (·.2)) → Q (.ref p) { s1 with heap := h' }) :
    wpAny (model P w) A (call (.builtin "sorted") [v]) Q E s := by
  refine Calls.call_function_entry kind_sorted plain_sorted entry_sorted ha ?_
  unfold Builtin.«sorted»
  refine wpAny_bind (m := checkCount "sorted" 1 1 _) (wpAny_pure ?_)
  refine wpAny_bind (hc _ fun vs s1 k1 g1 o1 pm => ?_)
  obtain ⟨ls, pl, rfl⟩ := perm_inv (fun p : Addr × List Int => Value.ref p.1) pm bs rfl
  have hll : ls.length ≤ sizeLine := by rw [pl.length_eq]; exact hl
  refine wpAny_bind (wpAny_newList ?_ (by rw [List.length_map]; exact hll))
  have hoL : (s1.heap.push (seqObj "list" (rfs ls).toArray 0)).get? s1.heap.objs.size = some (seqObj "list" (rfs ls).toArray 0) := Heap.get?_push_size _ rfl
  have k2 : ∀ b o, s.heap.get? b = some o → (s1.heap.push (seqObj "list" (rfs ls).toArray 0)).get? b = some o := fun b o e => Heap.get?_push_of_some _ (k1 b o e)
  have rd : ∀ p ∈ ls, Reads (s1.heap.push (seqObj "list" (rfs ls).toArray 0)) (.ref p.1) (encR p.2) [] := fun p hp => reads_tup (isT_keep (hk p (pl.mem_iff.mp hp)) k2)
  refine wpAny_bind (wpAny_holding (PySem.W.list_sort_data (s := { s1 with heap := s1.heap.push (seqObj "list" (rfs ls).toArray 0) }) (bs := ls) (enc := fun p => encR p.2) (R := fun v b => v = Value.ref b.1) hoL (each_rf ls fun p _ => rfl) (each_rf ls fun p hp => ⟨[], rd p hp, fun z => nomatch z⟩) ?_ ?_ hll ?_ fun out hol eo => ?_))
  · intro d hd d' hd'
    obtain ⟨p, _, rfl⟩ := List.mem_map.mp hd
    obtain ⟨q, _, rfl⟩ := List.mem_map.mp hd'
    show PySem.W.alike (encR p.2) (encR q.2) = true
    simp only [encR, PySem.W.alike]
    exact alike_ints _ _
  · refine .inl fun d hd => ?_
    obtain ⟨p, hp, rfl⟩ := List.mem_map.mp hd
    have := hne p (pl.mem_iff.mp hp)
    cases hq : p.2 with
    | nil => exact absurd hq this
    | cons x r => exact ⟨.int x, r.map PyData.int, by simp [encR, hq]⟩
  · intro b _
    have e : (encR b.2).depth = 1 := by
      simp [encR, PyData.depth, PySem.W.depth_ints]
    show A.units + 1 + 1 + (encR b.2).depth < cLine
    rw [e]
    omega
  · obtain ⟨c, hc'⟩ := sortedHeap_at (vs := rfs ls) (out := out.toArray) hoL
    have eo' := rf_each eo
    refine wpAny_pure ⟨_, rfl, h s1 _ _ (ls.mergeSort (PySem.W.dataLe false fun p => encR p.2)) c k1 g1 o1 (fun b u q => ?_) (Nat.le_refl _) ?_ ((List.mergeSort_perm _ _).trans pl) ?_⟩
    · have hlt := Heap.lt_size q
      show (sortedHeap (s1.heap.push (seqObj "list" (rfs ls).toArray 0)) s1.heap.objs.size (rfs ls) out.toArray).get? b = some u
      rw [sortedHeap_old (Nat.ne_of_lt hlt) (by rw [size_push']; exact Nat.lt_succ_of_lt hlt)]
      exact Heap.get?_push_of_some _ q
    · rw [← eo']; exact hc'
    · rw [← sortR_perm (pl.map (·.2))]
      exact List.map_mergeSort fun a _ b _ => rfl
end
end Sg
set_option Elab.async false
set_option linter.all false
set_option maxRecDepth 100000
/-! Fl1: data trees, a small memory, and how they lie in the abstract heap. -/
namespace Fl
open PySem PySem.Spec PyProof.Rows L2

/-- a dict's key -/
inductive DK where
  | k (x : Key)
  | t (xs : List Key)
  deriving DecidableEq

/-- data: what stands still is a tree; ref n is the n-th object of the memory -/
inductive D where
  | non
  | bl (b : Bool)
  | int (i : Int)
  | str (x : Str)
  | tup (xs : List D)
  | ktp (xs : List D)
  | lst (xs : List D)
  | scr (xs : List Int)
  | dic (t : Bool) (ks : List DK) (vs : List D)
  | ins (c : Str) (ns : List Str) (vs : List D)
  | ref (n : Nat)

/-- an object of the memory -/
inductive O where
  | lst (xs : List D)
  | dic (t : Bool) (kvs : List (DK × D))
  | lkd (t : Bool) (kvs : List (DK × D))
  | ins (c : Str) (fs : List (Str × D))

abbrev Mem := List O
abbrev En := List (Option D)

/-- what an expression comes to: a datum, or a new object that nobody else has -/
inductive R where
  | v (d : D)
  | n (o : O)

def O.fz : O → D
  | .lst xs => .lst xs
  | .dic t kvs => .dic t (kvs.map (·.1)) (kvs.map (·.2))
  | .lkd t kvs => .dic t (kvs.map (·.1)) (kvs.map (·.2))
  | .ins c fs => .ins c (fs.map (·.1)) (fs.map (·.2))
/-- as a datum, for good -/
def R.fz : R → D
  | .v d => d
  | .n o => o.fz
/-- as a datum, a new object laid into the memory -/
def R.al : R → Mem → D × Mem
  | .v d, M => (d, M)
  | .n o, M => (.ref M.length, M ++ [o])

/-- a world: G: what stands still among lists, dicts, instances; β: where the memory's objects are; H: the abstract heap -/
structure Wo where
  G : Addr → Prop
  β : List Addr
  H : Hp

section
variable (K : PySem.W.Frag) (mg : Str → Option Value)
def KTup (a : Addr) (vs : List V) : Prop := ∃ (o : Obj) (its : Array Value) (n : Nat), K.lookup a = some o ∧ o.cls = .type "tuple" ∧ o.data = .seq its n ∧ its.size ≤ sizeLine ∧ Vals vs its.toList
def KLst (a : Addr) (vs : List V) : Prop := ∃ (o : Obj) (its : Array Value) (n : Nat), K.lookup a = some o ∧ o.cls = .type "list" ∧ o.dict = none ∧ o.data = .seq its n ∧ its.size ≤ sizeLine ∧ Vals vs its.toList
def TupAt (H : Hp) (a : Addr) (vs : List V) : Prop := H a = some (.tup vs)
def LstAt (w : Wo) (a : Addr) (vs : List V) : Prop := w.G a ∧ w.H a = some (.lst vs)
/-- the script -/
def ScrAt (w : Wo) (a : Addr) (vs : List V) : Prop := (w.G a ∧ Rd w.H a (.lst vs)) ∨ KLst K a vs
/-- a dict at a: its keys (t: tuples), its values -/
def DicAt (H : Hp) (a : Addr) (t : Bool) (ks : List DK) (vs : List V) : Prop := match t with
  | false => ∃ kv : List (Key × V), H a = some (.dK kv) ∧ ks = kv.map (fun p => DK.k p.1) ∧ vs = kv.map (·.2)
  | true => ∃ kv : List (List Key × V), H a = some (.dT kv) ∧ ks = kv.map (fun p => DK.t p.1) ∧ vs = kv.map (·.2)
/-- the same while a loop walks it -/
def LkAt (H : Hp) (a : Addr) (t : Bool) (ks : List DK) (vs : List V) : Prop := match t with
  | false => ∃ (o : Obj) (kv : List (Key × V)), H a = some (.frz o (.dK kv)) ∧ ks = kv.map (fun p => DK.k p.1) ∧ vs = kv.map (·.2)
  | true => ∃ (o : Obj) (kv : List (List Key × V)), H a = some (.frz o (.dT kv)) ∧ ks = kv.map (fun p => DK.t p.1) ∧ vs = kv.map (·.2)
def InsAt (H : Hp) (a : Addr) (c : Str) (ns : List Str) (vs : List V) : Prop := ∃ C dx fs, mg c = some (.ref C) ∧ H a = some (.ins C dx fs) ∧ ns = fs.map (·.1) ∧ vs = fs.map (·.2)

mutual
def RD (w : Wo) : V → D → Prop
  | v, .non => v = .non
  | v, .bl b => v = .bl b
  | v, .int i => v = .int i
  | v, .str x => v = .str x
  | v, .tup ds => ∃ a vs, v = .ref a ∧ TupAt w.H a vs ∧ RDs w vs ds
  | v, .ktp ds => ∃ a vs, v = .ref a ∧ KTup K a vs ∧ RDs w vs ds
  | v, .lst ds => ∃ a vs, v = .ref a ∧ LstAt w a vs ∧ RDs w vs ds
  | v, .scr xs => ∃ a, v = .ref a ∧ ScrAt K w a (xs.map V.int)
  | v, .dic t ks ds => ∃ a vs, v = .ref a ∧ w.G a ∧ (DicAt w.H a t ks vs ∨ LkAt w.H a t ks vs) ∧ RDs w vs ds
  | v, .ins c ns ds => ∃ a vs, v = .ref a ∧ w.G a ∧ InsAt mg w.H a c ns vs ∧ RDs w vs ds
  | v, .ref n => ∃ a, v = .ref a ∧ w.β[n]? = some a
def RDs (w : Wo) : List V → List D → Prop
  | [], [] => True
  | v :: vs, d :: ds => RD w v d ∧ RDs w vs ds
  | _, _ => False
end

/-- an object of the memory at its address -/
def RO (w : Wo) (a : Addr) : O → Prop
  | .lst ds => ∃ vs, w.H a = some (.lst vs) ∧ RDs K mg w vs ds
  | .dic t kvs => ∃ vs, DicAt w.H a t (kvs.map (·.1)) vs ∧ RDs K mg w vs (kvs.map (·.2))
  | .lkd t kvs => ∃ vs, LkAt w.H a t (kvs.map (·.1)) vs ∧ RDs K mg w vs (kvs.map (·.2))
  | .ins c fs => ∃ vs, InsAt mg w.H a c (fs.map (·.1)) vs ∧ RDs K mg w vs (fs.map (·.2))

/-- the memory lies in the heap -/
structure Rl (w : Wo) (M : Mem) : Prop where
  nd : w.β.Nodup
  len : w.β.length = M.length
  dj : ∀ a, w.G a → a ∉ w.β
  tr : ∀ a, w.G a → w.H a ≠ none
  ob : ∀ (n : Nat) (a : Addr) (o : O), w.β[n]? = some a → M[n]? = some o → RO K mg w a o

/-- names' values -/
inductive RE (w : Wo) : L2.St → En → Prop where
  | nil : RE w [] []
  | no {σ : L2.St} {e : En} {x : Option V} : RE w σ e → RE w (x :: σ) (none :: e)
  | yes {σ : L2.St} {e : En} {v : V} {d : D} : RD K mg w v d → RE w σ e → RE w (some v :: σ) (some d :: e)

/-- a result, reckoned from the world w0 -/
def RR (w0 w : Wo) (v : V) : R → Prop
  | .v d => RD K mg w v d
  | .n o => ∃ a, v = .ref a ∧ RO K mg w a o ∧ ¬ w.G a ∧ a ∉ w.β ∧ w0.H a = none
end

/-- what may have happened: nothing to what is there outside of the memory -/
structure Le0 (w w' : Wo) : Prop where
  keep : ∀ a u, a ∉ w.β → w.H a = some u → w'.H a = some u
  tup : ∀ a vs, w.H a = some (.tup vs) → w'.H a = some (.tup vs)
  g : ∀ a, w.G a → w'.G a
  b : ∀ (n : Nat) a, w.β[n]? = some a → w'.β[n]? = some a
  nb : ∀ a, a ∈ w'.β → a ∈ w.β ∨ w.H a = none
/-- .. and only what is new, or the memory's, has come to stand still -/
structure Le (w w' : Wo) : Prop extends Le0 w w' where
  ng : ∀ a, w'.G a → w.G a ∨ w.H a = none ∨ a ∈ w.β
  fr : ∀ a o u, w.H a = some (.frz o u) → w'.H a = some (.frz o u)
instance {w w' : Wo} : Coe (Le w w') (Le0 w w') := ⟨Le.toLe0⟩
theorem Le.refl (w : Wo) : Le w w := ⟨⟨fun _ _ _ h => h, fun _ _ h => h, fun _ h => h, fun _ _ h => h, fun _ h => .inl h⟩, fun _ h => .inl h, fun _ _ _ h => h⟩
theorem Le0.mem {w w' : Wo} (l : Le0 w w') {a : Addr} (h : a ∈ w.β) : a ∈ w'.β := by
  obtain ⟨n, e⟩ := List.mem_iff_getElem?.mp h
  exact List.mem_iff_getElem?.mpr ⟨n, l.b n a e⟩
theorem Le.mem {w w' : Wo} (l : Le w w') {a : Addr} (h : a ∈ w.β) : a ∈ w'.β := l.toLe0.mem h
theorem Le.trans {w w1 w2 : Wo} (l : Le w w1) (m : Le w1 w2) : Le w w2 := by
  refine ⟨⟨fun a u hb h => m.keep a u (fun z => ?_) (l.keep a u hb h), fun a vs h => m.tup a vs (l.tup a vs h), fun a h => m.g a (l.g a h), fun n a h => m.b n a (l.b n a h), fun a h => ?_⟩, fun a h => ?_, fun a o u h => m.fr a o u (l.fr a o u h)⟩
  · rcases l.nb a z with z | z
    · exact hb z
    · rw [z] at h; cases h
  · rcases m.nb a h with z | z
    · exact l.nb a z
    · cases q : w.H a with
      | none => exact .inr rfl
      | some u =>
        by_cases hb : a ∈ w.β
        · exact .inl hb
        · rw [l.keep a u hb q] at z; cases z
  · rcases m.ng a h with z | z | z
    · exact l.ng a z
    · cases q : w.H a with
      | none => exact .inr (.inl rfl)
      | some u =>
        by_cases hb : a ∈ w.β
        · exact .inr (.inr hb)
        · rw [l.keep a u hb q] at z; cases z
    · rcases l.nb a z with z | z
      · exact .inr (.inr z)
      · exact .inr (.inl z)
/-- fresh behind is fresh ahead, or the memory's -/
theorem Le.fresh {w w' : Wo} (l : Le w w') {a : Addr} (h : w'.H a = none) (hb : a ∉ w.β) : w.H a = none := by
  cases q : w.H a with
  | none => rfl
  | some u => rw [l.keep a u hb q] at h; cases h

section
variable {K : PySem.W.Frag} {mg : Str → Option Value} {w w' w0 w1 : Wo} {M : Mem}
mutual
theorem RD.imp (hT : ∀ a vs, TupAt w.H a vs → TupAt w'.H a vs) (hL : ∀ a vs, LstAt w a vs → LstAt w' a vs) (hS : ∀ a vs, ScrAt K w a vs → ScrAt K w' a vs) (hD : ∀ a t ks vs, w.G a → (DicAt w.H a t ks vs ∨ LkAt w.H a t ks vs) → w'.G a ∧ (DicAt w'.H a t ks vs ∨ LkAt w'.H a t ks vs))
    (hI : ∀ a c ns vs, w.G a → InsAt mg w.H a c ns vs → w'.G a ∧ InsAt mg w'.H a c ns vs) (hB : ∀ (n : Nat) a, w.β[n]? = some a → w'.β[n]? = some a) : ∀ (d : D) (v : V), RD K mg w v d → RD K mg w' v d
  | .non, v, h => by simpa only [RD] using h
  | .bl b, v, h => by simpa only [RD] using h
  | .int i, v, h => by simpa only [RD] using h
  | .str x, v, h => by simpa only [RD] using h
  | .tup ds, v, h => by
    simp only [RD] at h ⊢
    obtain ⟨a, vs, e, h1, h2⟩ := h
    exact ⟨a, vs, e, hT a vs h1, RDs.imp hT hL hS hD hI hB ds vs h2⟩
  | .ktp ds, v, h => by
    simp only [RD] at h ⊢
    obtain ⟨a, vs, e, h1, h2⟩ := h
    exact ⟨a, vs, e, h1, RDs.imp hT hL hS hD hI hB ds vs h2⟩
  | .lst ds, v, h => by
    simp only [RD] at h ⊢
    obtain ⟨a, vs, e, h1, h2⟩ := h
    exact ⟨a, vs, e, hL a vs h1, RDs.imp hT hL hS hD hI hB ds vs h2⟩
  | .scr xs, v, h => by
    simp only [RD] at h ⊢
    obtain ⟨a, e, h1⟩ := h
    exact ⟨a, e, hS a _ h1⟩
  | .dic t ks ds, v, h => by
    simp only [RD] at h ⊢
    obtain ⟨a, vs, e, g, h1, h2⟩ := h
    obtain ⟨g', h1'⟩ := hD a t ks vs g h1
    exact ⟨a, vs, e, g', h1', RDs.imp hT hL hS hD hI hB ds vs h2⟩
  | .ins c ns ds, v, h => by
    simp only [RD] at h ⊢
    obtain ⟨a, vs, e, g, h1, h2⟩ := h
    obtain ⟨g', h1'⟩ := hI a c ns vs g h1
    exact ⟨a, vs, e, g', h1', RDs.imp hT hL hS hD hI hB ds vs h2⟩
  | .ref n, v, h => by
    simp only [RD] at h ⊢
    obtain ⟨a, e, h1⟩ := h
    exact ⟨a, e, hB n a h1⟩
theorem RDs.imp (hT : ∀ a vs, TupAt w.H a vs → TupAt w'.H a vs) (hL : ∀ a vs, LstAt w a vs → LstAt w' a vs) (hS : ∀ a vs, ScrAt K w a vs → ScrAt K w' a vs) (hD : ∀ a t ks vs, w.G a → (DicAt w.H a t ks vs ∨ LkAt w.H a t ks vs) → w'.G a ∧ (DicAt w'.H a t ks vs ∨ LkAt w'.H a t ks vs))
    (hI : ∀ a c ns vs, w.G a → InsAt mg w.H a c ns vs → w'.G a ∧ InsAt mg w'.H a c ns vs) (hB : ∀ (n : Nat) a, w.β[n]? = some a → w'.β[n]? = some a) : ∀ (ds : List D) (vs : List V), RDs K mg w vs ds → RDs K mg w' vs ds
  | [], [], h => by simp only [RDs]
  | [], _ :: _, h => by simp only [RDs] at h
  | _ :: _, [], h => by simp only [RDs] at h
  | d :: ds, v :: vs, h => by
    simp only [RDs] at h ⊢
    exact ⟨RD.imp hT hL hS hD hI hB d v h.1, RDs.imp hT hL hS hD hI hB ds vs h.2⟩
end

theorem rd_keep {H H' : Hp} {a : Addr} {u : HO} (k : ∀ u, H a = some u → H' a = some u) (h : Rd H a u) : Rd H' a u := by
  rcases h with h | ⟨o, h⟩
  · exact .inl (k _ h)
  · exact .inr ⟨o, k _ h⟩
theorem DicAt.keep {H H' : Hp} {a : Addr} {t : Bool} {ks : List DK} {vs : List V} (k : ∀ u, H a = some u → H' a = some u) (h : DicAt H a t ks vs) : DicAt H' a t ks vs := by
  cases t with
  | false => obtain ⟨kv, h, e⟩ := h; exact ⟨kv, k _ h, e⟩
  | true => obtain ⟨kv, h, e⟩ := h; exact ⟨kv, k _ h, e⟩
theorem LkAt.keep {H H' : Hp} {a : Addr} {t : Bool} {ks : List DK} {vs : List V} (k : ∀ u, H a = some u → H' a = some u) (h : LkAt H a t ks vs) : LkAt H' a t ks vs := by
  cases t with
  | false => obtain ⟨o, kv, h, e⟩ := h; exact ⟨o, kv, k _ h, e⟩
  | true => obtain ⟨o, kv, h, e⟩ := h; exact ⟨o, kv, k _ h, e⟩
theorem DicAt.there {H : Hp} {a : Addr} {t : Bool} {ks : List DK} {vs : List V} (h : DicAt H a t ks vs) : H a ≠ none := by
  cases t with
  | false => obtain ⟨kv, h, e⟩ := h; rw [h]; simp
  | true => obtain ⟨kv, h, e⟩ := h; rw [h]; simp
theorem LkAt.there {H : Hp} {a : Addr} {t : Bool} {ks : List DK} {vs : List V} (h : LkAt H a t ks vs) : H a ≠ none := by
  cases t with
  | false => obtain ⟨o, kv, h, e⟩ := h; rw [h]; simp
  | true => obtain ⟨o, kv, h, e⟩ := h; rw [h]; simp
theorem InsAt.keep {H H' : Hp} {a : Addr} {c : Str} {ns : List Str} {vs : List V} (k : ∀ u, H a = some u → H' a = some u) (h : InsAt mg H a c ns vs) : InsAt mg H' a c ns vs := by
  obtain ⟨C, dx, fs, e, h, e2⟩ := h
  exact ⟨C, dx, fs, e, k _ h, e2⟩
theorem Rl.gk (r : Rl K mg w M) (l : Le0 w w') {a : Addr} (g : w.G a) : ∀ u, w.H a = some u → w'.H a = some u := fun u => l.keep a u (r.dj a g)
theorem TupAt.le (l : Le0 w w') {a : Addr} {vs : List V} (h : TupAt w.H a vs) : TupAt w'.H a vs := l.tup a vs h
theorem LstAt.le (r : Rl K mg w M) (l : Le0 w w') {a : Addr} {vs : List V} (h : LstAt w a vs) : LstAt w' a vs := ⟨l.g a h.1, r.gk l h.1 _ h.2⟩
theorem ScrAt.le (r : Rl K mg w M) (l : Le0 w w') {a : Addr} {vs : List V} (h : ScrAt K w a vs) : ScrAt K w' a vs := by
  rcases h with ⟨g, h⟩ | h
  · exact .inl ⟨l.g a g, rd_keep (r.gk l g) h⟩
  · exact .inr h
theorem Rl.rd (r : Rl K mg w M) (l : Le0 w w') {d : D} {v : V} (h : RD K mg w v d) : RD K mg w' v d :=
  RD.imp (fun _ _ q => q.le l) (fun _ _ q => q.le r l) (fun _ _ q => q.le r l) (fun a _ _ _ g q => ⟨l.g a g, q.elim (fun q => .inl (q.keep (r.gk l g))) fun q => .inr (q.keep (r.gk l g))⟩) (fun a _ _ _ g q => ⟨l.g a g, q.keep (r.gk l g)⟩) l.b d v h
theorem Rl.rds (r : Rl K mg w M) (l : Le0 w w') {ds : List D} {vs : List V} (h : RDs K mg w vs ds) : RDs K mg w' vs ds :=
  RDs.imp (fun _ _ q => q.le l) (fun _ _ q => q.le r l) (fun _ _ q => q.le r l) (fun a _ _ _ g q => ⟨l.g a g, q.elim (fun q => .inl (q.keep (r.gk l g))) fun q => .inr (q.keep (r.gk l g))⟩) (fun a _ _ _ g q => ⟨l.g a g, q.keep (r.gk l g)⟩) l.b ds vs h
theorem Rl.re (r : Rl K mg w M) (l : Le0 w w') {σ : L2.St} {e : En} (h : RE K mg w σ e) : RE K mg w' σ e := by
  induction h with
  | nil => exact .nil
  | no _ ih => exact .no ih
  | yes q _ ih => exact .yes (r.rd l q) ih
/-- an object that is kept -/
theorem Rl.ro (r : Rl K mg w M) (l : Le0 w w') {a : Addr} {o : O} (k : ∀ u, w.H a = some u → w'.H a = some u) (h : RO K mg w a o) : RO K mg w' a o := by
  cases o with
  | lst ds => obtain ⟨vs, h, q⟩ := h; exact ⟨vs, k _ h, r.rds l q⟩
  | dic t kvs => obtain ⟨vs, h, q⟩ := h; exact ⟨vs, h.keep k, r.rds l q⟩
  | lkd t kvs => obtain ⟨vs, h, q⟩ := h; exact ⟨vs, h.keep k, r.rds l q⟩
  | ins c fs => obtain ⟨vs, h, q⟩ := h; exact ⟨vs, h.keep k, r.rds l q⟩
theorem RO.there {a : Addr} {o : O} (h : RO K mg w a o) : w.H a ≠ none := by
  cases o with
  | lst ds => obtain ⟨vs, h, q⟩ := h; rw [h]; simp
  | dic t kvs => obtain ⟨vs, h, q⟩ := h; exact h.there
  | lkd t kvs => obtain ⟨vs, h, q⟩ := h; exact h.there
  | ins c fs => obtain ⟨vs, ⟨_, _, _, _, h, _⟩, q⟩ := h; rw [h]; simp

/-- the object, as a datum that stands still -/
theorem RO.fz {a : Addr} {o : O} (h : RO K mg w a o) (g : w.G a) : RD K mg w (.ref a) o.fz := by
  cases o with
  | lst ds => obtain ⟨vs, h, q⟩ := h; simp only [O.fz, RD]; exact ⟨a, vs, rfl, ⟨g, h⟩, q⟩
  | dic t kvs => obtain ⟨vs, h, q⟩ := h; simp only [O.fz, RD]; exact ⟨a, vs, rfl, g, .inl h, q⟩
  | lkd t kvs => obtain ⟨vs, h, q⟩ := h; simp only [O.fz, RD]; exact ⟨a, vs, rfl, g, .inr h, q⟩
  | ins c fs => obtain ⟨vs, h, q⟩ := h; simp only [O.fz, RD]; exact ⟨a, vs, rfl, g, h, q⟩

def Wo.frz (w : Wo) (a : Addr) : Wo := { w with G := fun b => w.G b ∨ b = a }
theorem Wo.frz_le (a : Addr) : Le0 w (w.frz a) := ⟨fun _ _ _ h => h, fun _ _ h => h, fun _ h => .inl h, fun _ _ h => h, fun _ h => .inl h⟩
theorem Le.frz (l : Le w0 w) {a : Addr} (h : w0.H a = none) : Le w0 (w.frz a) := ⟨⟨l.keep, l.tup, fun b g => .inl (l.g b g), l.b, l.nb⟩, fun b g => g.elim (l.ng b) fun e => .inr (.inl (by rw [e]; exact h)), l.fr⟩
theorem Rl.frz (r : Rl K mg w M) {a : Addr} (hb : a ∉ w.β) (ht : w.H a ≠ none) : Rl K mg (w.frz a) M := by
  refine ⟨r.nd, r.len, fun b g => ?_, fun b g => ?_, fun n b o h1 h2 => r.ro (Wo.frz_le a) (fun _ h => h) (r.ob n b o h1 h2)⟩
  · rcases g with g | g
    · exact r.dj b g
    · rw [g]; exact hb
  · rcases g with g | g
    · exact r.tr b g
    · rw [g]; exact ht
def Wo.adopt (w : Wo) (a : Addr) : Wo := { w with β := w.β ++ [a] }
theorem app_get {α : Type} {l : List α} {x : α} {n : Nat} {y : α} (h : (l ++ [x])[n]? = some y) : l[n]? = some y ∨ (n = l.length ∧ y = x) := by
  by_cases hn : n < l.length
  · rw [List.getElem?_append_left hn] at h; exact .inl h
  · rw [List.getElem?_append_right (by omega)] at h
    cases q : n - l.length with
    | zero => rw [q] at h; simp at h; exact .inr ⟨by omega, h.symm⟩
    | succ m => rw [q] at h; simp at h
/-- the worlds' step where a, new since w0, joins the memory -/
theorem Le.adopt (l : Le w0 w) {a : Addr} (h : w0.H a = none) : Le w0 (w.adopt a) := by
  refine ⟨⟨l.keep, l.tup, l.g, fun n b e => ?_, fun b hb => ?_⟩, l.ng, l.fr⟩
  · have := l.b n b e
    show (w.β ++ [a])[n]? = some b
    rw [List.getElem?_append_left (List.getElem?_eq_some_iff.mp this).1]
    exact this
  · rcases List.mem_append.mp hb with z | z
    · exact l.nb b z
    · rw [List.mem_singleton.mp z]; exact .inr h
theorem Rl.adopt (r : Rl K mg w M) {a : Addr} {o : O} (ho : RO K mg w a o) (hg : ¬ w.G a) (hb : a ∉ w.β) : Rl K mg (w.adopt a) (M ++ [o]) ∧ (∀ (d : D) (v : V), RD K mg w v d → RD K mg (w.adopt a) v d) := by
  have bb : ∀ (n : Nat) b, w.β[n]? = some b → (w.adopt a).β[n]? = some b := fun n b e => by
    show (w.β ++ [a])[n]? = some b
    rw [List.getElem?_append_left (List.getElem?_eq_some_iff.mp e).1]
    exact e
  have P : ∀ (d : D) (v : V), RD K mg w v d → RD K mg (w.adopt a) v d := RD.imp (fun _ _ h => h) (fun _ _ h => h) (fun _ _ h => h) (fun _ _ _ _ g h => ⟨g, h⟩) (fun _ _ _ _ g h => ⟨g, h⟩) bb
  have Ps : ∀ (d : List D) (v : List V), RDs K mg w v d → RDs K mg (w.adopt a) v d := RDs.imp (fun _ _ h => h) (fun _ _ h => h) (fun _ _ h => h) (fun _ _ _ _ g h => ⟨g, h⟩) (fun _ _ _ _ g h => ⟨g, h⟩) bb
  have PO : ∀ (b : Addr) (u : O), RO K mg w b u → RO K mg (w.adopt a) b u := fun b u h => by
    cases u with
    | lst ds => obtain ⟨vs, h, q⟩ := h; exact ⟨vs, h, Ps _ _ q⟩
    | dic t kvs => obtain ⟨vs, h, q⟩ := h; exact ⟨vs, h, Ps _ _ q⟩
    | lkd t kvs => obtain ⟨vs, h, q⟩ := h; exact ⟨vs, h, Ps _ _ q⟩
    | ins c fs => obtain ⟨vs, h, q⟩ := h; exact ⟨vs, h, Ps _ _ q⟩
  refine ⟨⟨?_, ?_, fun b g hm => ?_, r.tr, fun n b u h1 h2 => ?_⟩, P⟩
  · exact List.nodup_append.mpr ⟨r.nd, by simp, fun x hx y hy e => hb (by rw [List.mem_singleton.mp hy] at e; rw [← e]; exact hx)⟩
  · show (w.β ++ [a]).length = (M ++ [o]).length
    simp [r.len]
  · rcases List.mem_append.mp hm with z | z
    · exact r.dj b g z
    · rw [List.mem_singleton.mp z] at g; exact hg g
  · rcases app_get h1 with h1 | ⟨e1, e2⟩
    · have hn := (List.getElem?_eq_some_iff.mp h1).1
      rw [List.getElem?_append_left (by rw [← r.len]; exact hn)] at h2
      exact PO b u (r.ob n b u h1 h2)
    · subst e2
      rw [e1, r.len] at h2
      simp at h2
      subst h2
      exact PO _ _ ho

theorem RR.of {v : V} {d : D} (h : RD K mg w v d) : RR K mg w0 w v (.v d) := h
theorem RR.d {v : V} {d : D} (h : RR K mg w0 w v (.v d)) : RD K mg w v d := h
/-- a result as a datum that stands still -/
theorem RR.fz {v : V} {q : R} (r : Rl K mg w M) (l : Le w0 w) (h : RR K mg w0 w v q) : ∃ w', Le w0 w' ∧ w'.H = w.H ∧ w'.β = w.β ∧ Rl K mg w' M ∧ RD K mg w' v q.fz ∧ Le0 w w' := by
  cases q with
  | v d => exact ⟨w, l, rfl, rfl, r, h, (Le.refl w).toLe0⟩
  | n o =>
    obtain ⟨a, rfl, ho, hg, hb, h0⟩ := h
    exact ⟨w.frz a, l.frz h0, rfl, rfl, r.frz hb ho.there, (r.ro (Wo.frz_le a) (fun _ h => h) ho).fz (.inr rfl), Wo.frz_le a⟩
/-- a result laid into the memory -/
theorem RR.al {v : V} {q : R} (r : Rl K mg w M) (l : Le w0 w) (h : RR K mg w0 w v q) : ∃ w', Le w0 w' ∧ w'.H = w.H ∧ Rl K mg w' (q.al M).2 ∧ RD K mg w' v (q.al M).1 ∧ (∀ (d : D) (x : V), RD K mg w x d → RD K mg w' x d) := by
  cases q with
  | v d => exact ⟨w, l, rfl, r, h, fun _ _ h => h⟩
  | n o =>
    obtain ⟨a, rfl, ho, hg, hb, h0⟩ := h
    obtain ⟨r', P⟩ := r.adopt ho hg hb
    refine ⟨w.adopt a, l.adopt h0, rfl, r', ?_, P⟩
    show RD K mg (w.adopt a) (.ref a) (.ref M.length)
    simp only [RD]
    refine ⟨a, rfl, ?_⟩
    show (w.β ++ [a])[M.length]? = some a
    rw [← r.len]; simp
end

section
variable {K : PySem.W.Frag} {mg : Str → Option Value} {w w' w0 w1 : Wo} {M : Mem} {vs : List V} {ds : List D}
theorem RDs.length : ∀ {vs : List V} {ds : List D}, RDs K mg w vs ds → vs.length = ds.length
  | [], [], _ => rfl
  | [], _ :: _, h => by simp only [RDs] at h
  | _ :: _, [], h => by simp only [RDs] at h
  | _ :: _, _ :: _, h => by
    simp only [RDs] at h
    rw [List.length_cons, List.length_cons, RDs.length h.2]
theorem RDs.nil : RDs K mg w [] [] := by simp only [RDs]
theorem RDs.cons {v : V} {d : D} (h : RD K mg w v d) (t : RDs K mg w vs ds) : RDs K mg w (v :: vs) (d :: ds) := by simp only [RDs]; exact ⟨h, t⟩
theorem RDs.head {v : V} {d : D} (h : RDs K mg w (v :: vs) (d :: ds)) : RD K mg w v d := by simp only [RDs] at h; exact h.1
theorem RDs.tail {v : V} {d : D} (h : RDs K mg w (v :: vs) (d :: ds)) : RDs K mg w vs ds := by simp only [RDs] at h; exact h.2
theorem RDs.get : ∀ {vs : List V} {ds : List D} {i : Nat} {d : D}, RDs K mg w vs ds → ds[i]? = some d → ∃ v, vs[i]? = some v ∧ RD K mg w v d
  | [], [], _, _, _, e => by simp at e
  | [], _ :: _, _, _, h, _ => by simp only [RDs] at h
  | _ :: _, [], _, _, h, _ => by simp only [RDs] at h
  | v :: _, d :: _, 0, _, h, e => by
    simp at e; subst e
    exact ⟨v, rfl, h.head⟩
  | _ :: _, _ :: _, i + 1, x, h, e => by
    obtain ⟨v, h1, h2⟩ := RDs.get (i := i) h.tail (by simpa using e)
    exact ⟨v, by simpa using h1, h2⟩
theorem RDs.getV : ∀ {vs : List V} {ds : List D} {i : Nat} {v : V}, RDs K mg w vs ds → vs[i]? = some v → ∃ d, ds[i]? = some d ∧ RD K mg w v d
  | [], [], _, _, _, e => by simp at e
  | [], _ :: _, _, _, h, _ => by simp only [RDs] at h
  | _ :: _, [], _, _, h, _ => by simp only [RDs] at h
  | v :: _, d :: _, 0, _, h, e => by
    simp at e; subst e
    exact ⟨d, rfl, h.head⟩
  | _ :: _, _ :: _, i + 1, x, h, e => by
    obtain ⟨v, h1, h2⟩ := RDs.getV (i := i) h.tail (by simpa using e)
    exact ⟨v, by simpa using h1, h2⟩
theorem RDs.app : ∀ {vs us : List V} {ds es : List D}, RDs K mg w vs ds → RDs K mg w us es → RDs K mg w (vs ++ us) (ds ++ es)
  | [], _, [], _, _, t => t
  | [], _, _ :: _, _, h, _ => by simp only [RDs] at h
  | _ :: _, _, [], _, h, _ => by simp only [RDs] at h
  | _ :: _, _, _ :: _, _, h, t => .cons h.head (RDs.app h.tail t)
theorem RDs.set : ∀ {vs : List V} {ds : List D} {i : Nat} {v : V} {d : D}, RDs K mg w vs ds → RD K mg w v d → RDs K mg w (vs.set i v) (ds.set i d)
  | [], [], _, _, _, h, _ => h
  | [], _ :: _, _, _, _, h, _ => by simp only [RDs] at h
  | _ :: _, [], _, _, _, h, _ => by simp only [RDs] at h
  | _ :: _, _ :: _, 0, _, _, h, q => .cons q h.tail
  | _ :: _, _ :: _, i + 1, _, _, h, q => .cons h.head (RDs.set h.tail q)
theorem RDs.take : ∀ {vs : List V} {ds : List D} (n : Nat), RDs K mg w vs ds → RDs K mg w (vs.take n) (ds.take n)
  | _, _, 0, _ => .nil
  | [], [], _ + 1, h => h
  | [], _ :: _, _, h => by simp only [RDs] at h
  | _ :: _, [], _, h => by simp only [RDs] at h
  | _ :: _, _ :: _, n + 1, h => .cons h.head (RDs.take n h.tail)
theorem RDs.drop : ∀ {vs : List V} {ds : List D} (n : Nat), RDs K mg w vs ds → RDs K mg w (vs.drop n) (ds.drop n)
  | _, _, 0, h => h
  | [], [], _ + 1, h => h
  | [], _ :: _, _, h => by simp only [RDs] at h
  | _ :: _, [], _, h => by simp only [RDs] at h
  | _ :: _, _ :: _, n + 1, h => RDs.drop n h.tail
theorem RDs.rev : ∀ {vs : List V} {ds : List D}, RDs K mg w vs ds → RDs K mg w vs.reverse ds.reverse
  | [], [], h => h
  | [], _ :: _, h => by simp only [RDs] at h
  | _ :: _, [], h => by simp only [RDs] at h
  | _ :: _, _ :: _, h => by
    rw [List.reverse_cons, List.reverse_cons]
    exact (RDs.rev h.tail).app (.cons h.head .nil)
theorem RE.get {σ : L2.St} {e : En} (h : RE K mg w σ e) : ∀ {i : Nat} {d : D}, e[i]? = some (some d) → ∃ v, σ[i]? = some (some v) ∧ RD K mg w v d := by
  induction h with
  | nil => intro i d z; simp at z
  | no _ ih =>
    intro i d z
    cases i with
    | zero => simp at z
    | succ i => simpa using ih (i := i) (by simpa using z)
  | yes q _ ih =>
    intro i d z
    cases i with
    | zero => simp at z; subst z; exact ⟨_, rfl, q⟩
    | succ i => simpa using ih (i := i) (by simpa using z)
theorem RE.set {σ : L2.St} {e : En} (h : RE K mg w σ e) : ∀ {i : Nat} {v : V} {d : D}, RD K mg w v d → RE K mg w (σ.set i (some v)) (e.set i (some d)) := by
  induction h with
  | nil => intro i v d q; exact .nil
  | no h ih =>
    intro i v d q
    cases i with
    | zero => exact .yes q h
    | succ i => exact .no (ih q)
  | yes h' h ih =>
    intro i v d q
    cases i with
    | zero => exact .yes q h
    | succ i => exact .yes h' (ih q)
theorem RE.unset {σ : L2.St} {e : En} (h : RE K mg w σ e) : ∀ {i : Nat}, RE K mg w (σ.set i none) (e.set i none) := by
  induction h with
  | nil => intro i; exact .nil
  | no h ih =>
    intro i
    cases i with
    | zero => exact .no h
    | succ i => exact .no ih
  | yes h' h ih =>
    intro i
    cases i with
    | zero => exact .no h
    | succ i => exact .yes h' ih
theorem RE.length {σ : L2.St} {e : En} (h : RE K mg w σ e) : σ.length = e.length := by
  induction h with
  | nil => rfl
  | no _ ih => rw [List.length_cons, List.length_cons, ih]
  | yes _ _ ih => rw [List.length_cons, List.length_cons, ih]
end

section
variable {K : PySem.W.Frag} {mg : Str → Option Value} {w w' w0 w1 : Wo} {M : Mem}
/-- every address of the memory is tracked -/
theorem Rl.bt (r : Rl K mg w M) {a : Addr} (h : a ∈ w.β) : w.H a ≠ none := by
  obtain ⟨n, e⟩ := List.mem_iff_getElem?.mp h
  have hn := (List.getElem?_eq_some_iff.mp e).1
  rw [r.len] at hn
  exact (r.ob n a M[n] e (List.getElem?_eq_getElem hn)).there
theorem Rl.newb (r : Rl K mg w M) {p : Addr} (h : w.H p = none) : p ∉ w.β := fun z => r.bt z h
theorem Rl.newg (r : Rl K mg w M) {p : Addr} (h : w.H p = none) : ¬ w.G p := fun z => r.tr p z h
def Wo.lay (w : Wo) (p : Addr) (o : HO) : Wo := { w with H := upd w.H p o }
theorem Le.lay {p : Addr} {o : HO} (h : w.H p = none) : Le w (w.lay p o) :=
  ⟨⟨fun a u _ e => by show upd w.H p o a = _; rw [upd_ne (ne_of_none e h)]; exact e, fun a vs e => by show upd w.H p o a = _; rw [upd_ne (ne_of_none e h)]; exact e, fun _ g => g, fun _ _ e => e, fun _ z => .inl z⟩, fun _ g => .inl g, fun a o u e => by show upd w.H p _ a = _; rw [upd_ne (ne_of_none e h)]; exact e⟩
theorem Rl.lay (r : Rl K mg w M) {p : Addr} {o : HO} (h : w.H p = none) : Rl K mg (w.lay p o) M := by
  have k : ∀ a u, w.H a = some u → (w.lay p o).H a = some u := fun a u e => by show upd w.H p o a = _; rw [upd_ne (ne_of_none e h)]; exact e
  refine ⟨r.nd, r.len, r.dj, fun a g => ?_, fun n a u h1 h2 => r.ro (Le.lay h).toLe0 (k a) (r.ob n a u h1 h2)⟩
  cases q : w.H a with
  | none => exact absurd q (r.tr a g)
  | some u => rw [k a u q]; simp
theorem Wo.lay_at {p : Addr} {o : HO} : (w.lay p o).H p = some o := upd_same
/-- a new list -/
theorem RR.lst (r : Rl K mg w M) (l : Le w0 w) {p : Addr} {vs : List V} {ds : List D} (h : w.H p = none) (q : RDs K mg w vs ds) : RR K mg w0 (w.lay p (.lst vs)) (.ref p) (.n (.lst ds)) :=
  ⟨p, rfl, ⟨vs, Wo.lay_at, r.rds (Le.lay h).toLe0 q⟩, r.newg h, r.newb h, l.fresh h (fun z => r.newb h (l.mem z))⟩
/-- a new tuple -/
theorem RD.tupNew (r : Rl K mg w M) {p : Addr} {vs : List V} {ds : List D} (h : w.H p = none) (q : RDs K mg w vs ds) : RD K mg (w.lay p (.tup vs)) (.ref p) (.tup ds) := by
  simp only [RD]
  exact ⟨p, vs, rfl, Wo.lay_at, r.rds (Le.lay h).toLe0 q⟩

theorem TupAt.sq {H : Hp} {a : Addr} {vs : List V} (h : TupAt H a vs) : SqT K H a vs := .inl (.inl h)
theorem ScrAt.sq {a : Addr} {vs : List V} (h : ScrAt K w a vs) : SqL K w.H a vs := by
  rcases h with ⟨_, h⟩ | h
  · exact .inl h
  · exact .inr h
theorem RD.tup {v : V} {ds : List D} (h : RD K mg w v (.tup ds)) : ∃ a vs, v = .ref a ∧ SqT K w.H a vs ∧ RDs K mg w vs ds := by
  simp only [RD] at h
  obtain ⟨a, vs, e, h, q⟩ := h
  exact ⟨a, vs, e, h.sq, q⟩
theorem RD.int {v : V} {i : Int} (h : RD K mg w v (.int i)) : v = .int i := by simpa only [RD] using h
theorem RD.str {v : V} {x : Str} (h : RD K mg w v (.str x)) : v = .str x := by simpa only [RD] using h
theorem RD.bl {v : V} {b : Bool} (h : RD K mg w v (.bl b)) : v = .bl b := by simpa only [RD] using h
theorem RD.non {v : V} (h : RD K mg w v .non) : v = .non := by simpa only [RD] using h
theorem RD.mkInt {i : Int} : RD K mg w (.int i) (.int i) := by simp only [RD]
theorem RD.mkStr {x : Str} : RD K mg w (.str x) (.str x) := by simp only [RD]
theorem RD.mkBl {b : Bool} : RD K mg w (.bl b) (.bl b) := by simp only [RD]
theorem RD.mkNon : RD K mg w .non .non := by simp only [RD]

/-- a list's items -/
def asL (M : Mem) : D → Option (List D)
  | .lst xs => some xs
  | .ref n => match M[n]? with
    | some (.lst xs) => some xs
    | _ => none
  | _ => none
theorem Rl.asL (r : Rl K mg w M) {v : V} {d : D} {xs : List D} (h : RD K mg w v d) (e : asL M d = some xs) : ∃ a vs, v = .ref a ∧ w.H a = some (.lst vs) ∧ RDs K mg w vs xs := by
  unfold Fl.asL at e
  split at e
  · cases e
    simp only [RD] at h
    obtain ⟨a, vs, e, h, q⟩ := h
    exact ⟨a, vs, e, h.2, q⟩
  · rename_i n
    simp only [RD] at h
    obtain ⟨a, rfl, h⟩ := h
    split at e
    · rename_i ys hy
      cases e
      obtain ⟨vs, h1, h2⟩ := r.ob n a _ h hy
      exact ⟨a, vs, rfl, h1, h2⟩
    · cases e
  · cases e
/-- a sequence's items: a list, the script, a tuple -/
def asS (M : Mem) : D → Option (List D)
  | .tup xs => some xs
  | .ktp xs => some xs
  | .scr xs => some (xs.map D.int)
  | d => asL M d
theorem RDs.ints {xs : List Int} : RDs K mg w (xs.map V.int) (xs.map D.int) := by
  induction xs with
  | nil => exact .nil
  | cons x r ih => exact .cons .mkInt ih
theorem Rl.asS (r : Rl K mg w M) {v : V} {d : D} {xs : List D} (h : RD K mg w v d) (e : asS M d = some xs) : ∃ a vs, v = .ref a ∧ (SqL K w.H a vs ∨ SqT K w.H a vs) ∧ RDs K mg w vs xs := by
  unfold Fl.asS at e
  split at e
  · cases e
    obtain ⟨a, vs, e, h, q⟩ := h.tup
    exact ⟨a, vs, e, .inr h, q⟩
  · cases e
    simp only [RD] at h
    obtain ⟨a, vs, e, h, q⟩ := h
    exact ⟨a, vs, e, .inr (.inr h), q⟩
  · cases e
    simp only [RD] at h
    obtain ⟨a, e, h⟩ := h
    exact ⟨a, _, e, .inl h.sq, .ints⟩
  · obtain ⟨a, vs, e, h, q⟩ := r.asL h e
    exact ⟨a, vs, e, .inl (.of h), q⟩
/-- a list's items, the script's too -/
def asLs (M : Mem) : D → Option (List D)
  | .scr xs => some (xs.map D.int)
  | d => asL M d
theorem Rl.asLs (r : Rl K mg w M) {v : V} {d : D} {xs : List D} (h : RD K mg w v d) (e : asLs M d = some xs) : ∃ a vs, v = .ref a ∧ SqL K w.H a vs ∧ RDs K mg w vs xs := by
  unfold Fl.asLs at e
  split at e
  · cases e
    simp only [RD] at h
    obtain ⟨a, e, h⟩ := h
    exact ⟨a, _, e, h.sq, .ints⟩
  · obtain ⟨a, vs, e, h, q⟩ := r.asL h e
    exact ⟨a, vs, e, .of h, q⟩
/-- a dict's keys and values -/
def asD (M : Mem) : D → Option (Bool × List (DK × D))
  | .dic t ks vs => some (t, ks.zip vs)
  | .ref n => match M[n]? with
    | some (.dic t kvs) => some (t, kvs)
    | some (.lkd t kvs) => some (t, kvs)
    | _ => none
  | _ => none
theorem DicAt.len {H : Hp} {a : Addr} {t : Bool} {ks : List DK} {vs : List V} (h : DicAt H a t ks vs) : ks.length = vs.length := by
  cases t with
  | false => obtain ⟨kv, _, rfl, rfl⟩ := h; simp
  | true => obtain ⟨kv, _, rfl, rfl⟩ := h; simp
theorem LkAt.len {H : Hp} {a : Addr} {t : Bool} {ks : List DK} {vs : List V} (h : LkAt H a t ks vs) : ks.length = vs.length := by
  cases t with
  | false => obtain ⟨_, kv, _, rfl, rfl⟩ := h; simp
  | true => obtain ⟨_, kv, _, rfl, rfl⟩ := h; simp
theorem Rl.asD (r : Rl K mg w M) {v : V} {d : D} {p : Bool × List (DK × D)} (h : RD K mg w v d) (e : asD M d = some p) : ∃ a vs, v = .ref a ∧ (DicAt w.H a p.1 (p.2.map (·.1)) vs ∨ LkAt w.H a p.1 (p.2.map (·.1)) vs) ∧ RDs K mg w vs (p.2.map (·.2)) := by
  unfold Fl.asD at e
  split at e
  · rename_i t ks ds
    cases e
    simp only [RD] at h
    obtain ⟨a, vs, e, _, h, q⟩ := h
    have z1 : ks.length = vs.length := h.elim (fun h => h.len) fun h => h.len
    have z2 := q.length
    refine ⟨a, vs, e, ?_, ?_⟩
    · dsimp only
      rw [List.map_fst_zip (by omega)]
      exact h
    · dsimp only
      rw [List.map_snd_zip (by omega)]
      exact q
  · rename_i n
    simp only [RD] at h
    obtain ⟨a, rfl, h⟩ := h
    split at e
    · rename_i t ys hy
      cases e
      obtain ⟨vs, h1, h2⟩ := r.ob n a _ h hy
      exact ⟨a, vs, rfl, .inl h1, h2⟩
    · rename_i t ys hy
      cases e
      obtain ⟨vs, h1, h2⟩ := r.ob n a _ h hy
      exact ⟨a, vs, rfl, .inr h1, h2⟩
    · cases e
  · cases e
/-- an instance's class and fields -/
def asI (M : Mem) : D → Option (Str × List (Str × D))
  | .ins c ns vs => some (c, ns.zip vs)
  | .ref n => match M[n]? with
    | some (.ins c fs) => some (c, fs)
    | _ => none
  | _ => none
theorem fields_at : ∀ {fs : List (Str × V)} {gs : List (Str × D)} {f : Str} {d : D}, fs.map (·.1) = gs.map (·.1) → RDs K mg w (fs.map (·.2)) (gs.map (·.2)) → gs.lookup f = some d → ∃ v, fs.lookup f = some v ∧ RD K mg w v d
  | [], [], _, _, _, _, e => by simp at e
  | [], _ :: _, _, _, h, _, _ => by simp at h
  | _ :: _, [], _, _, h, _, _ => by simp at h
  | (x, v) :: fs, (y, d) :: gs, f, z, h, q, e => by
    simp only [List.map_cons, List.cons.injEq] at h
    obtain ⟨rfl, h⟩ := h
    rw [List.lookup_cons] at e ⊢
    cases c : f == x with
    | true => rw [c] at e; cases e; exact ⟨v, rfl, q.head⟩
    | false => rw [c] at e; exact fields_at h q.tail e
theorem Rl.asI (r : Rl K mg w M) {v : V} {d : D} {c : Str} {gs : List (Str × D)} (h : RD K mg w v d) (e : asI M d = some (c, gs)) : ∃ a C dx fs, v = .ref a ∧ mg c = some (.ref C) ∧ w.H a = some (.ins C dx fs) ∧ fs.map (·.1) = gs.map (·.1) ∧ RDs K mg w (fs.map (·.2)) (gs.map (·.2)) := by
  unfold Fl.asI at e
  split at e
  · rename_i c' ns vs
    cases e
    simp only [RD] at h
    obtain ⟨a, us, e, _, ⟨C, dx, fs, h1, h2, h3, h4⟩, q⟩ := h
    have l1 : ns.length = vs.length := by rw [h3, List.length_map, ← q.length, h4, List.length_map]
    refine ⟨a, C, dx, fs, e, h1, h2, ?_, ?_⟩
    · rw [List.map_fst_zip (by omega), h3]
    · rw [List.map_snd_zip (by omega), ← h4]; exact q
  · rename_i n
    simp only [RD] at h
    obtain ⟨a, rfl, h⟩ := h
    split at e
    · rename_i c' ys hy
      cases e
      obtain ⟨vs, ⟨C, dx, fs, h1, h2, h3, h4⟩, h5⟩ := r.ob n a _ h hy
      exact ⟨a, C, dx, fs, rfl, h1, h2, h3.symm, by rw [← h4]; exact h5⟩
    · cases e
  · cases e
end
end Fl
set_option Elab.async false
set_option linter.all false
set_option maxRecDepth 100000
/-! Fl2: expressions as functions of names' values and the memory. -/
namespace L2
open PySem PySem.Spec PyProof.Rows
variable {X : Cx} {e : Expr}
theorem PE.imp {t t' : TE} (h : PE X e t) (k : ∀ σ H Q, t' σ H Q → t σ H Q) : PE X e t' := ⟨fun pins s σ H Q I q => h.run pins s σ H Q I (k σ H Q q)⟩
theorem PT.imp {t t' : TT} (h : PT X e t) (k : ∀ σ H Q, t' σ H Q → t σ H Q) : PT X e t' := ⟨fun pins s σ H Q I q => h.run pins s σ H Q I (k σ H Q q)⟩
theorem PW.imp {t t' : TT} (h : PW X e t) (k : ∀ σ H Q, t' σ H Q → t σ H Q) : PW X e t' := ⟨fun whole pins s σ H Q I q => h.run whole pins s σ H Q I (k σ H Q q)⟩
theorem PA.imp {es : List Expr} {t t' : TA} (h : PA X es t) (k : ∀ σ H Q, t' σ H Q → t σ H Q) : PA X es t' := ⟨fun pos pins s σ H Q I q => h.run pos pins s σ H Q I (k σ H Q q)⟩
theorem PS.imp {st : Stmt} {t t' : TS} (h : PS X st t) (k : ∀ D σ H, t' D σ H → t D σ H) : PS X st t' := ⟨fun pins s σ H D I q => h.run pins s σ H D I (k D σ H q)⟩
theorem PSs.imp {st : List Stmt} {t t' : TS} (h : PSs X st t) (k : ∀ D σ H, t' D σ H → t D σ H) : PSs X st t' := ⟨fun pins s σ H D I q => h.run pins s σ H D I (k D σ H q)⟩
theorem PG.imp {t t' : TG} (h : PG X e t) (k : ∀ v σ H Q, t' v σ H Q → t v σ H Q) : PG X e t' := ⟨fun pins s σ H v u Q I r q => h.run pins s σ H v u Q I r (k v σ H Q q)⟩
end L2

namespace Fl
open PySem PySem.Spec PyProof.Rows L2

abbrev FE := En → Mem → Option (R × Mem)
abbrev FT := En → Mem → Option (Bool × Mem)
abbrev FA := En → Mem → Option (List D × Mem)

section
variable (K : PySem.W.Frag) (mg : Str → Option Value)
def tI (f : FE) : TE := fun σ H Q => ∃ w env M r M', w.H = H ∧ Rl K mg w M ∧ RE K mg w σ env ∧ f env M = some (r, M') ∧ ∀ v w', Le w w' → Rl K mg w' M' → RR K mg w w' v r → Q v w'.H
def tQ (f : FT) : TT := fun σ H Q => ∃ w env M b M', w.H = H ∧ Rl K mg w M ∧ RE K mg w σ env ∧ f env M = some (b, M') ∧ ∀ w', Le w w' → Rl K mg w' M' → Q b w'.H
def tIA (f : FA) : TA := fun σ H Q => ∃ w env M ds M', w.H = H ∧ Rl K mg w M ∧ RE K mg w σ env ∧ f env M = some (ds, M') ∧ ∀ vs w', Le w w' → Rl K mg w' M' → RDs K mg w' vs ds → Q vs w'.H
end
abbrev SE (X : Cx) (e : Expr) (f : FE) : Prop := PE X e (tI X.K X.mg f)
abbrev SQ (X : Cx) (e : Expr) (f : FT) : Prop := PT X e (tQ X.K X.mg f)
abbrev SW (X : Cx) (e : Expr) (f : FT) : Prop := PW X e (tQ X.K X.mg f)
abbrev SA (X : Cx) (es : List Expr) (f : FA) : Prop := PA X es (tIA X.K X.mg f)

/-- to run on: an expression's reading from a world -/
theorem tI.mk {K : PySem.W.Frag} {mg : Str → Option Value} {f : FE} {σ : L2.St} {H : Hp} {Q : VK} {w : Wo} {env : En} {M M' : Mem} {r : R} (e : w.H = H) (rl : Rl K mg w M) (re : RE K mg w σ env) (hf : f env M = some (r, M'))
    (h : ∀ v w', Le w w' → Rl K mg w' M' → RR K mg w w' v r → Q v w'.H) : tI K mg f σ H Q := ⟨w, env, M, r, M', e, rl, re, hf, h⟩

section
variable {X : Cx} {e a b c : Expr} {fa fb fc : FE} {pos : Pos}
/-! ### names, constants -/
def fVar (i : Nat) : FE := fun env M => match env[i]? with
  | some (some d) => some (.v d, M)
  | _ => none
def fC (d : D) : FE := fun _ M => some (.v d, M)
theorem sVar (i : Nat) {x : Str} (hN : X.N[i]? = some x := by rfl) (hv : Vis X.env.scope x := by first | exact Or.inl rfl | exact Or.inr (Or.inl rfl) | exact Or.inr (Or.inr rfl)) (hd : (x == ("__debug__" : Str)) = false := by decide)
    (hcd : (x == ("__classdict__" : Str)) = false := by decide) : SE X (.Name x pos) (fVar i) := (pe_var hN hv hd hcd).imp fun σ H Q ⟨w, env, M, r, M', e, rl, re, hf, k⟩ => by
  subst e
  unfold fVar at hf
  split at hf
  · rename_i d hd
    cases hf
    obtain ⟨v, h1, h2⟩ := re.get hd
    exact ⟨v, h1, k v w (Le.refl w) rl h2⟩
  · cases hf
theorem sC {t : V} {d : D} (h : PE X e (tC t)) (hd : ∀ w, RD X.K X.mg w t d) : SE X e (fC d) := h.imp fun σ H Q ⟨w, env, M, r, M', e, rl, re, hf, k⟩ => by
  subst e
  cases hf
  exact k t w (Le.refl w) rl (hd w)
theorem sInt {i : Int} {j : Nat} : SE X (.Constant (.int i) j pos) (fC (.int i)) := sC pe_int fun _ => .mkInt
theorem sBl {i : Bool} {j : Nat} : SE X (.Constant (.bool i) j pos) (fC (.bl i)) := sC pe_bl fun _ => .mkBl
theorem sStr {i : Str} {j : Nat} : SE X (.Constant (.str i) j pos) (fC (.str i)) := sC pe_str fun _ => .mkStr
theorem sNon {j : Nat} : SE X (.Constant .none j pos) (fC .non) := sC pe_non fun _ => .mkNon
/-- a module's constant -/
theorem sGl {x : Str} {v : V} {d : D} {u : Value} (hg : Gl X x) (hm : X.mg x = some u) (r : RelV v u) (hd : ∀ w, RD X.K X.mg w v d) (hdb : (x == ("__debug__" : Str)) = false := by decide) : SE X (.Name x pos) (fC d) := sC (pe_glob hg hm r hdb) hd

/-! ### operators by values -/
def OpS (X : Cx) (f : Value → Value → Sem Value) (g : Mem → D → D → Option R) : Prop :=
  ∀ (pins : List (Addr × Obj)) (s : Shared) (σ : L2.St) (w0 w : Wo) (M : Mem) (x y : V) (v u : Value) (d e : D) (r : R) (Q : VK), Inv X pins σ w.H s → RelV x v → RelV y u → Le w0 w → Rl X.K X.mg w M → RD X.K X.mg w x d → RD X.K X.mg w y e → g M d e = some r →
    (∀ z w', Le w w' → Rl X.K X.mg w' M → RR X.K X.mg w0 w' z r → Q z w'.H) → wpAny (model X.prog X.w) X.A (f v u) (EP X pins σ Q) X.xe s
/-- from a rule of the layer -/
theorem OpS.of {f : Value → Value → Sem Value} {rr : R2} {g : Mem → D → D → Option R} (ho : OpR X f rr)
    (h : ∀ (w0 w : Wo) (M : Mem) (x y : V) (d e : D) (r : R) (Q : VK), Le w0 w → Rl X.K X.mg w M → RD X.K X.mg w x d → RD X.K X.mg w y e → g M d e = some r → (∀ z w', Le w w' → Rl X.K X.mg w' M → RR X.K X.mg w0 w' z r → Q z w'.H) → rr x y w.H Q) : OpS X f g :=
  fun pins s σ w0 w M x y v u d e r Q I rx ry l rl hd he hg k => ho pins s σ w.H x y v u Q I rx ry (h w0 w M x y d e r Q l rl hd he hg k)
theorem OpS.or {f : Value → Value → Sem Value} {g g' : Mem → D → D → Option R} (h : OpS X f g) (h' : OpS X f g') : OpS X f (fun M d e => (g M d e).or (g' M d e)) :=
  fun pins s σ w0 w M x y v u d e r Q I rx ry l rl hd he hg k => by
    dsimp only at hg
    cases q : g M d e with
    | some z => rw [q] at hg; cases hg; exact h pins s σ w0 w M x y v u d e _ Q I rx ry l rl hd he q k
    | none => rw [q] at hg; exact h' pins s σ w0 w M x y v u d e r Q I rx ry l rl hd he hg k
def fBin (g : Mem → D → D → Option R) (fa fb : FE) : FE := fun env M => (fa env M).bind fun p => (fb env p.2).bind fun q => (g q.2 p.1.fz q.1.fz).map fun r => (r, q.2)
/-- the two operands, then what one does with them -/
theorem tI.two {K : PySem.W.Frag} {mg : Str → Option Value} {g : Mem → D → D → Option R} {σ : L2.St} {H : Hp} {Q : VK} (h : tI K mg (fBin g fa fb) σ H Q)  :
    tI K mg fa σ H fun x H1 => tI K mg fb σ H1 fun y H2 => ∃ w0 w M d e r, w.H = H2 ∧ Le w0 w ∧ Rl K mg w M ∧ RD K mg w x d ∧ RD K mg w y e ∧ g M d e = some r ∧ ∀ z w', Le w w' → Rl K mg w' M → RR K mg w0 w' z r → Q z w'.H := by
  obtain ⟨w, env, M, r, M', e, rl, re, hf, k⟩ := h
  unfold fBin at hf
  cases ha : fa env M with
  | none => rw [ha] at hf; cases hf
  | some p =>
    obtain ⟨r1, Ma⟩ := p
    rw [ha] at hf
    cases hb : fb env Ma with
    | none => simp [hb] at hf
    | some q =>
      obtain ⟨r2, Mb⟩ := q
      simp only [Option.bind_some, hb] at hf
      cases hg : g Mb r1.fz r2.fz with
      | none => rw [hg] at hf; cases hf
      | some z =>
        rw [hg] at hf
        cases hf
        refine tI.mk e rl re ha fun x w1 l1 rl1 rr1 => ?_
        obtain ⟨w1', l1', e1, b1, rl1', rd1, _⟩ := rr1.fz rl1 l1
        rw [← e1]
        refine tI.mk rfl rl1' (rl.re l1' re) hb fun y w2 l2 rl2 rr2 => ?_
        obtain ⟨w2', l2', e2, b2, rl2', rd2, _⟩ := rr2.fz rl2 l2
        refine ⟨w, w2', _, _, _, _, e2, l1'.trans l2', rl2', rl1'.rd l2' rd1, rd2, hg, fun z w3 l3 rl3 rr3 => k z w3 ((l1'.trans l2').trans l3) rl3 rr3⟩
theorem sBin {op : Operator} {g : Mem → D → D → Option R} (ho : OpS X (binaryOp op) g) (ha : SE X a fa) (hb : SE X b fb) : SE X (.BinOp a op b pos) (fBin g fa fb) := by
  refine ⟨fun pins s σ H Q I h => ?_⟩
  refine wpAny_BinOp (bin ha hb I h.two fun v u s2 x y H2 I2 rx ry q => ?_)
  obtain ⟨w0, w, M, d, e, r, rfl, l, rl, hd, he, hg, k⟩ := q
  exact ho pins s2 σ w0 w M x y v u d e r Q I2 rx ry l rl hd he hg k
theorem scCmp {op : CmpOp} {g : Mem → D → D → Option R} (ho : OpS X (compareOp op) g) (ha : SE X a fa) (hb : SE X b fb) : PC X op a b (tI X.K X.mg (fBin g fa fb)) := by
  refine ⟨fun pins s σ H Q I h => ?_⟩
  refine bin ha hb I h.two fun v u s2 x y H2 I2 rx ry q => ?_
  obtain ⟨w0, w, M, d, e, r, rfl, l, rl, hd, he, hg, k⟩ := q
  exact ho pins s2 σ w0 w M x y v u d e r Q I2 rx ry l rl hd he hg k
theorem sCmp {op : CmpOp} {g : Mem → D → D → Option R} (ho : OpS X (compareOp op) g) (ha : SE X a fa) (hb : SE X b fb) (hm : behindInMarks op b = false := by first | exact nobehind _ (by decide) (by decide) | rfl) : SE X (.Compare a [op] [b] pos) (fBin g fa fb) := pe_cmp (scCmp ho ha hb) hm

/-! the numbers -/
def gI (g : Int → Int → Option D) : Mem → D → D → Option R := fun _ d e => match d, e with
  | .int i, .int j => (g i j).map R.v
  | _, _ => none
theorem OpS.ints {f : Value → Value → Sem Value} {C : Int → Int → Prop} [∀ i j, Decidable (C i j)] {h : Int → Int → V} {h' : Int → Int → D} (ho : OpR X f (rI C h)) (k : ∀ w i j, RD X.K X.mg w (h i j) (h' i j)) : OpS X f (gI fun i j => if C i j then some (h' i j) else none) :=
  .of ho fun w0 w M x y d e r Q l rl hd he hg q => by
    unfold gI at hg
    split at hg
    · rename_i i j
      dsimp only at hg
      split at hg
      · rename_i hc
        cases hg
        exact ⟨i, j, hd.int, he.int, hc, q _ w (Le.refl w) rl (.of (k w i j))⟩
      · cases hg
    · cases hg
theorem OpS.ints0 {f : Value → Value → Sem Value} {h : Int → Int → V} {h' : Int → Int → D} (ho : OpR X f (rI0 h)) (k : ∀ w i j, RD X.K X.mg w (h i j) (h' i j)) : OpS X f (gI fun i j => some (h' i j)) :=
  .of ho fun w0 w M x y d e r Q l rl hd he hg q => by
    unfold gI at hg
    split at hg
    · rename_i i j
      cases hg
      exact ⟨i, j, hd.int, he.int, q _ w (Le.refl w) rl (.of (k w i j))⟩
    · cases hg
/-- a + b: ints, texts, tuples, lists -/
def gAdd : Mem → D → D → Option R := fun M d e => match d, e with
  | .int i, .int j => some (.v (.int (i + j)))
  | .str x, .str y => if x.length + y.length ≤ sizeLine then some (.v (.str (x ++ y))) else none
  | .tup xs, .tup ys => if xs.length + ys.length ≤ sizeLine then some (.v (.tup (xs ++ ys))) else none
  | d, e => match asL M d, asL M e with
    | some xs, some ys => if xs.length + ys.length ≤ sizeLine then some (.n (.lst (xs ++ ys))) else none
    | _, _ => none
theorem op_Add : OpS X (binaryOp .Add) gAdd := by
  refine .of (op_add.or (op_add_str.or (op_catA.or op_cat))) fun w0 w M x y d e r Q l rl hd he hg q => ?_
  unfold gAdd at hg
  split at hg
  · cases hg
    exact .inl ⟨_, _, hd.int, he.int, q _ w (Le.refl w) rl (.of .mkInt)⟩
  · split at hg
    · rename_i hl
      cases hg
      exact .inr (.inl ⟨_, _, hd.str, he.str, hl, q _ w (Le.refl w) rl (.of .mkStr)⟩)
    · cases hg
  · split at hg
    · rename_i hl
      cases hg
      obtain ⟨a, vs, rfl, h1, q1⟩ := hd.tup
      obtain ⟨b, us, rfl, h2, q2⟩ := he.tup
      have z1 := q1.length
      have z2 := q2.length
      refine .inr (.inr (.inl ⟨a, b, vs, us, rfl, rfl, h1, h2, by omega, fun e => ?_, fun _ e => ?_, fun _ _ p hp => ?_⟩))
      · subst e
        have : _ = ([] : List D) := List.eq_nil_of_length_eq_zero z1.symm
        subst this
        exact q _ w (Le.refl w) rl (.of he)
      · subst e
        have : _ = ([] : List D) := List.eq_nil_of_length_eq_zero z2.symm
        subst this
        rw [List.append_nil] at q
        exact q _ w (Le.refl w) rl (.of hd)
      · exact q _ (w.lay p (.tup (vs ++ us))) (Le.lay hp) (rl.lay hp) (.of (RD.tupNew rl hp (q1.app q2)))
    · cases hg
  · split at hg
    · rename_i xs ys e1 e2
      split at hg
      · rename_i hl
        cases hg
        obtain ⟨a, vs, rfl, h1, q1⟩ := rl.asL hd e1
        obtain ⟨b, us, rfl, h2, q2⟩ := rl.asL he e2
        refine .inr (.inr (.inr ⟨a, b, vs, us, rfl, rfl, h1, h2, by rw [q1.length, q2.length]; exact hl, fun p hp => ?_⟩))
        exact q _ (w.lay p (.lst (vs ++ us))) (Le.lay hp) (rl.lay hp) (RR.lst rl l hp (q1.app q2))
      · cases hg
    · cases hg
def gSub : Mem → D → D → Option R := gI fun i j => some (.int (i - j))
theorem op_Sub : OpS X (binaryOp .Sub) gSub := .ints0 op_sub fun _ _ _ => .mkInt
instance : ∀ i j, Decidable (CMul i j) := fun i j => by unfold CMul; infer_instance
def gMul : Mem → D → D → Option R := gI fun i j => if CMul i j then some (.int (i * j)) else none
theorem op_Mul : OpS X (binaryOp .Mult) gMul := .ints op_mul fun _ _ _ => .mkInt
instance : ∀ i j, Decidable (CDivW i j) := fun i j => by unfold CDivW; infer_instance
def gFdv : Mem → D → D → Option R := gI fun i j => if CDivW i j then some (.int (i / j)) else none
theorem op_Fdv : OpS X (binaryOp .FloorDiv) gFdv := .ints op_fdivW fun _ _ _ => .mkInt
def gMod : Mem → D → D → Option R := gI fun i j => if 0 < j then some (.int (i % j)) else none
theorem op_Mod : OpS X (binaryOp .Mod) gMod := .ints op_mod fun _ _ _ => .mkInt
def gLt : Mem → D → D → Option R := gI fun i j => some (.bl (decide (i < j)))
def gLe : Mem → D → D → Option R := gI fun i j => some (.bl (decide (i ≤ j)))
def gGt : Mem → D → D → Option R := gI fun i j => some (.bl (decide (j < i)))
def gGe : Mem → D → D → Option R := gI fun i j => some (.bl (decide (j ≤ i)))
theorem op_Lt : OpS X (compareOp .Lt) gLt := .ints0 op_lt fun _ _ _ => .mkBl
theorem op_Le : OpS X (compareOp .LtE) gLe := .ints0 op_le fun _ _ _ => .mkBl
theorem op_Gt : OpS X (compareOp .Gt) gGt := .ints0 op_gt fun _ _ _ => .mkBl
theorem op_Ge : OpS X (compareOp .GtE) gGe := .ints0 op_ge fun _ _ _ => .mkBl
/-- is None -/
def gIsN (neg : Bool) : Mem → D → D → Option R := fun _ d e => match e with
  | .non => some (.v (.bl (match d with | .non => !neg | _ => neg)))
  | _ => none
theorem RD.isN {K : PySem.W.Frag} {mg : Str → Option Value} {w : Wo} {v : V} {d : D} (h : RD K mg w v d) : decide (v = .non) = (match d with | .non => true | _ => false) := by
  cases d with
  | non => simp only [RD] at h; subst h; rfl
  | bl b => simp only [RD] at h; subst h; rfl
  | int b => simp only [RD] at h; subst h; rfl
  | str b => simp only [RD] at h; subst h; rfl
  | tup b => simp only [RD] at h; obtain ⟨a, _, rfl, _⟩ := h; rfl
  | ktp b => simp only [RD] at h; obtain ⟨a, _, rfl, _⟩ := h; rfl
  | lst b => simp only [RD] at h; obtain ⟨a, _, rfl, _⟩ := h; rfl
  | scr b => simp only [RD] at h; obtain ⟨a, rfl, _⟩ := h; rfl
  | dic t b c => simp only [RD] at h; obtain ⟨a, _, rfl, _⟩ := h; rfl
  | ins b c f => simp only [RD] at h; obtain ⟨a, _, rfl, _⟩ := h; rfl
  | ref b => simp only [RD] at h; obtain ⟨a, rfl, _⟩ := h; rfl
theorem op_Is : OpS X (compareOp .Is) (gIsN false) := .of op_isN fun w0 w M x y d e r Q l rl hd he hg q => by
  unfold gIsN at hg
  split at hg
  · cases hg
    refine ⟨he.non, q _ w (Le.refl w) rl ?_⟩
    rw [hd.isN]
    cases d <;> exact RR.of (w0 := w0) RD.mkBl
  · cases hg
theorem op_IsNot : OpS X (compareOp .IsNot) (gIsN true) := .of op_notN fun w0 w M x y d e r Q l rl hd he hg q => by
  unfold gIsN at hg
  split at hg
  · cases hg
    refine ⟨he.non, q _ w (Le.refl w) rl ?_⟩
    rw [hd.isN]
    cases d <;> exact RR.of (w0 := w0) RD.mkBl
  · cases hg

/-! ### equality -/
mutual
def toP (M : Mem) : D → Option PyData
  | .non => some .none
  | .bl b => some (.bool b)
  | .int i => some (.int i)
  | .str x => some (.str x)
  | .tup ds => (toPs M ds).map .tuple
  | .ktp ds => (toPs M ds).map .tuple
  | .lst ds => (toPs M ds).map .list
  | _ => none
def toPs (M : Mem) : List D → Option (List PyData)
  | [] => some []
  | d :: ds => (toP M d).bind fun p => (toPs M ds).map (p :: ·)
end
/-- the memory's lists, too, at the top -/
def toP1 (M : Mem) : D → Option PyData
  | .ref n => match M[n]? with
    | some (.lst ds) => (toPs M ds).map .list
    | _ => none
  | d => toP M d
section
variable {K : PySem.W.Frag} {mg : Str → Option Value} {w : Wo} {M : Mem}
mutual
theorem toP_ok : ∀ (d : D) (v : V) (p : PyData), RD K mg w v d → toP M d = some p → Dp K w.H v p
  | .non, v, p, h, e => by simp only [toP] at e; cases e; rw [h.non]; exact .non
  | .bl b, v, p, h, e => by simp only [toP] at e; cases e; rw [h.bl]; exact .bl b
  | .int i, v, p, h, e => by simp only [toP] at e; cases e; rw [h.int]; exact .int i
  | .str x, v, p, h, e => by simp only [toP] at e; cases e; rw [h.str]; exact .str x
  | .tup ds, v, p, h, e => by
    simp only [toP] at e
    obtain ⟨ps, hp, rfl⟩ := Option.map_eq_some_iff.mp e
    obtain ⟨a, vs, rfl, h1, q⟩ := h.tup
    exact .tup h1 (toPs_ok ds vs ps q hp)
  | .ktp ds, v, p, h, e => by
    simp only [toP] at e
    obtain ⟨ps, hp, rfl⟩ := Option.map_eq_some_iff.mp e
    simp only [RD] at h
    obtain ⟨a, vs, rfl, h1, q⟩ := h
    exact .tup (.inr h1) (toPs_ok ds vs ps q hp)
  | .lst ds, v, p, h, e => by
    simp only [toP] at e
    obtain ⟨ps, hp, rfl⟩ := Option.map_eq_some_iff.mp e
    simp only [RD] at h
    obtain ⟨a, vs, rfl, h1, q⟩ := h
    exact .lst (.of h1.2) (toPs_ok ds vs ps q hp)
  | .scr _, _, _, _, e => by simp only [toP] at e; cases e
  | .dic _ _ _, _, _, _, e => by simp only [toP] at e; cases e
  | .ins _ _ _, _, _, _, e => by simp only [toP] at e; cases e
  | .ref _, _, _, _, e => by simp only [toP] at e; cases e
theorem toPs_ok : ∀ (ds : List D) (vs : List V) (ps : List PyData), RDs K mg w vs ds → toPs M ds = some ps → DpAll K w.H vs ps
  | [], [], ps, _, e => by simp only [toPs] at e; cases e; exact .nil
  | [], _ :: _, _, h, _ => by simp only [RDs] at h
  | _ :: _, [], _, h, _ => by simp only [RDs] at h
  | d :: ds, v :: vs, ps, h, e => by
    simp only [toPs] at e
    obtain ⟨p, hp, e⟩ := Option.bind_eq_some_iff.mp e
    obtain ⟨qs, hq, rfl⟩ := Option.map_eq_some_iff.mp e
    exact .cons (toP_ok d v p h.head hp) (toPs_ok ds vs qs h.tail hq)
end
theorem toP1_ok (rl : Rl K mg w M) {d : D} {v : V} {p : PyData} (h : RD K mg w v d) (e : toP1 M d = some p) : Dp K w.H v p := by
  unfold toP1 at e
  split at e
  · rename_i n
    split at e
    · rename_i ds hy
      obtain ⟨ps, hp, rfl⟩ := Option.map_eq_some_iff.mp e
      simp only [RD] at h
      obtain ⟨a, rfl, h⟩ := h
      obtain ⟨vs, h1, h2⟩ := rl.ob n a _ h hy
      exact .lst (.of h1) (toPs_ok ds vs ps h2 hp)
    · cases e
  · exact toP_ok _ _ _ h e
end
def eqP (M : Mem) (d e : D) : Option Bool := match toP1 M d, toP1 M e with
  | some p, some q => if SeqAt.shaped p && SeqAt.shaped q then some (PyData.eqv p q) else none
  | _, _ => none
def gEq : Mem → D → D → Option R := fun M d e => match d, e with
  | .str x, .str y => some (.v (.bl (decide (x = y))))
  | .int x, .int y => some (.v (.bl (decide (x = y))))
  | d, e => (eqP M d e).map fun b => .v (.bl b)
def gNe : Mem → D → D → Option R := fun M d e => match d, e with
  | .str x, .str y => some (.v (.bl (!decide (x = y))))
  | .int x, .int y => some (.v (.bl (!decide (x = y))))
  | d, e => (eqP M d e).map fun b => .v (.bl (!b))
theorem eqP_ok {M : Mem} {w : Wo} {K : PySem.W.Frag} {mg : Str → Option Value} (rl : Rl K mg w M) {d e : D} {x y : V} {b : Bool} (hd : RD K mg w x d) (he : RD K mg w y e) (h : eqP M d e = some b) :
    ∃ p q, Dp K w.H x p ∧ Dp K w.H y q ∧ SeqAt.shaped p = true ∧ SeqAt.shaped q = true ∧ b = PyData.eqv p q := by
  unfold eqP at h
  split at h
  · rename_i p q hp hq
    split at h
    · rename_i hs
      cases h
      obtain ⟨h1, h2⟩ := Bool.and_eq_true_iff.mp hs
      exact ⟨p, q, toP1_ok rl hd hp, toP1_ok rl he hq, h1, h2, rfl⟩
    · cases h
  · cases h
theorem dstr (x y : Str) : decide (V.str x = V.str y) = decide (x = y) := by
  by_cases h : x = y
  · subst h; simp
  · rw [decide_eq_false h, decide_eq_false (fun e => h (V.str.inj e))]
theorem dint (x y : Int) : decide (V.int x = V.int y) = decide (x = y) := by
  by_cases h : x = y
  · subst h; simp
  · rw [decide_eq_false h, decide_eq_false (fun e => h (V.int.inj e))]
theorem op_Eq (hu : X.A.units + 64 < cLine) : OpS X (compareOp .Eq) gEq := by
  refine .of (op_eq.or (op_eqD hu)) fun w0 w M x y d e r Q l rl hd he hg q => ?_
  unfold gEq at hg
  split at hg
  · cases hg
    rw [hd.str, he.str]
    exact .inl ⟨rfl, by rw [dstr]; exact q _ w (Le.refl w) rl (.of .mkBl)⟩
  · cases hg
    rw [hd.int, he.int]
    exact .inl ⟨rfl, by rw [dint]; exact q _ w (Le.refl w) rl (.of .mkBl)⟩
  · obtain ⟨b, hb, rfl⟩ := Option.map_eq_some_iff.mp hg
    obtain ⟨p, q', h1, h2, h3, h4, rfl⟩ := eqP_ok rl hd he hb
    exact .inr ⟨p, q', h1, h2, h3, h4, q _ w (Le.refl w) rl (.of .mkBl)⟩
theorem op_Ne (hu : X.A.units + 64 < cLine) : OpS X (compareOp .NotEq) gNe := by
  refine .of (op_ne.or (op_neD hu)) fun w0 w M x y d e r Q l rl hd he hg q => ?_
  unfold gNe at hg
  split at hg
  · cases hg
    rw [hd.str, he.str]
    exact .inl ⟨rfl, by rw [dstr]; exact q _ w (Le.refl w) rl (.of .mkBl)⟩
  · cases hg
    rw [hd.int, he.int]
    exact .inl ⟨rfl, by rw [dint]; exact q _ w (Le.refl w) rl (.of .mkBl)⟩
  · obtain ⟨b, hb, rfl⟩ := Option.map_eq_some_iff.mp hg
    obtain ⟨p, q', h1, h2, h3, h4, rfl⟩ := eqP_ok rl hd he hb
    exact .inr ⟨p, q', h1, h2, h3, h4, q _ w (Le.refl w) rl (.of .mkBl)⟩
/-- one sign in a text -/
def gInS (neg : Bool) : Mem → D → D → Option R := fun _ d e => match d, e with
  | .str x, .str z => match x.cps.toList with
    | [c] => some (.v (.bl (if neg then !decide (c ∈ z.cps.toList) else decide (c ∈ z.cps.toList))))
    | _ => none
  | _, _ => none
theorem str_one {x : Str} {c : Nat} (h : x.cps.toList = [c]) : x = ⟨#[c]⟩ := by
  obtain ⟨⟨l⟩⟩ := x
  have h : l = [c] := h
  rw [h]
theorem op_InS : OpS X (compareOp .In) (gInS false) := .of op_in_sign fun w0 w M x y d e r Q l rl hd he hg q => by
  unfold gInS at hg
  split at hg
  · split at hg
    · rename_i hx
      cases hg
      have e := str_one hx
      subst e
      exact ⟨_, _, hd.str, he.str, q _ w (Le.refl w) rl (.of .mkBl)⟩
    · cases hg
  · cases hg
theorem op_NotInS : OpS X (compareOp .NotIn) (gInS true) := .of op_notIn_sign fun w0 w M x y d e r Q l rl hd he hg q => by
  unfold gInS at hg
  split at hg
  · split at hg
    · rename_i hx
      cases hg
      have e := str_one hx
      subst e
      exact ⟨_, _, hd.str, he.str, q _ w (Le.refl w) rl (.of .mkBl)⟩
    · cases hg
  · cases hg

/-! ### tests -/
theorem tQ.mk {K : PySem.W.Frag} {mg : Str → Option Value} {f : FT} {σ : L2.St} {H : Hp} {Q : Bool → Hp → Prop} {w : Wo} {env : En} {M M' : Mem} {b : Bool} (e : w.H = H) (rl : Rl K mg w M) (re : RE K mg w σ env) (hf : f env M = some (b, M'))
    (h : ∀ w', Le w w' → Rl K mg w' M' → Q b w'.H) : tQ K mg f σ H Q := ⟨w, env, M, b, M', e, rl, re, hf, h⟩
/-- an expression that is True or False -/
def qVal (f : FE) : FT := fun env M => (f env M).bind fun p => match p.1 with
  | .v (.bl b) => some (b, p.2)
  | _ => none
theorem qVal_inv {f : FE} {env : En} {M M' : Mem} {b : Bool} (h : qVal f env M = some (b, M')) : f env M = some (.v (.bl b), M') := by
  unfold qVal at h
  obtain ⟨p, hp, h⟩ := Option.bind_eq_some_iff.mp h
  obtain ⟨r, Ma⟩ := p
  split at h
  · rename_i k hk
    cases h
    dsimp only at hk
    rw [hk] at hp
    exact hp
  · cases h
theorem sqVal (h : SE X e fa) (he : ∀ whole, isTrue e X.env whole = (do let v ← whole; standAt e.pos; holding [v] (truthy v)) := by intro _; rfl) : SQ X e (qVal fa) := (pt_val h he).imp fun σ H Q ⟨w, env, M, b, M', e, rl, re, hf, k⟩ =>
  tI.mk e rl re (qVal_inv hf) fun v w1 l1 rl1 rr1 => ⟨b, RD.bl rr1.d, k w1 l1 rl1⟩
/-- a comparison as a test -/
theorem sqCmp {op : CmpOp} {g : Mem → D → D → Option R} (ho : OpS X (compareOp op) g) (ha : SE X a fa) (hb : SE X b fb) (hm : behindInMarks op b = false := by first | exact nobehind _ (by decide) (by decide) | rfl) : SQ X (.Compare a [op] [b] pos) (qVal (fBin g fa fb)) :=
  (pt_cmp (scCmp ho ha hb) hm).imp fun σ H Q ⟨w, env, M, b, M', e, rl, re, hf, k⟩ => tI.mk e rl re (qVal_inv hf) fun v w1 l1 rl1 rr1 => ⟨b, RD.bl rr1.d, k w1 l1 rl1⟩
/-- a op b op' c -/
def fChain (g g' : Mem → D → D → Option R) (fa fb fc : FE) : FE := fun env M => (fa env M).bind fun p => (fb env p.2).bind fun q => (g q.2 p.1.fz q.1.fz).bind fun r => match r with
  | .v (.bl true) => (fc env q.2).bind fun t => (g' t.2 q.1.fz t.1.fz).map fun z => (z, t.2)
  | .v (.bl false) => some (.v (.bl false), q.2)
  | _ => none
theorem tI.three {K : PySem.W.Frag} {mg : Str → Option Value} {g g' : Mem → D → D → Option R} {σ : L2.St} {H : Hp} {Q : VK} (h : tI K mg (fChain g g' fa fb fc) σ H Q)  :
    tI K mg fa σ H fun x H1 => tI K mg fb σ H1 fun y H2 => ∃ w0 w M d e k, w.H = H2 ∧ Le w0 w ∧ Rl K mg w M ∧ RD K mg w x d ∧ RD K mg w y e ∧ g M d e = some (.v (.bl k)) ∧
      ∀ w1, Le w w1 → Rl K mg w1 M → if k = true then tI K mg fc σ w1.H fun z H3 => ∃ w0 w2 Mc c r, w2.H = H3 ∧ Le w0 w2 ∧ Rl K mg w2 Mc ∧ RD K mg w2 y e ∧ RD K mg w2 z c ∧ g' Mc e c = some r ∧ ∀ t w', Le w2 w' → Rl K mg w' Mc → RR K mg w0 w' t r → Q t w'.H else Q (.bl false) w1.H := by
  obtain ⟨w, env, M, r, M', e, rl, re, hf, k⟩ := h
  unfold fChain at hf
  obtain ⟨⟨r1, Ma⟩, ha, hf⟩ := Option.bind_eq_some_iff.mp hf
  obtain ⟨⟨r2, Mb⟩, hb, hf⟩ := Option.bind_eq_some_iff.mp hf
  obtain ⟨z, hg, hf⟩ := Option.bind_eq_some_iff.mp hf
  refine tI.mk e rl re ha fun x w1 l1 rl1 rr1 => ?_
  obtain ⟨w1', l1', e1, b1, rl1', rd1, _⟩ := rr1.fz rl1 l1
  rw [← e1]
  refine tI.mk rfl rl1' (rl.re l1' re) hb fun y w2 l2 rl2 rr2 => ?_
  obtain ⟨w2', l2', e2, b2, rl2', rd2, _⟩ := rr2.fz rl2 l2
  split at hf
  · obtain ⟨⟨r3, Mc⟩, hc, hf⟩ := Option.bind_eq_some_iff.mp hf
    obtain ⟨t, hg', hf⟩ := Option.map_eq_some_iff.mp hf
    cases hf
    refine ⟨w, w2', _, _, _, true, e2, l1'.trans l2', rl2', rl1'.rd l2' rd1, rd2, hg, fun w3 l3 rl3 => ?_⟩
    rw [if_pos rfl]
    have l03 := (l1'.trans l2').trans l3
    refine tI.mk rfl rl3 (rl.re l03 re) hc fun c w4 l4 rl4 rr4 => ?_
    obtain ⟨w4', l4', e4, b4, rl4', rd4, _⟩ := rr4.fz rl4 l4
    exact ⟨w, w4', _, _, _, e4, l03.trans l4', rl4', rl3.rd l4' (rl2'.rd l3 rd2), rd4, hg', fun t w5 l5 rl5 rr5 => k t w5 ((l03.trans l4').trans l5) rl5 rr5⟩
  · cases hf
    refine ⟨w, w2', _, _, _, false, e2, l1'.trans l2', rl2', rl1'.rd l2' rd1, rd2, hg, fun w3 l3 rl3 => ?_⟩
    rw [if_neg Bool.false_ne_true]
    exact k _ w3 ((l1'.trans l2').trans l3) rl3 (.of .mkBl)
  · cases hf
theorem sChain {op op' : CmpOp} {g g' : Mem → D → D → Option R} (ho : OpS X (compareOp op) g) (ho' : OpS X (compareOp op') g') (ha : SE X a fa) (hb : SE X b fb) (hc : SE X c fc) (hm : lastMarks [op, op'] [b, c] = false := by with_unfolding_all rfl) :
    SE X (.Compare a [op, op'] [b, c] pos) (fChain g g' fa fb fc) := by
  refine ⟨fun pins s σ H Q I h => ?_⟩
  refine Compare_chain (thn (ha.run pins s σ H _ I h.three) fun v s1 ⟨x, H1, I1, r1, q1⟩ => chain_link (thn (hb.run pins s1 σ H1 _ I1 q1) fun u s2 ⟨y, H2, I2, r2, q2⟩ => ?_)) hm
  obtain ⟨w0, w, M, d, e, k, rfl, l, rl, hd, he, hg, kk⟩ := q2
  refine thn (ho pins s2 σ w0 w M x y v u d e _ (fun z H3 => z = .bl k ∧ ∃ w1, w1.H = H3 ∧ Le w w1 ∧ Rl X.K X.mg w1 M) I2 r1 r2 l rl hd he hg fun z w1 l1 rl1 rr1 => ⟨RD.bl rr1.d, w1, rfl, l1, rl1⟩) fun dd s3 ⟨z, H3, I3, r3, ez, w1, e1, l1, rl1⟩ => ?_
  subst ez e1
  cases r3
  refine wpAny_truthy_bool ?_
  have q3 := kk w1 l1 rl1
  cases k with
  | false => exact ite_ff ⟨.bl false, w1.H, I3, rfl, q3⟩
  | true =>
    rw [if_pos rfl] at q3
    refine ite_tt (chain_last (thn (hc.run pins s3 σ w1.H _ I3 q3) fun w' s4 ⟨z', H4, I4, r4, q4⟩ => ?_))
    obtain ⟨w0', w2, Mc, cc, rr, rfl, l2, rl2, he2, hc2, hg2, k2⟩ := q4
    exact ho' pins s4 σ w0' w2 Mc y z' u w' e cc rr Q I4 r2 r4 l2 rl2 he2 hc2 hg2 k2
theorem sqChain {op op' : CmpOp} {g g' : Mem → D → D → Option R} (ho : OpS X (compareOp op) g) (ho' : OpS X (compareOp op') g') (ha : SE X a fa) (hb : SE X b fb) (hc : SE X c fc) (hm : lastMarks [op, op'] [b, c] = false := by with_unfolding_all rfl) :
    SQ X (.Compare a [op, op'] [b, c] pos) (qVal (fChain g g' fa fb fc)) := by
  refine ⟨fun pins s σ H Q I h0 => ?_⟩
  obtain ⟨w00, env, M0, bb, M', e0, rl0, re0, hf, k0⟩ := h0
  have h : tI X.K X.mg (fChain g g' fa fb fc) σ H (fun z H' => ∃ k, z = .bl k ∧ Q k H') := tI.mk e0 rl0 re0 (qVal_inv hf) fun v w1 l1 rl1 rr1 => ⟨bb, RD.bl rr1.d, k0 w1 l1 rl1⟩
  refine isTrue_chain (thn (ha.run pins s σ H _ I h.three) fun v s1 ⟨x, H1, I1, r1, q1⟩ => test_link (thn (hb.run pins s1 σ H1 _ I1 q1) fun u s2 ⟨y, H2, I2, r2, q2⟩ => ?_)) hm
  obtain ⟨w0, w, M, d, e, k, rfl, l, rl, hd, he, hg, kk⟩ := q2
  refine thn (ho pins s2 σ w0 w M x y v u d e _ (fun z H3 => z = .bl k ∧ ∃ w1, w1.H = H3 ∧ Le w w1 ∧ Rl X.K X.mg w1 M) I2 r1 r2 l rl hd he hg fun z w1 l1 rl1 rr1 => ⟨RD.bl rr1.d, w1, rfl, l1, rl1⟩) fun dd s3 ⟨z, H3, I3, r3, ez, w1, e1, l1, rl1⟩ => ?_
  subst ez e1
  cases r3
  refine wpAny_truthy_bool ?_
  have q3 := kk w1 l1 rl1
  cases k with
  | false =>
    obtain ⟨k', e', q'⟩ := q3
    cases e'
    exact ite_ff ⟨w1.H, I3, q'⟩
  | true =>
    rw [if_pos rfl] at q3
    refine ite_tt (test_last (thn (hc.run pins s3 σ w1.H _ I3 q3) fun w' s4 ⟨z', H4, I4, r4, q4⟩ => ?_))
    obtain ⟨w0', w2, Mc, cc, rr, rfl, l2, rl2, he2, hc2, hg2, k2⟩ := q4
    refine thn (ho' pins s4 σ w0' w2 Mc y z' u w' e cc rr (fun t H' => ∃ k, t = .bl k ∧ Q k H') I4 r2 r4 l2 rl2 he2 hc2 hg2 k2) fun d' s5 ⟨z2, H5, I5, r5, k2, e2, q5⟩ => ?_
    subst e2
    cases r5
    exact wpAny_truthy_bool ⟨H5, I5, q5⟩
def qNot (f : FT) : FT := fun env M => (f env M).map fun p => (!p.1, p.2)
theorem sqNot {f : FT} (h : SQ X a f) : SQ X (.UnaryOp .Not a pos) (qNot f) := (pt_not h).imp fun σ H Q ⟨w, env, M, b, M', e, rl, re, hf, k⟩ => by
  unfold qNot at hf
  obtain ⟨p, hp, hf⟩ := Option.map_eq_some_iff.mp hf
  cases hf
  exact tQ.mk e rl re hp k
def qAnd (f g : FT) : FT := fun env M => (f env M).bind fun p => if p.1 then g env p.2 else some (false, p.2)
def qOr (f g : FT) : FT := fun env M => (f env M).bind fun p => if p.1 then some (true, p.2) else g env p.2
variable {qa qb : FT} {rest : List Expr}
theorem swAnd1 (ha : SQ X a qa) : SW X (.BoolOp .And [a] pos) qa := pw_and1 ha
theorem swOr1 (ha : SQ X a qa) : SW X (.BoolOp .Or [a] pos) qa := pw_or1 ha
theorem swAnd (ha : SQ X a qa) (hb : SW X (.BoolOp .And (b :: rest) pos) qb) : SW X (.BoolOp .And (a :: b :: rest) pos) (qAnd qa qb) := (pw_and ha hb).imp fun σ H Q ⟨w, env, M, b, M', e, rl, re, hf, k⟩ => by
  unfold qAnd at hf
  obtain ⟨p, hp, hf⟩ := Option.bind_eq_some_iff.mp hf
  refine tQ.mk e rl re hp fun w1 l1 rl1 => ?_
  cases c : p.1 with
  | true =>
    rw [c] at hf
    exact tQ.mk rfl rl1 (rl.re l1 re) hf fun w2 l2 rl2 => k w2 (l1.trans l2) rl2
  | false =>
    rw [c] at hf
    cases hf
    exact k w1 l1 rl1
theorem swOr (ha : SQ X a qa) (hb : SW X (.BoolOp .Or (b :: rest) pos) qb) : SW X (.BoolOp .Or (a :: b :: rest) pos) (qOr qa qb) := (pw_or ha hb).imp fun σ H Q ⟨w, env, M, b, M', e, rl, re, hf, k⟩ => by
  unfold qOr at hf
  obtain ⟨p, hp, hf⟩ := Option.bind_eq_some_iff.mp hf
  refine tQ.mk e rl re hp fun w1 l1 rl1 => ?_
  cases c : p.1 with
  | false =>
    rw [c] at hf
    exact tQ.mk rfl rl1 (rl.re l1 re) hf fun w2 l2 rl2 => k w2 (l1.trans l2) rl2
  | true =>
    rw [c] at hf
    cases hf
    exact k w1 l1 rl1
theorem SW.q (h : SW X a qa) : SQ X a qa := PW.pt h

/-! ### and, or, not, if else as values -/
def fAnd (f g : FE) : FE := fun env M => (f env M).bind fun p => match p.1 with
  | .v (.bl true) => g env p.2
  | .v (.bl false) => some (.v (.bl false), p.2)
  | _ => none
def fOr (f g : FE) : FE := fun env M => (f env M).bind fun p => match p.1 with
  | .v (.bl true) => some (.v (.bl true), p.2)
  | .v (.bl false) => g env p.2
  | _ => none
def fNot (f : FE) : FE := fun env M => (f env M).bind fun p => match p.1 with
  | .v (.bl b) => some (.v (.bl (!b)), p.2)
  | _ => none
/-- a result of a later world, reckoned from the first -/
theorem RR.back {K : PySem.W.Frag} {mg : Str → Option Value} {w0 w1 w2 : Wo} (l : Le w0 w1) {v : V} {r : R} (rl2 : Rl K mg w2 []→ True) (h : RR K mg w1 w2 v r) (hb : ∀ a, a ∈ w0.β → a ∈ w2.β) : RR K mg w0 w2 v r := by
  cases r with
  | v d => exact h
  | n o =>
    obtain ⟨a, e, h1, h2, h3, h4⟩ := h
    exact ⟨a, e, h1, h2, h3, l.fresh h4 fun z => h3 (hb a z)⟩
theorem RR.bk {K : PySem.W.Frag} {mg : Str → Option Value} {w0 w1 w2 : Wo} (l : Le w0 w1) (l2 : Le w1 w2) {v : V} {r : R} (h : RR K mg w1 w2 v r) : RR K mg w0 w2 v r := RR.back l (fun _ => trivial) h fun _ z => l2.mem (l.mem z)
theorem sOne {op : BoolOp} (h : SE X a fa) : SE X (.BoolOp op [a] pos) fa := pe_one h
theorem sAnd (ha : SE X a fa) (hb : SE X (.BoolOp .And (b :: rest) pos) fb) : SE X (.BoolOp .And (a :: b :: rest) pos) (fAnd fa fb) := (pe_and ha hb).imp fun σ H Q ⟨w, env, M, r, M', e, rl, re, hf, k⟩ => by
  unfold fAnd at hf
  obtain ⟨p, hp, hf⟩ := Option.bind_eq_some_iff.mp hf
  refine tI.mk e rl re hp fun v w1 l1 rl1 rr1 => ?_
  split at hf
  · rename_i c
    rw [c] at rr1
    refine ⟨true, RD.bl rr1.d, ?_⟩
    rw [if_pos rfl]
    exact tI.mk rfl rl1 (rl.re l1 re) hf fun v2 w2 l2 rl2 rr2 => k v2 w2 (l1.trans l2) rl2 (rr2.bk l1 l2)
  · rename_i c
    rw [c] at rr1
    refine ⟨false, RD.bl rr1.d, ?_⟩
    rw [if_neg Bool.false_ne_true]
    cases hf
    exact k _ w1 l1 rl1 (.of .mkBl)
  · cases hf
theorem sOr (ha : SE X a fa) (hb : SE X (.BoolOp .Or (b :: rest) pos) fb) : SE X (.BoolOp .Or (a :: b :: rest) pos) (fOr fa fb) := (pe_or ha hb).imp fun σ H Q ⟨w, env, M, r, M', e, rl, re, hf, k⟩ => by
  unfold fOr at hf
  obtain ⟨p, hp, hf⟩ := Option.bind_eq_some_iff.mp hf
  refine tI.mk e rl re hp fun v w1 l1 rl1 rr1 => ?_
  split at hf
  · rename_i c
    rw [c] at rr1
    refine ⟨true, RD.bl rr1.d, ?_⟩
    rw [if_pos rfl]
    cases hf
    exact k _ w1 l1 rl1 (.of .mkBl)
  · rename_i c
    rw [c] at rr1
    refine ⟨false, RD.bl rr1.d, ?_⟩
    rw [if_neg Bool.false_ne_true]
    exact tI.mk rfl rl1 (rl.re l1 re) hf fun v2 w2 l2 rl2 rr2 => k v2 w2 (l1.trans l2) rl2 (rr2.bk l1 l2)
  · cases hf
theorem sNot (ha : SE X a fa) : SE X (.UnaryOp .Not a pos) (fNot fa) := (pe_not ha).imp fun σ H Q ⟨w, env, M, r, M', e, rl, re, hf, k⟩ => by
  unfold fNot at hf
  obtain ⟨p, hp, hf⟩ := Option.bind_eq_some_iff.mp hf
  refine tI.mk e rl re hp fun v w1 l1 rl1 rr1 => ?_
  split at hf
  · rename_i c
    rw [c] at rr1
    cases hf
    exact ⟨_, RD.bl rr1.d, k _ w1 l1 rl1 (.of .mkBl)⟩
  · cases hf
def fNeg (f : FE) : FE := fun env M => (f env M).bind fun p => match p.1 with
  | .v (.int i) => some (.v (.int (-i)), p.2)
  | _ => none
theorem sNeg (ha : SE X a fa) : SE X (.UnaryOp .USub a pos) (fNeg fa) := (pe_un un_neg ha).imp fun σ H Q ⟨w, env, M, r, M', e, rl, re, hf, k⟩ => by
  unfold fNeg at hf
  obtain ⟨p, hp, hf⟩ := Option.bind_eq_some_iff.mp hf
  refine tI.mk e rl re hp fun v w1 l1 rl1 rr1 => ?_
  split at hf
  · rename_i c
    rw [c] at rr1
    cases hf
    exact ⟨_, RD.int rr1.d, k _ w1 l1 rl1 (.of .mkInt)⟩
  · cases hf
def fIf (q : FT) (f g : FE) : FE := fun env M => (q env M).bind fun p => if p.1 then f env p.2 else g env p.2
theorem sIf (hc : SQ X c qa) (ha : SE X a fa) (hb : SE X b fb) : SE X (.IfExp c a b pos) (fIf qa fa fb) := (pe_ifExp hc ha hb).imp fun σ H Q ⟨w, env, M, r, M', e, rl, re, hf, k⟩ => by
  unfold fIf at hf
  obtain ⟨p, hp, hf⟩ := Option.bind_eq_some_iff.mp hf
  refine tQ.mk e rl re hp fun w1 l1 rl1 => ?_
  cases c : p.1 with
  | true =>
    rw [c] at hf
    exact tI.mk rfl rl1 (rl.re l1 re) hf fun v2 w2 l2 rl2 rr2 => k v2 w2 (l1.trans l2) rl2 (rr2.bk l1 l2)
  | false =>
    rw [c] at hf
    exact tI.mk rfl rl1 (rl.re l1 re) hf fun v2 w2 l2 rl2 rr2 => k v2 w2 (l1.trans l2) rl2 (rr2.bk l1 l2)
end
end Fl
set_option Elab.async false
set_option linter.all false
set_option maxRecDepth 100000
/-! Fl3: arguments, displays, subscripts, slices, attributes, calls of built-ins. -/
namespace Fl
open PySem PySem.Spec PyProof.Rows L2
section
variable {X : Cx} {e a b c o : Expr} {es : List Expr} {fa fb fc fo : FE} {fr : FA} {pos : Pos}
theorem RE.imp {K : PySem.W.Frag} {mg : Str → Option Value} {w w' : Wo} (P : ∀ (d : D) (v : V), RD K mg w v d → RD K mg w' v d) {σ : L2.St} {env : En} (h : RE K mg w σ env) : RE K mg w' σ env := by
  induction h with
  | nil => exact .nil
  | no _ ih => exact .no ih
  | yes q _ ih => exact .yes (P _ _ q) ih
/-- one of two -/
theorem SE.or {f g : FE} (h : SE X e f) (h' : SE X e g) : SE X e (fun env M => (f env M).or (g env M)) := by
  refine ⟨fun pins s σ H Q I h0 => ?_⟩
  obtain ⟨w, env, M, r, M', e0, rl, re, hf, k⟩ := h0
  dsimp only at hf
  cases q : f env M with
  | some z => rw [q] at hf; cases hf; exact h.run pins s σ H Q I (tI.mk e0 rl re q k)
  | none => rw [q] at hf; exact h'.run pins s σ H Q I (tI.mk e0 rl re hf k)

/-! ### arguments -/
theorem tIA.mk {K : PySem.W.Frag} {mg : Str → Option Value} {f : FA} {σ : L2.St} {H : Hp} {Q : List V → Hp → Prop} {w : Wo} {env : En} {M M' : Mem} {r : List D} (e : w.H = H) (rl : Rl K mg w M) (re : RE K mg w σ env) (hf : f env M = some (r, M'))
    (h : ∀ v w', Le w w' → Rl K mg w' M' → RDs K mg w' v r → Q v w'.H) : tIA K mg f σ H Q := ⟨w, env, M, r, M', e, rl, re, hf, h⟩
def fNil : FA := fun _ M => some ([], M)
/-- the argument stands still from now on -/
def fCons (f : FE) (g : FA) : FA := fun env M => (f env M).bind fun p => (g env p.2).map fun q => (p.1.fz :: q.1, q.2)
/-- the argument, a new object laid into the memory -/
def fConsA (f : FE) (g : FA) : FA := fun env M => (f env M).bind fun p => (g env (p.1.al p.2).2).map fun q => ((p.1.al p.2).1 :: q.1, q.2)
theorem saNil : SA X [] fNil := pa_nil.imp fun σ H Q ⟨w, env, M, ds, M', e, rl, re, hf, k⟩ => by
  subst e
  cases hf
  exact k [] w (Le.refl w) rl .nil
theorem saCons (h : SE X a fa) (hr : SA X es fr) (hs : starEach (a :: es) X.env = (false, eval a X.env) :: starEach es X.env := by rfl) : SA X (a :: es) (fCons fa fr) := (pa_cons h hr hs).imp fun σ H Q ⟨w, env, M, ds, M', e, rl, re, hf, k⟩ => by
  unfold fCons at hf
  obtain ⟨p, hp, hf⟩ := Option.bind_eq_some_iff.mp hf
  obtain ⟨q, hq, hf⟩ := Option.map_eq_some_iff.mp hf
  cases hf
  refine tI.mk e rl re hp fun v w1 l1 rl1 rr1 => ?_
  obtain ⟨w1', l1', e1, b1, rl1', rd1, _⟩ := rr1.fz rl1 l1
  rw [← e1]
  exact tIA.mk rfl rl1' (rl.re l1' re) hq fun vs w2 l2 rl2 rd2 => k (v :: vs) w2 (l1'.trans l2) rl2 (.cons (rl1'.rd l2 rd1) rd2)
theorem saConsA (h : SE X a fa) (hr : SA X es fr) (hs : starEach (a :: es) X.env = (false, eval a X.env) :: starEach es X.env := by rfl) : SA X (a :: es) (fConsA fa fr) := (pa_cons h hr hs).imp fun σ H Q ⟨w, env, M, ds, M', e, rl, re, hf, k⟩ => by
  unfold fConsA at hf
  obtain ⟨p, hp, hf⟩ := Option.bind_eq_some_iff.mp hf
  obtain ⟨q, hq, hf⟩ := Option.map_eq_some_iff.mp hf
  cases hf
  refine tI.mk e rl re hp fun v w1 l1 rl1 rr1 => ?_
  obtain ⟨w1', l1', e1, rl1', rd1, P⟩ := rr1.al rl1 l1
  rw [← e1]
  exact tIA.mk rfl rl1' ((rl.re l1 re).imp P) hq fun vs w2 l2 rl2 rd2 => k (v :: vs) w2 (l1'.trans l2) rl2 (.cons (rl1'.rd l2 rd1) rd2)

/-! ### displays -/
theorem few {n : Nat} (h : n ≤ 1000) : n ≤ sizeLine := Nat.le_of_lt (small1000 h)
def fTup (f : FA) : FE := fun env M => (f env M).bind fun p => if p.1.length ≤ 1000 then some (.v (.tup p.1), p.2) else none
def fLst (f : FA) : FE := fun env M => (f env M).bind fun p => if p.1.length ≤ 1000 then some (.n (.lst p.1), p.2) else none
theorem sTup {x1 : Nat} (h : SA X es fr) : SE X (.Tuple es x1 pos) (fTup fr) := (pe_tup h).imp fun σ H Q ⟨w, env, M, r, M', e, rl, re, hf, k⟩ => by
  unfold fTup at hf
  obtain ⟨p, hp, hf⟩ := Option.bind_eq_some_iff.mp hf
  split at hf
  · rename_i hl
    cases hf
    refine tIA.mk e rl re hp fun vs w1 l1 rl1 rd1 => ⟨by rw [rd1.length]; exact few hl, fun q hq => ?_⟩
    exact k _ (w1.lay q (.tup vs)) (l1.trans (Le.lay hq)) (rl1.lay hq) (.of (RD.tupNew rl1 hq rd1))
  · cases hf
theorem sLst (h : SA X es fr) : SE X (.List es pos) (fLst fr) := (pe_lst h).imp fun σ H Q ⟨w, env, M, r, M', e, rl, re, hf, k⟩ => by
  unfold fLst at hf
  obtain ⟨p, hp, hf⟩ := Option.bind_eq_some_iff.mp hf
  split at hf
  · rename_i hl
    cases hf
    refine tIA.mk e rl re hp fun vs w1 l1 rl1 rd1 => ⟨by rw [rd1.length]; exact few hl, fun q hq => ?_⟩
    exact k _ (w1.lay q (.lst vs)) (l1.trans (Le.lay hq)) (rl1.lay hq) (RR.lst rl1 l1 hq rd1)
  · cases hf
/-- {}: t: its keys will be tuples -/
def fDic0 (t : Bool) : FE := fun _ M => some (.n (.dic t []), M)
theorem sDic0T : SE X (.Dict [] [] pos) (fDic0 true) := pe_dnewT.imp fun σ H Q ⟨w, env, M, r, M', e, rl, re, hf, k⟩ => by
  subst e
  cases hf
  intro q hq
  exact k _ (w.lay q (.dT [])) (Le.lay hq) (rl.lay hq) ⟨q, rfl, ⟨[], ⟨[], Wo.lay_at, rfl, rfl⟩, .nil⟩, rl.newg hq, rl.newb hq, hq⟩
theorem sDic0K : SE X (.Dict [] [] pos) (fDic0 false) := pe_dnewK.imp fun σ H Q ⟨w, env, M, r, M', e, rl, re, hf, k⟩ => by
  subst e
  cases hf
  intro q hq
  exact k _ (w.lay q (.dK [])) (Le.lay hq) (rl.lay hq) ⟨q, rfl, ⟨[], ⟨[], Wo.lay_at, rfl, rfl⟩, .nil⟩, rl.newg hq, rl.newb hq, hq⟩

/-! ### a dict's keys -/
def flatKey : D → Option Key
  | .int i => some (.inl i)
  | .str x => some (.inr x)
  | _ => none
def flatKeys : List D → Option (List Key)
  | [] => some []
  | d :: ds => (flatKey d).bind fun k => (flatKeys ds).map (k :: ·)
def keyOf : D → Option DK
  | .tup ds => (flatKeys ds).map .t
  | d => (flatKey d).map .k
def Key.d : Key → D
  | .inl i => .int i
  | .inr x => .str x
def DK.d : DK → D
  | .k x => Key.d x
  | .t xs => .tup (xs.map Key.d)
section
variable {K : PySem.W.Frag} {mg : Str → Option Value} {w : Wo} {M : Mem}
theorem flatKey_ok {v : V} {d : D} {k : Key} (h : RD K mg w v d) (e : flatKey d = some k) : v = kV k := by
  unfold flatKey at e
  split at e
  · cases e; rw [h.int]; rfl
  · cases e; rw [h.str]; rfl
  · cases e
theorem flatKeys_ok : ∀ {vs : List V} {ds : List D} {ks : List Key}, RDs K mg w vs ds → flatKeys ds = some ks → vs = ks.map kV
  | [], [], ks, _, e => by simp only [flatKeys] at e; cases e; rfl
  | [], _ :: _, _, h, _ => by simp only [RDs] at h
  | _ :: _, [], _, h, _ => by simp only [RDs] at h
  | v :: vs, d :: ds, ks, h, e => by
    simp only [flatKeys] at e
    obtain ⟨k, hk, e⟩ := Option.bind_eq_some_iff.mp e
    obtain ⟨qs, hq, rfl⟩ := Option.map_eq_some_iff.mp e
    rw [List.map_cons, flatKey_ok h.head hk, flatKeys_ok h.tail hq]
/-- a key by values -/
def KeyAt (H : Hp) (y : V) : DK → Prop
  | .k x => y = kV x
  | .t xs => ∃ b, y = .ref b ∧ H b = some (.tup (xs.map kV))
theorem keyOf_ok {v : V} {d : D} {k : DK} (h : RD K mg w v d) (e : keyOf d = some k) : KeyAt w.H v k := by
  unfold keyOf at e
  split at e
  · obtain ⟨ks, hk, rfl⟩ := Option.map_eq_some_iff.mp e
    simp only [RD] at h
    obtain ⟨a, vs, rfl, h1, q⟩ := h
    rw [flatKeys_ok q hk] at h1
    exact ⟨a, rfl, h1⟩
  · obtain ⟨k', hk, rfl⟩ := Option.map_eq_some_iff.mp e
    exact flatKey_ok h hk
theorem flatKey_d (k : Key) : flatKey (Key.d k) = some k := by cases k <;> rfl
theorem flatKeys_d : ∀ ks : List Key, flatKeys (ks.map Key.d) = some ks
  | [] => rfl
  | k :: ks => by rw [List.map_cons]; unfold flatKeys; rw [flatKey_d, flatKeys_d ks]; rfl
theorem keyOf_d (k : DK) : keyOf (DK.d k) = some k := by
  cases k with
  | k x => cases x <;> rfl
  | t xs => show (flatKeys (xs.map Key.d)).map DK.t = _; rw [flatKeys_d]; rfl
def dLook (kvs : List (DK × D)) (k : DK) : Option D := (kvs.find? fun p => decide (p.1 = k)).map (·.2)
def dPut (kvs : List (DK × D)) (k : DK) (d : D) : List (DK × D) := if kvs.any fun p => decide (p.1 = k) then kvs.map fun p => if p.1 = k then (p.1, d) else p else kvs ++ [(k, d)]
/-- which dict a key fits -/
def dkT : DK → Bool
  | .k _ => false
  | .t _ => true
/-- look-up by values: κ the keys' type -/
theorem look_g {κ : Type} [DecidableEq κ] (f : κ → DK) (inj : ∀ a b, f a = f b → a = b) (k : κ) : ∀ {kv : List (κ × V)} {kvs : List (DK × D)}, kvs.map (·.1) = kv.map (fun p => f p.1) → RDs K mg w (kv.map (·.2)) (kvs.map (·.2)) →
    (∀ d, dLook kvs (f k) = some d → ∃ v, valV kv k = some v ∧ RD K mg w v d) ∧ (dLook kvs (f k) = none → valV kv k = none)
  | [], [], _, _ => ⟨fun d h => by simp [dLook] at h, fun _ => rfl⟩
  | [], _ :: _, h, _ => by simp at h
  | _ :: _, [], h, _ => by simp at h
  | (x, v) :: kv, (y, d) :: kvs, h, q => by
    simp only [List.map_cons, List.cons.injEq] at h
    obtain ⟨rfl, h⟩ := h
    obtain ⟨i1, i2⟩ := look_g f inj k h q.tail
    by_cases e : x = k
    · subst e
      have hd : dLook ((f x, d) :: kvs) (f x) = some d := by simp [dLook]
      refine ⟨fun z hz => ?_, fun hz => ?_⟩
      · rw [hd] at hz; cases hz
        exact ⟨v, valV_pos rfl, q.head⟩
      · rw [hd] at hz; cases hz
    · have hd : dLook ((f x, d) :: kvs) (f k) = dLook kvs (f k) := by
        have : ¬ f x = f k := fun z => e (inj _ _ z)
        simp [dLook, List.find?_cons, this]
      have hv : valV ((x, v) :: kv) k = valV kv k := valV_neg e
      rw [hd, hv]
      exact ⟨i1, i2⟩
/-- DGet of a dict and a key that fits it -/
theorem dget_ok {a : Addr} {t : Bool} {kvs : List (DK × D)} {vs : List V} {y : V} {k : DK} (h : DicAt w.H a t (kvs.map (·.1)) vs ∨ LkAt w.H a t (kvs.map (·.1)) vs) (q : RDs K mg w vs (kvs.map (·.2))) (hk : KeyAt w.H y k) (ht : dkT k = t) :
    (∀ d, dLook kvs k = some d → ∃ v, DGet w.H a y (some v) ∧ RD K mg w v d) ∧ (dLook kvs k = none → DGet w.H a y none) := by
  cases k with
  | k x =>
    cases ht
    have hk : y = kV x := hk
    obtain ⟨kv, h1, h2, h3⟩ : ∃ kv : List (Key × V), Rd w.H a (.dK kv) ∧ kvs.map (·.1) = kv.map (fun p => DK.k p.1) ∧ vs = kv.map (·.2) := by
      rcases h with ⟨kv, h1, h2⟩ | ⟨o, kv, h1, h2⟩
      · exact ⟨kv, .inl h1, h2⟩
      · exact ⟨kv, .inr ⟨o, h1⟩, h2⟩
    subst h3
    obtain ⟨i1, i2⟩ := look_g DK.k (fun _ _ z => DK.k.inj z) x h2 q
    refine ⟨fun d hd => ?_, fun hd => ?_⟩
    · obtain ⟨v, e1, e2⟩ := i1 d hd
      exact ⟨v, .inl ⟨kv, x, h1, hk, e1.symm⟩, e2⟩
    · exact .inl ⟨kv, x, h1, hk, (i2 hd).symm⟩
  | t xs =>
    cases ht
    obtain ⟨b, hy, hb⟩ := hk
    obtain ⟨kv, h1, h2, h3⟩ : ∃ kv : List (List Key × V), Rd w.H a (.dT kv) ∧ kvs.map (·.1) = kv.map (fun p => DK.t p.1) ∧ vs = kv.map (·.2) := by
      rcases h with ⟨kv, h1, h2⟩ | ⟨o, kv, h1, h2⟩
      · exact ⟨kv, .inl h1, h2⟩
      · exact ⟨kv, .inr ⟨o, h1⟩, h2⟩
    subst h3
    obtain ⟨i1, i2⟩ := look_g DK.t (fun _ _ z => DK.t.inj z) xs h2 q
    refine ⟨fun d hd => ?_, fun hd => ?_⟩
    · obtain ⟨v, e1, e2⟩ := i1 d hd
      exact ⟨v, .inr ⟨kv, xs, b, h1, hy, hb, e1.symm⟩, e2⟩
    · exact .inr ⟨kv, xs, b, h1, hy, hb, (i2 hd).symm⟩
end
/-- d[k] -/
def gDix : Mem → D → D → Option R := fun M d e => (asD M d).bind fun p => (keyOf e).bind fun k => if dkT k = p.1 then (dLook p.2 k).map R.v else none
def gIx : Mem → D → D → Option R := fun M d e => match e with
  | .int i => (match d with
    | .str x => if x.length ≤ sizeLine then (atI x.cps.toList i).map fun c => .v (.str ⟨#[c]⟩) else none
    | _ => (asS M d).bind fun xs => (atI xs i).map R.v)
  | _ => none
theorem atI_rd {K : PySem.W.Frag} {mg : Str → Option Value} {w : Wo} {vs : List V} {ds : List D} {i : Int} {d : D} (q : RDs K mg w vs ds) (h : atI ds i = some d) : ∃ v, atI vs i = some v ∧ RD K mg w v d := by
  unfold atI at h ⊢
  rw [q.length]
  obtain ⟨j, hj, h⟩ := Option.bind_eq_some_iff.mp h
  obtain ⟨v, h1, h2⟩ := q.get h
  exact ⟨v, by rw [hj]; exact h1, h2⟩
theorem sIxS (ha : SE X a fa) (hb : SE X b fb) (hs : PlainIx b := by intro _ _; rfl) : SE X (.Subscript a b pos) (fBin gIx fa fb) := by
  refine ⟨fun pins s σ H Q I h => ?_⟩
  refine Subscript_ (bin ha hb I h.two fun v u s2 x y H2 I2 rx ry q => ?_)
  obtain ⟨w0, w, M, d, e, r, rfl, l, rl, hd, he, hg, k⟩ := q
  refine ix_seq a b pins s2 σ w.H x y v u Q I2 rx ry ?_ (hs _ _)
  unfold gIx at hg
  split at hg
  · rename_i i
    split at hg
    · rename_i z
      split at hg
      · rename_i hl
        obtain ⟨c, hc, rfl⟩ := Option.map_eq_some_iff.mp hg
        exact .inr (.inr ⟨z, i, c, hd.str, he.int, hl, hc, k _ w (Le.refl w) rl (.of .mkStr)⟩)
      · cases hg
    · obtain ⟨xs, hx, hg⟩ := Option.bind_eq_some_iff.mp hg
      obtain ⟨z, hz, rfl⟩ := Option.map_eq_some_iff.mp hg
      obtain ⟨p, vs, rfl, h1, q1⟩ := rl.asS hd hx
      obtain ⟨v', e1, e2⟩ := atI_rd q1 hz
      have fin := k v' w (Le.refl w) rl (.of e2)
      rcases h1 with h1 | h1
      · exact .inl ⟨p, vs, i, v', rfl, he.int, h1, e1, fin⟩
      · exact .inr (.inl ⟨p, vs, i, v', rfl, he.int, h1, e1, fin⟩)
  · cases hg
theorem sIxD (hu : X.A.units + 1 < cLine) (ha : SE X a fa) (hb : SE X b fb) (hs : NoSl b := by first | trivial | (intro _ _; rfl) | rfl) : SE X (.Subscript a b pos) (fBin gDix fa fb) := by
  refine (pe_dget hu ha hb hs).imp fun σ H Q h => ?_
  obtain ⟨w, env, M, r, M', e, rl, re, hf, k⟩ := h.two
  refine tI.mk e rl re hf fun x w1 l1 rl1 rr1 => ?_
  obtain ⟨w2, env2, Mb, r2, Mb', e2, rl2, re2, hf2, k2⟩ := k x w1 l1 rl1 rr1
  refine tI.mk e2 rl2 re2 hf2 fun y w3 l3 rl3 rr3 => ?_
  obtain ⟨w0, w', Mc, d, e, r', eH, l, rl', hd, he, hg, k3⟩ := k2 y w3 l3 rl3 rr3
  unfold gDix at hg
  obtain ⟨p, hp, hg⟩ := Option.bind_eq_some_iff.mp hg
  obtain ⟨kk, hk, hg⟩ := Option.bind_eq_some_iff.mp hg
  split at hg
  · rename_i ht
    obtain ⟨z, hz, rfl⟩ := Option.map_eq_some_iff.mp hg
    obtain ⟨a', vs, rfl, h1, q1⟩ := rl'.asD hd hp
    obtain ⟨v, g1, g2⟩ := (dget_ok h1 q1 (keyOf_ok he hk) ht).1 z hz
    rw [← eH]
    exact ⟨a', v, rfl, g1, k3 v w' (Le.refl w') rl' (.of g2)⟩
  · cases hg
def fIx (fa fb : FE) : FE := fun env M => (fBin gIx fa fb env M).or (fBin gDix fa fb env M)
theorem sIx (hu : X.A.units + 1 < cLine) (ha : SE X a fa) (hb : SE X b fb) (hs : PlainIx b := by intro _ _; rfl) (hs2 : NoSl b := by first | trivial | (intro _ _; rfl) | rfl) : SE X (.Subscript a b pos) (fIx fa fb) := (sIxS ha hb hs).or (sIxD hu ha hb hs2)
/-- k in d -/
def gInD (neg : Bool) : Mem → D → D → Option R := fun M e d => (asD M d).bind fun p => (keyOf e).bind fun k => if dkT k = p.1 then some (.v (.bl (if neg then !(dLook p.2 k).isSome else (dLook p.2 k).isSome))) else none
theorem op_InD (hu : X.A.units + 1 < cLine) : OpS X (compareOp .In) (gInD false) := fun pins s σ w0 w M x y v u d e r Q I rx ry l rl hd he hg k => by
  unfold gInD at hg
  obtain ⟨p, hp, hg⟩ := Option.bind_eq_some_iff.mp hg
  obtain ⟨kk, hk, hg⟩ := Option.bind_eq_some_iff.mp hg
  split at hg
  · rename_i ht
    cases hg
    obtain ⟨a', vs, rfl, h1, q1⟩ := rl.asD he hp
    obtain ⟨g1, g2⟩ := dget_ok h1 q1 (keyOf_ok hd hk) ht
    obtain rfl : u = Value.ref a' := ry
    cases hz : dLook p.2 kk with
    | none =>
      rw [hz] at k
      exact d_in hu I (g2 hz) rx fun s' I' => ⟨.bl false, w.H, I', rfl, k _ w (Le.refl w) rl (.of .mkBl)⟩
    | some z =>
      rw [hz] at k
      obtain ⟨v', e1, _⟩ := g1 z hz
      exact d_in hu I e1 rx fun s' I' => ⟨.bl true, w.H, I', rfl, k _ w (Le.refl w) rl (.of .mkBl)⟩
  · cases hg
theorem op_NotInD (hu : X.A.units + 1 < cLine) : OpS X (compareOp .NotIn) (gInD true) := fun pins s σ w0 w M x y v u d e r Q I rx ry l rl hd he hg k => by
  unfold gInD at hg
  obtain ⟨p, hp, hg⟩ := Option.bind_eq_some_iff.mp hg
  obtain ⟨kk, hk, hg⟩ := Option.bind_eq_some_iff.mp hg
  split at hg
  · rename_i ht
    cases hg
    obtain ⟨a', vs, rfl, h1, q1⟩ := rl.asD he hp
    obtain ⟨g1, g2⟩ := dget_ok h1 q1 (keyOf_ok hd hk) ht
    obtain rfl : u = Value.ref a' := ry
    cases hz : dLook p.2 kk with
    | none =>
      rw [hz] at k
      exact d_notIn hu I (g2 hz) rx fun s' I' => ⟨.bl true, w.H, I', rfl, k _ w (Le.refl w) rl (.of .mkBl)⟩
    | some z =>
      rw [hz] at k
      obtain ⟨v', e1, _⟩ := g1 z hz
      exact d_notIn hu I e1 rx fun s' I' => ⟨.bl false, w.H, I', rfl, k _ w (Le.refl w) rl (.of .mkBl)⟩
  · cases hg

/-! ### slices -/
abbrev FO := En → Mem → Option (Option Int × Mem)
def tIO (K : PySem.W.Frag) (mg : Str → Option Value) (f : FO) : TO := fun σ H Q => ∃ w env M o M', w.H = H ∧ Rl K mg w M ∧ RE K mg w σ env ∧ f env M = some (o, M') ∧ ∀ w', Le w w' → Rl K mg w' M' → Q o w'.H
abbrev SO (X : Cx) (e : Option Expr) (f : FO) : Prop := PO X e (tIO X.K X.mg f)
theorem PO.imp {e : Option Expr} {t t' : TO} (h : PO X e t) (k : ∀ σ H Q, t' σ H Q → t σ H Q) : PO X e t' := ⟨fun pins s σ H Q I q => h.run pins s σ H Q I (k σ H Q q)⟩
def fONo : FO := fun _ M => some (none, M)
def fOSo (f : FE) : FO := fun env M => (f env M).bind fun p => match p.1 with
  | .v (.int i) => some (some i, p.2)
  | _ => none
theorem soNo : SO X none fONo := PO.imp po_none fun σ H Q ⟨w, env, M, o, M', e, rl, re, hf, k⟩ => by
  subst e
  cases hf
  exact k w (Le.refl w) rl
theorem soSo (h : SE X e fa) : SO X (some e) (fOSo fa) := PO.imp (po_some h) fun σ H Q ⟨w, env, M, o, M', e, rl, re, hf, k⟩ => by
  unfold fOSo at hf
  obtain ⟨p, hp, hf⟩ := Option.bind_eq_some_iff.mp hf
  refine tI.mk e rl re hp fun v w1 l1 rl1 rr1 => ?_
  split at hf
  · rename_i i hi
    rw [hi] at rr1
    cases hf
    exact ⟨i, rr1.d.int, k w1 l1 rl1⟩
  · cases hf
def cutL {α : Type} (xs : List α) (lo hi : Option Int) : List α := (xs.drop (HT.sIx xs.length 0 lo)).take (HT.sIx xs.length xs.length hi - HT.sIx xs.length 0 lo)
def gSl : Mem → D → Option Int → Option Int → Option R := fun M d lo hi => match d with
  | .str x => if x.length ≤ sizeLine then some (.v (.str (cutS x lo hi))) else none
  | .tup xs => some (.v (.tup (cutL xs lo hi)))
  | d => (asLs M d).map fun xs => .n (.lst (cutL xs lo hi))
def fSl (fa : FE) (fl fh : FO) : FE := fun env M => (fa env M).bind fun p => (fl env p.2).bind fun q => (fh env q.2).bind fun t => (gSl t.2 p.1.fz q.1 t.1).map fun r => (r, t.2)
theorem RDs.cut {K : PySem.W.Frag} {mg : Str → Option Value} {w : Wo} {vs : List V} {ds : List D} (q : RDs K mg w vs ds) (lo hi : Option Int) : RDs K mg w (cutV vs lo hi) (cutL ds lo hi) := by
  unfold cutV cutL
  rw [q.length]
  exact (q.drop _).take _
theorem cutL_whole {α : Type} {xs : List α} {lo hi : Option Int} (h : HT.sIx xs.length 0 lo = 0 ∧ HT.sIx xs.length xs.length hi = xs.length) : cutL xs lo hi = xs := by
  unfold cutL
  rw [h.1, h.2]
  simp
theorem sSl {lo hi : Option Expr} {fl fh : FO} {p2 : Pos} (ha : SE X a fa) (hl : SO X lo fl) (hh : SO X hi fh) : SE X (.Subscript a (.Slice lo hi none p2) pos) (fSl fa fl fh) := by
  refine (pe_slice (sl_str.or (sl_tupA.or sl_list)) ha hl hh).imp fun σ H Q ⟨w, env, M, r, M', e, rl, re, hf, k⟩ => ?_
  unfold fSl at hf
  obtain ⟨p, hp, hf⟩ := Option.bind_eq_some_iff.mp hf
  obtain ⟨q, hq, hf⟩ := Option.bind_eq_some_iff.mp hf
  obtain ⟨t, ht, hf⟩ := Option.bind_eq_some_iff.mp hf
  obtain ⟨z, hz, hf⟩ := Option.map_eq_some_iff.mp hf
  cases hf
  refine tI.mk e rl re hp fun v w1 l1 rl1 rr1 => ?_
  obtain ⟨w1', l1', e1, b1, rl1', rd1, _⟩ := rr1.fz rl1 l1
  rw [← e1]
  refine ⟨w1', env, _, _, _, rfl, rl1', rl.re l1' re, hq, fun w2 l2 rl2 => ?_⟩
  refine ⟨w2, env, _, _, _, rfl, rl2, rl.re (l1'.trans l2) re, ht, fun w3 l3 rl3 => ?_⟩
  have l03 := (l1'.trans l2).trans l3
  have rd3 := rl1'.rd (l2.trans l3).toLe0 rd1
  unfold gSl at hz
  split at hz
  · rename_i x hx
    rw [hx] at rd3
    split at hz
    · rename_i hl
      cases hz
      exact .inl ⟨x, rd3.str, hl, k _ w3 l03 rl3 (.of .mkStr)⟩
    · cases hz
  · rename_i xs hx
    rw [hx] at rd3
    cases hz
    obtain ⟨a', vs, rfl, h1, q1⟩ := rd3.tup
    refine .inr (.inl ⟨a', vs, rfl, h1, fun hw => ?_, fun hw p' hp' => ?_⟩)
    · rw [q1.length] at hw
      rw [cutL_whole hw] at k
      exact k _ w3 l03 rl3 (.of rd3)
    · exact k _ (w3.lay p' _) (l03.trans (Le.lay hp')) (rl3.lay hp') (.of (RD.tupNew rl3 hp' (q1.cut _ _)))
  · obtain ⟨xs, hx, rfl⟩ := Option.map_eq_some_iff.mp hz
    obtain ⟨a', vs, rfl, h1, q1⟩ := rl3.asLs rd3 hx
    exact .inr (.inr ⟨a', vs, rfl, h1, fun p' hp' => k _ (w3.lay p' _) (l03.trans (Le.lay hp')) (rl3.lay hp') (RR.lst rl3 l03 hp' (q1.cut _ _))⟩)
/-- xs[::-1] of a list -/
def fRev (fa : FE) : FE := fun env M => (fa env M).bind fun p => (asLs p.2 p.1.fz).map fun xs => (.n (.lst xs.reverse), p.2)
theorem sRev {k : Nat} {p1 p2 p3 : Pos} (ha : SE X a fa) : SE X (.Subscript a (.Slice none none (some (.UnaryOp .USub (.Constant (.int 1) k p1) p2)) p3) pos) (fRev fa) := (pe_revL ha).imp fun σ H Q ⟨w, env, M, r, M', e, rl, re, hf, k⟩ => by
  unfold fRev at hf
  obtain ⟨p, hp, hf⟩ := Option.bind_eq_some_iff.mp hf
  obtain ⟨xs, hx, hf⟩ := Option.map_eq_some_iff.mp hf
  cases hf
  refine tI.mk e rl re hp fun v w1 l1 rl1 rr1 => ?_
  obtain ⟨w1', l1', e1, b1, rl1', rd1, _⟩ := rr1.fz rl1 l1
  obtain ⟨a', vs, rfl, h1, q1⟩ := rl1'.asLs rd1 hx
  rw [← e1]
  exact ⟨a', vs, rfl, h1, fun p' hp' => k _ (w1'.lay p' _) (l1'.trans (Le.lay hp')) (rl1'.lay hp') (RR.lst rl1' l1' hp' q1.rev)⟩

/-! ### attributes -/
/-- what is known of a class -/
structure ClF (X : Cx) (c : Str) (f : Str) : Prop where
  ok : ∀ C, X.mg c = some (.ref C) → Cls X.K C ∧ NoAttr X.K C f
def fAt (c f : Str) (fa : FE) : FE := fun env M => (fa env M).bind fun p => (asI p.2 p.1.fz).bind fun q => if q.1 = c then (q.2.lookup f).map fun d => (.v d, p.2) else none
theorem sAt {c f : Str} (hc : ClF X c f) (ha : SE X a fa) (hb : attributeBase a f X.env (eval a X.env) = eval a X.env := by rfl) : SE X (.Attribute a f pos) (fAt c f fa) := (pe_fld ha hb).imp fun σ H Q ⟨w, env, M, r, M', e, rl, re, hf, k⟩ => by
  unfold fAt at hf
  obtain ⟨p, hp, hf⟩ := Option.bind_eq_some_iff.mp hf
  obtain ⟨q, hq, hf⟩ := Option.bind_eq_some_iff.mp hf
  refine tI.mk e rl re hp fun v w1 l1 rl1 rr1 => ?_
  obtain ⟨w1', l1', e1, b1, rl1', rd1, _⟩ := rr1.fz rl1 l1
  split at hf
  · rename_i hqc
    obtain ⟨z, hz, hf⟩ := Option.map_eq_some_iff.mp hf
    cases hf
    obtain ⟨c', gs⟩ := q
    cases hqc
    obtain ⟨a', C, dx, fs, rfl, h1, h2, h3, h4⟩ := rl1'.asI rd1 hq
    obtain ⟨h5, h6⟩ := hc.ok C h1
    obtain ⟨v', h7, h8⟩ := fields_at h3 h4 hz
    rw [← e1]
    exact ⟨a', C, dx, fs, v', rfl, h2, h5, h6, h7, k v' w1' l1' rl1' (.of h8)⟩
  · cases hf

/-! ### built-ins -/
/-- a call by values -/
def CallS (X : Cx) (f : Value) (g : Mem → List D → Option R) : Prop :=
  ∀ (pins : List (Addr × Obj)) (s : Shared) (σ : L2.St) (w0 w : Wo) (M : Mem) (vs : List V) (us : List Value) (ds : List D) (r : R) (Q : VK), L2.Inv X pins σ w.H s → Vals vs us → Le w0 w → Rl X.K X.mg w M → RDs X.K X.mg w vs ds → g M ds = some r →
    (∀ z w', Le w w' → Rl X.K X.mg w' M → RR X.K X.mg w0 w' z r → Q z w'.H) → wpAny (model X.prog X.w) X.A (call f us) (EP X pins σ Q) X.xe s
theorem CallS.of {f : Value} {rr : List V → Hp → VK → Prop} {g : Mem → List D → Option R} (ho : CallR X f rr)
    (h : ∀ (w0 w : Wo) (M : Mem) (vs : List V) (ds : List D) (r : R) (Q : VK), Le w0 w → Rl X.K X.mg w M → RDs X.K X.mg w vs ds → g M ds = some r → (∀ z w', Le w w' → Rl X.K X.mg w' M → RR X.K X.mg w0 w' z r → Q z w'.H) → rr vs w.H Q) : CallS X f g :=
  fun pins s σ w0 w M vs us ds r Q I rv l rl hd hg k => ho pins s σ w.H vs us Q I rv (h w0 w M vs ds r Q l rl hd hg k)
theorem CallS.or {f : Value} {g g' : Mem → List D → Option R} (h : CallS X f g) (h' : CallS X f g') : CallS X f (fun M ds => (g M ds).or (g' M ds)) :=
  fun pins s σ w0 w M vs us ds r Q I rv l rl hd hg k => by
    dsimp only at hg
    cases q : g M ds with
    | some z => rw [q] at hg; cases hg; exact h pins s σ w0 w M vs us ds _ Q I rv l rl hd q k
    | none => rw [q] at hg; exact h' pins s σ w0 w M vs us ds _ Q I rv l rl hd hg k
def fCall (g : Mem → List D → Option R) (fs : FA) : FE := fun env M => (fs env M).bind fun p => (g p.2 p.1).map fun r => (r, p.2)
theorem tI.call {K : PySem.W.Frag} {mg : Str → Option Value} {g : Mem → List D → Option R} {σ : L2.St} {H : Hp} {Q : VK} (h : tI K mg (fCall g fr) σ H Q) :
    tIA K mg fr σ H fun vs H1 => ∃ w0 w M ds r, w.H = H1 ∧ Le w0 w ∧ Rl K mg w M ∧ RDs K mg w vs ds ∧ g M ds = some r ∧ ∀ z w', Le w w' → Rl K mg w' M → RR K mg w0 w' z r → Q z w'.H := by
  obtain ⟨w, env, M, r, M', e, rl, re, hf, k⟩ := h
  unfold fCall at hf
  obtain ⟨p, hp, hf⟩ := Option.bind_eq_some_iff.mp hf
  obtain ⟨z, hz, hf⟩ := Option.map_eq_some_iff.mp hf
  cases hf
  exact tIA.mk e rl re hp fun vs w1 l1 rl1 rd1 => ⟨w, w1, _, _, _, rfl, l1, rl1, rd1, hz, fun z w2 l2 rl2 rr2 => k z w2 (l1.trans l2) rl2 rr2⟩
theorem CallS.r {f : Value} {g : Mem → List D → Option R} (h : CallS X f g) : CallR X f (fun vs H1 Q => ∃ w0 w M ds r, w.H = H1 ∧ Le w0 w ∧ Rl X.K X.mg w M ∧ RDs X.K X.mg w vs ds ∧ g M ds = some r ∧ ∀ z w', Le w w' → Rl X.K X.mg w' M → RR X.K X.mg w0 w' z r → Q z w'.H) :=
  fun pins s σ H vs us Q I rv ⟨w0, w, M, ds, r, e, l, rl, rd, hg, k⟩ => by
    subst e
    exact h pins s σ w0 w M vs us ds r Q I rv l rl rd hg k
theorem sCallB {id : String} {x : Str} {p : Pos} {g : Mem → List D → Option R} (hc : CallS X (.builtin id) g) (hg : Gl X x) (hm : X.mg x = none) (hv : bootBuiltins x = some (.builtin id)) (ha : SA X (e :: es) fr) (hn : x ≠ "__name__" := by decide) (hdb : (x == ("__debug__" : Str)) = false := by decide)
    (he : starEach (e :: es) X.env = (false, eval e X.env) :: starEach es X.env := by rfl) (hpl : (backTo pos (starEach es X.env)).any (·.1) = false := by rfl) : SE X (.Call (.Name x p) (e :: es) [] pos) (fCall g fr) :=
  (pe_callB hc.r hg hm hv ha hn hdb he hpl).imp fun σ H Q h => h.call
theorem sCallT {T : String} {x : Str} {p : Pos} {g : Mem → List D → Option R} (hc : CallS X (.type T) g) (hg : Gl X x) (hm : X.mg x = none) (hv : bootBuiltins x = some (.type T)) (ha : SA X (e :: es) fr) (hn : x ≠ "__name__" := by decide) (hdb : (x == ("__debug__" : Str)) = false := by decide)
    (he : starEach (e :: es) X.env = (false, eval e X.env) :: starEach es X.env := by rfl) (hpl : (backTo pos (starEach es X.env)).any (·.1) = false := by rfl) : SE X (.Call (.Name x p) (e :: es) [] pos) (fCall g fr) :=
  (pe_callTy hc.r hg hm hv ha hn hdb he hpl).imp fun σ H Q h => h.call
end
end Fl
set_option Elab.async false
set_option linter.all false
set_option maxRecDepth 100000
/-! Fl4: targets, statements, loops. -/
namespace Fl
open PySem PySem.Spec PyProof.Rows L2
open Classical in
theorem dec_em (p : Prop) : p ∨ ¬ p := Classical.em p

inductive Fw where
  | nx | bk | ct
  | rt (r : R)
abbrev FS := En → Mem → Option (Fw × En × Mem)
section
variable (K : PySem.W.Frag) (mg : Str → Option Value)
def tIS (f : FS) : TS := fun D σ H => ∃ w env M fl env' M', w.H = H ∧ Rl K mg w M ∧ RE K mg w σ env ∧ f env M = some (fl, env', M') ∧ match fl with
  | .nx => ∀ σ' w', Le w w' → Rl K mg w' M' → RE K mg w' σ' env' → D.nx σ' w'.H
  | .bk => ∀ σ' w', Le w w' → Rl K mg w' M' → RE K mg w' σ' env' → D.bk σ' w'.H
  | .ct => ∀ σ' w', Le w w' → Rl K mg w' M' → RE K mg w' σ' env' → D.ct σ' w'.H
  | .rt r => ∀ v w', Le w w' → Rl K mg w' M' → RR K mg w w' v r → D.rt v w'.H
end
/-- what is wanted at a flow's end -/
def Wants (K : PySem.W.Frag) (mg : Str → Option Value) (D : Ends) (w : Wo) (fl : Fw) (env' : En) (M' : Mem) : Prop := match fl with
  | .nx => ∀ σ' w', Le w w' → Rl K mg w' M' → RE K mg w' σ' env' → D.nx σ' w'.H
  | .bk => ∀ σ' w', Le w w' → Rl K mg w' M' → RE K mg w' σ' env' → D.bk σ' w'.H
  | .ct => ∀ σ' w', Le w w' → Rl K mg w' M' → RE K mg w' σ' env' → D.ct σ' w'.H
  | .rt r => ∀ v w', Le w w' → Rl K mg w' M' → RR K mg w w' v r → D.rt v w'.H
theorem Wants.le {K : PySem.W.Frag} {mg : Str → Option Value} {D : Ends} {w w1 : Wo} {fl : Fw} {env' : En} {M' : Mem} (l : Le w w1) (h : Wants K mg D w fl env' M') : Wants K mg D w1 fl env' M' := by
  cases fl with
  | nx => exact fun σ' w' l' => h σ' w' (l.trans l')
  | bk => exact fun σ' w' l' => h σ' w' (l.trans l')
  | ct => exact fun σ' w' l' => h σ' w' (l.trans l')
  | rt r => exact fun v w' l' rl rr => h v w' (l.trans l') rl (rr.bk l l')
theorem tIS.mk {K : PySem.W.Frag} {mg : Str → Option Value} {f : FS} {D : Ends} {σ : L2.St} {H : Hp} {w : Wo} {env env' : En} {M M' : Mem} {fl : Fw} (e : w.H = H) (rl : Rl K mg w M) (re : RE K mg w σ env) (hf : f env M = some (fl, env', M'))
    (h : Wants K mg D w fl env' M') : tIS K mg f D σ H := ⟨w, env, M, fl, env', M', e, rl, re, hf, h⟩
theorem tIS.out {K : PySem.W.Frag} {mg : Str → Option Value} {f : FS} {D : Ends} {σ : L2.St} {H : Hp} (h : tIS K mg f D σ H) : ∃ w env M fl env' M', w.H = H ∧ Rl K mg w M ∧ RE K mg w σ env ∧ f env M = some (fl, env', M') ∧ Wants K mg D w fl env' M' := h
abbrev SS (X : Cx) (st : Stmt) (f : FS) : Prop := PS X st (tIS X.K X.mg f)
abbrev SSs (X : Cx) (st : List Stmt) (f : FS) : Prop := PSs X st (tIS X.K X.mg f)
section
variable {X : Cx} {e a b c o : Expr} {es : List Expr} {fa fb fc fo : FE} {fr : FA} {pos pos' : Pos} {st : Stmt} {rest : List Stmt} {f g : FS}

/-! ### blocks -/
def fSkip : FS := fun env M => some (.nx, env, M)
def fSeq (f g : FS) : FS := fun env M => (f env M).bind fun p => match p.1 with
  | .nx => g p.2.1 p.2.2
  | _ => some p
theorem ssNil : SSs X [] fSkip := PSs.imp pss_nil fun D σ H h => by
  obtain ⟨w, env, M, fl, env', M', e, rl, re, hf, k⟩ := h.out
  subst e
  cases hf
  exact k σ w (Le.refl w) rl re
theorem ssOne (h : SS X st f) : SSs X [st] f := pss_one h
theorem ssCons (h : SS X st f) (h' : SSs X rest g) : SSs X (st :: rest) (fSeq f g) := PSs.imp (pss_cons h h') fun D σ H q => by
  obtain ⟨w, env, M, fl, env', M', e, rl, re, hf, k⟩ := q.out
  unfold fSeq at hf
  obtain ⟨⟨fl1, env1, Ma⟩, hp, hf⟩ := Option.bind_eq_some_iff.mp hf
  refine tIS.mk e rl re hp ?_
  cases fl1 with
  | nx => exact fun σ1 w1 l1 rl1 re1 => tIS.mk rfl rl1 re1 hf (k.le l1)
  | bk => cases hf; exact k
  | ct => cases hf; exact k
  | rt r => cases hf; exact k
def fPass : FS := fSkip
theorem ssPass : SS X (.Pass pos) fSkip := PS.imp ps_pass fun D σ H h => by
  obtain ⟨w, env, M, fl, env', M', e, rl, re, hf, k⟩ := h.out
  subst e
  cases hf
  exact k σ w (Le.refl w) rl re
def fBrk : FS := fun env M => some (.bk, env, M)
def fCnt : FS := fun env M => some (.ct, env, M)
theorem ssBrk : SS X (.Break pos) fBrk := PS.imp ps_break fun D σ H h => by
  obtain ⟨w, env, M, fl, env', M', e, rl, re, hf, k⟩ := h.out
  subst e
  cases hf
  exact k σ w (Le.refl w) rl re
theorem ssCnt : SS X (.Continue pos) fCnt := PS.imp ps_continue fun D σ H h => by
  obtain ⟨w, env, M, fl, env', M', e, rl, re, hf, k⟩ := h.out
  subst e
  cases hf
  exact k σ w (Le.refl w) rl re
def fRet (f : FE) : FS := fun env M => (f env M).map fun p => (.rt p.1, env, p.2)
theorem ssRet (h : SE X e fa) : SS X (.Return (some e) pos) (fRet fa) := PS.imp (ps_ret h) fun D σ H h => by
  obtain ⟨w, env, M, fl, env', M', e, rl, re, hf, k⟩ := h.out
  unfold fRet at hf
  obtain ⟨p, hp, hf⟩ := Option.map_eq_some_iff.mp hf
  cases hf
  exact tI.mk e rl re hp k
def fIfS (q : FT) (f g : FS) : FS := fun env M => (q env M).bind fun p => if p.1 then f env p.2 else g env p.2
theorem ssIf {s1 s2 : List Stmt} {q : FT} (hc : SQ X c q) (h1 : SSs X s1 f) (h2 : SSs X s2 g) : SS X (.If c s1 s2 pos) (fIfS q f g) := PS.imp (ps_if hc h1 h2) fun D σ H h => by
  obtain ⟨w, env, M, fl, env', M', e, rl, re, hf, k⟩ := h.out
  unfold fIfS at hf
  obtain ⟨p, hp, hf⟩ := Option.bind_eq_some_iff.mp hf
  refine tQ.mk e rl re hp fun w1 l1 rl1 => ?_
  cases c : p.1 with
  | true => rw [c] at hf; exact tIS.mk rfl rl1 (rl.re l1 re) hf (k.le l1)
  | false => rw [c] at hf; exact tIS.mk rfl rl1 (rl.re l1 re) hf (k.le l1)
/-- an expression alone -/
def fExp (f : FE) : FS := fun env M => (f env M).map fun p => (.nx, env, p.2)
theorem ssExp (h : SE X e fa) (hs : swapsWith e none pos.line X.env = pure false := by rfl) : SS X (.Expr e pos) (fExp fa) := PS.imp (ps_expr h hs) fun D σ H h => by
  obtain ⟨w, env, M, fl, env', M', e, rl, re, hf, k⟩ := h.out
  unfold fExp at hf
  obtain ⟨p, hp, hf⟩ := Option.map_eq_some_iff.mp hf
  cases hf
  exact tI.mk e rl re hp fun v w1 l1 rl1 rr1 => k σ w1 l1 rl1 (rl.re l1 re)

/-! ### targets -/
abbrev FB := D → En → Option En
/-- only these slots are written -/
structure Slots (js : List Nat) (σ σ' : L2.St) : Prop where
  len : σ'.length = σ.length
  at_ : ∀ i, i ∉ js → σ'[i]? = σ[i]?
theorem Slots.refl (js : List Nat) (σ : L2.St) : Slots js σ σ := ⟨rfl, fun _ _ => rfl⟩
theorem Slots.trans {js : List Nat} {σ σ1 σ2 : L2.St} (h : Slots js σ σ1) (k : Slots js σ1 σ2) : Slots js σ σ2 := ⟨k.len.trans h.len, fun i hi => (k.at_ i hi).trans (h.at_ i hi)⟩
theorem Slots.mono {js ks : List Nat} {σ σ1 : L2.St} (h : Slots js σ σ1) (k : ∀ i ∈ js, i ∈ ks) : Slots ks σ σ1 := ⟨h.len, fun i hi => h.at_ i fun z => hi (k i z)⟩
theorem Slots.set {js : List Nat} {σ : L2.St} {i : Nat} {v : Option V} (h : i ∈ js) : Slots js σ (σ.set i v) := ⟨List.length_set, fun j hj => List.getElem?_set_ne fun e => hj (by rw [← e]; exact h)⟩
def tIG (K : PySem.W.Frag) (mg : Str → Option Value) (js : List Nat) (b : FB) : TG := fun v σ H Q => ∃ w env M d env', w.H = H ∧ Rl K mg w M ∧ RE K mg w σ env ∧ RD K mg w v d ∧ b d env = some env' ∧ ∀ σ', Slots js σ σ' → RE K mg w σ' env' → Q σ' H
def tIGs (K : PySem.W.Frag) (mg : Str → Option Value) (js : List Nat) (b : List D → En → Option En) : TGs := fun vs σ H Q => ∃ w env M ds env', w.H = H ∧ Rl K mg w M ∧ RE K mg w σ env ∧ RDs K mg w vs ds ∧ b ds env = some env' ∧ ∀ σ', Slots js σ σ' → RE K mg w σ' env' → Q σ' H
abbrev SG (X : Cx) (t : Expr) (js : List Nat) (b : FB) : Prop := PG X t (tIG X.K X.mg js b)
abbrev SGs (X : Cx) (ts : List Expr) (js : List Nat) (b : List D → En → Option En) : Prop := PGs X ts (tIGs X.K X.mg js b)
def bName (i : Nat) : FB := fun d env => some (env.set i (some d))
def bNil : List D → En → Option En := fun ds env => match ds with
  | [] => some env
  | _ => none
def bCons (b : FB) (bs : List D → En → Option En) : List D → En → Option En := fun ds env => match ds with
  | d :: ds => (b d env).bind (bs ds)
  | [] => none
def bTup (n : Nat) (bs : List D → En → Option En) : FB := fun d env => match d with
  | .tup ds => if ds.length = n then bs ds env else none
  | .ktp ds => if ds.length = n then bs ds env else none
  | _ => none
theorem sgName (i : Nat) {x : Str} (hN : X.N.Nodup) (hi : X.N[i]? = some x := by rfl) (hx : Loc X.env.scope x := by first | exact Or.inl rfl | exact Or.inr rfl) (hf : X.fn x = true ∨ X.env.scope.names.lookup x = some .local := by first | exact .inl rfl | exact .inr rfl | assumption) : SG X (.Name x pos) [i] (bName i) :=
  PG.imp (pg_name hN hi hx hf) fun v σ H Q ⟨w, env, M, d, env', e, rl, re, rd, hb, k⟩ => by
    cases hb
    exact k _ (Slots.set (List.mem_singleton.mpr rfl)) (re.set rd)
theorem sgNil : SGs X [] [] bNil := by
  refine ⟨fun pins s σ H vs us Q I r ⟨w, env, M, ds, env', e, rl, re, rd, hb, k⟩ => pgs_nil.run pins s σ H vs us Q I r ?_⟩
  unfold bNil at hb
  split at hb
  · cases hb
    have : vs = [] := List.eq_nil_of_length_eq_zero (by rw [rd.length]; rfl)
    exact ⟨this, k σ (Slots.refl [] σ) re⟩
  · cases hb
theorem sgCons {b' : FB} {bs : List D → En → Option En} {js ks : List Nat} (h1 : SG X e js b') (h2 : SGs X es ks bs) (hs : (assignEach (e :: es) X.env).map (·.2) = assign e X.env :: (assignEach es X.env).map (·.2) := by rfl) : SGs X (e :: es) (js ++ ks) (bCons b' bs) := by
  refine ⟨fun pins s σ H vs us Q I r ⟨w, env, M, ds, env', eH, rl, re, rd, hb, k⟩ => (pgs_cons h1 h2 hs).run pins s σ H vs us Q I r ?_⟩
  unfold bCons at hb
  split at hb
  · rename_i d ds
    obtain ⟨env1, hb1, hb2⟩ := Option.bind_eq_some_iff.mp hb
    cases vs with
    | nil => simp only [RDs] at rd
    | cons v vs => exact ⟨v, vs, rfl, w, env, M, d, env1, eH, rl, re, rd.head, hb1, fun σ1 s1 re1 => ⟨w, env1, M, ds, env', eH, rl, re1, rd.tail, hb2, fun σ2 s2 re2 => k σ2 ((s1.mono fun i hi => List.mem_append_left _ hi).trans (s2.mono fun i hi => List.mem_append_right _ hi)) re2⟩⟩
  · cases hb
theorem sgTup {k0 n : Nat} {bs : List D → En → Option En} {js : List Nat} (hc : X.calm = true) (h : SGs X es js bs) (hn : (assignEach es X.env).length = n := by rfl) (hst : (assignEach es X.env).findIdx? (·.1) = none := by rfl) : SG X (.Tuple es k0 pos) js (bTup n bs) :=
  PG.imp (pg_tup hc h hn hst) fun v σ H Q ⟨w, env, M, d, env', e, rl, re, rd, hb, k⟩ => by
    subst e
    unfold bTup at hb
    split at hb
    · split at hb
      · rename_i hl
        obtain ⟨a, vs, rfl, h1, q1⟩ := rd.tup
        exact ⟨a, vs, rfl, h1, by rw [q1.length]; exact hl, w, env, M, _, env', rfl, rl, re, q1, hb, k⟩
      · cases hb
    · split at hb
      · rename_i hl
        simp only [RD] at rd
        obtain ⟨a, vs, rfl, h1, q1⟩ := rd
        exact ⟨a, vs, rfl, .inr h1, by rw [q1.length]; exact hl, w, env, M, _, env', rfl, rl, re, q1, hb, k⟩
      · cases hb
    · cases hb

/-! ### stores -/
/-- target = e: a new object joins the memory -/
def fAsg (b : FB) (f : FE) : FS := fun env M => (f env M).bind fun p => (b (p.1.al p.2).1 env).map fun env' => (.nx, env', (p.1.al p.2).2)
theorem asg_ok {K : PySem.W.Frag} {mg : Str → Option Value} {b' : FB} {js : List Nat} {D : Ends} {σ : L2.St} {H : Hp} (h : tIS K mg (fAsg b' fa) D σ H) : tAsg (tI K mg fa) (tIG K mg js b') D σ H := by
  obtain ⟨w, env, M, fl, env', M', e, rl, re, hf, k⟩ := h.out
  unfold fAsg at hf
  obtain ⟨p, hp, hf⟩ := Option.bind_eq_some_iff.mp hf
  obtain ⟨env1, hb, hf⟩ := Option.map_eq_some_iff.mp hf
  cases hf
  refine tI.mk e rl re hp fun v w1 l1 rl1 rr1 => ?_
  obtain ⟨w1', l1', e1, rl1', rd1, P⟩ := rr1.al rl1 l1
  rw [← e1]
  exact ⟨w1', env, _, _, _, rfl, rl1', (rl.re l1 re).imp P, rd1, hb, fun σ' _ re' => k σ' w1' l1' rl1' re'⟩
theorem ssAsg {b' : FB} {js : List Nat} {tg : Expr} (he : SE X e fa) (hg : SG X tg js b') (hs : swapsWithSole [tg] e pos.line X.env = pure false := by rfl) (hw : swappedStores [tg] e X.env = pure none := by rfl)
    (h1 : (assignEach [tg] X.env).map (·.2) = [assign tg X.env] := by rfl) : SS X (.Assign [tg] e pos) (fAsg b' fa) := PS.imp (ps_asg he hg hs hw h1) fun D σ H h => asg_ok h
/-- a, b = x, y: two plain names -/
def fPar (i j : Nat) (fr : FA) : FS := fun env M => (fr env M).bind fun p => match p.1 with
  | [d, d'] => some (.nx, (env.set i (some d)).set j (some d'), p.2)
  | _ => none
theorem ssPar {i j : Nat} {x y : Str} {px py pt : Pos} {kt k2 pt2} (hc : X.calm = true) (hN : X.N.Nodup) (ha : SA X [a, b] fr) (hi : X.N[i]? = some x := by rfl) (hj : X.N[j]? = some y := by rfl) (hij : i ≠ j := by decide)
    (hx : X.env.scope.names.lookup x = some .local := by rfl) (hy : X.env.scope.names.lookup y = some .local := by rfl) (hw : swappedStores [.Tuple [.Name x px, .Name y py] kt pt] (.Tuple [a, b] k2 pt2) X.env = pure (some [x, y]) := by rfl)
    (hs : swapsWithSole [.Tuple [.Name x px, .Name y py] kt pt] (.Tuple [a, b] k2 pt2) pos.line X.env = pure false := by rfl) :
    SS X (.Assign [.Tuple [.Name x px, .Name y py] kt pt] (.Tuple [a, b] k2 pt2) pos) (fPar i j fr) := PS.imp (ps_par hc hN hi hj hij hx hy ha hw hs) fun D σ H h => by
  obtain ⟨w, env, M, fl, env', M', e, rl, re, hf, k⟩ := h.out
  unfold fPar at hf
  obtain ⟨p, hp, hf⟩ := Option.bind_eq_some_iff.mp hf
  refine tIA.mk e rl re hp fun vs w1 l1 rl1 rd1 => ?_
  split at hf
  · rename_i d d' hd
    rw [hd] at rd1
    cases hf
    cases vs with
    | nil => simp only [RDs] at rd1
    | cons v vs => cases vs with
      | nil => simp only [RDs] at rd1; exact rd1.2.elim
      | cons v' vs => cases vs with
        | nil => exact ⟨v, v', rfl, k _ w1 l1 rl1 (((rl.re l1 re).set rd1.head).set rd1.tail.head)⟩
        | cons _ _ => simp only [RDs] at rd1; exact rd1.2.2.elim
  · cases hf

/-! ### writing into the memory -/
section
variable {K : PySem.W.Frag} {mg : Str → Option Value} {w : Wo} {M : Mem}
theorem Le0.put {n : Nat} {a : Addr} {u : HO} (hb : w.β[n]? = some a) (hnt : ∀ vs, w.H a ≠ some (.tup vs)) : Le0 w (w.lay a u) := by
  have hab : a ∈ w.β := List.mem_iff_getElem?.mpr ⟨n, hb⟩
  exact ⟨fun c z hc e => by
      show upd w.H a u c = _
      rw [upd_ne (by intro e2; subst e2; exact hc hab)]; exact e, fun c vs e => by
      show upd w.H a u c = _
      rw [upd_ne (by intro e2; subst e2; exact hnt vs e)]; exact e, fun _ g => g, fun _ _ e => e, fun _ z => .inl z⟩
theorem Le.put {n : Nat} {a : Addr} {u : HO} (hb : w.β[n]? = some a) (hnt : ∀ vs, w.H a ≠ some (.tup vs)) (hnf : ∀ o u, w.H a ≠ some (.frz o u)) : Le w (w.lay a u) :=
  ⟨Le0.put hb hnt, fun _ g => .inl g, fun c o v e => by
      show upd w.H a u c = _
      rw [upd_ne (by intro e2; subst e2; exact hnf o v e)]; exact e⟩
/-- the n-th object is written -/
theorem Rl.put (rl : Rl K mg w M) {n : Nat} {a : Addr} {o' : O} {u : HO} (hb : w.β[n]? = some a) (hm : ∃ o, M[n]? = some o) (hnt : ∀ vs, w.H a ≠ some (.tup vs)) (ho : RO K mg (w.lay a u) a o') :
    Rl K mg (w.lay a u) (M.set n o') := by
  have hab : a ∈ w.β := List.mem_iff_getElem?.mpr ⟨n, hb⟩
  have l : Le0 w (w.lay a u) := Le0.put hb hnt
  refine ⟨rl.nd, ?_, rl.dj, fun c g => ?_, fun m c o h1 h2 => ?_⟩
  · show w.β.length = (M.set n o').length
    rw [List.length_set]; exact rl.len
  · have hc : c ≠ a := fun z => by subst z; exact rl.dj c g hab
    show upd w.H a u c ≠ none
    rw [upd_ne hc]; exact rl.tr c g
  · have h1 : w.β[m]? = some c := h1
    by_cases hmn : m = n
    · subst hmn
      rw [hb] at h1; cases h1
      obtain ⟨o0, e0⟩ := hm
      rw [List.getElem?_set_self (List.getElem?_eq_some_iff.mp e0).1] at h2
      cases h2
      exact ho
    · rw [List.getElem?_set_ne (Ne.symm hmn)] at h2
      have hc : c ≠ a := fun z => by
        subst z
        obtain ⟨i1, e1⟩ := List.getElem?_eq_some_iff.mp h1
        obtain ⟨i2, e2⟩ := List.getElem?_eq_some_iff.mp hb
        exact hmn ((List.getElem_inj rl.nd).mp (e1.trans e2.symm))
      exact rl.ro l (fun z e => by show upd w.H a u c = _; rw [upd_ne hc]; exact e) (rl.ob m c o h1 h2)
end
/-- o[i] = v by values -/
def SetS (X : Cx) (g : Mem → D → D → D → Option Mem) : Prop :=
  ∀ (pins : List (Addr × Obj)) (s : Shared) (σ : L2.St) (w : Wo) (M M' : Mem) (x y z : V) (ov iv u : Value) (d i e : D) (Q : Hp → Prop), L2.Inv X pins σ w.H s → RelV x ov → RelV y iv → RelV z u → Rl X.K X.mg w M → RD X.K X.mg w x d → RD X.K X.mg w y i → RD X.K X.mg w z e → g M d i e = some M' →
    (∀ w', Le w w' → Rl X.K X.mg w' M' → Q w'.H) → wpAny (model X.prog X.w) X.A (setItem ov iv u) (fun _ s' => ∃ H', L2.Inv X pins σ H' s' ∧ Q H') X.xe s
/-- a list's item -/
def gSetL : Mem → D → D → D → Option Mem := fun M d i e => match d, i with
  | .ref n, .int i => match M[n]? with
    | some (.lst xs) => (ixN xs.length i).map fun j => M.set n (.lst (xs.set j e))
    | _ => none
  | _, _ => none
theorem set_L : SetS X gSetL := by
  intro pins s σ w M M' x y z ov iv u d i e Q I rx ry rz rl hd hi he hg k
  unfold gSetL at hg
  split at hg
  · rename_i n i
    split at hg
    · rename_i xs hM
      obtain ⟨j, hj, rfl⟩ := Option.map_eq_some_iff.mp hg
      simp only [RD] at hd
      obtain ⟨a, rfl, hb⟩ := hd
      obtain ⟨vs, h1, q1⟩ := rl.ob n a _ hb hM
      refine set_list pins s σ w.H _ y z ov iv u Q I rx ry rz ⟨a, vs, i, j, rfl, hi.int, h1, by rw [q1.length]; exact hj, ?_⟩
      have l : Le w (w.lay a (.lst (vs.set j z))) := Le.put hb (fun us => by rw [h1]; simp) (fun _ _ => by rw [h1]; simp)
      have rl' := rl.put (u := .lst (vs.set j z)) (o' := .lst (xs.set j e)) hb ⟨_, hM⟩ (fun us => by rw [h1]; simp) ⟨vs.set j z, Wo.lay_at, (rl.rds l q1).set (rl.rd l he)⟩
      exact k _ l rl'
    · cases hg
  · cases hg
/-- a dict's entry -/
def gSetD : Mem → D → D → D → Option Mem := fun M d i e => match d with
  | .ref n => match M[n]? with
    | some (.dic t kvs) => (keyOf i).bind fun k => if dkT k = t ∧ kvs.length < sizeLine then some (M.set n (.dic t (dPut kvs k e))) else none
    | _ => none
  | _ => none
theorem put_g {K : PySem.W.Frag} {mg : Str → Option Value} {w : Wo} {κ : Type} [DecidableEq κ] (f : κ → DK) (inj : ∀ a b, f a = f b → a = b) (k : κ) {v : V} {d : D} (hv : RD K mg w v d) {kv : List (κ × V)} {kvs : List (DK × D)} (h : kvs.map (·.1) = kv.map (fun p => f p.1)) (q : RDs K mg w (kv.map (·.2)) (kvs.map (·.2))) :
    (dPut kvs (f k) d).map (·.1) = (putK kv k v).map (fun p => f p.1) ∧ RDs K mg w ((putK kv k v).map (·.2)) ((dPut kvs (f k) d).map (·.2)) := by
  have any : ∀ {kv : List (κ × V)} {kvs : List (DK × D)}, kvs.map (·.1) = kv.map (fun p => f p.1) → (kvs.any fun p => decide (p.1 = f k)) = (kv.any fun p => decide (p.1 = k)) := by
    intro kv
    induction kv with
    | nil => intro kvs h; cases kvs with
      | nil => rfl
      | cons _ _ => simp at h
    | cons p kv ih => intro kvs h; cases kvs with
      | nil => simp at h
      | cons p' kvs =>
        simp only [List.map_cons, List.cons.injEq] at h
        rw [List.any_cons, List.any_cons, ih h.2, h.1]
        congr 1
        by_cases e : p.1 = k
        · rw [decide_eq_true e, decide_eq_true (by rw [e])]
        · rw [decide_eq_false e, decide_eq_false (fun z => e (inj _ _ z))]
  unfold dPut putK
  rw [any h]
  split
  · rename_i hany
    clear hany any
    induction kv generalizing kvs with
    | nil => cases kvs with
      | nil => exact ⟨rfl, .nil⟩
      | cons _ _ => simp at h
    | cons p kv ih => cases kvs with
      | nil => simp at h
      | cons p' kvs =>
        obtain ⟨x, y⟩ := p
        obtain ⟨x', y'⟩ := p'
        simp only [List.map_cons, List.cons.injEq] at h
        obtain ⟨rfl, h⟩ := h
        obtain ⟨i1, i2⟩ := ih h q.tail
        by_cases e : x = k
        · subst e
          simp only [List.map_cons, if_true, List.cons.injEq, true_and]
          exact ⟨i1, .cons hv i2⟩
        · have : ¬ f x = f k := fun z => e (inj _ _ z)
          simp only [List.map_cons, if_neg e, if_neg this, List.cons.injEq, true_and]
          exact ⟨i1, .cons q.head i2⟩
  · simp only [List.map_append, List.map_cons, List.map_nil, h, true_and]
    exact q.app (.cons hv .nil)
theorem set_D (hu : X.A.units + 1 < cLine) : SetS X gSetD := by
  intro pins s σ w M M' x y z ov iv u d i e Q I rx ry rz rl hd hi he hg k
  unfold gSetD at hg
  split at hg
  · rename_i n
    split at hg
    · rename_i t kvs hM
      obtain ⟨kk, hk, hg⟩ := Option.bind_eq_some_iff.mp hg
      split at hg
      · rename_i hc
        obtain ⟨ht, hlen⟩ := hc
        cases hg
        simp only [RD] at hd
        obtain ⟨a, rfl, hb⟩ := hd
        obtain ⟨vs, h1, q1⟩ := rl.ob n a _ hb hM
        obtain rfl : ov = Value.ref a := rx
        have hy := keyOf_ok hi hk
        have lay : ∀ u : HO, (∀ vs, w.H a ≠ some (.tup vs)) → Le0 w (w.lay a u) := fun u hnt => Le0.put hb hnt
        cases kk with
        | k κ =>
          cases ht
          obtain ⟨kv, g1, g2, rfl⟩ := h1
          have nt : ∀ vs, w.H a ≠ some (.tup vs) := fun us => by rw [g1]; simp
          have hl : kv.length < sizeLine := by have := congrArg List.length g2; simp at this; omega
          refine d_setItem hu I (DPut.k (k := κ) (v := z) g1 hl) (by rw [show y = kV κ from hy] at ry; exact ry) rz fun s' I' => ⟨_, I', ?_⟩
          obtain ⟨p1, p2⟩ := put_g DK.k (fun _ _ z => DK.k.inj z) κ (rl.rd (lay (.dK (putK kv κ z)) nt) he) g2 (rl.rds (lay (.dK (putK kv κ z)) nt) q1)
          have l : Le w (w.lay a (.dK (putK kv κ z))) := Le.put hb nt (fun _ _ => by rw [g1]; simp)
          have rl' := rl.put (u := .dK (putK kv κ z)) (o' := .dic false (dPut kvs (.k κ) e)) hb ⟨_, hM⟩ nt ⟨_, ⟨_, Wo.lay_at, p1, rfl⟩, p2⟩
          exact k _ l rl'
        | t xs =>
          cases ht
          obtain ⟨b, hyb, hbt⟩ := hy
          obtain ⟨kv, g1, g2, rfl⟩ := h1
          have nt : ∀ vs, w.H a ≠ some (.tup vs) := fun us => by rw [g1]; simp
          have hl : kv.length < sizeLine := by have := congrArg List.length g2; simp at this; omega
          refine d_setItem hu I (DPut.t (k := xs) (v := z) g1 hbt hl) (by rw [hyb] at ry; exact ry) rz fun s' I' => ⟨_, I', ?_⟩
          obtain ⟨p1, p2⟩ := put_g DK.t (fun _ _ z => DK.t.inj z) xs (rl.rd (lay (.dT (putK kv xs z)) nt) he) g2 (rl.rds (lay (.dT (putK kv xs z)) nt) q1)
          have l : Le w (w.lay a (.dT (putK kv xs z))) := Le.put hb nt (fun _ _ => by rw [g1]; simp)
          have rl' := rl.put (u := .dT (putK kv xs z)) (o' := .dic true (dPut kvs (.t xs) e)) hb ⟨_, hM⟩ nt ⟨_, ⟨_, Wo.lay_at, p1, rfl⟩, p2⟩
          exact k _ l rl'
      · cases hg
    · cases hg
  · cases hg
theorem SetS.or {g g' : Mem → D → D → D → Option Mem} (h : SetS X g) (h' : SetS X g') : SetS X (fun M d i e => (g M d i e).or (g' M d i e)) := by
  intro pins s σ w M M' x y z ov iv u d i e Q I rx ry rz rl hd hi he hg k
  dsimp only at hg
  cases q : g M d i e with
  | some t => rw [q] at hg; cases hg; exact h pins s σ w M _ x y z ov iv u d i e Q I rx ry rz rl hd hi he q k
  | none => rw [q] at hg; exact h' pins s σ w M _ x y z ov iv u d i e Q I rx ry rz rl hd hi he hg k
def gSet : Mem → D → D → D → Option Mem := fun M d i e => (gSetL M d i e).or (gSetD M d i e)
theorem set_S (hu : X.A.units + 1 < cLine) : SetS X gSet := set_L.or (set_D hu)
/-- o[i] = e -/
def fSet (fo fi fe : FE) : FS := fun env M => (fe env M).bind fun p => (fo env (p.1.al p.2).2).bind fun q => (fi env q.2).bind fun t => (gSet t.2 q.1.fz t.1.fz (p.1.al p.2).1).map fun M' => (.nx, env, M')
theorem ssSet {i : Expr} {fi : FE} (hu : X.A.units + 1 < cLine) (ho : SE X o fo) (hi : SE X i fi) (he : SE X e fa) (hs : swapsWithSole [.Subscript o i pos'] e pos.line X.env = pure false := by rfl) (hw : swappedStores [.Subscript o i pos'] e X.env = pure none := by rfl)
    (h1 : (assignEach [.Subscript o i pos'] X.env).map (·.2) = [assign (.Subscript o i pos') X.env] := by rfl)
    (ha : ∀ v, assign (.Subscript o i pos') X.env v = (do
      let ov ← holding [v] (eval o X.env)
      let iv ← holding [v, ov] (eval i X.env)
      standAt pos'
      holding [v, ov, iv] (setItem ov iv v)
      release [v, ov, iv] []) := by intro _; rfl) : SS X (.Assign [.Subscript o i pos'] e pos) (fSet fo fi fa) := by
  refine ⟨fun pins s σ H D I h => ?_⟩
  obtain ⟨w, env, M, fl, env', M', eH, rl, re, hf, k⟩ := h.out
  subst eH
  unfold fSet at hf
  obtain ⟨p, hp, hf⟩ := Option.bind_eq_some_iff.mp hf
  obtain ⟨q, hq, hf⟩ := Option.bind_eq_some_iff.mp hf
  obtain ⟨t, ht, hf⟩ := Option.bind_eq_some_iff.mp hf
  obtain ⟨Mz, hz, hf⟩ := Option.map_eq_some_iff.mp hf
  cases hf
  refine wpAny_Assign_stores (thn (he.run pins s σ w.H (fun v H1 => ∃ w1, w1.H = H1 ∧ Le w w1 ∧ Rl X.K X.mg w1 (p.1.al p.2).2 ∧ RD X.K X.mg w1 v (p.1.al p.2).1 ∧ RE X.K X.mg w1 σ env) I (tI.mk rfl rl re hp fun v w1 l1 rl1 rr1 => ?_)) fun v s1 ⟨x, H1, I1, r1, w1, e1, l1, rl1, rd1, re1⟩ => ?_) hs hw
  · obtain ⟨w1', l1', e1, rl1', rd1, P⟩ := rr1.al rl1 l1
    exact ⟨w1', e1, l1', rl1', rd1, (rl.re l1 re).imp P⟩
  · subst e1
    rw [h1]
    show wpAny _ _ (assign (.Subscript o i pos') X.env v) _ _ _
    rw [ha]
    refine wpAny_bind (wpAny_holding (thn (ho.run pins s1 σ w1.H (fun v H1 => ∃ w2, w2.H = H1 ∧ Le w1 w2 ∧ Rl X.K X.mg w2 q.2 ∧ RD X.K X.mg w2 v q.1.fz) I1 (tI.mk rfl rl1 re1 hq fun v w2 l2 rl2 rr2 => ?_)) fun ov s2 ⟨x2, H2, I2, r2, w2, e2, l2, rl2, rd2⟩ => ?_))
    · obtain ⟨w2', l2', e2, b2, rl2', rd2, _⟩ := rr2.fz rl2 l2
      exact ⟨w2', e2, l2', rl2', rd2⟩
    · subst e2
      refine wpAny_bind (wpAny_holding (thn (hi.run pins s2 σ w2.H (fun v H1 => ∃ w3, w3.H = H1 ∧ Le w2 w3 ∧ Rl X.K X.mg w3 t.2 ∧ RD X.K X.mg w3 v t.1.fz) I2 (tI.mk rfl rl2 (rl1.re l2 re1) ht fun v w3 l3 rl3 rr3 => ?_)) fun iv s3 ⟨x3, H3, I3, r3, w3, e3, l3, rl3, rd3⟩ => ?_))
      · obtain ⟨w3', l3', e3, b3, rl3', rd3, _⟩ := rr3.fz rl3 l3
        exact ⟨w3', e3, l3', rl3', rd3⟩
      · subst e3
        refine wpAny_bind (wpAny_standAt (wpAny_bind (wpAny_holding (thn (set_S hu pins s3 σ w3 t.2 _ x2 x3 x ov iv v _ _ _ (fun H4 => ∃ w4, w4.H = H4 ∧ Le w3 w4 ∧ Rl X.K X.mg w4 _) I3 r2 r3 r1 rl3 (rl2.rd l3 rd2) rd3 (rl1.rd (l2.trans l3) rd1) hz fun w4 l4 rl4 => ⟨w4, rfl, l4, rl4⟩) fun _ s4 ⟨H4, I4, w4, e4, l4, rl4⟩ => ?_))))
        subst e4
        exact wpAny_release ⟨σ, w4.H, I4, k σ w4 (l1.trans (l2.trans (l3.trans l4))) rl4 (rl1.re (l2.trans (l3.trans l4)) re1)⟩
end
end Fl
set_option Elab.async false
set_option linter.all false
set_option maxRecDepth 100000
/-! Fl5: what is walked; for loops; comprehensions; walking a dict's keys. -/
namespace Fl
open PySem PySem.Spec PyProof.Rows L2
/-- the items of what is walked, as long as kp holds of the memory -/
structure Src (K : PySem.W.Frag) (mg : Str → Option Value) (J : It) (w0 : Wo) (ds : List D) (kp : Mem → Prop) : Prop where
  go : ∀ w M i d, Le w0 w → Rl K mg w M → kp M → ds[i]? = some d → J.go i w.H ∧ ∀ x H', J.yld i w.H x H' → ∃ w', w'.H = H' ∧ Le w w' ∧ Rl K mg w' M ∧ RD K mg w' x d
  stop : ∀ w M, Le w0 w → Rl K mg w M → kp M → J.stop ds.length w.H
abbrev FI := En → Mem → Option ((List D × (Mem → Prop)) × Mem)
def tII (K : PySem.W.Frag) (mg : Str → Option Value) (f : FI) : TI := fun σ H R => ∃ w env M p M', w.H = H ∧ Rl K mg w M ∧ RE K mg w σ env ∧ f env M = some (p, M') ∧ ∀ J w', Le w w' → Rl K mg w' M' → Src K mg J w' p.1 p.2 → R J w'.H
abbrev SI (X : Cx) (tg e : Expr) (f : FI) : Prop := PI X tg e (tII X.K X.mg f)
theorem PI.imp {X : Cx} {tg e : Expr} {t t' : TI} (h : PI X tg e t) (k : ∀ σ H R, t' σ H R → t σ H R) : PI X tg e t' := ⟨fun pins s σ H R I q => h.run pins s σ H R I (k σ H R q)⟩
section
variable {X : Cx} {e a b c o tg : Expr} {es : List Expr} {fa fb fc fo : FE} {fr : FA} {pos pos' : Pos}
theorem SI.or {f g : FI} (h : SI X tg e f) (h' : SI X tg e g) : SI X tg e (fun env M => (f env M).or (g env M)) := by
  refine ⟨fun pins s σ H R I h0 => ?_⟩
  obtain ⟨w, env, M, r, M', e0, rl, re, hf, k⟩ := h0
  dsimp only at hf
  cases q : f env M with
  | some z => rw [q] at hf; cases hf; exact h.run pins s σ H R I ⟨w, env, M, _, _, e0, rl, re, q, k⟩
  | none => rw [q] at hf; exact h'.run pins s σ H R I ⟨w, env, M, _, _, e0, rl, re, hf, k⟩
/-! ### sources -/
section
variable {K : PySem.W.Frag} {mg : Str → Option Value} {w w1 : Wo} {M : Mem}
def asT : D → Option (List D)
  | .tup xs => some xs
  | .ktp xs => some xs
  | _ => none
theorem asT_ok {v : V} {d : D} {xs : List D} (h : RD K mg w v d) (e : asT d = some xs) : ∃ a vs, v = .ref a ∧ SqT K w.H a vs ∧ RDs K mg w vs xs := by
  unfold asT at e
  split at e
  · cases e
    exact h.tup
  · cases e
    simp only [RD] at h
    obtain ⟨a, vs, e, h, q⟩ := h
    exact ⟨a, vs, e, .inr h, q⟩
  · cases e
theorem src_list {a : Addr} {d : D} {xs : List D} (rl : Rl K mg w M) (h : RD K mg w (.ref a) d) : Src K mg (Itl K a) w xs (fun M => asLs M d = some xs) where
  go := fun w2 M2 i d' l rl2 kp hd => by
    obtain ⟨a', us, e, hq, rs⟩ := rl2.asLs (rl.rd l.toLe0 h) kp
    cases e
    obtain ⟨v, hv, rd⟩ := rs.get hd
    refine ⟨⟨us, v, hq, hv⟩, fun x H' ⟨e, hx⟩ => ⟨w2, e.symm, Le.refl w2, rl2, ?_⟩⟩
    have := hx us hq
    rw [hv] at this
    cases this
    exact rd
  stop := fun w2 M2 l rl2 kp => by
    obtain ⟨a', us, e, hq, rs⟩ := rl2.asLs (rl.rd l.toLe0 h) kp
    cases e
    exact ⟨us, hq, by rw [rs.length]; exact Nat.le_refl _⟩
theorem src_tup {a : Addr} {d : D} {xs : List D} (rl : Rl K mg w M) (h : RD K mg w (.ref a) d) (e0 : asT d = some xs) : Src K mg (Itt K a) w xs (fun _ => True) where
  go := fun w2 M2 i d' l rl2 kp hd => by
    obtain ⟨a', us, e, hq, rs⟩ := asT_ok (rl.rd l.toLe0 h) e0
    cases e
    obtain ⟨v, hv, rd⟩ := rs.get hd
    refine ⟨⟨us, v, hq, hv⟩, fun x H' ⟨e, hx⟩ => ⟨w2, e.symm, Le.refl w2, rl2, ?_⟩⟩
    have := hx us hq
    rw [hv] at this
    cases this
    exact rd
  stop := fun w2 M2 l rl2 kp => by
    obtain ⟨a', us, e, hq, rs⟩ := asT_ok (rl.rd l.toLe0 h) e0
    cases e
    exact ⟨us, hq, by rw [rs.length]; exact Nat.le_refl _⟩
theorem src_rng {lo : Int} {n : Nat} : Src K mg (Itr lo n) w ((List.range n).map fun i => D.int (lo + (i : Nat))) (fun _ => True) where
  go := fun w2 M2 i d' l rl2 kp hd => by
    rw [List.getElem?_map] at hd
    obtain ⟨j, hj, rfl⟩ := Option.map_eq_some_iff.mp hd
    obtain ⟨hl, e⟩ := List.getElem?_eq_some_iff.mp hj
    rw [List.length_range] at hl
    simp at e
    subst e
    refine ⟨hl, fun x H' ⟨e, hx⟩ => ⟨w2, e.symm, Le.refl w2, rl2, ?_⟩⟩
    subst hx
    exact .mkInt
  stop := fun w2 M2 l rl2 kp => by
    show n ≤ _
    simp
theorem src_str {z : Str} : Src K mg (Its z) w (z.cps.toList.map fun c => D.str ⟨#[c]⟩) (fun _ => True) where
  go := fun w2 M2 i d' l rl2 kp hd => by
    rw [List.getElem?_map] at hd
    obtain ⟨c, hc, rfl⟩ := Option.map_eq_some_iff.mp hd
    obtain ⟨hl, e⟩ := List.getElem?_eq_some_iff.mp hc
    refine ⟨(show i < z.cps.size by simpa using hl), fun x H' ⟨e, c', hc', hx⟩ => ⟨w2, e.symm, Le.refl w2, rl2, ?_⟩⟩
    rw [← Array.getElem?_toList, hc] at hc'
    cases hc'
    subst hx
    exact .mkStr
  stop := fun w2 M2 l rl2 kp => by
    show z.cps.size ≤ _
    simp
def zipD (xs ys : List D) : List D := List.zipWith (fun x y => .tup [x, y]) xs ys
theorem src_zipL {a b : Addr} {d d' : D} {xs ys : List D} (rl : Rl K mg w M) (h : RD K mg w (.ref a) d) (h' : RD K mg w (.ref b) d') : Src K mg (Itz K a b) w (zipD xs ys) (fun M => asLs M d = some xs ∧ asLs M d' = some ys) where
  go := fun w2 M2 i dd l rl2 kp hd => by
    obtain ⟨a', us, e, hq, rs⟩ := rl2.asLs (rl.rd l.toLe0 h) kp.1
    cases e
    obtain ⟨b', us', e, hq', rs'⟩ := rl2.asLs (rl.rd l.toLe0 h') kp.2
    cases e
    unfold zipD at hd
    rw [List.getElem?_zipWith] at hd
    cases hx : xs[i]? with
    | none => rw [hx] at hd; simp at hd
    | some x => cases hy : ys[i]? with
      | none => rw [hx, hy] at hd; simp at hd
      | some y =>
        rw [hx, hy] at hd
        cases hd
        obtain ⟨v, hv, rd⟩ := rs.get hx
        obtain ⟨v', hv', rd'⟩ := rs'.get hy
        refine ⟨⟨us, us', v, v', hq, hq', hv, hv'⟩, fun x H' ⟨T, x1, y1, e, hT, eH, f1, f2⟩ => ?_⟩
        have e1 := f1 us hq
        have e2 := f2 us' hq'
        rw [hv] at e1
        rw [hv'] at e2
        cases e1
        cases e2
        subst e
        exact ⟨w2.lay T _, eH.symm, Le.lay hT, rl2.lay hT, RD.tupNew rl2 hT (.cons rd (.cons rd' .nil))⟩
  stop := fun w2 M2 l rl2 kp => by
    obtain ⟨a', us, e, hq, rs⟩ := rl2.asLs (rl.rd l.toLe0 h) kp.1
    cases e
    obtain ⟨b', us', e, hq', rs'⟩ := rl2.asLs (rl.rd l.toLe0 h') kp.2
    cases e
    refine ⟨us, us', hq, hq', ?_⟩
    unfold zipD
    rw [rs.length, rs'.length, List.length_zipWith]
    omega
theorem src_zipT {a b : Addr} {d d' : D} {xs ys : List D} (rl : Rl K mg w M) (h : RD K mg w (.ref a) d) (h' : RD K mg w (.ref b) d') (e1 : asT d = some xs) (e2 : asT d' = some ys) : Src K mg (RZ.ItzT K a b) w (zipD xs ys) (fun _ => True) where
  go := fun w2 M2 i dd l rl2 kp hd => by
    obtain ⟨a', us, e, hq, rs⟩ := asT_ok (rl.rd l.toLe0 h) e1
    cases e
    obtain ⟨b', us', e, hq', rs'⟩ := asT_ok (rl.rd l.toLe0 h') e2
    cases e
    unfold zipD at hd
    rw [List.getElem?_zipWith] at hd
    cases hx : xs[i]? with
    | none => rw [hx] at hd; simp at hd
    | some x => cases hy : ys[i]? with
      | none => rw [hx, hy] at hd; simp at hd
      | some y =>
        rw [hx, hy] at hd
        cases hd
        obtain ⟨v, hv, rd⟩ := rs.get hx
        obtain ⟨v', hv', rd'⟩ := rs'.get hy
        refine ⟨⟨us, us', v, v', hq, hq', hv, hv'⟩, fun x H' ⟨T, x1, y1, e, hT, eH, f1, f2⟩ => ?_⟩
        have e1 := f1 us hq
        have e2 := f2 us' hq'
        rw [hv] at e1
        rw [hv'] at e2
        cases e1
        cases e2
        subst e
        exact ⟨w2.lay T _, eH.symm, Le.lay hT, rl2.lay hT, RD.tupNew rl2 hT (.cons rd (.cons rd' .nil))⟩
  stop := fun w2 M2 l rl2 kp => by
    obtain ⟨a', us, e, hq, rs⟩ := asT_ok (rl.rd l.toLe0 h) e1
    cases e
    obtain ⟨b', us', e, hq', rs'⟩ := asT_ok (rl.rd l.toLe0 h') e2
    cases e
    refine ⟨us, us', hq, hq', ?_⟩
    unfold zipD
    rw [rs.length, rs'.length, List.length_zipWith]
    omega
theorem src_revL {a : Addr} {d : D} {xs : List D} (rl : Rl K mg w M) (h : RD K mg w (.ref a) d) : Src K mg (Itv K a xs.length) w xs.reverse (fun M => asLs M d = some xs) where
  go := fun w2 M2 i d' l rl2 kp hd => by
    obtain ⟨a', us, e, hq, rs⟩ := rl2.asLs (rl.rd l.toLe0 h) kp
    cases e
    have hi : i < xs.length := by have := (List.getElem?_eq_some_iff.mp hd).1; simpa using this
    rw [List.getElem?_reverse hi] at hd
    obtain ⟨v, hv, rd⟩ := rs.get hd
    refine ⟨⟨hi, us, v, hq, hv⟩, fun x H' ⟨e, hx⟩ => ⟨w2, e.symm, Le.refl w2, rl2, ?_⟩⟩
    have := hx us hq
    rw [hv] at this
    cases this
    exact rd
  stop := fun w2 M2 l rl2 kp => by
    show xs.length ≤ _
    simp
theorem src_revT {a : Addr} {d : D} {xs : List D} (rl : Rl K mg w M) (h : RD K mg w (.ref a) d) (e0 : asT d = some xs) : Src K mg (RT.ItvT K a xs.length) w xs.reverse (fun _ => True) where
  go := fun w2 M2 i d' l rl2 kp hd => by
    obtain ⟨a', us, e, hq, rs⟩ := asT_ok (rl.rd l.toLe0 h) e0
    cases e
    have hi : i < xs.length := by have := (List.getElem?_eq_some_iff.mp hd).1; simpa using this
    rw [List.getElem?_reverse hi] at hd
    obtain ⟨v, hv, rd⟩ := rs.get hd
    refine ⟨⟨hi, us, v, hq, hv⟩, fun x H' ⟨e, hx⟩ => ⟨w2, e.symm, Le.refl w2, rl2, ?_⟩⟩
    have := hx us hq
    rw [hv] at this
    cases this
    exact rd
  stop := fun w2 M2 l rl2 kp => by
    show xs.length ≤ _
    simp
end
/-- a list, the script -/
def fiL (fa : FE) : FI := fun env M => (fa env M).bind fun p => (asLs p.2 p.1.fz).map fun ds => ((ds, fun M => asLs M p.1.fz = some ds), p.2)
theorem siL (h : SE X e fa) : SI X tg e (fiL fa) := PI.imp (pi_list h) fun σ H R ⟨w, env, M, p, M', e, rl, re, hf, k⟩ => by
  unfold fiL at hf
  obtain ⟨q, hq, hf⟩ := Option.bind_eq_some_iff.mp hf
  obtain ⟨ds, hd, hf⟩ := Option.map_eq_some_iff.mp hf
  cases hf
  refine tI.mk e rl re hq fun v w1 l1 rl1 rr1 => ?_
  obtain ⟨w1', l1', e1, b1, rl1', rd1, _⟩ := rr1.fz rl1 l1
  obtain ⟨a', vs, rfl, h1, q1⟩ := rl1'.asLs rd1 hd
  rw [← e1]
  exact ⟨a', rfl, ⟨vs, h1⟩, k _ w1' l1' rl1' (src_list rl1' rd1)⟩
def fiT (fa : FE) : FI := fun env M => (fa env M).bind fun p => (asT p.1.fz).map fun ds => ((ds, fun _ => True), p.2)
theorem siT (h : SE X e fa) : SI X tg e (fiT fa) := PI.imp (pi_tup h) fun σ H R ⟨w, env, M, p, M', e, rl, re, hf, k⟩ => by
  unfold fiT at hf
  obtain ⟨q, hq, hf⟩ := Option.bind_eq_some_iff.mp hf
  obtain ⟨ds, hd, hf⟩ := Option.map_eq_some_iff.mp hf
  cases hf
  refine tI.mk e rl re hq fun v w1 l1 rl1 rr1 => ?_
  obtain ⟨w1', l1', e1, b1, rl1', rd1, _⟩ := rr1.fz rl1 l1
  obtain ⟨a', vs, rfl, h1, q1⟩ := asT_ok rd1 hd
  rw [← e1]
  exact ⟨a', rfl, ⟨vs, h1⟩, k _ w1' l1' rl1' (src_tup rl1' rd1 hd)⟩
/-- a text's signs -/
def fiStr (fa : FE) : FI := fun env M => (fa env M).bind fun p => match p.1 with
  | .v (.str z) => some ((z.cps.toList.map fun c => D.str ⟨#[c]⟩, fun _ => True), p.2)
  | _ => none
theorem siStr (h : SE X e fa) : SI X tg e (fiStr fa) := PI.imp (pi_str h) fun σ H R ⟨w, env, M, p, M', e, rl, re, hf, k⟩ => by
  unfold fiStr at hf
  obtain ⟨q, hq, hf⟩ := Option.bind_eq_some_iff.mp hf
  refine tI.mk e rl re hq fun v w1 l1 rl1 rr1 => ?_
  split at hf
  · rename_i z hz
    rw [hz] at rr1
    cases hf
    exact ⟨z, rr1.d.str, k _ w1 l1 rl1 src_str⟩
  · cases hf
/-- a sequence or a text -/
def fiS (fa : FE) : FI := fun env M => (fiL fa env M).or ((fiT fa env M).or (fiStr fa env M))
theorem siS (h : SE X e fa) : SI X tg e (fiS fa) := (siL h).or ((siT h).or (siStr h))
def fiR1 (fr : FA) : FI := fun env M => (fr env M).bind fun p => match p.1 with
  | [.int j] => if -(2 ^ 62) ≤ j ∧ j < 2 ^ 62 then some (((List.range j.toNat).map fun i => D.int (0 + (i : Nat)), fun _ => True), p.2) else none
  | _ => none
theorem siR1 {p : Pos} (hg : Gl X "range") (hm : X.mg "range" = none) (ha : SA X [a] fr) (hs : starEach [a] X.env = [(false, eval a X.env)] := by rfl) : SI X tg (.Call (.Name "range" p) [a] [] pos) (fiR1 fr) := PI.imp (pi_range1 hg hm ha hs) fun σ H R ⟨w, env, M, p, M', e, rl, re, hf, k⟩ => by
  unfold fiR1 at hf
  obtain ⟨q, hq, hf⟩ := Option.bind_eq_some_iff.mp hf
  refine tIA.mk e rl re hq fun vs w1 l1 rl1 rd1 => ?_
  split at hf
  · rename_i j hj
    rw [hj] at rd1
    split at hf
    · rename_i hb
      cases hf
      cases vs with
      | nil => simp only [RDs] at rd1
      | cons v vs => cases vs with
        | nil => exact ⟨j, by rw [rd1.head.int], hb.1, hb.2, k _ w1 l1 rl1 src_rng⟩
        | cons _ _ => simp only [RDs] at rd1; exact rd1.2.elim
    · cases hf
  · cases hf
def fiR2 (fr : FA) : FI := fun env M => (fr env M).bind fun p => match p.1 with
  | [.int i, .int j] => if -(2 ^ 62) ≤ i ∧ i < 2 ^ 62 ∧ -(2 ^ 62) ≤ j ∧ j < 2 ^ 62 then some (((List.range (j - i).toNat).map fun k => D.int (i + (k : Nat)), fun _ => True), p.2) else none
  | _ => none
theorem siR2 {p : Pos} (hg : Gl X "range") (hm : X.mg "range" = none) (ha : SA X [a, b] fr) (hs : starEach [a, b] X.env = [(false, eval a X.env), (false, eval b X.env)] := by rfl) (hs2 : starEach [b] X.env = [(false, eval b X.env)] := by rfl) :
    SI X tg (.Call (.Name "range" p) [a, b] [] pos) (fiR2 fr) := PI.imp (pi_range2 hg hm ha hs hs2) fun σ H R ⟨w, env, M, p, M', e, rl, re, hf, k⟩ => by
  unfold fiR2 at hf
  obtain ⟨q, hq, hf⟩ := Option.bind_eq_some_iff.mp hf
  refine tIA.mk e rl re hq fun vs w1 l1 rl1 rd1 => ?_
  split at hf
  · rename_i i j hj
    rw [hj] at rd1
    split at hf
    · rename_i hb
      cases hf
      cases vs with
      | nil => simp only [RDs] at rd1
      | cons v vs => cases vs with
        | nil => simp only [RDs] at rd1; exact rd1.2.elim
        | cons v' vs => cases vs with
          | nil => exact ⟨i, j, by rw [rd1.head.int, rd1.tail.head.int], hb, k _ w1 l1 rl1 src_rng⟩
          | cons _ _ => simp only [RDs] at rd1; exact rd1.2.2.elim
    · cases hf
  · cases hf
/-- zip of two lists or two tuples -/
def fiZip (fr : FA) : FI := fun env M => (fr env M).bind fun p => match p.1 with
  | [d, d'] => match asLs p.2 d, asLs p.2 d' with
    | some xs, some ys => some ((zipD xs ys, fun M => asLs M d = some xs ∧ asLs M d' = some ys), p.2)
    | _, _ => match asT d, asT d' with
      | some xs, some ys => some ((zipD xs ys, fun _ => True), p.2)
      | _, _ => none
  | _ => none
theorem siZip {p tpos : Pos} {elts : List Expr} {kk : Nat} (hg : Gl X "zip") (hm : X.mg "zip" = none) (ha : SA X [a, b] fr) (hs : starEach [a, b] X.env = (false, eval a X.env) :: starEach [b] X.env := by rfl) (hpl : (backTo pos (starEach [b] X.env)).any (·.1) = false := by rfl) :
    SI X (.Tuple elts kk tpos) (.Call (.Name "zip" p) [a, b] [] pos) (fiZip fr) := PI.imp (RZ.pi_zipA hg hm ha hs hpl) fun σ H R ⟨w, env, M, p, M', e, rl, re, hf, k⟩ => by
  unfold fiZip at hf
  obtain ⟨q, hq, hf⟩ := Option.bind_eq_some_iff.mp hf
  refine tIA.mk e rl re hq fun vs w1 l1 rl1 rd1 => ?_
  split at hf
  · rename_i d d' hj
    rw [hj] at rd1
    have e2 : ∃ v v', vs = [v, v'] ∧ RD X.K X.mg w1 v d ∧ RD X.K X.mg w1 v' d' := by
      cases vs with
      | nil => simp only [RDs] at rd1
      | cons v vs => cases vs with
        | nil => simp only [RDs] at rd1; exact rd1.2.elim
        | cons v' vs => cases vs with
          | nil => exact ⟨v, v', rfl, rd1.head, rd1.tail.head⟩
          | cons _ _ => simp only [RDs] at rd1; exact rd1.2.2.elim
    obtain ⟨v, v', rfl, r1, r2⟩ := e2
    split at hf
    · rename_i xs ys h1 h2
      cases hf
      obtain ⟨a', us, rfl, g1, q1⟩ := rl1.asLs r1 h1
      obtain ⟨b', us', rfl, g2, q2⟩ := rl1.asLs r2 h2
      exact ⟨a', b', us, us', rfl, .inl ⟨g1, g2, k _ w1 l1 rl1 (src_zipL rl1 r1 r2)⟩⟩
    · split at hf
      · rename_i xs ys h1 h2
        cases hf
        obtain ⟨a', us, rfl, g1, q1⟩ := asT_ok r1 h1
        obtain ⟨b', us', rfl, g2, q2⟩ := asT_ok r2 h2
        exact ⟨a', b', us, us', rfl, .inr ⟨g1, g2, k _ w1 l1 rl1 (src_zipT rl1 r1 r2 h1 h2)⟩⟩
      · cases hf
  · cases hf
/-- reversed of a list or a tuple -/
def fiRev (fa : FE) : FI := fun env M => (fa env M).bind fun p => match asLs p.2 p.1.fz with
  | some xs => some ((xs.reverse, fun M => asLs M p.1.fz = some xs), p.2)
  | none => (asT p.1.fz).map fun xs => ((xs.reverse, fun _ => True), p.2)
theorem siRev {p : Pos} (hg : Gl X "reversed") (hm : X.mg "reversed" = none) (he : SE X e fa) (hs : starEach [e] X.env = (false, eval e X.env) :: starEach [] X.env := by rfl) : SI X tg (.Call (.Name "reversed" p) [e] [] pos) (fiRev fa) := PI.imp (RT.pi_revA hg hm he hs) fun σ H R ⟨w, env, M, p, M', e, rl, re, hf, k⟩ => by
  unfold fiRev at hf
  obtain ⟨q, hq, hf⟩ := Option.bind_eq_some_iff.mp hf
  refine tI.mk e rl re hq fun v w1 l1 rl1 rr1 => ?_
  obtain ⟨w1', l1', e1, b1, rl1', rd1, _⟩ := rr1.fz rl1 l1
  rw [← e1]
  split at hf
  · rename_i xs hx
    cases hf
    obtain ⟨a', us, rfl, g1, q1⟩ := rl1'.asLs rd1 hx
    refine ⟨a', us, rfl, .inl ⟨g1, ?_⟩⟩
    rw [q1.length]
    exact k _ w1' l1' rl1' (src_revL rl1' rd1)
  · obtain ⟨xs, hx, hf⟩ := Option.map_eq_some_iff.mp hf
    cases hf
    obtain ⟨a', us, rfl, g1, q1⟩ := asT_ok rd1 hx
    refine ⟨a', us, rfl, .inr ⟨g1, ?_⟩⟩
    rw [q1.length]
    exact k _ w1' l1' rl1' (src_revT rl1' rd1 hx)

/-! ### for -/
open Classical in
noncomputable def fForGo (b : FB) (body : FS) (kp : Mem → Prop) : List D → FS
  | [], env, M => if kp M then some (.nx, env, M) else none
  | d :: ds, env, M => if kp M then (b d env).bind fun env1 => (body env1 M).bind fun p => match p.1 with
    | .nx => fForGo b body kp ds p.2.1 p.2.2
    | .ct => fForGo b body kp ds p.2.1 p.2.2
    | .bk => some (.nx, p.2.1, p.2.2)
    | .rt r => some p
    else none
theorem for_go {K : PySem.W.Frag} {mg : Str → Option Value} {J : It} {w1 : Wo} {ds : List D} {kp : Mem → Prop} {b : FB} {body : FS} {js : List Nat} {D : Ends} {fl : Fw} {env env' : En} {M M' : Mem} {σ : L2.St} (src : Src K mg J w1 ds kp) (rl : Rl K mg w1 M) (re : RE K mg w1 σ env)
    (hf : fForGo b body kp ds env M = some (fl, env', M')) (k : Wants K mg D w1 fl env' M') :
    ∃ W : Nat → Nat → L2.St → Hp → Prop, (∃ m, W 0 m σ w1.H) ∧ ∀ i m σ H, W i m σ H →
      (J.stop i H ∧ D.nx σ H) ∨ (J.go i H ∧ ∃ N : L2.St → Hp → Prop, (∀ σ' H', N σ' H' → ∃ m', m' < m ∧ W (i + 1) m' σ' H') ∧ ∀ x H', J.yld i H x H' → tIG K mg js b x σ H' fun σ2 H2 => tIS K mg body { D with nx := N, ct := N, bk := D.nx } σ2 H2) := by
  refine ⟨fun i m σ H => ∃ w env M, m = (ds.drop i).length ∧ i ≤ ds.length ∧ w.H = H ∧ Le w1 w ∧ Rl K mg w M ∧ RE K mg w σ env ∧ fForGo b body kp (ds.drop i) env M = some (fl, env', M'), ⟨_, w1, env, M, rfl, Nat.zero_le _, rfl, Le.refl w1, rl, re, hf⟩, ?_⟩
  rintro i m σ H ⟨w, env, M, rfl, hi, rfl, l, rl, re, hf⟩
  cases hd : ds.drop i with
  | nil =>
    rw [hd] at hf
    unfold fForGo at hf
    split at hf
    · rename_i hk
      cases hf
      have : i = ds.length := by have := List.drop_eq_nil_iff.mp hd; omega
      subst this
      exact .inl ⟨src.stop w _ l rl hk, k σ w l rl re⟩
    · cases hf
  | cons d rest =>
    rw [hd] at hf
    unfold fForGo at hf
    split at hf
    · rename_i hk
      obtain ⟨env1, hb, hf⟩ := Option.bind_eq_some_iff.mp hf
      obtain ⟨⟨fl1, env2, M2⟩, hp, hf⟩ := Option.bind_eq_some_iff.mp hf
      have hlt : i < ds.length := by
        rcases Nat.lt_or_ge i ds.length with z | z
        · exact z
        · rw [List.drop_eq_nil_iff.mpr z] at hd; cases hd
      have hdi : ds[i]? = some d := by
        rw [List.drop_eq_getElem_cons hlt] at hd
        rw [List.getElem?_eq_getElem hlt]
        exact congrArg some (List.cons.inj hd).1
      have hdr : ds.drop (i + 1) = rest := by
        rw [List.drop_eq_getElem_cons hlt] at hd
        exact (List.cons.inj hd).2
      obtain ⟨g1, g2⟩ := src.go w M i d l rl hk hdi
      refine .inr ⟨g1, fun σ' H' => ∃ w env M, w.H = H' ∧ Le w1 w ∧ Rl K mg w M ∧ RE K mg w σ' env ∧ fForGo b body kp rest env M = some (fl, env', M'), fun σ' H' hN => ?_, fun x H' hy => ?_⟩
      · obtain ⟨w', env', M', e', l', rl', re', hf'⟩ := hN
        refine ⟨rest.length, by rw [List.length_cons]; exact Nat.lt_succ_self _, w', env', M', by rw [hdr], hlt, e', l', rl', re', by rw [hdr]; exact hf'⟩
      · obtain ⟨w', e', l', rl', rd'⟩ := g2 x H' hy
        refine ⟨w', env, M, d, env1, e', rl', rl.re l' re, rd', hb, fun σ2 _ re2 => tIS.mk e' rl' re2 hp ?_⟩
        have lw := l.trans l'
        cases fl1 with
        | nx => exact fun σ3 w3 l3 rl3 re3 => ⟨w3, env2, M2, rfl, lw.trans l3, rl3, re3, hf⟩
        | ct => exact fun σ3 w3 l3 rl3 re3 => ⟨w3, env2, M2, rfl, lw.trans l3, rl3, re3, hf⟩
        | bk => cases hf; exact fun σ3 w3 l3 rl3 re3 => k σ3 w3 (lw.trans l3) rl3 re3
        | rt r => cases hf; exact k.le lw
    · cases hf
noncomputable def fFor (fi : FI) (b : FB) (body : FS) : FS := fun env M => (fi env M).bind fun p => fForGo b body p.1.2 p.1.1 env p.2
theorem ssFor {fi : FI} {b' : FB} {f : FS} {js : List Nat} {body : List Stmt} (hp : PassesOwn (model X.prog X.w) X.A X.env X.xe) (hc : X.calm = true) (hi : SI X tg e fi) (hg : SG X tg js b') (hb : SSs X body f) (hs : ∀ x, foldedSetIterable e X.env x = pure x := by intro _; rfl) :
    SS X (.For tg e body [] pos) (fFor fi b' f) := PS.imp (ps_for hp hc hi hg hb hs) fun D σ H h => by
  obtain ⟨w, env, M, fl, env', M', e, rl, re, hf, k⟩ := h.out
  unfold fFor at hf
  obtain ⟨p, hq, hf⟩ := Option.bind_eq_some_iff.mp hf
  exact ⟨w, env, M, _, _, e, rl, re, hq, fun J w1 l1 rl1 src => for_go src rl1 (rl.re l1 re) hf (k.le l1)⟩
end
end Fl
set_option Elab.async false
set_option linter.all false
set_option maxRecDepth 100000
/-! Fl6: comprehensions; a dict's keys, walked. -/
namespace Fl
open PySem PySem.Spec PyProof.Rows L2
/-! ### slots forgotten -/
def wipeE (env : En) : List Nat → En
  | [] => env
  | v :: vs => (wipeE env vs).set v none
theorem RE.wipe {K : PySem.W.Frag} {mg : Str → Option Value} {w : Wo} {σ : L2.St} {env : En} (h : RE K mg w σ env) : ∀ vs : List Nat, RE K mg w (wipe σ vs) (wipeE env vs)
  | [] => h
  | v :: vs => by unfold L2.wipe wipeE; exact (RE.wipe h vs).unset
theorem wipe_get (σ : L2.St) (i : Nat) : ∀ vs : List Nat, (wipe σ vs)[i]? = if i ∈ vs then (if i < σ.length then some none else none) else σ[i]?
  | [] => by simp [wipe]
  | v :: vs => by
    unfold L2.wipe
    rw [List.getElem?_set]
    by_cases e : v = i
    · subst e
      simp [wipe_length]
    · rw [if_neg e, wipe_get σ i vs]
      have : i ∈ v :: vs ↔ i ∈ vs := by simp [Ne.symm e]
      simp only [this]
theorem wipe_slots {js vs : List Nat} {σ σ2 : L2.St} (h : Slots js (wipe σ vs) σ2) (hj : ∀ i ∈ js, i ∈ vs) : wipe σ2 vs = wipe σ vs := by
  apply List.ext_getElem?
  intro i
  rw [wipe_get, wipe_get]
  have hl : σ2.length = σ.length := by rw [h.len, wipe_length]
  split
  · rw [hl]
  · rename_i hi
    rw [h.at_ i fun z => hi (hj i z), wipe_get, if_neg hi]
section
variable {K : PySem.W.Frag} {mg : Str → Option Value} {w w0 w1 : Wo} {M : Mem} {p : Addr} {u : HO}
/-- an object that is nobody's is written -/
theorem RD.over (hg : ¬ w.G p) (ht : ∀ vs, w.H p ≠ some (.tup vs)) : ∀ (d : D) (v : V), RD K mg w v d → RD K mg (w.lay p u) v d := by
  have ne : ∀ {a}, w.G a → a ≠ p := fun g e => hg (by rw [← e]; exact g)
  have kp : ∀ {a}, a ≠ p → ∀ u', w.H a = some u' → (w.lay p u).H a = some u' := fun ne u' e => by show upd w.H p u _ = _; rw [upd_ne ne]; exact e
  refine RD.imp (fun a vs h => ?_) (fun a vs h => ⟨h.1, kp (ne h.1) _ h.2⟩) (fun a vs h => h.imp (fun h => ⟨h.1, rd_keep (kp (ne h.1)) h.2⟩) id) (fun a t ks vs g h => ⟨g, h.imp (fun h => h.keep (kp (ne g))) fun h => h.keep (kp (ne g))⟩) (fun a c ns vs g h => ⟨g, h.keep (kp (ne g))⟩) fun _ _ h => h
  exact kp (fun e => by subst e; exact ht vs h) _ h
theorem RDs.over (hg : ¬ w.G p) (ht : ∀ vs, w.H p ≠ some (.tup vs)) : ∀ (d : List D) (v : List V), RDs K mg w v d → RDs K mg (w.lay p u) v d
  | [], [], _ => .nil
  | [], _ :: _, h => by simp only [RDs] at h
  | _ :: _, [], h => by simp only [RDs] at h
  | _ :: _, _ :: _, h => .cons (RD.over hg ht _ _ h.head) (RDs.over hg ht _ _ h.tail)
theorem Rl.over (rl : Rl K mg w M) (hg : ¬ w.G p) (hb : p ∉ w.β) (ht : ∀ vs, w.H p ≠ some (.tup vs)) : Rl K mg (w.lay p u) M := by
  refine ⟨rl.nd, rl.len, rl.dj, fun a g => ?_, fun n a o h1 h2 => ?_⟩
  · show upd w.H p u a ≠ none
    rw [upd_ne (fun e => hg (by rw [← e]; exact g))]
    exact rl.tr a g
  · have h1' : w.β[n]? = some a := h1
    have ne : a ≠ p := fun e => hb (by rw [← e]; exact List.mem_iff_getElem?.mpr ⟨n, h1'⟩)
    have kp : ∀ u', w.H a = some u' → (w.lay p u).H a = some u' := fun u' e => by show upd w.H p u _ = _; rw [upd_ne ne]; exact e
    have h := rl.ob n a o h1' h2
    cases o with
    | lst ds => obtain ⟨vs, h, q⟩ := h; exact ⟨vs, kp _ h, RDs.over hg ht _ _ q⟩
    | dic t kvs => obtain ⟨vs, h, q⟩ := h; exact ⟨vs, h.keep kp, RDs.over hg ht _ _ q⟩
    | lkd t kvs => obtain ⟨vs, h, q⟩ := h; exact ⟨vs, h.keep kp, RDs.over hg ht _ _ q⟩
    | ins c fs => obtain ⟨vs, h, q⟩ := h; exact ⟨vs, h.keep kp, RDs.over hg ht _ _ q⟩
theorem Le.over (l : Le w1 w) (h : w1.H p = none) : Le w1 (w.lay p u) := by
  have ne : ∀ {a o}, w1.H a = some o → a ≠ p := fun e z => by subst z; rw [h] at e; cases e
  refine ⟨⟨fun a o hb e => ?_, fun a o e => ?_, l.g, l.b, l.nb⟩, l.ng, fun a o v e => ?_⟩
  · show upd w.H p u a = _; rw [upd_ne (ne e)]; exact l.keep a o hb e
  · show upd w.H p u a = _; rw [upd_ne (ne e)]; exact l.tup a o e
  · show upd w.H p u a = _; rw [upd_ne (ne e)]; exact l.fr a o v e
end
section
variable {X : Cx} {e a b c o tg elt : Expr} {es ifs : List Expr} {fa fb fc fo fe : FE} {fr : FA} {q : FT} {pos pos' : Pos}
/-! ### tests of a comprehension -/
abbrev STs (X : Cx) (ifs : List Expr) (q : FT) : Prop := PTs X ifs (tQ X.K X.mg q)
theorem PTs.imp {ifs : List Expr} {t t' : TT} (h : PTs X ifs t) (k : ∀ σ H Q, t' σ H Q → t σ H Q) : PTs X ifs t' := ⟨fun pins s σ H Q I q => h.run pins s σ H Q I (k σ H Q q)⟩
def qYes : FT := fun _ M => some (true, M)
theorem stNil : STs X [] qYes := PTs.imp pts_nil fun σ H Q ⟨w, env, M, b, M', e, rl, re, hf, k⟩ => by
  subst e
  cases hf
  exact k w (Le.refl w) rl
theorem stOne (h : SQ X c q) : STs X [c] q := pts_one h
/-! ### comprehensions -/
open Classical in
noncomputable def fLcGo (b : FB) (q : FT) (f : FE) (kp : Mem → Prop) (env : En) : List D → Mem → Option (List D × Mem)
  | [], M => if kp M then some ([], M) else none
  | d :: ds, M => if kp M then (b d env).bind fun env1 => (q env1 M).bind fun p => if p.1 then (f env1 p.2).bind fun r => (fLcGo b q f kp env ds r.2).map fun t => (r.1.fz :: t.1, t.2) else fLcGo b q f kp env ds p.2
    else none
noncomputable def fLc (fi : FI) (b : FB) (q : FT) (f : FE) (vs : List Nat) : FE := fun env M => (fi env M).bind fun p => (fLcGo b q f p.1.2 (wipeE env vs) p.1.1 p.2).bind fun t => if t.1.length ≤ sizeLine then some (.n (.lst t.1), t.2) else none
theorem lc_go {K : PySem.W.Frag} {mg : Str → Option Value} {J : It} {w0 w1 : Wo} {ds : List D} {kp : Mem → Prop} {b : FB} {js vs : List Nat} {env : En} {M M' : Mem} {σ : L2.St} {out : List D} {Qd : V → Hp → Prop} {p : Addr} (src : Src K mg J w1 ds kp) (l0 : Le w0 w1) (rl : Rl K mg w1 M) (re : RE K mg w1 σ env) (hj : ∀ i ∈ js, i ∈ vs)
    (hf : fLcGo b q fe kp (wipeE env vs) ds M = some (out, M')) (hl : out.length ≤ sizeLine) (hp : w1.H p = none) (k : ∀ v w', Le w0 w' → Rl K mg w' M' → RR K mg w0 w' v (.n (.lst out)) → Qd v w'.H) :
    ∃ W : Nat → Nat → Hp → Prop, (∃ m, W 0 m (upd w1.H p (.lst []))) ∧ ∀ i m H, W i m H →
      (J.stop i H ∧ Qd (.ref p) H) ∨ (J.go i H ∧ ∃ Nx : Hp → Prop, (∀ H', Nx H' → ∃ m', m' < m ∧ W (i + 1) m' H') ∧ ∀ x H', J.yld i H x H' → tIG K mg js b x (wipe σ vs) H' fun σ2 H2 => wipe σ2 vs = wipe σ vs ∧ tQ K mg q σ2 H2 fun b H3 =>
        if b = true then tI K mg fe σ2 H3 fun y H4 => ∃ acc, H4 p = some (.lst acc) ∧ acc.length < sizeLine ∧ Nx (upd H4 p (.lst (acc ++ [y]))) else Nx H3) := by
  have hg1 : ¬ w1.G p := rl.newg hp
  have hb1 : p ∉ w1.β := rl.newb hp
  refine ⟨fun i m H => ∃ w M acc vacc rest, m = (ds.drop i).length ∧ i ≤ ds.length ∧ w.H = H ∧ Le w1 w ∧ Rl K mg w M ∧ ¬ w.G p ∧ p ∉ w.β ∧ w.H p = some (.lst vacc) ∧ RDs K mg w vacc acc ∧ fLcGo b q fe kp (wipeE env vs) (ds.drop i) M = some (rest, M') ∧ out = acc ++ rest,
    ⟨_, w1.lay p (.lst []), M, [], [], out, rfl, Nat.zero_le _, rfl, Le.lay hp, rl.lay hp, hg1, hb1, Wo.lay_at, .nil, hf, rfl⟩, ?_⟩
  rintro i m H ⟨w, M, acc, vacc, rest, rfl, hi, rfl, l, rl2, hg, hb, hH, ra, hf, ho⟩
  cases hd : ds.drop i with
  | nil =>
    rw [hd] at hf
    unfold fLcGo at hf
    split at hf
    · rename_i hk
      cases hf
      have : i = ds.length := by have := List.drop_eq_nil_iff.mp hd; omega
      subst this
      rw [List.append_nil] at ho
      subst ho
      refine .inl ⟨src.stop w _ l rl2 hk, k _ w (l0.trans l) rl2 ⟨p, rfl, ⟨vacc, hH, ra⟩, hg, hb, l0.fresh hp fun z => hb1 (l0.mem z)⟩⟩
    · cases hf
  | cons d ds' =>
    rw [hd] at hf
    unfold fLcGo at hf
    split at hf
    · rename_i hk
      obtain ⟨env1, hbd, hf⟩ := Option.bind_eq_some_iff.mp hf
      obtain ⟨⟨b1, M2⟩, hq, hf⟩ := Option.bind_eq_some_iff.mp hf
      have hlt : i < ds.length := by
        rcases Nat.lt_or_ge i ds.length with z | z
        · exact z
        · rw [List.drop_eq_nil_iff.mpr z] at hd; cases hd
      have hdi : ds[i]? = some d := by
        rw [List.drop_eq_getElem_cons hlt] at hd
        rw [List.getElem?_eq_getElem hlt]
        exact congrArg some (List.cons.inj hd).1
      have hdr : ds.drop (i + 1) = ds' := by
        rw [List.drop_eq_getElem_cons hlt] at hd
        exact (List.cons.inj hd).2
      obtain ⟨g1, g2⟩ := src.go w M i d l rl2 hk hdi
      have hlen : ds'.length < (d :: ds').length := by rw [List.length_cons]; exact Nat.lt_succ_self _
      -- what does not touch p
      have stay : ∀ {w2 : Wo}, Le w w2 → ¬ w2.G p ∧ p ∉ w2.β ∧ w2.H p = some (.lst vacc) := fun {w2} l2 => by
        refine ⟨fun z => ?_, fun z => ?_, l2.keep p _ hb hH⟩
        · rcases l2.ng p z with z | z | z
          · exact hg z
          · rw [hH] at z; cases z
          · exact hb z
        · rcases l2.nb p z with z | z
          · exact hb z
          · rw [hH] at z; cases z
      refine .inr ⟨g1, fun H' => ∃ w M acc vacc rest, w.H = H' ∧ Le w1 w ∧ Rl K mg w M ∧ ¬ w.G p ∧ p ∉ w.β ∧ w.H p = some (.lst vacc) ∧ RDs K mg w vacc acc ∧ fLcGo b q fe kp (wipeE env vs) ds' M = some (rest, M') ∧ out = acc ++ rest, fun H' hN => ?_, fun x H' hy => ?_⟩
      · obtain ⟨w', M3, acc', vacc', rest', e', l', rl', hg', hb', hH', ra', hf', ho'⟩ := hN
        exact ⟨ds'.length, hlen, w', M3, acc', vacc', rest', by rw [hdr], hlt, e', l', rl', hg', hb', hH', ra', by rw [hdr]; exact hf', ho'⟩
      · obtain ⟨w2, e2, l2, rl2', rd2⟩ := g2 x H' hy
        have re2 : RE K mg w2 (wipe σ vs) (wipeE env vs) := (rl2.re l2 (rl.re l re)).wipe vs
        refine ⟨w2, _, M, d, env1, e2, rl2', re2, rd2, hbd, fun σ2 s2 re3 => ⟨wipe_slots s2 hj, ?_⟩⟩
        refine tQ.mk e2 rl2' re3 hq fun w3 l3 rl3 => ?_
        cases b1 with
        | false =>
          simp only [Bool.false_eq_true, if_false] at hf ⊢
          have l13 := l2.trans l3
          obtain ⟨x1, x2, x3⟩ := stay l13
          exact ⟨w3, M2, acc, vacc, rest, rfl, l.trans l13, rl3, x1, x2, x3, rl2.rds l13 ra, hf, ho⟩
        | true =>
          simp only [if_true] at hf ⊢
          obtain ⟨⟨r, M3⟩, he, hf⟩ := Option.bind_eq_some_iff.mp hf
          obtain ⟨⟨t, M4⟩, ht, hf⟩ := Option.map_eq_some_iff.mp hf
          cases hf
          refine tI.mk rfl rl3 (rl2'.re l3 re3) he fun y w4 l4 rl4 rr4 => ?_
          obtain ⟨w4', l4', e4, b4, rl4', rd4, _⟩ := rr4.fz rl4 l4
          have l14 := (l2.trans l3).trans l4'
          obtain ⟨x1, x2, x3⟩ := stay l14
          have ht4 : ∀ us, w4'.H p ≠ some (.tup us) := fun us => by rw [x3]; simp
          rw [← e4]
          have hlen2 : vacc.length < sizeLine := by
            rw [ra.length]
            rw [ho] at hl
            simp only [List.length_append, List.length_cons] at hl
            omega
          refine ⟨vacc, x3, hlen2, w4'.lay p (.lst (vacc ++ [y])), M3, acc ++ [r.fz], vacc ++ [y], t, rfl, (l.trans l14).over hp, rl4'.over x1 x2 ht4, x1, x2, Wo.lay_at, (RDs.over x1 ht4 _ _ (rl2.rds l14 ra)).app (.cons (RD.over x1 ht4 _ _ rd4) .nil), ht, by rw [ho]; simp⟩
    · cases hf
theorem sLc {fi : FI} {b' : FB} {js : List Nat} {scope : Scope} {own : List (Str × Nat)} (hc : X.calm = true) (hN : X.N.Nodup) (hi : SI X tg e fi) (ok : BlkOk X.N X.env.scope scope own) (hj : ∀ i ∈ js, i ∈ own.map (·.2))
    (hg : ∀ (s : Shared) (H : Hp) (C : Addr) (cl : List (Str × Addr)) (fp : List Addr), SG (X.blk s H scope (compEnvC scope cl C X.env) fp) tg js b') (ht : ∀ (s : Shared) (H : Hp) (C : Addr) (cl : List (Str × Addr)) (fp : List Addr), STs (X.blk s H scope (compEnvC scope cl C X.env) fp) ifs q)
    (he : ∀ (s : Shared) (H : Hp) (C : Addr) (cl : List (Str × Addr)) (fp : List Addr), SE (X.blk s H scope (compEnvC scope cl C X.env) fp) elt fe) (hs : ∀ x, foldedSetIterable e X.env x = pure x := by intro _; rfl) :
    SE X (.ListComp elt [⟨tg, e, ifs, 0⟩] scope pos) (fLc fi b' q fe (own.map (·.2))) := (pe_lc hc hN hi ok hg ht he hs).imp fun σ H Q ⟨w, env, M, r, M', e, rl, re, hf, k⟩ => by
  unfold fLc at hf
  obtain ⟨p, hp, hf⟩ := Option.bind_eq_some_iff.mp hf
  obtain ⟨t, ht, hf⟩ := Option.bind_eq_some_iff.mp hf
  split at hf
  · rename_i hl
    cases hf
    exact ⟨w, env, M, _, _, e, rl, re, hp, fun J w1 l1 rl1 src D hD => lc_go src l1 rl1 (rl.re l1 re) hj ht hl hD k⟩
  · cases hf
/-- name = [..] on one line -/
theorem ssLc {i : Nat} {y : Str} {py spos : Pos} {fi : FI} {b' : FB} {js : List Nat} {scope : Scope} {own : List (Str × Nat)} (hc : X.calm = true) (hN : X.N.Nodup) (hi : SI X tg e fi) (ok : BlkOk X.N X.env.scope scope own) (hj : ∀ i ∈ js, i ∈ own.map (·.2))
    (hg : ∀ (s : Shared) (H : Hp) (C : Addr) (cl : List (Str × Addr)) (fp : List Addr), SG (X.blk s H scope (compEnvC scope cl C X.env) fp) tg js b') (ht : ∀ (s : Shared) (H : Hp) (C : Addr) (cl : List (Str × Addr)) (fp : List Addr), STs (X.blk s H scope (compEnvC scope cl C X.env) fp) ifs q)
    (he : ∀ (s : Shared) (H : Hp) (C : Addr) (cl : List (Str × Addr)) (fp : List Addr), SE (X.blk s H scope (compEnvC scope cl C X.env) fp) elt fe)
    (hsw : swapsWith (.ListComp elt [⟨tg, e, ifs, 0⟩] scope pos) (some (.Name y py)) spos.line X.env = pure true)
    (hy : X.N[i]? = some y := by rfl) (hyl : X.env.scope.names.lookup y = some .local := by rfl) (hs : ∀ x, foldedSetIterable e X.env x = pure x := by intro _; rfl) :
    SS X (.Assign [.Name y py] (.ListComp elt [⟨tg, e, ifs, 0⟩] scope pos) spos) (fAsg (bName i) (fLc fi b' q fe (own.map (·.2)))) := PS.imp (ps_setLc (g := tIG X.K X.mg js b') (tt := tQ X.K X.mg q) (te := tI X.K X.mg fe) hc hN hy hyl hsw hi ok hg ht he hs) fun D σ H h => by
  obtain ⟨w, env, M, fl, env', M', e, rl, re, hf, k⟩ := h.out
  unfold fAsg at hf
  obtain ⟨⟨r, Ma⟩, hr, hf⟩ := Option.bind_eq_some_iff.mp hf
  obtain ⟨env1, hb, hf⟩ := Option.map_eq_some_iff.mp hf
  cases hf
  unfold fLc at hr
  obtain ⟨p, hp, hr⟩ := Option.bind_eq_some_iff.mp hr
  obtain ⟨t, ht, hr⟩ := Option.bind_eq_some_iff.mp hr
  split at hr
  · rename_i hl
    cases hr
    refine ⟨w, env, M, _, _, e, rl, re, hp, fun J w1 l1 rl1 src D' hD => lc_go (Qd := fun x H1 => gName i x σ H1 D.nx) src l1 rl1 (rl.re l1 re) hj ht hl hD fun v w2 l2 rl2 rr2 => ?_⟩
    obtain ⟨w2', l2', e2, rl2', rd2, P⟩ := rr2.al rl2 l2
    cases hb
    show D.nx _ _
    rw [← e2]
    exact k _ w2' l2' rl2' (((rl.re l2 re).imp P).set rd2)
  · cases hr
end
end Fl
set_option Elab.async false
set_option linter.all false
set_option maxRecDepth 100000
/-! Fl7: a dict's keys walked: the dict is locked meanwhile. -/
namespace Fl
open PySem PySem.Spec PyProof.Rows L2
section
variable {K : PySem.W.Frag} {mg : Str → Option Value} {w w0 w1 w2 w' : Wo} {M M' : Mem} {a : Addr} {u : HO} {od : Obj}
theorem RDs.keys : ∀ {ks : List Key}, RDs K mg w (ks.map kV) (ks.map Key.d)
  | [] => .nil
  | k :: ks => .cons (by cases k with
    | inl i => exact RD.mkInt
    | inr x => exact RD.mkStr) (RDs.keys (ks := ks))
theorem src_k {a : Addr} {o : Obj} {kv : List (Key × V)} {kvs : List (DK × D)} {kp : Mem → Prop} (h : w.H a = some (.frz o (.dK kv))) (e : kvs.map (·.1) = kv.map (fun p => DK.k p.1)) : Src K mg (Itk a o kv) w (kvs.map fun p => DK.d p.1) kp where
  go := fun w2 M2 i d l rl2 kp hd => by
    have hl : kvs.length = kv.length := by have := congrArg List.length e; simpa using this
    rw [List.getElem?_map] at hd
    obtain ⟨p, hp, rfl⟩ := Option.map_eq_some_iff.mp hd
    have hi := (List.getElem?_eq_some_iff.mp hp).1
    refine ⟨⟨l.fr _ _ _ h, by omega⟩, fun x H' ⟨eH, k, v, hk, hx⟩ => ⟨w2, eH.symm, Le.refl w2, rl2, ?_⟩⟩
    have e1 := congrArg (·[i]?) e
    simp only [List.getElem?_map, hp, hk, Option.map_some, Option.some.injEq] at e1
    rw [e1]
    subst hx
    cases k with
    | inl i => exact RD.mkInt
    | inr x => exact RD.mkStr
  stop := fun w2 M2 l rl2 kp => by
    have hl : kvs.length = kv.length := by have := congrArg List.length e; simpa using this
    exact ⟨l.fr _ _ _ h, by rw [List.length_map]; omega⟩
theorem src_t {a : Addr} {o : Obj} {kv : List (List Key × V)} {kvs : List (DK × D)} {kp : Mem → Prop} (h : w.H a = some (.frz o (.dT kv))) (e : kvs.map (·.1) = kv.map (fun p => DK.t p.1)) : Src K mg (Itkt a o kv) w (kvs.map fun p => DK.d p.1) kp where
  go := fun w2 M2 i d l rl2 kp hd => by
    have hl : kvs.length = kv.length := by have := congrArg List.length e; simpa using this
    rw [List.getElem?_map] at hd
    obtain ⟨p, hp, rfl⟩ := Option.map_eq_some_iff.mp hd
    have hi := (List.getElem?_eq_some_iff.mp hp).1
    refine ⟨⟨l.fr _ _ _ h, by omega⟩, fun x H' ⟨eH, k, v, q, hk, hx, hq⟩ => ⟨w2, eH.symm, Le.refl w2, rl2, ?_⟩⟩
    have e1 := congrArg (·[i]?) e
    simp only [List.getElem?_map, hp, hk, Option.map_some, Option.some.injEq] at e1
    rw [e1]
    subst hx
    show RD K mg w2 (.ref q) (.tup (k.map Key.d))
    simp only [RD]
    exact ⟨q, _, rfl, hq, .keys⟩
  stop := fun w2 M2 l rl2 kp => by
    have hl : kvs.length = kv.length := by have := congrArg List.length e; simpa using this
    exact ⟨l.fr _ _ _ h, by rw [List.length_map]; omega⟩
theorem Le.unl (l : Le w w') (hb : a ∈ w.β) (hnt : ∀ vs, w.H a ≠ some (.tup vs)) (hnf : ∀ o u, w.H a ≠ some (.frz o u)) : Le w (w'.lay a u) := by
  refine ⟨⟨fun b o hb' e => ?_, fun b o e => ?_, l.g, l.b, l.nb⟩, l.ng, fun b o v e => ?_⟩
  · show upd w'.H a u b = _; rw [upd_ne (fun z => hb' (by rw [z]; exact hb))]; exact l.keep b o hb' e
  · show upd w'.H a u b = _; rw [upd_ne (fun z => hnt o (by rw [← z]; exact e))]; exact l.tup b o e
  · show upd w'.H a u b = _; rw [upd_ne (fun z => hnf o v (by rw [← z]; exact e))]; exact l.fr b o v e
/-- what it takes to walk the dict at the memory's n-th place -/
structure Lk (K : PySem.W.Frag) (mg : Str → Option Value) (w : Wo) (M : Mem) (n : Nat) (a : Addr) (u : HO) (t : Bool) (kvs : List (DK × D)) : Prop where
  b : w.β[n]? = some a
  h : w.H a = some u
  mu : Mut (some u)
  m : M[n]? = some (.dic t kvs)
  nt : ∀ vs, u ≠ .tup vs
  nf : ∀ o v, u ≠ .frz o v
  lk : ∀ od, Rl K mg (w.lay a (.frz od u)) (M.set n (.lkd t kvs))
  src : ∀ od w2 kp, w2.H a = some (.frz od u) → ∃ J, Src K mg J w2 (kvs.map fun p => DK.d p.1) kp ∧ ((∃ kv, w2.H a = some (.frz od (.dK kv)) ∧ J = Itk a od kv) ∨ ∃ kv, w2.H a = some (.frz od (.dT kv)) ∧ J = Itkt a od kv)
  un : ∀ od w' M', Rl K mg w' M' → w'.β[n]? = some a → w'.H a = some (.frz od u) → M'[n]? = some (.lkd t kvs) → Rl K mg (w'.lay a u) (M'.set n (.dic t kvs))
theorem Lk.of (rl : Rl K mg w M) {n : Nat} {t : Bool} {kvs : List (DK × D)} (hb : w.β[n]? = some a) (hm : M[n]? = some (.dic t kvs)) : ∃ u, Lk K mg w M n a u t kvs := by
  obtain ⟨vs, h1, q1⟩ := rl.ob n a _ hb hm
  cases t with
  | false =>
    obtain ⟨kv, g1, g2, rfl⟩ := h1
    refine ⟨.dK kv, hb, g1, trivial, hm, fun _ => by simp, fun _ _ => by simp, fun od => ?_, fun od w2 kp h2 => ⟨Itk a od kv, src_k h2 g2, .inl ⟨kv, h2, rfl⟩⟩, fun od w' M' rl' hb' h' hm' => ?_⟩
    · exact rl.put hb ⟨_, hm⟩ (fun us => by rw [g1]; simp) ⟨_, ⟨od, kv, Wo.lay_at, g2, rfl⟩, rl.rds (Le0.put hb (fun us => by rw [g1]; simp)) q1⟩
    · obtain ⟨vs', h3, q3⟩ := rl'.ob n a _ hb' hm'
      obtain ⟨o3, kv3, g3, g4, rfl⟩ := h3
      rw [h'] at g3
      cases g3
      exact rl'.put hb' ⟨_, hm'⟩ (fun us => by rw [h']; simp) ⟨_, ⟨kv, Wo.lay_at, g4, rfl⟩, rl'.rds (Le0.put hb' (fun us => by rw [h']; simp)) q3⟩
  | true =>
    obtain ⟨kv, g1, g2, rfl⟩ := h1
    refine ⟨.dT kv, hb, g1, trivial, hm, fun _ => by simp, fun _ _ => by simp, fun od => ?_, fun od w2 kp h2 => ⟨Itkt a od kv, src_t h2 g2, .inr ⟨kv, h2, rfl⟩⟩, fun od w' M' rl' hb' h' hm' => ?_⟩
    · exact rl.put hb ⟨_, hm⟩ (fun us => by rw [g1]; simp) ⟨_, ⟨od, kv, Wo.lay_at, g2, rfl⟩, rl.rds (Le0.put hb (fun us => by rw [g1]; simp)) q1⟩
    · obtain ⟨vs', h3, q3⟩ := rl'.ob n a _ hb' hm'
      obtain ⟨o3, kv3, g3, g4, rfl⟩ := h3
      rw [h'] at g3
      cases g3
      exact rl'.put hb' ⟨_, hm'⟩ (fun us => by rw [h']; simp) ⟨_, ⟨kv, Wo.lay_at, g4, rfl⟩, rl'.rds (Le0.put hb' (fun us => by rw [h']; simp)) q3⟩
section
variable {n : Nat} {t : Bool} {kvs : List (DK × D)}
theorem Lk.hnt (L : Lk K mg w M n a u t kvs) : ∀ vs, w.H a ≠ some (.tup vs) := fun vs e => by rw [L.h] at e; cases e; exact L.nt vs rfl
theorem Lk.hnf (L : Lk K mg w M n a u t kvs) : ∀ o v, w.H a ≠ some (.frz o v) := fun o v e => by rw [L.h] at e; cases e; exact L.nf o v rfl
theorem Lk.le (L : Lk K mg w M n a u t kvs) (od : Obj) : Le w (w.lay a (.frz od u)) := Le.put L.b L.hnt L.hnf
theorem Lk.ale (L : Lk K mg w M n a u t kvs) (l : Le w w') : Le w (w'.lay a u) := l.unl (List.mem_iff_getElem?.mpr ⟨n, L.b⟩) L.hnt L.hnf
/-- a result behind the unlocking -/
theorem Lk.rr (L : Lk K mg w M n a u t kvs) {v : V} {r : R} (rl' : Rl K mg w' M') (l : Le w w') (h' : w'.H a = some (.frz od u)) (h : RR K mg w w' v r) : RR K mg w (w'.lay a u) v r := by
  have hb' : w'.β[n]? = some a := l.b n a L.b
  have l0 : Le0 w' (w'.lay a u) := Le0.put hb' (fun us => by rw [h']; simp)
  cases r with
  | v d => exact rl'.rd l0 h
  | n o =>
    obtain ⟨b, e, h1, h2, h3, h4⟩ := h
    refine ⟨b, e, rl'.ro l0 (fun z e => ?_) h1, h2, h3, h4⟩
    show upd w'.H a u b = _
    rw [upd_ne (fun z => h3 (by rw [z]; exact List.mem_iff_getElem?.mpr ⟨n, hb'⟩))]
    exact e
end
end
section
variable {X : Cx} {e b c o tg elt : Expr} {es ifs : List Expr} {fa fb fc fo fe : FE} {fr : FA} {q : FT} {pos pos' : Pos} {x : Str}
open Classical in
noncomputable def fForD (i : Nat) (b : FB) (body : FS) : FS := fun env M => match env[i]? with
  | some (some (.ref n)) => match M[n]? with
    | some (.dic t kvs) => (fForGo b body (fun M => M[n]? = some (.lkd t kvs)) (kvs.map fun p => DK.d p.1) env (M.set n (.lkd t kvs))).bind fun p => if p.2.2[n]? = some (.lkd t kvs) then some (p.1, p.2.1, p.2.2.set n (.dic t kvs)) else none
    | _ => none
  | _ => none
theorem keys_at {K : PySem.W.Frag} {mg : Str → Option Value} {w w' : Wo} {M : Mem} {n : Nat} {a : Addr} {v : V} (l : Le w w') (hb : w.β[n]? = some a) (h : RD K mg w' v (.ref n)) : v = .ref a := by
  simp only [RD] at h
  obtain ⟨a', rfl, h⟩ := h
  rw [l.b n a hb] at h
  cases h
  rfl
theorem ssForD {i : Nat} {b' : FB} {f : FS} {js : List Nat} {body : List Stmt} (hp : PassesOwn (model X.prog X.w) X.A X.env X.xe) (hc : X.calm = true) (hv : SE X (.Name x pos') (fVar i)) (hg : SG X tg js b') (hb : SSs X body f) (hs : ∀ y, foldedSetIterable (.Name x pos') X.env y = pure y := by intro _; rfl) :
    SS X (.For tg (.Name x pos') body [] pos) (fForD i b' f) := PS.imp (ps_lock (ps_for hp hc (pi_keys hv) hg hb hs)) fun D σ H h => by
  obtain ⟨w, env, M, fl, env', M', e, rl, re, hf, k⟩ := h.out
  subst e
  unfold fForD at hf
  split at hf
  · rename_i n hn
    split at hf
    · rename_i t kvs hM
      obtain ⟨⟨fl1, env1, M1⟩, h1, hf⟩ := Option.bind_eq_some_iff.mp hf
      split at hf
      · rename_i hlk
        cases hf
        obtain ⟨v, hσ, rdv⟩ := re.get hn
        simp only [RD] at rdv
        obtain ⟨a, rfl, hba⟩ := rdv
        obtain ⟨u, L⟩ := Lk.of rl hba hM
        refine ⟨a, u, L.h, L.mu, fun od => ?_⟩
        have l1 := L.le od
        have rl1 := L.lk od
        unfold tFor L2.iKeys
        refine tI.mk (w := w.lay a (.frz od u)) rfl rl1 (rl.re l1 re) (show fVar i env _ = some (.v (.ref n), _) by unfold fVar; rw [hn]) fun v2 w2 l2 rl2 rr2 => ?_
        have l02 := l1.trans l2
        have e2 := keys_at (M := M) l02 L.b rr2.d
        have h2 : w2.H a = some (.frz od u) := l2.fr _ _ _ Wo.lay_at
        obtain ⟨J, src, hJ⟩ := L.src od w2 (fun M => M[n]? = some (.lkd t kvs)) h2
        have kW : Wants X.K X.mg ⟨fun σ' H' => H' a = some (.frz od u) ∧ D.nx σ' (upd H' a u), fun v H' => H' a = some (.frz od u) ∧ D.rt v (upd H' a u), fun σ' H' => H' a = some (.frz od u) ∧ D.bk σ' (upd H' a u), fun σ' H' => H' a = some (.frz od u) ∧ D.ct σ' (upd H' a u)⟩ w2 fl1 env1 M1 := by
          cases fl1 with
          | nx => exact fun σ' w' l' rl' re' => ⟨l'.fr _ _ _ h2, k σ' (w'.lay a u) (L.ale (l02.trans l')) (L.un od w' _ rl' ((l02.trans l').b n a L.b) (l'.fr _ _ _ h2) hlk) (rl'.re (Le0.put ((l02.trans l').b n a L.b) (fun us => by rw [l'.fr _ _ _ h2]; simp)) re')⟩
          | bk => exact fun σ' w' l' rl' re' => ⟨l'.fr _ _ _ h2, k σ' (w'.lay a u) (L.ale (l02.trans l')) (L.un od w' _ rl' ((l02.trans l').b n a L.b) (l'.fr _ _ _ h2) hlk) (rl'.re (Le0.put ((l02.trans l').b n a L.b) (fun us => by rw [l'.fr _ _ _ h2]; simp)) re')⟩
          | ct => exact fun σ' w' l' rl' re' => ⟨l'.fr _ _ _ h2, k σ' (w'.lay a u) (L.ale (l02.trans l')) (L.un od w' _ rl' ((l02.trans l').b n a L.b) (l'.fr _ _ _ h2) hlk) (rl'.re (Le0.put ((l02.trans l').b n a L.b) (fun us => by rw [l'.fr _ _ _ h2]; simp)) re')⟩
          | rt r => exact fun v' w' l' rl' rr' => ⟨l'.fr _ _ _ h2, (k v' (w'.lay a u) (L.ale (l02.trans l')) (L.un od w' _ rl' ((l02.trans l').b n a L.b) (l'.fr _ _ _ h2) hlk) (L.rr rl' (l02.trans l') (l'.fr _ _ _ h2) (rr'.bk l02 l')) : D.rt v' (w'.lay a u).H)⟩
        refine ⟨a, od, e2, hJ.imp (fun ⟨kv, h, ej⟩ => ⟨kv, h, ?_⟩) (fun ⟨kv, h, ej⟩ => ⟨kv, h, ?_⟩)⟩
        · subst ej
          exact for_go src rl2 (rl.re l02 re) h1 kW
        · subst ej
          exact for_go src rl2 (rl.re l02 re) h1 kW
      · cases hf
    · cases hf
  · cases hf
open Classical in
noncomputable def fLcD (i : Nat) (b : FB) (q : FT) (f : FE) (vs : List Nat) : FE := fun env M => match env[i]? with
  | some (some (.ref n)) => match M[n]? with
    | some (.dic t kvs) => (fLcGo b q f (fun M => M[n]? = some (.lkd t kvs)) (wipeE env vs) (kvs.map fun p => DK.d p.1) (M.set n (.lkd t kvs))).bind fun p => if p.2[n]? = some (.lkd t kvs) ∧ p.1.length ≤ sizeLine then some (.n (.lst p.1), p.2.set n (.dic t kvs)) else none
    | _ => none
  | _ => none
theorem sLcD {i : Nat} {b' : FB} {js : List Nat} {scope : Scope} {own : List (Str × Nat)} (hc : X.calm = true) (hN : X.N.Nodup) (hv : SE X (.Name x pos') (fVar i)) (ok : BlkOk X.N X.env.scope scope own) (hj : ∀ i ∈ js, i ∈ own.map (·.2))
    (hg : ∀ (s : Shared) (H : Hp) (C : Addr) (cl : List (Str × Addr)) (fp : List Addr), SG (X.blk s H scope (compEnvC scope cl C X.env) fp) tg js b') (ht : ∀ (s : Shared) (H : Hp) (C : Addr) (cl : List (Str × Addr)) (fp : List Addr), STs (X.blk s H scope (compEnvC scope cl C X.env) fp) ifs q)
    (he : ∀ (s : Shared) (H : Hp) (C : Addr) (cl : List (Str × Addr)) (fp : List Addr), SE (X.blk s H scope (compEnvC scope cl C X.env) fp) elt fe) (hs : ∀ y, foldedSetIterable (.Name x pos') X.env y = pure y := by intro _; rfl) :
    SE X (.ListComp elt [⟨tg, .Name x pos', ifs, 0⟩] scope pos) (fLcD i b' q fe (own.map (·.2))) := (pe_lock (pe_lc (g := tIG X.K X.mg js b') (tt := tQ X.K X.mg q) (te := tI X.K X.mg fe) hc hN (pi_keys hv) ok hg ht he hs)).imp fun σ H Q ⟨w, env, M, r, M', e, rl, re, hf, k⟩ => by
  subst e
  unfold fLcD at hf
  split at hf
  · rename_i n hn
    split at hf
    · rename_i t kvs hM
      obtain ⟨⟨out, M1⟩, h1, hf⟩ := Option.bind_eq_some_iff.mp hf
      split at hf
      · rename_i hlk
        obtain ⟨hlk, hlen⟩ := hlk
        cases hf
        obtain ⟨v, hσ, rdv⟩ := re.get hn
        simp only [RD] at rdv
        obtain ⟨a, rfl, hba⟩ := rdv
        obtain ⟨u, L⟩ := Lk.of rl hba hM
        refine ⟨a, u, L.h, L.mu, fun od => ?_⟩
        have l1 := L.le od
        have rl1 := L.lk od
        unfold tLc L2.iKeys
        refine tI.mk (w := w.lay a (.frz od u)) rfl rl1 (rl.re l1 re) (show fVar i env _ = some (.v (.ref n), _) by unfold fVar; rw [hn]) fun v2 w2 l2 rl2 rr2 => ?_
        have l02 := l1.trans l2
        have e2 := keys_at (M := M) l02 L.b rr2.d
        have h2 : w2.H a = some (.frz od u) := l2.fr _ _ _ Wo.lay_at
        obtain ⟨J, src, hJ⟩ := L.src od w2 (fun M => M[n]? = some (.lkd t kvs)) h2
        have kQ : ∀ v' w', Le w2 w' → Rl X.K X.mg w' M1 → RR X.K X.mg w2 w' v' (.n (.lst out)) → w'.H a = some (.frz od u) ∧ Q v' (upd w'.H a u) := fun v' w' l' rl' rr' =>
          ⟨l'.fr _ _ _ h2, (k v' (w'.lay a u) (L.ale (l02.trans l')) (L.un od w' _ rl' ((l02.trans l').b n a L.b) (l'.fr _ _ _ h2) hlk) (L.rr rl' (l02.trans l') (l'.fr _ _ _ h2) (rr'.bk l02 l')) : Q v' (w'.lay a u).H)⟩
        refine ⟨a, od, e2, hJ.imp (fun ⟨kv, h, ej⟩ => ⟨kv, h, fun D hD => ?_⟩) (fun ⟨kv, h, ej⟩ => ⟨kv, h, fun D hD => ?_⟩)⟩
        · subst ej
          exact lc_go (Qd := fun v H' => H' a = some (.frz od u) ∧ Q v (upd H' a u)) src (Le.refl w2) rl2 (rl.re l02 re) hj h1 hlen hD kQ
        · subst ej
          exact lc_go (Qd := fun v H' => H' a = some (.frz od u) ∧ Q v (upd H' a u)) src (Le.refl w2) rl2 (rl.re l02 re) hj h1 hlen hD kQ
      · cases hf
    · cases hf
  · cases hf
end
end Fl
set_option Elab.async false
set_option linter.all false
set_option maxRecDepth 100000
/-! Fl8: defs by their functions; calls; the memory cut at a return; instances. -/
namespace Fl
open PySem PySem.Spec PyProof.Rows L2
abbrev FF := List D → Mem → Option (R × Mem)
/-! ### the memory cut -/
mutual
def okD (k : Nat) : D → Bool
  | .tup ds => okDs k ds
  | .ktp ds => okDs k ds
  | .lst ds => okDs k ds
  | .dic _ _ vs => okDs k vs
  | .ins _ _ vs => okDs k vs
  | .ref n => decide (n < k)
  | .non => true
  | .bl _ => true
  | .int _ => true
  | .str _ => true
  | .scr _ => true
def okDs (k : Nat) : List D → Bool
  | [] => true
  | d :: ds => okD k d && okDs k ds
end
def okO (k : Nat) : O → Bool
  | .lst ds => okDs k ds
  | .dic _ kvs => okDs k (kvs.map (·.2))
  | .lkd _ kvs => okDs k (kvs.map (·.2))
  | .ins _ fs => okDs k (fs.map (·.2))
def Wo.cut (w : Wo) (k : Nat) : Wo := { w with β := w.β.take k }
section
variable {K : PySem.W.Frag} {mg : Str → Option Value} {w w' w0 w2 : Wo} {M M2 : Mem}
mutual
theorem RD.cutM {k : Nat} : ∀ (d : D) (v : V), okD k d = true → RD K mg w v d → RD K mg (w.cut k) v d
  | .non, v, _, h => by simpa only [RD] using h
  | .bl b, v, _, h => by simpa only [RD] using h
  | .int i, v, _, h => by simpa only [RD] using h
  | .str x, v, _, h => by simpa only [RD] using h
  | .tup ds, v, q, h => by
    simp only [RD] at h ⊢
    obtain ⟨a, vs, e, h1, h2⟩ := h
    exact ⟨a, vs, e, h1, RDs.cutM ds vs (by simpa only [okD] using q) h2⟩
  | .ktp ds, v, q, h => by
    simp only [RD] at h ⊢
    obtain ⟨a, vs, e, h1, h2⟩ := h
    exact ⟨a, vs, e, h1, RDs.cutM ds vs (by simpa only [okD] using q) h2⟩
  | .lst ds, v, q, h => by
    simp only [RD] at h ⊢
    obtain ⟨a, vs, e, h1, h2⟩ := h
    exact ⟨a, vs, e, h1, RDs.cutM ds vs (by simpa only [okD] using q) h2⟩
  | .scr xs, v, _, h => by
    simp only [RD] at h ⊢
    exact h
  | .dic t ks ds, v, q, h => by
    simp only [RD] at h ⊢
    obtain ⟨a, vs, e, g, h1, h2⟩ := h
    exact ⟨a, vs, e, g, h1, RDs.cutM ds vs (by simpa only [okD] using q) h2⟩
  | .ins c ns ds, v, q, h => by
    simp only [RD] at h ⊢
    obtain ⟨a, vs, e, g, h1, h2⟩ := h
    exact ⟨a, vs, e, g, h1, RDs.cutM ds vs (by simpa only [okD] using q) h2⟩
  | .ref n, v, q, h => by
    simp only [RD] at h ⊢
    obtain ⟨a, e, h1⟩ := h
    refine ⟨a, e, ?_⟩
    show (w.β.take k)[n]? = some a
    have : n < k := by simpa only [okD, decide_eq_true_eq] using q
    rw [List.getElem?_take, if_pos this]
    exact h1
theorem RDs.cutM {k : Nat} : ∀ (ds : List D) (vs : List V), okDs k ds = true → RDs K mg w vs ds → RDs K mg (w.cut k) vs ds
  | [], [], _, h => .nil
  | [], _ :: _, _, h => by simp only [RDs] at h
  | _ :: _, [], _, h => by simp only [RDs] at h
  | d :: ds, v :: vs, q, h => by
    simp only [okDs, Bool.and_eq_true] at q
    exact .cons (RD.cutM d v q.1 h.head) (RDs.cutM ds vs q.2 h.tail)
end
mutual
theorem RD.okD : ∀ (d : D) (v : V), RD K mg w v d → okD w.β.length d = true
  | .non, v, h => by simp only [Fl.okD]
  | .bl b, v, h => by simp only [Fl.okD]
  | .int i, v, h => by simp only [Fl.okD]
  | .str x, v, h => by simp only [Fl.okD]
  | .scr x, v, h => by simp only [Fl.okD]
  | .tup ds, v, h => by
    simp only [RD] at h
    obtain ⟨a, vs, e, h1, h2⟩ := h
    simp only [Fl.okD]
    exact RDs.okDs ds vs h2
  | .ktp ds, v, h => by
    simp only [RD] at h
    obtain ⟨a, vs, e, h1, h2⟩ := h
    simp only [Fl.okD]
    exact RDs.okDs ds vs h2
  | .lst ds, v, h => by
    simp only [RD] at h
    obtain ⟨a, vs, e, h1, h2⟩ := h
    simp only [Fl.okD]
    exact RDs.okDs ds vs h2
  | .dic t ks ds, v, h => by
    simp only [RD] at h
    obtain ⟨a, vs, e, g, h1, h2⟩ := h
    simp only [Fl.okD]
    exact RDs.okDs ds vs h2
  | .ins c ns ds, v, h => by
    simp only [RD] at h
    obtain ⟨a, vs, e, g, h1, h2⟩ := h
    simp only [Fl.okD]
    exact RDs.okDs ds vs h2
  | .ref n, v, h => by
    simp only [RD] at h
    obtain ⟨a, e, h1⟩ := h
    simp only [Fl.okD, decide_eq_true_eq]
    exact (List.getElem?_eq_some_iff.mp h1).1
theorem RDs.okDs : ∀ (ds : List D) (vs : List V), RDs K mg w vs ds → okDs w.β.length ds = true
  | [], [], h => by simp only [Fl.okDs]
  | [], _ :: _, h => by simp only [RDs] at h
  | _ :: _, [], h => by simp only [RDs] at h
  | d :: ds, v :: vs, h => by
    simp only [Fl.okDs, Bool.and_eq_true]
    exact ⟨RD.okD d v h.head, RDs.okDs ds vs h.tail⟩
end
theorem RO.okO {a : Addr} {o : O} (h : RO K mg w a o) : okO w.β.length o = true := by
  cases o with
  | lst ds => obtain ⟨vs, h, q⟩ := h; exact RDs.okDs _ _ q
  | dic t kvs => obtain ⟨vs, h, q⟩ := h; exact RDs.okDs _ _ q
  | lkd t kvs => obtain ⟨vs, h, q⟩ := h; exact RDs.okDs _ _ q
  | ins c fs => obtain ⟨vs, h, q⟩ := h; exact RDs.okDs _ _ q
theorem RO.cutM {k : Nat} {a : Addr} {o : O} (e : Fl.okO k o = true) (h : RO K mg w a o) : RO K mg (w.cut k) a o := by
  cases o with
  | lst ds => obtain ⟨vs, h, q⟩ := h; exact ⟨vs, h, RDs.cutM _ _ e q⟩
  | dic t kvs => obtain ⟨vs, h, q⟩ := h; exact ⟨vs, h, RDs.cutM _ _ e q⟩
  | lkd t kvs => obtain ⟨vs, h, q⟩ := h; exact ⟨vs, h, RDs.cutM _ _ e q⟩
  | ins c fs => obtain ⟨vs, h, q⟩ := h; exact ⟨vs, h, RDs.cutM _ _ e q⟩
open Classical in
noncomputable def trunc (M : Mem) (p : R × Mem) : Option (R × Mem) :=
  if ∀ n o, n < M.length → p.2[n]? = some o → M[n]? = some o ∨ okO M.length o = true then
    match p.1 with
    | .v (.ref n) => if n < M.length then some (.v (.ref n), p.2.take M.length) else match p.2[n]? with
      | some o => if okO M.length o = true then some (.n o, p.2.take M.length) else none
      | none => none
    | .v d => if okD M.length d = true then some (.v d, p.2.take M.length) else none
    | .n o => if okO M.length o = true then some (.n o, p.2.take M.length) else none
  else none
theorem trunc_ok {p q : R × Mem} {v : V} (rl : Rl K mg w M) (l : Le w w2) (rl2 : Rl K mg w2 p.2) (rr : RR K mg w w2 v p.1) (h : trunc M p = some q) : ∃ w3, w3.H = w2.H ∧ Le w w3 ∧ Rl K mg w3 q.2 ∧ RR K mg w w3 v q.1 := by
  have hk : w.β.length = M.length := rl.len
  have hle : M.length ≤ p.2.length := by
    rw [← hk, ← rl2.len]
    rcases Nat.lt_or_ge w2.β.length w.β.length with z | z
    · have e := l.b w2.β.length _ (List.getElem?_eq_getElem z)
      have := (List.getElem?_eq_some_iff.mp e).1
      omega
    · exact z
  unfold trunc at h
  split at h
  · rename_i hM
    have lc : Le w (w2.cut M.length) := by
      refine ⟨⟨l.keep, l.tup, l.g, fun n a e => ?_, fun a ha => l.nb a (List.mem_of_mem_take ha)⟩, l.ng, l.fr⟩
      show (w2.β.take M.length)[n]? = some a
      have hn := (List.getElem?_eq_some_iff.mp e).1
      rw [List.getElem?_take, if_pos (by omega)]
      exact l.b n a e
    have rc : Rl K mg (w2.cut M.length) (p.2.take M.length) := by
      refine ⟨rl2.nd.sublist (List.take_sublist _ _), ?_, fun a g hb => rl2.dj a g (List.mem_of_mem_take hb), rl2.tr, fun n a o h1 h2 => ?_⟩
      · show (w2.β.take M.length).length = _
        rw [List.length_take, List.length_take, rl2.len]
      · have h1 : (w2.β.take M.length)[n]? = some a := h1
        rw [List.getElem?_take] at h1 h2
        split at h1
        · rename_i hn
          rw [if_pos hn] at h2
          have ro := rl2.ob n a o h1 h2
          rcases hM n o hn h2 with z | z
          · have hw : n < w.β.length := by omega
            have := (rl.ob n _ o (List.getElem?_eq_getElem hw) z).okO
            rw [hk] at this
            exact ro.cutM this
          · exact ro.cutM z
        · cases h1
    have fin : ∀ {n : Nat} {o : O}, RD K mg w2 v (.ref n) → ¬ n < M.length → p.2[n]? = some o → okO M.length o = true → RR K mg w (w2.cut M.length) v (.n o) := fun {n o} hv hn ho hok => by
      simp only [RD] at hv
      obtain ⟨a, rfl, hb⟩ := hv
      have hmem : a ∈ w2.β := List.mem_iff_getElem?.mpr ⟨n, hb⟩
      have uniq : ∀ m, w2.β[m]? = some a → m = n := fun m e => by
        obtain ⟨i1, e1⟩ := List.getElem?_eq_some_iff.mp e
        obtain ⟨i2, e2⟩ := List.getElem?_eq_some_iff.mp hb
        exact (List.getElem_inj rl2.nd).mp (e1.trans e2.symm)
      refine ⟨a, rfl, (rl2.ob n a o hb ho).cutM hok, fun g => rl2.dj a g hmem, fun z => ?_, ?_⟩
      · obtain ⟨m, e⟩ := List.mem_iff_getElem?.mp (show a ∈ w2.β.take M.length from z)
        rw [List.getElem?_take] at e
        split at e
        · rename_i hm
          have := uniq m e
          omega
        · cases e
      · rcases l.nb a hmem with z | z
        · obtain ⟨m, e⟩ := List.mem_iff_getElem?.mp z
          have hm := (List.getElem?_eq_some_iff.mp e).1
          have := uniq m (l.b m a e)
          omega
        · exact z
    split at h
    · rename_i n hr
      rw [hr] at rr
      split at h
      · rename_i hn
        cases h
        exact ⟨w2.cut M.length, rfl, lc, rc, RD.cutM _ _ (by simp only [okD, decide_eq_true_eq]; exact hn) rr.d⟩
      · rename_i hn
        split at h
        · rename_i o ho
          split at h
          · rename_i hok
            cases h
            exact ⟨w2.cut M.length, rfl, lc, rc, fin rr.d hn ho hok⟩
          · cases h
        · cases h
    · rename_i d hd hr
      rw [hr] at rr
      split at h
      · rename_i hok
        cases h
        exact ⟨w2.cut M.length, rfl, lc, rc, RD.cutM _ _ hok rr.d⟩
      · cases h
    · rename_i o hr
      rw [hr] at rr
      split at h
      · rename_i hok
        cases h
        obtain ⟨a, e, h1, h2, h3, h4⟩ := rr
        exact ⟨w2.cut M.length, rfl, lc, rc, a, e, h1.cutM hok, h2, fun z => h3 (List.mem_of_mem_take z), h4⟩
      · cases h
  · cases h
/-! ### contracts -/
def spF (K : PySem.W.Frag) (mg : Str → Option Value) (n : Nat) (F : FF) : Sp := fun vs H Q _ => ∃ w M ds r M', w.H = H ∧ Rl K mg w M ∧ RDs K mg w vs ds ∧ ds.length = n ∧ F ds M = some (r, M') ∧ ∀ v w', Le w w' → Rl K mg w' M' → RR K mg w w' v r → Q v w'.H
noncomputable def fTr (F : FF) : FF := fun ds M => (F ds M).bind (trunc M)
def fFn (N n : Nat) (body : FS) : FF := fun ds M => (body (ds.map some ++ List.replicate (N - n) none) M).bind fun p => match p.1 with
  | .rt r => some (r, p.2.2)
  | .nx => some (.v .non, p.2.2)
  | _ => none
theorem RE.start {vs : List V} {ds : List D} (h : RDs K mg w vs ds) (n : Nat) : RE K mg w (vs.map some ++ List.replicate n none) (ds.map some ++ List.replicate n none) := by
  have no : ∀ n, RE K mg w (List.replicate n none) (List.replicate n none) := fun n => by
    induction n with
    | zero => exact .nil
    | succ n ih => rw [List.replicate_succ, List.replicate_succ]; exact .no ih
  induction vs generalizing ds with
  | nil => cases ds with
    | nil => exact no n
    | cons _ _ => simp only [RDs] at h
  | cons v vs ih => cases ds with
    | nil => simp only [RDs] at h
    | cons d ds => exact .yes h.head (ih h.tail)
end
section
variable {P : Program} {w : World} {K : PySem.W.Frag} {mg : Str → Option Value} {base : Heap} {CX : CXT} {k : Nat} {f : Addr} {fd : FuncData} {ps N : List Str} {x qual : Str} {st : Stmt}
theorem fn_tr {n : Nat} {F : FF} (h : FnOk P w K mg base CX k f fd ps (spF K mg n F)) : FnOk P w K mg base CX k f fd ps (spF K mg n (fTr F)) := h.imp fun vs H Q E ⟨w, M, ds, r, M', e, rl, rd, hn, hf, q⟩ => by
  unfold fTr at hf
  obtain ⟨p, hp, ht⟩ := Option.bind_eq_some_iff.mp hf
  refine ⟨w, M, ds, _, _, e, rl, rd, hn, hp, fun v w2 l2 rl2 rr2 => ?_⟩
  obtain ⟨w3, e3, l3, rl3, rr3⟩ := trunc_ok rl l2 rl2 rr2 ht
  rw [← e3]
  exact q v w3 l3 rl3 rr3
/-- a def by its body -/
theorem fl_fn (F : Fun K x qual st f fd) (S : FnScope N ps (defScope st)) {body : FS}
    (hb : ∀ (cdv : Value) (A : Around) (outer : List Env) (s : Shared) (H : Hp) (E : XK), Room k (A.deeper (envOfC qual (defScope st) s.heap.objs.size f cdv)) → SSs (cxOf CX0 P w K mg base N qual (defScope st) f cdv A outer s H E).nox (defBody st) body) :
    FnOk P w K mg base CX0 (k + 1) f fd ps (spF K mg ps.length (fTr (fFn N.length ps.length body))) := fn_tr <| by
  refine F.ok S (fun vs H Q E h => ?_) (fun cdv A outer s H vs Q E hr h => ?_)
  · obtain ⟨w, M, ds, r, M', e, rl, rd, hn, _⟩ := h
    rw [rd.length, hn]
  · refine ⟨_, hb cdv A outer s H E hr, ?_⟩
    obtain ⟨w', M, ds, r, M', e, rl, rd, hn, hf, q⟩ := h
    unfold fFn at hf
    obtain ⟨⟨fl, env', M2⟩, hp, hf⟩ := Option.bind_eq_some_iff.mp hf
    have hl : vs.length = ps.length := by rw [rd.length, hn]
    have re : RE K mg w' (L2.start N vs) (ds.map some ++ List.replicate (N.length - ps.length) none) := by
      unfold L2.start
      rw [hl]
      exact RE.start rd _
    refine tIS.mk e rl re hp ?_
    cases fl with
    | nx => cases hf; exact fun σ' w2 l2 rl2 re2 => q .non w2 l2 rl2 (.of .mkNon)
    | rt r => cases hf; exact q
    | bk => cases hf
    | ct => cases hf
/-- a def that may be called by its name -/
structure Cl (P : Program) (w : World) (K : PySem.W.Frag) (mg : Str → Option Value) (base : Heap) (k : Nat) (x : Str) (n : Nat) (F : FF) : Prop where
  ex : ∃ (f : Addr) (fd : FuncData) (ps : List Str), FnOk P w K mg base CX0 k f fd ps (spF K mg n F) ∧ mg x = some (.ref f) ∧ PySem.W.keepIn K (.ref f) = true ∧ Binds K fd ps []
/-- what stands of a def behind the top -/
structure Dn (K : PySem.W.Frag) (mg : Str → Option Value) (x : Str) (st : Stmt) (ps : List Str) : Prop where
  ex : ∃ (f : Addr) (fd : FuncData), Fun K x x st f fd ∧ mg x = some (.ref f) ∧ Binds K fd ps []
theorem Cl.of (D : Dn K mg x st ps) (S : FnScope N ps (defScope st)) {body : FS}
    (hb : ∀ (f : Addr) (cdv : Value) (A : Around) (outer : List Env) (s : Shared) (H : Hp) (E : XK), Room k (A.deeper (envOfC x (defScope st) s.heap.objs.size f cdv)) → SSs (cxOf CX0 P w K mg base N x (defScope st) f cdv A outer s H E).nox (defBody st) body) :
    Cl P w K mg base (k + 1) x ps.length (fTr (fFn N.length ps.length body)) := by
  obtain ⟨f, fd, F, hm, b⟩ := D.ex
  exact ⟨f, fd, ps, fl_fn F S (hb f), hm, F.kp, b⟩
end
/-! ### calls -/
section
variable {X : Cx} {e a b c o : Expr} {es : List Expr} {fa fb fc fo : FE} {fr : FA} {pos pos' p apos : Pos} {x : Str} {k j n : Nat} {F : FF}
def fCf (F : FF) (fr : FA) : FE := fun env M => (fr env M).bind fun p => F p.1 p.2
theorem tI.cf {K : PySem.W.Frag} {mg : Str → Option Value} {σ : L2.St} {H : Hp} {Q : VK} {E : XK} (hn : ∀ ds M q, F ds M = some q → ds.length = n) (h : tI K mg (fCf F fr) σ H Q) : tIA K mg fr σ H fun vs H1 => spF K mg n F vs H1 Q E := by
  obtain ⟨w, env, M, r, M', e, rl, re, hf, k⟩ := h
  unfold fCf at hf
  obtain ⟨p, hp, hf⟩ := Option.bind_eq_some_iff.mp hf
  exact tIA.mk e rl re hp fun vs w1 l1 rl1 rd1 => ⟨w1, _, _, _, _, rfl, rl1, rd1, hn _ _ _ hf, hf, fun v w2 l2 rl2 rr2 => k v w2 (l1.trans l2) rl2 (rr2.bk l1 l2)⟩
/-- the number of the arguments, by the way -/
def fNa (n : Nat) (F : FF) : FF := fun ds M => if ds.length = n then F ds M else none
theorem tI.cn {K : PySem.W.Frag} {mg : Str → Option Value} {σ : L2.St} {H : Hp} {Q : VK} {E : XK} (h : tI K mg (fCf (fNa n F) fr) σ H Q) : tIA K mg fr σ H fun vs H1 => spF K mg n F vs H1 Q E := by
  obtain ⟨w, env, M, r, M', e, rl, re, hf, k⟩ := h
  unfold fCf at hf
  obtain ⟨p, hp, hf⟩ := Option.bind_eq_some_iff.mp hf
  unfold fNa at hf
  split at hf
  · rename_i hn
    exact tIA.mk e rl re hp fun vs w1 l1 rl1 rd1 => ⟨w1, _, _, _, _, rfl, rl1, rd1, hn, hf, fun v w2 l2 rl2 rr2 => k v w2 (l1.trans l2) rl2 (rr2.bk l1 l2)⟩
  · cases hf
theorem sCf (c : Cl X.prog X.w X.K X.mg X.base k x n F) (hr : Room j X.A) (hg : Gl X x) (ha : SA X (e :: es) fr) (hk : k ≤ j := by decide) (hdb : (x == ("__debug__" : Str)) = false := by decide)
    (he : starEach (e :: es) X.env = (false, eval e X.env) :: starEach es X.env := by rfl) (hpl : (backTo pos (starEach es X.env)).any (·.1) = false := by rfl) : SE X (.Call (.Name x p) (e :: es) [] pos) (fCf (fNa n F) fr) := by
  obtain ⟨f, fd, ps, FF, hm, kp, b⟩ := c.ex
  refine (pe_call FF (hr.mono hk) hg hm kp b .nil pass0 ha hdb he hpl).imp fun σ H Q h => ?_
  have := h.cn (E := E0)
  unfold tCall
  simpa only [List.append_nil] using this
theorem sCf0 (c : Cl X.prog X.w X.K X.mg X.base k x 0 F) (hr : Room j X.A) (hg : Gl X x) (hk : k ≤ j := by decide) (hdb : (x == ("__debug__" : Str)) = false := by decide) : SE X (.Call (.Name x p) [] [] pos) (fCf (fNa 0 F) fNil) := by
  obtain ⟨f, fd, ps, FF, hm, kp, b⟩ := c.ex
  refine (pe_call0 FF (hr.mono hk) hg hm kp b .nil pass0 hdb).imp fun σ H Q h => ?_
  obtain ⟨w, env, M, ds, M', e, rl, re, hf, k'⟩ := h.cn (E := E0)
  cases hf
  unfold tCall
  subst e
  exact k' [] w (Le.refl w) rl .nil
end
end Fl
set_option Elab.async false
set_option linter.all false
set_option maxRecDepth 100000
/-! Fl9: built-in functions, types and methods by values. -/
namespace Fl
open PySem PySem.Spec PyProof.Rows L2
section
variable {K : PySem.W.Frag} {mg : Str → Option Value} {w w0 : Wo} {M : Mem}
theorem RDs.one {vs : List V} {d : D} (h : RDs K mg w vs [d]) : ∃ v, vs = [v] ∧ RD K mg w v d := by
  cases vs with
  | nil => simp only [RDs] at h
  | cons v vs => cases vs with
    | nil => exact ⟨v, rfl, h.head⟩
    | cons _ _ => simp only [RDs] at h; exact h.2.elim
theorem RDs.two {vs : List V} {d d' : D} (h : RDs K mg w vs [d, d']) : ∃ v v', vs = [v, v'] ∧ RD K mg w v d ∧ RD K mg w v' d' := by
  cases vs with
  | nil => simp only [RDs] at h
  | cons v vs =>
    obtain ⟨v', rfl, h'⟩ := h.tail.one
    exact ⟨v, v', rfl, h.head, h'⟩
def boolsD : List D → Option (List Bool)
  | [] => some []
  | .bl b :: ds => (boolsD ds).map (b :: ·)
  | _ => none
def intsD : List D → Option (List Int)
  | [] => some []
  | .int b :: ds => (intsD ds).map (b :: ·)
  | _ => none
def strsD : List D → Option (List Str)
  | [] => some []
  | .str b :: ds => (strsD ds).map (b :: ·)
  | _ => none
theorem boolsD_ok : ∀ {vs : List V} {ds : List D} {bs : List Bool}, RDs K mg w vs ds → boolsD ds = some bs → vs = bs.map V.bl
  | [], [], bs, _, e => by simp only [boolsD] at e; cases e; rfl
  | [], _ :: _, _, h, _ => by simp only [RDs] at h
  | _ :: _, [], _, h, _ => by simp only [RDs] at h
  | v :: vs, d :: ds, bs, h, e => by
    cases d with
    | bl b =>
      simp only [boolsD] at e
      obtain ⟨r, hr, rfl⟩ := Option.map_eq_some_iff.mp e
      rw [List.map_cons, h.head.bl, boolsD_ok h.tail hr]
    | _ => simp [boolsD] at e
theorem intsD_ok : ∀ {vs : List V} {ds : List D} {bs : List Int}, RDs K mg w vs ds → intsD ds = some bs → vs = bs.map V.int
  | [], [], bs, _, e => by simp only [intsD] at e; cases e; rfl
  | [], _ :: _, _, h, _ => by simp only [RDs] at h
  | _ :: _, [], _, h, _ => by simp only [RDs] at h
  | v :: vs, d :: ds, bs, h, e => by
    cases d with
    | int b =>
      simp only [intsD] at e
      obtain ⟨r, hr, rfl⟩ := Option.map_eq_some_iff.mp e
      rw [List.map_cons, h.head.int, intsD_ok h.tail hr]
    | _ => simp [intsD] at e
theorem strsD_ok : ∀ {vs : List V} {ds : List D} {bs : List Str}, RDs K mg w vs ds → strsD ds = some bs → vs = bs.map V.str
  | [], [], bs, _, e => by simp only [strsD] at e; cases e; rfl
  | [], _ :: _, _, h, _ => by simp only [RDs] at h
  | _ :: _, [], _, h, _ => by simp only [RDs] at h
  | v :: vs, d :: ds, bs, h, e => by
    cases d with
    | str b =>
      simp only [strsD] at e
      obtain ⟨r, hr, rfl⟩ := Option.map_eq_some_iff.mp e
      rw [List.map_cons, h.head.str, strsD_ok h.tail hr]
    | _ => simp [strsD] at e
theorem RDs.strs {xs : List Str} : RDs K mg w (xs.map V.str) (xs.map D.str) := by
  induction xs with
  | nil => exact .nil
  | cons x r ih => exact .cons .mkStr ih
end
section
variable {X : Cx} {e a b c o : Expr} {es : List Expr} {fa fb fc fo : FE} {fr : FA} {pos pos' p apos cpos : Pos} {x : Str}
/-! ### functions -/
def gLen : Mem → List D → Option R := fun M ds => match ds with
  | [.str z] => if z.length ≤ sizeLine then some (.v (.int z.length)) else none
  | [d] => (asS M d).map fun xs => .v (.int xs.length)
  | _ => none
theorem cLen : CallS X (.builtin "len") gLen := .of call_len fun w0 w M vs ds r Q l rl rd hg k => by
  unfold gLen at hg
  split at hg
  · split at hg
    · rename_i hz
      cases hg
      obtain ⟨v, rfl, rv⟩ := rd.one
      exact ⟨_, _, rfl, by rw [rv.str]; exact ⟨hz, rfl⟩, k _ w (Le.refl w) rl (.of .mkInt)⟩
    · cases hg
  · obtain ⟨xs, hx, rfl⟩ := Option.map_eq_some_iff.mp hg
    obtain ⟨v, rfl, rv⟩ := rd.one
    obtain ⟨a, us, rfl, h, q⟩ := rl.asS rv hx
    refine ⟨_, us.length, rfl, ?_, ?_⟩
    · rcases h with h | h
      · exact .inl ⟨us, h, rfl⟩
      · exact .inr ⟨us, h, rfl⟩
    · rw [q.length]; exact k _ w (Le.refl w) rl (.of .mkInt)
  · cases hg
def gAll : Mem → List D → Option R := fun M ds => match ds with
  | [d] => (asLs M d).bind fun xs => (boolsD xs).map fun bs => .v (.bl (bs.all id))
  | _ => none
def gAny : Mem → List D → Option R := fun M ds => match ds with
  | [d] => (asLs M d).bind fun xs => (boolsD xs).map fun bs => .v (.bl (bs.any id))
  | _ => none
theorem cAll (hc : X.calm = true) : CallS X (.builtin "all") gAll := .of (cr_all hc) fun w0 w M vs ds r Q l rl rd hg k => by
  unfold gAll at hg
  split at hg
  · obtain ⟨xs, hx, hg⟩ := Option.bind_eq_some_iff.mp hg
    obtain ⟨bs, hb, rfl⟩ := Option.map_eq_some_iff.mp hg
    obtain ⟨v, rfl, rv⟩ := rd.one
    obtain ⟨a, us, rfl, h, q⟩ := rl.asLs rv hx
    rw [boolsD_ok q hb] at h
    exact ⟨a, bs, rfl, h, k _ w (Le.refl w) rl (.of .mkBl)⟩
  · cases hg
theorem cAny (hc : X.calm = true) : CallS X (.builtin "any") gAny := .of (cr_any hc) fun w0 w M vs ds r Q l rl rd hg k => by
  unfold gAny at hg
  split at hg
  · obtain ⟨xs, hx, hg⟩ := Option.bind_eq_some_iff.mp hg
    obtain ⟨bs, hb, rfl⟩ := Option.map_eq_some_iff.mp hg
    obtain ⟨v, rfl, rv⟩ := rd.one
    obtain ⟨a, us, rfl, h, q⟩ := rl.asLs rv hx
    rw [boolsD_ok q hb] at h
    exact ⟨a, bs, rfl, h, k _ w (Le.refl w) rl (.of .mkBl)⟩
  · cases hg
def gSum : Mem → List D → Option R := fun M ds => match ds with
  | [d] => (asLs M d).bind fun xs => (intsD xs).map fun bs => .v (.int bs.sum)
  | _ => none
theorem cSum (hc : X.calm = true) : CallS X (.builtin "sum") gSum := .of (cr_sum hc) fun w0 w M vs ds r Q l rl rd hg k => by
  unfold gSum at hg
  split at hg
  · obtain ⟨xs, hx, hg⟩ := Option.bind_eq_some_iff.mp hg
    obtain ⟨bs, hb, rfl⟩ := Option.map_eq_some_iff.mp hg
    obtain ⟨v, rfl, rv⟩ := rd.one
    obtain ⟨a, us, rfl, h, q⟩ := rl.asLs rv hx
    rw [intsD_ok q hb] at h
    exact ⟨a, bs, rfl, h, k _ w (Le.refl w) rl (.of .mkInt)⟩
  · cases hg
/-- min, max of a list, or of two -/
def gMin : Mem → List D → Option R := fun M ds => match ds with
  | [d] => (asLs M d).bind fun xs => (intsD xs).bind fun bs => bs.min?.map fun m => .v (.int m)
  | [.int i, .int j] => some (.v (.int (min i j)))
  | _ => none
def gMax : Mem → List D → Option R := fun M ds => match ds with
  | [d] => (asLs M d).bind fun xs => (intsD xs).bind fun bs => bs.max?.map fun m => .v (.int m)
  | [.int i, .int j] => some (.v (.int (max i j)))
  | _ => none
theorem CallR.or {f : Value} {r r' : List V → Hp → VK → Prop} (h : CallR X f r) (h' : CallR X f r') : CallR X f (fun vs H Q => r vs H Q ∨ r' vs H Q) := fun pins s σ H vs us Q I rv q => q.elim (fun q => h pins s σ H vs us Q I rv q) fun q => h' pins s σ H vs us Q I rv q
theorem cMin (hc : X.calm = true) : CallS X (.builtin "min") gMin := .of (CallR.or (cr_min hc) (call_min2 hc)) fun w0 w M vs ds r Q l rl rd hg k => by
  unfold gMin at hg
  split at hg
  · obtain ⟨xs, hx, hg⟩ := Option.bind_eq_some_iff.mp hg
    obtain ⟨bs, hb, hg⟩ := Option.bind_eq_some_iff.mp hg
    obtain ⟨m, hm, rfl⟩ := Option.map_eq_some_iff.mp hg
    obtain ⟨v, rfl, rv⟩ := rd.one
    obtain ⟨a, us, rfl, h, q⟩ := rl.asLs rv hx
    rw [intsD_ok q hb] at h
    refine .inl ⟨a, bs, rfl, h, ?_, fun m' h1 h2 => ?_⟩
    · cases bs with
      | nil => simp at hm
      | cons _ _ => simp
    · have := (List.min?_eq_some_iff (xs := bs) (a := m')).mpr ⟨h1, h2⟩
      rw [hm] at this
      cases this
      exact k _ w (Le.refl w) rl (.of .mkInt)
  · cases hg
    obtain ⟨v, v', rfl, r1, r2⟩ := rd.two
    rename_i i j
    refine .inr ⟨i, j, by rw [r1.int, r2.int], ?_⟩
    have : (if j < i then j else i) = min i j := by split <;> omega
    rw [this]
    exact k _ w (Le.refl w) rl (.of .mkInt)
  · cases hg
theorem cMax (hc : X.calm = true) : CallS X (.builtin "max") gMax := .of (CallR.or (cr_max hc) (call_max2 hc)) fun w0 w M vs ds r Q l rl rd hg k => by
  unfold gMax at hg
  split at hg
  · obtain ⟨xs, hx, hg⟩ := Option.bind_eq_some_iff.mp hg
    obtain ⟨bs, hb, hg⟩ := Option.bind_eq_some_iff.mp hg
    obtain ⟨m, hm, rfl⟩ := Option.map_eq_some_iff.mp hg
    obtain ⟨v, rfl, rv⟩ := rd.one
    obtain ⟨a, us, rfl, h, q⟩ := rl.asLs rv hx
    rw [intsD_ok q hb] at h
    refine .inl ⟨a, bs, rfl, h, ?_, fun m' h1 h2 => ?_⟩
    · cases bs with
      | nil => simp at hm
      | cons _ _ => simp
    · have := (List.max?_eq_some_iff (xs := bs) (a := m')).mpr ⟨h1, h2⟩
      rw [hm] at this
      cases this
      exact k _ w (Le.refl w) rl (.of .mkInt)
  · cases hg
    obtain ⟨v, v', rfl, r1, r2⟩ := rd.two
    rename_i i j
    refine .inr ⟨i, j, by rw [r1.int, r2.int], ?_⟩
    have : (if j > i then j else i) = max i j := by split <;> omega
    rw [this]
    exact k _ w (Le.refl w) rl (.of .mkInt)
  · cases hg
/-! ### types -/
def gTuple : Mem → List D → Option R := fun M ds => match ds with
  | [d] => match asT d with
    | some _ => some (.v d)
    | none => (asLs M d).map fun xs => .v (.tup xs)
  | _ => none
theorem cTuple : CallS X (.type "tuple") gTuple := .of call_tuple_of fun w0 w M vs ds r Q l rl rd hg k => by
  unfold gTuple at hg
  split at hg
  · rename_i d
    obtain ⟨v, rfl, rv⟩ := rd.one
    split at hg
    · rename_i xs hx
      cases hg
      obtain ⟨a, us, rfl, h, q⟩ := asT_ok rv hx
      exact ⟨a, us, rfl, .inr ⟨h, k _ w (Le.refl w) rl (.of rv)⟩⟩
    · obtain ⟨xs, hx, rfl⟩ := Option.map_eq_some_iff.mp hg
      obtain ⟨a, us, rfl, h, q⟩ := rl.asLs rv hx
      exact ⟨a, us, rfl, .inl ⟨h, fun p hp => k _ (w.lay p (.tup us)) (Le.lay hp) (rl.lay hp) (.of (RD.tupNew rl hp q))⟩⟩
  · cases hg
def gList : Mem → List D → Option R := fun M ds => match ds with
  | [d] => match asS M d with
    | some xs => some (.n (.lst xs))
    | none => (asD M d).map fun p => .n (.lst (p.2.map fun kv => DK.d kv.1))
  | _ => none
theorem RDs.keysK {kvs : List (DK × D)} {kv : List (Key × V)} {K : PySem.W.Frag} {mg : Str → Option Value} {w : Wo} (e : kvs.map (·.1) = kv.map (fun p => DK.k p.1)) : RDs K mg w (kv.map fun p => kV p.1) (kvs.map fun p => DK.d p.1) := by
  have h : kvs.map (fun p => DK.d p.1) = kv.map (fun p => Key.d p.1) := by
    have := congrArg (List.map DK.d) e
    simpa [Function.comp_def, DK.d] using this
  rw [h]
  have h2 := RDs.keys (K := K) (mg := mg) (w := w) (ks := kv.map (·.1))
  simpa [Function.comp_def] using h2
theorem RDs.keysT {K : PySem.W.Frag} {mg : Str → Option Value} {w : Wo} : ∀ {kvs : List (DK × D)} {kv : List (List Key × V)} {bs : List Addr}, kvs.map (·.1) = kv.map (fun p => DK.t p.1) → IsKeys w.H kv bs → RDs K mg w (bs.map V.ref) (kvs.map fun p => DK.d p.1)
  | [], [], _, _, .nil => .nil
  | [], _ :: _, _, e, _ => by simp at e
  | _ :: _, [], _, e, _ => by simp at e
  | (k, d) :: kvs, (x, y) :: kv, b :: bs, e, .cons h t => by
    simp only [List.map_cons, List.cons.injEq] at e
    obtain ⟨rfl, e⟩ := e
    refine .cons ?_ (RDs.keysT e t)
    show RD K mg w (.ref b) (.tup (x.map Key.d))
    simp only [RD]
    exact ⟨b, _, rfl, h, .keys⟩
theorem cList (hc : X.calm = true) : CallS X (.type "list") gList := .of (CallR.or call_list_of (CallR.or (call_listD hc) (call_list_dT hc))) fun w0 w M vs ds r Q l rl rd hg k => by
  unfold gList at hg
  split at hg
  · rename_i d
    obtain ⟨v, rfl, rv⟩ := rd.one
    split at hg
    · rename_i xs hx
      cases hg
      obtain ⟨a, us, rfl, h, q⟩ := rl.asS rv hx
      exact .inl ⟨a, us, rfl, h, fun p hp => k _ (w.lay p (.lst us)) (Le.lay hp) (rl.lay hp) (RR.lst rl l hp q)⟩
    · obtain ⟨⟨t, kvs⟩, hx, rfl⟩ := Option.map_eq_some_iff.mp hg
      obtain ⟨a, us, rfl, h, q⟩ := rl.asD rv hx
      cases t with
      | false =>
        obtain ⟨kv, g1, g2, g3⟩ : ∃ kv : List (Key × V), Rd w.H a (.dK kv) ∧ kvs.map (·.1) = kv.map (fun p => DK.k p.1) ∧ us = kv.map (·.2) := by
          rcases h with ⟨kv, h1, h2⟩ | ⟨o, kv, h1, h2⟩
          · exact ⟨kv, .inl h1, h2⟩
          · exact ⟨kv, .inr ⟨o, h1⟩, h2⟩
        exact .inr (.inl ⟨a, kv, rfl, g1, fun p hp => k _ (w.lay p (.lst _)) (Le.lay hp) (rl.lay hp) (RR.lst rl l hp (RDs.keysK g2))⟩)
      | true =>
        obtain ⟨kv, g1, g2, g3⟩ : ∃ kv : List (List Key × V), Rd w.H a (.dT kv) ∧ kvs.map (·.1) = kv.map (fun p => DK.t p.1) ∧ us = kv.map (·.2) := by
          rcases h with ⟨kv, h1, h2⟩ | ⟨o, kv, h1, h2⟩
          · exact ⟨kv, .inl h1, h2⟩
          · exact ⟨kv, .inr ⟨o, h1⟩, h2⟩
        exact .inr (.inr ⟨a, kv, rfl, g1, fun p bs hp hk => k _ (w.lay p (.lst _)) (Le.lay hp) (rl.lay hp) (RR.lst rl l hp (RDs.keysT g2 hk))⟩)
  · cases hg
def gStr : Mem → List D → Option R := fun M ds => match ds with
  | [.int i] => if i.natAbs.log2 < 1920 then some (.v (.str (toString i))) else none
  | _ => none
theorem cStr : CallS X (.type "str") gStr := .of call_str_int fun w0 w M vs ds r Q l rl rd hg k => by
  unfold gStr at hg
  split at hg
  · split at hg
    · rename_i hz
      cases hg
      obtain ⟨v, rfl, rv⟩ := rd.one
      exact ⟨_, by rw [rv.int], hz, k _ w (Le.refl w) rl (.of .mkStr)⟩
    · cases hg
  · cases hg
def gInt : Mem → List D → Option R := fun M ds => match ds with
  | [.int i] => some (.v (.int i))
  | [.bl b] => some (.v (.int (if b then 1 else 0)))
  | [.str a] => if a.length ≤ 640 then (PySem.intText? a).map fun n => .v (.int n) else none
  | _ => none
theorem cInt : CallS X (.type "int") gInt := .of (CallR.or call_int1 call_int_str) fun w0 w M vs ds r Q l rl rd hg k => by
  unfold gInt at hg
  split at hg
  · cases hg
    obtain ⟨v, rfl, rv⟩ := rd.one
    exact .inl (.inl ⟨_, by rw [rv.int], k _ w (Le.refl w) rl (.of .mkInt)⟩)
  · cases hg
    obtain ⟨v, rfl, rv⟩ := rd.one
    exact .inl (.inr ⟨_, by rw [rv.bl], k _ w (Le.refl w) rl (.of .mkInt)⟩)
  · split at hg
    · rename_i hl
      obtain ⟨n, hn, rfl⟩ := Option.map_eq_some_iff.mp hg
      obtain ⟨v, rfl, rv⟩ := rd.one
      exact .inr ⟨_, n, by rw [rv.str], hn, hl, k _ w (Le.refl w) rl (.of .mkInt)⟩
    · cases hg
  · cases hg
/-! ### operators more -/
instance : ∀ i j, Decidable (CPow i j) := fun i j => by unfold CPow; infer_instance
def gPow : Mem → D → D → Option R := gI fun i j => if CPow i j then some (.int (i ^ j.toNat)) else none
theorem op_Pow : OpS X (binaryOp .Pow) gPow := .ints op_pow fun _ _ _ => .mkInt
/-! ### isinstance of a built-in type -/
def tyName (M : Mem) : D → Option String
  | .non => some "NoneType"
  | .bl _ => some "bool"
  | .int _ => some "int"
  | .str _ => some "str"
  | .tup _ => some "tuple"
  | .ktp _ => some "tuple"
  | .lst _ => some "list"
  | .scr _ => some "list"
  | .ref n => match M[n]? with
    | some (.lst _) => some "list"
    | _ => none
  | _ => none
theorem tyName_ok {K : PySem.W.Frag} {mg : Str → Option Value} {w : Wo} {M : Mem} {v : V} {d : D} {t : String} (rl : Rl K mg w M) (h : RD K mg w v d) (e : tyName M d = some t) : TyX K w.H v (.type t) := by
  unfold tyName at e
  split at e
  · cases e; rw [h.non]; exact .base .non
  · cases e; rw [h.bl]; exact .base (.bl _)
  · cases e; rw [h.int]; exact .base (.int _)
  · cases e; rw [h.str]; exact .base (.str _)
  · cases e; simp only [RD] at h; obtain ⟨a, vs, rfl, h1, h2⟩ := h; exact .base (.tup h1)
  · cases e; simp only [RD] at h; obtain ⟨a, vs, rfl, ⟨ob, its, n, h1, h2, _⟩, _⟩ := h; exact .kTuple h1 h2
  · cases e; simp only [RD] at h; obtain ⟨a, vs, rfl, h1, h2⟩ := h; exact .base (.lst h1.2)
  · cases e
    simp only [RD] at h
    obtain ⟨a, rfl, ⟨g, h1 | ⟨ob, h1⟩⟩ | ⟨ob, its, n, h1, h2, _⟩⟩ := h
    · exact .base (.lst h1)
    · exact .base (.frz h1)
    · exact .kList h1 h2
  · rename_i n
    split at e
    · rename_i xs hM
      cases e
      simp only [RD] at h
      obtain ⟨a, rfl, hb⟩ := h
      obtain ⟨vs, h1, _⟩ := rl.ob n a _ hb hM
      exact .base (.lst h1)
    · cases e
  · cases e
def isB (t T : String) : Option Bool := if T ∈ ["tuple", "int", "bool", "str", "list"] ∧ t ∈ ["NoneType", "bool", "int", "str", "tuple", "list"] then some (decide (t = T) || (decide (t = "bool") && decide (T = "int"))) else none
theorem isB_ok {t T : String} {b : Bool} (h : isB t T = some b) : kitB t T = some b := by
  unfold isB at h
  split at h
  · rename_i hc
    obtain ⟨h1, h2⟩ := hc
    cases h
    simp only [List.mem_cons, List.not_mem_nil, or_false] at h1 h2
    rcases h1 with rfl | rfl | rfl | rfl | rfl <;> rcases h2 with rfl | rfl | rfl | rfl | rfl | rfl <;> decide +kernel
  · cases h
def fIsi (T : String) (fa : FE) : FE := fun env M => (fa env M).bind fun p => (tyName p.2 p.1.fz).bind fun t => (isB t T).map fun b => (.v (.bl b), p.2)
theorem sIsi {T : String} {y : Str} {py : Pos} (hg : Gl X "isinstance") (hm : X.mg "isinstance" = none) (hgy : Gl X y) (hmy : X.mg y = none) (hvy : bootBuiltins y = some (.type T)) (ha : SE X a fa) (hny : y ≠ "__name__" := by decide) (hdy : (y == ("__debug__" : Str)) = false := by decide)
    (he : starEach [a, .Name y py] X.env = (false, eval a X.env) :: starEach [.Name y py] X.env := by rfl) (he2 : starEach [.Name y py] X.env = (false, eval (.Name y py) X.env) :: starEach [] X.env := by rfl) (hpl : (backTo pos (starEach [.Name y py] X.env)).any (·.1) = false := by rfl) :
    SE X (.Call (.Name "isinstance" p) [a, .Name y py] [] pos) (fIsi T fa) := (pe_callB call_isi hg hm (by decide +kernel) (pa_cons ha (pa_cons (pe_bltn (v := .ty T) hgy hmy hvy rfl hny hdy) pa_nil he2) he) (by decide) (by decide) he hpl).imp fun σ H Q ⟨w, env, M, r, M', e, rl, re, hf, k⟩ => by
  unfold fIsi at hf
  obtain ⟨q, hq, hf⟩ := Option.bind_eq_some_iff.mp hf
  obtain ⟨t, ht, hf⟩ := Option.bind_eq_some_iff.mp hf
  obtain ⟨b, hb, hf⟩ := Option.map_eq_some_iff.mp hf
  cases hf
  refine tI.mk e rl re hq fun v w1 l1 rl1 rr1 => ?_
  obtain ⟨w1', l1', e1, b1, rl1', rd1, _⟩ := rr1.fz rl1 l1
  rw [← e1]
  exact ⟨v, .ty T, _, _, b, rfl, .ty T, tyName_ok rl1' rd1 ht, kit_ty (isB_ok hb), k _ w1' l1' rl1' (.of .mkBl)⟩
/-! ### a list's methods -/
/-- o.m(..) by values -/
def fBm (g : Mem → D → List D → Option (R × Mem)) (fo : FE) (fr : FA) : FE := fun env M => (fo env M).bind fun p => (asL p.2 p.1.fz).bind fun _ => (fr env p.2).bind fun q => g q.2 p.1.fz q.1
def MtS (X : Cx) (r : V → List V → Hp → VK → Prop) (g : Mem → D → List D → Option (R × Mem)) : Prop :=
  ∀ (w0 w : Wo) (M : Mem) (x : V) (vs : List V) (d : D) (ds : List D) (p : R × Mem) (Q : VK), Le w0 w → Rl X.K X.mg w M → RD X.K X.mg w x d → RDs X.K X.mg w vs ds → g M d ds = some p → (∀ z w', Le w w' → Rl X.K X.mg w' p.2 → RR X.K X.mg w0 w' z p.1 → Q z w'.H) → r x vs w.H Q
theorem tI.bm {K : PySem.W.Frag} {mg : Str → Option Value} {g : Mem → D → List D → Option (R × Mem)} {σ : L2.St} {H : Hp} {Q : VK} (h : tI K mg (fBm g fo fr) σ H Q) : tI K mg fo σ H fun x H1 => tyV K "list" x H1 ∧ tIA K mg fr σ H1 fun vs H2 =>
    ∃ w0 w M d ds p, w.H = H2 ∧ Le w0 w ∧ Rl K mg w M ∧ RD K mg w x d ∧ RDs K mg w vs ds ∧ g M d ds = some p ∧ ∀ z w', Le w w' → Rl K mg w' p.2 → RR K mg w0 w' z p.1 → Q z w'.H := by
  obtain ⟨w, env, M, r, M', e, rl, re, hf, k⟩ := h
  unfold fBm at hf
  obtain ⟨p, hp, hf⟩ := Option.bind_eq_some_iff.mp hf
  obtain ⟨xs, hx, hf⟩ := Option.bind_eq_some_iff.mp hf
  obtain ⟨q, hq, hf⟩ := Option.bind_eq_some_iff.mp hf
  refine tI.mk e rl re hp fun v w1 l1 rl1 rr1 => ?_
  obtain ⟨w1', l1', e1, b1, rl1', rd1, _⟩ := rr1.fz rl1 l1
  obtain ⟨a, us, rfl, h1, q1⟩ := rl1'.asL rd1 hx
  rw [← e1]
  refine ⟨.inl ⟨rfl, us, .of h1⟩, tIA.mk rfl rl1' (rl.re l1' re) hq fun vs w2 l2 rl2 rd2 => ?_⟩
  exact ⟨w, w2, _, _, _, _, rfl, l1'.trans l2, rl2, rl1'.rd l2 rd1, rd2, hf, fun z w3 l3 rl3 rr3 => k z w3 ((l1'.trans l2).trans l3) rl3 rr3⟩
theorem sBm {id : String} {name : Str} {r : V → List V → Hp → VK → Prop} {g : Mem → D → List D → Option (R × Mem)} (slot : Slot "list" name id) (hty : typeOf (.builtin id) = pure (.type "method_descriptor")) (hm : MtR X id r) (hs : MtS X r g) (ho : SE X o fo) (ha : SA X (e :: es) fr)
    (hbase : attributeBase o name X.env (eval o X.env) = eval o X.env := by rfl)
    (hfew : ((backTo cpos (starEach (e :: es) X.env)).all (fun x => !x.1) && (backToKw cpos (keywordEach [] X.env)).all (fun x => x.1.isSome)
      && decide ((e :: es).length + ([] : List Keyword).length + (if ([] : List Keyword).isEmpty then 0 else 1) < 30)) = true := by rfl)
    (hline : (apos.endLine == cpos.line) = true := by rfl) (hst : starEach (e :: es) X.env = (false, eval e X.env) :: starEach es X.env := by rfl) (hplain : (backTo cpos (starEach es X.env)).any (·.1) = false := by rfl) :
    SE X (.Call (.Attribute o name apos) (e :: es) [] cpos) (fBm g fo fr) := (pe_bm PySem.F.plainAttrs_list slot hty hm ho ha hbase hfew hline hst hplain).imp fun σ H Q h => by
  obtain ⟨w, env, M, r', M', e, rl, re, hf, k⟩ := h.bm
  refine ⟨w, env, M, r', M', e, rl, re, hf, fun v w1 l1 rl1 rr1 => ?_⟩
  obtain ⟨ty, w', env', Ma, ds, Mb, e', rl', re', hf', k'⟩ := k v w1 l1 rl1 rr1
  refine ⟨ty, w', env', Ma, ds, Mb, e', rl', re', hf', fun vs w2 l2 rl2 rd2 => ?_⟩
  obtain ⟨w0, w3, M3, d, ds3, p, eH, l, rl3, rd, rds, hg, kk⟩ := k' vs w2 l2 rl2 rd2
  rw [← eH]
  exact hs w0 w3 M3 v vs d ds3 p Q l rl3 rd rds hg kk
theorem sBm0 {id : String} {name : Str} {r : V → List V → Hp → VK → Prop} {g : Mem → D → List D → Option (R × Mem)} (slot : Slot "list" name id) (hty : typeOf (.builtin id) = pure (.type "method_descriptor")) (hm : MtR X id r) (hs : MtS X r g) (ho : SE X o fo)
    (hbase : attributeBase o name X.env (eval o X.env) = eval o X.env := by rfl) (hline : (apos.endLine == cpos.line) = true := by rfl) : SE X (.Call (.Attribute o name apos) [] [] cpos) (fBm g fo fNil) := (pe_bm0 PySem.F.plainAttrs_list slot hty hm ho hbase hline).imp fun σ H Q h => by
  obtain ⟨w, env, M, r', M', e, rl, re, hf, k⟩ := h.bm
  refine ⟨w, env, M, r', M', e, rl, re, hf, fun v w1 l1 rl1 rr1 => ?_⟩
  obtain ⟨ty, w', env', Ma, ds, Mb, e', rl', re', hf', k'⟩ := k v w1 l1 rl1 rr1
  cases hf'
  obtain ⟨w0, w3, M3, d, ds3, p, eH, l, rl3, rd, rds, hg, kk⟩ := k' [] w' (Le.refl w') rl' .nil
  refine ⟨ty, ?_⟩
  rw [← e', ← eH]
  exact hs w0 w3 M3 v [] d ds3 p Q l rl3 rd rds hg kk
/-- a list in the memory, rewritten -/
theorem lset {K : PySem.W.Frag} {mg : Str → Option Value} {w : Wo} {M : Mem} (rl : Rl K mg w M) {n : Nat} {x : V} {xs : List D} (h : RD K mg w x (.ref n)) (hM : M[n]? = some (.lst xs)) : ∃ a us, x = .ref a ∧ w.H a = some (.lst us) ∧ RDs K mg w us xs ∧
    ∀ us' xs', RDs K mg w us' xs' → Le w (w.lay a (.lst us')) ∧ Rl K mg (w.lay a (.lst us')) (M.set n (.lst xs')) := by
  simp only [RD] at h
  obtain ⟨a, rfl, hb⟩ := h
  obtain ⟨us, h1, q1⟩ := rl.ob n a _ hb hM
  have hnt : ∀ vs, w.H a ≠ some (.tup vs) := fun vs => by rw [h1]; simp
  refine ⟨a, us, rfl, h1, q1, fun us' xs' q => ⟨Le.put hb hnt (fun _ _ => by rw [h1]; simp), rl.put hb ⟨_, hM⟩ hnt ⟨us', Wo.lay_at, rl.rds (Le0.put hb hnt) q⟩⟩⟩
def gApp : Mem → D → List D → Option (R × Mem) := fun M d ds => match d, ds with
  | .ref n, [e] => match M[n]? with
    | some (.lst xs) => if xs.length < sizeLine then some (.v .non, M.set n (.lst (xs ++ [e]))) else none
    | _ => none
  | _, _ => none
theorem mApp : MtS X rAppend gApp := fun w0 w M x vs d ds p Q l rl hd hs hg k => by
  unfold gApp at hg
  split at hg
  · split at hg
    · rename_i xs hM
      split at hg
      · rename_i hl
        cases hg
        obtain ⟨v, rfl, rv⟩ := hs.one
        obtain ⟨a, us, rfl, h1, q1, put⟩ := lset rl hd hM
        obtain ⟨l2, rl2⟩ := put (us ++ [v]) _ (q1.app (.cons rv .nil))
        exact ⟨a, us, v, rfl, rfl, h1, by rw [q1.length]; exact hl, k _ _ l2 rl2 (.of .mkNon)⟩
      · cases hg
    · cases hg
  · cases hg
def gExt : Mem → D → List D → Option (R × Mem) := fun M d ds => match d, ds with
  | .ref n, [e] => match M[n]?, asL M e with
    | some (.lst xs), some zs => if xs.length + zs.length ≤ sizeLine then some (.v .non, M.set n (.lst (xs ++ zs))) else none
    | _, _ => none
  | _, _ => none
theorem mExt : MtS X rExtend gExt := fun w0 w M x vs d ds p Q l rl hd hs hg k => by
  unfold gExt at hg
  split at hg
  · split at hg
    · rename_i xs zs hM hz
      split at hg
      · rename_i hl
        cases hg
        obtain ⟨v, rfl, rv⟩ := hs.one
        obtain ⟨a, us, rfl, h1, q1, put⟩ := lset rl hd hM
        obtain ⟨b, ts, rfl, h2, q2⟩ := rl.asL rv hz
        obtain ⟨l2, rl2⟩ := put (us ++ ts) _ (q1.app q2)
        exact ⟨a, b, us, ts, rfl, rfl, h1, h2, by rw [q1.length, q2.length]; exact hl, k _ _ l2 rl2 (.of .mkNon)⟩
      · cases hg
    · cases hg
  · cases hg
def gPop : Mem → D → List D → Option (R × Mem) := fun M d ds => match d, ds with
  | .ref n, [] => match M[n]? with
    | some (.lst xs) => xs[xs.length - 1]?.map fun y => (.v y, M.set n (.lst xs.dropLast))
    | _ => none
  | _, _ => none
theorem RDs.dropLast {K : PySem.W.Frag} {mg : Str → Option Value} {w : Wo} {vs : List V} {ds : List D} (h : RDs K mg w vs ds) : RDs K mg w vs.dropLast ds.dropLast := by
  rw [List.dropLast_eq_take, List.dropLast_eq_take, h.length]
  exact h.take _
theorem RDs.erase {K : PySem.W.Frag} {mg : Str → Option Value} {w : Wo} : ∀ {vs : List V} {ds : List D} (i : Nat), RDs K mg w vs ds → RDs K mg w (vs.eraseIdx i) (ds.eraseIdx i)
  | [], [], _, h => h
  | [], _ :: _, _, h => by simp only [RDs] at h
  | _ :: _, [], _, h => by simp only [RDs] at h
  | _ :: _, _ :: _, 0, h => h.tail
  | _ :: _, _ :: _, i + 1, h => .cons h.head (RDs.erase i h.tail)
theorem mPop : MtS X rPop gPop := fun w0 w M x vs d ds p Q l rl hd hs hg k => by
  unfold gPop at hg
  split at hg
  · split at hg
    · rename_i xs hM
      obtain ⟨y, hy, rfl⟩ := Option.map_eq_some_iff.mp hg
      have : vs = [] := List.eq_nil_of_length_eq_zero (by rw [hs.length]; rfl)
      subst this
      obtain ⟨a, us, rfl, h1, q1, put⟩ := lset rl hd hM
      obtain ⟨l2, rl2⟩ := put us.dropLast _ q1.dropLast
      obtain ⟨v, hv, rd⟩ := q1.get hy
      exact ⟨a, us, v, rfl, rfl, h1, by rw [q1.length]; exact hv, k _ _ l2 rl2 (.of (rl.rd l2 rd))⟩
    · cases hg
  · cases hg
def gPopAt : Mem → D → List D → Option (R × Mem) := fun M d ds => match d, ds with
  | .ref n, [.int i] => match M[n]? with
    | some (.lst xs) => if -(2 ^ 63) ≤ i ∧ i < 2 ^ 63 then (seqIndex? i xs.length).bind fun k => xs[k]?.map fun y => (.v y, M.set n (.lst (xs.eraseIdx k))) else none
    | _ => none
  | _, _ => none
theorem mPopAt : MtS X rPopAt gPopAt := fun w0 w M x vs d ds p Q l rl hd hs hg k => by
  unfold gPopAt at hg
  split at hg
  · split at hg
    · rename_i i _ xs hM
      split at hg
      · rename_i hi
        obtain ⟨j, hj, hg⟩ := Option.bind_eq_some_iff.mp hg
        obtain ⟨y, hy, rfl⟩ := Option.map_eq_some_iff.mp hg
        obtain ⟨v, rfl, rv⟩ := hs.one
        obtain ⟨a, us, rfl, h1, q1, put⟩ := lset rl hd hM
        obtain ⟨l2, rl2⟩ := put (us.eraseIdx j) _ (q1.erase j)
        obtain ⟨z, hz, rdz⟩ := q1.get hy
        exact ⟨a, us, i, j, z, rfl, by rw [rv.int], h1, hi.1, hi.2, by rw [q1.length]; exact hj, hz, k _ _ l2 rl2 (.of (rl.rd l2 rdz))⟩
      · cases hg
    · cases hg
  · cases hg
/-! ### a text's methods -/
/-- sep.join(list of texts) -/
def gJoin : Mem → D → D → Option R := fun M d e => match d with
  | .str a => (asS M e).bind fun xs => (strsD xs).bind fun ys => if (ys.map (·.length)).sum + ys.length * a.length ≤ 16777216 then some (.v (.str (Txt.join a ys))) else none
  | _ => none
def isStr : D → Bool
  | .str _ => true
  | _ => false
def fM1 (g : Mem → D → D → Option R) (fo fe : FE) : FE := fun env M => (fo env M).bind fun p => if isStr p.1.fz then (fe env p.2).bind fun q => (g q.2 p.1.fz q.1.fz).map fun r => (r, q.2) else none
theorem tI.m1 {K : PySem.W.Frag} {mg : Str → Option Value} {g : Mem → D → D → Option R} {σ : L2.St} {H : Hp} {Q : VK} (h : tI K mg (fM1 g fa fb) σ H Q) :
    tI K mg fa σ H fun x H1 => (∃ a, x = .str a) ∧ tI K mg fb σ H1 fun y H2 => ∃ w0 w M d e r, w.H = H2 ∧ Le w0 w ∧ Rl K mg w M ∧ RD K mg w x d ∧ RD K mg w y e ∧ g M d e = some r ∧ ∀ z w', Le w w' → Rl K mg w' M → RR K mg w0 w' z r → Q z w'.H := by
  obtain ⟨w, env, M, r, M', e, rl, re, hf, k⟩ := h
  unfold fM1 at hf
  obtain ⟨⟨r1, Ma⟩, ha, hf⟩ := Option.bind_eq_some_iff.mp hf
  split at hf
  · rename_i hs
    obtain ⟨⟨r2, Mb⟩, hb, hf⟩ := Option.bind_eq_some_iff.mp hf
    obtain ⟨z, hg, hf⟩ := Option.map_eq_some_iff.mp hf
    cases hf
    refine tI.mk e rl re ha fun x w1 l1 rl1 rr1 => ?_
    obtain ⟨w1', l1', e1, b1, rl1', rd1, _⟩ := rr1.fz rl1 l1
    rw [← e1]
    refine ⟨?_, tI.mk rfl rl1' (rl.re l1' re) hb fun y w2 l2 rl2 rr2 => ?_⟩
    · dsimp only at hs
      unfold isStr at hs
      split at hs
      · rename_i z hz
        rw [hz] at rd1
        exact ⟨z, rd1.str⟩
      · cases hs
    · obtain ⟨w2', l2', e2, b2, rl2', rd2, _⟩ := rr2.fz rl2 l2
      exact ⟨w, w2', _, _, _, _, e2, l1'.trans l2', rl2', rl1'.rd l2' rd1, rd2, hg, fun z w3 l3 rl3 rr3 => k z w3 ((l1'.trans l2').trans l3) rl3 rr3⟩
  · cases hf
theorem sJoin (ho : SE X o fo) (he : SE X e fa) (hs : starEach [e] X.env = [(false, eval e X.env)] := by rfl) (hbase : attributeBase o "join" X.env (eval o X.env) = eval o X.env := by rfl) (hline : (apos.endLine == pos.line) = true := by rfl) :
    SE X (.Call (.Attribute o "join" apos) [e] [] pos) (fM1 gJoin fo fa) := (pe_join ho he hs hbase hline).imp fun σ H Q h => by
  obtain ⟨w, env, M, r, M', e, rl, re, hf, k⟩ := h.m1
  refine ⟨w, env, M, r, M', e, rl, re, hf, fun v w1 l1 rl1 rr1 => ?_⟩
  obtain ⟨hv, w', env', Ma, r', Mb, e', rl', re', hf', k'⟩ := k v w1 l1 rl1 rr1
  refine ⟨hv, w', env', Ma, r', Mb, e', rl', re', hf', fun y w2 l2 rl2 rr2 => ?_⟩
  obtain ⟨w0, w3, M3, d, e3, r3, eH, l, rl3, rd, re3, hg, kk⟩ := k' y w2 l2 rl2 rr2
  rw [← eH]
  unfold gJoin at hg
  split at hg
  · obtain ⟨xs, hx, hg⟩ := Option.bind_eq_some_iff.mp hg
    obtain ⟨ys, hy, hg⟩ := Option.bind_eq_some_iff.mp hg
    split at hg
    · rename_i hl
      cases hg
      obtain ⟨b, us, rfl, h1, q1⟩ := rl3.asS re3 hx
      rw [strsD_ok q1 hy] at h1
      exact ⟨_, b, ys, rd.str, rfl, h1, hl, kk _ w3 (Le.refl w3) rl3 (.of .mkStr)⟩
    · cases hg
  · cases hg
def gSplit : Mem → D → D → Option R := fun M d e => match d, e with
  | .str a, .str b => if (b.length == 0) = false ∧ a.length + 2 ≤ sizeLine then some (.n (.lst ((Txt.split a b).map D.str))) else none
  | _, _ => none
theorem sSplit (ho : SE X o fo) (he : SE X e fa) (hs : starEach [e] X.env = [(false, eval e X.env)] := by rfl) (hbase : attributeBase o "split" X.env (eval o X.env) = eval o X.env := by rfl) (hline : (apos.endLine == pos.line) = true := by rfl) :
    SE X (.Call (.Attribute o "split" apos) [e] [] pos) (fM1 gSplit fo fa) := (pe_split ho he hs hbase hline).imp fun σ H Q h => by
  obtain ⟨w, env, M, r, M', e, rl, re, hf, k⟩ := h.m1
  refine ⟨w, env, M, r, M', e, rl, re, hf, fun v w1 l1 rl1 rr1 => ?_⟩
  obtain ⟨hv, w', env', Ma, r', Mb, e', rl', re', hf', k'⟩ := k v w1 l1 rl1 rr1
  refine ⟨hv, w', env', Ma, r', Mb, e', rl', re', hf', fun y w2 l2 rl2 rr2 => ?_⟩
  obtain ⟨w0, w3, M3, d, e3, r3, eH, l, rl3, rd, re3, hg, kk⟩ := k' y w2 l2 rl2 rr2
  rw [← eH]
  unfold gSplit at hg
  split at hg
  · split at hg
    · rename_i hl
      cases hg
      refine ⟨_, _, rd.str, by rw [re3.str], hl.1, hl.2, fun q hq => ?_⟩
      exact kk _ (w3.lay q (.lst _)) (Le.lay hq) (rl3.lay hq) (RR.lst rl3 l hq .strs)
    · cases hg
  · cases hg
end
end Fl
set_option Elab.async false
set_option linter.all false
set_option maxRecDepth 100000
set_option maxHeartbeats 1000000
/-! Zs: zip(a, b, strict=True), each of them a list or a tuple. -/
namespace Zs
open PySem PySem.Spec PyProof.Rows
section
variable {prog : Program} {w : World} {A : Around} {E : Value → Shared → Prop} {s : Shared}
/-- t: a tuple's iterator, else a list's -/
def ItA (t : Bool) (h : Heap) (it l : Addr) (i : Nat) : Prop := if t = true then h.IsTupleIter it l i else h.IsListIter it l i
def SeA (t : Bool) (h : Heap) (l : Addr) (xs : Array Value) : Prop := if t = true then h.IsTuple l xs else h.IsList l xs
variable {t t1 t2 : Bool} {it l z TI TO i1 i2 l1 l2 : Addr} {i k : Nat} {xs ys : Array Value} {x y a b : Value}
theorem ItA.keep {h h' : Heap} (q : ItA t h it l i) (k : ∀ o, h.get? it = some o → h'.get? it = some o) : ItA t h' it l i := by
  unfold ItA at q ⊢
  split
  · rename_i e; rw [if_pos e] at q; exact q.at k
  · rename_i e; rw [if_neg e] at q; exact q.at k
theorem SeA.keep {h h' : Heap} (q : SeA t h l xs) (k : ∀ o, h.get? l = some o → h'.get? l = some o) : SeA t h' l xs := by
  unfold SeA at q ⊢
  split
  · rename_i e; rw [if_pos e] at q; exact q.at k
  · rename_i e; rw [if_neg e] at q; exact q.at k
theorem ItA.there {h : Heap} (q : ItA t h it l i) : ∃ o, h.get? it = some o ∧ ∀ v, o.data ≠ .cell v := by
  unfold ItA at q
  split at q
  · obtain ⟨o, e, c, d⟩ := q; exact ⟨o, e, fun v z => by rw [d] at z; cases z⟩
  · obtain ⟨o, e, c, d⟩ := q; exact ⟨o, e, fun v z => by rw [d] at z; cases z⟩
theorem next_item {Q : Option Value → Shared → Prop} (hit : ItA t s.heap it l i) (hl : SeA t s.heap l xs) (hx : xs[i]? = some x)
    (hQ : ∀ h', ItA t h' it l (i + 1) → Heap.SameBut it s.heap h' → Q (some x) { s with heap := h' }) : wpAny (model prog w) A (Builtin.SmallTypes.nextOrEnd (.ref it)) Q E s := by
  unfold Builtin.SmallTypes.nextOrEnd
  refine wpAny_bind (wpAny_attempt ?_)
  unfold ItA at hit
  unfold SeA at hl
  cases t with
  | true => exact RZ.nextOf_tuple_item (by simpa using hit) (by simpa using hl) hx fun h' q sb => wpAny_pure (hQ h' (by unfold ItA; simpa using q) sb)
  | false => exact wpAny_nextOf_list_item (by simpa using hit) (by simpa using hl) hx fun h' q sb => wpAny_pure (hQ h' (by unfold ItA; simpa using q) sb)
theorem next_end {Q : Option Value → Shared → Prop} (hh : A.handled = none) (hit : ItA t s.heap it l i) (hl : SeA t s.heap l xs) (hx : xs[i]? = none)
    (hQ : ∀ h', Heap.ExtBut it s.heap h' → Q none { s with heap := h' }) : wpAny (model prog w) A (Builtin.SmallTypes.nextOrEnd (.ref it)) Q E s := by
  unfold Builtin.SmallTypes.nextOrEnd
  refine wpAny_bind (wpAny_attempt ?_)
  unfold ItA at hit
  unfold SeA at hl
  have fin : ∀ (h' : Heap) (e : Addr), Heap.ExtBut it s.heap h' → (∃ o, h'.get? e = some o ∧ o.cls = .type "StopIteration") → wpAny (model prog w) A ((fun r => match r with
      | Except.ok v => pure (some v)
      | Except.error e => do if ← isInstance e (.type "StopIteration") then pure none else throw e) (Except.error (Value.ref e))) Q E { s with heap := h' } := fun h' e eb ⟨o, ho, hc⟩ =>
    wpAny_bind (wpAny_isInstance (T := "StopIteration") (b := true) ⟨o, ho, hc⟩ isSubtype_stop (wpAny_pure (hQ h' eb)))
  cases t with
  | true => exact RZ.nextOf_tuple_end hh (by simpa using hit) (by simpa using hl) hx fun h' e eb he => fin h' e eb he
  | false => exact wpAny_nextOf_list_end hh (by simpa using hit) (by simpa using hl) hx fun h' e eb he => fin h' e eb he
/-- the zip object -/
abbrev IsZ (h : Heap) (z TI TO : Addr) (f0 : Value) : Prop := h.get? z = some { cls := .type "zip", dict := none, data := .fields #[f0, .bool false, .bool true, .ref TI, .ref TO], slots := #[] }
theorem zs_item {Q : Value → Shared → Prop} (D : ZipApart z TI TO i1 i2 l1 l2) (hz : IsZ s.heap z TI TO .none) (hTI : PySem.IsPair s.heap TI (.ref i1) (.ref i2)) (hTO : PySem.IsPair s.heap TO a b)
    (h1 : ItA t1 s.heap i1 l1 i) (h2 : ItA t2 s.heap i2 l2 i) (hl1 : SeA t1 s.heap l1 xs) (hl2 : SeA t2 s.heap l2 ys) (hx : xs[i]? = some x) (hy : ys[i]? = some y)
    (hQ : ∀ h', IsZ h' z TI TO (rawInt s.heap.objs.size) → PySem.IsPair h' TO x y → ItA t1 h' i1 l1 (i + 1) → ItA t2 h' i2 l2 (i + 1) → PySem.IsPair h' s.heap.objs.size x y →
      (∀ c o, c ≠ z → c ≠ TO → c ≠ i1 → c ≠ i2 → s.heap.get? c = some o → h'.get? c = some o) → Q (.ref s.heap.objs.size) { s with heap := h' }) :
    wpAny (model prog w) A (Builtin.«zip.__next__» ⟨[.ref z], []⟩) (fun fin s' => ∃ v, fin = .done (.ret v) ∧ Q v s') E s := by
  show wpAny _ _ (field (.ref z) 2 >>= _) _ _ s
  refine wpAny_bind (wpAny_field hz rfl (x := .bool true) rfl ?_)
  show wpAny _ _ (field (.ref z) 3 >>= _) _ _ s
  refine wpAny_bind (wpAny_field hz rfl (x := .ref TI) rfl (wpAny_bind (wpAny_seqItems hTI rfl ?_)))
  show wpAny _ _ (Builtin.SmallTypes.ownedTupleIsFree (.ref z) >>= _) _ _ s
  unfold Builtin.SmallTypes.ownedTupleIsFree
  refine wpAny_bind (wpAny_bind (wpAny_field hz rfl (x := .none) rfl (wpAny_pure ?_)))
  simp only [if_true]
  refine wpAny_bind (wpAny_rule (wpAny_bind (wpAny_field hz rfl (x := .ref TO) rfl ?_)))
  refine wpAny_bind (wpAny_setField_rec hz (by simp) fun h₁ q1 e1 => ?_)
  replace q1 : IsZ h₁ z TI TO .ellipsis := q1
  simp only [List.zipIdx_cons, List.zipIdx_nil, List.forIn_cons, List.forIn_nil]
  refine wpAny_bind (wpAny_bind (wpAny_bind (wpAny_onRaise ?_)))
  show wpAny _ _ (Builtin.SmallTypes.nextOrEnd (.ref i1)) _ _ _
  refine next_item (h1.keep fun o e => e1.extBut _ _ D.i1z e) (hl1.keep fun o e => e1.extBut _ _ D.l1z e) hx fun h₂ q2 e2 => ?_
  have g2 : PySem.IsPair h₂ TO a b := e2.extBut _ _ D.TOi1 (e1.extBut _ _ D.TOz hTO)
  refine wpAny_bind (wpAny_seqItems g2 rfl (wpAny_bind (wpAny_updateSeq_pair g2 fun h₃ g3 e3 => ?_)))
  replace g3 : PySem.IsPair h₃ TO x b := g3
  refine wpAny_bind (wpAny_letGo (wpAny_pure (wpAny_bind (wpAny_bind (wpAny_onRaise ?_)))))
  show wpAny _ _ (Builtin.SmallTypes.nextOrEnd (.ref i2)) _ _ _
  refine next_item (h2.keep fun o e => e3.extBut _ _ D.TOi2.symm (e2.extBut _ _ D.i12.symm (e1.extBut _ _ D.i2z e))) (hl2.keep fun o e => e3.extBut _ _ D.l2TO (e2.extBut _ _ D.l2i1 (e1.extBut _ _ D.l2z e))) hy fun h₄ q4 e4 => ?_
  have g4 : PySem.IsPair h₄ TO x b := e4.extBut _ _ D.TOi2 g3
  refine wpAny_bind (wpAny_seqItems g4 rfl (wpAny_bind (wpAny_updateSeq_pair g4 fun h₅ g5 e5 => ?_)))
  replace g5 : PySem.IsPair h₅ TO x y := g5
  refine wpAny_bind (wpAny_letGo (wpAny_pure (wpAny_pure (wpAny_bind (wpAny_seqItems g5 rfl (wpAny_bind (wpAny_newTuple ?_)))))))
  have hsz : h₅.objs.size = s.heap.objs.size := by rw [e5.1, e4.1, e3.1, e2.1, e1.1]
  have q5 : IsZ h₅ z TI TO .ellipsis := e5.extBut _ _ D.TOz.symm (e4.extBut _ _ D.i2z.symm (e3.extBut _ _ D.TOz.symm (e2.extBut _ _ D.i1z.symm q1)))
  have all : ∀ c o, c ≠ z → c ≠ TO → c ≠ i1 → c ≠ i2 → s.heap.get? c = some o → h₅.get? c = some o := fun c o c1 c2 c3 c4 e => e5.extBut _ _ c2 (e4.extBut _ _ c4 (e3.extBut _ _ c2 (e2.extBut _ _ c3 (e1.extBut _ _ c1 e))))
  have r1 : ItA t1 h₅ i1 l1 (i + 1) := q2.keep fun o e => e5.extBut _ _ D.TOi1.symm (e4.extBut _ _ D.i12 (e3.extBut _ _ D.TOi1.symm e))
  have r2 : ItA t2 h₅ i2 l2 (i + 1) := q4.keep fun o e => e5.extBut _ _ D.TOi2.symm e
  have hzlt : z < h₅.objs.size := Heap.lt_size q5
  show wpAny _ _ (Builtin.SmallTypes.ownedTupleHandOut (.ref z) (.ref h₅.objs.size) >>= _) _ _ _
  unfold Builtin.SmallTypes.ownedTupleHandOut
  have q6 : IsZ (h₅.push { cls := .type "tuple", data := .seq #[x, y] }) z TI TO .ellipsis := Heap.get?_push_of_some _ q5
  refine wpAny_bind (wpAny_bind (wpAny_setField_rec q6 (by simp) fun h₇ q7 e7 => ?_))
  replace q7 : IsZ h₇ z TI TO (rawInt h₅.objs.size) := q7
  refine wpAny_setField_rec q7 (by simp) fun h₈ q8 e8 => wpAny_pure ⟨_, rfl, ?_⟩
  replace q8 : IsZ h₈ z TI TO (rawInt h₅.objs.size) := q8
  have up : ∀ c o, c ≠ z → h₅.get? c = some o → h₈.get? c = some o := fun c o c1 e => e8.extBut _ _ c1 (e7.extBut _ _ c1 (Heap.get?_push_of_some _ e))
  have g8 : PySem.IsPair h₈ h₅.objs.size x y := e8.extBut _ _ (Nat.ne_of_gt hzlt) (e7.extBut _ _ (Nat.ne_of_gt hzlt) (Heap.get?_push_size _ rfl))
  rw [hsz] at q8 g8
  show Q (.ref h₅.objs.size) _
  rw [hsz]
  exact hQ h₈ q8 (up _ _ D.TOz g5) (r1.keep fun o e => up _ o D.i1z e) (r2.keep fun o e => up _ o D.i2z e) g8 fun c o c1 c2 c3 c4 e => up c o c1 (all c o c1 c2 c3 c4 e)
theorem zs_end {Q : Fin → Shared → Prop} (hh : A.handled = none) (D : ZipApart z TI TO i1 i2 l1 l2) (hz : IsZ s.heap z TI TO .none) (hTI : PySem.IsPair s.heap TI (.ref i1) (.ref i2)) (hTO : PySem.IsPair s.heap TO a b)
    (h1 : ItA t1 s.heap i1 l1 i) (h2 : ItA t2 s.heap i2 l2 i) (hl1 : SeA t1 s.heap l1 xs) (hl2 : SeA t2 s.heap l2 ys) (hx : xs[i]? = none) (hy : ys[i]? = none)
    (hE : ∀ h' e, (∀ c o, c ≠ z → c ≠ TO → c ≠ i1 → c ≠ i2 → s.heap.get? c = some o → h'.get? c = some o) → (∃ o, h'.get? e = some o ∧ o.cls = .type "StopIteration") → E (.ref e) { s with heap := h' }) :
    wpAny (model prog w) A (Builtin.«zip.__next__» ⟨[.ref z], []⟩) Q E s := by
  show wpAny _ _ (field (.ref z) 2 >>= _) _ _ s
  refine wpAny_bind (wpAny_field hz rfl (x := .bool true) rfl ?_)
  show wpAny _ _ (field (.ref z) 3 >>= _) _ _ s
  refine wpAny_bind (wpAny_field hz rfl (x := .ref TI) rfl (wpAny_bind (wpAny_seqItems hTI rfl ?_)))
  show wpAny _ _ (Builtin.SmallTypes.ownedTupleIsFree (.ref z) >>= _) _ _ s
  unfold Builtin.SmallTypes.ownedTupleIsFree
  refine wpAny_bind (wpAny_bind (wpAny_field hz rfl (x := .none) rfl (wpAny_pure ?_)))
  simp only [if_true]
  refine wpAny_bind (wpAny_rule (wpAny_bind (wpAny_field hz rfl (x := .ref TO) rfl ?_)))
  refine wpAny_bind (wpAny_setField_rec hz (by simp) fun h₁ q1 e1 => ?_)
  replace q1 : IsZ h₁ z TI TO .ellipsis := q1
  simp only [List.zipIdx_cons, List.zipIdx_nil, List.forIn_cons, List.forIn_nil]
  refine wpAny_bind (wpAny_bind (wpAny_bind (wpAny_onRaise ?_)))
  show wpAny _ _ (Builtin.SmallTypes.nextOrEnd (.ref i1)) _ _ _
  refine next_end hh (h1.keep fun o e => e1.extBut _ _ D.i1z e) (hl1.keep fun o e => e1.extBut _ _ D.l1z e) hx fun h₂ e2 => ?_
  have q2 : IsZ h₂ z TI TO .ellipsis := e2 _ _ D.i1z.symm q1
  refine wpAny_bind (wpAny_setField_rec q2 (by simp) fun h₃ q3 e3 => ?_)
  refine wpAny_bind ?_
  show wpAny _ _ (forIn [(Value.ref i2, 1)] _ _ >>= _) _ _ _
  refine wpAny_bind ?_
  simp only [List.forIn_cons, List.forIn_nil]
  refine wpAny_bind (wpAny_bind ?_)
  show wpAny _ _ (Builtin.SmallTypes.nextOrEnd (.ref i2)) _ _ _
  refine next_end hh (h2.keep fun o e => e3.extBut _ _ D.i2z (e2 _ _ D.i12.symm (e1.extBut _ _ D.i2z e))) (hl2.keep fun o e => e3.extBut _ _ D.l2z (e2 _ _ D.l2i1 (e1.extBut _ _ D.l2z e))) hy fun h₄ e4 => ?_
  simp only [Option.isSome_none, Bool.false_eq_true, if_false]
  refine wpAny_pure (wpAny_pure (wpAny_bind (wpAny_rule ?_)))
  unfold Builtin.SmallTypes.stopIteration
  refine wpAny_bind ?_
  simp only [newExc, newTuple]
  refine wpAny_bind (wpAny_newObj_type ?_ (by size_fits))
  refine wpAny_bind (m := firstArgMember _ _) (wpAny_of_eq (a := Value.none) (by first | rfl | (simp only [firstArgMember]; rfl)) (wpAny_newObj_type ?_ (by size_fits)))
  simp only [raiseNew]
  refine wpAny_bind (wpAny_handled ?_)
  rw [hh]
  refine wpAny_bind (wpAny_pure (wpAny_throw (hE _ _ (fun c o c1 c2 c3 c4 e => ?_) ⟨_, Heap.get?_push_size _ rfl, rfl⟩)))
  exact Heap.get?_push_of_some _ (Heap.get?_push_of_some _ (e4 _ _ c4 (e3.extBut _ _ c1 (e2 _ _ c3 (e1.extBut _ _ c1 e)))))
theorem pyNext_item {Q : Option Value → Shared → Prop} (D : ZipApart z TI TO i1 i2 l1 l2) (hz : IsZ s.heap z TI TO .none) (hTI : PySem.IsPair s.heap TI (.ref i1) (.ref i2)) (hTO : PySem.IsPair s.heap TO a b)
    (h1 : ItA t1 s.heap i1 l1 i) (h2 : ItA t2 s.heap i2 l2 i) (hl1 : SeA t1 s.heap l1 xs) (hl2 : SeA t2 s.heap l2 ys) (hx : xs[i]? = some x) (hy : ys[i]? = some y)
    (hQ : ∀ h', IsZ h' z TI TO (rawInt s.heap.objs.size) → PySem.IsPair h' TO x y → ItA t1 h' i1 l1 (i + 1) → ItA t2 h' i2 l2 (i + 1) → PySem.IsPair h' s.heap.objs.size x y →
      (∀ c o, c ≠ z → c ≠ TO → c ≠ i1 → c ≠ i2 → s.heap.get? c = some o → h'.get? c = some o) → Q (some (.ref s.heap.objs.size)) { s with heap := h' }) : wpAny (model prog w) A (pyNext (.ref z)) Q E s := by
  have hT : s.TypeIs (.ref z) "zip" := ⟨_, hz, rfl⟩
  unfold pyNext
  refine wpAny_bind (wpAny_attempt (wpAny_callSpecial?_slot (name := Str.ofString "__next__") hT F.slot_zip_next (wpAny_call_entry F.slot_zip_next hT F.entry_zip_next ?_ (F.args_zip_next_1 _))))
  exact zs_item D hz hTI hTO h1 h2 hl1 hl2 hx hy fun h' a1 a2 a3 a4 a5 a6 => wpAny_pure (hQ h' a1 a2 a3 a4 a5 a6)
theorem pyNext_end {Q : Option Value → Shared → Prop} (hh : A.handled = none) (D : ZipApart z TI TO i1 i2 l1 l2) (hz : IsZ s.heap z TI TO .none) (hTI : PySem.IsPair s.heap TI (.ref i1) (.ref i2)) (hTO : PySem.IsPair s.heap TO a b)
    (h1 : ItA t1 s.heap i1 l1 i) (h2 : ItA t2 s.heap i2 l2 i) (hl1 : SeA t1 s.heap l1 xs) (hl2 : SeA t2 s.heap l2 ys) (hx : xs[i]? = none) (hy : ys[i]? = none)
    (hQ : ∀ h', (∀ c o, c ≠ z → c ≠ TO → c ≠ i1 → c ≠ i2 → s.heap.get? c = some o → h'.get? c = some o) → Q none { s with heap := h' }) : wpAny (model prog w) A (pyNext (.ref z)) Q E s := by
  have hT : s.TypeIs (.ref z) "zip" := ⟨_, hz, rfl⟩
  unfold pyNext
  refine wpAny_bind (wpAny_attempt (wpAny_callSpecial?_slot (name := Str.ofString "__next__") hT F.slot_zip_next (wpAny_call_entry F.slot_zip_next hT F.entry_zip_next ?_ (F.args_zip_next_1 _))))
  exact zs_end hh D hz hTI hTO h1 h2 hl1 hl2 hx hy fun h' e hk ⟨o, ho, hc⟩ => wpAny_bind (wpAny_isInstance (T := "StopIteration") (b := true) ⟨o, ho, hc⟩ isSubtype_stop (wpAny_pure (hQ h' hk)))
theorem go_z {elts : List Expr} {x1} {pos : Pos} {T : Addr} {Q : Unit → Shared → Prop} (hz : IsZ s.heap z TI TO (rawInt T)) (hQ : ∀ h', IsZ h' z TI TO .none → Heap.SameBut z s.heap h' → Q () { s with heap := h' }) :
    wpAny (model prog w) A (letOwnedTupleGo (.Tuple elts x1 pos) (.ref z) (.ref T)) Q E s := by
  unfold letOwnedTupleGo
  refine wpAny_bind (wpAny_load hz ?_)
  show wpAny _ _ (if (["enumerate", "zip", "dict_itemiterator", "dict_reverseitemiterator", "odict_iterator", "itertools.zip_longest", "itertools.pairwise"].contains "zip" && (#[rawInt T, .bool false, .bool true, .ref TI, .ref TO] : Array Value)[0]? == some (rawInt T)) = true then _ else _) Q E s
  rw [if_pos (by simp)]
  refine wpAny_bind (wpAny_rule ?_)
  show wpAny _ _ (setField (.ref z) 0 .none) Q E s
  exact wpAny_setField_rec hz (by simp) fun h' q e => hQ h' q e
theorem iter_z {f0 : Value} {Q : Value → Shared → Prop} (hz : IsZ s.heap z TI TO f0) (h : Q (.ref z) s) : wpAny (model prog w) A (pyIter (.ref z)) Q E s := by
  have hT : s.TypeIs (.ref z) "zip" := ⟨_, hz, rfl⟩
  refine wpAny_pyIter_slot hT F.slot_zip_iter (wpAny_call_entry F.slot_zip_iter hT F.entry_zip_iter ?_ (F.args_zip_iter_1 _))
  show wpAny _ _ (ret (.ref z)) _ _ s
  exact wpAny_pure ⟨_, rfl, "zip", _, hT, F.slot_zip_next.lookup, h⟩
end
theorem tc (a b c : Value) : checkTypeCall "zip" ⟨[a, b], [(Str.ofString "strict", c)]⟩ = pure () := by kernel_rfl
theorem nc (a b c : Value) : checkBuiltinCall "zip.__new__" ⟨[.type "zip", a, b], [(Str.ofString "strict", c)]⟩ = pure () := by kernel_rfl
theorem ic (o a b c : Value) : argsOk "object.__init__" ⟨[o, a, b], [(Str.ofString "strict", c)]⟩ := by unfold argsOk; kernel_rfl
abbrev hp3 (h : Heap) (o1 o2 : Obj) : Heap := ((h.push o1).push o2).push { cls := .type "tuple", data := .seq #[.ref h.objs.size, .ref (h.push o1).objs.size] }
abbrev hp4 (h : Heap) (o1 o2 : Obj) : Heap := (hp3 h o1 o2).push { cls := .type "tuple", data := .seq #[.none, .none] }
abbrev hp5 (h : Heap) (o1 o2 : Obj) : Heap := (hp4 h o1 o2).push { cls := .type "zip", data := .fields #[.none, .bool false, .bool true, .ref ((h.push o1).push o2).objs.size, .ref (hp3 h o1 o2).objs.size] }
theorem new_z {v1 v2 : Value} {o1 o2 : Obj} {H1 H2 : Heap → Prop} (B1 : Begins v1 o1 H1) (B2 : Begins v2 o2 H2) :
    Meets (Builtin.«zip.__new__» ⟨[.type "zip", v1, v2], [(Str.ofString "strict", .bool true)]⟩) (fun _ R s => (H1 s.heap ∧ H2 s.heap) ∧ R (.ok (.ret (.ref (hp4 s.heap o1 o2).objs.size))) { s with heap := hp5 s.heap o1 o2 }) :=
  .of_wp fun prog w A R s h => by
    obtain ⟨hp, g, d, tk, os⟩ := s
    obtain ⟨⟨h1, h2⟩, h⟩ := h
    have hsub := sub_zip
    have e1 : (Str.ofString "strict" == ("strict" : Str)) = true := by decide +kernel
    have e2 : (Str.ofString "strict" != ("strict" : Str)) = false := by decide +kernel
    have q1 : ∀ {A' : Around} {E : Value → Shared → Prop} {Q : Value → Shared → Prop}, Q (.ref hp.objs.size) ⟨hp.push o1, g, d, tk, os⟩ → wpAny (model prog w) A' (pyIter v1) Q E ⟨hp, g, d, tk, os⟩ :=
      fun q => B1.iter prog w _ _ ⟨hp, g, d, tk, os⟩ _ h1 q
    have q2 : ∀ {A' : Around} {E : Value → Shared → Prop} {Q : Value → Shared → Prop}, Q (.ref (hp.push o1).objs.size) ⟨(hp.push o1).push o2, g, d, tk, os⟩ → wpAny (model prog w) A' (pyIter v2) Q E ⟨hp.push o1, g, d, tk, os⟩ :=
      fun q => B2.iter prog w _ _ ⟨hp.push o1, g, d, tk, os⟩ _ (B2.keeps _ _ h2 fun b o' e => Heap.get?_push_of_some _ e) q
    wp_walk using q1, q2
    exact ⟨_, rfl, h⟩
section
variable {prog : Program} {w : World} {A : Around} {E : Value → Shared → Prop} {s : Shared}
theorem call_z {v1 v2 : Value} {o1 o2 : Obj} {H1 H2 : Heap → Prop} {Q : Value → Shared → Prop} (B1 : Begins v1 o1 H1) (B2 : Begins v2 o2 H2) (h1 : H1 s.heap) (h2 : H2 s.heap)
    (h : ∀ h', IsZ h' (s.heap.objs.size + 4) (s.heap.objs.size + 2) (s.heap.objs.size + 3) .none → PySem.IsPair h' (s.heap.objs.size + 2) (.ref s.heap.objs.size) (.ref (s.heap.objs.size + 1)) → PySem.IsPair h' (s.heap.objs.size + 3) .none .none →
      h'.get? s.heap.objs.size = some o1 → h'.get? (s.heap.objs.size + 1) = some o2 → (∀ c o, s.heap.get? c = some o → h'.get? c = some o) → Q (.ref (s.heap.objs.size + 4)) { s with heap := h' }) :
    wpAny (model prog w) A (call (.type "zip") [v1, v2] [(Str.ofString "strict", .bool true)]) Q E s := by
  refine callType_newKw F.called_zip (by decide) (tc _ _ _) (nc _ _ _) (fun obj => ic obj _ _ _) F.entry_zip_new (new_z B1 B2) ⟨⟨h1, h2⟩, ?_⟩
  have n1 : (s.heap.push o1).objs.size = s.heap.objs.size + 1 := Heap.size_push ..
  have n2 : ((s.heap.push o1).push o2).objs.size = s.heap.objs.size + 2 := by rw [Heap.size_push, n1]
  have n3 : (hp3 s.heap o1 o2).objs.size = s.heap.objs.size + 3 := by rw [Heap.size_push, n2]
  have n4 : (hp4 s.heap o1 o2).objs.size = s.heap.objs.size + 4 := by rw [Heap.size_push, n3]
  have up : ∀ {h : Heap} {o : Obj} (o' : Obj) {c : Addr}, h.get? c = some o → (h.push o').get? c = some o := fun o' _ e => Heap.get?_push_of_some _ e
  have k5 : (hp5 s.heap o1 o2).get? (hp4 s.heap o1 o2).objs.size = some { cls := .type "zip", data := .fields #[.none, .bool false, .bool true, .ref ((s.heap.push o1).push o2).objs.size, .ref (hp3 s.heap o1 o2).objs.size] } := Heap.get?_push_size _ rfl
  have k4 : (hp5 s.heap o1 o2).get? (hp3 s.heap o1 o2).objs.size = some { cls := .type "tuple", data := .seq #[.none, .none] } := up _ (Heap.get?_push_size _ rfl)
  have k3 : (hp5 s.heap o1 o2).get? ((s.heap.push o1).push o2).objs.size = some { cls := .type "tuple", data := .seq #[.ref s.heap.objs.size, .ref (s.heap.push o1).objs.size] } := up _ (up _ (Heap.get?_push_size _ rfl))
  have k2 : (hp5 s.heap o1 o2).get? (s.heap.push o1).objs.size = some o2 := up _ (up _ (up _ (Heap.get?_push_size _ B2.free)))
  have k1 : (hp5 s.heap o1 o2).get? s.heap.objs.size = some o1 := up _ (up _ (up _ (up _ (Heap.get?_push_size _ B1.free))))
  rw [n4, n3, n2] at k5
  rw [n3] at k4
  rw [n2, n1] at k3
  rw [n1] at k2
  show _ ∧ _
  rw [n4]
  exact ⟨⟨_, k5, rfl⟩, h _ k5 k3 k4 k1 k2 fun c o e => up _ (up _ (up _ (up _ (up _ e))))⟩
end
end Zs
set_option Elab.async false
set_option linter.all false
set_option maxRecDepth 100000
/-! Fl10: walking zip(.., strict=True). -/
namespace Fl
open PySem PySem.Spec PyProof.Rows L2
def SqX (t : Bool) (K : PySem.W.Frag) (H : Hp) (a : Addr) (xs : List V) : Prop := if t = true then SqT K H a xs else SqL K H a xs
def ItzS (K : PySem.W.Frag) (t1 t2 : Bool) (a b : Addr) : It :=
  ⟨fun i H => ∃ (xs ys : List V) (x y : V), SqX t1 K H a xs ∧ SqX t2 K H b ys ∧ xs[i]? = some x ∧ ys[i]? = some y,
    fun i H v H' => ∃ T x y, v = .ref T ∧ H T = none ∧ H' = upd H T (.tup [x, y]) ∧ (∀ xs, SqX t1 K H a xs → xs[i]? = some x) ∧ ∀ ys, SqX t2 K H b ys → ys[i]? = some y,
    fun i H => ∃ xs ys : List V, SqX t1 K H a xs ∧ SqX t2 K H b ys ∧ xs.length ≤ i ∧ ys.length ≤ i⟩
theorem sq_at {X : Cx} {pins : List (Addr × Obj)} {σ : L2.St} {H : Hp} {s : Shared} {t : Bool} {a : Addr} {xs : List V} (I : L2.Inv X pins σ H s) (h : SqX t X.K H a xs) : ∃ its : List Value, Vals xs its ∧ Zs.SeA t s.heap a its.toArray := by
  unfold SqX at h
  unfold Zs.SeA
  cases t with
  | true =>
    obtain ⟨its, rv, p, _⟩ := I.tuple (show SqT X.K H a xs by simpa using h)
    refine ⟨its, rv, ?_⟩
    simp only [if_true]
    exact p
  | false =>
    obtain ⟨its, rv, p, _⟩ := I.list (show SqL X.K H a xs by simpa using h)
    exact ⟨its, rv, by simpa using p.isList⟩
theorem sq_inj {X : Cx} {pins : List (Addr × Obj)} {σ : L2.St} {H : Hp} {s : Shared} {t : Bool} {a : Addr} {xs ys : List V} (I : L2.Inv X pins σ H s) (h : SqX t X.K H a xs) (h' : SqX t X.K H a ys) : xs = ys := by
  unfold SqX at h h'
  cases t with
  | true => exact I.tuple_inj (show SqT X.K H a xs by simpa using h) (show SqT X.K H a ys by simpa using h')
  | false => exact I.list_inj (show SqL X.K H a xs by simpa using h) (show SqL X.K H a ys by simpa using h')
theorem turn_zs {P : Program} {w : World} {K : PySem.W.Frag} {elts : List Expr} {kk : Nat} {tpos : Pos} {t1 t2 : Bool} {a b z TI TO i1 i2 : Addr} (D : ZipApart z TI TO i1 i2 a b) :
    Turn P w K (.Tuple elts kk tpos) (ItzS K t1 t2 a b) [z, TI, TO, i1, i2] z (fun i h => Zs.IsZ h z TI TO .none ∧ PySem.IsPair h TI (.ref i1) (.ref i2) ∧ (∃ x y, PySem.IsPair h TO x y) ∧ Zs.ItA t1 h i1 a i ∧ Zs.ItA t2 h i2 b i) where
  mem := by simp
  obj := fun i h st c hc => by
    obtain ⟨hz, hTI, ⟨x, y, hTO⟩, h1, h2⟩ := st
    simp only [List.mem_cons, List.not_mem_nil, or_false] at hc
    rcases hc with q | q | q | q | q
    · subst q; exact ⟨_, hz, fun v e => nomatch e⟩
    · subst q; exact ⟨_, hTI, fun v e => nomatch e⟩
    · subst q; exact ⟨_, hTO, fun v e => nomatch e⟩
    · rw [q]; exact h1.there
    · rw [q]; exact h2.there
  keep := fun i h h' st k => by
    obtain ⟨hz, hTI, ⟨x, y, hTO⟩, h1, h2⟩ := st
    exact ⟨k z (by simp) _ hz, k TI (by simp) _ hTI, ⟨x, y, k TO (by simp) _ hTO⟩, h1.keep (k i1 (by simp)), h2.keep (k i2 (by simp))⟩
  item := by
    intro X hP hw hK hc i pins s σ H E I hf st hg
    subst hP hw hK
    obtain ⟨hz, hTI, ⟨x0, y0, hTO⟩, h1, h2⟩ := st
    obtain ⟨xs, ys, x, y, hqx, hqy, hx, hy⟩ := hg
    obtain ⟨us, rv, p⟩ := sq_at I hqx
    obtain ⟨us2, rv2, p2⟩ := sq_at I hqy
    obtain ⟨u, hu, ru⟩ := rv.get hx
    obtain ⟨u2, hu2, ru2⟩ := rv2.get hy
    have hzl : z < s.heap.objs.size := Heap.lt_size hz
    refine Zs.pyNext_item D hz hTI hTO h1 h2 p p2 (x := u) (y := u2) (by simpa using hu) (by simpa using hu2) fun h' z' TO' h1' h2' hT hk => ?_
    refine ⟨_, rfl, Zs.go_z (s := { s with heap := h' }) z' fun h'' z'' sb => ?_⟩
    have ap : ∀ c, c ∉ [z, TI, TO, i1, i2] → c ≠ z ∧ c ≠ TO ∧ c ≠ i1 ∧ c ≠ i2 := fun c hb => ⟨fun q => hb (by simp [q]), fun q => hb (by simp [q]), fun q => hb (by simp [q]), fun q => hb (by simp [q])⟩
    have hT2 : h''.get? s.heap.objs.size = some { cls := .type "tuple", data := .seq #[u, u2] } := (sb.2 _ (Nat.ne_of_gt hzl)).trans hT
    have new : ObjOk X.prog X.w (upd H s.heap.objs.size (.tup [x, y])) h'' s.heap.objs.size (.tup [x, y]) := ⟨by show 2 ≤ sizeLine; decide, [u, u2], .cons ru (.cons ru2 .nil), ⟨_, hT2, rfl, _, rfl⟩⟩
    have I1 : L2.Inv X pins σ (upd H s.heap.objs.size (.tup [x, y])) { s with heap := h'' } :=
      I.turnedNew (t' := s.toks) (ch := [z, TI, TO, i1, i2]) (fun c o hb q => (sb.2 c (ap c hb).1).trans (hk c o (ap c hb).1 (ap c hb).2.1 (ap c hb).2.2.1 (ap c hb).2.2.2 q)) hf (Nat.le_refl _) new
    refine ⟨.ref s.heap.objs.size, _, I1, rfl, ⟨_, x, y, rfl, I.hok.fresh (Nat.le_refl _), rfl, fun l hl => by rw [sq_inj I hl hqx]; exact hx, fun l hl => by rw [sq_inj I hl hqy]; exact hy⟩, ⟨z'', ?_, ⟨u, u2, (sb.2 _ D.TOz).trans TO'⟩, h1'.keep fun o q => (sb.2 _ D.i1z).trans q, h2'.keep fun o q => (sb.2 _ D.i2z).trans q⟩, fun c hcm => ?_⟩
    · exact (sb.2 _ D.TIz).trans (hk _ _ D.TIz D.TITO D.TIi1 D.TIi2 hTI)
    · have hlt : c < s.heap.objs.size := by
        simp only [List.mem_cons, List.not_mem_nil, or_false] at hcm
        obtain ⟨_, e1, _⟩ := h1.there
        obtain ⟨_, e2, _⟩ := h2.there
        rcases hcm with q | q | q | q | q
        · rw [q]; exact hzl
        · rw [q]; exact Heap.lt_size hTI
        · rw [q]; exact Heap.lt_size hTO
        · rw [q]; exact Heap.lt_size e1
        · rw [q]; exact Heap.lt_size e2
      rw [upd_ne (Nat.ne_of_lt hlt)]
      exact (hf c hcm).1
  done := by
    intro X hP hw hK hc i pins s σ H E I hf st hg
    subst hP hw hK
    obtain ⟨hz, hTI, ⟨x0, y0, hTO⟩, h1, h2⟩ := st
    obtain ⟨xs, ys, hqx, hqy, hx, hy⟩ := hg
    obtain ⟨us, rv, p⟩ := sq_at I hqx
    obtain ⟨us2, rv2, p2⟩ := sq_at I hqy
    have n1 := rv.length
    have n2 := rv2.length
    refine Zs.pyNext_end (I.ok.hd hc) D hz hTI hTO h1 h2 p p2 (by simp; omega) (by simp; omega) fun h' hk => ⟨rfl, I.turnedL (t' := s.toks) (ch := [z, TI, TO, i1, i2]) (fun c o hb q => hk c o (fun e => hb (by simp [e])) (fun e => hb (by simp [e])) (fun e => hb (by simp [e])) (fun e => hb (by simp [e])) q) hf⟩
  self := fun _ _ _ _ _ st h => Zs.iter_z st.1 h
/-! ### the call -/
def iZipS (K : PySem.W.Frag) (ta : TA) : TI := fun σ H R => ta σ H fun vs H1 => ∃ t1 t2 a b xs ys, vs = [.ref a, .ref b] ∧ SqX t1 K H1 a xs ∧ SqX t2 K H1 b ys ∧ R (ItzS K t1 t2 a b) H1
theorem cw_kw {M : Model} {A : Around} {E : Value → Shared → Prop} {s : Shared} {pos : Pos} {T : String} {args : List (Bool × Sem Value)} {kws : List (Option Str × Sem Value)} {Q : Value → Shared → Prop} (hp : args.any (·.1) = false) (hk : kws.any (·.1.isNone) = false)
    (h : wpAny M A (evalArgs (.type T) true args kws) (fun a s₁ => wpAny M A (call (.type T) a.pos a.kw) Q E s₁) E s) : wpAny M A (callWith pos (.type T) [] args kws) Q E s := by
  unfold callWith
  refine wpAny_bind (wpAny_holding (wpAny_mono h (fun a s₁ h1 => wpAny_bind (wpAny_standAt ?_)) fun _ _ x => x))
  simp only [hp, hk, Bool.or_false]
  refine wpAny_bind (wpAny_pure (wpAny_bind (wpAny_mono ?_ (fun r s₂ hr => wpAny_bind (wpAny_holding (wpAny_point (wpAny_pure hr)))) fun _ _ x => x)))
  simpa using h1
theorem beg {t : Bool} {a : Addr} {xs : Array Value} {h : Heap} (q : Zs.SeA t h a xs) : ∃ (o : Obj) (Hh : Heap → Prop), Begins (.ref a) o Hh ∧ Hh h ∧ ∀ (h' : Heap) (it : Addr), h'.get? it = some o → Zs.ItA t h' it a 0 := by
  unfold Zs.SeA at q
  unfold Zs.ItA
  cases t with
  | true => exact ⟨_, _, begins_tuple a xs, by simpa using q, fun h' it e => by simp only [if_true]; exact ⟨_, e, rfl, rfl⟩⟩
  | false => exact ⟨_, _, begins_list a xs, by simpa using q, fun h' it e => by simp only [Bool.false_eq_true, if_false]; exact ⟨_, e, rfl, rfl⟩⟩
theorem pi_zs {X : Cx} {e e2 : Expr} {ta : TA} {p pos tpos p0 kp : Pos} {elts : List Expr} {kk k0 : Nat} (hg : Gl X "zip") (hm : X.mg "zip" = none) (ha : PA X [e, e2] ta)
    (hs : backTo pos (starEach [e, e2] X.env) = (false, eval e X.env) :: backTo pos (starEach [e2] X.env) := by rfl) (hpl : (backTo pos (starEach [e, e2] X.env)).any (·.1) = false := by rfl) :
    PI X (.Tuple elts kk tpos) (.Call (.Name "zip" p) [e, e2] [⟨some "strict", .Constant (.bool true) k0 p0, kp⟩] pos) (iZipS X.K ta) := by
  refine ⟨fun pins s σ H R I h => ?_⟩
  refine wpAny_Call_Name_kw (ld_blt I hg hm PyProof.Rows.boot_zip (cw_kw hpl (by rfl) ?_))
  have hA := ha.run pos pins s σ H _ I h
  rw [hs] at hA ⊢
  refine evalArgs_kwB (by rfl) (thn hA fun us s1 ⟨vs, H1, I1, r1, q1⟩ => ?_)
  refine thn ((pk_cons (X := X) (nm := some "strict") (kpos := kp) (e := .Constant (.bool true) k0 p0) pe_bl pk_nil).run pos pins s1 σ H1 (fun zs H2 => zs = [V.bl true] ∧ H2 = H1) I1 ⟨rfl, rfl⟩) fun ws s2 ⟨zs, H2, I2, r2, e2, e3⟩ => ?_
  subst e2 e3
  obtain ⟨u, rfl, ru⟩ := vals1 r2
  cases ru
  obtain ⟨t1, t2, a, b, xs, ys, rfl, hqx, hqy, q⟩ := q1
  obtain ⟨v1, v2, rfl, rv1, rv2⟩ := vals2 r1
  cases rv1
  cases rv2
  obtain ⟨us1, rx, p1⟩ := sq_at I2 hqx
  obtain ⟨us2, ry, p2⟩ := sq_at I2 hqy
  obtain ⟨o1, P1, B1, g1, f1⟩ := beg p1
  obtain ⟨o2, P2, B2, g2, f2⟩ := beg p2
  show wpAny _ _ (call (.type "zip") [.ref a, .ref b] [(Str.ofString "strict", .bool true)]) _ _ _
  refine Zs.call_z B1 B2 g1 g2 fun h' hz hTI hTO hi1 hi2 hk => Zs.iter_z hz ?_
  have la : a < s2.heap.objs.size := by
    unfold Zs.SeA at p1
    split at p1
    · obtain ⟨o, e, _⟩ := p1; exact Heap.lt_size e
    · obtain ⟨o, e, _⟩ := p1; exact Heap.lt_size e
  have lb : b < s2.heap.objs.size := by
    unfold Zs.SeA at p2
    split at p2
    · obtain ⟨o, e, _⟩ := p2; exact Heap.lt_size e
    · obtain ⟨o, e, _⟩ := p2; exact Heap.lt_size e
  have D : ZipApart (s2.heap.objs.size + 4) (s2.heap.objs.size + 2) (s2.heap.objs.size + 3) s2.heap.objs.size (s2.heap.objs.size + 1) a b := by
    have la : (show Nat from a) < s2.heap.objs.size := la
    have lb : (show Nat from b) < s2.heap.objs.size := lb
    have ne : ∀ {x y : Nat}, (x < y ∨ y < x) → ¬ ((x : Addr) = (y : Addr)) := fun h e => by
      have e : (_ : Nat) = _ := e
      omega
    exact ⟨ne (by omega), ne (by omega), ne (by omega), ne (by omega), ne (by omega), ne (by omega), ne (by omega), ne (by omega), ne (by omega), ne (by omega), ne (.inl (Nat.lt_of_lt_of_le la (by omega))), ne (.inl (Nat.lt_of_lt_of_le la (by omega))), ne (.inl (Nat.lt_of_lt_of_le la (by omega))), ne (.inl (Nat.lt_of_lt_of_le la (by omega))), ne (.inl (Nat.lt_of_lt_of_le lb (by omega))), ne (.inl (Nat.lt_of_lt_of_le lb (by omega))), ne (.inl (Nat.lt_of_lt_of_le lb (by omega))), ne (.inl (Nat.lt_of_lt_of_le lb (by omega)))⟩
  refine ⟨s2.heap.objs.size + 4, [s2.heap.objs.size + 4, s2.heap.objs.size + 2, s2.heap.objs.size + 3, s2.heap.objs.size, s2.heap.objs.size + 1], _, _, _, rfl, I2.kept (t' := s2.toks) hk, turn_zs (t1 := t1) (t2 := t2) D, ⟨hz, hTI, ⟨_, _, hTO⟩, f1 _ _ hi1, f2 _ _ hi2⟩, fun c hcm => ?_, q⟩
  have hle : s2.heap.objs.size ≤ c := by
    simp only [List.mem_cons, List.not_mem_nil, or_false] at hcm
    rcases hcm with z | z | z | z | z <;> (rw [z]; omega)
  exact I2.fpOk hle (I2.hok.fresh hle)
/-! ### by values -/
section
variable {K : PySem.W.Frag} {mg : Str → Option Value} {w : Wo} {M : Mem}
/-- a sequence that is a tuple, or a list of the memory -/
theorem sq_of (rl : Rl K mg w M) {v : V} {d : D} {xs : List D} (h : RD K mg w v d) (e : asS M d = some xs) : ∃ t a, v = .ref a ∧ ∀ w2 M2, Le w w2 → Rl K mg w2 M2 → asS M2 d = some xs → ∃ us, SqX t K w2.H a us ∧ RDs K mg w2 us xs := by
  obtain ⟨a, us, rfl, h1, q1⟩ := rl.asS h e
  cases hd : asT d with
  | some ys =>
    refine ⟨true, a, rfl, fun w2 M2 l rl2 e2 => ?_⟩
    have hr := rl.rd l.toLe0 h
    have : ys = xs := by
      unfold asT at hd
      split at hd <;> first | (cases hd; unfold asS at e2; simpa using e2) | cases hd
    subst this
    obtain ⟨b, ts, eb, h3, q3⟩ := asT_ok hr hd
    cases eb
    exact ⟨ts, by unfold SqX; simpa using h3, q3⟩
  | none =>
    refine ⟨false, a, rfl, fun w2 M2 l rl2 e2 => ?_⟩
    have hr := rl.rd l.toLe0 h
    have e3 : asLs M2 d = some xs := by
      cases d <;> simp_all [asT, asS, asLs]
    obtain ⟨b, ts, eb, h3, q3⟩ := rl2.asLs hr e3
    cases eb
    exact ⟨ts, by unfold SqX; simpa using h3, q3⟩
end
section
variable {X : Cx} {a b : Expr} {fr : FA} {pos p tpos p0 kp : Pos} {elts : List Expr} {kk k0 : Nat}
def fiZipS (fr : FA) : FI := fun env M => (fr env M).bind fun p => match p.1 with
  | [d, d'] => (asS p.2 d).bind fun xs => (asS p.2 d').bind fun ys => if xs.length = ys.length then some ((zipD xs ys, fun M => asS M d = some xs ∧ asS M d' = some ys), p.2) else none
  | _ => none
theorem siZipS (hg : Gl X "zip") (hm : X.mg "zip" = none) (ha : SA X [a, b] fr)
    (hs : backTo pos (starEach [a, b] X.env) = (false, eval a X.env) :: backTo pos (starEach [b] X.env) := by rfl) (hpl : (backTo pos (starEach [a, b] X.env)).any (·.1) = false := by rfl) :
    SI X (.Tuple elts kk tpos) (.Call (.Name "zip" p) [a, b] [⟨some "strict", .Constant (.bool true) k0 p0, kp⟩] pos) (fiZipS fr) := PI.imp (pi_zs hg hm ha hs hpl) fun σ H R ⟨w, env, M, p, M', e, rl, re, hf, k⟩ => by
  unfold fiZipS at hf
  obtain ⟨q, hq, hf⟩ := Option.bind_eq_some_iff.mp hf
  refine tIA.mk e rl re hq fun vs w1 l1 rl1 rd1 => ?_
  split at hf
  · rename_i d d' hj
    rw [hj] at rd1
    obtain ⟨xs, hx, hf⟩ := Option.bind_eq_some_iff.mp hf
    obtain ⟨ys, hy, hf⟩ := Option.bind_eq_some_iff.mp hf
    split at hf
    · rename_i hlen
      cases hf
      obtain ⟨v, v', rfl, r1, r2⟩ := rd1.two
      obtain ⟨t1, a1, rfl, g1⟩ := sq_of rl1 r1 hx
      obtain ⟨t2, a2, rfl, g2⟩ := sq_of rl1 r2 hy
      obtain ⟨us, u1, _⟩ := g1 w1 _ (Le.refl w1) rl1 hx
      obtain ⟨us2, u2, _⟩ := g2 w1 _ (Le.refl w1) rl1 hy
      refine ⟨t1, t2, a1, a2, us, us2, rfl, u1, u2, k _ w1 l1 rl1 ⟨fun w2 M2 i dd l rl2 kp hd => ?_, fun w2 M2 l rl2 kp => ?_⟩⟩
      · obtain ⟨ts, q1, s1⟩ := g1 w2 M2 l rl2 kp.1
        obtain ⟨ts2, q2, s2⟩ := g2 w2 M2 l rl2 kp.2
        dsimp only at hd
        unfold zipD at hd
        rw [List.getElem?_zipWith] at hd
        cases ex : xs[i]? with
        | none => rw [ex] at hd; simp at hd
        | some x => cases ey : ys[i]? with
          | none => rw [ex, ey] at hd; simp at hd
          | some y =>
            rw [ex, ey] at hd
            cases hd
            obtain ⟨v, hv, rd⟩ := s1.get ex
            obtain ⟨v', hv', rd'⟩ := s2.get ey
            refine ⟨⟨ts, ts2, v, v', q1, q2, hv, hv'⟩, fun x H' ⟨T, x1, y1, e, hT, eH, f1, f2⟩ => ?_⟩
            have e1 := f1 ts q1
            have e2 := f2 ts2 q2
            rw [hv] at e1
            rw [hv'] at e2
            cases e1
            cases e2
            subst e
            exact ⟨w2.lay T _, eH.symm, Le.lay hT, rl2.lay hT, RD.tupNew rl2 hT (.cons rd (.cons rd' .nil))⟩
      · obtain ⟨ts, q1, s1⟩ := g1 w2 M2 l rl2 kp.1
        obtain ⟨ts2, q2, s2⟩ := g2 w2 M2 l rl2 kp.2
        refine ⟨ts, ts2, q1, q2, ?_, ?_⟩
        · rw [s1.length]; unfold zipD; rw [List.length_zipWith]; omega
        · rw [s2.length]; unfold zipD; rw [List.length_zipWith]; omega
    · cases hf
  · cases hf
end
end Fl
set_option Elab.async false
set_option linter.all false
set_option maxRecDepth 100000
/-! Fl11: dict(..) of pairs whose keys are tuples; a display with one such pair. -/
namespace Fl
open PySem PySem.Spec PyProof.Rows L2
def mergeT (kvs more : List (List Key × V)) : List (List Key × V) := more.foldl (fun acc kv => putK acc kv.1 kv.2) kvs
theorem kt_all {H : Hp} {more : List (List Key × V)} {zs : List (List Key × Addr × Value)} {kvs : List (List Key × V)} {xs : List (List Key × Addr × Value)} (r : KT H more zs) (r0 : KT H kvs xs) : KT H (mergeT kvs more) (storedAllH xs zs) := by
  unfold KT at r
  induction r generalizing kvs xs with
  | nil => exact r0
  | @cons p q ps qs h t ih =>
    obtain ⟨h1, h2, h3⟩ := h
    have := r0.put p.1 (b := q.2.1) (y := p.2) (u := q.2.2) h2 h3
    rw [show storedH xs p.1 q.2.1 q.2.2 = storedH xs q.1 q.2.1 q.2.2 by rw [h1]] at this
    exact ih this
theorem mergeT_len : ∀ (more kvs : List (List Key × V)), (mergeT kvs more).length ≤ kvs.length + more.length
  | [], kvs => Nat.le_refl _
  | p :: r, kvs => by
    have h1 := mergeT_len r (putK kvs p.1 p.2)
    have h2 := length_putK kvs p.1 p.2
    show (mergeT (putK kvs p.1 p.2) r).length ≤ _
    rw [List.length_cons]; omega
section
variable {X : Cx}
theorem pairsT {pins : List (Addr × Obj)} {σ : L2.St} {H : Hp} {s : Shared} (I : L2.Inv X pins σ H s) : ∀ ts : List (Addr × Addr × List Key × V), (∀ t ∈ ts, SqT X.K H t.1 [.ref t.2.1, t.2.2.2] ∧ H t.2.1 = some (.tup (t.2.2.1.map kV))) →
    ∃ zs : List (List Key × Addr × Value), KT H (ts.map fun t => t.2.2) zs ∧ zs.length = ts.length ∧ ∀ (j : Nat) (z : List Key × Addr × Value), zs[j]? = some z → ∃ t, ts[j]? = some t ∧ s.heap.IsTuple t.1 #[.ref z.2.1, z.2.2] ∧ H z.2.1 = some (.tup (z.1.map kV))
  | [], _ => ⟨[], .nil, rfl, fun j z e => by simp at e⟩
  | t :: ts, h => by
    obtain ⟨zs, r, hl, hz⟩ := pairsT I ts fun t ht => h t (List.mem_cons_of_mem _ ht)
    obtain ⟨h1, h2⟩ := h t (List.mem_cons_self ..)
    obtain ⟨its, rv, p, _⟩ := I.tuple h1
    obtain ⟨u, y, rfl, ru, ry⟩ := vals2 rv
    cases ru
    refine ⟨(t.2.2.1, t.2.1, y) :: zs, .cons ⟨rfl, h2, ry⟩ r, by rw [List.length_cons, List.length_cons, hl], fun j z e => ?_⟩
    cases j with
    | zero =>
      have e : (t.2.2.1, t.2.1, y) = z := Option.some.inj e
      subst e
      exact ⟨t, rfl, p, h2⟩
    | succ j =>
      obtain ⟨t', e1, e2⟩ := hz j z (by simpa using e)
      exact ⟨t', by simpa using e1, e2⟩
theorem call_dictT (hc : X.calm = true) (hu : X.A.units + 2 < cLine) : CallR X (.type "dict") (fun xs H Q => ∃ (a : Addr) (ts : List (Addr × Addr × List Key × V)), xs = [.ref a] ∧ SqL X.K H a (ts.map fun t => V.ref t.1) ∧ (∀ t ∈ ts, SqT X.K H t.1 [.ref t.2.1, t.2.2.2] ∧ H t.2.1 = some (.tup (t.2.2.1.map kV))) ∧
    ∀ p, H p = none → Q (.ref p) (upd H p (.dT (mergeT [] (ts.map fun t => t.2.2))))) := by
  intro pins s σ H xs us Q I r q
  obtain ⟨a, ts, rfl, hq, hp, q⟩ := q
  obtain ⟨u, rfl, rx⟩ := vals1 r
  cases rx
  obtain ⟨its, rv, pl, hz⟩ := I.list hq
  have ei := refs_at (ps := ts.map (·.1)) (us := its) (by rw [List.map_map]; exact rv)
  subst ei
  rw [List.length_map] at hz
  obtain ⟨zs, rel, hl, hzs⟩ := pairsT I ts hp
  obtain ⟨o, n, ho, hcl, hd, hdat⟩ := pl
  have P := PairArg.list (prog := X.prog) (w := X.w) a ((ts.map (·.1)).map Value.ref).toArray (fun j => (ts[j]?.map (·.1)).getD 0) (zs.map fun z => (Value.ref z.2.1, z.2.2))
  have ok : PlainSeq "list" s.heap a ((ts.map (·.1)).map Value.ref).toArray ∧ PairItems s.heap ((ts.map (·.1)).map Value.ref).toArray (fun j => (ts[j]?.map (·.1)).getD 0) (zs.map fun z => (Value.ref z.2.1, z.2.2)) := by
    refine ⟨⟨o, n, ho, hcl, hd, hdat⟩, by simp [hl], fun j k v e => ?_⟩
    rw [List.getElem?_map] at e
    obtain ⟨z, ez, e⟩ := Option.map_eq_some_iff.mp e
    cases e
    obtain ⟨t, et, ht, _⟩ := hzs j z ez
    refine ⟨by simp [et], ?_⟩
    dsimp only
    rw [et]
    exact .inl ht
  have hp2 : PairsHaveH (tupleKind (mixKind X.prog X.w)) (zs.map fun z => (Value.ref z.2.1, z.2.2)).length (PairRel (zs.map fun z => (Value.ref z.2.1, z.2.2))) zs := by
    refine ⟨by simp, fun i key v e => ?_⟩
    have e : (zs.map fun z => (Value.ref z.2.1, z.2.2))[i]? = some (key, v) := e
    rw [List.getElem?_map] at e
    obtain ⟨z, ez, e⟩ := Option.map_eq_some_iff.mp e
    cases e
    exact ⟨z.1, z.2.1, ez, rfl⟩
  have his : ∀ x ∈ zs, (tupleKind (mixKind X.prog X.w)).is s.heap x.1 x.2.1 := fun x hx => by
    obtain ⟨j, ej⟩ := List.mem_iff_getElem?.mp hx
    obtain ⟨t, _, _, ht⟩ := hzs j x ej
    exact key_of I.hok ht
  have st := tupleKind_stays (prog := X.prog) (w := X.w) (knd := mixKind X.prog X.w)
  refine call_dict_pairsH P (I.ok.hd hc) (by show X.A.in1.in1.units < cLine; exact hu) ok hp2 (fun h' hk x hx => st.all h' (fun b o hw e => hk b o (Nat.ne_of_lt (Heap.lt_size e)) hw e) _ _ (his x hx)) (by simp [hl]; exact hz) fun h' tk hd' hk => ?_
  have hm : (s.heap.objs.size == sysModules) = false := beq_eq_false_iff_ne.mpr (Nat.ne_of_gt I.big)
  have hlen : (mergeT [] (ts.map fun t => t.2.2)).length ≤ sizeLine := Nat.le_trans (mergeT_len _ _) (by simp; exact hz)
  have hn : H s.heap.objs.size = none := I.hok.fresh (Nat.le_refl _)
  have kt := (kt_all rel (KT.keeps (H := H) .nil fun _ _ e => e)).keeps (H' := upd H s.heap.objs.size (.dT (mergeT [] (ts.map fun t => t.2.2)))) fun b ys e => by rw [upd_ne (ne_of_none e hn)]; exact e
  obtain ⟨od, es, ep, g1, g2, g3, g4, _, g5⟩ := hd'
  exact ⟨.ref s.heap.objs.size, _, I.laid (t' := tk) (fun b o e => hk b o (fun q => nomatch q) e) (Nat.le_refl _) (show ObjOk X.prog X.w _ _ _ (.dT (mergeT [] (ts.map fun t => t.2.2))) from ⟨hlen, hm, storedAllH [] zs, kt, od, es, ep, g1, g2, g3, g4, g5⟩), rfl, q _ hn⟩
/-! ### {k: v}, k a tuple -/
theorem pe_d1T {k v : Expr} {tk tv : TE} {pos : Pos} (hu : X.A.units < cLine) (hk : PE X k tk) (hv : PE X v tv) : PE X (.Dict [some k] [v] pos) (fun σ H Q => ∀ p, H p = none → tk σ (upd H p (.dT [])) fun x H1 => tv σ H1 fun y H2 => H2 p = some (.dT []) ∧ ∃ b ks, x = .ref b ∧ H2 b = some (.tup (ks.map kV)) ∧ Q (.ref p) (upd H2 p (.dT [(ks, y)]))) := by
  refine ⟨fun pins s σ H Q I q => ?_⟩
  have I1 := I.laid (a := s.heap.objs.size) (o := .dT []) (h' := s.heap.push { cls := .type "dict", data := .dict #[] }) (t' := s.toks) (fun _ _ q => Heap.get?_push_of_some _ q) (Nat.le_refl _) (dt_empty s.heap I.big)
  have e0 : (evalEachOpt [some k] X.env).zip ((evalEach [v] X.env).map fun v => do let x ← v; standAt pos; pure x) = (pairTrees [some k] [v] X.env pos).map fun p => (some p.1, p.2) := zip_pairTrees _ _ _ _ rfl rfl
  rw [arm_eval_Dict, e0, dictDisplay_pairs _ (by simp [pairTrees]) (by simp [pairTrees])]
  refine wpAny_bind (wpAny_standAt (wpAny_bind (wpAny_subDictH (knd := tupleKind (mixKind X.prog X.w)) hu (by simp [pairTrees]) ?_)))
  refine pairTrees_cons_walk (thn (hk.run pins _ σ _ _ I1 (q _ (I.hok.fresh (Nat.le_refl _)))) fun u s1 ⟨x, H1, I2, rx, q1⟩ => thn (hv.run pins s1 σ H1 _ I2 q1) fun w2 s2 ⟨y, H2, I3, ry, e, b, ks, ex, hb, q2⟩ => pairTrees_nil_walk ?_)
  subst ex
  cases rx
  obtain ⟨_, hd, xs, r, dd⟩ := dt_of I3.hok e
  cases r
  refine ⟨[(ks, b, w2)], ⟨rfl, rfl, key_of I3.hok hb, trivial⟩, dd, fun h' tk hx hs => wpAny_pure ⟨.ref s.heap.objs.size, _, ?_, rfl, q2⟩⟩
  have hne : b ≠ s.heap.objs.size := fun z => by rw [z, e] at hb; cases hb
  obtain ⟨od, es, ep, g1, g2, g3, g4, g5, g6⟩ := hx
  refine d_write I3 (by rw [e]; exact trivial) hs ⟨od, g1⟩ ⟨by show 1 ≤ sizeLine; decide, hd, [(ks, b, w2)], .cons ⟨rfl, by rw [upd_ne hne]; exact hb, ry⟩ .nil, od, es, ep, g1, g2, g3, g4, g6⟩
/-! ### by values -/
section
variable {K : PySem.W.Frag} {mg : Str → Option Value} {w : Wo} {M : Mem}
def pairsD : List D → Option (List (List Key × D))
  | [] => some []
  | .tup [.tup ks, v] :: r => (flatKeys ks).bind fun k => (pairsD r).map ((k, v) :: ·)
  | _ => none
def mergeD (kvs : List (DK × D)) (more : List (List Key × D)) : List (DK × D) := more.foldl (fun acc kv => dPut acc (.t kv.1) kv.2) kvs
theorem pairsD_ok {L : PySem.W.Frag} : ∀ {vs : List V} {ds : List D} {ps : List (List Key × D)}, RDs L mg w vs ds → pairsD ds = some ps →
    ∃ ts : List (Addr × Addr × List Key × V), vs = ts.map (fun t => V.ref t.1) ∧ (∀ t ∈ ts, SqT L w.H t.1 [.ref t.2.1, t.2.2.2] ∧ w.H t.2.1 = some (.tup (t.2.2.1.map kV))) ∧ (ts.map fun t => t.2.2.1) = ps.map (·.1) ∧ RDs L mg w (ts.map fun t => t.2.2.2) (ps.map (·.2))
  | [], [], _, _, e => by
    simp only [pairsD] at e
    cases e
    exact ⟨[], rfl, fun t ht => by simp at ht, rfl, .nil⟩
  | [], _ :: _, _, h, _ => by simp only [RDs] at h
  | _ :: _, [], _, h, _ => by simp only [RDs] at h
  | v :: vs, d :: ds, ps, h, e => by
    unfold pairsD at e
    split at e
    · rename_i heq
      cases heq
    · rename_i ks x r heq
      cases heq
      obtain ⟨k, hk, e⟩ := Option.bind_eq_some_iff.mp e
      obtain ⟨qs, hq, rfl⟩ := Option.map_eq_some_iff.mp e
      obtain ⟨ts, h1, h2, h3, h4⟩ := pairsD_ok h.tail hq
      obtain ⟨a, us, rfl, g1, g2⟩ := h.head.tup
      obtain ⟨y, z, rfl, r1, r2⟩ := g2.two
      simp only [RD] at r1
      obtain ⟨b, ws, rfl, q1, q2⟩ := r1
      rw [flatKeys_ok q2 hk] at q1
      refine ⟨(a, b, k, z) :: ts, by rw [h1]; rfl, fun t ht => ?_, by simp [h3], .cons r2 h4⟩
      rcases List.mem_cons.mp ht with rfl | ht
      · exact ⟨g1, q1⟩
      · exact h2 t ht
    · cases e
theorem merge_rd : ∀ {more : List (List Key × V)} {ps : List (List Key × D)} {kv : List (List Key × V)} {kvs : List (DK × D)}, more.map (·.1) = ps.map (·.1) → RDs K mg w (more.map (·.2)) (ps.map (·.2)) → kvs.map (·.1) = kv.map (fun p => DK.t p.1) → RDs K mg w (kv.map (·.2)) (kvs.map (·.2)) →
    (mergeD kvs ps).map (·.1) = (mergeT kv more).map (fun p => DK.t p.1) ∧ RDs K mg w ((mergeT kv more).map (·.2)) ((mergeD kvs ps).map (·.2))
  | [], [], _, _, _, _, h, q => ⟨h, q⟩
  | [], _ :: _, _, _, e, _, _, _ => by simp at e
  | _ :: _, [], _, _, e, _, _, _ => by simp at e
  | (k, v) :: more, (k', d) :: ps, kv, kvs, e, r, h, q => by
    simp only [List.map_cons, List.cons.injEq] at e
    obtain ⟨rfl, e⟩ := e
    obtain ⟨i1, i2⟩ := put_g (f := DK.t) (fun _ _ z => DK.t.inj z) k r.head h q
    exact merge_rd (kv := putK kv k v) (kvs := dPut kvs (.t k) d) e r.tail i1 i2
end
def gDict : Mem → List D → Option R := fun M ds => match ds with
  | [d] => (asLs M d).bind fun xs => (pairsD xs).map fun ps => .n (.dic true (mergeD [] ps))
  | _ => none
theorem cDict (hc : X.calm = true) (hu : X.A.units + 2 < cLine) : CallS X (.type "dict") gDict := .of (call_dictT hc hu) fun w0 w M vs ds r Q l rl rd hg k => by
  unfold gDict at hg
  split at hg
  · obtain ⟨xs, hx, hg⟩ := Option.bind_eq_some_iff.mp hg
    obtain ⟨ps, hp, rfl⟩ := Option.map_eq_some_iff.mp hg
    obtain ⟨v, rfl, rv⟩ := rd.one
    obtain ⟨a, us, rfl, h, q⟩ := rl.asLs rv hx
    obtain ⟨ts, rfl, h2, h3, h4⟩ := pairsD_ok q hp
    refine ⟨a, ts, rfl, h, h2, fun p hn => ?_⟩
    have L := rl.lay (o := .dT (mergeT [] (ts.map fun t => t.2.2))) hn
    have e4 : RDs X.K X.mg (w.lay p (.dT (mergeT [] (ts.map fun t => t.2.2)))) ((ts.map fun t => t.2.2).map (·.2)) (ps.map (·.2)) := by
      rw [List.map_map]
      exact rl.rds (Le.lay hn).toLe0 h4
    obtain ⟨m1, m2⟩ := merge_rd (kv := []) (kvs := []) (more := ts.map fun t => t.2.2) (ps := ps) (by rw [List.map_map]; exact h3) e4 rfl .nil
    exact k _ _ (Le.lay hn) L ⟨p, rfl, ⟨_, ⟨_, Wo.lay_at, m1, rfl⟩, m2⟩, rl.newg hn, rl.newb hn, l.fresh hn fun z => rl.newb hn (l.mem z)⟩
  · cases hg
def fD1 (fk fv : FE) : FE := fun env M => (fk env M).bind fun p => (fv env p.2).bind fun q => match p.1.fz with
  | .tup ks => (flatKeys ks).map fun k => (.n (.dic true [(.t k, q.1.fz)]), q.2)
  | _ => none
theorem sD1 {k v : Expr} {fk fv : FE} {pos : Pos} (hu : X.A.units < cLine) (hk : SE X k fk) (hv : SE X v fv) : SE X (.Dict [some k] [v] pos) (fD1 fk fv) := (pe_d1T hu hk hv).imp fun σ H Q ⟨w, env, M, r, M', e, rl, re, hf, kk⟩ => by
  subst e
  unfold fD1 at hf
  obtain ⟨p1, hp, hf⟩ := Option.bind_eq_some_iff.mp hf
  obtain ⟨p2, hq, hf⟩ := Option.bind_eq_some_iff.mp hf
  split at hf
  · rename_i ks hks
    obtain ⟨k1, hk1, hf⟩ := Option.map_eq_some_iff.mp hf
    cases hf
    intro p hn
    have hb0 := rl.newb hn
    have hg0 := rl.newg hn
    refine tI.mk (w := w.lay p (.dT [])) rfl (rl.lay hn) (rl.re (Le.lay hn).toLe0 re) hp fun x w1 l1 rl1 rr1 => ?_
    obtain ⟨w1', l1', e1, b1, rl1', rd1, _⟩ := rr1.fz rl1 l1
    rw [← e1]
    refine tI.mk rfl rl1' (rl.re ((Le.lay hn).trans l1').toLe0 re) hq fun y w2 l2 rl2 rr2 => ?_
    obtain ⟨w2', l2', e2, b2, rl2', rd2, _⟩ := rr2.fz rl2 l2
    rw [← e2]
    have lp := l1'.trans l2'
    have hp2 : w2'.H p = some (.dT []) := lp.keep p _ hb0 Wo.lay_at
    have hg2 : ¬ w2'.G p := fun z => by
      rcases lp.ng p z with z | z | z
      · exact hg0 z
      · rw [Wo.lay_at] at z; cases z
      · exact hb0 z
    have hb2 : p ∉ w2'.β := fun z => by
      rcases lp.nb p z with z | z
      · exact hb0 z
      · rw [Wo.lay_at] at z; cases z
    have ht2 : ∀ vs, w2'.H p ≠ some (.tup vs) := fun vs => by rw [hp2]; simp
    have rd1' := rl1'.rd l2'.toLe0 rd1
    rw [hks] at rd1'
    simp only [RD] at rd1'
    obtain ⟨b, us, rfl, q1, q2⟩ := rd1'
    rw [flatKeys_ok q2 hk1] at q1
    have lf : Le w (w2'.lay p (.dT [(k1, y)])) := ((Le.lay hn).trans lp).over hn
    exact ⟨hp2, b, k1, rfl, q1, kk _ _ lf (rl2'.over hg2 hb2 ht2) ⟨p, rfl, ⟨[y], ⟨[(k1, y)], Wo.lay_at, rfl, rfl⟩, .cons (RD.over hg2 ht2 _ _ rd2) .nil⟩, hg2, hb2, hn⟩⟩
  · cases hf
end
end Fl
set_option Elab.async false
set_option linter.all false
set_option maxRecDepth 100000
/-! Fl12: instances: made, their fields stored, their own len and str; sum with a start. -/
namespace Fl
open PySem PySem.Spec PyProof.Rows L2
/-! ### sum(x, start=0) of a tuple or a list of ints -/
section
variable {prog : Program} {w : World} {A : Around} {E : Value → Shared → Prop} {s : Shared}
theorem args_sumS (a b : Value) : argsOk "sum" ⟨[a], [(Str.ofString "start", b)]⟩ := by unfold argsOk; kernel_rfl
theorem tree_kw {id : String} {b : Builtin} {args : List Value} {kw : List (Str × Value)} {Q : Value → Shared → Prop} (hk : builtinKind id = none) (hp : plainId id = true) (hb : entryFor table id = some b) (ha : argsOk id ⟨args, kw⟩)
    (hc : wpAny (model prog w) A.in1 (b ⟨args, kw⟩) (fun fin s' => match fin with
      | .done f => (match (Except.ok f : Result) with | .ok (.ret v) => Q v s' | .ok _ => False | .error e => E e s')
      | .again c => c.quiet = true ∧ codeAny (model prog w) A c (fun r s' => match r with | .ok (.ret v) => Q v s' | .ok _ => False | .error e => E e s') s') E s) : wpAny (model prog w) A (call (.builtin id) args kw) Q E s := by
  refine wpAny_call (codeAny_call_builtin hp hb ?_)
  simp only [checkBuiltinCall, hk]
  cases e : Manifest.signature? id with
  | none => exact wpAny_pure hc
  | some sig =>
    have h2 : Bind.checkArgs id sig ⟨args, kw⟩ = pure () := by simpa only [argsOk, e] using ha
    simp only [h2]
    exact wpAny_pure hc
theorem sum_st {x : Value} {t0 : Tok} {Q : Value → Shared → Prop}
    (h : wpAny (model prog w) A.in1 (pyIter x) (fun it s₂ => ∃ I fp wr n P St val, it = .ref I ∧ Walks prog w A.in1 I fp wr n P St ∧ St 0 s₂.heap ∧ (∀ b ∈ fp, b < s₂.heap.objs.size) ∧ (∀ i v, P i v → ∃ t, v = .int (val i) t) ∧
      ∀ h' tk t', (∀ b o, b ∉ wr → s₂.heap.get? b = some o → h'.get? b = some o) → Q (.int (preSum val n) t') { s₂ with heap := h', toks := tk }) E s) : wpAny (model prog w) A (call (.builtin "sum") [x] [(Str.ofString "start", .int 0 t0)]) Q E s := by
  refine tree_kw F.kind_sum F.plain_sum F.entry_sum (args_sumS _ _) ?_
  unfold Builtin.«sum»
  simp only [List.length_cons, List.length_nil]
  rw [if_neg (by decide)]
  refine wpAny_bind (wpAny_of_eq (show Builtin.Builtins.bindParams "sum" ["start"] 0 ⟨[], [(Str.ofString "start", .int 0 t0)]⟩ = pure [some (.int 0 t0)] by kernel_rfl) ?_)
  refine wpAny_bind (wpAny_mono h (fun it s₂ h₂ => ?_) fun _ _ e => e)
  obtain ⟨I, fp, wr, n, P, St, val, rfl, W, hst, hfp, hval, hQ⟩ := h₂
  show wpAny _ A.in1 (rule "sum.start-copied" >>= fun _ => mkInt 0 >>= fun v => pure (v, (0 : Int)) >>= _) _ _ _
  refine wpAny_bind (wpAny_rule (wpAny_bind (wpAny_mkInt (wpAny_bind (wpAny_pure ?_)))))
  simp only [List.forIn_cons, List.forIn_nil]
  refine wpAny_bind (wpAny_bind (wpAny_bind (wpAny_isInstance (T := "int") (b := false) (typeIs_int _ _ _) PySem.sub_int_str ?_)))
  simp only [Bool.false_eq_true, if_false]
  refine wpAny_pure (wpAny_bind (wpAny_bind (wpAny_isInstance (T := "int") (b := false) (typeIs_int _ _ _) PySem.sub_int_bytes ?_)))
  simp only [Bool.false_eq_true, if_false]
  refine wpAny_pure (wpAny_bind (wpAny_bind (wpAny_isInstance (T := "int") (b := false) (typeIs_int _ _ _) PySem.sub_int_bytearray ?_)))
  simp only [Bool.false_eq_true, if_false]
  refine wpAny_pure (wpAny_pure (wpAny_bind (wpAny_newObj_type ?_)))
  have hS : s₂.heap.objs.size ∉ fp := fun hm => Nat.lt_irrefl _ (hfp _ hm)
  refine wpAny_pure ⟨plainId_quiet F.plain_sum_loop _, codeAny_sum_loopG W val hval s₂.heap.objs.size hS n 0 _ s₂.toks 0 0 (.inl rfl) rfl (Nat.zero_le _) (W.frame _ _ _ hst fun b _ o e => Heap.get?_push_of_some _ e) (Heap.get?_push_size _ rfl) fun h' tk t' hk => ?_⟩
  exact hQ h' tk t' fun b o hbw e => hk b o hbw (Nat.ne_of_lt (Heap.lt_size e)) (Heap.get?_push_of_some _ e)
end
theorem preSum_get : ∀ (xs : List Int) (j : Nat), j ≤ xs.length → preSum (fun i => xs.getD i 0) j = (xs.take j).sum
  | xs, 0, _ => by simp [preSum]
  | xs, j + 1, h => by
    rw [preSum, preSum_get xs j (by omega), List.take_add_one, List.sum_append]
    have : xs[j]? = some (xs.getD j 0) := by rw [List.getD_eq_getElem?_getD, List.getElem?_eq_getElem (by omega)]; rfl
    rw [this]
    simp
section
variable {X : Cx}
theorem cr_sumS (hc : X.calm = true) : CallRK X (.builtin "sum") [Str.ofString "start"] (fun xs zs H Q => ∃ (a : Addr) (ns : List Int), xs = [.ref a] ∧ zs = [.int 0] ∧ SqT X.K H a (ns.map V.int) ∧ Q (.int ns.sum) H) := by
  intro pins s σ H xs zs us ws Q I r1 r2 h
  obtain ⟨a, ns, rfl, rfl, hq, q⟩ := h
  obtain ⟨u, rfl, ru⟩ := vals1 r1
  obtain ⟨u2, rfl, ru2⟩ := vals1 r2
  cases ru
  obtain ⟨t0, rfl⟩ := ru2
  obtain ⟨its, rv, p, _⟩ := I.tuple hq
  have hT : s.heap.IsTuple a its.toArray := p
  have hlt : a < s.heap.objs.size := by obtain ⟨_, e, _⟩ := hT; exact Heap.lt_size e
  have len : its.length = ns.length := by rw [← rv.length, List.length_map]
  refine sum_st (wpAny_pyIter_tuple hT ?_)
  have hK : (s.heap.push { cls := .type "tuple_iterator", data := .fields #[.ref a, .int 0 0] }).IsTuple a its.toArray := hT.at fun o e => Heap.get?_push_of_some _ e
  refine ⟨_, _, _, _, _, _, fun i => ns.getD i 0, rfl, Walks.tuple (A := X.A.in1) (I.ok.hd hc) s.heap.objs.size a (Nat.ne_of_lt hlt) its.toArray, ⟨⟨_, Heap.get?_push_size _ rfl, rfl, rfl⟩, hK⟩, fun b hb => ?_, fun i v hv => ?_, fun h' tk t' hk => ?_⟩
  · show b < (s.heap.push _).objs.size
    rw [Heap.size_push]
    simp only [List.mem_cons, List.not_mem_nil, or_false] at hb
    rcases hb with rfl | rfl
    · exact Nat.lt_succ_self _
    · exact Nat.lt_succ_of_lt hlt
  · have hv : its[i]? = some v := by simpa using hv
    have hi : i < ns.length := by have := (List.getElem?_eq_some_iff.mp hv).1; omega
    have hn : ns[i]? = some ns[i] := List.getElem?_eq_getElem hi
    obtain ⟨u, hu, ru⟩ := rv.get (show (ns.map V.int)[i]? = some (.int ns[i]) by rw [List.getElem?_map, hn]; rfl)
    rw [hv] at hu
    cases hu
    obtain ⟨t, rfl⟩ := ru
    exact ⟨t, by dsimp only; rw [List.getD_eq_getElem?_getD, hn]; rfl⟩
  · rw [preSum_get ns _ (by simp [len])]
    have : ns.take its.toArray.size = ns := List.take_of_length_le (by simp [len])
    rw [this]
    exact ⟨.int ns.sum, H, I.kept (t' := tk) fun b o e => hk b o (fun hm => by simp only [List.mem_singleton] at hm; rw [hm] at e; exact Nat.lt_irrefl _ (Heap.lt_size e)) (Heap.get?_push_of_some _ e), ⟨t', rfl⟩, q⟩
variable {e a b c o : Expr} {es : List Expr} {fa fb fc fo : FE} {fr : FA} {pos pos' p p0 kp apos : Pos} {x : Str} {k j n k0 : Nat} {F : FF}
def fSumS (fa : FE) : FE := fun env M => (fa env M).bind fun p => (asT p.1.fz).bind fun xs => (intsD xs).map fun ns => (.v (.int ns.sum), p.2)
theorem sSumS (hc : X.calm = true) (hg : Gl X "sum") (hm : X.mg "sum" = none) (ha : SE X a fa)
    (hs : starEach [a] X.env = (false, eval a X.env) :: starEach [] X.env := by rfl) (he : backTo pos (starEach [a] X.env) = (false, eval a X.env) :: backTo pos (starEach [] X.env) := by rfl) (hpl : (backTo pos (starEach [a] X.env)).any (·.1) = false := by rfl) :
    SE X (.Call (.Name "sum" p) [a] [⟨some "start", .Constant (.int 0) k0 p0, kp⟩] pos) (fSumS fa) :=
  (pe_callBK (cr_sumS hc) hg hm (by decide +kernel) (pa_cons ha pa_nil hs) (pk_cons (X := X) (e := .Constant (.int 0) k0 p0) pe_int pk_nil) (by decide) (by decide) he hpl (by rfl) (by rfl) (by rfl)).imp fun σ H Q ⟨w, env, M, r, M', e, rl, re, hf, k⟩ => by
    unfold fSumS at hf
    obtain ⟨q, hq, hf⟩ := Option.bind_eq_some_iff.mp hf
    obtain ⟨xs, hx, hf⟩ := Option.bind_eq_some_iff.mp hf
    obtain ⟨ns, hn, hf⟩ := Option.map_eq_some_iff.mp hf
    cases hf
    refine tI.mk e rl re hq fun v w1 l1 rl1 rr1 => ?_
    obtain ⟨w1', l1', e1, b1, rl1', rd1, _⟩ := rr1.fz rl1 l1
    obtain ⟨a', us, rfl, h1, q1⟩ := asT_ok rd1 hx
    rw [intsD_ok q1 hn] at h1
    rw [← e1]
    exact ⟨a', ns, rfl, rfl, h1, k _ w1' l1' rl1' (.of .mkInt)⟩
/-! ### a def run below the body: an own __len__, __str__ -/
structure MeF (P : Program) (w : World) (K : PySem.W.Frag) (mg : Str → Option Value) (base : Heap) (k : Nat) (c m : Str) (F : FF) : Prop where
  ex : ∀ C, mg c = some (.ref C) → ∃ (f : Addr) (fd : FuncData) (ps : List Str), FnOk P w K mg base CX0 k f fd ps (spF K mg 1 F) ∧ PySem.W.findIn K (.ref C) m = some (some (.ref f)) ∧ PySem.W.isFn K (.ref f) = true ∧ Binds K fd ps []
theorem run_sub {A1 : Around} {f : Addr} {fd : FuncData} {ps : List Str} {sp : Sp} {pins : List (Addr × Obj)} {σ : L2.St} {H : Hp} {s : Shared} {Q : VK} {us : List Value} {vs : List V} (sb : Sub X n A1) (G : FnOk X.prog X.w X.K X.mg X.base CX0 n f fd ps sp) (hb : Binds X.K fd ps [])
    (I : L2.Inv X pins σ H s) (r : Vals vs us) (h : sp vs H Q E0) : wpAny (model X.prog X.w) A1 (call (.ref f) us) (EP X pins σ Q) X.xe s := by
  have e0 : Env0 X.prog X.w X.K X.mg X.base A1 X.stack s H := by
    have e := I.env0
    exact ⟨by rw [sb.fr]; exact e.frames, e.mod, e.bs, e.bsz, e.funs, e.frf, e.hok, e.bare⟩
  have hl := G.len _ _ _ _ h
  refine wpAny_call (codeAny_mono (G.run A1 X.stack s H ⟨us, []⟩ us vs Q E0 sb.room e0 (by
    have := hb s us I.kIn (by simpa using (r.length.symm.trans hl))
    simpa using this) r h) fun q s' hq => ?_)
  cases q with
  | error e => exact (show False from hq).elim
  | ok fl =>
    cases fl with
    | ret u => exact I.after hq
    | next => exact False.elim hq
    | brk => exact False.elim hq
    | cont => exact False.elim hq
/-- len(o) of an own class -/
def fLenO (c : Str) (F : FF) (fa : FE) : FE := fun env M => (fa env M).bind fun p => (asI p.2 p.1.fz).bind fun q => if q.1 = c then (fNa 1 F [p.1.fz] p.2).bind fun t => match t.1 with
    | .v (.int n) => if 0 ≤ n ∧ n < 2 ^ 63 then some (.v (.int n), t.2) else none
    | _ => none
  else none
theorem lenO_r {c : Str} (G : MeF X.prog X.w X.K X.mg X.base k c "__len__" F) (hr : Room j X.A) (hk : k + 1 ≤ j) : CallR X (.builtin "len") (fun vs H Q => ∃ w M d q t n, w.H = H ∧ Rl X.K X.mg w M ∧ RDs X.K X.mg w vs [d] ∧ asI M d = some (c, q) ∧ F [d] M = some (.v (.int n), t) ∧ (0 ≤ n ∧ n < 2 ^ 63) ∧ ∀ w', Le w w' → Rl X.K X.mg w' t → Q (.int n) w'.H) := by
  intro pins s σ H vs us Q I rv h
  obtain ⟨w, M, d, q, t, n, rfl, rl, rd, hi, hF, hn, kk⟩ := h
  obtain ⟨v, rfl, rv1⟩ := rd.one
  obtain ⟨a, C, dx, fs, rfl, hC, hH, _, _⟩ := rl.asI rv1 hi
  obtain ⟨u, rfl, ru⟩ := vals1 rv
  cases ru
  obtain ⟨f, fd, ps, FO, hs, hf, hb⟩ := G.ex C hC
  obtain ⟨mA, J, _⟩ := ins_get I.hok hH
  obtain ⟨od, J, _⟩ := J.look
  obtain ⟨m, hFr⟩ := I.fr
  refine PySem.W.len_K hFr I.ok.mod.kin J hs hf ?_
  have sb : Sub X k X.A.in1 := (show Sub X (k + 1) X.A from ⟨hr.mono hk, rfl⟩).in1
  refine wpAny_mono (run_sub sb FO hb I (vs := [.ref a]) (.cons rfl .nil) (Q := fun v H' => v = .int n ∧ ∃ w', w'.H = H' ∧ Le w w' ∧ Rl X.K X.mg w' t) ⟨w, M, [d], _, _, rfl, rl, rd, rfl, hF, fun v w' l' rl' rr' => ⟨rr'.d.int, w', rfl, l', rl'⟩⟩) (fun r s' hq => ?_) fun _ _ x => x
  obtain ⟨v, H', I', rv', ev, w', rfl, l', rl'⟩ := hq
  subst ev
  obtain ⟨tk, rfl⟩ := rv'
  exact ⟨hn, .int n, w'.H, I'.tok _, ⟨_, rfl⟩, kk w' l' rl'⟩
theorem sLenO {c : Str} (G : MeF X.prog X.w X.K X.mg X.base k c "__len__" F) (hr : Room j X.A) (hg : Gl X "len") (hm : X.mg "len" = none) (ha : SE X a fa) (hk : k + 1 ≤ j := by decide)
    (he : starEach [a] X.env = (false, eval a X.env) :: starEach [] X.env := by rfl) (hpl : (backTo pos (starEach [] X.env)).any (·.1) = false := by rfl) : SE X (.Call (.Name "len" p) [a] [] pos) (fLenO c F fa) :=
  (pe_callB (lenO_r G hr hk) hg hm (by decide +kernel) (pa_cons ha pa_nil he) (by decide) (by decide) he hpl).imp fun σ H Q ⟨w, env, M, r, M', e, rl, re, hf, kk⟩ => by
    unfold fLenO at hf
    obtain ⟨q, hq, hf1⟩ := Option.bind_eq_some_iff.mp hf
    obtain ⟨⟨c', fs⟩, hi, hf2⟩ := Option.bind_eq_some_iff.mp hf1
    clear hf hf1
    split at hf2
    · rename_i hc
      dsimp only at hc
      subst hc
      obtain ⟨⟨r2, M2⟩, hF, hf⟩ := Option.bind_eq_some_iff.mp hf2
      unfold fNa at hF
      rw [if_pos (show [q.fst.fz].length = 1 from rfl)] at hF
      split at hf
      · rename_i n hn
        split at hf
        · rename_i hb
          cases hf
          dsimp only at hn
          subst hn
          refine tI.mk e rl re hq fun v w1 l1 rl1 rr1 => ?_
          obtain ⟨w1', l1', e1, b1, rl1', rd1, _⟩ := rr1.fz rl1 l1
          rw [← e1]
          exact ⟨w1', _, _, _, _, n, rfl, rl1', .cons rd1 .nil, hi, hF, hb, fun w2 l2 rl2 => kk _ w2 (l1'.trans l2) rl2 (.of .mkInt)⟩
        · cases hf
      · cases hf
    · cases hf2
/-- str(o) of an own class -/
def fStrO (c : Str) (F : FF) (fa : FE) : FE := fun env M => (fa env M).bind fun p => (asI p.2 p.1.fz).bind fun q => if q.1 = c then (fNa 1 F [p.1.fz] p.2).bind fun t => match t.1 with
    | .v (.str n) => some (.v (.str n), t.2)
    | _ => none
  else none
theorem strO_r {c : Str} (G : MeF X.prog X.w X.K X.mg X.base k c "__str__" F) (hr : Room j X.A) (hk : k + 2 ≤ j) : CallR X (.type "str") (fun vs H Q => ∃ w M d q t n, w.H = H ∧ Rl X.K X.mg w M ∧ RDs X.K X.mg w vs [d] ∧ asI M d = some (c, q) ∧ F [d] M = some (.v (.str n), t) ∧ ∀ w', Le w w' → Rl X.K X.mg w' t → Q (.str n) w'.H) := by
  intro pins s σ H vs us Q I rv h
  obtain ⟨w, M, d, q, t, n, rfl, rl, rd, hi, hF, kk⟩ := h
  obtain ⟨v, rfl, rv1⟩ := rd.one
  obtain ⟨a, C, dx, fs, rfl, hC, hH, _, _⟩ := rl.asI rv1 hi
  obtain ⟨u, rfl, ru⟩ := vals1 rv
  cases ru
  obtain ⟨f, fd, ps, FO, hs, hf, hb⟩ := G.ex C hC
  obtain ⟨mA, J, _⟩ := ins_get I.hok hH
  obtain ⟨od, J, _⟩ := J.look
  have sb : Sub X k X.A.in1.in1 := (show Sub X (k + 1 + 1) X.A from ⟨hr.mono hk, rfl⟩).in1.in1
  refine PySem.W.kso_call sb.room.units0 I.kIn J hs hf ?_
  refine wpAny_mono (run_sub sb FO hb I (vs := [.ref a]) (.cons rfl .nil) (Q := fun v H' => v = .str n ∧ ∃ w', w'.H = H' ∧ Le w w' ∧ Rl X.K X.mg w' t) ⟨w, M, [d], _, _, rfl, rl, rd, rfl, hF, fun v w' l' rl' rr' => ⟨rr'.d.str, w', rfl, l', rl'⟩⟩) (fun r s' hq => ?_) fun _ _ x => x
  obtain ⟨v, H', I', rv', ev, w', rfl, l', rl'⟩ := hq
  subst ev
  obtain ⟨tk, rfl⟩ := rv'
  exact ⟨.str n, w'.H, I', ⟨_, rfl⟩, kk w' l' rl'⟩
theorem sStrO {c : Str} (G : MeF X.prog X.w X.K X.mg X.base k c "__str__" F) (hr : Room j X.A) (hg : Gl X "str") (hm : X.mg "str" = none) (ha : SE X a fa) (hk : k + 2 ≤ j := by decide)
    (he : starEach [a] X.env = (false, eval a X.env) :: starEach [] X.env := by rfl) (hpl : (backTo pos (starEach [] X.env)).any (·.1) = false := by rfl) : SE X (.Call (.Name "str" p) [a] [] pos) (fStrO c F fa) :=
  (pe_callTy (strO_r G hr hk) hg hm (by decide +kernel) (pa_cons ha pa_nil he) (by decide) (by decide) he hpl).imp fun σ H Q ⟨w, env, M, r, M', e, rl, re, hf, kk⟩ => by
    unfold fStrO at hf
    obtain ⟨q, hq, hf1⟩ := Option.bind_eq_some_iff.mp hf
    obtain ⟨⟨c', fs⟩, hi, hf2⟩ := Option.bind_eq_some_iff.mp hf1
    clear hf hf1
    split at hf2
    · rename_i hc
      dsimp only at hc
      subst hc
      obtain ⟨⟨r2, M2⟩, hF, hf⟩ := Option.bind_eq_some_iff.mp hf2
      unfold fNa at hF
      rw [if_pos (show [q.fst.fz].length = 1 from rfl)] at hF
      split at hf
      · rename_i n hn
        cases hf
        dsimp only at hn
        subst hn
        refine tI.mk e rl re hq fun v w1 l1 rl1 rr1 => ?_
        obtain ⟨w1', l1', e1, b1, rl1', rd1, _⟩ := rr1.fz rl1 l1
        rw [← e1]
        exact ⟨w1', _, _, _, _, n, rfl, rl1', .cons rd1 .nil, hi, hF, fun w2 l2 rl2 => kk _ w2 (l1'.trans l2) rl2 (.of .mkStr)⟩
      · cases hf
    · cases hf2
/-! ### made -/
structure Mkr (P : Program) (w : World) (K : PySem.W.Frag) (mg : Str → Option Value) (base : Heap) (k : Nat) (c : Str) (n : Nat) (F : FF) (dds : List D) : Prop where
  ex : ∃ (C f : Addr) (fd : FuncData) (ps : List Str) (ds : List Value) (dvs : List V), Mk K C f ∧ FnOk P w K mg base CX0 k f fd ps (spF K mg n F) ∧ mg c = some (.ref C) ∧ Binds K fd ps ds ∧ Vals dvs ds ∧ ∀ w, RDs K mg w dvs dds
noncomputable def fMk (c : Str) (n : Nat) (F : FF) (dds : List D) (fr : FA) : FE := fun env M => (fr env M).bind fun p => (fNa n F (.ref p.2.length :: (p.1 ++ dds)) (p.2 ++ [.ins c []])).bind fun t => match t.1 with
  | .v .non => trunc p.2 (.v (.ref p.2.length), t.2)
  | _ => none
theorem sMk {c : Str} {dds : List D} (G : Mkr X.prog X.w X.K X.mg X.base k c n F dds) (hr : Room j X.A) (hg : Gl X c) (ha : SA X (e :: es) fr) (hk : k + 1 ≤ j := by decide) (hdb : (c == ("__debug__" : Str)) = false := by decide)
    (he : starEach (e :: es) X.env = (false, eval e X.env) :: starEach es X.env := by rfl) (hpl : (backTo pos (starEach es X.env)).any (·.1) = false := by rfl) : SE X (.Call (.Name c p) (e :: es) [] pos) (fMk c n F dds fr) := by
  obtain ⟨C, f, fd, ps, ds, dvs, M0, FO, hm, hb, hd, hdd⟩ := G.ex
  refine (pe_make M0 FO (hr.mono hk) hg hm hb hd pass0 ha hdb he hpl).imp fun σ H Q ⟨w, env, M, r, M', e, rl, re, hf, kk⟩ => ?_
  unfold fMk at hf
  obtain ⟨p1, hp, hf⟩ := Option.bind_eq_some_iff.mp hf
  obtain ⟨t, ht, hf⟩ := Option.bind_eq_some_iff.mp hf
  unfold fNa at ht
  split at ht
  · rename_i hlen
    split at hf
    · rename_i hnon
      refine tIA.mk e rl re hp fun vs w1 l1 rl1 rd1 x dx hx hdx hne => ?_
      let w2 := (w1.lay dx (.own x)).lay x (.ins C dx [])
      have hx2 : (w1.lay dx (.own x)).H x = none := by show upd w1.H dx _ x = none; rw [upd_ne (Ne.symm hne)]; exact hx
      have l2 : Le w1 w2 := (Le.lay hdx).trans (Le.lay hx2)
      have rl2 : Rl X.K X.mg w2 p1.2 := (rl1.lay hdx).lay hx2
      have hg2 : ¬ w2.G x := rl1.newg hx
      have hb2 : x ∉ w2.β := rl1.newb hx
      have ro : RO X.K X.mg w2 x (.ins c []) := ⟨[], ⟨C, dx, [], hm, Wo.lay_at, rfl, rfl⟩, .nil⟩
      obtain ⟨rl3, P⟩ := rl2.adopt ro hg2 hb2
      have l3 : Le w1 (w2.adopt x) := l2.adopt hx
      have rds : RDs X.K X.mg (w2.adopt x) (.ref x :: (vs ++ dvs)) (.ref p1.2.length :: (p1.1 ++ dds)) := by
        refine .cons ?_ ((rl1.rds l3.toLe0 rd1).app (hdd _))
        simp only [RD]
        refine ⟨x, rfl, ?_⟩
        show (w2.β ++ [x])[p1.2.length]? = some x
        rw [← rl2.len]
        simp
      refine ⟨w2.adopt x, _, _, t.1, t.2, rfl, rl3, rds, hlen, ht, fun v w4 l4 rl4 rr4 => ?_⟩
      rw [hnon] at rr4
      refine ⟨rr4.d.non, ?_⟩
      have l14 := l3.trans l4
      have rx : RR X.K X.mg w1 w4 (.ref x) (.v (.ref p1.2.length)) := by
        have := rl3.rd l4.toLe0 rds.head
        exact this
      obtain ⟨w5, e5, l5, rl5, rr5⟩ := trunc_ok (p := (.v (.ref p1.2.length), t.2)) rl1 l14 rl4 rx hf
      rw [← e5]
      exact kk _ w5 (l1.trans l5) rl5 (rr5.bk l1 l5)
    · cases hf
  · cases ht
/-! ### a field stored -/
def putD (f : Str) (d : D) : List (Str × D) → List (Str × D)
  | [] => [(f, d)]
  | (g, x) :: r => if g = f then (g, d) :: r else (g, x) :: putD f d r
theorem putD_ok {K : PySem.W.Frag} {mg : Str → Option Value} {w : Wo} {f : Str} {v : V} {d : D} (hv : RD K mg w v d) : ∀ {fs : List (Str × V)} {gs : List (Str × D)}, fs.map (·.1) = gs.map (·.1) → RDs K mg w (fs.map (·.2)) (gs.map (·.2)) →
    (putF f v fs).map (·.1) = (putD f d gs).map (·.1) ∧ RDs K mg w ((putF f v fs).map (·.2)) ((putD f d gs).map (·.2))
  | [], [], _, _ => ⟨rfl, .cons hv .nil⟩
  | [], _ :: _, h, _ => by simp at h
  | _ :: _, [], h, _ => by simp at h
  | (x, y) :: fs, (z, u) :: gs, h, q => by
    simp only [List.map_cons, List.cons.injEq] at h
    obtain ⟨rfl, h⟩ := h
    unfold putF putD
    by_cases e : x = f
    · rw [if_pos e, if_pos e]
      exact ⟨by simp [h], .cons hv q.tail⟩
    · rw [if_neg e, if_neg e]
      obtain ⟨i1, i2⟩ := putD_ok hv h q.tail
      exact ⟨by simp [i1], .cons q.head i2⟩
def fFld (c f : Str) (fo fv : FE) : FS := fun env M => (fv env M).bind fun p => (fo env (p.1.al p.2).2).bind fun q => match q.1 with
  | .v (.ref n) => (match q.2[n]? with
    | some (.ins c' fs) => if c' = c ∧ fs.length < 1000 then some (.nx, env, q.2.set n (.ins c (putD f (p.1.al p.2).1 fs))) else none
    | _ => none)
  | _ => none
theorem ssFld {c f : Str} (hc : ClF X c f) (ho : SE X o fo) (hv : SE X a fa) (hs : swapsWith a (some (.Attribute o f pos')) pos.line X.env = pure false := by rfl) : SS X (.Assign [.Attribute o f pos'] a pos) (fFld c f fo fa) := PS.imp (ps_fld ho hv hs) fun D σ H h => by
  obtain ⟨w, env, M, fl, env', M', e, rl, re, hf, k⟩ := h.out
  unfold fFld at hf
  obtain ⟨p1, hp, hf⟩ := Option.bind_eq_some_iff.mp hf
  obtain ⟨q1, hq, hf⟩ := Option.bind_eq_some_iff.mp hf
  split at hf
  · rename_i n hn
    split at hf
    · rename_i c' fs hM
      split at hf
      · rename_i hcl
        obtain ⟨rfl, hcl⟩ := hcl
        cases hf
        refine tI.mk e rl re hp fun v w1 l1 rl1 rr1 => ?_
        obtain ⟨w1', l1', e1, rl1', rd1, P⟩ := rr1.al rl1 l1
        rw [← e1]
        have re1 := (rl.re l1 re).imp P
        refine tI.mk rfl rl1' re1 hq fun x w2 l2 rl2 rr2 => ?_
        rw [hn] at rr2
        have rx := rr2.d
        simp only [RD] at rx
        obtain ⟨a', rfl, hb⟩ := rx
        obtain ⟨us, ⟨C, dx, gs, h1, h2, h3, h4⟩, h5⟩ := rl2.ob n a' _ hb hM
        obtain ⟨g1, g2⟩ := hc.ok C h1
        have hnt : ∀ vs, w2.H a' ≠ some (.tup vs) := fun vs => by rw [h2]; simp
        have hlen : gs.length = fs.length := by have := congrArg List.length h3; simpa using this.symm
        refine ⟨a', C, dx, gs, rfl, h2, g1, g2, by rw [hlen]; exact hcl, ?_⟩
        subst h4
        have l0 : Le0 w2 (w2.lay a' (.ins C dx (putF f v gs))) := Le0.put hb hnt
        obtain ⟨i1, i2⟩ := putD_ok (f := f) (rl2.rd l0 (rl1'.rd l2.toLe0 rd1)) h3.symm (rl2.rds l0 h5)
        have rl3 := rl2.put (u := .ins C dx (putF f v gs)) (o' := .ins c' (putD f (p1.1.al p1.2).1 fs)) hb ⟨_, hM⟩ hnt ⟨_, ⟨C, dx, _, h1, Wo.lay_at, i1.symm, rfl⟩, i2⟩
        exact k σ _ ((l1'.trans l2).trans (Le.put hb hnt fun _ _ => by rw [h2]; simp)) rl3 (rl2.re l0 (rl1'.re l2.toLe0 re1))
      · cases hf
    · cases hf
  · cases hf
end
end Fl
set_option Elab.async false
set_option linter.all false
set_option maxRecDepth 100000
/-! Fl13: sorted(..), sorted(set(..)): rows of ints. -/
namespace Fl
open PySem PySem.Spec PyProof.Rows L2 Sg
/-! ### the set as an object of the abstract heap -/
structure S0 (P : Program) (w : World) (h : Heap) (a : Addr) (L : List (Addr × List Int)) : Prop where
  ex : ∃ (es : Array (Int × Value)) (ep : Nat) (t : SetTable), (∃ o, h.get? a = some o ∧ o.ExactSet ∧ o.data = .set es ep t) ∧ es.toList = rowsOf P w L ∧ Tb t (L.map fun p => thash P w p.2) ∧ (L.map (·.2)).Nodup ∧ t.plain = true ∧
    (w.params.followText "set-order" = true ∨ t.led = true) ∧ L.length * 5 < t.mask * 3 ∧ t.mask ≤ 8191 ∧ L.length ≤ 1400
def SetO (P : Program) (w : World) (a : Addr) (L : List (Addr × List Int)) : HO := .ext fun h => S0 P w h a L
theorem setO_new {P : Program} {w : World} {H : Hp} {h : Heap} {a : Addr} {L : List (Addr × List Int)} {es : Array (Int × Value)} {ep : Nat} {t : SetTable} (R : St P w h a L es ep t) (few : L.length ≤ 1400) : ObjOk P w H h a (SetO P w a L) := by
  have ⟨o, ho, r⟩ := R.ob
  refine ⟨⟨es, ep, t, ⟨o, ho, r⟩, R.rows, R.tab, R.nd, R.plain, R.led, R.room, R.big, few⟩, ⟨o, ho⟩, fun h1 h2 p k => ?_⟩
  have ⟨es', ep', t', ⟨o', ho', r'⟩, q'⟩ := S0.ex p
  exact ⟨es', ep', t', ⟨o', k o' ho', r'⟩, q'⟩
/-- the rows lie in the heap -/
def Rws (H : Hp) (bs : List (Addr × List Int)) : Prop := ∀ p ∈ bs, H p.1 = some (.tup (p.2.map V.int))
def kI (ks : List Key) : List Int := ks.filterMap fun | .inl i => some i | .inr _ => none
theorem kI_map : ∀ k : List Int, kI (k.map Sum.inl) = k
  | [] => rfl
  | x :: k => by
    have := kI_map k
    unfold kI at this ⊢
    rw [List.map_cons, List.filterMap_cons]
    dsimp only
    rw [this]
theorem kV_map (k : List Int) : (k.map Sum.inl : List Key).map kV = k.map V.int := by
  rw [List.map_map]; rfl
theorem kt_rows {H : Hp} : ∀ {kvs : List (List Key × V)} {xs : List (List Key × Addr × Value)} {kis : List (List Int)}, KT H kvs xs → kvs.map (·.1) = kis.map (·.map Sum.inl) →
    (xs.map fun x => kI x.1) = kis ∧ ∀ x ∈ xs, H x.2.1 = some (.tup ((kI x.1).map V.int)) ∧ x.1 = (kI x.1).map Sum.inl
  | [], [], [], _, _ => ⟨rfl, fun _ h => nomatch h⟩
  | [], [], _ :: _, _, e => by simp at e
  | _ :: _, _ :: _, [], _, e => by simp at e
  | p :: kvs, x :: xs, k :: kis, .cons h t, e => by
    rw [List.map_cons, List.map_cons] at e
    obtain ⟨e1, e2⟩ := List.cons.inj e
    obtain ⟨g1, g2⟩ := kt_rows t e2
    have ex : x.1 = k.map Sum.inl := by rw [← h.1]; exact e1
    have ek : kI x.1 = k := by rw [ex, kI_map]
    refine ⟨by rw [List.map_cons, g1, ek], fun y hy => ?_⟩
    rcases List.mem_cons.mp hy with rfl | hy
    · refine ⟨?_, by rw [ek]; exact ex⟩
      have := h.2.1
      rw [e1, kV_map] at this
      rw [ek]; exact this
    · exact g2 y hy
theorem refs_rfs : ∀ {ks : List (Addr × List Int)} {us : List Value}, Vals (ks.map fun p => V.ref p.1) us → us = rfs ks
  | [], _, .nil => rfl
  | p :: ks, _, .cons r t => by cases r; rw [refs_rfs t]; rfl
theorem rfs_refs : ∀ ks : List (Addr × List Int), Vals (ks.map fun p => V.ref p.1) (rfs ks)
  | [] => .nil
  | _ :: ks => .cons rfl (rfs_refs ks)
section
variable {X : Cx}
theorem Rws.isT {pins : List (Addr × Obj)} {σ : L2.St} {H : Hp} {s : Shared} {bs : List (Addr × List Int)} (I : L2.Inv X pins σ H s) (h : Rws H bs) : ∀ p ∈ bs, IsT X.prog X.w s.heap p.2 p.1 := fun p hp => I.isT (.inl (.inl (h p hp)))
/-- a row of tuples, a dict's keys -/
def SrcR (K : PySem.W.Frag) (H : Hp) (d : Addr) (kis : List (List Int)) : Prop := (∃ bs : List (Addr × List Int), SqL K H d (bs.map fun p => V.ref p.1) ∧ Rws H bs ∧ bs.map (·.2) = kis) ∨ (∃ kvs : List (List Key × V), Rd H d (.dT kvs) ∧ kvs.map (·.1) = kis.map (·.map Sum.inl))
def rSet (K : PySem.W.Frag) (P : Program) (w : World) : List V → Hp → VK → Prop := fun xs H Q => ∃ (d : Addr) (kis : List (List Int)), xs = [V.ref d] ∧ SrcR K H d kis ∧ kis.length ≤ 1400 ∧
  ∀ a L, H a = none → Rws H L → (L.map (·.2)).Nodup → (∀ k, k ∈ L.map (·.2) ↔ k ∈ kis) → Q (.ref a) (upd H a (SetO P w a L))
theorem got_iff {ks L : List (Addr × List Int)} (g : Got ks ks.length L) (k : List Int) : k ∈ L.map (·.2) ↔ k ∈ ks.map (·.2) := by
  constructor
  · intro h
    obtain ⟨p, hp, rfl⟩ := List.mem_map.mp h
    exact List.mem_map.mpr ⟨p, List.mem_of_mem_take (g.sub p hp), rfl⟩
  · intro h
    obtain ⟨p, hp, rfl⟩ := List.mem_map.mp h
    exact g.all p (by rw [List.take_length]; exact hp)
theorem cr_set (hc : X.calm = true) (hu : X.A.units + 4 < cLine) : CallR X (.type "set") (rSet X.K X.prog X.w) := by
  intro pins s σ H xs us Q I r h
  obtain ⟨d, kis, rfl, hd, hf, q⟩ := h
  rw [Vals.ref1 r]
  have hn : H s.heap.objs.size = none := I.hok.fresh (Nat.le_refl _)
  rcases hd with ⟨bs, hl, hk, rfl⟩ | ⟨kvs, hd, hk⟩
  · obtain ⟨its, rv, pl, hz⟩ := I.list hl
    rw [List.length_map] at hf
    refine Sg.set_list (P := X.prog) (w := X.w) bs (I.ok.hd hc) hu pl.isList (by simpa using refs_rfs rv) (hk.isT I) hf fun h' tk L es ep t R g k => ?_
    refine ⟨.ref s.heap.objs.size, _, I.laid (t' := tk) k (Nat.le_refl _) (setO_new R (Nat.le_trans g.len (by omega))), rfl, q _ L hn (fun p hp => ?_) R.nd (got_iff g)⟩
    exact hk p (List.mem_of_mem_take (g.sub p hp))
  · obtain ⟨z, hs, xs, pr, o, es, ep, ho, hx, hdt, he, hnd⟩ := (show ObjOk X.prog X.w H s.heap d (.dT kvs) from hd.ok I.hok)
    obtain ⟨g1, g2⟩ := kt_rows pr hk
    let ks : List (Addr × List Int) := xs.map fun x => (x.2.1, kI x.1)
    have hks : ks.map (·.2) = kis := by rw [← g1, List.map_map]; rfl
    have hrw : Rws H ks := fun p hp => by
      obtain ⟨x, hx, rfl⟩ := List.mem_map.mp hp
      exact (g2 x hx).1
    have hln : ks.length ≤ 1400 := by rw [← hks, List.length_map] at hf; exact hf
    refine Sg.set_dict (P := X.prog) (w := X.w) ks hu hs ho hx hdt (fun i p e => ?_) (by rw [size_of_entries he]; simp [ks]) (hrw.isT I) hln fun h' L es' ep' t R g k => ?_
    · have qe := entry_at he i
      rw [List.getElem?_map] at e
      obtain ⟨x, ex, rfl⟩ := Option.map_eq_some_iff.mp e
      rw [ex] at qe
      refine ⟨x.2.2, qe.trans ?_⟩
      have hk2 := (g2 x (List.mem_of_getElem? ex)).2
      show some (entryOfKey (tupleKind (mixKind X.prog X.w)) x) = _
      unfold entryOfKey
      have : (tupleKind (mixKind X.prog X.w)).hash x.1 = thash X.prog X.w (kI x.1) := by
        rw [← Sg.hash_eq (P := X.prog) (w := X.w) (kI x.1), ← hk2]
        rfl
      rw [this]
    · refine ⟨.ref s.heap.objs.size, _, I.laid (t' := s.toks) k (Nat.le_refl _) (setO_new R (Nat.le_trans g.len (by omega))), rfl, q _ L hn (fun p hp => ?_) R.nd (fun k => by rw [← hks]; exact got_iff g k)⟩
      exact hrw p (List.mem_of_mem_take (g.sub p hp))
end
end Fl
set_option Elab.async false
set_option linter.all false
set_option maxRecDepth 100000
/-! Fl14: sorted(..) of rows of ints, by values. -/
namespace Fl
open PySem PySem.Spec PyProof.Rows L2 Sg
section
variable {X : Cx}
/-- what sorted can walk -/
def SrcS (K : PySem.W.Frag) (P : Program) (w : World) (H : Hp) (d : Addr) (kis : List (List Int)) : Prop := SrcR K H d kis ∨ ∃ L, H d = some (SetO P w d L) ∧ Rws H L ∧ L.map (·.2) = kis
def rSort (K : PySem.W.Frag) (P : Program) (w : World) : List V → Hp → VK → Prop := fun xs H Q => ∃ (d : Addr) (kis : List (List Int)), xs = [V.ref d] ∧ SrcS K P w H d kis ∧ (∀ k ∈ kis, k ≠ []) ∧
  ∀ p L, H p = none → Rws H L → L.map (·.2) = sortR kis → Q (.ref p) (upd H p (.lst (L.map fun q => V.ref q.1)))
theorem cr_sorted (hc : X.calm = true) (hu : X.A.units + 6 < cLine) : CallR X (.builtin "sorted") (rSort X.K X.prog X.w) := by
  intro pins s σ H xs us Q I r h
  obtain ⟨d, kis, rfl, hd, hne, q⟩ := h
  rw [Vals.ref1 r]
  -- the end, wherever the rows come from
  have fin : ∀ bs : List (Addr × List Int), Rws H bs → bs.map (·.2) = kis → bs.length ≤ sizeLine →
      (∀ R : List Value → Shared → Prop, (∀ vs s', (∀ b o, s.heap.get? b = some o → s'.heap.get? b = some o) → s'.gens = s.gens → s'.os = s.os → vs.Perm (rfs bs) → R vs s') → wpAny (model X.prog X.w) X.A.in1 (collect (.ref d)) R X.xe s) →
      wpAny (model X.prog X.w) X.A (call (.builtin "sorted") [.ref d]) (EP X pins σ Q) X.xe s := by
    intro bs hb hm hl hcol
    refine Sg.sorted_coll (P := X.prog) (w := X.w) bs (args_sorted1 _) (hb.isT I) (fun p hp => hne _ (by rw [← hm]; exact List.mem_map.mpr ⟨p, hp, rfl⟩)) hl hu hcol fun s1 h' p ls c k g o k2 hp hg pm em => ?_
    rw [hm] at em
    have I1 : L2.Inv X pins σ H { s with heap := s1.heap, gens := s1.gens, drawn := s1.drawn, toks := s1.toks } :=
      I.call (ch := []) (Un.kept k) (I.hok.kept k) (by rw [g]; exact I.bare) (fun _ z => nomatch z)
    have e : s1 = { s with heap := s1.heap, gens := s1.gens, drawn := s1.drawn, toks := s1.toks } := by
      cases s1
      cases s
      cases o
      rfl
    rw [← e] at I1
    have hn : H p = none := I1.hok.fresh hp
    have hlen : (ls.map fun q => V.ref q.1).length ≤ sizeLine := by rw [List.length_map, pm.length_eq]; exact hl
    exact ⟨.ref p, _, I1.laid (o := .lst (ls.map fun q => V.ref q.1)) (t' := s1.toks) k2 hp ⟨hlen, rfs ls, c, rfs_refs ls, hg⟩, rfl, q p ls hn (fun x hx => hb x (pm.mem_iff.mp hx)) em⟩
  rcases hd with (⟨bs, hl, hk, hm⟩ | ⟨kvs, hd, hk⟩) | ⟨L, hS, hk, hm⟩
  · obtain ⟨its, rv, pl, hz⟩ := I.list hl
    have ei := refs_rfs rv
    subst ei
    rw [List.length_map] at hz
    refine fin bs hk hm hz fun R hR => ?_
    refine collect_list (A := X.A.in1) (by simpa using pl.isList) (hR _ _ (fun b o e => ?_) rfl rfl (List.Perm.refl _)) (by simpa using hz)
    show ((s.heap.push (seqObj "list" #[] 0)).update s.heap.objs.size (Obj.mapSeq (· ++ (rfs bs).toArray))).get? b = some o
    rw [Heap.get?_update_ne _ _ _ _ (Nat.ne_of_lt (Heap.lt_size e))]
    exact Heap.get?_push_of_some _ e
  · obtain ⟨z, hs, ks, pr, o, es, ep, ho, hx, hdt, he, hnd⟩ := (show ObjOk X.prog X.w H s.heap d (.dT kvs) from hd.ok I.hok)
    obtain ⟨g1, g2⟩ := kt_rows pr hk
    have l1 : es.size = ks.length := size_of_entries he
    have l2 : kvs.length = ks.length := Paired.length pr
    refine fin (ks.map fun x => (x.2.1, kI x.1)) (fun p hp => ?_) (by rw [← g1, List.map_map]; rfl) (by rw [List.length_map]; omega) fun R hR => ?_
    · obtain ⟨x, hx, rfl⟩ := List.mem_map.mp hp
      exact (g2 x hx).1
    refine PySem.W.kdu_collect (A := X.A.in1) (kdl_raw hs hx hdt) (I.ok.hd hc) ho (by omega) fun h' tk acc kp it => hR _ _ kp rfl rfl ?_
    have : acc.toList = rfs (ks.map fun x => (x.2.1, kI x.1)) := by
      apply List.ext_getElem?
      intro j
      unfold rfs
      rw [List.map_map, List.getElem?_map]
      cases hj : acc.toList[j]? with
      | none =>
        have h1 := List.getElem?_eq_none_iff.mp hj
        rw [Array.length_toList, it.1] at h1
        rw [List.getElem?_eq_none (by omega)]
        rfl
      | some v =>
        obtain ⟨en, hen, hv⟩ := it.2 j v (by rw [← Array.getElem?_toList]; exact hj)
        have qe := entry_at he j
        rw [hen] at qe
        cases hb : ks[j]? with
        | none => rw [hb] at qe; exact nomatch (show some en = none from qe)
        | some b =>
          rw [hb] at qe
          have e2 : en = entryOfKey (tupleKind (mixKind X.prog X.w)) b := Option.some.inj qe
          rw [hv, e2]
          rfl
    rw [this]
  · have R0 : S0 X.prog X.w s.heap d L := (I.hok d _ hS).1
    obtain ⟨es, ep, t, ⟨o, ho, hx, hdt⟩, e1, e2, e3, e4, e5, e6, e7, e8⟩ := R0.ex
    have R : St X.prog X.w s.heap d L es ep t := ⟨⟨o, ho, hx, hdt⟩, e1, e2, e3, hk.isT I, e4, e5, e6, e7⟩
    have hsz : es.size = L.length := rows_len e1
    have hfew : L.length < 4096 := by omega
    refine fin L hk hm (by rw [sizeLine_eq]; omega) fun R' hR => ?_
    refine collect_set (A := X.A.in1) (I.ok.hd hc) ⟨o, ho, hx.1, hdt⟩ R.fits (by show es.size < 4096; omega) R.tab.ris e5 fun s' out k z g o' pm => hR _ _ k g o' ?_
    have : es.toList.map (·.2) = rfs L := by
      rw [e1]
      unfold rowsOf rfs
      rw [List.map_map]
      rfl
    rw [← this]
    exact pm
end
/-! ### by values -/
section
variable {K : PySem.W.Frag} {mg : Str → Option Value} {w w0 : Wo} {M : Mem}
def rowD (k : List Int) : D := .tup (k.map D.int)
def rowsD : List D → Option (List (List Int))
  | [] => some []
  | .tup xs :: ds => (intsD xs).bind fun k => (rowsD ds).map (k :: ·)
  | _ => none
theorem rowsD_ok {H : Hp} : ∀ {vs : List V} {ds : List D} {ks : List (List Int)}, RDs K mg w vs ds → rowsD ds = some ks → ∃ bs : List (Addr × List Int), vs = bs.map (fun p => V.ref p.1) ∧ Rws w.H bs ∧ bs.map (·.2) = ks
  | [], [], _, _, e => by simp only [rowsD] at e; cases e; exact ⟨[], rfl, (fun _ h => nomatch h), rfl⟩
  | [], _ :: _, _, h, _ => by simp only [RDs] at h
  | _ :: _, [], _, h, _ => by simp only [RDs] at h
  | v :: vs, d :: ds, ks, h, e => by
    cases d with
    | tup xs =>
      simp only [rowsD] at e
      obtain ⟨k, hk, e⟩ := Option.bind_eq_some_iff.mp e
      obtain ⟨r, hr, rfl⟩ := Option.map_eq_some_iff.mp e
      obtain ⟨bs, e1, e2, e3⟩ := rowsD_ok (H := H) h.tail hr
      have hd := h.head
      simp only [RD] at hd
      obtain ⟨a, us, rfl, h1, h2⟩ := hd
      refine ⟨(a, k) :: bs, by rw [e1]; rfl, fun p hp => ?_, by rw [List.map_cons, e3]⟩
      rcases List.mem_cons.mp hp with rfl | hp
      · rw [← intsD_ok h2 hk]; exact h1
      · exact e2 p hp
    | _ => simp [rowsD] at e
theorem Rws.rds : ∀ {L : List (Addr × List Int)}, Rws w.H L → RDs K mg w (L.map fun q => V.ref q.1) ((L.map (·.2)).map rowD)
  | [], _ => .nil
  | p :: L, h => by
    refine .cons ?_ (Rws.rds fun q hq => h q (List.mem_cons_of_mem _ hq))
    show RD K mg w (V.ref p.1) (.tup (p.2.map D.int))
    simp only [RD]
    exact ⟨p.1, _, rfl, h p List.mem_cons_self, .ints⟩
def kIs : List (DK × D) → Option (List (List Int))
  | [] => some []
  | (.t k, _) :: r => if k = (kI k).map Sum.inl then (kIs r).map (kI k :: ·) else none
  | _ => none
theorem kIs_ok : ∀ {kvs : List (DK × D)} {kis : List (List Int)}, kIs kvs = some kis → kvs.map (·.1) = kis.map fun k => DK.t (k.map Sum.inl)
  | [], _, e => by simp only [kIs] at e; cases e; rfl
  | (.k _, _) :: _, _, e => by simp [kIs] at e
  | (.t k, _) :: r, kis, e => by
    simp only [kIs] at e
    split at e
    · rename_i hk
      obtain ⟨q, hq, rfl⟩ := Option.map_eq_some_iff.mp e
      rw [List.map_cons, List.map_cons, kIs_ok hq, ← hk]
    · cases e
theorem dk_keys : ∀ {kis : List (List Int)} {kv : List (List Key × V)}, (kis.map fun k => DK.t (k.map Sum.inl)) = kv.map (fun p => DK.t p.1) → kv.map (·.1) = kis.map (·.map Sum.inl)
  | [], [], _ => rfl
  | [], _ :: _, e => by simp at e
  | _ :: _, [], e => by simp at e
  | k :: kis, p :: kv, e => by
    rw [List.map_cons, List.map_cons] at e
    obtain ⟨e1, e2⟩ := List.cons.inj e
    rw [List.map_cons, List.map_cons, dk_keys e2, ← DK.t.inj e1]
/-- the rows in a list, the keys of a dict -/
def srcD (M : Mem) (d : D) : Option (List (List Int)) := match asL M d with
  | some xs => rowsD xs
  | none => (asD M d).bind fun p => if p.1 = true then kIs p.2 else none
theorem srcD_ok {v : V} {d : D} {kis : List (List Int)} (rl : Rl K mg w M) (h : RD K mg w v d) (e : srcD M d = some kis) : ∃ a, v = .ref a ∧ SrcR K w.H a kis := by
  unfold srcD at e
  split at e
  · rename_i xs hx
    obtain ⟨a, us, rfl, h1, h2⟩ := rl.asL h hx
    obtain ⟨bs, rfl, e2, e3⟩ := rowsD_ok (H := w.H) h2 e
    exact ⟨a, rfl, .inl ⟨bs, .of h1, e2, e3⟩⟩
  · obtain ⟨⟨t, kvs⟩, hp, e⟩ := Option.bind_eq_some_iff.mp e
    dsimp only at e
    split at e
    · rename_i ht
      subst ht
      obtain ⟨a, us, rfl, h1, h2⟩ := rl.asD h hp
      have hk := kIs_ok e
      dsimp only at h1
      rcases h1 with ⟨kv, g1, g2, g3⟩ | ⟨o, kv, g1, g2, g3⟩
      · refine ⟨a, rfl, .inr ⟨kv, .inl g1, ?_⟩⟩
        rw [hk] at g2
        exact dk_keys g2
      · refine ⟨a, rfl, .inr ⟨kv, .inr ⟨o, g1⟩, ?_⟩⟩
        rw [hk] at g2
        exact dk_keys g2
    · cases e
end
section
variable {X : Cx} {e : Expr} {fe : FE}
def okR (ks : List (List Int)) : Bool := ks.all fun k => !k.isEmpty
theorem okR_ne {ks : List (List Int)} (h : okR ks = true) : ∀ k ∈ ks, k ≠ [] := fun k hk e => by
  have := List.all_eq_true.mp h k hk
  rw [e] at this
  cases this
def gSorted : Mem → List D → Option R := fun M ds => match ds with
  | [d] => (srcD M d).bind fun ks => if okR ks then some (.n (.lst ((sortR ks).map rowD))) else none
  | _ => none
theorem cSorted (hc : X.calm = true) (hu : X.A.units + 6 < cLine) : CallS X (.builtin "sorted") gSorted := .of (cr_sorted hc hu) fun w0 w M vs ds r Q l rl rd hg k => by
  unfold gSorted at hg
  split at hg
  · obtain ⟨ks, hk, hg⟩ := Option.bind_eq_some_iff.mp hg
    split at hg
    · rename_i hok
      cases hg
      obtain ⟨v, rfl, rv⟩ := rd.one
      obtain ⟨a, rfl, hs⟩ := srcD_ok rl rv hk
      refine ⟨a, ks, rfl, .inl hs, okR_ne hok, fun p L hp hL em => ?_⟩
      rw [← em] at k
      exact k _ (w.lay p (.lst _)) (Le.lay hp) (rl.lay hp) (RR.lst rl l hp hL.rds)
    · cases hg
  · cases hg
/-- sorted(set(..)) -/
def fSS (fe : FE) : FE := fun env M => (fe env M).bind fun p => (srcD p.2 p.1.fz).bind fun ks => if okR ks ∧ ks.length ≤ 1400 then some (.n (.lst ((sortR (ddp ks)).map rowD)), p.2) else none
theorem sSS {p1 p2 q1 q2 : Pos} (hc : X.calm = true) (hu : X.A.units + 6 < cLine) (hg : Gl X "sorted") (hm : X.mg "sorted" = none) (hg2 : Gl X "set") (hm2 : X.mg "set" = none) (hb : bootBuiltins "sorted" = some (.builtin "sorted")) (hb2 : bootBuiltins "set" = some (.type "set")) (he : SE X e fe)
    (hs : starEach [e] X.env = (false, eval e X.env) :: starEach [] X.env := by rfl) (hpl : (backTo q2 (starEach [] X.env)).any (·.1) = false := by rfl)
    (hs1 : starEach [.Call (.Name "set" p2) [e] [] q2] X.env = (false, eval (.Call (.Name "set" p2) [e] [] q2) X.env) :: starEach [] X.env := by rfl) (hpl1 : (backTo q1 (starEach [] X.env)).any (·.1) = false := by rfl) :
    SE X (.Call (.Name "sorted" p1) [.Call (.Name "set" p2) [e] [] q2] [] q1) (fSS fe) := by
  have h1 : PE X (.Call (.Name "set" p2) [e] [] q2) _ := pe_callTy (cr_set hc (by omega)) hg2 hm2 hb2 (pa_cons he pa_nil hs) (by decide) (by decide) hs hpl
  refine (pe_callB (cr_sorted hc hu) hg hm hb (pa_cons h1 pa_nil hs1) (by decide) (by decide) hs1 hpl1).imp fun σ H Q ⟨w, env, M, r, M', e0, rl, re, hf, k⟩ => ?_
  unfold fSS at hf
  obtain ⟨p, hp, hf⟩ := Option.bind_eq_some_iff.mp hf
  obtain ⟨ks, hk, hf⟩ := Option.bind_eq_some_iff.mp hf
  split at hf
  · rename_i hok
    cases hf
    refine tI.mk e0 rl re hp fun v w1 l1 rl1 rr1 => ?_
    obtain ⟨w1', l1', e1, b1, rl1', rd1, _⟩ := rr1.fz rl1 l1
    obtain ⟨a, rfl, hs⟩ := srcD_ok rl1' rd1 hk
    rw [← e1]
    refine ⟨a, ks, rfl, hs, hok.2, fun S L hS hL nd hi => ?_⟩
    have hrw : Rws (upd w1'.H S (SetO X.prog X.w S L)) L := fun p hp => by rw [upd_ne (ne_of_none (hL p hp) hS)]; exact hL p hp
    refine ⟨S, L.map (·.2), rfl, .inr ⟨L, upd_same, hrw, rfl⟩, fun k hk => okR_ne hok.1 k ((hi k).mp hk), fun q L' hq hL' em => ?_⟩
    have hq0 : w1'.H q = none := by
      by_cases z : q = S
      · rw [z]; exact hS
      · rw [upd_ne z] at hq; exact hq
    rw [sortR_perm (ddp_perm nd hi)] at em
    rw [← em] at k
    have l2 := Le.lay (o := SetO X.prog X.w S L) hS
    have rl2 := rl1'.lay (o := SetO X.prog X.w S L) hS
    exact k _ ((w1'.lay S (SetO X.prog X.w S L)).lay q (.lst (L'.map fun q => V.ref q.1))) ((l1'.trans l2).trans (Le.lay hq)) (rl2.lay hq) (RR.lst rl2 (l1'.trans l2) hq (Rws.rds hL'))
  · cases hf
end
end Fl
set_option Elab.async false
set_option linter.all false
set_option maxRecDepth 100000
/-! Fl15: what a program prints with: statements never reached, defs whose memory is not cut, names' facts. -/
namespace Fl
open PySem PySem.Spec PyProof.Rows L2
section
variable {X : Cx}
/-- a statement that is never reached -/
def fNvr : FS := fun _ _ => none
theorem ssNvr {st : Stmt} : SS X st fNvr := ⟨fun pins s σ H D I h => by
  obtain ⟨w, env, M, fl, env', M', e, rl, re, hf, k⟩ := h.out
  cases hf⟩
end
section
variable {P : Program} {w : World} {K : PySem.W.Frag} {mg : Str → Option Value} {base : Heap} {k : Nat} {f : Addr} {fd : FuncData} {ps N : List Str} {x qual : Str} {st : Stmt}
theorem fl_fn0 (F : Fun K x qual st f fd) (S : FnScope N ps (defScope st)) {body : FS}
    (hb : ∀ (cdv : Value) (A : Around) (outer : List Env) (s : Shared) (H : Hp) (E : XK), Room k (A.deeper (envOfC qual (defScope st) s.heap.objs.size f cdv)) → SSs (cxOf CX0 P w K mg base N qual (defScope st) f cdv A outer s H E).nox (defBody st) body) :
    FnOk P w K mg base CX0 (k + 1) f fd ps (spF K mg ps.length (fFn N.length ps.length body)) := by
  refine F.ok S (fun vs H Q E h => ?_) (fun cdv A outer s H vs Q E hr h => ?_)
  · obtain ⟨w, M, ds, r, M', e, rl, rd, hn, _⟩ := h
    rw [rd.length, hn]
  · refine ⟨_, hb cdv A outer s H E hr, ?_⟩
    obtain ⟨w', M, ds, r, M', e, rl, rd, hn, hf, q⟩ := h
    unfold fFn at hf
    obtain ⟨⟨fl, env', M2⟩, hp, hf⟩ := Option.bind_eq_some_iff.mp hf
    have hl : vs.length = ps.length := by rw [rd.length, hn]
    have re : RE K mg w' (L2.start N vs) (ds.map some ++ List.replicate (N.length - ps.length) none) := by
      unfold L2.start
      rw [hl]
      exact RE.start rd _
    refine tIS.mk e rl re hp ?_
    cases fl with
    | nx => cases hf; exact fun σ' w2 l2 rl2 re2 => q .non w2 l2 rl2 (.of .mkNon)
    | rt r => cases hf; exact q
    | bk => cases hf
    | ct => cases hf
theorem Cl.of0 (D : Dn K mg x st ps) (S : FnScope N ps (defScope st)) {body : FS}
    (hb : ∀ (f : Addr) (cdv : Value) (A : Around) (outer : List Env) (s : Shared) (H : Hp) (E : XK), Room k (A.deeper (envOfC x (defScope st) s.heap.objs.size f cdv)) → SSs (cxOf CX0 P w K mg base N x (defScope st) f cdv A outer s H E).nox (defBody st) body) :
    Cl P w K mg base (k + 1) x ps.length (fFn N.length ps.length body) := by
  obtain ⟨f, fd, F, hm, b⟩ := D.ex
  exact ⟨f, fd, ps, fl_fn0 F S (hb f), hm, F.kp, b⟩
end
/-- a constant of the module -/
def Cn (mg : Str → Option Value) (x : Str) (v : V) : Prop := ∃ u, mg x = some u ∧ RelV v u
theorem sCn {X : Cx} {x : Str} {v : V} {d : D} {pos : Pos} (c : Cn X.mg x v) (hg : Gl X x) (hd : ∀ w, RD X.K X.mg w v d) (hdb : (x == ("__debug__" : Str)) = false := by decide) : SE X (.Name x pos) (fC d) := by
  obtain ⟨u, h1, h2⟩ := c
  exact sGl hg h1 h2 hd hdb
theorem bt_len : bootBuiltins "len" = some (.builtin "len") := by decide +kernel
theorem bt_all : bootBuiltins "all" = some (.builtin "all") := by decide +kernel
theorem bt_any : bootBuiltins "any" = some (.builtin "any") := by decide +kernel
theorem bt_sum : bootBuiltins "sum" = some (.builtin "sum") := by decide +kernel
theorem bt_min : bootBuiltins "min" = some (.builtin "min") := by decide +kernel
theorem bt_max : bootBuiltins "max" = some (.builtin "max") := by decide +kernel
theorem bt_sorted : bootBuiltins "sorted" = some (.builtin "sorted") := by decide +kernel
theorem bt_tuple : bootBuiltins "tuple" = some (.type "tuple") := by decide +kernel
theorem bt_list : bootBuiltins "list" = some (.type "list") := by decide +kernel
theorem bt_int : bootBuiltins "int" = some (.type "int") := by decide +kernel
theorem bt_str : bootBuiltins "str" = some (.type "str") := by decide +kernel
theorem bt_bool : bootBuiltins "bool" = some (.type "bool") := by decide +kernel
theorem bt_dict : bootBuiltins "dict" = some (.type "dict") := by decide +kernel
theorem bt_set : bootBuiltins "set" = some (.type "set") := by decide +kernel
end Fl
set_option Elab.async false
set_option linter.all false
set_option maxRecDepth 100000
/-! M1: reading the functions: loops, comprehensions, the memory cut, a tactic that steps. -/
namespace Fl
open PySem PySem.Spec PyProof.Rows L2 Sg
/-! ### data without refs -/
mutual
def pureD : D → Bool
  | .tup ds => pureDs ds
  | .ktp ds => pureDs ds
  | .lst ds => pureDs ds
  | .dic _ _ vs => pureDs vs
  | .ins _ _ vs => pureDs vs
  | .ref _ => false
  | .non => true
  | .bl _ => true
  | .int _ => true
  | .str _ => true
  | .scr _ => true
def pureDs : List D → Bool
  | [] => true
  | d :: ds => pureD d && pureDs ds
end
mutual
theorem pure_ok (k : Nat) : ∀ d : D, pureD d = true → okD k d = true
  | .tup ds, h => by simp only [pureD] at h; simp only [okD]; exact pures_ok k ds h
  | .ktp ds, h => by simp only [pureD] at h; simp only [okD]; exact pures_ok k ds h
  | .lst ds, h => by simp only [pureD] at h; simp only [okD]; exact pures_ok k ds h
  | .dic _ _ ds, h => by simp only [pureD] at h; simp only [okD]; exact pures_ok k ds h
  | .ins _ _ ds, h => by simp only [pureD] at h; simp only [okD]; exact pures_ok k ds h
  | .ref _, h => by simp [pureD] at h
  | .non, _ => by simp only [okD]
  | .bl _, _ => by simp only [okD]
  | .int _, _ => by simp only [okD]
  | .str _, _ => by simp only [okD]
  | .scr _, _ => by simp only [okD]
theorem pures_ok (k : Nat) : ∀ ds : List D, pureDs ds = true → okDs k ds = true
  | [], _ => by simp only [okDs]
  | d :: ds, h => by
    simp only [pureDs, Bool.and_eq_true] at h
    simp only [okDs, Bool.and_eq_true]
    exact ⟨pure_ok k d h.1, pures_ok k ds h.2⟩
end
theorem pures_iff {ds : List D} : pureDs ds = true ↔ ∀ d ∈ ds, pureD d = true := by
  induction ds with
  | nil => simp [pureDs]
  | cons d ds ih => simp [pureDs, ih]
/-! ### the cut -/
theorem tr_v {M E : Mem} {d : D} (h : pureD d = true) : trunc M (.v d, M ++ E) = some (.v d, M) := by
  unfold trunc
  rw [if_pos]
  · cases d with
    | ref n => simp [pureD] at h
    | _ => simp [pure_ok M.length _ h]
  · intro n o hn ho
    rw [List.getElem?_append_left hn] at ho
    exact .inl ho
theorem tr_n {M E : Mem} {o : O} (h : okO M.length o = true) : trunc M (.n o, M ++ E) = some (.n o, M) := by
  unfold trunc
  rw [if_pos]
  · simp [h]
  · intro n o hn ho
    rw [List.getElem?_append_left hn] at ho
    exact .inl ho
/-- a new object of the memory given back -/
theorem tr_ref {M E : Mem} {n : Nat} {o : O} (hn : M.length ≤ n) (ho : (M ++ E)[n]? = some o) (h : okO M.length o = true) : trunc M (.v (.ref n), M ++ E) = some (.n o, M) := by
  unfold trunc
  rw [if_pos]
  · simp only
    rw [if_neg (by omega), ho]
    simp [h]
  · intro n o hn ho
    rw [List.getElem?_append_left hn] at ho
    exact .inl ho
/-! ### comprehensions -/
open Classical in
theorem lc_filter {α : Type} {b : FB} {q : FT} {f : FE} {kp : Mem → Prop} {env : En} {M : Mem} {emb : α → D} {p : α → Bool} {g : α → D} (hk : kp M) (xs : List α)
    (h : ∀ x ∈ xs, ∃ env1, b (emb x) env = some env1 ∧ q env1 M = some (p x, M) ∧ (p x = true → ∃ r, f env1 M = some (r, M) ∧ r.fz = g x)) : fLcGo b q f kp env (xs.map emb) M = some ((xs.filter p).map g, M) := by
  induction xs with
  | nil => unfold fLcGo; simp [hk]
  | cons x xs ih =>
    obtain ⟨env1, h1, h2, h3⟩ := h x List.mem_cons_self
    have ih := ih fun y hy => h y (List.mem_cons_of_mem _ hy)
    rw [List.map_cons]
    unfold fLcGo
    rw [if_pos hk, h1]
    simp only [Option.bind_some, h2]
    cases hp : p x with
    | true =>
      obtain ⟨r, h4, h5⟩ := h3 hp
      simp only [h4, Option.bind_some, ih, Option.map_some, if_true, List.filter_cons, hp, List.map_cons, h5]
    | false => simp [ih, List.filter_cons, hp]
theorem lc_map {α : Type} {b : FB} {f : FE} {kp : Mem → Prop} {env : En} {M : Mem} {emb : α → D} {g : α → D} (hk : kp M) (xs : List α)
    (h : ∀ x ∈ xs, ∃ env1 r, b (emb x) env = some env1 ∧ f env1 M = some (r, M) ∧ r.fz = g x) : fLcGo b qYes f kp env (xs.map emb) M = some (xs.map g, M) := by
  have := lc_filter (p := fun _ => true) (q := qYes) (g := g) hk xs fun x hx => by
    obtain ⟨env1, r, h1, h2, h3⟩ := h x hx
    exact ⟨env1, h1, rfl, fun _ => ⟨r, h2, h3⟩⟩
  rw [List.filter_eq_self.mpr (fun _ _ => rfl)] at this
  exact this
/-! ### loops -/
open Classical in
/-- every turn goes on -/
theorem for_inv {α β : Type} {b : FB} {body : FS} {kp : Mem → Prop} {emb : α → D} {st : β → α → β} {I : β → En → Mem → Prop} (hk : ∀ s env M, I s env M → kp M) (xs : List α)
    (h : ∀ x ∈ xs, ∀ s env M, I s env M → ∃ env1 fl env2 M2, b (emb x) env = some env1 ∧ body env1 M = some (fl, env2, M2) ∧ (fl = .nx ∨ fl = .ct) ∧ I (st s x) env2 M2) :
    ∀ s env M, I s env M → ∃ env' M', fForGo b body kp (xs.map emb) env M = some (.nx, env', M') ∧ I (xs.foldl st s) env' M' := by
  induction xs with
  | nil =>
    intro s env M hI
    exact ⟨env, M, by rw [List.map_nil]; unfold fForGo; rw [if_pos (hk _ _ _ hI)], hI⟩
  | cons x xs ih =>
    intro s env M hI
    obtain ⟨env1, fl, env2, M2, h1, h2, h3, h4⟩ := h x List.mem_cons_self s env M hI
    obtain ⟨env', M', g1, g2⟩ := ih (fun y hy => h y (List.mem_cons_of_mem _ hy)) _ _ _ h4
    refine ⟨env', M', ?_, g2⟩
    rw [List.map_cons]
    unfold fForGo
    rw [if_pos (hk _ _ _ hI), h1]
    simp only [Option.bind_some, h2]
    rcases h3 with rfl | rfl
    · exact g1
    · exact g1
open Classical in
/-- the loop may end with a return: p x says that it does -/
theorem for_find {α : Type} {b : FB} {body : FS} {kp : Mem → Prop} {emb : α → D} {I : En → Mem → Prop} {p : α → Bool} {out : α → R → Mem → Prop} (hk : ∀ env M, I env M → kp M) (xs : List α)
    (h : ∀ x ∈ xs, ∀ env M, I env M → ∃ env1, b (emb x) env = some env1 ∧ if p x then ∃ r env2 M2, body env1 M = some (.rt r, env2, M2) ∧ out x r M2 else ∃ fl env2 M2, body env1 M = some (fl, env2, M2) ∧ (fl = .nx ∨ fl = .ct) ∧ I env2 M2) :
    ∀ env M, I env M → match xs.find? p with
      | some x => ∃ r env' M', fForGo b body kp (xs.map emb) env M = some (.rt r, env', M') ∧ out x r M'
      | none => ∃ env' M', fForGo b body kp (xs.map emb) env M = some (.nx, env', M') ∧ I env' M' := by
  induction xs with
  | nil =>
    intro env M hI
    exact ⟨env, M, by rw [List.map_nil]; unfold fForGo; rw [if_pos (hk _ _ hI)], hI⟩
  | cons x xs ih =>
    intro env M hI
    obtain ⟨env1, h1, h2⟩ := h x List.mem_cons_self env M hI
    rw [List.find?_cons]
    cases hp : p x with
    | true =>
      rw [if_pos hp] at h2
      obtain ⟨r, env2, M2, h3, h4⟩ := h2
      refine ⟨r, env2, M2, ?_, h4⟩
      rw [List.map_cons]
      unfold fForGo
      rw [if_pos (hk _ _ hI), h1]
      simp only [Option.bind_some, h3]
    | false =>
      rw [if_neg (by simp [hp])] at h2
      obtain ⟨fl, env2, M2, h3, h4, h5⟩ := h2
      have g := ih (fun y hy => h y (List.mem_cons_of_mem _ hy)) _ _ h5
      have e : fForGo b body kp ((x :: xs).map emb) env M = fForGo b body kp (xs.map emb) env2 M2 := by
        rw [List.map_cons]
        conv => lhs; unfold fForGo
        rw [if_pos (hk _ _ hI), h1]
        simp only [Option.bind_some, h3]
        rcases h4 with rfl | rfl <;> rfl
      rw [e]
      exact g
/-! ### to step -/
section
variable (env : En) (M : Mem) (fa fb fc : FE) (q q' : FT) (fr : FA) (f g : FS) (b : FB)
@[simp] theorem e_seq : fSeq f g env M = (f env M).bind fun p => match p.1 with
  | .nx => g p.2.1 p.2.2
  | _ => some p := rfl
@[simp] theorem e_asg : fAsg b fa env M = (fa env M).bind fun p => (b (p.1.al p.2).1 env).map fun env' => (.nx, env', (p.1.al p.2).2) := rfl
@[simp] theorem e_ret : fRet fa env M = (fa env M).map fun p => (.rt p.1, env, p.2) := rfl
@[simp] theorem e_ifS : fIfS q f g env M = (q env M).bind fun p => if p.1 then f env p.2 else g env p.2 := rfl
@[simp] theorem e_exp : fExp fa env M = (fa env M).map fun p => (.nx, env, p.2) := rfl
@[simp] theorem e_skip : fSkip env M = some (.nx, env, M) := rfl
@[simp] theorem e_par (i j : Nat) : fPar i j fr env M = (fr env M).bind fun p => match p.1 with
  | [d, d'] => some (.nx, (env.set i (some d)).set j (some d'), p.2)
  | _ => none := rfl
@[simp] theorem e_for (fi : FI) : fFor fi b f env M = (fi env M).bind fun p => fForGo b f p.1.2 p.1.1 env p.2 := rfl
@[simp] theorem e_lc (fi : FI) (vs : List Nat) : fLc fi b q fa vs env M = (fi env M).bind fun p => (fLcGo b q fa p.1.2 (wipeE env vs) p.1.1 p.2).bind fun t => if t.1.length ≤ sizeLine then some (.n (.lst t.1), t.2) else none := rfl
@[simp] theorem e_var (i : Nat) : fVar i env M = match env[i]? with
  | some (some d) => some (.v d, M)
  | _ => none := rfl
@[simp] theorem e_c (d : D) : fC d env M = some (.v d, M) := rfl
@[simp] theorem e_bin (g : Mem → D → D → Option R) : fBin g fa fb env M = (fa env M).bind fun p => (fb env p.2).bind fun q => (g q.2 p.1.fz q.1.fz).map fun r => (r, q.2) := rfl
@[simp] theorem e_cons : fCons fa fr env M = (fa env M).bind fun p => (fr env p.2).map fun q => (p.1.fz :: q.1, q.2) := rfl
@[simp] theorem e_consA : fConsA fa fr env M = (fa env M).bind fun p => (fr env (p.1.al p.2).2).map fun q => ((p.1.al p.2).1 :: q.1, q.2) := rfl
@[simp] theorem e_nil : fNil env M = some ([], M) := rfl
@[simp] theorem e_tup : fTup fr env M = (fr env M).bind fun p => if p.1.length ≤ 1000 then some (.v (.tup p.1), p.2) else none := rfl
@[simp] theorem e_lst : fLst fr env M = (fr env M).bind fun p => if p.1.length ≤ 1000 then some (.n (.lst p.1), p.2) else none := rfl
@[simp] theorem e_ix : fIx fa fb env M = (fBin gIx fa fb env M).or (fBin gDix fa fb env M) := rfl
@[simp] theorem e_call (g : Mem → List D → Option R) : fCall g fr env M = (fr env M).bind fun p => (g p.2 p.1).map fun r => (r, p.2) := rfl
@[simp] theorem e_cf (F : FF) : fCf F fr env M = (fr env M).bind fun p => F p.1 p.2 := rfl
@[simp] theorem e_na (n : Nat) (F : FF) (ds : List D) : fNa n F ds M = if ds.length = n then F ds M else none := rfl
@[simp] theorem e_val : qVal fa env M = (fa env M).bind fun p => match p.1 with
  | .v (.bl b) => some (b, p.2)
  | _ => none := rfl
@[simp] theorem e_qnot : qNot q env M = (q env M).map fun p => (!p.1, p.2) := rfl
@[simp] theorem e_qand : qAnd q q' env M = (q env M).bind fun p => if p.1 then q' env p.2 else some (false, p.2) := rfl
@[simp] theorem e_qor : qOr q q' env M = (q env M).bind fun p => if p.1 then some (true, p.2) else q' env p.2 := rfl
@[simp] theorem e_qyes : qYes env M = some (true, M) := rfl
@[simp] theorem e_and : fAnd fa fb env M = (fa env M).bind fun p => match p.1 with
  | .v (.bl true) => fb env p.2
  | .v (.bl false) => some (.v (.bl false), p.2)
  | _ => none := rfl
@[simp] theorem e_or : fOr fa fb env M = (fa env M).bind fun p => match p.1 with
  | .v (.bl true) => some (.v (.bl true), p.2)
  | .v (.bl false) => fb env p.2
  | _ => none := rfl
@[simp] theorem e_not : fNot fa env M = (fa env M).bind fun p => match p.1 with
  | .v (.bl b) => some (.v (.bl (!b)), p.2)
  | _ => none := rfl
@[simp] theorem e_neg : fNeg fa env M = (fa env M).bind fun p => match p.1 with
  | .v (.int i) => some (.v (.int (-i)), p.2)
  | _ => none := rfl
@[simp] theorem e_bname (i : Nat) (d : D) : bName i d env = some (env.set i (some d)) := rfl
@[simp] theorem e_btup (n : Nat) (bs : List D → En → Option En) (ds : List D) : bTup n bs (.tup ds) env = if ds.length = n then bs ds env else none := rfl
@[simp] theorem e_btupk (n : Nat) (bs : List D → En → Option En) (ds : List D) : bTup n bs (.ktp ds) env = if ds.length = n then bs ds env else none := rfl
@[simp] theorem e_bcons (bs : List D → En → Option En) (d : D) (ds : List D) : bCons b bs (d :: ds) env = (b d env).bind (bs ds) := rfl
@[simp] theorem e_bnil : bNil [] env = some env := rfl
@[simp] theorem e_alv (d : D) : (R.v d).al M = (d, M) := rfl
@[simp] theorem e_aln (o : O) : (R.n o).al M = (.ref M.length, M ++ [o]) := rfl
@[simp] theorem e_fzv (d : D) : (R.v d).fz = d := rfl
@[simp] theorem e_fzl (ds : List D) : (R.n (.lst ds)).fz = .lst ds := rfl
@[simp] theorem e_fzd (t : Bool) (kvs : List (DK × D)) : (R.n (.dic t kvs)).fz = .dic t (kvs.map (·.1)) (kvs.map (·.2)) := rfl
@[simp] theorem e_bm (g : Mem → D → List D → Option (R × Mem)) (fo : FE) : fBm g fo fr env M = (fo env M).bind fun p => (asL p.2 p.1.fz).bind fun _ => (fr env p.2).bind fun q => g q.2 p.1.fz q.1 := rfl
@[simp] theorem e_fiS : fiS fa env M = (fiL fa env M).or ((fiT fa env M).or (fiStr fa env M)) := rfl
@[simp] theorem e_fiL : fiL fa env M = (fa env M).bind fun p => (asLs p.2 p.1.fz).map fun ds => ((ds, fun M => asLs M p.1.fz = some ds), p.2) := rfl
@[simp] theorem e_fiT : fiT fa env M = (fa env M).bind fun p => (asT p.1.fz).map fun ds => ((ds, fun _ => True), p.2) := rfl
@[simp] theorem e_asTt (ds : List D) : asT (.tup ds) = some ds := rfl
@[simp] theorem e_asLt (ds : List D) : asL M (.tup ds) = none := rfl
@[simp] theorem e_asLl (ds : List D) : asL M (.lst ds) = some ds := rfl
@[simp] theorem e_asLr (n : Nat) : asL M (.ref n) = match M[n]? with
    | some (.lst xs) => some xs
    | _ => none := rfl
@[simp] theorem e_asLst (ds : List D) : asLs M (.tup ds) = none := rfl
@[simp] theorem e_asLsl (ds : List D) : asLs M (.lst ds) = some ds := rfl
@[simp] theorem e_asLsr (n : Nat) : asLs M (.ref n) = asL M (.ref n) := rfl
@[simp] theorem e_asSt (ds : List D) : asS M (.tup ds) = some ds := rfl
@[simp] theorem e_asSl (ds : List D) : asS M (.lst ds) = some ds := rfl
@[simp] theorem e_asSr (n : Nat) : asS M (.ref n) = asL M (.ref n) := rfl
@[simp] theorem e_addI (i j : Int) : gAdd M (.int i) (.int j) = some (.v (.int (i + j))) := rfl
@[simp] theorem e_addT (xs ys : List D) : gAdd M (.tup xs) (.tup ys) = if xs.length + ys.length ≤ sizeLine then some (.v (.tup (xs ++ ys))) else none := rfl
@[simp] theorem e_subI (i j : Int) : gSub M (.int i) (.int j) = some (.v (.int (i - j))) := rfl
@[simp] theorem e_mulI (i j : Int) (h : CMul i j) : gMul M (.int i) (.int j) = some (.v (.int (i * j))) := by
  simp only [gMul, gI, if_pos h, Option.map_some]
@[simp] theorem e_fdvI (i j : Int) (h : CDivW i j) : gFdv M (.int i) (.int j) = some (.v (.int (i / j))) := by
  simp only [gFdv, gI, if_pos h, Option.map_some]
@[simp] theorem e_modI (i j : Int) (h : 0 < j) : gMod M (.int i) (.int j) = some (.v (.int (i % j))) := by
  simp only [gMod, gI, if_pos h, Option.map_some]
@[simp] theorem e_lt (i j : Int) : gLt M (.int i) (.int j) = some (.v (.bl (decide (i < j)))) := rfl
@[simp] theorem e_le (i j : Int) : gLe M (.int i) (.int j) = some (.v (.bl (decide (i ≤ j)))) := rfl
@[simp] theorem e_gt (i j : Int) : gGt M (.int i) (.int j) = some (.v (.bl (decide (j < i)))) := rfl
@[simp] theorem e_ge (i j : Int) : gGe M (.int i) (.int j) = some (.v (.bl (decide (j ≤ i)))) := rfl
@[simp] theorem e_eqS (x y : Str) : gEq M (.str x) (.str y) = some (.v (.bl (decide (x = y)))) := rfl
@[simp] theorem e_eqI (x y : Int) : gEq M (.int x) (.int y) = some (.v (.bl (decide (x = y)))) := rfl
@[simp] theorem e_neS (x y : Str) : gNe M (.str x) (.str y) = some (.v (.bl (!decide (x = y)))) := rfl
@[simp] theorem e_neI (x y : Int) : gNe M (.int x) (.int y) = some (.v (.bl (!decide (x = y)))) := rfl
@[simp] theorem e_isN (neg : Bool) : gIsN neg M .non .non = some (.v (.bl (!neg))) := rfl
@[simp] theorem e_isI (neg : Bool) (i : Int) : gIsN neg M (.int i) .non = some (.v (.bl neg)) := rfl
@[simp] theorem e_ixT (ds : List D) (i : Int) : gIx M (.tup ds) (.int i) = (atI ds i).map R.v := rfl
@[simp] theorem e_ixL (ds : List D) (i : Int) : gIx M (.lst ds) (.int i) = (atI ds i).map R.v := rfl
@[simp] theorem e_ixR (n : Nat) (i : Int) : gIx M (.ref n) (.int i) = (asL M (.ref n)).bind fun xs => (atI xs i).map R.v := rfl
@[simp] theorem e_fsl : fONo env M = some (none, M) := rfl
@[simp] theorem e_wipe0 : wipeE env [] = env := rfl
@[simp] theorem e_wipe (v : Nat) (vs : List Nat) : wipeE env (v :: vs) = (wipeE env vs).set v none := rfl
end
section
variable (env : En) (M : Mem) (fa fb : FE) (fr : FA)
theorem tr_v0 {M : Mem} {d : D} (h : pureD d = true) : trunc M (.v d, M) = some (.v d, M) := by
  have := tr_v (M := M) (E := []) h
  rwa [List.append_nil] at this
theorem tr_n0 {M : Mem} {o : O} (h : okO M.length o = true) : trunc M (.n o, M) = some (.n o, M) := by
  have := tr_n (M := M) (E := []) h
  rwa [List.append_nil] at this
@[simp] theorem p_tup (ds : List D) : pureD (.tup ds) = pureDs ds := by simp only [pureD]
@[simp] theorem p_lst (ds : List D) : pureD (.lst ds) = pureDs ds := by simp only [pureD]
@[simp] theorem p_int (i : Int) : pureD (.int i) = true := by simp only [pureD]
@[simp] theorem p_bl (i : Bool) : pureD (.bl i) = true := by simp only [pureD]
@[simp] theorem p_str (i : Str) : pureD (.str i) = true := by simp only [pureD]
@[simp] theorem p_non : pureD .non = true := by simp only [pureD]
@[simp] theorem p_nil : pureDs [] = true := by simp only [pureDs]
@[simp] theorem p_cons (d : D) (ds : List D) : pureDs (d :: ds) = (pureD d && pureDs ds) := by simp only [pureDs]
@[simp] theorem p_ints (xs : List Int) : pureDs (xs.map D.int) = true := pures_iff.mpr fun d hd => by
  obtain ⟨i, _, rfl⟩ := List.mem_map.mp hd
  exact p_int i
@[simp] theorem p_row (k : List Int) : pureD (rowD k) = true := by simp [rowD]
@[simp] theorem p_rows (ks : List (List Int)) : pureDs (ks.map rowD) = true := pures_iff.mpr fun d hd => by
  obtain ⟨i, _, rfl⟩ := List.mem_map.mp hd
  exact p_row i
theorem p_map {α : Type} {f : α → D} {xs : List α} (h : ∀ x ∈ xs, pureD (f x) = true) : pureDs (xs.map f) = true := pures_iff.mpr fun d hd => by
  obtain ⟨i, hi, rfl⟩ := List.mem_map.mp hd
  exact h i hi
@[simp] theorem i_ints (xs : List Int) : intsD (xs.map D.int) = some xs := by
  induction xs with
  | nil => rfl
  | cons x xs ih => simp [intsD, ih]
@[simp] theorem i_bools (xs : List Bool) : boolsD (xs.map D.bl) = some xs := by
  induction xs with
  | nil => rfl
  | cons x xs ih => simp [boolsD, ih]
@[simp] theorem i_rows (ks : List (List Int)) : rowsD (ks.map rowD) = some ks := by
  induction ks with
  | nil => rfl
  | cons x xs ih => simp [rowsD, rowD, ih] at ih ⊢
@[simp] theorem e_tupL (ds : List D) : gTuple M [.lst ds] = some (.v (.tup ds)) := rfl
@[simp] theorem e_lenT (ds : List D) : gLen M [.tup ds] = some (.v (.int ds.length)) := rfl
@[simp] theorem e_lenL (ds : List D) : gLen M [.lst ds] = some (.v (.int ds.length)) := rfl
@[simp] theorem e_allL (bs : List Bool) : gAll M [.lst (bs.map D.bl)] = some (.v (.bl (bs.all id))) := by simp [gAll]
@[simp] theorem e_sumL (bs : List Int) : gSum M [.lst (bs.map D.int)] = some (.v (.int bs.sum)) := by simp [gSum]
@[simp] theorem e_minL (bs : List Int) : gMin M [.lst (bs.map D.int)] = bs.min?.map fun m => .v (.int m) := by simp [gMin]
@[simp] theorem e_maxL (bs : List Int) : gMax M [.lst (bs.map D.int)] = bs.max?.map fun m => .v (.int m) := by simp [gMax]
@[simp] theorem e_min2 (i j : Int) : gMin M [.int i, .int j] = some (.v (.int (min i j))) := rfl
@[simp] theorem e_max2 (i j : Int) : gMax M [.int i, .int j] = some (.v (.int (max i j))) := rfl
@[simp] theorem e_zipS : fiZipS fr env M = (fr env M).bind fun p => match p.1 with
  | [d, d'] => (asS p.2 d).bind fun xs => (asS p.2 d').bind fun ys => if xs.length = ys.length then some ((zipD xs ys, fun M => asS M d = some xs ∧ asS M d' = some ys), p.2) else none
  | _ => none := rfl
/-- two by two -/
def twoD {α β : Type} (f : α → D) (g : β → D) (p : α × β) : D := .tup [f p.1, g p.2]
theorem zip_two {α β : Type} (f : α → D) (g : β → D) : ∀ (xs : List α) (ys : List β), zipD (xs.map f) (ys.map g) = (xs.zip ys).map (twoD f g)
  | [], _ => rfl
  | _ :: _, [] => rfl
  | x :: xs, y :: ys => by
    have := zip_two f g xs ys
    unfold zipD at this ⊢
    simp [this, twoD]
end
/-- a body's end, as the def's -/
def endF : Fw → Option R
  | .rt r => some r
  | .nx => some (.v .non)
  | _ => none
theorem fn_eq {N n : Nat} {body : FS} {ds : List D} {M M' : Mem} {r : R} (h : (body (ds.map some ++ List.replicate (N - n) none) M).map (fun p => (p.1, p.2.2)) = some (.rt r, M')) : fFn N n body ds M = some (r, M') := by
  obtain ⟨⟨fl, env', M2⟩, hp, e⟩ := Option.map_eq_some_iff.mp h
  unfold fFn
  rw [hp]
  cases e
  rfl
theorem ft_v {N n : Nat} {body : FS} {ds : List D} {M E : Mem} {d : D} (hd : pureD d = true) (h : (body (ds.map some ++ List.replicate (N - n) none) M).map (fun p => (p.1, p.2.2)) = some (.rt (.v d), M ++ E)) : fTr (fFn N n body) ds M = some (.v d, M) := by
  unfold fTr
  rw [fn_eq h]
  exact tr_v hd
theorem ft_v0 {N n : Nat} {body : FS} {ds : List D} {M : Mem} {d : D} (hd : pureD d = true) (h : (body (ds.map some ++ List.replicate (N - n) none) M).map (fun p => (p.1, p.2.2)) = some (.rt (.v d), M)) : fTr (fFn N n body) ds M = some (.v d, M) := by
  unfold fTr
  rw [fn_eq h]
  exact tr_v0 hd
theorem ft_n0 {N n : Nat} {body : FS} {ds : List D} {M : Mem} {o : O} (hd : okO M.length o = true) (h : (body (ds.map some ++ List.replicate (N - n) none) M).map (fun p => (p.1, p.2.2)) = some (.rt (.n o), M)) : fTr (fFn N n body) ds M = some (.n o, M) := by
  unfold fTr
  rw [fn_eq h]
  exact tr_n0 hd
theorem ft_n {N n : Nat} {body : FS} {ds : List D} {M E : Mem} {o : O} (hd : okO M.length o = true) (h : (body (ds.map some ++ List.replicate (N - n) none) M).map (fun p => (p.1, p.2.2)) = some (.rt (.n o), M ++ E)) : fTr (fFn N n body) ds M = some (.n o, M) := by
  unfold fTr
  rw [fn_eq h]
  exact tr_n hd
theorem ft_r {N n k : Nat} {body : FS} {ds : List D} {M E : Mem} {o : O} (hk : M.length ≤ k) (ho : (M ++ E)[k]? = some o) (hd : okO M.length o = true) (h : (body (ds.map some ++ List.replicate (N - n) none) M).map (fun p => (p.1, p.2.2)) = some (.rt (.v (.ref k)), M ++ E)) : fTr (fFn N n body) ds M = some (.n o, M) := by
  unfold fTr
  rw [fn_eq h]
  exact tr_ref hk ho hd
open Classical in
/-- every turn goes on; what is known speaks of the part walked -/
theorem for_pre {α : Type} {b : FB} {body : FS} {kp : Mem → Prop} {emb : α → D} {I : List α → En → Mem → Prop} (xs : List α) (hk : ∀ pre env M, I pre env M → kp M)
    (h : ∀ pre x post, xs = pre ++ x :: post → ∀ env M, I pre env M → ∃ env1 fl env2 M2, b (emb x) env = some env1 ∧ body env1 M = some (fl, env2, M2) ∧ (fl = .nx ∨ fl = .ct) ∧ I (pre ++ [x]) env2 M2) :
    ∀ env M, I [] env M → ∃ env' M', fForGo b body kp (xs.map emb) env M = some (.nx, env', M') ∧ I xs env' M' := by
  have go : ∀ post pre, xs = pre ++ post → ∀ env M, I pre env M → ∃ env' M', fForGo b body kp (post.map emb) env M = some (.nx, env', M') ∧ I xs env' M' := by
    intro post
    induction post with
    | nil =>
      intro pre e env M hI
      rw [List.append_nil] at e
      subst e
      exact ⟨env, M, by rw [List.map_nil]; unfold fForGo; rw [if_pos (hk _ _ _ hI)], hI⟩
    | cons x post ih =>
      intro pre e env M hI
      obtain ⟨env1, fl, env2, M2, h1, h2, h3, h4⟩ := h pre x post e env M hI
      obtain ⟨env', M', g1, g2⟩ := ih (pre ++ [x]) (by rw [e, List.append_assoc]; rfl) _ _ h4
      refine ⟨env', M', ?_, g2⟩
      rw [List.map_cons]
      unfold fForGo
      rw [if_pos (hk _ _ _ hI), h1]
      simp only [Option.bind_some, h2]
      rcases h3 with rfl | rfl
      · exact g1
      · exact g1
  exact go xs [] rfl
theorem zmap {α β γ : Type} (h : α → β → γ) (f : γ → D) : ∀ (xs : List α) (ys : List β), (xs.zip ys).map (fun p => f (h p.1 p.2)) = (List.zipWith h xs ys).map f
  | [], _ => by simp
  | _ :: _, [] => by simp
  | x :: xs, y :: ys => by simp [zmap h f xs ys]
/-- a row of rows, as a sequence -/
def SeqR (M : Mem) (d : D) (ks : List (List Int)) : Prop := asLs M d = some (ks.map rowD) ∨ (asLs M d = none ∧ asT d = some (ks.map rowD))
theorem SeqR.fi {M : Mem} {d : D} {ks : List (List Int)} (h : SeqR M d ks) {fa : FE} {env : En} (ha : fa env M = some (.v d, M)) : ∃ kp : Mem → Prop, kp M ∧ fiS fa env M = some ((ks.map rowD, kp), M) := by
  rcases h with h | ⟨h1, h2⟩
  · exact ⟨fun M => asLs M d = some (ks.map rowD), h, by simp [ha, h]⟩
  · exact ⟨fun _ => True, trivial, by simp [ha, h1, h2]⟩
@[simp] theorem e_rev (env : En) (M : Mem) (fa : FE) : fRev fa env M = (fa env M).bind fun p => (asLs p.2 p.1.fz).map fun xs => (.n (.lst xs.reverse), p.2) := rfl
@[simp] theorem e_ss (env : En) (M : Mem) (fa : FE) : fSS fa env M = (fa env M).bind fun p => (srcD p.2 p.1.fz).bind fun ks => if okR ks ∧ ks.length ≤ 1400 then some (.n (.lst ((sortR (ddp ks)).map rowD)), p.2) else none := rfl
theorem e_app {M : Mem} {n : Nat} {xs : List D} {d : D} (h : M[n]? = some (.lst xs)) (hl : xs.length < sizeLine) : gApp M (.ref n) [d] = some (.v .non, M.set n (.lst (xs ++ [d]))) := by
  simp [gApp, h, hl]
theorem e_ext {M : Mem} {n : Nat} {xs ys : List D} (h : M[n]? = some (.lst xs)) (hl : xs.length + ys.length ≤ sizeLine) : gExt M (.ref n) [.lst ys] = some (.v .non, M.set n (.lst (xs ++ ys))) := by
  simp [gExt, h, hl]
theorem cmul_l {i j : Int} (h1 : 0 ≤ i) (h2 : i < 2 ^ 63) : CMul i j := .inl ⟨by omega, by omega⟩
theorem cdiv_of {i j : Int} (h1 : 0 < j) (h2 : j < 2 ^ 63) : CDivW i j := by
  have h3 : j.natAbs < 2 ^ 64 := by omega
  have h4 : j.natAbs.log2 < 64 := (Nat.log2_lt (by omega)).mpr h3
  exact ⟨h1, by omega⟩
def okRg (j : Int) : Prop := -(2 ^ 62) ≤ j ∧ j < 2 ^ 62
instance (j : Int) : Decidable (okRg j) := by unfold okRg; infer_instance
theorem okRg_of {j : Int} (h : -1000000 ≤ j) (h' : j ≤ 1000000) : okRg j := ⟨by omega, by omega⟩
def rgD (j : Int) (M : Mem) : Option ((List D × (Mem → Prop)) × Mem) := if okRg j then some (((List.range j.toNat).map fun i => D.int (0 + (i : Nat)), fun _ => True), M) else none
@[simp] theorem rgD_ok (j : Int) (M : Mem) (h : okRg j) : rgD j M = some (((List.range j.toNat).map fun i => D.int (0 + (i : Nat)), fun _ => True), M) := by
  unfold rgD; rw [if_pos h]
@[simp] theorem e_fiR1 (env : En) (M : Mem) (fr : FA) : fiR1 fr env M = (fr env M).bind fun p => (match p.1 with
  | [.int j] => rgD j p.2
  | _ => none : Option ((List D × (Mem → Prop)) × Mem)) := rfl
end Fl
set_option Elab.async false
set_option linter.all false
set_option maxRecDepth 100000
/-! M2: functions run step by step, towards what is wanted. -/
namespace Fl
open PySem PySem.Spec PyProof.Rows L2 Sg
def To {α : Type} (o : Option α) (P : α → Prop) : Prop := ∃ a, o = some a ∧ P a
theorem To.imp {α : Type} {o : Option α} {P Q : α → Prop} (h : To o P) (k : ∀ a, P a → Q a) : To o Q := by
  obtain ⟨a, e, p⟩ := h; exact ⟨a, e, k a p⟩
theorem eq_of_to {α : Type} {o : Option α} {a : α} (h : To o fun b => b = a) : o = some a := by
  obtain ⟨b, e, rfl⟩ := h; exact e
theorem to_eq {α : Type} {o : Option α} {a : α} (h : o = some a) (P : α → Prop) : To o P = P a := by
  subst h
  exact propext ⟨fun ⟨b, e, p⟩ => (by cases e; exact p), fun p => ⟨a, rfl, p⟩⟩
@[simp, simp ↓] theorem to_some {α : Type} (a : α) (P : α → Prop) : To (some a) P = P a := to_eq rfl P
@[simp, simp ↓] theorem to_none {α : Type} (P : α → Prop) : To none P = False := propext ⟨fun ⟨b, e, p⟩ => (nomatch e), False.elim⟩
@[simp, simp ↓] theorem to_bind {α β : Type} (o : Option α) (f : α → Option β) (P : β → Prop) : To (o.bind f) P = To o fun a => To (f a) P := by
  cases o with
  | none => simp
  | some a => simp
@[simp, simp ↓] theorem to_omap {α β : Type} (o : Option α) (f : α → β) (P : β → Prop) : To (o.map f) P = To o fun a => P (f a) := by
  cases o with
  | none => simp
  | some a => simp
theorem to_ite {α : Type} {c : Prop} [Decidable c] {a b : Option α} {P : α → Prop} : To (if c then a else b) P = if c then To a P else To b P := by split <;> rfl
@[simp ↓] theorem to_iteN {α : Type} {c : Prop} [Decidable c] {a : Option α} {P : α → Prop} : To (if c then a else none) P = (c ∧ To a P) := by
  by_cases h : c
  · simp [h]
  · simp [h]
section
variable (env : En) (M : Mem) (fa fb fc : FE) (q q' : FT) (fr : FA) (f g : FS) (b : FB)
@[simp ↓] theorem to_seq (P : Fw × En × Mem → Prop) : To (fSeq f g env M) P = To (f env M) fun p => match p.1 with
  | .nx => To (g p.2.1 p.2.2) P
  | _ => P p := by
  unfold fSeq
  rw [to_bind]
  congr 1
  funext p
  obtain ⟨fl, e, m⟩ := p
  cases fl <;> simp
@[simp ↓] theorem to_asg (P : Fw × En × Mem → Prop) : To (fAsg b fa env M) P = To (fa env M) fun p => To (b (p.1.al p.2).1 env) fun env' => P (.nx, env', (p.1.al p.2).2) := by unfold fAsg; simp only [to_bind, to_omap]
@[simp ↓] theorem to_ret (P : Fw × En × Mem → Prop) : To (fRet fa env M) P = To (fa env M) fun p => P (.rt p.1, env, p.2) := by unfold fRet; rw [to_omap]
@[simp ↓] theorem to_ifS (P : Fw × En × Mem → Prop) : To (fIfS q f g env M) P = To (q env M) fun p => if p.1 = true then To (f env p.2) P else To (g env p.2) P := by
  unfold fIfS
  rw [to_bind]
  congr 1
  funext p
  rw [to_ite]
@[simp ↓] theorem to_exp (P : Fw × En × Mem → Prop) : To (fExp fa env M) P = To (fa env M) fun p => P (.nx, env, p.2) := by unfold fExp; rw [to_omap]
@[simp ↓] theorem to_skip (P : Fw × En × Mem → Prop) : To (fSkip env M) P = P (.nx, env, M) := by unfold fSkip; rw [to_some]
@[simp ↓] theorem to_brk (P : Fw × En × Mem → Prop) : To (fBrk env M) P = P (.bk, env, M) := by unfold fBrk; rw [to_some]
@[simp ↓] theorem to_cnt (P : Fw × En × Mem → Prop) : To (fCnt env M) P = P (.ct, env, M) := by unfold fCnt; rw [to_some]
@[simp ↓] theorem to_nvr (P : Fw × En × Mem → Prop) : To (fNvr env M) P = False := by unfold fNvr; rw [to_none]
@[simp ↓] theorem to_par (i j : Nat) (P : Fw × En × Mem → Prop) : To (fPar i j fr env M) P = To (fr env M) fun p => match p.1 with
  | [d, d'] => P (.nx, (env.set i (some d)).set j (some d'), p.2)
  | _ => False := by
  unfold fPar
  rw [to_bind]
  congr 1
  funext p
  obtain ⟨r, m⟩ := p
  dsimp only
  split <;> simp_all
@[simp ↓] theorem to_for (fi : FI) (P : Fw × En × Mem → Prop) : To (fFor fi b f env M) P = To (fi env M) fun p => To (fForGo b f p.1.2 p.1.1 env p.2) P := by unfold fFor; rw [to_bind]
@[simp ↓] theorem to_lc (fi : FI) (vs : List Nat) (P : R × Mem → Prop) : To (fLc fi b q fa vs env M) P = To (fi env M) fun p => To (fLcGo b q fa p.1.2 (wipeE env vs) p.1.1 p.2) fun t => t.1.length ≤ sizeLine ∧ P (.n (.lst t.1), t.2) := by
  unfold fLc
  simp only [to_bind, to_iteN, to_some]
@[simp ↓] theorem to_var (i : Nat) (P : R × Mem → Prop) : To (fVar i env M) P = match env[i]? with
  | some (some d) => P (.v d, M)
  | _ => False := by
  unfold fVar
  split <;> simp_all
@[simp ↓] theorem to_c (d : D) (P : R × Mem → Prop) : To (fC d env M) P = P (.v d, M) := by unfold fC; rw [to_some]
@[simp ↓] theorem to_bin (g : Mem → D → D → Option R) (P : R × Mem → Prop) : To (fBin g fa fb env M) P = To (fa env M) fun p => To (fb env p.2) fun q => To (g q.2 p.1.fz q.1.fz) fun r => P (r, q.2) := by unfold fBin; simp only [to_bind, to_omap]
@[simp ↓] theorem to_consF (P : List D × Mem → Prop) : To (fCons fa fr env M) P = To (fa env M) fun p => To (fr env p.2) fun q => P (p.1.fz :: q.1, q.2) := by unfold fCons; simp only [to_bind, to_omap]
@[simp ↓] theorem to_consA (P : List D × Mem → Prop) : To (fConsA fa fr env M) P = To (fa env M) fun p => To (fr env (p.1.al p.2).2) fun q => P ((p.1.al p.2).1 :: q.1, q.2) := by unfold fConsA; simp only [to_bind, to_omap]
@[simp ↓] theorem to_nilF (P : List D × Mem → Prop) : To (fNil env M) P = P ([], M) := by unfold fNil; rw [to_some]
@[simp ↓] theorem to_tup (P : R × Mem → Prop) : To (fTup fr env M) P = To (fr env M) fun p => p.1.length ≤ 1000 ∧ P (.v (.tup p.1), p.2) := by unfold fTup; simp only [to_bind, to_iteN, to_some]
@[simp ↓] theorem to_lst (P : R × Mem → Prop) : To (fLst fr env M) P = To (fr env M) fun p => p.1.length ≤ 1000 ∧ P (.n (.lst p.1), p.2) := by unfold fLst; simp only [to_bind, to_iteN, to_some]
def gIxx (M : Mem) (d i : D) : Option R := (gIx M d i).or (gDix M d i)
@[simp ↓] theorem to_ix (P : R × Mem → Prop) : To (fIx fa fb env M) P = To (fa env M) fun p => To (fb env p.2) fun q => To (gIxx q.2 p.1.fz q.1.fz) fun r => P (r, q.2) := by
  have : fIx fa fb env M = (fa env M).bind fun p => (fb env p.2).bind fun q => (gIxx q.2 p.1.fz q.1.fz).map fun r => (r, q.2) := by
    unfold fIx fBin gIxx
    cases fa env M with
    | none => rfl
    | some p =>
      dsimp only [Option.bind_some]
      cases fb env p.2 with
      | none => rfl
      | some q =>
        dsimp only [Option.bind_some]
        cases gIx q.2 p.1.fz q.1.fz <;> rfl
  rw [this]
  simp only [to_bind, to_omap]
@[simp ↓] theorem to_call (g : Mem → List D → Option R) (P : R × Mem → Prop) : To (fCall g fr env M) P = To (fr env M) fun p => To (g p.2 p.1) fun r => P (r, p.2) := by unfold fCall; simp only [to_bind, to_omap]
@[simp ↓] theorem to_cf (F : FF) (P : R × Mem → Prop) : To (fCf F fr env M) P = To (fr env M) fun p => To (F p.1 p.2) P := by unfold fCf; rw [to_bind]
@[simp ↓] theorem to_na (n : Nat) (F : FF) (ds : List D) (P : R × Mem → Prop) : To (fNa n F ds M) P = (ds.length = n ∧ To (F ds M) P) := by unfold fNa; rw [to_iteN]
@[simp ↓] theorem to_val (P : Bool × Mem → Prop) : To (qVal fa env M) P = To (fa env M) fun p => match p.1 with
  | .v (.bl b) => P (b, p.2)
  | _ => False := by
  unfold qVal
  rw [to_bind]
  congr 1
  funext p
  obtain ⟨r, m⟩ := p
  dsimp only
  split <;> simp_all
@[simp ↓] theorem to_qnot (P : Bool × Mem → Prop) : To (qNot q env M) P = To (q env M) fun p => P (!p.1, p.2) := by unfold qNot; rw [to_omap]
@[simp ↓] theorem to_qand (P : Bool × Mem → Prop) : To (qAnd q q' env M) P = To (q env M) fun p => if p.1 = true then To (q' env p.2) P else P (false, p.2) := by
  unfold qAnd
  rw [to_bind]
  congr 1
  funext p
  rw [to_ite, to_some]
@[simp ↓] theorem to_qor (P : Bool × Mem → Prop) : To (qOr q q' env M) P = To (q env M) fun p => if p.1 = true then P (true, p.2) else To (q' env p.2) P := by
  unfold qOr
  rw [to_bind]
  congr 1
  funext p
  rw [to_ite, to_some]
@[simp ↓] theorem to_qyes (P : Bool × Mem → Prop) : To (qYes env M) P = P (true, M) := by unfold qYes; rw [to_some]
@[simp ↓] theorem to_and (P : R × Mem → Prop) : To (fAnd fa fb env M) P = To (fa env M) fun p => match p.1 with
  | .v (.bl b) => if b = true then To (fb env p.2) P else P (.v (.bl false), p.2)
  | _ => False := by
  unfold fAnd
  rw [to_bind]
  congr 1
  funext p
  obtain ⟨r, m⟩ := p
  cases r with
  | n o => simp
  | v d => cases d with
    | bl b => cases b <;> simp
    | _ => simp
@[simp ↓] theorem to_or (P : R × Mem → Prop) : To (fOr fa fb env M) P = To (fa env M) fun p => match p.1 with
  | .v (.bl b) => if b = true then P (.v (.bl true), p.2) else To (fb env p.2) P
  | _ => False := by
  unfold fOr
  rw [to_bind]
  congr 1
  funext p
  obtain ⟨r, m⟩ := p
  cases r with
  | n o => simp
  | v d => cases d with
    | bl b => cases b <;> simp
    | _ => simp
@[simp ↓] theorem to_not (P : R × Mem → Prop) : To (fNot fa env M) P = To (fa env M) fun p => match p.1 with
  | .v (.bl b) => P (.v (.bl (!b)), p.2)
  | _ => False := by
  unfold fNot
  rw [to_bind]
  congr 1
  funext p
  obtain ⟨r, m⟩ := p
  dsimp only
  split <;> simp_all
@[simp ↓] theorem to_neg (P : R × Mem → Prop) : To (fNeg fa env M) P = To (fa env M) fun p => match p.1 with
  | .v (.int i) => P (.v (.int (-i)), p.2)
  | _ => False := by
  unfold fNeg
  rw [to_bind]
  congr 1
  funext p
  obtain ⟨r, m⟩ := p
  dsimp only
  split <;> simp_all
@[simp ↓] theorem to_if (P : R × Mem → Prop) : To (fIf q fa fb env M) P = To (q env M) fun p => if p.1 = true then To (fa env p.2) P else To (fb env p.2) P := by
  unfold fIf
  rw [to_bind]
  congr 1
  funext p
  rw [to_ite]
@[simp ↓] theorem to_chain (g g' : Mem → D → D → Option R) (P : R × Mem → Prop) : To (fChain g g' fa fb fc env M) P = To (fa env M) fun p => To (fb env p.2) fun q => To (g q.2 p.1.fz q.1.fz) fun r => match r with
  | .v (.bl b) => if b = true then To (fc env q.2) fun t => To (g' t.2 q.1.fz t.1.fz) fun z => P (z, t.2) else P (.v (.bl false), q.2)
  | _ => False := by
  unfold fChain
  simp only [to_bind]
  congr 1
  funext p
  congr 1
  funext q
  congr 1
  funext r
  cases r with
  | n o => simp
  | v d => cases d with
    | bl b => cases b <;> simp
    | _ => simp
@[simp ↓] theorem to_bm (g : Mem → D → List D → Option (R × Mem)) (fo : FE) (P : R × Mem → Prop) : To (fBm g fo fr env M) P = To (fo env M) fun p => To (asL p.2 p.1.fz) fun _ => To (fr env p.2) fun q => To (g q.2 p.1.fz q.1) P := by unfold fBm; simp only [to_bind]
@[simp ↓] theorem to_m1 (g : Mem → D → D → Option R) (fo : FE) (P : R × Mem → Prop) : To (fM1 g fo fa env M) P = To (fo env M) fun p => isStr p.1.fz = true ∧ To (fa env p.2) fun q => To (g q.2 p.1.fz q.1.fz) fun r => P (r, q.2) := by unfold fM1; simp only [to_bind, to_iteN, to_omap]
@[simp ↓] theorem to_set (fo fi fe : FE) (P : Fw × En × Mem → Prop) : To (fSet fo fi fe env M) P = To (fe env M) fun p => To (fo env (p.1.al p.2).2) fun q => To (fi env q.2) fun t => To (gSet t.2 q.1.fz t.1.fz (p.1.al p.2).1) fun M' => P (.nx, env, M') := by unfold fSet; simp only [to_bind, to_omap]
@[simp ↓] theorem to_sl (fl fh : FO) (P : R × Mem → Prop) : To (fSl fa fl fh env M) P = To (fa env M) fun p => To (fl env p.2) fun q => To (fh env q.2) fun t => To (gSl t.2 p.1.fz q.1 t.1) fun r => P (r, t.2) := by unfold fSl; simp only [to_bind, to_omap]
@[simp ↓] theorem to_ono (P : Option Int × Mem → Prop) : To (fONo env M) P = P (none, M) := by unfold fONo; rw [to_some]
@[simp ↓] theorem to_oso (P : Option Int × Mem → Prop) : To (fOSo fa env M) P = To (fa env M) fun p => match p.1 with
  | .v (.int i) => P (some i, p.2)
  | _ => False := by
  unfold fOSo
  rw [to_bind]
  congr 1
  funext p
  obtain ⟨r, m⟩ := p
  dsimp only
  split <;> simp_all
@[simp ↓] theorem to_rev (P : R × Mem → Prop) : To (fRev fa env M) P = To (fa env M) fun p => To (asLs p.2 p.1.fz) fun xs => P (.n (.lst xs.reverse), p.2) := by unfold fRev; simp only [to_bind, to_omap]
@[simp ↓] theorem to_ss (P : R × Mem → Prop) : To (fSS fa env M) P = To (fa env M) fun p => To (srcD p.2 p.1.fz) fun ks => (okR ks = true ∧ ks.length ≤ 1400) ∧ P (.n (.lst ((sortR (ddp ks)).map rowD)), p.2) := by unfold fSS; simp only [to_bind, to_iteN, to_some]
@[simp ↓] theorem to_d1 (P : R × Mem → Prop) : To (fD1 fa fb env M) P = To (fa env M) fun p => To (fb env p.2) fun q => match p.1.fz with
  | .tup ks => To (flatKeys ks) fun k => P (.n (.dic true [(.t k, q.1.fz)]), q.2)
  | _ => False := by
  unfold fD1
  simp only [to_bind]
  congr 1
  funext p
  congr 1
  funext q
  obtain ⟨r, m⟩ := p
  dsimp only
  split <;> simp_all
@[simp ↓] theorem to_dic0 (t : Bool) (P : R × Mem → Prop) : To (fDic0 t env M) P = P (.n (.dic t []), M) := by unfold fDic0; rw [to_some]
@[simp ↓] theorem to_isi (T : String) (P : R × Mem → Prop) : To (fIsi T fa env M) P = To (fa env M) fun p => To (tyName p.2 p.1.fz) fun t => To (isB t T) fun b => P (.v (.bl b), p.2) := by unfold fIsi; simp only [to_bind, to_omap]
@[simp ↓] theorem to_at (c f : Str) (P : R × Mem → Prop) : To (fAt c f fa env M) P = To (fa env M) fun p => To (asI p.2 p.1.fz) fun q => q.1 = c ∧ To (q.2.lookup f) fun d => P (.v d, p.2) := by unfold fAt; simp only [to_bind, to_iteN, to_omap]
@[simp ↓] theorem to_sumS (P : R × Mem → Prop) : To (fSumS fa env M) P = To (fa env M) fun p => To (asT p.1.fz) fun xs => To (intsD xs) fun ns => P (.v (.int ns.sum), p.2) := by unfold fSumS; simp only [to_bind, to_omap]
@[simp ↓] theorem to_lenO (c : Str) (F : FF) (P : R × Mem → Prop) : To (fLenO c F fa env M) P = To (fa env M) fun p => To (asI p.2 p.1.fz) fun q => q.1 = c ∧ To (F [p.1.fz] p.2) fun t => match t.1 with
    | .v (.int n) => (0 ≤ n ∧ n < 2 ^ 63) ∧ P (.v (.int n), t.2)
    | _ => False := by
  unfold fLenO
  simp only [to_bind, to_iteN, to_na, List.length_singleton, true_and]
  congr 1
  funext p
  congr 1
  funext q
  congr 1
  congr 1
  funext t
  obtain ⟨r, m⟩ := t
  dsimp only
  split <;> simp_all [to_iteN]
@[simp ↓] theorem to_strO (c : Str) (F : FF) (P : R × Mem → Prop) : To (fStrO c F fa env M) P = To (fa env M) fun p => To (asI p.2 p.1.fz) fun q => q.1 = c ∧ To (F [p.1.fz] p.2) fun t => match t.1 with
    | .v (.str n) => P (.v (.str n), t.2)
    | _ => False := by
  unfold fStrO
  simp only [to_bind, to_iteN, to_na, List.length_singleton, true_and]
  congr 1
  funext p
  congr 1
  funext q
  congr 1
  congr 1
  funext t
  obtain ⟨r, m⟩ := t
  dsimp only
  split <;> simp_all
@[simp ↓] theorem to_mk (c : Str) (n : Nat) (F : FF) (dds : List D) (P : R × Mem → Prop) : To (fMk c n F dds fr env M) P = To (fr env M) fun p => To (fNa n F (.ref p.2.length :: (p.1 ++ dds)) (p.2 ++ [.ins c []])) fun t => match t.1 with
  | .v .non => To (trunc p.2 (.v (.ref p.2.length), t.2)) P
  | _ => False := by
  unfold fMk
  simp only [to_bind]
  congr 1
  funext p
  congr 1
  funext t
  obtain ⟨r, m⟩ := t
  dsimp only
  split <;> simp_all
@[simp ↓] theorem to_fld (c f : Str) (fo fv : FE) (P : Fw × En × Mem → Prop) : To (fFld c f fo fv env M) P = To (fv env M) fun p => To (fo env (p.1.al p.2).2) fun q => match q.1 with
  | .v (.ref n) => (match q.2[n]? with
    | some (.ins c' fs) => (c' = c ∧ fs.length < 1000) ∧ P (.nx, env, q.2.set n (.ins c (putD f (p.1.al p.2).1 fs)))
    | _ => False)
  | _ => False := by
  unfold fFld
  simp only [to_bind]
  congr 1
  funext p
  congr 1
  funext q
  obtain ⟨r, m⟩ := q
  dsimp only
  split
  · split <;> simp_all [to_iteN]
  · simp_all
/-! ### sources -/
/-- what is walked, a list or a tuple of data -/
@[simp ↓] theorem to_fiR1 (P : ((List D × (Mem → Prop)) × Mem) → Prop) : To (fiR1 fr env M) P = To (fr env M) fun p => match p.1 with
  | [.int j] => okRg j ∧ P (((List.range j.toNat).map fun i => D.int (0 + (i : Nat)), fun _ => True), p.2)
  | _ => False := by
  rw [e_fiR1, to_bind]
  congr 1
  funext p
  obtain ⟨r, m⟩ := p
  dsimp only
  split <;> simp_all [rgD, to_iteN]
@[simp ↓] theorem to_zipS (P : ((List D × (Mem → Prop)) × Mem) → Prop) : To (fiZipS fr env M) P = To (fr env M) fun p => match p.1 with
  | [d, d'] => To (asS p.2 d) fun xs => To (asS p.2 d') fun ys => xs.length = ys.length ∧ P ((zipD xs ys, fun M => asS M d = some xs ∧ asS M d' = some ys), p.2)
  | _ => False := by
  rw [e_zipS, to_bind]
  congr 1
  funext p
  obtain ⟨r, m⟩ := p
  dsimp only
  split <;> simp_all [to_iteN]
/-- where a source is a list, a tuple, a text -/
def srcS (d : D) (M : Mem) (P : ((List D × (Mem → Prop)) × Mem) → Prop) : Prop := match d with
  | .tup ds => P ((ds, fun _ => True), M)
  | .ktp ds => P ((ds, fun _ => True), M)
  | .lst ds => P ((ds, fun _ => True), M)
  | .scr xs => P ((xs.map D.int, fun _ => True), M)
  | .ref n => To (asL M (.ref n)) fun ds => P ((ds, fun M => asL M (.ref n) = some ds), M)
  | .str z => P ((z.cps.toList.map fun c => D.str ⟨#[c]⟩, fun _ => True), M)
  | _ => False
@[simp ↓] theorem to_fiS (P : ((List D × (Mem → Prop)) × Mem) → Prop) : To (fiS fa env M) P = To (fa env M) fun p => srcS p.1.fz p.2 P := by
  unfold fiS fiL fiT fiStr
  cases fa env M with
  | none => simp
  | some p =>
    obtain ⟨r, m⟩ := p
    cases r with
    | n o => cases o <;> simp [O.fz, R.fz, asLs, asL, asT, srcS]
    | v d => cases d with
      | ref n =>
        cases h : asL m (.ref n) with
        | none => simp [R.fz, asLs, asT, srcS, h]
        | some ds => simp [R.fz, asLs, asT, srcS, h]
      | _ => simp [R.fz, asLs, asL, asT, srcS]
end
/-! ### the memory -/
section
variable {M E : Mem} {o x : O} {k : Nat}
@[simp high] theorem get_app0 : (M ++ o :: E)[M.length]? = some o := by simp
@[simp high] theorem get_appn : (M ++ E)[M.length + k]? = E[k]? := by
  rw [List.getElem?_append_right (by omega)]
  congr 1; omega
@[simp high] theorem set_app0 : (M ++ o :: E).set M.length x = M ++ x :: E := by
  rw [List.set_append_right _ _ (by omega)]
  simp
@[simp high] theorem set_appn : (M ++ E).set (M.length + k) x = M ++ E.set k x := by
  rw [List.set_append_right _ _ (by omega)]
  congr 2; omega
/-- what is cut off at a return -/
@[simp, simp ↓] theorem to_cut_v {d : D} {P : R × Mem → Prop} (hd : pureD d = true) : To (trunc M (.v d, M ++ E)) P = P (.v d, M) := to_eq (tr_v hd) P
@[simp, simp ↓] theorem to_cut_v0 {d : D} {P : R × Mem → Prop} (hd : pureD d = true) : To (trunc M (.v d, M)) P = P (.v d, M) := to_eq (tr_v0 hd) P
def pureO : O → Bool
  | .lst ds => pureDs ds
  | .dic _ kvs => pureDs (kvs.map (·.2))
  | .lkd _ kvs => pureDs (kvs.map (·.2))
  | .ins _ fs => pureDs (fs.map (·.2))
theorem pureO_ok (h : pureO o = true) : okO k o = true := by
  cases o <;> simp only [pureO, okO] at h ⊢ <;> exact pures_ok _ _ h
@[simp, simp ↓] theorem to_cut_n {P : R × Mem → Prop} (h : pureO o = true) : To (trunc M (.n o, M ++ E)) P = P (.n o, M) := to_eq (tr_n (pureO_ok h)) P
@[simp, simp ↓] theorem to_cut_n0 {P : R × Mem → Prop} (h : pureO o = true) : To (trunc M (.n o, M)) P = P (.n o, M) := to_eq (tr_n0 (pureO_ok h)) P
theorem to_cut_r {P : R × Mem → Prop} (ho : E[k]? = some o) (h : pureO o = true) : To (trunc M (.v (.ref (M.length + k)), M ++ E)) P = P (.n o, M) := to_eq (tr_ref (by omega) (by rw [get_appn]; exact ho) (pureO_ok h)) P
@[simp, simp ↓] theorem to_cut_r0 {P : R × Mem → Prop} (h : pureO o = true) : To (trunc M (.v (.ref M.length), M ++ o :: E)) P = P (.n o, M) := to_eq (tr_ref (by omega) (by simp) (pureO_ok h)) P
theorem to_fn {N n : Nat} {body : FS} {ds : List D} {P : R × Mem → Prop} (h : To (body (ds.map some ++ List.replicate (N - n) none) M) fun p => match p.1 with
    | .rt r => To (trunc M (r, p.2.2)) P
    | .nx => To (trunc M (.v .non, p.2.2)) P
    | _ => False) : To (fTr (fFn N n body) ds M) P := by
  unfold fTr fFn
  rw [to_bind, to_bind]
  refine h.imp fun p hp => ?_
  obtain ⟨fl, e, m⟩ := p
  cases fl with
  | nx => simpa using hp
  | rt r => simpa using hp
  | bk => exact hp.elim
  | ct => exact hp.elim
/-- the same where no memory is cut -/
theorem to_fn0 {N n : Nat} {body : FS} {ds : List D} {P : R × Mem → Prop} (h : To (body (ds.map some ++ List.replicate (N - n) none) M) fun p => match p.1 with
    | .rt r => P (r, p.2.2)
    | .nx => P (.v .non, p.2.2)
    | _ => False) : To (fFn N n body ds M) P := by
  unfold fFn
  rw [to_bind]
  refine h.imp fun p hp => ?_
  obtain ⟨fl, e, m⟩ := p
  cases fl with
  | nx => simpa using hp
  | rt r => simpa using hp
  | bk => exact hp.elim
  | ct => exact hp.elim
end
/-! ### loops, towards what is wanted -/
open Classical in
theorem to_go {α : Type} {b : FB} {body : FS} {kp : Mem → Prop} {ds : List D} {env : En} {M : Mem} {P : Fw × En × Mem → Prop} {emb : α → D} (xs : List α) (I : List α → En → Mem → Prop) (hds : ds = xs.map emb) (h0 : I [] env M) (hk : ∀ pre env M, I pre env M → kp M)
    (step : ∀ pre x post, xs = pre ++ x :: post → ∀ env M, I pre env M → To (b (emb x) env) fun env1 => To (body env1 M) fun p => match p.1 with
      | .nx => I (pre ++ [x]) p.2.1 p.2.2
      | .ct => I (pre ++ [x]) p.2.1 p.2.2
      | .bk => P (.nx, p.2.1, p.2.2)
      | .rt _ => P p)
    (after : ∀ env' M', I xs env' M' → P (.nx, env', M')) : To (fForGo b body kp ds env M) P := by
  subst hds
  have go : ∀ post pre, xs = pre ++ post → ∀ env M, I pre env M → To (fForGo b body kp (post.map emb) env M) P := by
    intro post
    induction post with
    | nil =>
      intro pre e env M hI
      rw [List.append_nil] at e
      subst e
      rw [List.map_nil]
      unfold fForGo
      rw [if_pos (hk _ _ _ hI), to_some]
      exact after _ _ hI
    | cons x post ih =>
      intro pre e env M hI
      rw [List.map_cons]
      unfold fForGo
      rw [if_pos (hk _ _ _ hI), to_bind]
      refine (step pre x post e env M hI).imp fun env1 h1 => ?_
      rw [to_bind]
      refine h1.imp fun p hp => ?_
      obtain ⟨fl, e2, m2⟩ := p
      cases fl with
      | nx => exact ih (pre ++ [x]) (by rw [e, List.append_assoc]; rfl) _ _ hp
      | ct => exact ih (pre ++ [x]) (by rw [e, List.append_assoc]; rfl) _ _ hp
      | bk => simpa using hp
      | rt r => simpa using hp
  exact go xs [] rfl env M h0
open Classical in
/-- a comprehension, with what is known of the memory and of what is made -/
theorem to_lcI {α : Type} {b : FB} {q : FT} {f : FE} {kp : Mem → Prop} {env : En} {M : Mem} {ds : List D} {P : List D × Mem → Prop} {emb : α → D} (xs : List α) (I : List α → List D → Mem → Prop) (hds : ds = xs.map emb) (h0 : I [] [] M) (hk : ∀ pre out M, I pre out M → kp M)
    (step : ∀ pre x post, xs = pre ++ x :: post → ∀ out M, I pre out M → To (b (emb x) env) fun env1 => To (q env1 M) fun p => if p.1 = true then To (f env1 p.2) fun r => I (pre ++ [x]) (out ++ [r.1.fz]) r.2 else I (pre ++ [x]) out p.2)
    (after : ∀ out M', I xs out M' → P (out, M')) : To (fLcGo b q f kp env ds M) P := by
  subst hds
  have go : ∀ post pre, xs = pre ++ post → ∀ out M, I pre out M → ∃ t M', fLcGo b q f kp env (post.map emb) M = some (t, M') ∧ I xs (out ++ t) M' := by
    intro post
    induction post with
    | nil =>
      intro pre e out M hI
      rw [List.append_nil] at e
      subst e
      rw [List.map_nil]
      unfold fLcGo
      rw [if_pos (hk _ _ _ hI)]
      exact ⟨[], M, rfl, by rw [List.append_nil]; exact hI⟩
    | cons x post ih =>
      intro pre e out M hI
      rw [List.map_cons]
      unfold fLcGo
      rw [if_pos (hk _ _ _ hI)]
      obtain ⟨env1, e1, ⟨c, m1⟩, e2, h2⟩ := step pre x post e out M hI
      rw [e1]
      simp only [Option.bind_some, e2]
      dsimp only at h2
      split at h2
      · rename_i hc
        obtain ⟨⟨r, m2⟩, e3, h3⟩ := h2
        obtain ⟨t, M', g1, g2⟩ := ih (pre ++ [x]) (by rw [e, List.append_assoc]; rfl) _ _ h3
        refine ⟨r.fz :: t, M', ?_, ?_⟩
        · rw [if_pos hc, e3]; simp [g1]
        · rw [List.append_assoc] at g2; exact g2
      · rename_i hc
        obtain ⟨t, M', g1, g2⟩ := ih (pre ++ [x]) (by rw [e, List.append_assoc]; rfl) _ _ h2
        exact ⟨t, M', by rw [if_neg hc]; exact g1, g2⟩
  obtain ⟨t, M', g1, g2⟩ := go xs [] rfl [] M h0
  exact ⟨_, g1, after _ _ g2⟩
/-- a comprehension that leaves the memory -/
theorem to_map {α : Type} {b : FB} {f : FE} {kp : Mem → Prop} {env : En} {M : Mem} {ds : List D} {P : List D × Mem → Prop} {emb : α → D} (xs : List α) (g : α → D) (hds : ds = xs.map emb) (hk : kp M)
    (step : ∀ x ∈ xs, To (b (emb x) env) fun env1 => To (f env1 M) fun r => r.1.fz = g x ∧ r.2 = M) (after : P (xs.map g, M)) : To (fLcGo b qYes f kp env ds M) P := by
  refine to_lcI xs (fun pre out M' => out = pre.map g ∧ M' = M) hds ⟨rfl, rfl⟩ (fun _ _ _ h => by rw [h.2]; exact hk) (fun pre x post e out M' h => ?_) (fun out M' h => by rw [h.1, h.2]; exact after)
  obtain ⟨rfl, rfl⟩ := h
  refine (step x (by rw [e]; simp)).imp fun env1 h1 => ?_
  rw [to_qyes, if_pos rfl]
  exact h1.imp fun r hr => ⟨by rw [hr.1]; simp, hr.2⟩
theorem to_filter {α : Type} {b : FB} {q : FT} {f : FE} {kp : Mem → Prop} {env : En} {M : Mem} {ds : List D} {P : List D × Mem → Prop} {emb : α → D} (xs : List α) (p : α → Bool) (g : α → D) (hds : ds = xs.map emb) (hk : kp M)
    (step : ∀ x ∈ xs, To (b (emb x) env) fun env1 => To (q env1 M) fun c => c.1 = p x ∧ c.2 = M ∧ (p x = true → To (f env1 M) fun r => r.1.fz = g x ∧ r.2 = M)) (after : P ((xs.filter p).map g, M)) : To (fLcGo b q f kp env ds M) P := by
  refine to_lcI xs (fun pre out M' => out = (pre.filter p).map g ∧ M' = M) hds ⟨rfl, rfl⟩ (fun _ _ _ h => by rw [h.2]; exact hk) (fun pre x post e out M' h => ?_) (fun out M' h => by rw [h.1, h.2]; exact after)
  obtain ⟨rfl, rfl⟩ := h
  refine (step x (by rw [e]; simp)).imp fun env1 h1 => h1.imp fun c hc => ?_
  obtain ⟨c1, c2⟩ := c
  obtain ⟨rfl, rfl, h3⟩ := hc
  dsimp only
  cases hp : p x with
  | true => rw [if_pos rfl]; exact (h3 hp).imp fun r hr => ⟨by rw [hr.1]; simp [hp], hr.2⟩
  | false => simp [hp]

/-! ### items -/
section
variable {M : Mem} {ds : List D} {i : Int} {n : Nat} {a b c : D}
@[simp] theorem atI0 {α : Type} {a : α} {l : List α} : atI (a :: l) 0 = some a := by
  unfold atI ixN
  rw [if_pos (by omega), if_pos (by simp)]
  rfl
@[simp] theorem atI1 {α : Type} {a b : α} {l : List α} : atI (a :: b :: l) 1 = some b := by
  unfold atI ixN
  rw [if_pos (by omega), if_pos (by simp; omega)]
  rfl
@[simp] theorem atI2 {α : Type} {a b c : α} {l : List α} : atI (a :: b :: c :: l) 2 = some c := by
  unfold atI ixN
  rw [if_pos (by omega), if_pos (by simp; omega)]
  rfl
theorem atI_ok {α : Type} {l : List α} {i : Int} {a : α} (h0 : 0 ≤ i) (h : l[i.toNat]? = some a) : atI l i = some a := by
  have hl := (List.getElem?_eq_some_iff.mp h).1
  unfold atI ixN
  rw [if_pos h0, if_pos (by omega)]
  exact h
theorem atI_map {α β : Type} (f : α → β) (l : List α) (i : Int) : atI (l.map f) i = (atI l i).map f := by
  unfold atI
  rw [List.length_map]
  cases ixN l.length i with
  | none => rfl
  | some j => simp
@[simp] theorem atI_last {α : Type} {l : List α} {a : α} : atI (l ++ [a]) (-1) = some a := by
  unfold atI ixN
  rw [if_neg (by omega), if_pos (by simp; omega)]
  have : (-1 + ((l ++ [a]).length : Int)).toNat = l.length := by simp; omega
  rw [Option.bind_some, this]
  simp
@[simp] theorem ixx_tup : gIxx M (.tup ds) (.int i) = (atI ds i).map R.v := by
  unfold gIxx
  rw [e_ixT]
  cases atI ds i <;> rfl
@[simp] theorem ixx_lst : gIxx M (.lst ds) (.int i) = (atI ds i).map R.v := by
  unfold gIxx
  rw [e_ixL]
  cases atI ds i <;> rfl
theorem ixx_ref (h : M[n]? = some (.lst ds)) : gIxx M (.ref n) (.int i) = (atI ds i).map R.v := by
  unfold gIxx
  rw [e_ixR]
  simp only [asL, h, Option.bind_some]
  cases atI ds i with
  | some x => rfl
  | none => simp [gDix, asD, h]
@[simp ↓] theorem to_ixx_tup (P : R → Prop) : To (gIxx M (.tup ds) (.int i)) P = To (atI ds i) fun d => P (.v d) := by rw [ixx_tup, to_omap]
@[simp ↓] theorem to_ixx_lst (P : R → Prop) : To (gIxx M (.lst ds) (.int i)) P = To (atI ds i) fun d => P (.v d) := by rw [ixx_lst, to_omap]
end

/-! ### zip, instances -/
def zipQ (M : Mem) (d d' : D) (P : ((List D × (Mem → Prop)) × Mem) → Prop) : Prop := match asLs M d, asLs M d' with
  | some xs, some ys => P ((zipD xs ys, fun M => asLs M d = some xs ∧ asLs M d' = some ys), M)
  | _, _ => match asT d, asT d' with
    | some xs, some ys => P ((zipD xs ys, fun _ => True), M)
    | _, _ => False
@[simp ↓] theorem to_zip (env : En) (M : Mem) (fr : FA) (P : ((List D × (Mem → Prop)) × Mem) → Prop) : To (fiZip fr env M) P = To (fr env M) fun p => match p.1 with
  | [d, d'] => zipQ p.2 d d' P
  | _ => False := by
  unfold fiZip
  rw [to_bind]
  congr 1
  funext p
  obtain ⟨r, m⟩ := p
  dsimp only
  split
  · unfold zipQ
    split
    · simp_all
    · split <;> simp_all
  · simp_all
@[simp] theorem zipQ_tup (M : Mem) (xs ys : List D) (P : ((List D × (Mem → Prop)) × Mem) → Prop) : zipQ M (.tup xs) (.tup ys) P = P ((zipD xs ys, fun _ => True), M) := rfl
theorem asI_app {M E : Mem} {d : D} {r : Str × List (Str × D)} (h : asI M d = some r) : asI (M ++ E) d = some r := by
  cases d with
  | ref n =>
    cases e : M[n]? with
    | none => simp [asI, e] at h
    | some o =>
      have : (M ++ E)[n]? = some o := by rw [List.getElem?_append_left (List.getElem?_eq_some_iff.mp e).1]; exact e
      simp only [asI, this, e] at h ⊢
      exact h
  | _ => exact h
@[simp] theorem isB_int_int : isB "int" "int" = some true := rfl
@[simp] theorem isB_int_bool : isB "int" "bool" = some false := rfl
@[simp] theorem isB_tup_tup : isB "tuple" "tuple" = some true := rfl
@[simp] theorem isB_str_str : isB "str" "str" = some true := rfl
@[simp] theorem ty_int (M : Mem) (i : Int) : tyName M (.int i) = some "int" := rfl
@[simp] theorem ty_tup (M : Mem) (ds : List D) : tyName M (.tup ds) = some "tuple" := rfl
@[simp] theorem ty_str (M : Mem) (x : Str) : tyName M (.str x) = some "str" := rfl
theorem cmul_r {i j : Int} (h1 : 0 ≤ j) (h2 : j < 2 ^ 63) : CMul i j := .inr ⟨by omega, by omega⟩
@[simp] theorem z3 : 3 ≤ sizeLine := by rw [sizeLine_eq]; decide
section
variable (M : Mem) (P : ((List D × (Mem → Prop)) × Mem) → Prop)
@[simp] theorem srcS_tup (ds : List D) : srcS (.tup ds) M P = P ((ds, fun _ => True), M) := rfl
@[simp] theorem srcS_lst (ds : List D) : srcS (.lst ds) M P = P ((ds, fun _ => True), M) := rfl
@[simp] theorem srcS_scr (xs : List Int) : srcS (.scr xs) M P = P ((xs.map D.int, fun _ => True), M) := rfl
@[simp] theorem srcS_ref (n : Nat) : srcS (.ref n) M P = To (asL M (.ref n)) fun ds => P ((ds, fun M => asL M (.ref n) = some ds), M) := rfl
@[simp] theorem srcS_str (z : Str) : srcS (.str z) M P = P ((z.cps.toList.map fun c => D.str ⟨#[c]⟩, fun _ => True), M) := rfl
end
def revQ (M : Mem) (d : D) (P : ((List D × (Mem → Prop)) × Mem) → Prop) : Prop := match asLs M d with
  | some xs => P ((xs.reverse, fun M => asLs M d = some xs), M)
  | none => To (asT d) fun xs => P ((xs.reverse, fun _ => True), M)
@[simp ↓] theorem to_fiRev (env : En) (M : Mem) (fa : FE) (P : ((List D × (Mem → Prop)) × Mem) → Prop) : To (fiRev fa env M) P = To (fa env M) fun p => revQ p.2 p.1.fz P := by
  unfold fiRev
  rw [to_bind]
  congr 1
  funext p
  unfold revQ
  cases asLs p.2 p.1.fz with
  | some xs => simp
  | none => simp
@[simp] theorem revQ_tup (M : Mem) (ds : List D) (P : ((List D × (Mem → Prop)) × Mem) → Prop) : revQ M (.tup ds) P = P ((ds.reverse, fun _ => True), M) := by simp [revQ]
theorem revQ_ref {M : Mem} {n : Nat} {ds : List D} (h : M[n]? = some (.lst ds)) (P : ((List D × (Mem → Prop)) × Mem) → Prop) : revQ M (.ref n) P = P ((ds.reverse, fun M => asLs M (.ref n) = some ds), M) := by simp [revQ, h]
@[simp] theorem asTr (n : Nat) : asT (.ref n) = none := rfl
/-! ### walks of what is written -/
section
variable {b : FB} {body : FS} {q : FT} {f : FE} {kp : Mem → Prop} {env : En} {M : Mem}
open Classical in
@[simp] theorem to_goN (P : Fw × En × Mem → Prop) : To (fForGo b body kp [] env M) P = (kp M ∧ P (.nx, env, M)) := by
  unfold fForGo
  rw [to_iteN, to_some]
open Classical in
@[simp] theorem to_goC (d : D) (ds : List D) (P : Fw × En × Mem → Prop) : To (fForGo b body kp (d :: ds) env M) P = (kp M ∧ To (b d env) fun env1 => To (body env1 M) fun p => match p.1 with
    | .nx => To (fForGo b body kp ds p.2.1 p.2.2) P
    | .ct => To (fForGo b body kp ds p.2.1 p.2.2) P
    | .bk => P (.nx, p.2.1, p.2.2)
    | .rt _ => P p) := by
  conv => lhs; unfold fForGo
  rw [to_iteN]
  congr 1
  rw [to_bind]
  congr 1
  funext env1
  rw [to_bind]
  congr 1
  funext p
  obtain ⟨fl, e, m⟩ := p
  cases fl <;> simp
end
theorem add_rl {M : Mem} {n : Nat} {xs ys : List D} (h : M[n]? = some (.lst xs)) (hl : xs.length + ys.length ≤ sizeLine) : gAdd M (.ref n) (.lst ys) = some (.n (.lst (xs ++ ys))) := by
  simp [gAdd, h, hl]
theorem add_rr {M : Mem} {n m : Nat} {xs ys : List D} (h : M[n]? = some (.lst xs)) (h2 : M[m]? = some (.lst ys)) (hl : xs.length + ys.length ≤ sizeLine) : gAdd M (.ref n) (.ref m) = some (.n (.lst (xs ++ ys))) := by
  simp [gAdd, h, h2, hl]
@[simp] theorem e_addS (M : Mem) (x y : Str) : gAdd M (.str x) (.str y) = if x.length + y.length ≤ sizeLine then some (.v (.str (x ++ y))) else none := rfl
theorem lenS {M : Mem} {z : Str} (h : z.length ≤ sizeLine) : gLen M [.str z] = some (.v (.int z.length)) := by
  simp [gLen, h]
theorem len_ref {M : Mem} {n : Nat} {xs : List D} (h : M[n]? = some (.lst xs)) : gLen M [.ref n] = some (.v (.int xs.length)) := by
  simp [gLen, asS, h]
theorem log_of {i : Int} (h0 : 0 ≤ i) (h : i ≤ 1000000) : i.natAbs.log2 < 1920 := by
  have h3 : i.natAbs < 2 ^ 64 := by omega
  by_cases hz : i.natAbs = 0
  · rw [hz]; decide
  · have h4 : i.natAbs.log2 < 64 := (Nat.log2_lt hz).mpr h3
    omega
theorem strI {M : Mem} {i : Int} (h0 : 0 ≤ i) (h : i ≤ 1000000) : gStr M [.int i] = some (.v (.str (Str.ofString (Int.repr i)))) := by
  simp [gStr, log_of h0 h]
theorem strs_D : ∀ xs : List Str, strsD (xs.map D.str) = some xs
  | [] => rfl
  | x :: xs => by simp [strsD, strs_D xs]
theorem join_lst {M : Mem} {a : Str} {ys : List Str} (h : (ys.map (·.length)).sum + ys.length * a.length ≤ 16777216) : gJoin M (.str a) (.lst (ys.map D.str)) = some (.v (.str (Txt.join a ys))) := by
  simp [gJoin, strs_D, h]
theorem tl_len (x : Str) : x.length = (x.cps.toList).length := by simp [Str.length]
theorem joinL_len (S : List Nat) : ∀ ps : List (List Nat), (TL.joinL S ps).length ≤ (ps.map List.length).sum + ps.length * S.length
  | [] => by simp [TL.joinL]
  | [p] => by simp [TL.joinL]
  | p :: q :: r => by
    have := joinL_len S (q :: r)
    simp only [TL.joinL, List.length_append, List.map_cons, List.sum_cons, List.length_cons, Nat.add_mul, Nat.one_mul] at this ⊢
    omega
theorem join_len (a : Str) (ys : List Str) : (Txt.join a ys).length ≤ (ys.map (·.length)).sum + ys.length * a.length := by
  have h := joinL_len (TL.tl a) (ys.map TL.tl)
  rw [← TL.tl_join, ← TL.join_eq] at h
  rw [TL.len_tl, TL.len_tl a]
  simp only [List.map_map, List.length_map] at h
  rw [show (ys.map (·.length)) = ys.map (List.length ∘ TL.tl) from List.map_congr_left fun y _ => TL.len_tl y]
  exact h
/-- the last but one -/
theorem atI_m2 {α : Type} {l : List α} {a b : α} : atI (l ++ [a, b]) (-2) = some a := by
  unfold atI ixN
  rw [if_neg (by omega), if_pos (by simp; omega)]
  have : (-2 + ((l ++ [a, b]).length : Int)).toNat = l.length := by simp; omega
  have h2 : (((-2 : Int) + ((l ++ [a, b]).length : Int)).toNat) = l.length := this
  rw [Option.bind_some]
  show (l ++ [a, b])[((-2 : Int) + ((l ++ [a, b]).length : Int)).toNat]? = some a
  rw [h2]
  simp
theorem atI_m1 {α : Type} {l : List α} {a b : α} : atI (l ++ [a, b]) (-1) = some b := by
  have := Fl.atI_last (l := l ++ [a]) (a := b)
  simpa using this
theorem cut_m2 {α : Type} {l : List α} {a b : α} : cutL (l ++ [a, b]) none (some (-2)) = l := by
  unfold cutL HT.sIx
  have h2 : (-2 + ((l.length : Int) + 2)).toNat = l.length := by omega
  simp [h2]
/-! ### a list that is none, or some -/
def flatD : D → Bool
  | .non => true
  | .bl _ => true
  | .int _ => true
  | _ => false
theorem flat_ok (M : Mem) : ∀ {ds : List D}, (∀ d ∈ ds, flatD d = true) → ∃ ps, toPs M ds = some ps ∧ PyData.canLayAll0 ps = true ∧ PyData.depthAll ps = 0 ∧ ps.length = ds.length
  | [], _ => ⟨[], rfl, rfl, rfl, rfl⟩
  | d :: ds, h => by
    obtain ⟨ps, h1, h2, h3, h4⟩ := flat_ok M (ds := ds) fun x hx => h x (List.mem_cons_of_mem _ hx)
    have hd := h d List.mem_cons_self
    cases d with
    | non => exact ⟨.none :: ps, by simp [toPs, toP, h1], by simp [PyData.canLayAll0, PyData.canLay0, h2], by simp [PyData.depthAll, PyData.depth, h3], by simp [h4]⟩
    | bl b => exact ⟨.bool b :: ps, by simp [toPs, toP, h1], by simp [PyData.canLayAll0, PyData.canLay0, h2], by simp [PyData.depthAll, PyData.depth, h3], by simp [h4]⟩
    | int i => exact ⟨.int i :: ps, by simp [toPs, toP, h1], by simp [PyData.canLayAll0, PyData.canLay0, h2], by simp [PyData.depthAll, PyData.depth, h3], by simp [h4]⟩
    | _ => cases hd
theorem eqP_nil {M : Mem} {d : D} {ds : List D} (h : asL M d = some ds) (hf : ∀ d ∈ ds, flatD d = true) : eqP M d (.lst []) = some ds.isEmpty := by
  obtain ⟨ps, h1, h2, h3, h4⟩ := flat_ok M hf
  have e1 : toP1 M d = some (.list ps) := by
    unfold asL at h
    split at h
    · cases h; simp [toP1, toP, h1]
    · rename_i n
      split at h
      · rename_i ys hy; cases h; simp [toP1, hy, h1]
      · cases h
    · cases h
  have e2 : toP1 M (.lst []) = some (.list []) := rfl
  have s1 : SeqAt.shaped (.list ps) = true := by simp [SeqAt.shaped, PyData.canLay0, h2, PyData.depth, h3]
  have s2 : SeqAt.shaped (.list []) = true := by simp [SeqAt.shaped, PyData.canLay0, PyData.canLayAll0, PyData.depth, PyData.depthAll]
  unfold eqP
  rw [e1, e2]
  dsimp only
  rw [s1, s2]
  cases ds with
  | nil => rw [List.length_eq_zero_iff.mp h4]; rfl
  | cons x xs => cases ps with
    | nil => cases h4
    | cons y ys => rfl
theorem ne_nil {M : Mem} {d : D} {ds : List D} (h : asL M d = some ds) (hf : ∀ d ∈ ds, flatD d = true) : gNe M d (.lst []) = some (.v (.bl (!ds.isEmpty))) := by
  have := eqP_nil h hf
  cases d with
  | lst xs => simp [gNe, this]
  | ref n => simp [gNe, this]
  | _ => cases h
theorem eq_nil {M : Mem} {d : D} {ds : List D} (h : asL M d = some ds) (hf : ∀ d ∈ ds, flatD d = true) : gEq M d (.lst []) = some (.v (.bl ds.isEmpty)) := by
  have := eqP_nil h hf
  cases d with
  | lst xs => simp [gEq, this]
  | ref n => simp [gEq, this]
  | _ => cases h
/-! ### walks over a dict's keys -/
@[simp ↓] theorem to_forD (i : Nat) (b : FB) (body : FS) (env : En) (M : Mem) (P : Fw × En × Mem → Prop) : To (fForD i b body env M) P = match env[i]? with
  | some (some (.ref n)) => match M[n]? with
    | some (.dic t kvs) => To (fForGo b body (fun M => M[n]? = some (.lkd t kvs)) (kvs.map fun p => DK.d p.1) env (M.set n (.lkd t kvs))) fun p => p.2.2[n]? = some (.lkd t kvs) ∧ P (p.1, p.2.1, p.2.2.set n (.dic t kvs))
    | _ => False
  | _ => False := by
  classical
  unfold fForD
  split
  · split
    · simp_all [to_iteN]
    · simp_all
  · simp_all
@[simp ↓] theorem to_lcD (i : Nat) (b : FB) (q : FT) (f : FE) (vs : List Nat) (env : En) (M : Mem) (P : R × Mem → Prop) : To (fLcD i b q f vs env M) P = match env[i]? with
  | some (some (.ref n)) => match M[n]? with
    | some (.dic t kvs) => To (fLcGo b q f (fun M => M[n]? = some (.lkd t kvs)) (wipeE env vs) (kvs.map fun p => DK.d p.1) (M.set n (.lkd t kvs))) fun p => (p.2[n]? = some (.lkd t kvs) ∧ p.1.length ≤ sizeLine) ∧ P (.n (.lst p.1), p.2.set n (.dic t kvs))
    | _ => False
  | _ => False := by
  classical
  unfold fLcD
  split
  · split
    · simp_all [to_iteN]
    · simp_all
  · simp_all
@[simp] theorem int_bl (M : Mem) (b : Bool) : gInt M [.bl b] = some (.v (.int (if b = true then 1 else 0))) := rfl
@[simp] theorem int_int (M : Mem) (i : Int) : gInt M [.int i] = some (.v (.int i)) := rfl
end Fl
set_option Elab.async false
set_option linter.all false
set_option maxRecDepth 100000
/-! M3: a deck of the script's cells -/
namespace Fl
open PySem PySem.Spec PyProof.Rows L2 Sg
structure Dk where
  cs : List Int
  s : Int
  c : Int
def Dk.m (d : Dk) : Mem := [.lst (d.cs.map D.int), .lst [.ref 0, .int d.s, .int d.c]]
def Dk.ok (d : Dk) : Prop := d.cs.length ≤ 63
@[simp] theorem Dk.len (d : Dk) : List.length d.m = 2 := rfl
section
variable {d d' : Dk} {E E' X : Mem} {o x : O} {k : Nat} {P : R × Mem → Prop} {v : D}
@[simp high] theorem dk_get : (d.m ++ X)[2 + k]? = X[k]? := get_appn (M := d.m)
@[simp high] theorem dk_get0 : (d.m ++ o :: X)[2]? = some o := rfl
@[simp high] theorem dk_set : (d.m ++ X).set (2 + k) x = d.m ++ X.set k x := set_appn (M := d.m)
@[simp high] theorem dk_set0 : (d.m ++ o :: X).set 2 x = d.m ++ x :: X := rfl
theorem dk_okO (n : Nat) (d : Dk) : ∀ m o, m < 2 → (d.m ++ X)[m]? = some o → okO (n + 2) o = true := fun m o hm ho => by
  have : m = 0 ∨ m = 1 := by omega
  rcases this with rfl | rfl
  · cases ho
    simp only [okO]
    exact pures_ok _ _ (p_ints _)
  · cases ho
    simp [okO, okDs, okD]
theorem cut_dk (hv : pureD v = true) : trunc (d.m ++ E) (.v v, d'.m ++ (E ++ E')) = some (.v v, d'.m ++ E) := by
  have hl : List.length (d.m ++ E) = E.length + 2 := by simp; omega
  have ht : List.take (E.length + 2) (d'.m ++ (E ++ E')) = d'.m ++ E := by
    rw [← List.append_assoc]
    exact List.take_left' (by simp; omega)
  unfold trunc
  rw [if_pos]
  · cases v with
    | ref n => cases hv
    | _ => simp only [hl, pure_ok _ _ hv, if_true]; rw [ht]
  · intro n o hn ho
    rw [hl] at hn ⊢
    by_cases h2 : n < 2
    · exact .inr (dk_okO _ d' n o h2 ho)
    · refine .inl ?_
      obtain ⟨k, rfl⟩ : ∃ k, n = 2 + k := ⟨n - 2, by omega⟩
      rw [dk_get] at ho ⊢
      rw [List.getElem?_append_left (by omega)] at ho
      exact ho
@[simp, simp ↓] theorem to_cut_dk (hv : pureD v = true) : To (trunc (d.m ++ E) (.v v, d'.m ++ (E ++ E'))) P = P (.v v, d'.m ++ E) := to_eq (cut_dk hv) P
@[simp, simp ↓] theorem to_cut_dk0 (hv : pureD v = true) : To (trunc (d.m ++ E) (.v v, d'.m ++ E)) P = P (.v v, d'.m ++ E) := by
  have := cut_dk (d := d) (d' := d') (E := E) (E' := []) hv
  rw [List.append_nil] at this
  exact to_eq this P
end
theorem cm_c (i j : Int) (h : -(2 ^ 63) < j ∧ j < 2 ^ 63) : CMul i j := .inr ⟨by omega, by omega⟩
@[simp] theorem cm1 (i : Int) : CMul i 48271 := cm_c _ _ (by decide)
@[simp] theorem cm2 (i : Int) : CMul 65537 i := .inl (by decide)
@[simp] theorem cm3 (i : Int) : CMul 69621 i := .inl (by decide)
@[simp] theorem cm4 (i : Int) : CMul 7919 i := .inl (by decide)
@[simp] theorem cm5 (i j : Int) : CMul (i % 2147483647) j := .inl ⟨by have := Int.emod_nonneg i (b := 2147483647) (by decide); omega, by have := Int.emod_lt_of_pos i (b := 2147483647) (by decide); omega⟩
@[simp] theorem cm6 (i j : Int) : CMul (i % 2147483587) j := .inl ⟨by have := Int.emod_nonneg i (b := 2147483587) (by decide); omega, by have := Int.emod_lt_of_pos i (b := 2147483587) (by decide); omega⟩
@[simp] theorem cd64 (i : Int) : CDivW i 64 := cdiv_of (by decide) (by decide)
theorem emod_in (i : Int) {m : Int} (h : 0 < m) : 0 ≤ i % m ∧ i % m < m := ⟨Int.emod_nonneg i (by omega), Int.emod_lt_of_pos i h⟩
@[simp] theorem pow18 (M : Mem) : gPow M (.int 10) (.int 18) = some (.v (.int 1000000000000000000)) := by
  simp [gPow, gI, CPow]
theorem pop_ref {M : Mem} {n : Nat} {xs : List D} {x : D} (h : M[n]? = some (.lst (xs ++ [x]))) : gPop M (.ref n) [] = some (.v x, M.set n (.lst xs)) := by
  simp [gPop, h]
theorem setL {M : Mem} {n : Nat} {xs : List D} {i : Int} {d : D} (h : M[n]? = some (.lst xs)) (h0 : 0 ≤ i) (h1 : i < xs.length) : gSet M (.ref n) (.int i) d = some (M.set n (.lst (xs.set i.toNat d))) := by
  simp [gSet, gSetL, h, ixN, h0, h1]
/-! ### by what lies there -/
section
variable {M : Mem} {n : Nat}
theorem len_rf : gLen M [.ref n] = (asL M (.ref n)).map fun xs => .v (.int xs.length) := rfl
theorem tup_rf : gTuple M [.ref n] = (asL M (.ref n)).map fun xs => .v (.tup xs) := rfl
theorem ixx_rf {i : Int} : gIxx M (.ref n) (.int i) = match M[n]? with
    | some (.lst ds) => (atI ds i).map R.v
    | _ => gDix M (.ref n) (.int i) := by
  cases h : M[n]? with
  | none => simp [gIxx, e_ixR, asL, h]
  | some o => cases o with
    | lst ds => exact ixx_ref h
    | _ => simp [gIxx, e_ixR, asL, h]
theorem app_rf {d : D} : gApp M (.ref n) [d] = match M[n]? with
    | some (.lst xs) => if xs.length < sizeLine then some (.v .non, M.set n (.lst (xs ++ [d]))) else none
    | _ => none := rfl
theorem ext_rf {ys : List D} : gExt M (.ref n) [.lst ys] = match M[n]? with
    | some (.lst xs) => if xs.length + ys.length ≤ sizeLine then some (.v .non, M.set n (.lst (xs ++ ys))) else none
    | _ => none := by
  unfold gExt
  simp only [e_asLl]
  cases M[n]? with
  | none => rfl
  | some o => cases o <;> rfl
theorem set_rf {i : Int} {d : D} : gSet M (.ref n) (.int i) d = match M[n]? with
    | some (.lst xs) => (ixN xs.length i).map fun j => M.set n (.lst (xs.set j d))
    | _ => gSetD M (.ref n) (.int i) d := by
  cases h : M[n]? with
  | none => simp [gSet, gSetL, h]
  | some o => cases o with
    | lst xs => cases hx : ixN xs.length i <;> simp [gSet, gSetL, gSetD, h, hx]
    | _ => simp [gSet, gSetL, h]
theorem add_rf {ys : List D} : gAdd M (.ref n) (.lst ys) = match M[n]? with
    | some (.lst xs) => if xs.length + ys.length ≤ sizeLine then some (.n (.lst (xs ++ ys))) else none
    | _ => none := by
  unfold gAdd
  simp only [e_asLl, e_asLr]
  cases M[n]? with
  | none => rfl
  | some o => cases o <;> rfl
@[simp] theorem sl_tup {xs : List D} {lo hi : Option Int} : gSl M (.tup xs) lo hi = some (.v (.tup (cutL xs lo hi))) := rfl
@[simp] theorem list_tup {xs : List D} : gList M [.tup xs] = some (.n (.lst xs)) := rfl
@[simp] theorem list_lst {xs : List D} : gList M [.lst xs] = some (.n (.lst xs)) := rfl
theorem ixN_nat {l k : Nat} (h : k < l) : ixN l (k : Int) = some k := by
  unfold ixN
  rw [if_pos (by omega), if_pos (by omega), Int.toNat_natCast]
theorem atI_get {α : Type} {xs : List α} {k : Nat} (h : k < xs.length) : atI xs (k : Int) = some xs[k] := atI_ok (by omega) (by rw [Int.toNat_natCast]; exact List.getElem?_eq_getElem h)
end
end Fl
set_option Elab.async false
set_option linter.all false
set_option maxRecDepth 100000
/-! Fl16: the head's facts, brought to the defs by their functions. -/
namespace Fl
open PySem PySem.Spec PyProof.Rows L2
section
variable {P : Program} {w : World} {K : PySem.W.Frag} {mg : Str → Option Value} {base : Heap} {k : Nat} {f C : Addr} {fd : FuncData} {ps N : List Str} {x qual c m : Str} {st : Stmt} {dvs : List V}
abbrev FnP (K : PySem.W.Frag) (x qual : Str) (st : Stmt) (dvs : List V) (f : Addr) (fd : FuncData) : Prop := FunD K x qual (defArgs st) (defBody st) (defScope st) dvs [] f fd
theorem FnP.fun (F : FnP K x qual st [] f fd) : Fun K x qual st f fd := by
  obtain ⟨oc, od, dV, kV, doc, pm, an, cdv, ct, osl, e, lk, hcd, hD, hK⟩ := F.ex
  rcases hD with ⟨_, rfl⟩ | ⟨h, _⟩
  · exact ⟨⟨oc, od, kV, doc, pm, an, cdv, ct, osl, e, lk, hcd⟩, F.kp⟩
  · exact absurd rfl h
theorem dn_of (F : FnP K x x st [] f fd) (g : mg x = some (.ref f)) (b : L2.Binds K fd ps []) : Dn K mg x st ps := ⟨f, fd, F.fun, g, b⟩
theorem fl_fnD (F : FnP K x qual st dvs f fd) (S : FnScope N ps (defScope st)) {body : FS}
    (hb : ∀ (cdv : Value) (A : Around) (outer : List Env) (s : Shared) (H : Hp) (E : XK), Room k (A.deeper (envOfC qual (defScope st) s.heap.objs.size f cdv)) → SSs (cxOf CX0 P w K mg base N qual (defScope st) f cdv A outer s H E).nox (defBody st) body) :
    FnOk P w K mg base CX0 (k + 1) f fd ps (spF K mg ps.length (fTr (fFn N.length ps.length body))) := fn_tr <| by
  refine F.ok S (fun vs H Q E h => ?_) (fun cdv A outer s H vs Q E hr h => ?_)
  · obtain ⟨w, M, ds, r, M', e, rl, rd, hn, _⟩ := h
    rw [rd.length, hn]
  · refine ⟨_, PSs.nox (hb cdv A outer s H E hr), ?_⟩
    obtain ⟨w', M, ds, r, M', e, rl, rd, hn, hf, q⟩ := h
    unfold fFn at hf
    obtain ⟨⟨fl, env', M2⟩, hp, hf⟩ := Option.bind_eq_some_iff.mp hf
    have hl : vs.length = ps.length := by rw [rd.length, hn]
    have re : RE K mg w' (L2.start N vs) (ds.map some ++ List.replicate (N.length - ps.length) none) := by
      unfold L2.start
      rw [hl]
      exact RE.start rd _
    refine tIS.mk e rl re hp ?_
    cases fl with
    | nx => cases hf; exact fun σ' w2 l2 rl2 re2 => q .non w2 l2 rl2 (.of .mkNon)
    | rt r => cases hf; exact q
    | bk => cases hf
    | ct => cases hf
theorem me_of {body : FS} (gc : mg c = some (.ref C)) (Mt : Meth K C m f) (F : FnP K m qual st [] f fd) (S : FnScope N ps (defScope st)) (b : L2.Binds K fd ps []) (hps : ps.length = 1)
    (hb : ∀ (f : Addr) (cdv : Value) (A : Around) (outer : List Env) (s : Shared) (H : Hp) (E : XK), Room k (A.deeper (envOfC qual (defScope st) s.heap.objs.size f cdv)) → SSs (cxOf CX0 P w K mg base N qual (defScope st) f cdv A outer s H E).nox (defBody st) body) :
    MeF P w K mg base (k + 1) c m (fTr (fFn N.length 1 body)) := ⟨fun C' hC => by
  rw [gc] at hC
  cases hC
  have := fl_fnD F S (hb f)
  rw [hps] at this
  exact ⟨f, fd, ps, this, Mt.at_, Mt.fn, b⟩⟩
theorem mk_of {j : Nat} {dds : List D} {body : FS} (gc : mg c = some (.ref C)) (M : Mk K C f) (F : FnP K x qual st dvs f fd) (S : FnScope N ps (defScope st)) (b : ∃ ds, Vals (dvs.drop j) ds ∧ L2.Binds K fd ps ds) (hd : ∀ w, RDs K mg w (dvs.drop j) dds)
    (hb : ∀ (f : Addr) (cdv : Value) (A : Around) (outer : List Env) (s : Shared) (H : Hp) (E : XK), Room k (A.deeper (envOfC qual (defScope st) s.heap.objs.size f cdv)) → SSs (cxOf CX0 P w K mg base N qual (defScope st) f cdv A outer s H E).nox (defBody st) body) :
    Mkr P w K mg base (k + 1) c ps.length (fTr (fFn N.length ps.length body)) dds := by
  obtain ⟨ds, h1, h2⟩ := b
  exact ⟨C, f, fd, ps, ds, dvs.drop j, M, fl_fnD F S (hb f), gc, h2, h1, hd⟩
end
/-- the law, asked -/
theorem law_sp {K : PySem.W.Frag} {mg : Str → Option Value} {F : FF} (hF : ∀ xs, xs.length ≤ 63 → To (F [.scr xs] []) fun p => p = (.v (.bl true), [])) (H : Hp) (a : Addr) (ns : List Int) (hl : ns.length ≤ 63) (h : SqL K H a (ns.map V.int)) : spF K mg 1 F [.ref a] H (fun v _ => v = .bl true) fun _ _ _ => False := by
  obtain ⟨p, e, rfl⟩ := hF ns hl
  rcases h with h | h
  · refine ⟨⟨fun b => b = a, [], H⟩, [], [.scr ns], .v (.bl true), [], rfl, ⟨List.nodup_nil, rfl, fun _ _ z => (nomatch z), fun b hb => ?_, fun n b o z => (nomatch z)⟩, ?_, rfl, e, fun v w' _ _ rr => rr.d.bl⟩
    · rw [show b = a from hb]
      rcases h with h | ⟨o, h⟩
      · show H a ≠ none
        rw [h]; simp
      · show H a ≠ none
        rw [h]; simp
    · simp only [RDs, RD, and_true]
      exact ⟨a, rfl, .inl ⟨rfl, h⟩⟩
  · refine ⟨⟨fun _ => False, [], H⟩, [], [.scr ns], .v (.bl true), [], rfl, ⟨List.nodup_nil, rfl, fun _ z => z.elim, fun _ z => z.elim, fun n b o z => (nomatch z)⟩, ?_, rfl, e, fun v w' _ _ rr => rr.d.bl⟩
    simp only [RDs, RD, and_true]
    exact ⟨a, rfl, .inr h⟩
end Fl
set_option Elab.async false
set_option linter.all false
set_option maxRecDepth 100000
/-! Q84: skins, tables, cuts: the mathematics, in plain Lean -/
namespace G84
structure Part where
  al : Option Int
  ac : Option Int
  need : Int
structure Zone where
  gr : Bool
  len : Int
def Part.long (p : Part) (g : Bool) : Option Int := if g then p.ac else p.al
def addR (a b : List Int) : List Int := List.zipWith (· + ·) a b
def leL (a b : List Int) : List Bool := List.zipWith (fun x y => decide (x ≤ y)) a b
def leR (a b : List Int) : Bool := (leL a b).all id
abbrev Row3 (k : List Int) : Prop := k.length = 3
def grSt (acc : List (List Int)) (r : List Int) : List (List Int) := if acc.any (leR r) then acc else acc ++ [r]
structure LenOk (o : Option Int) : Prop where
  h : ∀ l, o = some l → 4 ≤ l ∧ l ≤ 24
structure PartOk (p : Part) : Prop where
  al : LenOk p.al
  ac : LenOk p.ac
  n1 : 1 ≤ p.need
  n2 : p.need ≤ 4
structure TabOk (t : List Part) : Prop where
  len : t.length = 3
  all : ∀ p ∈ t, PartOk p
structure ZoneOk (z : Zone) : Prop where
  lo : 1 ≤ z.len
  hi : z.len ≤ 24
theorem PartOk.long {p : Part} (h : PartOk p) (g : Bool) : LenOk (p.long g) := by cases g <;> simp only [Part.long] <;> first | exact h.al | exact h.ac
def zc1 (o : Option Int) (c : List Int × Int) : List (List Int × Int) := match o with
  | none => [(c.1 ++ [0], c.2)]
  | some l => (List.range (1 + c.2 / l).toNat).map fun (i : Nat) => (c.1 ++ [(i : Int)], c.2 - i * l)
def zcS (g : Bool) (fs : List (List Int × Int)) (p : Part) : List (List Int × Int) := fs.flatMap (zc1 (p.long g))
def zcF (z : Zone) (t : List Part) : List (List Int × Int) := t.foldl (zcS z.gr) [([], z.len)]
def zcL (z : Zone) (t : List Part) : List (List Int) := (zcF z t).map (·.1)
/-! ### what fits -/
def u1 (o : Option Int) (x : Int) : Int := if 0 < x then x * o.getD 0 else 0
def usedR (g : Bool) : List Part → List Int → Int
  | p :: t, c :: k => u1 (p.long g) c + usedR g t k
  | _, _ => 0
def canR (g : Bool) : List Part → List Int → Bool
  | p :: t, c :: k => ((p.long g).isSome || decide (c ≤ 0)) && canR g t k
  | _, _ => true
structure Fits (z : Zone) (t : List Part) (k : List Int) : Prop where
  len : k.length = t.length
  nn : ∀ c ∈ k, 0 ≤ c
  can : canR z.gr t k = true
  room : usedR z.gr t k ≤ z.len
theorem u1_nn {o : Option Int} (ho : LenOk o) {x : Int} : 0 ≤ u1 o x := by
  unfold u1
  split
  · cases o with
    | none => simp
    | some l => have := (ho.h l rfl).1; exact Int.mul_nonneg (by omega) (by show 0 ≤ l; omega)
  · omega
theorem zc1_mem {o : Option Int} (ho : LenOk o) {c d : List Int × Int} (hc : 0 ≤ c.2) : d ∈ zc1 o c ↔ ∃ x, 0 ≤ x ∧ (o.isSome || decide (x ≤ 0)) = true ∧ u1 o x ≤ c.2 ∧ d = (c.1 ++ [x], c.2 - u1 o x) := by
  cases o with
  | none =>
    simp only [zc1, List.mem_singleton, Option.isSome_none, Bool.false_or, decide_eq_true_eq]
    constructor
    · intro h
      exact ⟨0, by omega, by omega, by simp [u1]; omega, by simp [u1]; exact h⟩
    · rintro ⟨x, h1, h2, h3, h4⟩
      have : x = 0 := by omega
      subst this
      simpa [u1] using h4
  | some l =>
    obtain ⟨hl, _⟩ := ho.h l rfl
    simp only [zc1, List.mem_map, List.mem_range, Option.isSome_some, Bool.true_or, true_and]
    have eu : ∀ x : Int, 0 ≤ x → u1 (some l) x = x * l := fun x hx => by
      unfold u1
      split
      · rfl
      · have : x = 0 := by omega
        subst this; simp
    constructor
    · rintro ⟨i, hi, rfl⟩
      have h1 : (i : Int) ≤ c.2 / l := by omega
      have h2 := (Int.le_ediv_iff_mul_le (show 0 < l by omega)).mp h1
      exact ⟨i, by omega, by rw [eu _ (by omega)]; exact h2, by rw [eu _ (by omega)]⟩
    · rintro ⟨x, h1, h2, rfl⟩
      rw [eu x h1] at h2 ⊢
      have h3 := (Int.le_ediv_iff_mul_le (show 0 < l by omega)).mpr h2
      refine ⟨x.toNat, by omega, ?_⟩
      rw [Int.toNat_of_nonneg h1]
theorem zc_mem (g : Bool) {c : List Int × Int} : ∀ {t : List Part}, (∀ p ∈ t, PartOk p) → ∀ {fs : List (List Int × Int)}, (∀ d ∈ fs, 0 ≤ d.2) →
    (c ∈ t.foldl (zcS g) fs ↔ ∃ d ∈ fs, ∃ k : List Int, k.length = t.length ∧ (∀ x ∈ k, 0 ≤ x) ∧ canR g t k = true ∧ usedR g t k ≤ d.2 ∧ c = (d.1 ++ k, d.2 - usedR g t k))
  | [], _, fs, hf => by
    simp only [List.foldl_nil]
    constructor
    · intro h
      exact ⟨c, h, [], rfl, (fun _ h => nomatch h), by simp [canR], by simpa [usedR] using hf c h, by simp [usedR]⟩
    · rintro ⟨d, hd, k, hk, -, -, -, rfl⟩
      cases k with
      | nil => simpa [usedR] using hd
      | cons _ _ => cases hk
  | p :: t, hp, fs, hf => by
    have ho := (hp p List.mem_cons_self).long g
    rw [List.foldl_cons]
    have hf' : ∀ d ∈ zcS g fs p, 0 ≤ d.2 := fun d hd => by
      obtain ⟨e, he, hd⟩ := List.mem_flatMap.mp hd
      obtain ⟨x, h1, h2, h3, rfl⟩ := (zc1_mem ho (hf e he)).mp hd
      show 0 ≤ e.2 - _
      omega
    rw [zc_mem g (fun q hq => hp q (List.mem_cons_of_mem _ hq)) hf']
    constructor
    · rintro ⟨d, hd, k, h1, h2, h3, h4, rfl⟩
      obtain ⟨e, he, hd⟩ := List.mem_flatMap.mp hd
      obtain ⟨x, g1, g2, g3, rfl⟩ := (zc1_mem ho (hf e he)).mp hd
      refine ⟨e, he, x :: k, by simp [h1], ?_, ?_, ?_, ?_⟩
      · intro y hy
        rcases List.mem_cons.mp hy with rfl | hy
        · exact g1
        · exact h2 y hy
      · simp only [canR, g2, h3, Bool.and_self]
      · simp only [usedR] at h4 ⊢; omega
      · simp only [usedR, List.append_assoc, List.cons_append, List.nil_append, Prod.mk.injEq, true_and]; omega
    · rintro ⟨e, he, k, h1, h2, h3, h4, rfl⟩
      cases k with
      | nil => cases h1
      | cons x k =>
        simp only [canR, Bool.and_eq_true, usedR] at h3 h4
        have hu : 0 ≤ usedR g t k := by
          have := h2
          clear h4 h3
          have go : ∀ (t : List Part) (k : List Int), (∀ p ∈ t, PartOk p) → 0 ≤ usedR g t k := by
            intro t
            induction t with
            | nil => intro k _; cases k <;> simp [usedR]
            | cons q t ih =>
              intro k hq
              cases k with
              | nil => simp [usedR]
              | cons y k =>
                have := ih k (fun q hq' => hq q (List.mem_cons_of_mem _ hq'))
                have := u1_nn ((hq q List.mem_cons_self).long g) (x := y)
                simp only [usedR]; omega
          exact go t k fun q hq => hp q (List.mem_cons_of_mem _ hq)
        refine ⟨(e.1 ++ [x], e.2 - u1 (p.long g) x), List.mem_flatMap.mpr ⟨e, he, (zc1_mem ho (hf e he)).mpr ⟨x, h2 x List.mem_cons_self, h3.1, by omega, rfl⟩⟩, k, by simpa using h1, fun y hy => h2 y (List.mem_cons_of_mem _ hy), h3.2, by show _ ≤ e.2 - _; omega, ?_⟩
        simp only [usedR, List.append_assoc, List.cons_append, List.nil_append, Prod.mk.injEq, true_and]; omega
theorem usedR_nn (g : Bool) : ∀ {t : List Part} {k : List Int}, (∀ p ∈ t, PartOk p) → 0 ≤ usedR g t k
  | [], [], _ => by simp [usedR]
  | [], _ :: _, _ => by simp [usedR]
  | _ :: _, [], _ => by simp [usedR]
  | p :: t, c :: k, h => by
    have := usedR_nn g (t := t) (k := k) fun q hq => h q (List.mem_cons_of_mem _ hq)
    have := u1_nn ((h p List.mem_cons_self).long g) (x := c)
    simp only [usedR]; omega
theorem zcL_iff {z : Zone} (hz : ZoneOk z) {t : List Part} (ht : TabOk t) {k : List Int} : k ∈ zcL z t ↔ Fits z t k := by
  have h0 : ∀ d ∈ [(([] : List Int), z.len)], 0 ≤ d.2 := fun d hd => by
    rw [List.mem_singleton.mp hd]; have := hz.lo; show 0 ≤ z.len; omega
  unfold zcL zcF
  rw [List.mem_map]
  constructor
  · rintro ⟨c, hc, rfl⟩
    obtain ⟨d, hd, k, h1, h2, h3, h4, rfl⟩ := (zc_mem z.gr ht.all h0).mp hc
    rw [List.mem_singleton] at hd
    subst hd
    exact ⟨by simpa using h1, by simpa using h2, by simpa using h3, by simpa using h4⟩
  · rintro ⟨h1, h2, h3, h4⟩
    exact ⟨(k, z.len - usedR z.gr t k), (zc_mem z.gr ht.all h0).mpr ⟨_, List.mem_singleton.mpr rfl, k, h1, h2, h3, h4, by simp⟩, rfl⟩
/-! ### rows of three -/
theorem row3 {k : List Int} (h : Row3 k) : ∃ a b c, k = [a, b, c] := by
  match k, h with
  | [a, b, c], _ => exact ⟨a, b, c, rfl⟩
theorem tab3 {t : List Part} (h : TabOk t) : ∃ p q r, t = [p, q, r] ∧ PartOk p ∧ PartOk q ∧ PartOk r := by
  match t, h with
  | [p, q, r], h => exact ⟨p, q, r, rfl, h.all p (by simp), h.all q (by simp), h.all r (by simp)⟩
  | [], h => exact absurd h.len (by simp)
  | [_], h => exact absurd h.len (by simp)
  | [_, _], h => exact absurd h.len (by simp)
  | _ :: _ :: _ :: _ :: _, h => exact absurd h.len (by simp)
theorem addR_len {a b : List Int} (ha : Row3 a) (hb : Row3 b) : Row3 (addR a b) := by simp [addR, Row3, ha, hb]
theorem leR_refl (a : List Int) : leR a a = true := by
  induction a with
  | nil => rfl
  | cons x a ih => simpa [leR, leL] using ih
theorem leR3 {a b c a' b' c' : Int} : leR [a, b, c] [a', b', c'] = true ↔ a ≤ a' ∧ b ≤ b' ∧ c ≤ c' := by simp [leR, leL]
theorem leR_trans {a b c : List Int} (ha : Row3 a) (hb : Row3 b) (hc : Row3 c) (h : leR a b = true) (h' : leR b c = true) : leR a c = true := by
  obtain ⟨a1, a2, a3, rfl⟩ := row3 ha
  obtain ⟨b1, b2, b3, rfl⟩ := row3 hb
  obtain ⟨c1, c2, c3, rfl⟩ := row3 hc
  rw [leR3] at h h' ⊢
  omega
theorem leR_add {a b c d : List Int} (ha : Row3 a) (hb : Row3 b) (hc : Row3 c) (hd : Row3 d) (h : leR a b = true) (h' : leR c d = true) : leR (addR a c) (addR b d) = true := by
  obtain ⟨a1, a2, a3, rfl⟩ := row3 ha
  obtain ⟨b1, b2, b3, rfl⟩ := row3 hb
  obtain ⟨c1, c2, c3, rfl⟩ := row3 hc
  obtain ⟨d1, d2, d3, rfl⟩ := row3 hd
  rw [leR3] at h h'
  rw [show addR [a1, a2, a3] [c1, c2, c3] = [a1 + c1, a2 + c2, a3 + c3] from rfl, show addR [b1, b2, b3] [d1, d2, d3] = [b1 + d1, b2 + d2, b3 + d3] from rfl, leR3]
  omega
/-! ### the greatest -/
theorem gr_mem (xs : List (List Int)) : ∀ acc : List (List Int), ∀ k ∈ xs.foldl grSt acc, k ∈ acc ∨ k ∈ xs := by
  induction xs with
  | nil => intro acc k hk; exact .inl hk
  | cons x xs ih =>
    intro acc k hk
    rcases ih _ k hk with h | h
    · unfold grSt at h
      split at h
      · exact .inl h
      · rcases List.mem_append.mp h with h | h
        · exact .inl h
        · exact .inr (by rw [List.mem_singleton.mp h]; exact List.mem_cons_self)
    · exact .inr (List.mem_cons_of_mem _ h)
theorem gr_keep (xs : List (List Int)) : ∀ acc : List (List Int), ∀ k ∈ acc, k ∈ xs.foldl grSt acc := by
  induction xs with
  | nil => intro acc k hk; exact hk
  | cons x xs ih =>
    intro acc k hk
    refine ih _ k ?_
    unfold grSt
    split
    · exact hk
    · exact List.mem_append_left _ hk
theorem gr_cov (xs : List (List Int)) : ∀ acc : List (List Int), ∀ k ∈ xs, ∃ r ∈ xs.foldl grSt acc, leR k r = true := by
  induction xs with
  | nil => intro acc k hk; cases hk
  | cons x xs ih =>
    intro acc k hk
    rcases List.mem_cons.mp hk with rfl | hk
    · rw [List.foldl_cons]
      by_cases h : acc.any (leR k) = true
      · obtain ⟨r, hr, hl⟩ := List.any_eq_true.mp h
        exact ⟨r, gr_keep xs _ r (by unfold grSt; rw [if_pos h]; exact hr), hl⟩
      · exact ⟨k, gr_keep xs _ k (by unfold grSt; rw [if_neg h]; simp), leR_refl k⟩
    · exact ih _ k hk
/-! ### what can be reached -/
def reach1 (t : List Part) (S : List Int → Prop) (z : Zone) : List Int → Prop := fun s => ∃ r k, S r ∧ Fits z t k ∧ s = addR r k
def Reach (t : List Part) (zs : List Zone) : List Int → Prop := zs.foldl (reach1 t) fun s => s = [0, 0, 0]
theorem Reach.snoc {t : List Part} {zs : List Zone} {z : Zone} : Reach t (zs ++ [z]) = reach1 t (Reach t zs) z := by
  unfold Reach; rw [List.foldl_append]; rfl
theorem snoc_ind {α : Type} {P : List α → Prop} (h0 : P []) (h1 : ∀ xs x, P xs → P (xs ++ [x])) : ∀ xs, P xs := fun xs => by
  have : ∀ n, ∀ xs : List α, xs.length = n → P xs := by
    intro n
    induction n with
    | zero => intro xs h; rw [List.length_eq_zero_iff.mp h]; exact h0
    | succ n ih =>
      intro xs h
      have hne : xs ≠ [] := fun e => by rw [e] at h; cases h
      rw [← List.dropLast_concat_getLast hne]
      exact h1 _ _ (ih _ (by rw [List.length_dropLast, h]; rfl))
  exact this _ xs rfl
theorem Reach.row {t : List Part} (ht : TabOk t) : ∀ {zs : List Zone} {s : List Int}, Reach t zs s → Row3 s := fun {zs} => by
  induction zs using snoc_ind with
  | h0 => intro s h; rw [show s = [0, 0, 0] from h]; rfl
  | h1 zs z ih =>
    intro s h
    rw [Reach.snoc] at h
    obtain ⟨r, k, h1, h2, rfl⟩ := h
    exact addR_len (ih h1) (by rw [Row3, h2.len, ht.len])
structure Cov (S : List Int → Prop) (rows : List (List Int)) : Prop where
  h : ∀ s, S s → ∃ r ∈ rows, leR s r = true
theorem Cov.step {t : List Part} (ht : TabOk t) {zs : List Zone} {z : Zone} (hz : ZoneOk z) {rows rows' cuts : List (List Int)} (hr : ∀ r ∈ rows, Row3 r) (hr' : ∀ r ∈ rows', Row3 r) (hc : Cov (Reach t zs) rows)
    (hcut : ∀ k ∈ zcL z t, ∃ r ∈ cuts, leR k r = true) (hcr : ∀ k ∈ cuts, Row3 k) (h : ∀ r ∈ rows, ∀ k ∈ cuts, ∃ q ∈ rows', leR (addR r k) q = true) : Cov (Reach t (zs ++ [z])) rows' := ⟨fun s hs => by
  rw [Reach.snoc] at hs
  obtain ⟨r, k, h1, h2, rfl⟩ := hs
  obtain ⟨r', g1, g2⟩ := hc.h r h1
  obtain ⟨k', g3, g4⟩ := hcut k ((zcL_iff hz ht).mpr h2)
  obtain ⟨q, g5, g6⟩ := h r' g1 k' g3
  have a1 := h1.row ht
  have a2 : Row3 k := by rw [Row3, h2.len, ht.len]
  exact ⟨q, g5, leR_trans (addR_len a1 a2) (addR_len (hr r' g1) (hcr k' g3)) (hr' q g5) (leR_add a1 (hr r' g1) a2 (hcr k' g3) g2 g4) g6⟩⟩
/-! ### pairs -/
def prL (t : List Part) (k : List Int) : List Int := List.zipWith (fun c (p : Part) => c / p.need) k t
def prF (t : List Part) (k : List Int) : Int := (prL t k).min?.getD 0
theorem prF3 (p q r : Part) (a b c : Int) : prF [p, q, r] [a, b, c] = min (min (a / p.need) (b / q.need)) (c / r.need) := by
  simp [prF, prL, List.min?_cons']
theorem prF_mono {t : List Part} (ht : TabOk t) {a b : List Int} (ha : Row3 a) (hb : Row3 b) (h : leR a b = true) : prF t a ≤ prF t b := by
  obtain ⟨p, q, r, rfl, hp, hq, hr⟩ := tab3 ht
  obtain ⟨a1, a2, a3, rfl⟩ := row3 ha
  obtain ⟨b1, b2, b3, rfl⟩ := row3 hb
  rw [leR3] at h
  rw [prF3, prF3]
  have h1 := Int.ediv_le_ediv (show 0 < p.need by have := hp.n1; omega) h.1
  have h2 := Int.ediv_le_ediv (show 0 < q.need by have := hq.n1; omega) h.2.1
  have h3 := Int.ediv_le_ediv (show 0 < r.need by have := hr.n1; omega) h.2.2
  omega
/-- the greatest of what all sums give -/
structure Most (t : List Part) (zs : List Zone) (m : Int) : Prop where
  le : ∀ s, Reach t zs s → prF t s ≤ m
  ex : ∃ s, Reach t zs s ∧ prF t s = m
theorem Most.uniq {t : List Part} {zs : List Zone} {m m' : Int} (h : Most t zs m) (h' : Most t zs m') : m = m' := by
  obtain ⟨s, h1, h2⟩ := h.ex
  obtain ⟨s', h3, h4⟩ := h'.ex
  have := h.le s' h3
  have := h'.le s h1
  omega
theorem max_of {xs : List Int} (h : xs ≠ []) : ∃ m, xs.max? = some m ∧ m ∈ xs ∧ ∀ x ∈ xs, x ≤ m := by
  cases e : xs.max? with
  | none => exact absurd (List.max?_eq_none_iff.mp e) h
  | some m =>
    have := (List.max?_eq_some_iff (xs := xs) (a := m)).mp e
    exact ⟨m, rfl, this.1, this.2⟩
theorem min_of {xs : List Int} (h : xs ≠ []) : ∃ m, xs.min? = some m ∧ m ∈ xs ∧ ∀ x ∈ xs, m ≤ x := by
  cases e : xs.min? with
  | none => exact absurd (List.min?_eq_none_iff.mp e) h
  | some m =>
    have := (List.min?_eq_some_iff (xs := xs) (a := m)).mp e
    exact ⟨m, rfl, this.1, this.2⟩
/-! ### cuts -/
def totR (cut : List (List Int)) : List Int := cut.foldr addR [0, 0, 0]
structure FitsAll (zs : List Zone) (t : List Part) (cut : List (List Int)) : Prop where
  len : cut.length = zs.length
  all : ∀ p ∈ zs.zip cut, Fits p.1 t p.2
theorem FitsAll.nil {t : List Part} : FitsAll [] t [] := ⟨rfl, fun _ h => nomatch h⟩
theorem FitsAll.cons {z : Zone} {zs : List Zone} {t : List Part} {k : List Int} {cut : List (List Int)} (h : Fits z t k) (hs : FitsAll zs t cut) : FitsAll (z :: zs) t (k :: cut) := ⟨by simp [hs.len], fun p hp => by
  rcases List.mem_cons.mp hp with rfl | hp
  · exact h
  · exact hs.all p hp⟩
theorem FitsAll.snoc {z : Zone} {zs : List Zone} {t : List Part} {k : List Int} {cut : List (List Int)} (hs : FitsAll zs t cut) (h : Fits z t k) : FitsAll (zs ++ [z]) t (cut ++ [k]) := ⟨by simp [hs.len], fun p hp => by
  rw [List.zip_append hs.len.symm] at hp
  rcases List.mem_append.mp hp with hp | hp
  · exact hs.all p hp
  · rw [show p = (z, k) by simpa using hp]; exact h⟩
theorem FitsAll.rows {zs : List Zone} {t : List Part} (ht : TabOk t) {cut : List (List Int)} (hs : FitsAll zs t cut) : ∀ k ∈ cut, Row3 k := fun k hk => by
  obtain ⟨n, hn, rfl⟩ := List.mem_iff_getElem.mp hk
  have h2 : n < zs.length := by rw [← hs.len]; exact hn
  have := (hs.all (zs[n], cut[n]) (List.mem_iff_getElem.mpr ⟨n, by simp; omega, by simp⟩)).len
  rw [Row3, this, ht.len]
theorem addR0 {k : List Int} (h : Row3 k) : addR k [0, 0, 0] = k := by
  obtain ⟨a, b, c, rfl⟩ := row3 h
  simp [addR]
theorem addR0' {k : List Int} (h : Row3 k) : addR [0, 0, 0] k = k := by
  obtain ⟨a, b, c, rfl⟩ := row3 h
  simp [addR]
theorem addR_assoc {a b c : List Int} (ha : Row3 a) (hb : Row3 b) (hc : Row3 c) : addR (addR a b) c = addR a (addR b c) := by
  obtain ⟨a1, a2, a3, rfl⟩ := row3 ha
  obtain ⟨b1, b2, b3, rfl⟩ := row3 hb
  obtain ⟨c1, c2, c3, rfl⟩ := row3 hc
  simp [addR]; omega
theorem totR_row {cut : List (List Int)} (h : ∀ k ∈ cut, Row3 k) : Row3 (totR cut) := by
  induction cut with
  | nil => rfl
  | cons k cut ih => exact addR_len (h k List.mem_cons_self) (ih fun x hx => h x (List.mem_cons_of_mem _ hx))
theorem totR_snoc {cut : List (List Int)} (h : ∀ k ∈ cut, Row3 k) {k : List Int} (hk : Row3 k) : totR (cut ++ [k]) = addR (totR cut) k := by
  induction cut with
  | nil => show addR k [0, 0, 0] = addR [0, 0, 0] k; rw [addR0 hk, addR0' hk]
  | cons x cut ih =>
    have ih := ih fun x hx => h x (List.mem_cons_of_mem _ hx)
    show addR x (totR (cut ++ [k])) = addR (addR x (totR cut)) k
    rw [ih, addR_assoc (h x List.mem_cons_self) (totR_row fun x hx => h x (List.mem_cons_of_mem _ hx)) hk]
theorem FitsAll.reach {t : List Part} (ht : TabOk t) : ∀ {zs : List Zone} {cut : List (List Int)}, FitsAll zs t cut → Reach t zs (totR cut) := fun {zs} => by
  induction zs using snoc_ind with
  | h0 => 
    intro cut h
    have e : cut = [] := List.length_eq_zero_iff.mp (by rw [h.len]; rfl)
    subst e; rfl
  | h1 zs z ih =>
    intro cut h
    have hl := h.len
    have hne : cut ≠ [] := fun e => by rw [e] at hl; simp at hl
    have hrow := h.rows ht
    rw [← List.dropLast_concat_getLast hne] at h hrow ⊢
    have hl2 : cut.dropLast.length = zs.length := by rw [List.length_dropLast, hl]; simp
    have ha := h.all
    rw [List.zip_append hl2.symm] at ha
    have h1 : FitsAll zs t cut.dropLast := ⟨hl2, fun p hp => ha p (List.mem_append_left _ hp)⟩
    have h2 : Fits z t (cut.getLast hne) := ha (z, cut.getLast hne) (List.mem_append_right _ (by simp))
    rw [totR_snoc (fun x hx => hrow x (List.mem_append_left _ hx)) (hrow _ (List.mem_append_right _ (by simp))), Reach.snoc]
    exact ⟨_, _, ih h1, h2, rfl⟩
/-! ### a whole cut -/
def minR (a b : List Int) : List Int := List.zipWith min a b
def subR (a b : List Int) : List Int := List.zipWith (· - ·) a b
def wcL : List Int → List (List Int) → List (List Int)
  | _, [] => []
  | left, k :: cut => minR k left :: wcL (subR left (minR k left)) cut
def needR (t : List Part) (m : Int) : List Int := t.map fun p => m * p.need
theorem Fits.less {z : Zone} {t : List Part} (ht : TabOk t) {a b : List Int} (ha : Row3 a) (h : Fits z t b) (hl : leR a b = true) (hn : ∀ c ∈ a, 0 ≤ c) : Fits z t a := by
  have hb : Row3 b := by rw [Row3, h.len, ht.len]
  obtain ⟨p, q, r, rfl, hp, hq, hr⟩ := tab3 ht
  obtain ⟨a1, a2, a3, rfl⟩ := row3 ha
  obtain ⟨b1, b2, b3, rfl⟩ := row3 hb
  rw [leR3] at hl
  have one : ∀ (o : Option Int) (x y : Int), LenOk o → x ≤ y → u1 o x ≤ u1 o y := fun o x y ho hxy => by
    have hg : 0 ≤ o.getD 0 := by
      cases o with
      | none => simp
      | some l => have := (ho.h l rfl).1; show 0 ≤ l; omega
    unfold u1
    split
    · rw [if_pos (by omega)]; exact Int.mul_le_mul_of_nonneg_right hxy hg
    · split
      · exact Int.mul_nonneg (by omega) hg
      · omega
  have can : ∀ (o : Option Int) (x y : Int), x ≤ y → (o.isSome || decide (y ≤ 0)) = true → (o.isSome || decide (x ≤ 0)) = true := fun o x y hxy h => by
    cases o with
    | some _ => rfl
    | none => simp at h ⊢; omega
  refine ⟨h.len, hn, ?_, ?_⟩
  · have := h.can
    simp only [canR, Bool.and_true, Bool.and_eq_true] at this ⊢
    exact ⟨can _ _ _ hl.1 this.1, can _ _ _ hl.2.1 this.2.1, can _ _ _ hl.2.2 this.2.2⟩
  · have := h.room
    simp only [usedR] at this ⊢
    have := one _ _ _ (hp.long z.gr) hl.1
    have := one _ _ _ (hq.long z.gr) hl.2.1
    have := one _ _ _ (hr.long z.gr) hl.2.2
    omega
theorem totR_nn {t : List Part} (ht : TabOk t) : ∀ {zs : List Zone} {cut : List (List Int)}, FitsAll zs t cut → ∀ c ∈ totR cut, 0 ≤ c
  | [], [], _ => by simp [totR]
  | [], _ :: _, h => absurd h.len (by simp)
  | _ :: _, [], h => absurd h.len (by simp)
  | z :: zs, k :: cut, h => by
    have hf : Fits z t k := h.all (z, k) (by simp)
    have hfs : FitsAll zs t cut := ⟨by simpa using h.len, fun p hp => h.all p (by simp [hp])⟩
    have ih := totR_nn ht hfs
    have h1 := hf.nn
    have hk : Row3 k := by rw [Row3, hf.len, ht.len]
    obtain ⟨a, b, c, rfl⟩ := row3 hk
    obtain ⟨x, y, w, e⟩ := row3 (totR_row (hfs.rows ht))
    show ∀ v ∈ addR [a, b, c] (totR cut), 0 ≤ v
    rw [e] at ih ⊢
    simp [addR] at h1 ih ⊢
    omega
theorem wc_ok {t : List Part} (ht : TabOk t) : ∀ {zs : List Zone} {cut : List (List Int)} {left : List Int}, FitsAll zs t cut → Row3 left → (∀ c ∈ left, 0 ≤ c) → leR left (totR cut) = true → FitsAll zs t (wcL left cut) ∧ totR (wcL left cut) = left
  | [], [], left, _, hl, hn, hle => by
    obtain ⟨a, b, c, rfl⟩ := row3 hl
    rw [show totR ([] : List (List Int)) = [0, 0, 0] from rfl, leR3] at hle
    simp at hn
    refine ⟨.nil, ?_⟩
    show [0, 0, 0] = [a, b, c]
    simp; omega
  | [], _ :: _, _, h, _, _, _ => absurd h.len (by simp)
  | _ :: _, [], _, h, _, _, _ => absurd h.len (by simp)
  | z :: zs, k :: cut, left, h, hl, hn, hle => by
    have hf : Fits z t k := h.all (z, k) (by simp)
    have hfs : FitsAll zs t cut := ⟨by simpa using h.len, fun p hp => h.all p (by simp [hp])⟩
    have hk : Row3 k := by rw [Row3, hf.len, ht.len]
    have htot := totR_row (hfs.rows ht)
    have htn := totR_nn ht hfs
    have hnk := hf.nn
    have hm : Row3 (minR k left) := by simp [Row3, minR, hk, hl]
    have hs : Row3 (subR left (minR k left)) := by simp [Row3, subR, hm, hl]
    have e1 : leR (minR k left) k = true ∧ (∀ c ∈ minR k left, 0 ≤ c) ∧ (∀ c ∈ subR left (minR k left), 0 ≤ c) ∧ leR (subR left (minR k left)) (totR cut) = true ∧ addR (minR k left) (subR left (minR k left)) = left := by
      obtain ⟨a, b, c, rfl⟩ := row3 hl
      obtain ⟨a', b', c', rfl⟩ := row3 hk
      show _ ∧ _ ∧ _ ∧ _ ∧ _
      rw [show totR ([a', b', c'] :: cut) = addR [a', b', c'] (totR cut) from rfl] at hle
      obtain ⟨x, y, z', e⟩ := row3 htot
      rw [e] at hle htn ⊢
      rw [show addR [a', b', c'] [x, y, z'] = [a' + x, b' + y, c' + z'] from rfl, leR3] at hle
      simp at hn hnk htn
      rw [show minR [a', b', c'] [a, b, c] = [min a' a, min b' b, min c' c] from rfl, show subR [a, b, c] [min a' a, min b' b, min c' c] = [a - min a' a, b - min b' b, c - min c' c] from rfl, leR3, leR3]
      simp [addR]
      omega
    obtain ⟨g1, g2, g3, g4, g5⟩ := e1
    obtain ⟨i1, i2⟩ := wc_ok ht hfs hs g3 g4
    refine ⟨.cons (hf.less ht hm g1 g2) i1, ?_⟩
    show addR (minR k left) (totR (wcL (subR left (minR k left)) cut)) = left
    rw [i2, g5]
theorem need_le {t : List Part} (ht : TabOk t) {k : List Int} (hk : Row3 k) (m : Int) (h : m ≤ prF t k) : leR (needR t m) k = true := by
  obtain ⟨p, q, r, rfl, hp, hq, hr⟩ := tab3 ht
  obtain ⟨a, b, c, rfl⟩ := row3 hk
  rw [prF3] at h
  show leR [_, _, _] _ = true
  rw [leR3]
  have g1 := (Int.le_ediv_iff_mul_le (show 0 < p.need by have := hp.n1; omega)).mp (show m ≤ a / p.need by omega)
  have g2 := (Int.le_ediv_iff_mul_le (show 0 < q.need by have := hq.n1; omega)).mp (show m ≤ b / q.need by omega)
  have g3 := (Int.le_ediv_iff_mul_le (show 0 < r.need by have := hr.n1; omega)).mp (show m ≤ c / r.need by omega)
  exact ⟨g1, g2, g3⟩
theorem need_pr {t : List Part} (ht : TabOk t) (m : Int) : prF t (needR t m) = m := by
  obtain ⟨p, q, r, rfl, hp, hq, hr⟩ := tab3 ht
  show prF _ [_, _, _] = m
  rw [prF3, Int.mul_ediv_cancel _ (by have := hp.n1; omega), Int.mul_ediv_cancel _ (by have := hq.n1; omega), Int.mul_ediv_cancel _ (by have := hr.n1; omega)]
  omega
theorem needR_row {t : List Part} (ht : TabOk t) (m : Int) : Row3 (needR t m) := by simp [needR, Row3, ht.len]
theorem needR_nn {t : List Part} (ht : TabOk t) {m : Int} (hm : 0 ≤ m) : ∀ c ∈ needR t m, 0 ≤ c := fun c hc => by
  obtain ⟨p, hp, rfl⟩ := List.mem_map.mp hc
  exact Int.mul_nonneg hm (by have := (ht.all p hp).n1; omega)
/-! ### dicts of rows -/
section
variable {β : Type}
def putR (kvs : List (List Int × β)) (k : List Int) (v : β) : List (List Int × β) := if kvs.any fun p => decide (p.1 = k) then kvs.map fun p => if p.1 = k then (p.1, v) else p else kvs ++ [(k, v)]
def lookR (kvs : List (List Int × β)) (k : List Int) : Option β := (kvs.find? fun p => decide (p.1 = k)).map (·.2)
def keysR (kvs : List (List Int × β)) : List (List Int) := kvs.map (·.1)
theorem any_keys {kvs : List (List Int × β)} {k : List Int} : (kvs.any fun p => decide (p.1 = k)) = true ↔ k ∈ keysR kvs := by
  rw [List.any_eq_true, keysR, List.mem_map]
  constructor
  · rintro ⟨p, h1, h2⟩; exact ⟨p, h1, by simpa using h2⟩
  · rintro ⟨p, h1, h2⟩; exact ⟨p, h1, by simpa using h2⟩
theorem putR_keys_in {kvs : List (List Int × β)} {k : List Int} {v : β} (h : k ∈ keysR kvs) : keysR (putR kvs k v) = keysR kvs := by
  unfold putR
  rw [if_pos (any_keys.mpr h), keysR, List.map_map]
  refine List.map_congr_left fun p _ => ?_
  show (if p.1 = k then (p.1, v) else p).1 = p.1
  split <;> rfl
theorem putR_keys_out {kvs : List (List Int × β)} {k : List Int} {v : β} (h : k ∉ keysR kvs) : keysR (putR kvs k v) = keysR kvs ++ [k] := by
  unfold putR
  rw [if_neg (fun z => h (any_keys.mp z)), keysR, List.map_append]; rfl
theorem putR_mem {kvs : List (List Int × β)} {k : List Int} {v : β} {p : List Int × β} (h : p ∈ putR kvs k v) : p = (k, v) ∨ p ∈ kvs := by
  unfold putR at h
  split at h
  · obtain ⟨q, hq, e⟩ := List.mem_map.mp h
    split at e
    · rename_i hk; left; rw [← e, hk]
    · right; rw [← e]; exact hq
  · rcases List.mem_append.mp h with h | h
    · exact .inr h
    · exact .inl (List.mem_singleton.mp h)
theorem putR_keys {kvs : List (List Int × β)} {k k' : List Int} {v : β} : k' ∈ keysR (putR kvs k v) ↔ k' ∈ keysR kvs ∨ k' = k := by
  by_cases h : k ∈ keysR kvs
  · rw [putR_keys_in h]
    constructor
    · exact .inl
    · rintro (z | z)
      · exact z
      · rw [z]; exact h
  · rw [putR_keys_out h, List.mem_append, List.mem_singleton]
theorem putR_nodup {kvs : List (List Int × β)} {k : List Int} {v : β} (h : (keysR kvs).Nodup) : (keysR (putR kvs k v)).Nodup := by
  by_cases hk : k ∈ keysR kvs
  · rw [putR_keys_in hk]; exact h
  · rw [putR_keys_out hk]
    exact List.nodup_append.mpr ⟨h, by simp, fun x hx y hy e => hk (by rw [← List.mem_singleton.mp hy, ← e]; exact hx)⟩
theorem lookR_of {kvs : List (List Int × β)} {k : List Int} (h : k ∈ keysR kvs) : ∃ v, lookR kvs k = some v ∧ (k, v) ∈ kvs := by
  unfold lookR
  cases e : kvs.find? fun p => decide (p.1 = k) with
  | none =>
    obtain ⟨p, h1, h2⟩ := List.mem_map.mp h
    have := List.find?_eq_none.mp e p h1
    simp [h2] at this
  | some p =>
    have h1 := List.find?_some e
    have h2 := List.mem_of_find?_eq_some e
    have h3 : p.1 = k := by simpa using h1
    exact ⟨p.2, rfl, by rw [← h3]; exact h2⟩
/-- what rows and cuts come to, by turns -/
def fdIn (f : List Int → List Int → β) (r : List Int) (cuts : List (List Int)) (acc : List (List Int × β)) : List (List Int × β) := cuts.foldl (fun acc k => putR acc (addR r k) (f r k)) acc
def fdL (f : List Int → List Int → β) (rows cuts : List (List Int)) : List (List Int × β) := rows.foldl (fun acc r => fdIn f r cuts acc) []
structure FdOk (f : List Int → List Int → β) (P : List Int → List Int → Prop) (acc : List (List Int × β)) : Prop where
  nd : (keysR acc).Nodup
  ent : ∀ e ∈ acc, ∃ r k, P r k ∧ e = (addR r k, f r k)
  all : ∀ r k, P r k → addR r k ∈ keysR acc
theorem FdOk.put {f : List Int → List Int → β} {P P' : List Int → List Int → Prop} {acc : List (List Int × β)} (h : FdOk f P acc) {r k : List Int} (hp : ∀ a b, P' a b ↔ P a b ∨ (a = r ∧ b = k)) : FdOk f P' (putR acc (addR r k) (f r k)) where
  nd := putR_nodup h.nd
  ent := fun e he => by
    rcases putR_mem he with rfl | he
    · exact ⟨r, k, (hp _ _).mpr (.inr ⟨rfl, rfl⟩), rfl⟩
    · obtain ⟨a, b, h1, h2⟩ := h.ent e he
      exact ⟨a, b, (hp _ _).mpr (.inl h1), h2⟩
  all := fun a b hab => by
    rw [putR_keys]
    rcases (hp a b).mp hab with h1 | ⟨rfl, rfl⟩
    · exact .inl (h.all a b h1)
    · exact .inr rfl
theorem FdOk.inn {f : List Int → List Int → β} {r : List Int} : ∀ {cuts : List (List Int)} {P : List Int → List Int → Prop} {acc : List (List Int × β)}, FdOk f P acc → FdOk f (fun a b => P a b ∨ (a = r ∧ b ∈ cuts)) (fdIn f r cuts acc)
  | [], P, acc, h => by
    have e : (fun a b => P a b ∨ (a = r ∧ b ∈ ([] : List (List Int)))) = P := by funext a b; simp
    rw [e]; exact h
  | k :: cuts, P, acc, h => by
    have := FdOk.inn (r := r) (cuts := cuts) (h.put (P' := fun a b => P a b ∨ (a = r ∧ b = k)) (r := r) (k := k) fun a b => Iff.rfl)
    have e : (fun a b => (P a b ∨ (a = r ∧ b = k)) ∨ (a = r ∧ b ∈ cuts)) = (fun a b => P a b ∨ (a = r ∧ b ∈ k :: cuts)) := by
      funext a b
      rw [List.mem_cons, or_assoc, ← and_or_left]
    rw [e] at this
    exact this
theorem FdOk.out {f : List Int → List Int → β} {cuts : List (List Int)} : ∀ {rows : List (List Int)} {P : List Int → List Int → Prop} {acc : List (List Int × β)}, FdOk f P acc → FdOk f (fun a b => P a b ∨ (a ∈ rows ∧ b ∈ cuts)) (rows.foldl (fun acc r => fdIn f r cuts acc) acc)
  | [], P, acc, h => by
    have e : (fun a b => P a b ∨ (a ∈ ([] : List (List Int)) ∧ b ∈ cuts)) = P := by funext a b; simp
    rw [e]; exact h
  | r :: rows, P, acc, h => by
    have := FdOk.out (cuts := cuts) (rows := rows) (h.inn (r := r) (cuts := cuts))
    have e : (fun a b => (P a b ∨ (a = r ∧ b ∈ cuts)) ∨ (a ∈ rows ∧ b ∈ cuts)) = (fun a b => P a b ∨ (a ∈ r :: rows ∧ b ∈ cuts)) := by
      funext a b
      rw [List.mem_cons, or_assoc, or_and_right]
    rw [e] at this
    exact this
theorem fd_ok (f : List Int → List Int → β) (rows cuts : List (List Int)) : FdOk f (fun a b => a ∈ rows ∧ b ∈ cuts) (fdL f rows cuts) := by
  have h0 : FdOk f (fun _ _ => False) ([] : List (List Int × β)) := ⟨List.nodup_nil, (fun _ h => nomatch h), fun _ _ h => h.elim⟩
  have := h0.out (cuts := cuts) (rows := rows)
  have e : (fun a b => False ∨ (a ∈ rows ∧ b ∈ cuts)) = (fun a b => a ∈ rows ∧ b ∈ cuts) := by funext a b; simp
  rw [e] at this
  exact this
theorem fd_key {f : List Int → List Int → β} {rows cuts : List (List Int)} {s : List Int} : s ∈ keysR (fdL f rows cuts) ↔ ∃ r ∈ rows, ∃ k ∈ cuts, s = addR r k := by
  have h := fd_ok f rows cuts
  constructor
  · intro hs
    obtain ⟨e, he, rfl⟩ := List.mem_map.mp hs
    obtain ⟨r, k, ⟨h1, h2⟩, rfl⟩ := h.ent e he
    exact ⟨r, h1, k, h2, rfl⟩
  · rintro ⟨r, h1, k, h2, rfl⟩
    exact h.all r k ⟨h1, h2⟩
theorem putR_len (kvs : List (List Int × β)) (k : List Int) (v : β) : (putR kvs k v).length ≤ kvs.length + 1 := by
  unfold putR; split <;> simp
theorem fdIn_len {f : List Int → List Int → β} {r : List Int} : ∀ {cuts : List (List Int)} {acc : List (List Int × β)}, (fdIn f r cuts acc).length ≤ acc.length + cuts.length
  | [], acc => by simp [fdIn]
  | k :: cuts, acc => by
    have := fdIn_len (f := f) (r := r) (cuts := cuts) (acc := putR acc (addR r k) (f r k))
    have := putR_len acc (addR r k) (f r k)
    have e : fdIn f r (k :: cuts) acc = fdIn f r cuts (putR acc (addR r k) (f r k)) := rfl
    rw [e, List.length_cons]
    omega
theorem fdL_len {f : List Int → List Int → β} {cuts : List (List Int)} {n : Nat} (hn : cuts.length ≤ n) : ∀ {rows : List (List Int)} {acc : List (List Int × β)}, (rows.foldl (fun acc r => fdIn f r cuts acc) acc).length ≤ acc.length + n * rows.length
  | [], acc => by simp
  | r :: rows, acc => by
    have := fdL_len (f := f) hn (rows := rows) (acc := fdIn f r cuts acc)
    have := fdIn_len (f := f) (r := r) (cuts := cuts) (acc := acc)
    rw [List.foldl_cons, List.length_cons, Nat.mul_add]
    omega
end
/-! ### few rows -/
theorem nat_few : ∀ (n : Nat) (xs : List Nat), xs.Nodup → (∀ x ∈ xs, x < n) → xs.length ≤ n
  | 0, xs, _, h => by
    cases xs with
    | nil => simp
    | cons x xs => have := h x List.mem_cons_self; omega
  | n + 1, xs, hn, h => by
    by_cases hm : n ∈ xs
    · have := nat_few n (xs.erase n) (hn.erase n) fun x hx => by
        have h1 := h x (List.mem_of_mem_erase hx)
        have h2 : x ≠ n := fun e => (List.Nodup.mem_erase_iff hn).mp hx |>.1 e
        omega
      rw [List.length_erase_of_mem hm] at this
      omega
    · have := nat_few n xs hn fun x hx => by
        have h1 := h x hx
        have h2 : x ≠ n := fun e => hm (by rw [← e]; exact hx)
        omega
      omega
def codeR (k : List Int) : Nat := match k with
  | [a, b, c] => (100 * a + 10 * b + c).toNat
  | _ => 0
structure Box (k : List Int) : Prop where
  row : Row3 k
  h : ∀ c ∈ k, 0 ≤ c ∧ c ≤ 9
theorem few {xs : List (List Int)} (hn : xs.Nodup) (h : ∀ k ∈ xs, Box k) : xs.length ≤ 1000 := by
  have h1 : (xs.map codeR).Nodup := by
    rw [List.nodup_iff_pairwise_ne, List.pairwise_map]
    refine (List.Pairwise.and_mem.mp hn).imp fun {a b} ⟨ha, hb, hab⟩ e => hab ?_
    obtain ⟨r1, g1⟩ := h a ha
    obtain ⟨r2, g2⟩ := h b hb
    obtain ⟨a1, a2, a3, rfl⟩ := row3 r1
    obtain ⟨b1, b2, b3, rfl⟩ := row3 r2
    simp at g1 g2
    simp only [codeR] at e
    simp
    omega
  have h2 := nat_few 1000 (xs.map codeR) h1 fun x hx => by
    obtain ⟨k, hk, rfl⟩ := List.mem_map.mp hx
    obtain ⟨r1, g1⟩ := h k hk
    obtain ⟨a1, a2, a3, rfl⟩ := row3 r1
    simp at g1
    simp only [codeR]
    omega
  rwa [List.length_map] at h2
def lenZ (zs : List Zone) : Int := (zs.map (·.len)).sum
theorem used3 {z : Zone} {t : List Part} (ht : TabOk t) {k : List Int} (h : Fits z t k) : ∃ a b c, k = [a, b, c] ∧ 0 ≤ a ∧ 0 ≤ b ∧ 0 ≤ c ∧ 4 * (a + b + c) ≤ z.len := by
  have hk : Row3 k := by rw [Row3, h.len, ht.len]
  obtain ⟨p, q, r, rfl, hp, hq, hr⟩ := tab3 ht
  obtain ⟨a, b, c, rfl⟩ := row3 hk
  have hn := h.nn
  have hc := h.can
  have hu := h.room
  simp at hn
  simp only [canR, Bool.and_true, Bool.and_eq_true] at hc
  simp only [usedR] at hu
  have one : ∀ (o : Option Int) (x : Int), LenOk o → 0 ≤ x → (o.isSome || decide (x ≤ 0)) = true → 4 * x ≤ u1 o x := fun o x ho hx h => by
    unfold u1
    cases o with
    | none => simp at h; split <;> omega
    | some l =>
      have := (ho.h l rfl).1
      split
      · have := Int.mul_le_mul_of_nonneg_left this hx
        show 4 * x ≤ x * l
        omega
      · omega
  have := one _ _ (hp.long z.gr) hn.1 hc.1
  have := one _ _ (hq.long z.gr) hn.2.1 hc.2.1
  have := one _ _ (hr.long z.gr) hn.2.2 hc.2.2
  exact ⟨a, b, c, rfl, hn.1, hn.2.1, hn.2.2, by omega⟩
theorem Reach.small {t : List Part} (ht : TabOk t) : ∀ {zs : List Zone} {s : List Int}, Reach t zs s → ∃ a b c, s = [a, b, c] ∧ 0 ≤ a ∧ 0 ≤ b ∧ 0 ≤ c ∧ 4 * (a + b + c) ≤ lenZ zs := fun {zs} => by
  induction zs using snoc_ind with
  | h0 => intro s h; exact ⟨0, 0, 0, h, by simp [lenZ]⟩
  | h1 zs z ih =>
    intro s h
    rw [Reach.snoc] at h
    obtain ⟨r, k, h1, h2, rfl⟩ := h
    obtain ⟨a, b, c, rfl, g1, g2, g3, g4⟩ := ih h1
    obtain ⟨x, y, w, rfl, f1, f2, f3, f4⟩ := used3 ht h2
    refine ⟨a + x, b + y, c + w, rfl, by omega, by omega, by omega, ?_⟩
    have e : lenZ (zs ++ [z]) = lenZ zs + z.len := by simp [lenZ]
    rw [e]
    omega
theorem Reach.box {t : List Part} (ht : TabOk t) {zs : List Zone} (hz : lenZ zs ≤ 36) {s : List Int} (h : Reach t zs s) : Box s := by
  obtain ⟨a, b, c, rfl, g1, g2, g3, g4⟩ := h.small ht
  exact ⟨rfl, by simp; omega⟩
theorem Reach.zero {t : List Part} (ht : TabOk t) : ∀ {zs : List Zone}, (∀ z ∈ zs, ZoneOk z) → Reach t zs [0, 0, 0] := fun {zs} => by
  induction zs using snoc_ind with
  | h0 => intro _; rfl
  | h1 zs z ih =>
    intro h
    rw [Reach.snoc]
    refine ⟨_, [0, 0, 0], ih (fun y hy => h y (List.mem_append_left _ hy)), ?_, rfl⟩
    obtain ⟨p, q, r, rfl, hp, hq, hr⟩ := tab3 ht
    refine ⟨rfl, by simp, by simp [canR], ?_⟩
    have := (h z (by simp)).lo
    simp [usedR, u1]; omega
/-! ### the steps -/
structure Gr (xs ys : List (List Int)) : Prop where
  sub : ∀ k ∈ ys, k ∈ xs
  cov : ∀ k ∈ xs, ∃ r ∈ ys, leR k r = true
  nd : ys.Nodup
theorem gr_nd (xs : List (List Int)) : ∀ acc : List (List Int), acc.Nodup → (xs.foldl grSt acc).Nodup := by
  induction xs with
  | nil => intro acc h; exact h
  | cons x xs ih =>
    intro acc h
    refine ih _ ?_
    unfold grSt
    split
    · exact h
    · rename_i hx
      refine List.nodup_append.mpr ⟨h, by simp, fun y hy w hw e => hx (List.any_eq_true.mpr ⟨y, hy, ?_⟩)⟩
      rw [← List.mem_singleton.mp hw, e]; exact leR_refl _
theorem gr_ok {xs ys : List (List Int)} (h : ∀ k, k ∈ xs ↔ k ∈ ys) : Gr ys (xs.foldl grSt []) where
  sub := fun k hk => by
    rcases gr_mem xs [] k hk with z | z
    · cases z
    · exact (h k).mp z
  cov := fun k hk => gr_cov xs [] k ((h k).mpr hk)
  nd := gr_nd xs [] List.nodup_nil
abbrev Stt := List (List Int × (List Int × List Int))
structure St1 (t : List Part) (z : Zone) (rows cuts : List (List Int)) (st : Stt) : Prop where
  ent : ∀ e ∈ st, e.2.1 ∈ rows ∧ Fits z t e.2.2 ∧ e.1 = addR e.2.1 e.2.2
  nd : (keysR st).Nodup
  cov : ∀ r ∈ rows, ∀ k ∈ cuts, ∃ q ∈ keysR st, leR (addR r k) q = true
def wbL (gl : List (List Int) → List (List Int)) (rows cuts : List (List Int)) : Stt := (gl (keysR (fdL Prod.mk rows cuts))).map fun r => (r, (lookR (fdL Prod.mk rows cuts) r).getD ([], []))
theorem wb_ok {gl : List (List Int) → List (List Int)} (hg : ∀ xs, Gr xs (gl xs)) {t : List Part} {z : Zone} {rows cuts : List (List Int)} (hc : ∀ k ∈ cuts, Fits z t k) : St1 t z rows cuts (wbL gl rows cuts) := by
  have hk : keysR (wbL gl rows cuts) = gl (keysR (fdL Prod.mk rows cuts)) := by
    unfold wbL keysR
    rw [List.map_map]
    exact List.map_id _
  have hG := hg (keysR (fdL Prod.mk rows cuts))
  refine ⟨fun e he => ?_, by rw [hk]; exact hG.nd, fun r hr k hkk => ?_⟩
  · obtain ⟨s, hs, rfl⟩ := List.mem_map.mp he
    obtain ⟨v, h1, h2⟩ := lookR_of (hG.sub s hs)
    obtain ⟨r, k, ⟨h3, h4⟩, h5⟩ := (fd_ok Prod.mk rows cuts).ent _ h2
    rw [h1]
    cases h5
    exact ⟨h3, hc k h4, rfl⟩
  · rw [hk]
    exact hG.cov _ (fd_key.mpr ⟨r, hr, k, hkk, rfl⟩)
inductive Stp (gl : List (List Int) → List (List Int)) (t : List Part) : List Zone → List Stt → List (List Int) → Prop
  | nil : Stp gl t [] [] [[0, 0, 0]]
  | snoc {zs : List Zone} {sts : List Stt} {rows : List (List Int)} {z : Zone} {st : Stt} : Stp gl t zs sts rows → ZoneOk z → St1 t z rows (gl (zcL z t)) st → Stp gl t (zs ++ [z]) (sts ++ [st]) (keysR st)
section
variable {gl : List (List Int) → List (List Int)} {t : List Part} {zs : List Zone} {sts : List Stt} {rows : List (List Int)}
theorem Stp.sub (h : Stp gl t zs sts rows) : ∀ r ∈ rows, Reach t zs r := by
  induction h with
  | nil => intro r hr; exact List.mem_singleton.mp hr
  | snoc h hz h1 ih =>
    intro s hs
    obtain ⟨e, he, rfl⟩ := List.mem_map.mp hs
    obtain ⟨g1, g2, g3⟩ := h1.ent e he
    rw [Reach.snoc]
    exact ⟨_, _, ih _ g1, g2, g3⟩
theorem Stp.row (ht : TabOk t) (h : Stp gl t zs sts rows) : ∀ r ∈ rows, Row3 r := fun r hr => (h.sub r hr).row ht
theorem Stp.len (h : Stp gl t zs sts rows) : sts.length = zs.length := by
  induction h with
  | nil => rfl
  | snoc _ _ _ ih => simp [ih]
theorem Stp.zok (h : Stp gl t zs sts rows) : ∀ z ∈ zs, ZoneOk z := by
  induction h with
  | nil => intro z hz; cases hz
  | snoc _ hz _ ih =>
    intro y hy
    rcases List.mem_append.mp hy with hy | hy
    · exact ih y hy
    · rw [List.mem_singleton.mp hy]; exact hz
theorem Stp.cov (hg : ∀ xs, Gr xs (gl xs)) (ht : TabOk t) (h : Stp gl t zs sts rows) : Cov (Reach t zs) rows := by
  induction h with
  | nil => exact ⟨fun s hs => ⟨[0, 0, 0], by simp, by rw [show s = [0, 0, 0] from hs]; exact leR_refl _⟩⟩
  | snoc h hz h1 ih =>
    exact Cov.step ht hz (h.row ht) ((Stp.snoc h hz h1).row ht) ih (hg _).cov (fun k hk => by rw [Row3, ((zcL_iff hz ht).mp ((hg _).sub k hk)).len, ht.len]) h1.cov
theorem Stp.nd (h : Stp gl t zs sts rows) : rows.Nodup := by
  cases h with
  | nil => simp
  | snoc _ _ h1 => exact h1.nd
theorem Stp.ne (hg : ∀ xs, Gr xs (gl xs)) (ht : TabOk t) (h : Stp gl t zs sts rows) : rows ≠ [] := fun e => by
  obtain ⟨r, hr, _⟩ := (h.cov hg ht).h _ (Reach.zero ht h.zok)
  rw [e] at hr; cases hr
theorem Stp.most (hg : ∀ xs, Gr xs (gl xs)) (ht : TabOk t) (h : Stp gl t zs sts rows) {m : Int} (hm : (rows.map (prF t)).max? = some m) : Most t zs m := by
  obtain ⟨h1, h2⟩ := List.max?_eq_some_iff.mp hm
  refine ⟨fun s hs => ?_, ?_⟩
  · obtain ⟨r, g1, g2⟩ := (h.cov hg ht).h s hs
    have := prF_mono ht (hs.row ht) (h.row ht r g1) g2
    have := h2 _ (List.mem_map_of_mem g1)
    omega
  · obtain ⟨r, g1, g2⟩ := List.mem_map.mp h1
    exact ⟨r, h.sub r g1, g2⟩
/-- the way back -/
inductive Back : List Int → List Stt → List (List Int) → Prop
  | nil {h : List Int} : Back h [] []
  | cons {h p c : List Int} {st : Stt} {rest : List Stt} {cs : List (List Int)} : lookR st h = some (p, c) → Back p rest cs → Back h (st :: rest) (c :: cs)
theorem Stp.back (ht : TabOk t) (h : Stp gl t zs sts rows) : ∀ here ∈ rows, ∃ cs, Back here sts.reverse cs ∧ FitsAll zs t cs.reverse ∧ totR cs.reverse = here := by
  induction h with
  | nil => intro here hh; rw [List.mem_singleton.mp hh]; exact ⟨[], .nil, .nil, rfl⟩
  | snoc h hz h1 ih =>
    intro here hh
    obtain ⟨⟨p, c⟩, g1, g2⟩ := lookR_of hh
    obtain ⟨g3, g4, g5⟩ := h1.ent _ g2
    obtain ⟨cs, b1, b2, b3⟩ := ih p g3
    refine ⟨c :: cs, ?_, ?_, ?_⟩
    · rw [List.reverse_append]
      exact .cons g1 b1
    · rw [List.reverse_cons]; exact b2.snoc g4
    · rw [List.reverse_cons, totR_snoc (b2.rows ht) (by rw [Row3, g4.len, ht.len]), b3]; exact g5.symm
end
/-! ### papers -/
def sbL (gl : List (List Int) → List (List Int)) (t : List Part) (ahead : List (List Int)) (z : Zone) : List (List Int) := keysR (fdL (fun _ _ => true) ahead (gl (zcL z t)))
def mhS (gl : List (List Int) → List (List Int)) (t : List Part) (s : Bool × List (List Int)) (p : Zone × List (List Int)) : Bool × List (List Int) := (s.1 && (sbL gl t s.2 p.1).all fun r => p.2.any (leR r), p.2)
def mhP (gl : List (List Int) → List (List Int)) (t : List Part) (l : List (Zone × List (List Int))) : Bool × List (List Int) := l.foldl (mhS gl t) (true, [[0, 0, 0]])
def mhL (gl : List (List Int) → List (List Int)) (t : List Part) (zs : List Zone) (paper : List (List (List Int))) (m : Int) : Bool := (mhP gl t (zs.zip paper)).1 && (mhP gl t (zs.zip paper)).2.all fun r => decide (prF t r ≤ m)
theorem mhP_snoc {gl : List (List Int) → List (List Int)} {t : List Part} {l : List (Zone × List (List Int))} {p : Zone × List (List Int)} : mhP gl t (l ++ [p]) = mhS gl t (mhP gl t l) p := by
  unfold mhP; rw [List.foldl_append]; rfl
theorem mhP_cov {gl : List (List Int) → List (List Int)} (hg : ∀ xs, Gr xs (gl xs)) {t : List Part} (ht : TabOk t) : ∀ {l : List (Zone × List (List Int))}, (∀ p ∈ l, ZoneOk p.1 ∧ ∀ r ∈ p.2, Row3 r) → (mhP gl t l).1 = true → (∀ r ∈ (mhP gl t l).2, Row3 r) ∧ Cov (Reach t (l.map (·.1))) (mhP gl t l).2 := fun {l} => by
  induction l using snoc_ind with
  | h0 =>
    intro _ _
    refine ⟨fun r hr => ?_, ⟨fun s hs => ⟨[0, 0, 0], by simp [mhP], by rw [show s = [0, 0, 0] from hs]; exact leR_refl _⟩⟩⟩
    rw [show r = [0, 0, 0] by simpa [mhP] using hr]; rfl
  | h1 l p ih =>
    intro hp h
    rw [mhP_snoc] at h ⊢
    simp only [mhS, Bool.and_eq_true] at h
    obtain ⟨i1, i2⟩ := ih (fun q hq => hp q (List.mem_append_left _ hq)) h.1
    obtain ⟨z1, z2⟩ := hp p (by simp)
    refine ⟨z2, ?_⟩
    rw [List.map_append]
    refine Cov.step ht z1 i1 z2 i2 (hg _).cov (fun k hk => by rw [Row3, ((zcL_iff z1 ht).mp ((hg _).sub k hk)).len, ht.len]) fun r hr k hk => ?_
    have := List.all_eq_true.mp h.2 (addR r k) (fd_key.mpr ⟨r, hr, k, hk, rfl⟩)
    obtain ⟨q, hq, hl⟩ := List.any_eq_true.mp this
    exact ⟨q, hq, hl⟩
/-- whatever paper is let by, what it says is so -/
theorem mh_sound {gl : List (List Int) → List (List Int)} (hg : ∀ xs, Gr xs (gl xs)) {t : List Part} (ht : TabOk t) {zs : List Zone} {paper : List (List (List Int))} {m : Int} (hz : ∀ z ∈ zs, ZoneOk z) (hl : paper.length = zs.length) (hp : ∀ rows ∈ paper, ∀ r ∈ rows, Row3 r)
    (h : mhL gl t zs paper m = true) : ∀ s, Reach t zs s → prF t s ≤ m := by
  unfold mhL at h
  rw [Bool.and_eq_true] at h
  obtain ⟨i1, i2⟩ := mhP_cov hg ht (fun p hp' => ⟨hz _ (List.of_mem_zip hp').1, hp _ (List.of_mem_zip hp').2⟩) h.1
  intro s hs
  rw [List.map_fst_zip (by omega)] at i2
  obtain ⟨r, g1, g2⟩ := i2.h s hs
  have := prF_mono ht (hs.row ht) (i1 r g1) g2
  have := List.all_eq_true.mp h.2 r g1
  simp at this
  omega
/-- the told paper is let by -/
theorem mh_told {gl : List (List Int) → List (List Int)} {t : List Part} {zs : List Zone} {sts : List Stt} {rows : List (List Int)} {srt : List (List Int) → List (List Int)} (hs : ∀ xs k, k ∈ srt xs ↔ k ∈ xs) (h : Stp gl t zs sts rows) :
    (mhP gl t (zs.zip (sts.map fun st => srt (keysR st)))).1 = true ∧ ∀ k, k ∈ (mhP gl t (zs.zip (sts.map fun st => srt (keysR st)))).2 ↔ k ∈ rows := by
  induction h with
  | nil => exact ⟨rfl, fun k => by simp [mhP]⟩
  | @snoc zs sts rows z st h hz h1 ih =>
    rw [List.map_append, List.zip_append (by rw [List.length_map, h.len]), List.map_cons, List.map_nil, show [z].zip [srt (keysR st)] = [(z, srt (keysR st))] from rfl, mhP_snoc]
    refine ⟨?_, fun k => hs _ k⟩
    simp only [mhS, ih.1, Bool.true_and]
    refine List.all_eq_true.mpr fun s hs' => ?_
    obtain ⟨r, hr, k, hk, rfl⟩ := fd_key.mp hs'
    obtain ⟨q, g1, g2⟩ := h1.cov r ((ih.2 r).mp hr) k hk
    exact List.any_eq_true.mpr ⟨q, (hs _ _).mpr g1, g2⟩
theorem mh_told' {gl : List (List Int) → List (List Int)} {t : List Part} {zs : List Zone} {sts : List Stt} {rows : List (List Int)} {srt : List (List Int) → List (List Int)} (hs : ∀ xs k, k ∈ srt xs ↔ k ∈ xs) (h : Stp gl t zs sts rows) {m : Int} (hm : (rows.map (prF t)).max? = some m) (n : Int) :
    mhL gl t zs (sts.map fun st => srt (keysR st)) n = decide (m ≤ n) := by
  obtain ⟨h1, h2⟩ := mh_told hs h
  obtain ⟨g1, g2⟩ := List.max?_eq_some_iff.mp hm
  unfold mhL
  rw [h1, Bool.true_and]
  by_cases hn : m ≤ n
  · rw [decide_eq_true hn]
    refine List.all_eq_true.mpr fun r hr => ?_
    have := g2 _ (List.mem_map_of_mem ((h2 r).mp hr))
    simp; omega
  · rw [decide_eq_false hn]
    refine Bool.eq_false_iff.mpr fun h => hn ?_
    obtain ⟨r, hr, e⟩ := List.mem_map.mp g1
    have := List.all_eq_true.mp h r ((h2 r).mpr hr)
    simp at this
    omega
end G84
set_option Elab.async false
set_option linter.all false
set_option maxRecDepth 100000
/-! printed by gen.py: the defs by their functions -/
namespace G84
open PySem PySem.Spec PyProof.Rows L2 Fl
def topS (i : Nat) : Stmt := PySem.Challenge.pw_glovepairs_k84_whole_small_skins_by_all.main.body.getD i (.Pass ⟨0, 0, 0, 0⟩)
def clsB : Stmt → List Stmt
  | .ClassDef (body := b) .. => b
  | _ => []
def clsS (i j : Nat) : Stmt := (clsB (topS i)).getD j (.Pass ⟨0, 0, 0, 0⟩)

abbrev s__law_deck : Stmt := topS 51
theorem sc__law_deck : FnScope ["_law_script", "_law_cell"] ["_law_script"] (defScope s__law_deck) := ⟨rfl, rfl, rfl, by decide +kernel, rfl, by decide +kernel, by decide +kernel⟩
noncomputable def B__law_deck : FS := (fRet (fLst (fConsA (fRev (fCall gList (fCons (fSl (fVar 0) fONo (fOSo (fC (.int 63)))) fNil))) (fConsA (fBin gAdd (fCall gSum (fCons (fLc (fiS (fSl (fVar 0) fONo (fOSo (fC (.int 63))))) (bName 1) qYes (fBin gMod (fVar 1) (fC (.int 1000003))) [1]) fNil)) (fBin gMul (fC (.int 7919)) (fCall gLen (fCons (fSl (fVar 0) fONo (fOSo (fC (.int 63)))) fNil)))) (fConsA (fC (.int 0)) fNil)))))
noncomputable def F__law_deck : FF := (fFn 2 1 B__law_deck)
abbrev s__law_draw : Stmt := topS 52
theorem sc__law_draw : FnScope ["_law_deck_here", "_law_most", "_law_cell", "_law_number"] ["_law_deck_here", "_law_most"] (defScope s__law_draw) := ⟨rfl, rfl, rfl, by decide +kernel, rfl, by decide +kernel, by decide +kernel⟩
noncomputable def B__law_draw : FS := (fSeq (fSet (fVar 0) (fC (.int 2)) (fBin gAdd (fIx (fVar 0) (fC (.int 2))) (fC (.int 1))))
  (fSeq (fAsg (bName 2) (fIx (fVar 0) (fC (.int 1))))
  (fSeq (fIfS (qVal (fBin gNe (fIx (fVar 0) (fC (.int 0))) (fLst fNil))) (fSeq (fAsg (bName 2) (fBm gPop (fIx (fVar 0) (fC (.int 0))) fNil))
  (fIfS (qVal (fBin gGe (fVar 2) (fBin gPow (fC (.int 10)) (fC (.int 18))))) (fSeq (fExp (fBm gApp (fIx (fVar 0) (fC (.int 0))) (fCons (fBin gFdv (fVar 2) (fVar 1)) fNil)))
  (fRet (fBin gMod (fVar 2) (fVar 1)))) fSkip)) fSkip)
  (fSeq (fAsg (bName 3) (fBin gMod (fBin gMul (fBin gAdd (fBin gAdd (fBin gMod (fVar 2) (fC (.int 2147483629))) (fBin gMul (fC (.int 65537)) (fIx (fVar 0) (fC (.int 2))))) (fC (.int 3))) (fC (.int 48271))) (fC (.int 2147483647))))
  (fSeq (fAsg (bName 3) (fBin gMod (fBin gAdd (fBin gAdd (fBin gMul (fVar 3) (fVar 3)) (fBin gMul (fC (.int 69621)) (fIx (fVar 0) (fC (.int 2))))) (fC (.int 17))) (fC (.int 2147483587))))
  (fRet (fBin gMod (fBin gFdv (fBin gMod (fBin gAdd (fBin gMul (fVar 3) (fVar 3)) (fC (.int 39373))) (fC (.int 2147483563))) (fC (.int 64))) (fVar 1))))))))
noncomputable def F__law_draw : FF := fTr (fFn 4 2 B__law_draw)
abbrev s__law_pick : Stmt := topS 53
theorem sc__law_pick : FnScope ["_law_deck_here", "_law_some"] ["_law_deck_here", "_law_some"] (defScope s__law_pick) := ⟨rfl, rfl, rfl, by decide +kernel, rfl, by decide +kernel, by decide +kernel⟩
noncomputable def B__law_pick : FS := (fRet (fIx (fVar 1) (fCf (fNa 2 F__law_draw) (fCons (fVar 0) (fCons (fCall gLen (fCons (fVar 1) fNil)) fNil)))))
noncomputable def F__law_pick : FF := fTr (fFn 2 2 B__law_pick)
abbrev s__law_small_zones : Stmt := topS 62
theorem sc__law_small_zones : FnScope ["_law_deck_here", "_law_way", "_law_found", "_law_k"] ["_law_deck_here"] (defScope s__law_small_zones) := ⟨rfl, rfl, rfl, by decide +kernel, rfl, by decide +kernel, by decide +kernel⟩
noncomputable def B__law_small_zones : FS := (fSeq (fAsg (bName 1) (fCf (fNa 2 F__law_draw) (fCons (fVar 0) (fCons (fC (.int 4)) fNil))))
  (fSeq (fAsg (bName 2) (fLst fNil))
  (fSeq (fFor (fiR1 (fCons (fIx (fLst (fCons (fBin gAdd (fC (.int 1)) (fCf (fNa 2 F__law_draw) (fCons (fVar 0) (fCons (fC (.int 3)) fNil)))) (fCons (fC (.int 1)) fNil))) (fCall gInt (fCons (fBin gEq (fVar 1) (fC (.int 2))) fNil))) fNil)) (bName 3) (fExp (fBm gApp (fVar 2) (fCons (fTup (fCons (fCf (fNa 2 F__law_pick) (fCons (fVar 0) (fCons (fLst (fCons (fC (.str "along")) (fCons (fC (.str "across")) fNil))) fNil))) (fCons (fIx (fLst (fCons (fBin gAdd (fC (.int 1)) (fCf (fNa 2 F__law_draw) (fCons (fVar 0) (fCons (fC (.int 12)) fNil)))) (fCons (fC (.int 24)) fNil))) (fCall gInt (fCons (fBin gEq (fVar 1) (fC (.int 2))) fNil))) fNil))) fNil))))
  (fRet (fCall gTuple (fCons (fVar 2) fNil))))))
noncomputable def F__law_small_zones : FF := fTr (fFn 4 1 B__law_small_zones)
abbrev s__law_lengths : Stmt := topS 54
theorem sc__law_lengths : FnScope ["_law_deck_here", "_law_way", "_law_along", "_law_across"] ["_law_deck_here"] (defScope s__law_lengths) := ⟨rfl, rfl, rfl, by decide +kernel, rfl, by decide +kernel, by decide +kernel⟩
noncomputable def B__law_lengths : FS := (fSeq (fAsg (bName 1) (fCf (fNa 2 F__law_draw) (fCons (fVar 0) (fCons (fC (.int 6)) fNil))))
  (fSeq (fPar 2 3 (fCons (fBin gAdd (fC (.int 4)) (fCf (fNa 2 F__law_draw) (fCons (fVar 0) (fCons (fC (.int 5)) fNil)))) (fCons (fBin gAdd (fC (.int 4)) (fCf (fNa 2 F__law_draw) (fCons (fVar 0) (fCons (fC (.int 5)) fNil)))) fNil)))
  (fSeq (fIfS (qVal (fBin gEq (fVar 1) (fC (.int 0)))) (fAsg (bName 2) (fBin gAdd (fC (.int 4)) (fCf (fNa 2 F__law_draw) (fCons (fVar 0) (fCons (fC (.int 21)) fNil))))) fSkip)
  (fRet (fTup (fCons (fIx (fLst (fCons (fVar 2) (fCons (fC .non) fNil))) (fCall gInt (fCons (fBin gEq (fVar 1) (fC (.int 1))) fNil))) (fCons (fIx (fLst (fCons (fVar 3) (fCons (fC .non) fNil))) (fCall gInt (fCons (fBin gEq (fVar 1) (fC (.int 2))) fNil))) (fCons (fBin gAdd (fC (.int 1)) (fCf (fNa 2 F__law_pick) (fCons (fVar 0) (fCons (fLst (fCons (fC (.int 0)) (fCons (fC (.int 0)) (fCons (fC (.int 1)) (fCons (fC (.int 1)) (fCons (fC (.int 0)) (fCons (fC (.int 3)) fNil))))))) fNil)))) fNil))))))))
noncomputable def F__law_lengths : FF := fTr (fFn 4 1 B__law_lengths)
abbrev s__law_table : Stmt := topS 55
theorem sc__law_table : FnScope ["_law_deck_here", "_law_part"] ["_law_deck_here"] (defScope s__law_table) := ⟨rfl, rfl, rfl, by decide +kernel, rfl, by decide +kernel, by decide +kernel⟩
noncomputable def B__law_table : FS := (fRet (fCall gTuple (fCons (fLc (fiR1 (fCons (fC (.int 3)) fNil)) (bName 1) qYes (fCf (fNa 1 F__law_lengths) (fCons (fVar 0) fNil)) [1]) fNil)))
noncomputable def F__law_table : FF := fTr (fFn 2 1 B__law_table)
abbrev s_Skin___init__ : Stmt := clsS 30 0
theorem sc_Skin___init__ : FnScope ["self", "zones", "stretch", "grade"] ["self", "zones", "stretch", "grade"] (defScope s_Skin___init__) := ⟨rfl, rfl, rfl, by decide +kernel, rfl, by decide +kernel, by decide +kernel⟩
noncomputable def B_Skin___init__ : FS := (fSeq (fFld "Skin" "zones" (fVar 0) (fVar 1))
  (fSeq (fFld "Skin" "stretch" (fVar 0) (fVar 2))
  (fFld "Skin" "grade" (fVar 0) (fVar 3))))
noncomputable def F_Skin___init__ : FF := fTr (fFn 4 4 B_Skin___init__)
abbrev s__law_fits : Stmt := topS 56
theorem sc__law_fits : FnScope ["_law_zone", "_law_table_here", "_law_counts_here", "_law_at", "_law_some", "_law_part", "_law_count", "_law_one"] ["_law_zone", "_law_table_here", "_law_counts_here"] (defScope s__law_fits) := ⟨rfl, rfl, rfl, by decide +kernel, rfl, by decide +kernel, by decide +kernel⟩
noncomputable def B__law_fits : FS := (fSeq (fAsg (bName 3) (fCall gInt (fCons (fBin gEq (fIx (fVar 0) (fC (.int 0))) (fC (.str "across"))) fNil)))
  (fSeq (fAsg (bName 4) (fLc (fiZip (fCons (fVar 1) (fCons (fVar 2) fNil))) (bTup 2 (bCons (bName 5) (bCons (bName 6) bNil))) (qVal (fBin gGt (fVar 6) (fC (.int 0)))) (fTup (fCons (fIx (fVar 5) (fVar 3)) (fCons (fVar 6) fNil))) [5, 6]))
  (fSeq (fIfS (qVal (fBin gNe (fLc (fiS (fVar 4)) (bTup 2 (bCons (bName 7) (bCons (bName 6) bNil))) (qVal (fBin (gIsN false) (fVar 7) (fC .non))) (fVar 7) [7, 6]) (fLst fNil))) (fRet (fC (.bl false))) fSkip)
  (fRet (fBin gLe (fCall gSum (fCons (fLc (fiS (fVar 4)) (bTup 2 (bCons (bName 7) (bCons (bName 6) bNil))) qYes (fBin gMul (fVar 7) (fVar 6)) [7, 6]) fNil)) (fIx (fVar 0) (fC (.int 1))))))))
noncomputable def F__law_fits : FF := fTr (fFn 8 3 B__law_fits)
abbrev s__law_counts : Stmt := topS 57
theorem sc__law_counts : FnScope ["_law_zone", "_law_table_here", "_law_found", "_law_a", "_law_b", "_law_c"] ["_law_zone", "_law_table_here"] (defScope s__law_counts) := ⟨rfl, rfl, rfl, by decide +kernel, rfl, by decide +kernel, by decide +kernel⟩
noncomputable def B__law_counts : FS := (fSeq (fAsg (bName 2) (fLst fNil))
  (fSeq (fFor (fiR1 (fCons (fC (.int 7)) fNil)) (bName 3) (fFor (fiR1 (fCons (fBin gSub (fC (.int 7)) (fVar 3)) fNil)) (bName 4) (fExp (fBm gExt (fVar 2) (fCons (fLc (fiR1 (fCons (fBin gSub (fBin gSub (fC (.int 7)) (fVar 3)) (fVar 4)) fNil)) (bName 5) (qVal (fCf (fNa 3 F__law_fits) (fCons (fVar 0) (fCons (fVar 1) (fCons (fTup (fCons (fVar 3) (fCons (fVar 4) (fCons (fVar 5) fNil)))) fNil))))) (fTup (fCons (fVar 3) (fCons (fVar 4) (fCons (fVar 5) fNil)))) [5]) fNil)))))
  (fRet (fVar 2))))
noncomputable def F__law_counts : FF := fTr (fFn 6 2 B__law_counts)
abbrev s__law_added : Stmt := topS 59
theorem sc__law_added : FnScope ["_law_one", "_law_other", "_law_here", "_law_there"] ["_law_one", "_law_other"] (defScope s__law_added) := ⟨rfl, rfl, rfl, by decide +kernel, rfl, by decide +kernel, by decide +kernel⟩
noncomputable def B__law_added : FS := (fRet (fCall gTuple (fCons (fLc (fiZip (fCons (fVar 0) (fCons (fVar 1) fNil))) (bTup 2 (bCons (bName 2) (bCons (bName 3) bNil))) qYes (fBin gAdd (fVar 2) (fVar 3)) [2, 3]) fNil)))
noncomputable def F__law_added : FF := fTr (fFn 4 2 B__law_added)
abbrev s__law_all_sums : Stmt := topS 63
theorem sc__law_all_sums : FnScope ["_law_zones", "_law_table_here", "_law_rows", "_law_zone", "_law_longer", "_law_some", "_law_row", "_law_counts_here"] ["_law_zones", "_law_table_here"] (defScope s__law_all_sums) := ⟨rfl, rfl, rfl, by decide +kernel, rfl, by decide +kernel, by decide +kernel⟩
noncomputable def B__law_all_sums : FS := (fSeq (fAsg (bName 2) (fD1 (fTup (fCons (fC (.int 0)) (fCons (fC (.int 0)) (fCons (fC (.int 0)) fNil)))) (fTup fNil)))
  (fSeq (fFor (fiS (fVar 0)) (bName 3) (fSeq (fAsg (bName 4) (fDic0 true))
  (fSeq (fAsg (bName 5) (fCf (fNa 2 F__law_counts) (fCons (fVar 3) (fCons (fVar 1) fNil))))
  (fSeq (fForD 2 (bName 6) (fFor (fiS (fVar 5)) (bName 7) (fSet (fVar 4) (fCf (fNa 2 F__law_added) (fCons (fVar 6) (fCons (fVar 7) fNil))) (fBin gAdd (fIx (fVar 2) (fVar 6)) (fTup (fCons (fVar 7) fNil))))))
  (fAsg (bName 2) (fVar 4))))))
  (fRet (fVar 2))))
noncomputable def F__law_all_sums : FF := fTr (fFn 8 2 B__law_all_sums)
abbrev s__law_given : Stmt := topS 58
theorem sc__law_given : FnScope ["_law_table_here", "_law_counts_here", "_law_count", "_law_part"] ["_law_table_here", "_law_counts_here"] (defScope s__law_given) := ⟨rfl, rfl, rfl, by decide +kernel, rfl, by decide +kernel, by decide +kernel⟩
noncomputable def B__law_given : FS := (fRet (fCall gMin (fCons (fLc (fiZip (fCons (fVar 1) (fCons (fVar 0) fNil))) (bTup 2 (bCons (bName 2) (bCons (bName 3) bNil))) qYes (fBin gFdv (fVar 2) (fIx (fVar 3) (fC (.int 2)))) [2, 3]) fNil)))
noncomputable def F__law_given : FF := fTr (fFn 4 2 B__law_given)
abbrev s_is_beneath : Stmt := topS 4
theorem sc_is_beneath : FnScope ["one", "other", "here", "there"] ["one", "other"] (defScope s_is_beneath) := ⟨rfl, rfl, rfl, by decide +kernel, rfl, by decide +kernel, by decide +kernel⟩
noncomputable def B_is_beneath : FS := (fRet (fCall gAll (fCons (fLc (fiZipS (fCons (fVar 0) (fCons (fVar 1) fNil))) (bTup 2 (bCons (bName 2) (bCons (bName 3) bNil))) qYes (fBin gLe (fVar 2) (fVar 3)) [2, 3]) fNil)))
noncomputable def F_is_beneath : FF := fTr (fFn 4 2 B_is_beneath)
abbrev s_is_covered : Stmt := topS 5
theorem sc_is_covered : FnScope ["row", "rows", "other"] ["row", "rows"] (defScope s_is_covered) := ⟨rfl, rfl, rfl, by decide +kernel, rfl, by decide +kernel, by decide +kernel⟩
noncomputable def B_is_covered : FS := (fSeq (fFor (fiS (fVar 1)) (bName 2) (fIfS (qVal (fCf (fNa 2 F_is_beneath) (fCons (fVar 0) (fCons (fVar 2) fNil)))) (fRet (fC (.bl true))) fSkip))
  (fRet (fC (.bl false))))
noncomputable def F_is_covered : FF := fTr (fFn 3 2 B_is_covered)
abbrev s_greatest : Stmt := topS 6
theorem sc_greatest : FnScope ["rows", "found", "row"] ["rows"] (defScope s_greatest) := ⟨rfl, rfl, rfl, by decide +kernel, rfl, by decide +kernel, by decide +kernel⟩
noncomputable def B_greatest : FS := (fSeq (fAsg (bName 1) (fLst fNil))
  (fSeq (fFor (fiS (fRev (fSS (fVar 0)))) (bName 2) (fIfS (qNot (qVal (fCf (fNa 2 F_is_covered) (fCons (fVar 2) (fCons (fVar 1) fNil))))) (fExp (fBm gApp (fVar 1) (fCons (fVar 2) fNil))) fSkip))
  (fRet (fVar 1))))
noncomputable def F_greatest : FF := fTr (fFn 3 1 B_greatest)
abbrev s_part_length : Stmt := topS 1
theorem sc_part_length : FnScope ["part", "grain", "along", "across", "many"] ["part", "grain"] (defScope s_part_length) := ⟨rfl, rfl, rfl, by decide +kernel, rfl, by decide +kernel, by decide +kernel⟩
noncomputable def B_part_length : FS := (fSeq (fAsg (bTup 3 (bCons (bName 2) (bCons (bName 3) (bCons (bName 4) bNil)))) (fVar 0))
  (fSeq (fIfS (qVal (fBin gEq (fVar 1) (fC (.str "across")))) (fRet (fVar 3)) fSkip)
  (fRet (fVar 2))))
noncomputable def F_part_length : FF := fTr (fFn 5 2 B_part_length)
abbrev s_zone_cuts : Stmt := topS 2
theorem sc_zone_cuts : FnScope ["zone", "table", "grain", "length", "found", "part", "long", "more", "counts", "room", "many"] ["zone", "table"] (defScope s_zone_cuts) := ⟨rfl, rfl, rfl, by decide +kernel, rfl, by decide +kernel, by decide +kernel⟩
noncomputable def B_zone_cuts : FS := (fSeq (fAsg (bTup 2 (bCons (bName 2) (bCons (bName 3) bNil))) (fVar 0))
  (fSeq (fAsg (bName 4) (fLst (fCons (fTup (fCons (fTup fNil) (fCons (fVar 3) fNil))) fNil)))
  (fSeq (fFor (fiS (fVar 1)) (bName 5) (fSeq (fAsg (bName 6) (fCf (fNa 2 F_part_length) (fCons (fVar 5) (fCons (fVar 2) fNil))))
  (fSeq (fAsg (bName 7) (fLst fNil))
  (fSeq (fFor (fiS (fVar 4)) (bTup 2 (bCons (bName 8) (bCons (bName 9) bNil))) (fIfS (qVal (fBin (gIsN false) (fVar 6) (fC .non))) (fExp (fBm gApp (fVar 7) (fCons (fTup (fCons (fBin gAdd (fVar 8) (fTup (fCons (fC (.int 0)) fNil))) (fCons (fVar 9) fNil))) fNil))) (fExp (fBm gExt (fVar 7) (fCons (fLc (fiR1 (fCons (fBin gAdd (fC (.int 1)) (fBin gFdv (fVar 9) (fVar 6))) fNil)) (bName 10) qYes (fTup (fCons (fBin gAdd (fVar 8) (fTup (fCons (fVar 10) fNil))) (fCons (fBin gSub (fVar 9) (fBin gMul (fVar 10) (fVar 6))) fNil))) [10]) fNil)))))
  (fAsg (bName 4) (fVar 7))))))
  (fRet (fLc (fiS (fVar 4)) (bTup 2 (bCons (bName 8) (bCons (bName 9) bNil))) qYes (fVar 8) [8, 9])))))
noncomputable def F_zone_cuts : FF := fTr (fFn 11 2 B_zone_cuts)
abbrev s_together : Stmt := topS 3
theorem sc_together : FnScope ["one", "other", "here", "there"] ["one", "other"] (defScope s_together) := ⟨rfl, rfl, rfl, by decide +kernel, rfl, by decide +kernel, by decide +kernel⟩
noncomputable def B_together : FS := (fRet (fCall gTuple (fCons (fLc (fiZipS (fCons (fVar 0) (fCons (fVar 1) fNil))) (bTup 2 (bCons (bName 2) (bCons (bName 3) bNil))) qYes (fBin gAdd (fVar 2) (fVar 3)) [2, 3]) fNil)))
noncomputable def F_together : FF := fTr (fFn 4 2 B_together)
abbrev s_ways_behind : Stmt := topS 13
theorem sc_ways_behind : FnScope ["rows", "zone", "table", "cuts", "found", "row", "counts"] ["rows", "zone", "table"] (defScope s_ways_behind) := ⟨rfl, rfl, rfl, by decide +kernel, rfl, by decide +kernel, by decide +kernel⟩
noncomputable def B_ways_behind : FS := (fSeq (fAsg (bName 3) (fCf (fNa 1 F_greatest) (fCons (fCf (fNa 2 F_zone_cuts) (fCons (fVar 1) (fCons (fVar 2) fNil))) fNil)))
  (fSeq (fAsg (bName 4) (fDic0 true))
  (fSeq (fFor (fiS (fVar 0)) (bName 5) (fFor (fiS (fVar 3)) (bName 6) (fSet (fVar 4) (fCf (fNa 2 F_together) (fCons (fVar 5) (fCons (fVar 6) fNil))) (fTup (fCons (fVar 5) (fCons (fVar 6) fNil))))))
  (fRet (fCall gDict (fCons (fLc (fiS (fCf (fNa 1 F_greatest) (fCons (fVar 4) fNil))) (bName 5) qYes (fTup (fCons (fVar 5) (fCons (fIx (fVar 4) (fVar 5)) fNil))) [5]) fNil))))))
noncomputable def F_ways_behind : FF := fTr (fFn 7 3 B_ways_behind)
abbrev s_pairs_for : Stmt := topS 7
theorem sc_pairs_for : FnScope ["table", "counts", "count", "part"] ["table", "counts"] (defScope s_pairs_for) := ⟨rfl, rfl, rfl, by decide +kernel, rfl, by decide +kernel, by decide +kernel⟩
noncomputable def B_pairs_for : FS := (fRet (fCall gMin (fCons (fLc (fiZipS (fCons (fVar 1) (fCons (fVar 0) fNil))) (bTup 2 (bCons (bName 2) (bCons (bName 3) bNil))) qYes (fBin gFdv (fVar 2) (fIx (fVar 3) (fC (.int 2)))) [2, 3]) fNil)))
noncomputable def F_pairs_for : FF := fTr (fFn 4 2 B_pairs_for)
abbrev s_whole_cut : Stmt := topS 14
theorem sc_whole_cut : FnScope ["table", "cut", "many", "left", "found", "counts", "some", "part", "count", "rest"] ["table", "cut", "many"] (defScope s_whole_cut) := ⟨rfl, rfl, rfl, by decide +kernel, rfl, by decide +kernel, by decide +kernel⟩
noncomputable def B_whole_cut : FS := (fSeq (fAsg (bName 3) (fLc (fiS (fVar 0)) (bName 7) qYes (fBin gMul (fVar 2) (fIx (fVar 7) (fC (.int 2)))) [7]))
  (fSeq (fAsg (bName 4) (fLst fNil))
  (fSeq (fFor (fiS (fVar 1)) (bName 5) (fSeq (fAsg (bName 6) (fLc (fiZipS (fCons (fVar 5) (fCons (fVar 3) fNil))) (bTup 2 (bCons (bName 8) (bCons (bName 9) bNil))) qYes (fCall gMin (fCons (fVar 8) (fCons (fVar 9) fNil))) [8, 9]))
  (fSeq (fAsg (bName 3) (fLc (fiZipS (fCons (fVar 3) (fCons (fVar 6) fNil))) (bTup 2 (bCons (bName 9) (bCons (bName 8) bNil))) qYes (fBin gSub (fVar 9) (fVar 8)) [9, 8]))
  (fExp (fBm gApp (fVar 4) (fCons (fCall gTuple (fCons (fVar 6) fNil)) fNil))))))
  (fRet (fCall gTuple (fCons (fVar 4) fNil))))))
noncomputable def F_whole_cut : FF := fTr (fFn 10 3 B_whole_cut)
abbrev s_most_pairs : Stmt := topS 15
theorem sc_most_pairs : FnScope ["skin", "table", "steps", "rows", "zone", "many", "here", "cut", "step", "counts", "row"] ["skin", "table"] (defScope s_most_pairs) := ⟨rfl, rfl, rfl, by decide +kernel, rfl, by decide +kernel, by decide +kernel⟩
noncomputable def B_most_pairs : FS := (fSeq (fAsg (bName 2) (fLst fNil))
  (fSeq (fAsg (bName 3) (fLst (fCons (fTup (fCons (fC (.int 0)) (fCons (fC (.int 0)) (fCons (fC (.int 0)) fNil)))) fNil)))
  (fSeq (fFor (fiS (fAt "Skin" "zones" (fVar 0))) (bName 4) (fSeq (fExp (fBm gApp (fVar 2) (fCons (fCf (fNa 3 F_ways_behind) (fCons (fVar 3) (fCons (fVar 4) (fCons (fVar 1) fNil)))) fNil)))
  (fAsg (bName 3) (fCall gList (fCons (fIx (fVar 2) (fNeg (fC (.int 1)))) fNil)))))
  (fSeq (fAsg (bName 5) (fCall gMax (fCons (fLc (fiS (fVar 3)) (bName 10) qYes (fCf (fNa 2 F_pairs_for) (fCons (fVar 1) (fCons (fVar 10) fNil))) [10]) fNil)))
  (fSeq (fAsg (bName 6) (fIx (fLc (fiS (fVar 3)) (bName 10) (qVal (fBin gEq (fCf (fNa 2 F_pairs_for) (fCons (fVar 1) (fCons (fVar 10) fNil))) (fVar 5))) (fVar 10) [10]) (fC (.int 0))))
  (fSeq (fAsg (bName 7) (fLst fNil))
  (fSeq (fFor (fiRev (fVar 2)) (bName 8) (fSeq (fAsg (bTup 2 (bCons (bName 6) (bCons (bName 9) bNil))) (fIx (fVar 8) (fVar 6)))
  (fExp (fBm gApp (fVar 7) (fCons (fVar 9) fNil)))))
  (fRet (fTup (fCons (fVar 5) (fCons (fCf (fNa 3 F_whole_cut) (fCons (fVar 1) (fCons (fRev (fVar 7)) (fCons (fVar 5) fNil)))) (fCons (fCall gTuple (fCons (fLc (fiS (fVar 2)) (bName 8) qYes (fCall gTuple (fCons (fCall gSorted (fCons (fVar 8) fNil)) fNil)) [8]) fNil)) fNil))))))))))))
noncomputable def F_most_pairs : FF := fTr (fFn 11 2 B_most_pairs)
abbrev s_number_behind : Stmt := topS 31
theorem sc_number_behind : FnScope ["word", "sign", "least", "most", "figures", "number", "one"] ["word", "sign", "least", "most"] (defScope s_number_behind) := ⟨rfl, rfl, rfl, by decide +kernel, rfl, by decide +kernel, by decide +kernel⟩
noncomputable def B_number_behind : FS := (fSeq (fAsg (bName 4) (fSl (fVar 0) (fOSo (fC (.int 1))) fONo))
  (fSeq (fIfS (qOr (qVal (fBin gNe (fSl (fVar 0) fONo (fOSo (fC (.int 1)))) (fVar 1))) (qOr (qNot (qVal (fChain gLe gLe (fC (.int 1)) (fCall gLen (fCons (fVar 4) fNil)) (fC (.int 2))))) (qNot (qVal (fCall gAll (fCons (fLc (fiS (fVar 4)) (bName 6) qYes (fBin (gInS false) (fVar 6) (fC (.str "0123456789"))) [6]) fNil)))))) (fRet (fC .non)) fSkip)
  (fSeq (fAsg (bName 5) (fCall gInt (fCons (fVar 4) fNil)))
  (fSeq (fIfS (qOr (qVal (fBin gNe (fCall gStr (fCons (fVar 5) fNil)) (fVar 4))) (qNot (qVal (fChain gLe gLe (fVar 2) (fVar 5) (fVar 3))))) (fRet (fC .non)) fSkip)
  (fRet (fVar 5))))))
noncomputable def F_number_behind : FF := fTr (fFn 7 4 B_number_behind)
abbrev s_sign_of : Stmt := topS 28
theorem sc_sign_of : FnScope ["grain"] ["grain"] (defScope s_sign_of) := ⟨rfl, rfl, rfl, by decide +kernel, rfl, by decide +kernel, by decide +kernel⟩
noncomputable def B_sign_of : FS := (fSeq (fIfS (qVal (fBin gEq (fVar 0) (fC (.str "along")))) (fRet (fC (.str "a"))) fSkip)
  (fRet (fC (.str "x"))))
noncomputable def F_sign_of : FF := fTr (fFn 1 1 B_sign_of)
abbrev s_zone_read : Stmt := topS 32
theorem sc_zone_read : FnScope ["word", "grain", "length"] ["word"] (defScope s_zone_read) := ⟨rfl, rfl, rfl, by decide +kernel, rfl, by decide +kernel, by decide +kernel⟩
noncomputable def B_zone_read : FS := (fSeq (fFor (fiS (fTup (fCons (fC (.str "along")) (fCons (fC (.str "across")) fNil)))) (bName 1) (fSeq (fAsg (bName 2) (fCf (fNa 4 F_number_behind) (fCons (fVar 0) (fCons (fCf (fNa 1 F_sign_of) (fCons (fVar 1) fNil)) (fCons (fC (.int 1)) (fCons (fC (.int 24)) fNil))))))
  (fIfS (qVal (fBin (gIsN true) (fVar 2) (fC .non))) (fRet (fTup (fCons (fVar 1) (fCons (fVar 2) fNil)))) fSkip)))
  fNvr)
noncomputable def F_zone_read : FF := fTr (fFn 3 1 B_zone_read)
abbrev s_read_skin : Stmt := topS 33
theorem sc_read_skin : FnScope ["text", "words", "stretch", "grade", "word"] ["text"] (defScope s_read_skin) := ⟨rfl, rfl, rfl, by decide +kernel, rfl, by decide +kernel, by decide +kernel⟩
noncomputable def B_read_skin : FS := (fSeq (fIfS (qNot (qVal (fIsi "str" (fVar 0)))) fNvr fSkip)
  (fSeq (fAsg (bName 1) (fM1 gSplit (fVar 0) (fC (.str " "))))
  (fSeq (fIfS (qNot (qVal (fChain gLe gLe (fC (.int 3)) (fCall gLen (fCons (fVar 1) fNil)) (fBin gAdd (fC (.int 2)) (fC (.int 4)))))) fNvr fSkip)
  (fSeq (fAsg (bName 2) (fCf (fNa 4 F_number_behind) (fCons (fIx (fVar 1) (fNeg (fC (.int 2)))) (fCons (fC (.str "s")) (fCons (fC (.int 0)) (fCons (fC (.int 40)) fNil))))))
  (fSeq (fAsg (bName 3) (fCf (fNa 4 F_number_behind) (fCons (fIx (fVar 1) (fNeg (fC (.int 1)))) (fCons (fC (.str "g")) (fCons (fC (.int 0)) (fCons (fC (.int 2)) fNil))))))
  (fSeq (fIfS (qOr (qVal (fBin (gIsN false) (fVar 2) (fC .non))) (qVal (fBin (gIsN false) (fVar 3) (fC .non)))) fNvr fSkip)
  (fRet (fMk "Skin" 4 F_Skin___init__ [] (fCons (fCall gTuple (fCons (fLc (fiS (fSl (fVar 1) fONo (fOSo (fNeg (fC (.int 2)))))) (bName 4) qYes (fCf (fNa 1 F_zone_read) (fCons (fVar 4) fNil)) [4]) fNil)) (fCons (fVar 2) (fCons (fVar 3) fNil)))))))))))
noncomputable def F_read_skin : FF := fTr (fFn 5 1 B_read_skin)
abbrev s_zone_word : Stmt := topS 29
theorem sc_zone_word : FnScope ["zone"] ["zone"] (defScope s_zone_word) := ⟨rfl, rfl, rfl, by decide +kernel, rfl, by decide +kernel, by decide +kernel⟩
noncomputable def B_zone_word : FS := (fRet (fBin gAdd (fCf (fNa 1 F_sign_of) (fCons (fIx (fVar 0) (fC (.int 0))) fNil)) (fCall gStr (fCons (fIx (fVar 0) (fC (.int 1))) fNil))))
noncomputable def F_zone_word : FF := fTr (fFn 1 1 B_zone_word)
abbrev s_Skin___str__ : Stmt := clsS 30 3
theorem sc_Skin___str__ : FnScope ["self", "words", "zone"] ["self"] (defScope s_Skin___str__) := ⟨rfl, rfl, rfl, by decide +kernel, rfl, by decide +kernel, by decide +kernel⟩
noncomputable def B_Skin___str__ : FS := (fSeq (fAsg (bName 1) (fLc (fiS (fAt "Skin" "zones" (fVar 0))) (bName 2) qYes (fCf (fNa 1 F_zone_word) (fCons (fVar 2) fNil)) [2]))
  (fRet (fM1 gJoin (fC (.str " ")) (fBin gAdd (fVar 1) (fLst (fCons (fBin gAdd (fC (.str "s")) (fCall gStr (fCons (fAt "Skin" "stretch" (fVar 0)) fNil))) (fCons (fBin gAdd (fC (.str "g")) (fCall gStr (fCons (fAt "Skin" "grade" (fVar 0)) fNil))) fNil)))))))
noncomputable def F_Skin___str__ : FF := fTr (fFn 3 1 B_Skin___str__)
abbrev s_Skin___len__ : Stmt := clsS 30 2
theorem sc_Skin___len__ : FnScope ["self"] ["self"] (defScope s_Skin___len__) := ⟨rfl, rfl, rfl, by decide +kernel, rfl, by decide +kernel, by decide +kernel⟩
noncomputable def B_Skin___len__ : FS := (fRet (fCall gLen (fCons (fAt "Skin" "zones" (fVar 0)) fNil)))
noncomputable def F_Skin___len__ : FF := fTr (fFn 1 1 B_Skin___len__)
abbrev s_is_count : Stmt := topS 39
theorem sc_is_count : FnScope ["thing"] ["thing"] (defScope s_is_count) := ⟨rfl, rfl, rfl, by decide +kernel, rfl, by decide +kernel, by decide +kernel⟩
noncomputable def B_is_count : FS := (fRet (fAnd (fIsi "int" (fVar 0)) (fAnd (fNot (fIsi "bool" (fVar 0))) (fBin gGe (fVar 0) (fC (.int 0))))))
noncomputable def F_is_count : FF := fTr (fFn 1 1 B_is_count)
abbrev s_are_counts : Stmt := topS 40
theorem sc_are_counts : FnScope ["thing", "one"] ["thing"] (defScope s_are_counts) := ⟨rfl, rfl, rfl, by decide +kernel, rfl, by decide +kernel, by decide +kernel⟩
noncomputable def B_are_counts : FS := (fRet (fAnd (fIsi "tuple" (fVar 0)) (fAnd (fBin gEq (fCall gLen (fCons (fVar 0) fNil)) (fC (.int 3))) (fCall gAll (fCons (fLc (fiS (fVar 0)) (bName 1) qYes (fCf (fNa 1 F_is_count) (fCons (fVar 1) fNil)) [1]) fNil)))))
noncomputable def F_are_counts : FF := fTr (fFn 2 1 B_are_counts)
abbrev s_long_in : Stmt := topS 41
theorem sc_long_in : FnScope ["part", "zone"] ["part", "zone"] (defScope s_long_in) := ⟨rfl, rfl, rfl, by decide +kernel, rfl, by decide +kernel, by decide +kernel⟩
noncomputable def B_long_in : FS := (fSeq (fIfS (qVal (fBin gEq (fIx (fVar 1) (fC (.int 0))) (fC (.str "along")))) (fRet (fIx (fVar 0) (fC (.int 0)))) fSkip)
  (fRet (fIx (fVar 0) (fC (.int 1)))))
noncomputable def F_long_in : FF := fTr (fFn 2 2 B_long_in)
abbrev s_does_fit : Stmt := topS 42
theorem sc_does_fit : FnScope ["zone", "table", "counts", "used", "part", "count", "long"] ["zone", "table", "counts"] (defScope s_does_fit) := ⟨rfl, rfl, rfl, by decide +kernel, rfl, by decide +kernel, by decide +kernel⟩
noncomputable def B_does_fit : FS := (fSeq (fAsg (bName 3) (fC (.int 0)))
  (fSeq (fFor (fiZip (fCons (fVar 1) (fCons (fVar 2) fNil))) (bTup 2 (bCons (bName 4) (bCons (bName 5) bNil))) (fSeq (fAsg (bName 6) (fCf (fNa 2 F_long_in) (fCons (fVar 4) (fCons (fVar 0) fNil))))
  (fIfS (qVal (fBin gGt (fVar 5) (fC (.int 0)))) (fSeq (fIfS (qVal (fBin (gIsN false) (fVar 6) (fC .non))) (fRet (fC (.bl false))) fSkip)
  (fAsg (bName 3) (fBin gAdd (fVar 3) (fBin gMul (fVar 5) (fVar 6))))) fSkip)))
  (fRet (fBin gLe (fVar 3) (fIx (fVar 0) (fC (.int 1)))))))
noncomputable def F_does_fit : FF := fTr (fFn 7 3 B_does_fit)
abbrev s_is_cut : Stmt := topS 43
theorem sc_is_cut : FnScope ["skin", "table", "thing", "one", "zone", "counts"] ["skin", "table", "thing"] (defScope s_is_cut) := ⟨rfl, rfl, rfl, by decide +kernel, rfl, by decide +kernel, by decide +kernel⟩
noncomputable def B_is_cut : FS := (fSeq (fIfS (qOr (qNot (qVal (fIsi "tuple" (fVar 2)))) (qOr (qVal (fBin gNe (fCall gLen (fCons (fVar 2) fNil)) (fLenO "Skin" F_Skin___len__ (fVar 0)))) (qNot (qVal (fCall gAll (fCons (fLc (fiS (fVar 2)) (bName 3) qYes (fCf (fNa 1 F_are_counts) (fCons (fVar 3) fNil)) [3]) fNil)))))) (fRet (fC (.bl false))) fSkip)
  (fRet (fCall gAll (fCons (fLc (fiZip (fCons (fAt "Skin" "zones" (fVar 0)) (fCons (fVar 2) fNil))) (bTup 2 (bCons (bName 4) (bCons (bName 5) bNil))) qYes (fCf (fNa 3 F_does_fit) (fCons (fVar 4) (fCons (fVar 1) (fCons (fVar 5) fNil)))) [4, 5]) fNil))))
noncomputable def F_is_cut : FF := fTr (fFn 6 3 B_is_cut)
abbrev s_cut_in_all : Stmt := topS 44
theorem sc_cut_in_all : FnScope ["cut", "at", "counts"] ["cut"] (defScope s_cut_in_all) := ⟨rfl, rfl, rfl, by decide +kernel, rfl, by decide +kernel, by decide +kernel⟩
noncomputable def B_cut_in_all : FS := (fRet (fCall gTuple (fCons (fLc (fiR1 (fCons (fC (.int 3)) fNil)) (bName 1) qYes (fCall gSum (fCons (fLc (fiS (fVar 0)) (bName 2) qYes (fIx (fVar 2) (fVar 1)) [2]) fNil)) [1]) fNil)))
noncomputable def F_cut_in_all : FF := fTr (fFn 3 1 B_cut_in_all)
abbrev s_pairs_given : Stmt := topS 45
theorem sc_pairs_given : FnScope ["table", "cut", "part", "count"] ["table", "cut"] (defScope s_pairs_given) := ⟨rfl, rfl, rfl, by decide +kernel, rfl, by decide +kernel, by decide +kernel⟩
noncomputable def B_pairs_given : FS := (fRet (fCall gMin (fCons (fLc (fiZip (fCons (fVar 0) (fCons (fCf (fNa 1 F_cut_in_all) (fCons (fVar 1) fNil)) fNil))) (bTup 2 (bCons (bName 2) (bCons (bName 3) bNil))) qYes (fBin gFdv (fVar 3) (fIx (fVar 2) (fC (.int 2)))) [2, 3]) fNil)))
noncomputable def F_pairs_given : FF := fTr (fFn 4 2 B_pairs_given)
abbrev s_is_whole_cut : Stmt := topS 46
theorem sc_is_whole_cut : FnScope ["table", "cut", "many", "part", "count"] ["table", "cut"] (defScope s_is_whole_cut) := ⟨rfl, rfl, rfl, by decide +kernel, rfl, by decide +kernel, by decide +kernel⟩
noncomputable def B_is_whole_cut : FS := (fSeq (fAsg (bName 2) (fCf (fNa 2 F_pairs_given) (fCons (fVar 0) (fCons (fVar 1) fNil))))
  (fRet (fCall gAll (fCons (fLc (fiZip (fCons (fVar 0) (fCons (fCf (fNa 1 F_cut_in_all) (fCons (fVar 1) fNil)) fNil))) (bTup 2 (bCons (bName 3) (bCons (bName 4) bNil))) qYes (fBin gEq (fVar 4) (fBin gMul (fVar 2) (fIx (fVar 3) (fC (.int 2))))) [3, 4]) fNil))))
noncomputable def F_is_whole_cut : FF := fTr (fFn 5 2 B_is_whole_cut)
abbrev s_used_in : Stmt := topS 47
theorem sc_used_in : FnScope ["zone", "table", "counts", "used", "part", "count"] ["zone", "table", "counts"] (defScope s_used_in) := ⟨rfl, rfl, rfl, by decide +kernel, rfl, by decide +kernel, by decide +kernel⟩
noncomputable def B_used_in : FS := (fSeq (fAsg (bName 3) (fC (.int 0)))
  (fSeq (fFor (fiZip (fCons (fVar 1) (fCons (fVar 2) fNil))) (bTup 2 (bCons (bName 4) (bCons (bName 5) bNil))) (fIfS (qVal (fBin gGt (fVar 5) (fC (.int 0)))) (fAsg (bName 3) (fBin gAdd (fVar 3) (fBin gMul (fVar 5) (fCf (fNa 2 F_long_in) (fCons (fVar 4) (fCons (fVar 0) fNil)))))) fSkip))
  (fRet (fVar 3))))
noncomputable def F_used_in : FF := fTr (fFn 6 3 B_used_in)
abbrev s_cuttings_of : Stmt := topS 49
theorem sc_cuttings_of : FnScope ["skin", "table", "cut", "zone", "counts"] ["skin", "table", "cut"] (defScope s_cuttings_of) := ⟨rfl, rfl, rfl, by decide +kernel, rfl, by decide +kernel, by decide +kernel⟩
noncomputable def B_cuttings_of : FS := (fRet (fCall gTuple (fCons (fLc (fiZip (fCons (fAt "Skin" "zones" (fVar 0)) (fCons (fVar 2) fNil))) (bTup 2 (bCons (bName 3) (bCons (bName 4) bNil))) qYes (fBin gSub (fIx (fVar 3) (fC (.int 1))) (fCf (fNa 3 F_used_in) (fCons (fVar 3) (fCons (fVar 1) (fCons (fVar 4) fNil))))) [3, 4]) fNil)))
noncomputable def F_cuttings_of : FF := fTr (fFn 5 3 B_cuttings_of)
abbrev s_used_by : Stmt := topS 48
theorem sc_used_by : FnScope ["skin", "table", "cut", "zone", "counts"] ["skin", "table", "cut"] (defScope s_used_by) := ⟨rfl, rfl, rfl, by decide +kernel, rfl, by decide +kernel, by decide +kernel⟩
noncomputable def B_used_by : FS := (fRet (fCall gSum (fCons (fLc (fiZip (fCons (fAt "Skin" "zones" (fVar 0)) (fCons (fVar 2) fNil))) (bTup 2 (bCons (bName 3) (bCons (bName 4) bNil))) qYes (fCf (fNa 3 F_used_in) (fCons (fVar 3) (fCons (fVar 1) (fCons (fVar 4) fNil)))) [3, 4]) fNil)))
noncomputable def F_used_by : FF := fTr (fFn 5 3 B_used_by)
abbrev s_length_of : Stmt := topS 34
theorem sc_length_of : FnScope ["skin", "grain", "length"] ["skin"] (defScope s_length_of) := ⟨rfl, rfl, rfl, by decide +kernel, rfl, by decide +kernel, by decide +kernel⟩
noncomputable def B_length_of : FS := (fRet (fCall gSum (fCons (fLc (fiS (fAt "Skin" "zones" (fVar 0))) (bTup 2 (bCons (bName 1) (bCons (bName 2) bNil))) qYes (fVar 2) [1, 2]) fNil)))
noncomputable def F_length_of : FF := fTr (fFn 3 1 B_length_of)
abbrev s__law_cut_right : Stmt := topS 65
theorem sc__law_cut_right : FnScope ["_law_skin", "_law_table_here", "_law_many", "_law_cut", "_law_rest"] ["_law_skin", "_law_table_here", "_law_many", "_law_cut"] (defScope s__law_cut_right) := ⟨rfl, rfl, rfl, by decide +kernel, rfl, by decide +kernel, by decide +kernel⟩
noncomputable def B__law_cut_right : FS := (fSeq (fIfS (qOr (qNot (qVal (fCf (fNa 3 F_is_cut) (fCons (fVar 0) (fCons (fVar 1) (fCons (fVar 3) fNil)))))) (qOr (qNot (qVal (fCf (fNa 2 F_is_whole_cut) (fCons (fVar 1) (fCons (fVar 3) fNil))))) (qVal (fBin gNe (fCf (fNa 2 F_pairs_given) (fCons (fVar 1) (fCons (fVar 3) fNil))) (fVar 2))))) (fRet (fC (.bl false))) fSkip)
  (fSeq (fAsg (bName 4) (fCf (fNa 3 F_cuttings_of) (fCons (fVar 0) (fCons (fVar 1) (fCons (fVar 3) fNil)))))
  (fRet (fAnd (fBin gEq (fCall gLen (fCons (fVar 4) fNil)) (fLenO "Skin" F_Skin___len__ (fVar 0))) (fBin gEq (fBin gAdd (fCf (fNa 3 F_used_by) (fCons (fVar 0) (fCons (fVar 1) (fCons (fVar 3) fNil)))) (fSumS (fVar 4))) (fCf (fNa 1 F_length_of) (fCons (fVar 0) fNil)))))))
noncomputable def F__law_cut_right : FF := fTr (fFn 5 4 B__law_cut_right)
abbrev s_is_row : Stmt := topS 8
theorem sc_is_row : FnScope ["thing", "one"] ["thing"] (defScope s_is_row) := ⟨rfl, rfl, rfl, by decide +kernel, rfl, by decide +kernel, by decide +kernel⟩
noncomputable def B_is_row : FS := (fSeq (fIfS (qOr (qNot (qVal (fIsi "tuple" (fVar 0)))) (qVal (fBin gNe (fCall gLen (fCons (fVar 0) fNil)) (fC (.int 3))))) (fRet (fC (.bl false))) fSkip)
  (fRet (fCall gAll (fCons (fLc (fiS (fVar 0)) (bName 1) qYes (fAnd (fIsi "int" (fVar 1)) (fAnd (fNot (fIsi "bool" (fVar 1))) (fBin gGe (fVar 1) (fC (.int 0))))) [1]) fNil))))
noncomputable def F_is_row : FF := fTr (fFn 2 1 B_is_row)
abbrev s_are_rows : Stmt := topS 9
theorem sc_are_rows : FnScope ["thing", "row"] ["thing"] (defScope s_are_rows) := ⟨rfl, rfl, rfl, by decide +kernel, rfl, by decide +kernel, by decide +kernel⟩
noncomputable def B_are_rows : FS := (fRet (fAnd (fIsi "tuple" (fVar 0)) (fCall gAll (fCons (fLc (fiS (fVar 0)) (bName 1) qYes (fCf (fNa 1 F_is_row) (fCons (fVar 1) fNil)) [1]) fNil))))
noncomputable def F_are_rows : FF := fTr (fFn 2 1 B_are_rows)
abbrev s_sums_behind : Stmt := topS 10
theorem sc_sums_behind : FnScope ["rows", "zone", "table", "cuts", "found", "row", "counts"] ["rows", "zone", "table"] (defScope s_sums_behind) := ⟨rfl, rfl, rfl, by decide +kernel, rfl, by decide +kernel, by decide +kernel⟩
noncomputable def B_sums_behind : FS := (fSeq (fAsg (bName 3) (fCf (fNa 1 F_greatest) (fCons (fCf (fNa 2 F_zone_cuts) (fCons (fVar 1) (fCons (fVar 2) fNil))) fNil)))
  (fSeq (fAsg (bName 4) (fDic0 true))
  (fSeq (fFor (fiS (fVar 0)) (bName 5) (fFor (fiS (fVar 3)) (bName 6) (fSet (fVar 4) (fCf (fNa 2 F_together) (fCons (fVar 5) (fCons (fVar 6) fNil))) (fC (.bl true)))))
  (fRet (fCall gList (fCons (fVar 4) fNil))))))
noncomputable def F_sums_behind : FF := fTr (fFn 7 3 B_sums_behind)
abbrev s_most_holds : Stmt := topS 11
theorem sc_most_holds : FnScope ["skin", "table", "many", "thing", "ahead", "zone", "rows", "row"] ["skin", "table", "many", "thing"] (defScope s_most_holds) := ⟨rfl, rfl, rfl, by decide +kernel, rfl, by decide +kernel, by decide +kernel⟩
noncomputable def B_most_holds : FS := (fSeq (fIfS (qOr (qNot (qVal (fIsi "tuple" (fVar 3)))) (qOr (qVal (fBin gNe (fCall gLen (fCons (fVar 3) fNil)) (fLenO "Skin" F_Skin___len__ (fVar 0)))) (qNot (qVal (fCall gAll (fCons (fLc (fiS (fVar 3)) (bName 6) qYes (fCf (fNa 1 F_are_rows) (fCons (fVar 6) fNil)) [6]) fNil)))))) (fRet (fC (.bl false))) fSkip)
  (fSeq (fAsg (bName 4) (fTup (fCons (fTup (fCons (fC (.int 0)) (fCons (fC (.int 0)) (fCons (fC (.int 0)) fNil)))) fNil)))
  (fSeq (fFor (fiZipS (fCons (fAt "Skin" "zones" (fVar 0)) (fCons (fVar 3) fNil))) (bTup 2 (bCons (bName 5) (bCons (bName 6) bNil))) (fSeq (fIfS (qNot (qVal (fCall gAll (fCons (fLc (fiS (fCf (fNa 3 F_sums_behind) (fCons (fVar 4) (fCons (fVar 5) (fCons (fVar 1) fNil))))) (bName 7) qYes (fCf (fNa 2 F_is_covered) (fCons (fVar 7) (fCons (fVar 6) fNil))) [7]) fNil)))) (fRet (fC (.bl false))) fSkip)
  (fAsg (bName 4) (fVar 6))))
  (fRet (fCall gAll (fCons (fLc (fiS (fVar 4)) (bName 7) qYes (fBin gLe (fCf (fNa 2 F_pairs_for) (fCons (fVar 1) (fCons (fVar 7) fNil))) (fVar 2)) [7]) fNil))))))
noncomputable def F_most_holds : FF := fTr (fFn 8 4 B_most_holds)
abbrev s__law_bent : Stmt := topS 64
theorem sc__law_bent : FnScope ["_law_deck_here", "_law_paper", "_law_other", "_law_way", "_law_at", "_law_rows", "_law_k", "_law_part", "_law_number"] ["_law_deck_here", "_law_paper", "_law_other"] (defScope s__law_bent) := ⟨rfl, rfl, rfl, by decide +kernel, rfl, by decide +kernel, by decide +kernel⟩
noncomputable def B__law_bent : FS := (fSeq (fAsg (bName 3) (fCf (fNa 2 F__law_draw) (fCons (fVar 0) (fCons (fC (.int 4)) fNil))))
  (fSeq (fAsg (bName 4) (fCf (fNa 2 F__law_draw) (fCons (fVar 0) (fCons (fCall gLen (fCons (fVar 1) fNil)) fNil))))
  (fSeq (fAsg (bName 5) (fCall gList (fCons (fIx (fVar 1) (fVar 4)) fNil)))
  (fSeq (fAsg (bName 6) (fCf (fNa 2 F__law_draw) (fCons (fVar 0) (fCons (fCall gLen (fCons (fVar 5) fNil)) fNil))))
  (fSeq (fAsg (bName 7) (fCf (fNa 2 F__law_draw) (fCons (fVar 0) (fCons (fC (.int 3)) fNil))))
  (fSeq (fIfS (qVal (fBin gEq (fVar 3) (fC (.int 0)))) (fRet (fVar 2)) fSkip)
  (fSeq (fIfS (qVal (fBin gEq (fVar 3) (fC (.int 1)))) (fExp (fBm gPopAt (fVar 5) (fCons (fVar 6) fNil))) (fSeq (fAsg (bName 8) (fCall gMax (fCons (fC (.int 0)) (fCons (fBin gAdd (fIx (fIx (fVar 5) (fVar 6)) (fVar 7)) (fIx (fLst (fCons (fC (.int 1)) (fCons (fC (.int 2)) (fCons (fC (.int 6)) (fCons (fNeg (fC (.int 1))) fNil))))) (fCf (fNa 2 F__law_draw) (fCons (fVar 0) (fCons (fC (.int 4)) fNil))))) fNil))))
  (fSet (fVar 5) (fVar 6) (fBin gAdd (fBin gAdd (fSl (fIx (fVar 5) (fVar 6)) fONo (fOSo (fVar 7))) (fTup (fCons (fVar 8) fNil))) (fSl (fIx (fVar 5) (fVar 6)) (fOSo (fBin gAdd (fVar 7) (fC (.int 1)))) fONo)))))
  (fSeq (fIfS (qVal (fBin gEq (fVar 3) (fC (.int 3)))) (fAsg (bName 5) (fBin gAdd (fVar 5) (fLst (fCons (fTup (fCons (fC (.int 9)) (fCons (fC (.int 9)) (fCons (fC (.int 9)) fNil)))) fNil)))) fSkip)
  (fRet (fBin gAdd (fBin gAdd (fSl (fVar 1) fONo (fOSo (fVar 4))) (fTup (fCons (fCall gTuple (fCons (fVar 5) fNil)) fNil))) (fSl (fVar 1) (fOSo (fBin gAdd (fVar 4) (fC (.int 1)))) fONo)))))))))))
noncomputable def F__law_bent : FF := fTr (fFn 9 3 B__law_bent)
abbrev s__law_right : Stmt := topS 66
theorem sc__law_right : FnScope ["_law_deck_here", "_law_skin", "_law_table_here", "_law_sums", "_law_most", "_law_many", "_law_cut", "_law_paper", "_law_read", "_law_row", "_law_zones", "_law_other", "_law_k", "_law_count", "_law_grain", "_law_length"] ["_law_deck_here", "_law_skin", "_law_table_here"] (defScope s__law_right) := ⟨rfl, rfl, rfl, by decide +kernel, rfl, by decide +kernel, by decide +kernel⟩
noncomputable def B__law_right : FS := (fSeq (fAsg (bName 3) (fCf (fNa 2 F__law_all_sums) (fCons (fAt "Skin" "zones" (fVar 1)) (fCons (fVar 2) fNil))))
  (fSeq (fAsg (bName 4) (fCall gMax (fCons (fLcD 3 (bName 9) qYes (fCf (fNa 2 F__law_given) (fCons (fVar 2) (fCons (fVar 9) fNil))) [9]) fNil)))
  (fSeq (fAsg (bTup 3 (bCons (bName 5) (bCons (bName 6) (bCons (bName 7) bNil)))) (fCf (fNa 2 F_most_pairs) (fCons (fVar 1) (fCons (fVar 2) fNil))))
  (fSeq (fAsg (bName 8) (fCf (fNa 1 F_read_skin) (fCons (fStrO "Skin" F_Skin___str__ (fVar 1)) fNil)))
  (fSeq (fIfS (qOr (qVal (fBin gNe (fVar 5) (fVar 4))) (qOr (qNot (qVal (fCf (fNa 4 F__law_cut_right) (fCons (fVar 1) (fCons (fVar 2) (fCons (fVar 5) (fCons (fVar 6) fNil))))))) (qVal (fBin gNe (fIx (fCf (fNa 2 F_most_pairs) (fCons (fVar 8) (fCons (fVar 2) fNil))) (fC (.int 0))) (fVar 5))))) (fRet (fC (.bl false))) fSkip)
  (fSeq (fAsg (bName 9) (fCf (fNa 2 F__law_pick) (fCons (fVar 0) (fCons (fCall gSorted (fCons (fVar 3) fNil)) fNil))))
  (fSeq (fIfS (qOr (qNot (qVal (fCf (fNa 3 F_is_cut) (fCons (fVar 1) (fCons (fVar 2) (fCons (fIx (fVar 3) (fVar 9)) fNil)))))) (qVal (fBin gGt (fCf (fNa 2 F_pairs_given) (fCons (fVar 2) (fCons (fIx (fVar 3) (fVar 9)) fNil))) (fVar 5)))) (fRet (fC (.bl false))) fSkip)
  (fSeq (fIfS (qOr (qNot (qVal (fCf (fNa 4 F_most_holds) (fCons (fVar 1) (fCons (fVar 2) (fCons (fVar 5) (fCons (fVar 7) fNil))))))) (qAnd (qVal (fBin gGt (fVar 5) (fC (.int 0)))) (qVal (fCf (fNa 4 F_most_holds) (fCons (fVar 1) (fCons (fVar 2) (fCons (fBin gSub (fVar 5) (fC (.int 1))) (fCons (fVar 7) fNil)))))))) (fRet (fC (.bl false))) fSkip)
  (fSeq (fAsg (bName 10) (fCall gTuple (fCons (fLc (fiS (fAt "Skin" "zones" (fVar 1))) (bTup 2 (bCons (bName 14) (bCons (bName 15) bNil))) qYes (fTup (fCons (fVar 14) (fCons (fCall gMax (fCons (fC (.int 1)) (fCons (fBin gSub (fVar 15) (fC (.int 3))) fNil))) fNil))) [14, 15]) fNil)))
  (fSeq (fAsg (bName 11) (fIx (fCf (fNa 2 F_most_pairs) (fCons (fMk "Skin" 4 F_Skin___init__ [.int 0, .int 0] (fCons (fVar 10) fNil)) (fCons (fVar 2) fNil))) (fC (.int 2))))
  (fSeq (fFor (fiR1 (fCons (fC (.int 8)) fNil)) (bName 12) (fSeq (fAsg (bName 13) (fCall gMax (fCons (fC (.int 0)) (fCons (fBin gAdd (fVar 5) (fCf (fNa 2 F__law_pick) (fCons (fVar 0) (fCons (fLst (fCons (fNeg (fC (.int 1))) (fCons (fNeg (fC (.int 1))) (fCons (fNeg (fC (.int 2))) (fCons (fC (.int 0)) (fCons (fC (.int 1)) fNil)))))) fNil)))) fNil))))
  (fIfS (qAnd (qVal (fCf (fNa 4 F_most_holds) (fCons (fVar 1) (fCons (fVar 2) (fCons (fVar 13) (fCons (fCf (fNa 3 F__law_bent) (fCons (fVar 0) (fCons (fVar 7) (fCons (fVar 11) fNil)))) fNil)))))) (qVal (fBin gGt (fVar 4) (fVar 13)))) (fRet (fC (.bl false))) fSkip)))
  (fRet (fC (.bl true))))))))))))))
noncomputable def F__law_right : FF := fTr (fFn 16 3 B__law_right)
abbrev s_table_for : Stmt := topS 37
theorem sc_table_for : FnScope ["book", "style", "size", "other", "there", "table"] ["book", "style", "size"] (defScope s_table_for) := ⟨rfl, rfl, rfl, by decide +kernel, rfl, by decide +kernel, by decide +kernel⟩
noncomputable def B_table_for : FS := (fSeq (fFor (fiS (fVar 0)) (bTup 3 (bCons (bName 3) (bCons (bName 4) (bCons (bName 5) bNil)))) (fIfS (qAnd (qVal (fBin gEq (fVar 3) (fVar 1))) (qVal (fBin gEq (fVar 4) (fVar 2)))) (fRet (fVar 5)) fSkip))
  fNvr)
noncomputable def F_table_for : FF := fTr (fFn 6 3 B_table_for)
abbrev s_law : Stmt := topS 67
theorem sc_law : FnScope ["_law_script", "_law_deck_here", "_law_turn", "_law_zones", "_law_table_here", "_law_size", "_law_skin", "_law_book"] ["_law_script"] (defScope s_law) := ⟨rfl, rfl, rfl, by decide +kernel, rfl, by decide +kernel, by decide +kernel⟩
noncomputable def B_law : FS := (fSeq (fAsg (bName 1) (fCf (fNa 1 F__law_deck) (fCons (fVar 0) fNil)))
  (fSeq (fFor (fiR1 (fCons (fC (.int 3)) fNil)) (bName 2) (fSeq (fPar 3 4 (fCons (fCf (fNa 1 F__law_small_zones) (fCons (fVar 1) fNil)) (fCons (fCf (fNa 1 F__law_table) (fCons (fVar 1) fNil)) fNil)))
  (fSeq (fAsg (bName 5) (fBin gAdd (fC (.int 1)) (fCf (fNa 2 F__law_draw) (fCons (fVar 1) (fCons (fC (.int 99)) fNil)))))
  (fSeq (fAsg (bName 6) (fMk "Skin" 4 F_Skin___init__ [] (fCons (fVar 3) (fCons (fCf (fNa 2 F__law_draw) (fCons (fVar 1) (fCons (fC (.int 41)) fNil))) (fCons (fCf (fNa 2 F__law_draw) (fCons (fVar 1) (fCons (fC (.int 3)) fNil))) fNil)))))
  (fSeq (fAsg (bName 7) (fTup (fCons (fTup (fCons (fC (.str "trim")) (fCons (fVar 5) (fCons (fVar 4) fNil)))) fNil)))
  (fIfS (qNot (qVal (fCf (fNa 3 F__law_right) (fCons (fVar 1) (fCons (fVar 6) (fCons (fCf (fNa 3 F_table_for) (fCons (fVar 7) (fCons (fC (.str "trim")) (fCons (fVar 5) fNil)))) fNil)))))) (fRet (fC (.bl false))) fSkip))))))
  (fRet (fC (.bl true)))))
noncomputable def F_law : FF := fTr (fFn 8 1 B_law)
end G84
set_option Elab.async false
set_option linter.all false
set_option maxRecDepth 100000
/-! printed by gen.py: the derivations -/
namespace G84
open PySem PySem.Spec PyProof.Rows L2 Fl
theorem hu2 {A : Around} {k : Nat} (hr : Room k A) : A.units + 2 < cLine := by have := hr.units; omega
theorem hu6 {A : Around} {k : Nat} (hr : Room k A) : A.units + 6 < cLine := by have := hr.units; omega
structure Txt (K : PySem.W.Frag) (mg : Str → Option Value) : Prop where
  n_all : mg "all" = none
  n_bool : mg "bool" = none
  n_dict : mg "dict" = none
  n_int : mg "int" = none
  n_isinstance : mg "isinstance" = none
  n_len : mg "len" = none
  n_list : mg "list" = none
  n_max : mg "max" = none
  n_min : mg "min" = none
  n_range : mg "range" = none
  n_reversed : mg "reversed" = none
  n_set : mg "set" = none
  n_sorted : mg "sorted" = none
  n_str : mg "str" = none
  n_sum : mg "sum" = none
  n_tuple : mg "tuple" = none
  n_zip : mg "zip" = none
  k_ACROSS : Cn mg "ACROSS" (.str "across")
  k_ALONG : Cn mg "ALONG" (.str "along")
  k_FIGURES : Cn mg "FIGURES" (.str "0123456789")
  k_MOST_GRADE : Cn mg "MOST_GRADE" (.int 2)
  k_MOST_LENGTH : Cn mg "MOST_LENGTH" (.int 24)
  k_MOST_STRETCH : Cn mg "MOST_STRETCH" (.int 40)
  k_MOST_ZONES : Cn mg "MOST_ZONES" (.int 4)
  k_PARTS : Cn mg "PARTS" (.int 3)
  a_Skin_grade : ∀ C, mg "Skin" = some (.ref C) → Cls K C ∧ NoAttr K C "grade"
  a_Skin_stretch : ∀ C, mg "Skin" = some (.ref C) → Cls K C ∧ NoAttr K C "stretch"
  a_Skin_zones : ∀ C, mg "Skin" = some (.ref C) → Cls K C ∧ NoAttr K C "zones"
section
variable {P : Program} {w : World} {K : PySem.W.Frag} {mg : Str → Option Value} {base : Heap}
theorem d__law_deck (T : Txt K mg)  (D : Dn K mg "_law_deck" s__law_deck ["_law_script"]) : Cl P w K mg base 1 "_law_deck" 1 F__law_deck := Cl.of0 D sc__law_deck fun f cdv A outer s H E hr => by
  unfold B__law_deck
  exact (ssOne (ssRet (sLst (saConsA (sRev (sCallT (cList rfl) (by rfl) T.n_list bt_list (saCons (sSl (sVar 0) soNo (soSo sInt)) saNil))) (saConsA (sBin op_Add (sCallB (cSum rfl) (by rfl) T.n_sum bt_sum (saCons (sLc (own := [("_law_cell", 1)]) rfl sc__law_deck.nd (siS (sSl (sVar 0) soNo (soSo sInt))) (show BlkOk ["_law_script", "_law_cell"] (defScope s__law_deck) _ [("_law_cell", 1)] from ⟨rfl, by decide +kernel, by decide +kernel, by decide +kernel, by decide +kernel⟩) (by decide +kernel) (fun s1 H1 C1 cl1 fp1 => (sgName 1 sc__law_deck.nd)) (fun s1 H1 C1 cl1 fp1 => stNil) (fun s1 H1 C1 cl1 fp1 => (sBin op_Mod (sVar 1) sInt))) saNil)) (sBin op_Mul sInt (sCallB cLen (by rfl) T.n_len bt_len (saCons (sSl (sVar 0) soNo (soSo sInt)) saNil)))) (saConsA sInt saNil))))))
theorem d__law_draw (T : Txt K mg)  (D : Dn K mg "_law_draw" s__law_draw ["_law_deck_here", "_law_most"]) : Cl P w K mg base 1 "_law_draw" 2 F__law_draw := Cl.of D sc__law_draw fun f cdv A outer s H E hr => by
  unfold B__law_draw
  exact (ssCons (ssSet (hu_of hr) (sVar 0) sInt (sBin op_Add (sIx (hu_of hr) (sVar 0) sInt) sInt))
    (ssCons (ssAsg (sIx (hu_of hr) (sVar 0) sInt) (sgName 2 sc__law_draw.nd))
    (ssCons (ssIf (sqCmp (op_Ne hr.units) (sIx (hu_of hr) (sVar 0) sInt) (sLst saNil)) (ssCons (ssAsg (sBm0 PySem.F.slot_list_pop PySem.F.type_list_pop mt_pop mPop (sIx (hu_of hr) (sVar 0) sInt)) (sgName 2 sc__law_draw.nd))
    (ssOne (ssIf (sqCmp op_Ge (sVar 2) (sBin op_Pow sInt sInt)) (ssCons (ssExp (sBm PySem.F.slot_list_append PySem.F.type_list_append mt_append mApp (sIx (hu_of hr) (sVar 0) sInt) (saCons (sBin op_Fdv (sVar 2) (sVar 1)) saNil)))
    (ssOne (ssRet (sBin op_Mod (sVar 2) (sVar 1))))) ssNil))) ssNil)
    (ssCons (ssAsg (sBin op_Mod (sBin op_Mul (sBin op_Add (sBin op_Add (sBin op_Mod (sVar 2) sInt) (sBin op_Mul sInt (sIx (hu_of hr) (sVar 0) sInt))) sInt) sInt) sInt) (sgName 3 sc__law_draw.nd))
    (ssCons (ssAsg (sBin op_Mod (sBin op_Add (sBin op_Add (sBin op_Mul (sVar 3) (sVar 3)) (sBin op_Mul sInt (sIx (hu_of hr) (sVar 0) sInt))) sInt) sInt) (sgName 3 sc__law_draw.nd))
    (ssOne (ssRet (sBin op_Mod (sBin op_Fdv (sBin op_Mod (sBin op_Add (sBin op_Mul (sVar 3) (sVar 3)) sInt) sInt) sInt) (sVar 1)))))))))
theorem d__law_pick (T : Txt K mg) (c__law_draw : Cl P w K mg base 1 "_law_draw" 2 F__law_draw) (D : Dn K mg "_law_pick" s__law_pick ["_law_deck_here", "_law_some"]) : Cl P w K mg base 2 "_law_pick" 2 F__law_pick := Cl.of D sc__law_pick fun f cdv A outer s H E hr => by
  unfold B__law_pick
  exact (ssOne (ssRet (sIx (hu_of hr) (sVar 1) (sCf c__law_draw hr (by rfl) (saCons (sVar 0) (saCons (sCallB cLen (by rfl) T.n_len bt_len (saCons (sVar 1) saNil)) saNil))))))
theorem d__law_small_zones (T : Txt K mg) (c__law_draw : Cl P w K mg base 1 "_law_draw" 2 F__law_draw) (c__law_pick : Cl P w K mg base 2 "_law_pick" 2 F__law_pick) (D : Dn K mg "_law_small_zones" s__law_small_zones ["_law_deck_here"]) : Cl P w K mg base 3 "_law_small_zones" 1 F__law_small_zones := Cl.of D sc__law_small_zones fun f cdv A outer s H E hr => by
  unfold B__law_small_zones
  exact (ssCons (ssAsg (sCf c__law_draw hr (by rfl) (saCons (sVar 0) (saCons sInt saNil))) (sgName 1 sc__law_small_zones.nd))
    (ssCons (ssAsg (sLst saNil) (sgName 2 sc__law_small_zones.nd))
    (ssCons (ssFor PassesOwn.never rfl (siR1 (by rfl) T.n_range (saCons (sIx (hu_of hr) (sLst (saCons (sBin op_Add sInt (sCf c__law_draw hr (by rfl) (saCons (sVar 0) (saCons sInt saNil)))) (saCons sInt saNil))) (sCallT cInt (by rfl) T.n_int bt_int (saCons (sCmp (op_Eq hr.units) (sVar 1) sInt) saNil))) saNil)) (sgName 3 sc__law_small_zones.nd) (ssOne (ssExp (sBm PySem.F.slot_list_append PySem.F.type_list_append mt_append mApp (sVar 2) (saCons (sTup (saCons (sCf c__law_pick hr (by rfl) (saCons (sVar 0) (saCons (sLst (saCons sStr (saCons sStr saNil))) saNil))) (saCons (sIx (hu_of hr) (sLst (saCons (sBin op_Add sInt (sCf c__law_draw hr (by rfl) (saCons (sVar 0) (saCons sInt saNil)))) (saCons sInt saNil))) (sCallT cInt (by rfl) T.n_int bt_int (saCons (sCmp (op_Eq hr.units) (sVar 1) sInt) saNil))) saNil))) saNil)))))
    (ssOne (ssRet (sCallT cTuple (by rfl) T.n_tuple bt_tuple (saCons (sVar 2) saNil)))))))
theorem d__law_lengths (T : Txt K mg) (c__law_draw : Cl P w K mg base 1 "_law_draw" 2 F__law_draw) (c__law_pick : Cl P w K mg base 2 "_law_pick" 2 F__law_pick) (D : Dn K mg "_law_lengths" s__law_lengths ["_law_deck_here"]) : Cl P w K mg base 3 "_law_lengths" 1 F__law_lengths := Cl.of D sc__law_lengths fun f cdv A outer s H E hr => by
  unfold B__law_lengths
  exact (ssCons (ssAsg (sCf c__law_draw hr (by rfl) (saCons (sVar 0) (saCons sInt saNil))) (sgName 1 sc__law_lengths.nd))
    (ssCons (ssPar (i := 2) (j := 3) rfl sc__law_lengths.nd (saCons (sBin op_Add sInt (sCf c__law_draw hr (by rfl) (saCons (sVar 0) (saCons sInt saNil)))) (saCons (sBin op_Add sInt (sCf c__law_draw hr (by rfl) (saCons (sVar 0) (saCons sInt saNil)))) saNil)))
    (ssCons (ssIf (sqCmp (op_Eq hr.units) (sVar 1) sInt) (ssOne (ssAsg (sBin op_Add sInt (sCf c__law_draw hr (by rfl) (saCons (sVar 0) (saCons sInt saNil)))) (sgName 2 sc__law_lengths.nd))) ssNil)
    (ssOne (ssRet (sTup (saCons (sIx (hu_of hr) (sLst (saCons (sVar 2) (saCons sNon saNil))) (sCallT cInt (by rfl) T.n_int bt_int (saCons (sCmp (op_Eq hr.units) (sVar 1) sInt) saNil))) (saCons (sIx (hu_of hr) (sLst (saCons (sVar 3) (saCons sNon saNil))) (sCallT cInt (by rfl) T.n_int bt_int (saCons (sCmp (op_Eq hr.units) (sVar 1) sInt) saNil))) (saCons (sBin op_Add sInt (sCf c__law_pick hr (by rfl) (saCons (sVar 0) (saCons (sLst (saCons sInt (saCons sInt (saCons sInt (saCons sInt (saCons sInt (saCons sInt saNil))))))) saNil)))) saNil)))))))))
theorem d__law_table (T : Txt K mg) (c__law_lengths : Cl P w K mg base 3 "_law_lengths" 1 F__law_lengths) (D : Dn K mg "_law_table" s__law_table ["_law_deck_here"]) : Cl P w K mg base 4 "_law_table" 1 F__law_table := Cl.of D sc__law_table fun f cdv A outer s H E hr => by
  unfold B__law_table
  exact (ssOne (ssRet (sCallT cTuple (by rfl) T.n_tuple bt_tuple (saCons (sLc (own := [("_law_part", 1)]) rfl sc__law_table.nd (siR1 (by rfl) T.n_range (saCons sInt saNil)) (show BlkOk ["_law_deck_here", "_law_part"] (defScope s__law_table) _ [("_law_part", 1)] from ⟨rfl, by decide +kernel, by decide +kernel, by decide +kernel, by decide +kernel⟩) (by decide +kernel) (fun s1 H1 C1 cl1 fp1 => (sgName 1 sc__law_table.nd)) (fun s1 H1 C1 cl1 fp1 => stNil) (fun s1 H1 C1 cl1 fp1 => (sCf c__law_lengths hr (by rfl) (saCons (sVar 0) saNil)))) saNil))))
theorem b_Skin___init__ (T : Txt K mg)  : ∀ (f : Addr) (cdv : Value) (A : Around) (outer : List Env) (s : Shared) (H : Hp) (E : XK), Room 0 (A.deeper (envOfC "Skin.__init__" (defScope s_Skin___init__) s.heap.objs.size f cdv)) → SSs (cxOf CX0 P w K mg base ["self", "zones", "stretch", "grade"] "Skin.__init__" (defScope s_Skin___init__) f cdv A outer s H E).nox (defBody s_Skin___init__) B_Skin___init__ := fun f cdv A outer s H E hr => by
  unfold B_Skin___init__
  exact (ssCons (ssFld ⟨T.a_Skin_zones⟩ (sVar 0) (sVar 1))
    (ssCons (ssFld ⟨T.a_Skin_stretch⟩ (sVar 0) (sVar 2))
    (ssOne (ssFld ⟨T.a_Skin_grade⟩ (sVar 0) (sVar 3)))))
theorem d__law_fits (T : Txt K mg)  (D : Dn K mg "_law_fits" s__law_fits ["_law_zone", "_law_table_here", "_law_counts_here"]) : Cl P w K mg base 1 "_law_fits" 3 F__law_fits := Cl.of D sc__law_fits fun f cdv A outer s H E hr => by
  unfold B__law_fits
  exact (ssCons (ssAsg (sCallT cInt (by rfl) T.n_int bt_int (saCons (sCmp (op_Eq hr.units) (sIx (hu_of hr) (sVar 0) sInt) sStr) saNil)) (sgName 3 sc__law_fits.nd))
    (ssCons (ssLc (i := 4) (own := [("_law_part", 5), ("_law_count", 6)]) rfl sc__law_fits.nd (siZip (by rfl) T.n_zip (saCons (sVar 1) (saCons (sVar 2) saNil))) (show BlkOk ["_law_zone", "_law_table_here", "_law_counts_here", "_law_at", "_law_some", "_law_part", "_law_count", "_law_one"] (defScope s__law_fits) _ [("_law_part", 5), ("_law_count", 6)] from ⟨rfl, by decide +kernel, by decide +kernel, by decide +kernel, by decide +kernel⟩) (by decide +kernel) (fun s1 H1 C1 cl1 fp1 => (sgTup rfl (sgCons (sgName 5 sc__law_fits.nd) (sgCons (sgName 6 sc__law_fits.nd) sgNil)))) (fun s1 H1 C1 cl1 fp1 => (stOne (sqCmp op_Gt (sVar 6) sInt))) (fun s1 H1 C1 cl1 fp1 => (sTup (saCons (sIx (hu_of hr) (sVar 5) (sVar 3)) (saCons (sVar 6) saNil)))) (by rfl))
    (ssCons (ssIf (sqCmp (op_Ne hr.units) (sLc (own := [("_law_one", 7), ("_law_count", 6)]) rfl sc__law_fits.nd (siS (sVar 4)) (show BlkOk ["_law_zone", "_law_table_here", "_law_counts_here", "_law_at", "_law_some", "_law_part", "_law_count", "_law_one"] (defScope s__law_fits) _ [("_law_one", 7), ("_law_count", 6)] from ⟨rfl, by decide +kernel, by decide +kernel, by decide +kernel, by decide +kernel⟩) (by decide +kernel) (fun s1 H1 C1 cl1 fp1 => (sgTup rfl (sgCons (sgName 7 sc__law_fits.nd) (sgCons (sgName 6 sc__law_fits.nd) sgNil)))) (fun s1 H1 C1 cl1 fp1 => (stOne (sqCmp op_Is (sVar 7) sNon))) (fun s1 H1 C1 cl1 fp1 => (sVar 7))) (sLst saNil)) (ssOne (ssRet sBl)) ssNil)
    (ssOne (ssRet (sCmp op_Le (sCallB (cSum rfl) (by rfl) T.n_sum bt_sum (saCons (sLc (own := [("_law_one", 7), ("_law_count", 6)]) rfl sc__law_fits.nd (siS (sVar 4)) (show BlkOk ["_law_zone", "_law_table_here", "_law_counts_here", "_law_at", "_law_some", "_law_part", "_law_count", "_law_one"] (defScope s__law_fits) _ [("_law_one", 7), ("_law_count", 6)] from ⟨rfl, by decide +kernel, by decide +kernel, by decide +kernel, by decide +kernel⟩) (by decide +kernel) (fun s1 H1 C1 cl1 fp1 => (sgTup rfl (sgCons (sgName 7 sc__law_fits.nd) (sgCons (sgName 6 sc__law_fits.nd) sgNil)))) (fun s1 H1 C1 cl1 fp1 => stNil) (fun s1 H1 C1 cl1 fp1 => (sBin op_Mul (sVar 7) (sVar 6)))) saNil)) (sIx (hu_of hr) (sVar 0) sInt)))))))
theorem d__law_counts (T : Txt K mg) (c__law_fits : Cl P w K mg base 1 "_law_fits" 3 F__law_fits) (D : Dn K mg "_law_counts" s__law_counts ["_law_zone", "_law_table_here"]) : Cl P w K mg base 2 "_law_counts" 2 F__law_counts := Cl.of D sc__law_counts fun f cdv A outer s H E hr => by
  unfold B__law_counts
  exact (ssCons (ssAsg (sLst saNil) (sgName 2 sc__law_counts.nd))
    (ssCons (ssFor PassesOwn.never rfl (siR1 (by rfl) T.n_range (saCons sInt saNil)) (sgName 3 sc__law_counts.nd) (ssOne (ssFor PassesOwn.never rfl (siR1 (by rfl) T.n_range (saCons (sBin op_Sub sInt (sVar 3)) saNil)) (sgName 4 sc__law_counts.nd) (ssOne (ssExp (sBm PySem.F.slot_list_extend PySem.F.type_list_extend mt_extend mExt (sVar 2) (saCons (sLc (own := [("_law_c", 5)]) rfl sc__law_counts.nd (siR1 (by rfl) T.n_range (saCons (sBin op_Sub (sBin op_Sub sInt (sVar 3)) (sVar 4)) saNil)) (show BlkOk ["_law_zone", "_law_table_here", "_law_found", "_law_a", "_law_b", "_law_c"] (defScope s__law_counts) _ [("_law_c", 5)] from ⟨rfl, by decide +kernel, by decide +kernel, by decide +kernel, by decide +kernel⟩) (by decide +kernel) (fun s1 H1 C1 cl1 fp1 => (sgName 5 sc__law_counts.nd)) (fun s1 H1 C1 cl1 fp1 => (stOne (sqVal (sCf c__law_fits hr (by rfl) (saCons (sVar 0) (saCons (sVar 1) (saCons (sTup (saCons (sVar 3) (saCons (sVar 4) (saCons (sVar 5) saNil)))) saNil))))))) (fun s1 H1 C1 cl1 fp1 => (sTup (saCons (sVar 3) (saCons (sVar 4) (saCons (sVar 5) saNil)))))) saNil)))))))
    (ssOne (ssRet (sVar 2)))))
theorem d__law_added (T : Txt K mg)  (D : Dn K mg "_law_added" s__law_added ["_law_one", "_law_other"]) : Cl P w K mg base 1 "_law_added" 2 F__law_added := Cl.of D sc__law_added fun f cdv A outer s H E hr => by
  unfold B__law_added
  exact (ssOne (ssRet (sCallT cTuple (by rfl) T.n_tuple bt_tuple (saCons (sLc (own := [("_law_here", 2), ("_law_there", 3)]) rfl sc__law_added.nd (siZip (by rfl) T.n_zip (saCons (sVar 0) (saCons (sVar 1) saNil))) (show BlkOk ["_law_one", "_law_other", "_law_here", "_law_there"] (defScope s__law_added) _ [("_law_here", 2), ("_law_there", 3)] from ⟨rfl, by decide +kernel, by decide +kernel, by decide +kernel, by decide +kernel⟩) (by decide +kernel) (fun s1 H1 C1 cl1 fp1 => (sgTup rfl (sgCons (sgName 2 sc__law_added.nd) (sgCons (sgName 3 sc__law_added.nd) sgNil)))) (fun s1 H1 C1 cl1 fp1 => stNil) (fun s1 H1 C1 cl1 fp1 => (sBin op_Add (sVar 2) (sVar 3)))) saNil))))
theorem d__law_all_sums (T : Txt K mg) (c__law_counts : Cl P w K mg base 2 "_law_counts" 2 F__law_counts) (c__law_added : Cl P w K mg base 1 "_law_added" 2 F__law_added) (D : Dn K mg "_law_all_sums" s__law_all_sums ["_law_zones", "_law_table_here"]) : Cl P w K mg base 3 "_law_all_sums" 2 F__law_all_sums := Cl.of D sc__law_all_sums fun f cdv A outer s H E hr => by
  unfold B__law_all_sums
  exact (ssCons (ssAsg (sD1 hr.units0 (sTup (saCons sInt (saCons sInt (saCons sInt saNil)))) (sTup saNil)) (sgName 2 sc__law_all_sums.nd))
    (ssCons (ssFor PassesOwn.never rfl (siS (sVar 0)) (sgName 3 sc__law_all_sums.nd) (ssCons (ssAsg sDic0T (sgName 4 sc__law_all_sums.nd))
    (ssCons (ssAsg (sCf c__law_counts hr (by rfl) (saCons (sVar 3) (saCons (sVar 1) saNil))) (sgName 5 sc__law_all_sums.nd))
    (ssCons (ssForD PassesOwn.never rfl (sVar 2) (sgName 6 sc__law_all_sums.nd) (ssOne (ssFor PassesOwn.never rfl (siS (sVar 5)) (sgName 7 sc__law_all_sums.nd) (ssOne (ssSet (hu_of hr) (sVar 4) (sCf c__law_added hr (by rfl) (saCons (sVar 6) (saCons (sVar 7) saNil))) (sBin op_Add (sIx (hu_of hr) (sVar 2) (sVar 6)) (sTup (saCons (sVar 7) saNil))))))))
    (ssOne (ssAsg (sVar 4) (sgName 2 sc__law_all_sums.nd)))))))
    (ssOne (ssRet (sVar 2)))))
theorem d__law_given (T : Txt K mg)  (D : Dn K mg "_law_given" s__law_given ["_law_table_here", "_law_counts_here"]) : Cl P w K mg base 1 "_law_given" 2 F__law_given := Cl.of D sc__law_given fun f cdv A outer s H E hr => by
  unfold B__law_given
  exact (ssOne (ssRet (sCallB (cMin rfl) (by rfl) T.n_min bt_min (saCons (sLc (own := [("_law_count", 2), ("_law_part", 3)]) rfl sc__law_given.nd (siZip (by rfl) T.n_zip (saCons (sVar 1) (saCons (sVar 0) saNil))) (show BlkOk ["_law_table_here", "_law_counts_here", "_law_count", "_law_part"] (defScope s__law_given) _ [("_law_count", 2), ("_law_part", 3)] from ⟨rfl, by decide +kernel, by decide +kernel, by decide +kernel, by decide +kernel⟩) (by decide +kernel) (fun s1 H1 C1 cl1 fp1 => (sgTup rfl (sgCons (sgName 2 sc__law_given.nd) (sgCons (sgName 3 sc__law_given.nd) sgNil)))) (fun s1 H1 C1 cl1 fp1 => stNil) (fun s1 H1 C1 cl1 fp1 => (sBin op_Fdv (sVar 2) (sIx (hu_of hr) (sVar 3) sInt)))) saNil))))
theorem d_is_beneath (T : Txt K mg)  (D : Dn K mg "is_beneath" s_is_beneath ["one", "other"]) : Cl P w K mg base 1 "is_beneath" 2 F_is_beneath := Cl.of D sc_is_beneath fun f cdv A outer s H E hr => by
  unfold B_is_beneath
  exact (ssOne (ssRet (sCallB (cAll rfl) (by rfl) T.n_all bt_all (saCons (sLc (own := [("here", 2), ("there", 3)]) rfl sc_is_beneath.nd (siZipS (by rfl) T.n_zip (saCons (sVar 0) (saCons (sVar 1) saNil))) (show BlkOk ["one", "other", "here", "there"] (defScope s_is_beneath) _ [("here", 2), ("there", 3)] from ⟨rfl, by decide +kernel, by decide +kernel, by decide +kernel, by decide +kernel⟩) (by decide +kernel) (fun s1 H1 C1 cl1 fp1 => (sgTup rfl (sgCons (sgName 2 sc_is_beneath.nd) (sgCons (sgName 3 sc_is_beneath.nd) sgNil)))) (fun s1 H1 C1 cl1 fp1 => stNil) (fun s1 H1 C1 cl1 fp1 => (sCmp op_Le (sVar 2) (sVar 3)))) saNil))))
theorem d_is_covered (T : Txt K mg) (c_is_beneath : Cl P w K mg base 1 "is_beneath" 2 F_is_beneath) (D : Dn K mg "is_covered" s_is_covered ["row", "rows"]) : Cl P w K mg base 2 "is_covered" 2 F_is_covered := Cl.of D sc_is_covered fun f cdv A outer s H E hr => by
  unfold B_is_covered
  exact (ssCons (ssFor PassesOwn.never rfl (siS (sVar 1)) (sgName 2 sc_is_covered.nd) (ssOne (ssIf (sqVal (sCf c_is_beneath hr (by rfl) (saCons (sVar 0) (saCons (sVar 2) saNil)))) (ssOne (ssRet sBl)) ssNil)))
    (ssOne (ssRet sBl)))
theorem d_greatest (T : Txt K mg) (c_is_covered : Cl P w K mg base 2 "is_covered" 2 F_is_covered) (D : Dn K mg "greatest" s_greatest ["rows"]) : Cl P w K mg base 3 "greatest" 1 F_greatest := Cl.of D sc_greatest fun f cdv A outer s H E hr => by
  unfold B_greatest
  exact (ssCons (ssAsg (sLst saNil) (sgName 1 sc_greatest.nd))
    (ssCons (ssFor PassesOwn.never rfl (siS (sRev (sSS rfl (hu6 hr) (by rfl) T.n_sorted (by rfl) T.n_set bt_sorted bt_set (sVar 0)))) (sgName 2 sc_greatest.nd) (ssOne (ssIf (sqNot (sqVal (sCf c_is_covered hr (by rfl) (saCons (sVar 2) (saCons (sVar 1) saNil))))) (ssOne (ssExp (sBm PySem.F.slot_list_append PySem.F.type_list_append mt_append mApp (sVar 1) (saCons (sVar 2) saNil)))) ssNil)))
    (ssOne (ssRet (sVar 1)))))
theorem d_part_length (T : Txt K mg)  (D : Dn K mg "part_length" s_part_length ["part", "grain"]) : Cl P w K mg base 1 "part_length" 2 F_part_length := Cl.of D sc_part_length fun f cdv A outer s H E hr => by
  unfold B_part_length
  exact (ssCons (ssAsg (sVar 0) (sgTup rfl (sgCons (sgName 2 sc_part_length.nd) (sgCons (sgName 3 sc_part_length.nd) (sgCons (sgName 4 sc_part_length.nd) sgNil)))))
    (ssCons (ssIf (sqCmp (op_Eq hr.units) (sVar 1) sStr) (ssOne (ssRet (sVar 3))) ssNil)
    (ssOne (ssRet (sVar 2)))))
theorem d_zone_cuts (T : Txt K mg) (c_part_length : Cl P w K mg base 1 "part_length" 2 F_part_length) (D : Dn K mg "zone_cuts" s_zone_cuts ["zone", "table"]) : Cl P w K mg base 2 "zone_cuts" 2 F_zone_cuts := Cl.of D sc_zone_cuts fun f cdv A outer s H E hr => by
  unfold B_zone_cuts
  exact (ssCons (ssAsg (sVar 0) (sgTup rfl (sgCons (sgName 2 sc_zone_cuts.nd) (sgCons (sgName 3 sc_zone_cuts.nd) sgNil))))
    (ssCons (ssAsg (sLst (saCons (sTup (saCons (sTup saNil) (saCons (sVar 3) saNil))) saNil)) (sgName 4 sc_zone_cuts.nd))
    (ssCons (ssFor PassesOwn.never rfl (siS (sVar 1)) (sgName 5 sc_zone_cuts.nd) (ssCons (ssAsg (sCf c_part_length hr (by rfl) (saCons (sVar 5) (saCons (sVar 2) saNil))) (sgName 6 sc_zone_cuts.nd))
    (ssCons (ssAsg (sLst saNil) (sgName 7 sc_zone_cuts.nd))
    (ssCons (ssFor PassesOwn.never rfl (siS (sVar 4)) (sgTup rfl (sgCons (sgName 8 sc_zone_cuts.nd) (sgCons (sgName 9 sc_zone_cuts.nd) sgNil))) (ssOne (ssIf (sqCmp op_Is (sVar 6) sNon) (ssOne (ssExp (sBm PySem.F.slot_list_append PySem.F.type_list_append mt_append mApp (sVar 7) (saCons (sTup (saCons (sBin op_Add (sVar 8) (sTup (saCons sInt saNil))) (saCons (sVar 9) saNil))) saNil)))) (ssOne (ssExp (sBm PySem.F.slot_list_extend PySem.F.type_list_extend mt_extend mExt (sVar 7) (saCons (sLc (own := [("many", 10)]) rfl sc_zone_cuts.nd (siR1 (by rfl) T.n_range (saCons (sBin op_Add sInt (sBin op_Fdv (sVar 9) (sVar 6))) saNil)) (show BlkOk ["zone", "table", "grain", "length", "found", "part", "long", "more", "counts", "room", "many"] (defScope s_zone_cuts) _ [("many", 10)] from ⟨rfl, by decide +kernel, by decide +kernel, by decide +kernel, by decide +kernel⟩) (by decide +kernel) (fun s1 H1 C1 cl1 fp1 => (sgName 10 sc_zone_cuts.nd)) (fun s1 H1 C1 cl1 fp1 => stNil) (fun s1 H1 C1 cl1 fp1 => (sTup (saCons (sBin op_Add (sVar 8) (sTup (saCons (sVar 10) saNil))) (saCons (sBin op_Sub (sVar 9) (sBin op_Mul (sVar 10) (sVar 6))) saNil))))) saNil)))))))
    (ssOne (ssAsg (sVar 7) (sgName 4 sc_zone_cuts.nd)))))))
    (ssOne (ssRet (sLc (own := [("counts", 8), ("room", 9)]) rfl sc_zone_cuts.nd (siS (sVar 4)) (show BlkOk ["zone", "table", "grain", "length", "found", "part", "long", "more", "counts", "room", "many"] (defScope s_zone_cuts) _ [("counts", 8), ("room", 9)] from ⟨rfl, by decide +kernel, by decide +kernel, by decide +kernel, by decide +kernel⟩) (by decide +kernel) (fun s1 H1 C1 cl1 fp1 => (sgTup rfl (sgCons (sgName 8 sc_zone_cuts.nd) (sgCons (sgName 9 sc_zone_cuts.nd) sgNil)))) (fun s1 H1 C1 cl1 fp1 => stNil) (fun s1 H1 C1 cl1 fp1 => (sVar 8))))))))
theorem d_together (T : Txt K mg)  (D : Dn K mg "together" s_together ["one", "other"]) : Cl P w K mg base 1 "together" 2 F_together := Cl.of D sc_together fun f cdv A outer s H E hr => by
  unfold B_together
  exact (ssOne (ssRet (sCallT cTuple (by rfl) T.n_tuple bt_tuple (saCons (sLc (own := [("here", 2), ("there", 3)]) rfl sc_together.nd (siZipS (by rfl) T.n_zip (saCons (sVar 0) (saCons (sVar 1) saNil))) (show BlkOk ["one", "other", "here", "there"] (defScope s_together) _ [("here", 2), ("there", 3)] from ⟨rfl, by decide +kernel, by decide +kernel, by decide +kernel, by decide +kernel⟩) (by decide +kernel) (fun s1 H1 C1 cl1 fp1 => (sgTup rfl (sgCons (sgName 2 sc_together.nd) (sgCons (sgName 3 sc_together.nd) sgNil)))) (fun s1 H1 C1 cl1 fp1 => stNil) (fun s1 H1 C1 cl1 fp1 => (sBin op_Add (sVar 2) (sVar 3)))) saNil))))
theorem d_ways_behind (T : Txt K mg) (c_greatest : Cl P w K mg base 3 "greatest" 1 F_greatest) (c_zone_cuts : Cl P w K mg base 2 "zone_cuts" 2 F_zone_cuts) (c_together : Cl P w K mg base 1 "together" 2 F_together) (D : Dn K mg "ways_behind" s_ways_behind ["rows", "zone", "table"]) : Cl P w K mg base 4 "ways_behind" 3 F_ways_behind := Cl.of D sc_ways_behind fun f cdv A outer s H E hr => by
  unfold B_ways_behind
  exact (ssCons (ssAsg (sCf c_greatest hr (by rfl) (saCons (sCf c_zone_cuts hr (by rfl) (saCons (sVar 1) (saCons (sVar 2) saNil))) saNil)) (sgName 3 sc_ways_behind.nd))
    (ssCons (ssAsg sDic0T (sgName 4 sc_ways_behind.nd))
    (ssCons (ssFor PassesOwn.never rfl (siS (sVar 0)) (sgName 5 sc_ways_behind.nd) (ssOne (ssFor PassesOwn.never rfl (siS (sVar 3)) (sgName 6 sc_ways_behind.nd) (ssOne (ssSet (hu_of hr) (sVar 4) (sCf c_together hr (by rfl) (saCons (sVar 5) (saCons (sVar 6) saNil))) (sTup (saCons (sVar 5) (saCons (sVar 6) saNil))))))))
    (ssOne (ssRet (sCallT (cDict rfl (hu2 hr)) (by rfl) T.n_dict bt_dict (saCons (sLc (own := [("row", 5)]) rfl sc_ways_behind.nd (siS (sCf c_greatest hr (by rfl) (saCons (sVar 4) saNil))) (show BlkOk ["rows", "zone", "table", "cuts", "found", "row", "counts"] (defScope s_ways_behind) _ [("row", 5)] from ⟨rfl, by decide +kernel, by decide +kernel, by decide +kernel, by decide +kernel⟩) (by decide +kernel) (fun s1 H1 C1 cl1 fp1 => (sgName 5 sc_ways_behind.nd)) (fun s1 H1 C1 cl1 fp1 => stNil) (fun s1 H1 C1 cl1 fp1 => (sTup (saCons (sVar 5) (saCons (sIx (hu_of hr) (sVar 4) (sVar 5)) saNil))))) saNil)))))))
theorem d_pairs_for (T : Txt K mg)  (D : Dn K mg "pairs_for" s_pairs_for ["table", "counts"]) : Cl P w K mg base 1 "pairs_for" 2 F_pairs_for := Cl.of D sc_pairs_for fun f cdv A outer s H E hr => by
  unfold B_pairs_for
  exact (ssOne (ssRet (sCallB (cMin rfl) (by rfl) T.n_min bt_min (saCons (sLc (own := [("count", 2), ("part", 3)]) rfl sc_pairs_for.nd (siZipS (by rfl) T.n_zip (saCons (sVar 1) (saCons (sVar 0) saNil))) (show BlkOk ["table", "counts", "count", "part"] (defScope s_pairs_for) _ [("count", 2), ("part", 3)] from ⟨rfl, by decide +kernel, by decide +kernel, by decide +kernel, by decide +kernel⟩) (by decide +kernel) (fun s1 H1 C1 cl1 fp1 => (sgTup rfl (sgCons (sgName 2 sc_pairs_for.nd) (sgCons (sgName 3 sc_pairs_for.nd) sgNil)))) (fun s1 H1 C1 cl1 fp1 => stNil) (fun s1 H1 C1 cl1 fp1 => (sBin op_Fdv (sVar 2) (sIx (hu_of hr) (sVar 3) sInt)))) saNil))))
theorem d_whole_cut (T : Txt K mg)  (D : Dn K mg "whole_cut" s_whole_cut ["table", "cut", "many"]) : Cl P w K mg base 1 "whole_cut" 3 F_whole_cut := Cl.of D sc_whole_cut fun f cdv A outer s H E hr => by
  unfold B_whole_cut
  exact (ssCons (ssLc (i := 3) (own := [("part", 7)]) rfl sc_whole_cut.nd (siS (sVar 0)) (show BlkOk ["table", "cut", "many", "left", "found", "counts", "some", "part", "count", "rest"] (defScope s_whole_cut) _ [("part", 7)] from ⟨rfl, by decide +kernel, by decide +kernel, by decide +kernel, by decide +kernel⟩) (by decide +kernel) (fun s1 H1 C1 cl1 fp1 => (sgName 7 sc_whole_cut.nd)) (fun s1 H1 C1 cl1 fp1 => stNil) (fun s1 H1 C1 cl1 fp1 => (sBin op_Mul (sVar 2) (sIx (hu_of hr) (sVar 7) sInt))) (by rfl))
    (ssCons (ssAsg (sLst saNil) (sgName 4 sc_whole_cut.nd))
    (ssCons (ssFor PassesOwn.never rfl (siS (sVar 1)) (sgName 5 sc_whole_cut.nd) (ssCons (ssLc (i := 6) (own := [("count", 8), ("rest", 9)]) rfl sc_whole_cut.nd (siZipS (by rfl) T.n_zip (saCons (sVar 5) (saCons (sVar 3) saNil))) (show BlkOk ["table", "cut", "many", "left", "found", "counts", "some", "part", "count", "rest"] (defScope s_whole_cut) _ [("count", 8), ("rest", 9)] from ⟨rfl, by decide +kernel, by decide +kernel, by decide +kernel, by decide +kernel⟩) (by decide +kernel) (fun s1 H1 C1 cl1 fp1 => (sgTup rfl (sgCons (sgName 8 sc_whole_cut.nd) (sgCons (sgName 9 sc_whole_cut.nd) sgNil)))) (fun s1 H1 C1 cl1 fp1 => stNil) (fun s1 H1 C1 cl1 fp1 => (sCallB (cMin rfl) (by rfl) T.n_min bt_min (saCons (sVar 8) (saCons (sVar 9) saNil)))) (by rfl))
    (ssCons (ssLc (i := 3) (own := [("rest", 9), ("count", 8)]) rfl sc_whole_cut.nd (siZipS (by rfl) T.n_zip (saCons (sVar 3) (saCons (sVar 6) saNil))) (show BlkOk ["table", "cut", "many", "left", "found", "counts", "some", "part", "count", "rest"] (defScope s_whole_cut) _ [("rest", 9), ("count", 8)] from ⟨rfl, by decide +kernel, by decide +kernel, by decide +kernel, by decide +kernel⟩) (by decide +kernel) (fun s1 H1 C1 cl1 fp1 => (sgTup rfl (sgCons (sgName 9 sc_whole_cut.nd) (sgCons (sgName 8 sc_whole_cut.nd) sgNil)))) (fun s1 H1 C1 cl1 fp1 => stNil) (fun s1 H1 C1 cl1 fp1 => (sBin op_Sub (sVar 9) (sVar 8))) (by rfl))
    (ssOne (ssExp (sBm PySem.F.slot_list_append PySem.F.type_list_append mt_append mApp (sVar 4) (saCons (sCallT cTuple (by rfl) T.n_tuple bt_tuple (saCons (sVar 6) saNil)) saNil)))))))
    (ssOne (ssRet (sCallT cTuple (by rfl) T.n_tuple bt_tuple (saCons (sVar 4) saNil)))))))
theorem d_most_pairs (T : Txt K mg) (c_ways_behind : Cl P w K mg base 4 "ways_behind" 3 F_ways_behind) (c_pairs_for : Cl P w K mg base 1 "pairs_for" 2 F_pairs_for) (c_whole_cut : Cl P w K mg base 1 "whole_cut" 3 F_whole_cut) (D : Dn K mg "most_pairs" s_most_pairs ["skin", "table"]) : Cl P w K mg base 5 "most_pairs" 2 F_most_pairs := Cl.of D sc_most_pairs fun f cdv A outer s H E hr => by
  unfold B_most_pairs
  exact (ssCons (ssAsg (sLst saNil) (sgName 2 sc_most_pairs.nd))
    (ssCons (ssAsg (sLst (saCons (sTup (saCons sInt (saCons sInt (saCons sInt saNil)))) saNil)) (sgName 3 sc_most_pairs.nd))
    (ssCons (ssFor PassesOwn.never rfl (siS (sAt ⟨T.a_Skin_zones⟩ (sVar 0))) (sgName 4 sc_most_pairs.nd) (ssCons (ssExp (sBm PySem.F.slot_list_append PySem.F.type_list_append mt_append mApp (sVar 2) (saCons (sCf c_ways_behind hr (by rfl) (saCons (sVar 3) (saCons (sVar 4) (saCons (sVar 1) saNil)))) saNil)))
    (ssOne (ssAsg (sCallT (cList rfl) (by rfl) T.n_list bt_list (saCons (sIx (hu_of hr) (sVar 2) (sNeg sInt)) saNil)) (sgName 3 sc_most_pairs.nd)))))
    (ssCons (ssAsg (sCallB (cMax rfl) (by rfl) T.n_max bt_max (saCons (sLc (own := [("row", 10)]) rfl sc_most_pairs.nd (siS (sVar 3)) (show BlkOk ["skin", "table", "steps", "rows", "zone", "many", "here", "cut", "step", "counts", "row"] (defScope s_most_pairs) _ [("row", 10)] from ⟨rfl, by decide +kernel, by decide +kernel, by decide +kernel, by decide +kernel⟩) (by decide +kernel) (fun s1 H1 C1 cl1 fp1 => (sgName 10 sc_most_pairs.nd)) (fun s1 H1 C1 cl1 fp1 => stNil) (fun s1 H1 C1 cl1 fp1 => (sCf c_pairs_for hr (by rfl) (saCons (sVar 1) (saCons (sVar 10) saNil))))) saNil)) (sgName 5 sc_most_pairs.nd))
    (ssCons (ssAsg (sIx (hu_of hr) (sLc (own := [("row", 10)]) rfl sc_most_pairs.nd (siS (sVar 3)) (show BlkOk ["skin", "table", "steps", "rows", "zone", "many", "here", "cut", "step", "counts", "row"] (defScope s_most_pairs) _ [("row", 10)] from ⟨rfl, by decide +kernel, by decide +kernel, by decide +kernel, by decide +kernel⟩) (by decide +kernel) (fun s1 H1 C1 cl1 fp1 => (sgName 10 sc_most_pairs.nd)) (fun s1 H1 C1 cl1 fp1 => (stOne (sqCmp (op_Eq hr.units) (sCf c_pairs_for hr (by rfl) (saCons (sVar 1) (saCons (sVar 10) saNil))) (sVar 5)))) (fun s1 H1 C1 cl1 fp1 => (sVar 10))) sInt) (sgName 6 sc_most_pairs.nd))
    (ssCons (ssAsg (sLst saNil) (sgName 7 sc_most_pairs.nd))
    (ssCons (ssFor PassesOwn.never rfl (siRev (by rfl) T.n_reversed (sVar 2)) (sgName 8 sc_most_pairs.nd) (ssCons (ssAsg (sIx (hu_of hr) (sVar 8) (sVar 6)) (sgTup rfl (sgCons (sgName 6 sc_most_pairs.nd) (sgCons (sgName 9 sc_most_pairs.nd) sgNil))))
    (ssOne (ssExp (sBm PySem.F.slot_list_append PySem.F.type_list_append mt_append mApp (sVar 7) (saCons (sVar 9) saNil))))))
    (ssOne (ssRet (sTup (saCons (sVar 5) (saCons (sCf c_whole_cut hr (by rfl) (saCons (sVar 1) (saCons (sRev (sVar 7)) (saCons (sVar 5) saNil)))) (saCons (sCallT cTuple (by rfl) T.n_tuple bt_tuple (saCons (sLc (own := [("step", 8)]) rfl sc_most_pairs.nd (siS (sVar 2)) (show BlkOk ["skin", "table", "steps", "rows", "zone", "many", "here", "cut", "step", "counts", "row"] (defScope s_most_pairs) _ [("step", 8)] from ⟨rfl, by decide +kernel, by decide +kernel, by decide +kernel, by decide +kernel⟩) (by decide +kernel) (fun s1 H1 C1 cl1 fp1 => (sgName 8 sc_most_pairs.nd)) (fun s1 H1 C1 cl1 fp1 => stNil) (fun s1 H1 C1 cl1 fp1 => (sCallT cTuple (by rfl) T.n_tuple bt_tuple (saCons (sCallB (cSorted rfl (hu6 hr)) (by rfl) T.n_sorted bt_sorted (saCons (sVar 8) saNil)) saNil)))) saNil)) saNil)))))))))))))
theorem d_number_behind (T : Txt K mg)  (D : Dn K mg "number_behind" s_number_behind ["word", "sign", "least", "most"]) : Cl P w K mg base 1 "number_behind" 4 F_number_behind := Cl.of D sc_number_behind fun f cdv A outer s H E hr => by
  unfold B_number_behind
  exact (ssCons (ssAsg (sSl (sVar 0) (soSo sInt) soNo) (sgName 4 sc_number_behind.nd))
    (ssCons (ssIf (SW.q (swOr (sqCmp (op_Ne hr.units) (sSl (sVar 0) soNo (soSo sInt)) (sVar 1)) (swOr (sqNot (sqChain op_Le op_Le sInt (sCallB cLen (by rfl) T.n_len bt_len (saCons (sVar 4) saNil)) sInt)) (swOr1 (sqNot (sqVal (sCallB (cAll rfl) (by rfl) T.n_all bt_all (saCons (sLc (own := [("one", 6)]) rfl sc_number_behind.nd (siS (sVar 4)) (show BlkOk ["word", "sign", "least", "most", "figures", "number", "one"] (defScope s_number_behind) _ [("one", 6)] from ⟨rfl, by decide +kernel, by decide +kernel, by decide +kernel, by decide +kernel⟩) (by decide +kernel) (fun s1 H1 C1 cl1 fp1 => (sgName 6 sc_number_behind.nd)) (fun s1 H1 C1 cl1 fp1 => stNil) (fun s1 H1 C1 cl1 fp1 => (sCmp op_InS (sVar 6) (sCn T.k_FIGURES (by rfl) (fun _ => .mkStr))))) saNil)))))))) (ssOne (ssRet sNon)) ssNil)
    (ssCons (ssAsg (sCallT cInt (by rfl) T.n_int bt_int (saCons (sVar 4) saNil)) (sgName 5 sc_number_behind.nd))
    (ssCons (ssIf (SW.q (swOr (sqCmp (op_Ne hr.units) (sCallT cStr (by rfl) T.n_str bt_str (saCons (sVar 5) saNil)) (sVar 4)) (swOr1 (sqNot (sqChain op_Le op_Le (sVar 2) (sVar 5) (sVar 3)))))) (ssOne (ssRet sNon)) ssNil)
    (ssOne (ssRet (sVar 5)))))))
theorem d_sign_of (T : Txt K mg)  (D : Dn K mg "sign_of" s_sign_of ["grain"]) : Cl P w K mg base 1 "sign_of" 1 F_sign_of := Cl.of D sc_sign_of fun f cdv A outer s H E hr => by
  unfold B_sign_of
  exact (ssCons (ssIf (sqCmp (op_Eq hr.units) (sVar 0) (sCn T.k_ALONG (by rfl) (fun _ => .mkStr))) (ssOne (ssRet sStr)) ssNil)
    (ssOne (ssRet sStr)))
theorem d_zone_read (T : Txt K mg) (c_number_behind : Cl P w K mg base 1 "number_behind" 4 F_number_behind) (c_sign_of : Cl P w K mg base 1 "sign_of" 1 F_sign_of) (D : Dn K mg "zone_read" s_zone_read ["word"]) : Cl P w K mg base 2 "zone_read" 1 F_zone_read := Cl.of D sc_zone_read fun f cdv A outer s H E hr => by
  unfold B_zone_read
  exact (ssCons (ssFor PassesOwn.never rfl (siS (sTup (saCons (sCn T.k_ALONG (by rfl) (fun _ => .mkStr)) (saCons (sCn T.k_ACROSS (by rfl) (fun _ => .mkStr)) saNil)))) (sgName 1 sc_zone_read.nd) (ssCons (ssAsg (sCf c_number_behind hr (by rfl) (saCons (sVar 0) (saCons (sCf c_sign_of hr (by rfl) (saCons (sVar 1) saNil)) (saCons sInt (saCons (sCn T.k_MOST_LENGTH (by rfl) (fun _ => .mkInt)) saNil))))) (sgName 2 sc_zone_read.nd))
    (ssOne (ssIf (sqCmp op_IsNot (sVar 2) sNon) (ssOne (ssRet (sTup (saCons (sVar 1) (saCons (sVar 2) saNil))))) ssNil))))
    (ssOne ssNvr))
theorem d_read_skin (T : Txt K mg) (c_number_behind : Cl P w K mg base 1 "number_behind" 4 F_number_behind) (c_zone_read : Cl P w K mg base 2 "zone_read" 1 F_zone_read) (m_Skin_0 : Mkr P w K mg base 1 "Skin" 4 F_Skin___init__ []) (D : Dn K mg "read_skin" s_read_skin ["text"]) : Cl P w K mg base 3 "read_skin" 1 F_read_skin := Cl.of D sc_read_skin fun f cdv A outer s H E hr => by
  unfold B_read_skin
  exact (ssCons (ssIf (sqNot (sqVal (sIsi (by rfl) T.n_isinstance (by rfl) T.n_str bt_str (sVar 0)))) (ssOne ssNvr) ssNil)
    (ssCons (ssAsg (sSplit (sVar 0) sStr) (sgName 1 sc_read_skin.nd))
    (ssCons (ssIf (sqNot (sqChain op_Le op_Le sInt (sCallB cLen (by rfl) T.n_len bt_len (saCons (sVar 1) saNil)) (sBin op_Add sInt (sCn T.k_MOST_ZONES (by rfl) (fun _ => .mkInt))))) (ssOne ssNvr) ssNil)
    (ssCons (ssAsg (sCf c_number_behind hr (by rfl) (saCons (sIx (hu_of hr) (sVar 1) (sNeg sInt)) (saCons sStr (saCons sInt (saCons (sCn T.k_MOST_STRETCH (by rfl) (fun _ => .mkInt)) saNil))))) (sgName 2 sc_read_skin.nd))
    (ssCons (ssAsg (sCf c_number_behind hr (by rfl) (saCons (sIx (hu_of hr) (sVar 1) (sNeg sInt)) (saCons sStr (saCons sInt (saCons (sCn T.k_MOST_GRADE (by rfl) (fun _ => .mkInt)) saNil))))) (sgName 3 sc_read_skin.nd))
    (ssCons (ssIf (SW.q (swOr (sqCmp op_Is (sVar 2) sNon) (swOr1 (sqCmp op_Is (sVar 3) sNon)))) (ssOne ssNvr) ssNil)
    (ssOne (ssRet (sMk m_Skin_0 hr (by rfl) (saCons (sCallT cTuple (by rfl) T.n_tuple bt_tuple (saCons (sLc (own := [("word", 4)]) rfl sc_read_skin.nd (siS (sSl (sVar 1) soNo (soSo (sNeg sInt)))) (show BlkOk ["text", "words", "stretch", "grade", "word"] (defScope s_read_skin) _ [("word", 4)] from ⟨rfl, by decide +kernel, by decide +kernel, by decide +kernel, by decide +kernel⟩) (by decide +kernel) (fun s1 H1 C1 cl1 fp1 => (sgName 4 sc_read_skin.nd)) (fun s1 H1 C1 cl1 fp1 => stNil) (fun s1 H1 C1 cl1 fp1 => (sCf c_zone_read hr (by rfl) (saCons (sVar 4) saNil)))) saNil)) (saCons (sVar 2) (saCons (sVar 3) saNil))))))))))))
theorem d_zone_word (T : Txt K mg) (c_sign_of : Cl P w K mg base 1 "sign_of" 1 F_sign_of) (D : Dn K mg "zone_word" s_zone_word ["zone"]) : Cl P w K mg base 2 "zone_word" 1 F_zone_word := Cl.of D sc_zone_word fun f cdv A outer s H E hr => by
  unfold B_zone_word
  exact (ssOne (ssRet (sBin op_Add (sCf c_sign_of hr (by rfl) (saCons (sIx (hu_of hr) (sVar 0) sInt) saNil)) (sCallT cStr (by rfl) T.n_str bt_str (saCons (sIx (hu_of hr) (sVar 0) sInt) saNil)))))
theorem b_Skin___str__ (T : Txt K mg) (c_zone_word : Cl P w K mg base 2 "zone_word" 1 F_zone_word) : ∀ (f : Addr) (cdv : Value) (A : Around) (outer : List Env) (s : Shared) (H : Hp) (E : XK), Room 2 (A.deeper (envOfC "Skin.__str__" (defScope s_Skin___str__) s.heap.objs.size f cdv)) → SSs (cxOf CX0 P w K mg base ["self", "words", "zone"] "Skin.__str__" (defScope s_Skin___str__) f cdv A outer s H E).nox (defBody s_Skin___str__) B_Skin___str__ := fun f cdv A outer s H E hr => by
  unfold B_Skin___str__
  exact (ssCons (ssLc (i := 1) (own := [("zone", 2)]) rfl sc_Skin___str__.nd (siS (sAt ⟨T.a_Skin_zones⟩ (sVar 0))) (show BlkOk ["self", "words", "zone"] (defScope s_Skin___str__) _ [("zone", 2)] from ⟨rfl, by decide +kernel, by decide +kernel, by decide +kernel, by decide +kernel⟩) (by decide +kernel) (fun s1 H1 C1 cl1 fp1 => (sgName 2 sc_Skin___str__.nd)) (fun s1 H1 C1 cl1 fp1 => stNil) (fun s1 H1 C1 cl1 fp1 => (sCf c_zone_word hr (by rfl) (saCons (sVar 2) saNil))) (by rfl))
    (ssOne (ssRet (sJoin sStr (sBin op_Add (sVar 1) (sLst (saCons (sBin op_Add sStr (sCallT cStr (by rfl) T.n_str bt_str (saCons (sAt ⟨T.a_Skin_stretch⟩ (sVar 0)) saNil))) (saCons (sBin op_Add sStr (sCallT cStr (by rfl) T.n_str bt_str (saCons (sAt ⟨T.a_Skin_grade⟩ (sVar 0)) saNil))) saNil))))))))
theorem b_Skin___len__ (T : Txt K mg)  : ∀ (f : Addr) (cdv : Value) (A : Around) (outer : List Env) (s : Shared) (H : Hp) (E : XK), Room 0 (A.deeper (envOfC "Skin.__len__" (defScope s_Skin___len__) s.heap.objs.size f cdv)) → SSs (cxOf CX0 P w K mg base ["self"] "Skin.__len__" (defScope s_Skin___len__) f cdv A outer s H E).nox (defBody s_Skin___len__) B_Skin___len__ := fun f cdv A outer s H E hr => by
  unfold B_Skin___len__
  exact (ssOne (ssRet (sCallB cLen (by rfl) T.n_len bt_len (saCons (sAt ⟨T.a_Skin_zones⟩ (sVar 0)) saNil))))
theorem d_is_count (T : Txt K mg)  (D : Dn K mg "is_count" s_is_count ["thing"]) : Cl P w K mg base 1 "is_count" 1 F_is_count := Cl.of D sc_is_count fun f cdv A outer s H E hr => by
  unfold B_is_count
  exact (ssOne (ssRet (sAnd (sIsi (by rfl) T.n_isinstance (by rfl) T.n_int bt_int (sVar 0)) (sAnd (sNot (sIsi (by rfl) T.n_isinstance (by rfl) T.n_bool bt_bool (sVar 0))) (sOne (sCmp op_Ge (sVar 0) sInt))))))
theorem d_are_counts (T : Txt K mg) (c_is_count : Cl P w K mg base 1 "is_count" 1 F_is_count) (D : Dn K mg "are_counts" s_are_counts ["thing"]) : Cl P w K mg base 2 "are_counts" 1 F_are_counts := Cl.of D sc_are_counts fun f cdv A outer s H E hr => by
  unfold B_are_counts
  exact (ssOne (ssRet (sAnd (sIsi (by rfl) T.n_isinstance (by rfl) T.n_tuple bt_tuple (sVar 0)) (sAnd (sCmp (op_Eq hr.units) (sCallB cLen (by rfl) T.n_len bt_len (saCons (sVar 0) saNil)) (sCn T.k_PARTS (by rfl) (fun _ => .mkInt))) (sOne (sCallB (cAll rfl) (by rfl) T.n_all bt_all (saCons (sLc (own := [("one", 1)]) rfl sc_are_counts.nd (siS (sVar 0)) (show BlkOk ["thing", "one"] (defScope s_are_counts) _ [("one", 1)] from ⟨rfl, by decide +kernel, by decide +kernel, by decide +kernel, by decide +kernel⟩) (by decide +kernel) (fun s1 H1 C1 cl1 fp1 => (sgName 1 sc_are_counts.nd)) (fun s1 H1 C1 cl1 fp1 => stNil) (fun s1 H1 C1 cl1 fp1 => (sCf c_is_count hr (by rfl) (saCons (sVar 1) saNil)))) saNil)))))))
theorem d_long_in (T : Txt K mg)  (D : Dn K mg "long_in" s_long_in ["part", "zone"]) : Cl P w K mg base 1 "long_in" 2 F_long_in := Cl.of D sc_long_in fun f cdv A outer s H E hr => by
  unfold B_long_in
  exact (ssCons (ssIf (sqCmp (op_Eq hr.units) (sIx (hu_of hr) (sVar 1) sInt) (sCn T.k_ALONG (by rfl) (fun _ => .mkStr))) (ssOne (ssRet (sIx (hu_of hr) (sVar 0) sInt))) ssNil)
    (ssOne (ssRet (sIx (hu_of hr) (sVar 0) sInt))))
theorem d_does_fit (T : Txt K mg) (c_long_in : Cl P w K mg base 1 "long_in" 2 F_long_in) (D : Dn K mg "does_fit" s_does_fit ["zone", "table", "counts"]) : Cl P w K mg base 2 "does_fit" 3 F_does_fit := Cl.of D sc_does_fit fun f cdv A outer s H E hr => by
  unfold B_does_fit
  exact (ssCons (ssAsg sInt (sgName 3 sc_does_fit.nd))
    (ssCons (ssFor PassesOwn.never rfl (siZip (by rfl) T.n_zip (saCons (sVar 1) (saCons (sVar 2) saNil))) (sgTup rfl (sgCons (sgName 4 sc_does_fit.nd) (sgCons (sgName 5 sc_does_fit.nd) sgNil))) (ssCons (ssAsg (sCf c_long_in hr (by rfl) (saCons (sVar 4) (saCons (sVar 0) saNil))) (sgName 6 sc_does_fit.nd))
    (ssOne (ssIf (sqCmp op_Gt (sVar 5) sInt) (ssCons (ssIf (sqCmp op_Is (sVar 6) sNon) (ssOne (ssRet sBl)) ssNil)
    (ssOne (ssAsg (sBin op_Add (sVar 3) (sBin op_Mul (sVar 5) (sVar 6))) (sgName 3 sc_does_fit.nd)))) ssNil))))
    (ssOne (ssRet (sCmp op_Le (sVar 3) (sIx (hu_of hr) (sVar 0) sInt))))))
theorem d_is_cut (T : Txt K mg) (c_Skin___len__ : MeF P w K mg base 1 "Skin" "__len__" F_Skin___len__) (c_are_counts : Cl P w K mg base 2 "are_counts" 1 F_are_counts) (c_does_fit : Cl P w K mg base 2 "does_fit" 3 F_does_fit) (D : Dn K mg "is_cut" s_is_cut ["skin", "table", "thing"]) : Cl P w K mg base 3 "is_cut" 3 F_is_cut := Cl.of D sc_is_cut fun f cdv A outer s H E hr => by
  unfold B_is_cut
  exact (ssCons (ssIf (SW.q (swOr (sqNot (sqVal (sIsi (by rfl) T.n_isinstance (by rfl) T.n_tuple bt_tuple (sVar 2)))) (swOr (sqCmp (op_Ne hr.units) (sCallB cLen (by rfl) T.n_len bt_len (saCons (sVar 2) saNil)) (sLenO c_Skin___len__ hr (by rfl) T.n_len (sVar 0))) (swOr1 (sqNot (sqVal (sCallB (cAll rfl) (by rfl) T.n_all bt_all (saCons (sLc (own := [("one", 3)]) rfl sc_is_cut.nd (siS (sVar 2)) (show BlkOk ["skin", "table", "thing", "one", "zone", "counts"] (defScope s_is_cut) _ [("one", 3)] from ⟨rfl, by decide +kernel, by decide +kernel, by decide +kernel, by decide +kernel⟩) (by decide +kernel) (fun s1 H1 C1 cl1 fp1 => (sgName 3 sc_is_cut.nd)) (fun s1 H1 C1 cl1 fp1 => stNil) (fun s1 H1 C1 cl1 fp1 => (sCf c_are_counts hr (by rfl) (saCons (sVar 3) saNil)))) saNil)))))))) (ssOne (ssRet sBl)) ssNil)
    (ssOne (ssRet (sCallB (cAll rfl) (by rfl) T.n_all bt_all (saCons (sLc (own := [("zone", 4), ("counts", 5)]) rfl sc_is_cut.nd (siZip (by rfl) T.n_zip (saCons (sAt ⟨T.a_Skin_zones⟩ (sVar 0)) (saCons (sVar 2) saNil))) (show BlkOk ["skin", "table", "thing", "one", "zone", "counts"] (defScope s_is_cut) _ [("zone", 4), ("counts", 5)] from ⟨rfl, by decide +kernel, by decide +kernel, by decide +kernel, by decide +kernel⟩) (by decide +kernel) (fun s1 H1 C1 cl1 fp1 => (sgTup rfl (sgCons (sgName 4 sc_is_cut.nd) (sgCons (sgName 5 sc_is_cut.nd) sgNil)))) (fun s1 H1 C1 cl1 fp1 => stNil) (fun s1 H1 C1 cl1 fp1 => (sCf c_does_fit hr (by rfl) (saCons (sVar 4) (saCons (sVar 1) (saCons (sVar 5) saNil)))))) saNil)))))
theorem d_cut_in_all (T : Txt K mg)  (D : Dn K mg "cut_in_all" s_cut_in_all ["cut"]) : Cl P w K mg base 1 "cut_in_all" 1 F_cut_in_all := Cl.of D sc_cut_in_all fun f cdv A outer s H E hr => by
  unfold B_cut_in_all
  exact (ssOne (ssRet (sCallT cTuple (by rfl) T.n_tuple bt_tuple (saCons (sLc (own := [("at", 1)]) rfl sc_cut_in_all.nd (siR1 (by rfl) T.n_range (saCons (sCn T.k_PARTS (by rfl) (fun _ => .mkInt)) saNil)) (show BlkOk ["cut", "at", "counts"] (defScope s_cut_in_all) _ [("at", 1)] from ⟨rfl, by decide +kernel, by decide +kernel, by decide +kernel, by decide +kernel⟩) (by decide +kernel) (fun s1 H1 C1 cl1 fp1 => (sgName 1 sc_cut_in_all.nd)) (fun s1 H1 C1 cl1 fp1 => stNil) (fun s1 H1 C1 cl1 fp1 => (sCallB (cSum rfl) (by rfl) T.n_sum bt_sum (saCons (sLc (own := [("counts", 2)]) rfl sc_cut_in_all.nd (siS (sVar 0)) (show BlkOk ["cut", "at", "counts"] ({ kind := .function, names := [(".0", .local), ("at", .cell), ("sum", .globalImplicit), ("cut", .cell)], isGenerator := false, isCoroutine := false } : Scope) _ [("counts", 2)] from ⟨rfl, by decide +kernel, by decide +kernel, by decide +kernel, by decide +kernel⟩) (by decide +kernel) (fun s1 H1 C1 cl1 fp1 => (sgName 2 sc_cut_in_all.nd)) (fun s1 H1 C1 cl1 fp1 => stNil) (fun s1 H1 C1 cl1 fp1 => (sIx (hu_of hr) (sVar 2) (sVar 1)))) saNil)))) saNil))))
theorem d_pairs_given (T : Txt K mg) (c_cut_in_all : Cl P w K mg base 1 "cut_in_all" 1 F_cut_in_all) (D : Dn K mg "pairs_given" s_pairs_given ["table", "cut"]) : Cl P w K mg base 2 "pairs_given" 2 F_pairs_given := Cl.of D sc_pairs_given fun f cdv A outer s H E hr => by
  unfold B_pairs_given
  exact (ssOne (ssRet (sCallB (cMin rfl) (by rfl) T.n_min bt_min (saCons (sLc (own := [("part", 2), ("count", 3)]) rfl sc_pairs_given.nd (siZip (by rfl) T.n_zip (saCons (sVar 0) (saCons (sCf c_cut_in_all hr (by rfl) (saCons (sVar 1) saNil)) saNil))) (show BlkOk ["table", "cut", "part", "count"] (defScope s_pairs_given) _ [("part", 2), ("count", 3)] from ⟨rfl, by decide +kernel, by decide +kernel, by decide +kernel, by decide +kernel⟩) (by decide +kernel) (fun s1 H1 C1 cl1 fp1 => (sgTup rfl (sgCons (sgName 2 sc_pairs_given.nd) (sgCons (sgName 3 sc_pairs_given.nd) sgNil)))) (fun s1 H1 C1 cl1 fp1 => stNil) (fun s1 H1 C1 cl1 fp1 => (sBin op_Fdv (sVar 3) (sIx (hu_of hr) (sVar 2) sInt)))) saNil))))
theorem d_is_whole_cut (T : Txt K mg) (c_pairs_given : Cl P w K mg base 2 "pairs_given" 2 F_pairs_given) (c_cut_in_all : Cl P w K mg base 1 "cut_in_all" 1 F_cut_in_all) (D : Dn K mg "is_whole_cut" s_is_whole_cut ["table", "cut"]) : Cl P w K mg base 3 "is_whole_cut" 2 F_is_whole_cut := Cl.of D sc_is_whole_cut fun f cdv A outer s H E hr => by
  unfold B_is_whole_cut
  exact (ssCons (ssAsg (sCf c_pairs_given hr (by rfl) (saCons (sVar 0) (saCons (sVar 1) saNil))) (sgName 2 sc_is_whole_cut.nd))
    (ssOne (ssRet (sCallB (cAll rfl) (by rfl) T.n_all bt_all (saCons (sLc (own := [("part", 3), ("count", 4)]) rfl sc_is_whole_cut.nd (siZip (by rfl) T.n_zip (saCons (sVar 0) (saCons (sCf c_cut_in_all hr (by rfl) (saCons (sVar 1) saNil)) saNil))) (show BlkOk ["table", "cut", "many", "part", "count"] (defScope s_is_whole_cut) _ [("part", 3), ("count", 4)] from ⟨rfl, by decide +kernel, by decide +kernel, by decide +kernel, by decide +kernel⟩) (by decide +kernel) (fun s1 H1 C1 cl1 fp1 => (sgTup rfl (sgCons (sgName 3 sc_is_whole_cut.nd) (sgCons (sgName 4 sc_is_whole_cut.nd) sgNil)))) (fun s1 H1 C1 cl1 fp1 => stNil) (fun s1 H1 C1 cl1 fp1 => (sCmp (op_Eq hr.units) (sVar 4) (sBin op_Mul (sVar 2) (sIx (hu_of hr) (sVar 3) sInt))))) saNil)))))
theorem d_used_in (T : Txt K mg) (c_long_in : Cl P w K mg base 1 "long_in" 2 F_long_in) (D : Dn K mg "used_in" s_used_in ["zone", "table", "counts"]) : Cl P w K mg base 2 "used_in" 3 F_used_in := Cl.of D sc_used_in fun f cdv A outer s H E hr => by
  unfold B_used_in
  exact (ssCons (ssAsg sInt (sgName 3 sc_used_in.nd))
    (ssCons (ssFor PassesOwn.never rfl (siZip (by rfl) T.n_zip (saCons (sVar 1) (saCons (sVar 2) saNil))) (sgTup rfl (sgCons (sgName 4 sc_used_in.nd) (sgCons (sgName 5 sc_used_in.nd) sgNil))) (ssOne (ssIf (sqCmp op_Gt (sVar 5) sInt) (ssOne (ssAsg (sBin op_Add (sVar 3) (sBin op_Mul (sVar 5) (sCf c_long_in hr (by rfl) (saCons (sVar 4) (saCons (sVar 0) saNil))))) (sgName 3 sc_used_in.nd))) ssNil)))
    (ssOne (ssRet (sVar 3)))))
theorem d_cuttings_of (T : Txt K mg) (c_used_in : Cl P w K mg base 2 "used_in" 3 F_used_in) (D : Dn K mg "cuttings_of" s_cuttings_of ["skin", "table", "cut"]) : Cl P w K mg base 3 "cuttings_of" 3 F_cuttings_of := Cl.of D sc_cuttings_of fun f cdv A outer s H E hr => by
  unfold B_cuttings_of
  exact (ssOne (ssRet (sCallT cTuple (by rfl) T.n_tuple bt_tuple (saCons (sLc (own := [("zone", 3), ("counts", 4)]) rfl sc_cuttings_of.nd (siZip (by rfl) T.n_zip (saCons (sAt ⟨T.a_Skin_zones⟩ (sVar 0)) (saCons (sVar 2) saNil))) (show BlkOk ["skin", "table", "cut", "zone", "counts"] (defScope s_cuttings_of) _ [("zone", 3), ("counts", 4)] from ⟨rfl, by decide +kernel, by decide +kernel, by decide +kernel, by decide +kernel⟩) (by decide +kernel) (fun s1 H1 C1 cl1 fp1 => (sgTup rfl (sgCons (sgName 3 sc_cuttings_of.nd) (sgCons (sgName 4 sc_cuttings_of.nd) sgNil)))) (fun s1 H1 C1 cl1 fp1 => stNil) (fun s1 H1 C1 cl1 fp1 => (sBin op_Sub (sIx (hu_of hr) (sVar 3) sInt) (sCf c_used_in hr (by rfl) (saCons (sVar 3) (saCons (sVar 1) (saCons (sVar 4) saNil))))))) saNil))))
theorem d_used_by (T : Txt K mg) (c_used_in : Cl P w K mg base 2 "used_in" 3 F_used_in) (D : Dn K mg "used_by" s_used_by ["skin", "table", "cut"]) : Cl P w K mg base 3 "used_by" 3 F_used_by := Cl.of D sc_used_by fun f cdv A outer s H E hr => by
  unfold B_used_by
  exact (ssOne (ssRet (sCallB (cSum rfl) (by rfl) T.n_sum bt_sum (saCons (sLc (own := [("zone", 3), ("counts", 4)]) rfl sc_used_by.nd (siZip (by rfl) T.n_zip (saCons (sAt ⟨T.a_Skin_zones⟩ (sVar 0)) (saCons (sVar 2) saNil))) (show BlkOk ["skin", "table", "cut", "zone", "counts"] (defScope s_used_by) _ [("zone", 3), ("counts", 4)] from ⟨rfl, by decide +kernel, by decide +kernel, by decide +kernel, by decide +kernel⟩) (by decide +kernel) (fun s1 H1 C1 cl1 fp1 => (sgTup rfl (sgCons (sgName 3 sc_used_by.nd) (sgCons (sgName 4 sc_used_by.nd) sgNil)))) (fun s1 H1 C1 cl1 fp1 => stNil) (fun s1 H1 C1 cl1 fp1 => (sCf c_used_in hr (by rfl) (saCons (sVar 3) (saCons (sVar 1) (saCons (sVar 4) saNil)))))) saNil))))
theorem d_length_of (T : Txt K mg)  (D : Dn K mg "length_of" s_length_of ["skin"]) : Cl P w K mg base 1 "length_of" 1 F_length_of := Cl.of D sc_length_of fun f cdv A outer s H E hr => by
  unfold B_length_of
  exact (ssOne (ssRet (sCallB (cSum rfl) (by rfl) T.n_sum bt_sum (saCons (sLc (own := [("grain", 1), ("length", 2)]) rfl sc_length_of.nd (siS (sAt ⟨T.a_Skin_zones⟩ (sVar 0))) (show BlkOk ["skin", "grain", "length"] (defScope s_length_of) _ [("grain", 1), ("length", 2)] from ⟨rfl, by decide +kernel, by decide +kernel, by decide +kernel, by decide +kernel⟩) (by decide +kernel) (fun s1 H1 C1 cl1 fp1 => (sgTup rfl (sgCons (sgName 1 sc_length_of.nd) (sgCons (sgName 2 sc_length_of.nd) sgNil)))) (fun s1 H1 C1 cl1 fp1 => stNil) (fun s1 H1 C1 cl1 fp1 => (sVar 2))) saNil))))
theorem d__law_cut_right (T : Txt K mg) (c_is_cut : Cl P w K mg base 3 "is_cut" 3 F_is_cut) (c_is_whole_cut : Cl P w K mg base 3 "is_whole_cut" 2 F_is_whole_cut) (c_pairs_given : Cl P w K mg base 2 "pairs_given" 2 F_pairs_given) (c_cuttings_of : Cl P w K mg base 3 "cuttings_of" 3 F_cuttings_of) (c_Skin___len__ : MeF P w K mg base 1 "Skin" "__len__" F_Skin___len__) (c_used_by : Cl P w K mg base 3 "used_by" 3 F_used_by) (c_length_of : Cl P w K mg base 1 "length_of" 1 F_length_of) (D : Dn K mg "_law_cut_right" s__law_cut_right ["_law_skin", "_law_table_here", "_law_many", "_law_cut"]) : Cl P w K mg base 4 "_law_cut_right" 4 F__law_cut_right := Cl.of D sc__law_cut_right fun f cdv A outer s H E hr => by
  unfold B__law_cut_right
  exact (ssCons (ssIf (SW.q (swOr (sqNot (sqVal (sCf c_is_cut hr (by rfl) (saCons (sVar 0) (saCons (sVar 1) (saCons (sVar 3) saNil)))))) (swOr (sqNot (sqVal (sCf c_is_whole_cut hr (by rfl) (saCons (sVar 1) (saCons (sVar 3) saNil))))) (swOr1 (sqCmp (op_Ne hr.units) (sCf c_pairs_given hr (by rfl) (saCons (sVar 1) (saCons (sVar 3) saNil))) (sVar 2)))))) (ssOne (ssRet sBl)) ssNil)
    (ssCons (ssAsg (sCf c_cuttings_of hr (by rfl) (saCons (sVar 0) (saCons (sVar 1) (saCons (sVar 3) saNil)))) (sgName 4 sc__law_cut_right.nd))
    (ssOne (ssRet (sAnd (sCmp (op_Eq hr.units) (sCallB cLen (by rfl) T.n_len bt_len (saCons (sVar 4) saNil)) (sLenO c_Skin___len__ hr (by rfl) T.n_len (sVar 0))) (sOne (sCmp (op_Eq hr.units) (sBin op_Add (sCf c_used_by hr (by rfl) (saCons (sVar 0) (saCons (sVar 1) (saCons (sVar 3) saNil)))) (sSumS rfl (by rfl) T.n_sum (sVar 4))) (sCf c_length_of hr (by rfl) (saCons (sVar 0) saNil)))))))))
theorem d_is_row (T : Txt K mg)  (D : Dn K mg "is_row" s_is_row ["thing"]) : Cl P w K mg base 1 "is_row" 1 F_is_row := Cl.of D sc_is_row fun f cdv A outer s H E hr => by
  unfold B_is_row
  exact (ssCons (ssIf (SW.q (swOr (sqNot (sqVal (sIsi (by rfl) T.n_isinstance (by rfl) T.n_tuple bt_tuple (sVar 0)))) (swOr1 (sqCmp (op_Ne hr.units) (sCallB cLen (by rfl) T.n_len bt_len (saCons (sVar 0) saNil)) sInt)))) (ssOne (ssRet sBl)) ssNil)
    (ssOne (ssRet (sCallB (cAll rfl) (by rfl) T.n_all bt_all (saCons (sLc (own := [("one", 1)]) rfl sc_is_row.nd (siS (sVar 0)) (show BlkOk ["thing", "one"] (defScope s_is_row) _ [("one", 1)] from ⟨rfl, by decide +kernel, by decide +kernel, by decide +kernel, by decide +kernel⟩) (by decide +kernel) (fun s1 H1 C1 cl1 fp1 => (sgName 1 sc_is_row.nd)) (fun s1 H1 C1 cl1 fp1 => stNil) (fun s1 H1 C1 cl1 fp1 => (sAnd (sIsi (by rfl) T.n_isinstance (by rfl) T.n_int bt_int (sVar 1)) (sAnd (sNot (sIsi (by rfl) T.n_isinstance (by rfl) T.n_bool bt_bool (sVar 1))) (sOne (sCmp op_Ge (sVar 1) sInt)))))) saNil)))))
theorem d_are_rows (T : Txt K mg) (c_is_row : Cl P w K mg base 1 "is_row" 1 F_is_row) (D : Dn K mg "are_rows" s_are_rows ["thing"]) : Cl P w K mg base 2 "are_rows" 1 F_are_rows := Cl.of D sc_are_rows fun f cdv A outer s H E hr => by
  unfold B_are_rows
  exact (ssOne (ssRet (sAnd (sIsi (by rfl) T.n_isinstance (by rfl) T.n_tuple bt_tuple (sVar 0)) (sOne (sCallB (cAll rfl) (by rfl) T.n_all bt_all (saCons (sLc (own := [("row", 1)]) rfl sc_are_rows.nd (siS (sVar 0)) (show BlkOk ["thing", "row"] (defScope s_are_rows) _ [("row", 1)] from ⟨rfl, by decide +kernel, by decide +kernel, by decide +kernel, by decide +kernel⟩) (by decide +kernel) (fun s1 H1 C1 cl1 fp1 => (sgName 1 sc_are_rows.nd)) (fun s1 H1 C1 cl1 fp1 => stNil) (fun s1 H1 C1 cl1 fp1 => (sCf c_is_row hr (by rfl) (saCons (sVar 1) saNil)))) saNil))))))
theorem d_sums_behind (T : Txt K mg) (c_greatest : Cl P w K mg base 3 "greatest" 1 F_greatest) (c_zone_cuts : Cl P w K mg base 2 "zone_cuts" 2 F_zone_cuts) (c_together : Cl P w K mg base 1 "together" 2 F_together) (D : Dn K mg "sums_behind" s_sums_behind ["rows", "zone", "table"]) : Cl P w K mg base 4 "sums_behind" 3 F_sums_behind := Cl.of D sc_sums_behind fun f cdv A outer s H E hr => by
  unfold B_sums_behind
  exact (ssCons (ssAsg (sCf c_greatest hr (by rfl) (saCons (sCf c_zone_cuts hr (by rfl) (saCons (sVar 1) (saCons (sVar 2) saNil))) saNil)) (sgName 3 sc_sums_behind.nd))
    (ssCons (ssAsg sDic0T (sgName 4 sc_sums_behind.nd))
    (ssCons (ssFor PassesOwn.never rfl (siS (sVar 0)) (sgName 5 sc_sums_behind.nd) (ssOne (ssFor PassesOwn.never rfl (siS (sVar 3)) (sgName 6 sc_sums_behind.nd) (ssOne (ssSet (hu_of hr) (sVar 4) (sCf c_together hr (by rfl) (saCons (sVar 5) (saCons (sVar 6) saNil))) sBl)))))
    (ssOne (ssRet (sCallT (cList rfl) (by rfl) T.n_list bt_list (saCons (sVar 4) saNil)))))))
theorem d_most_holds (T : Txt K mg) (c_Skin___len__ : MeF P w K mg base 1 "Skin" "__len__" F_Skin___len__) (c_are_rows : Cl P w K mg base 2 "are_rows" 1 F_are_rows) (c_is_covered : Cl P w K mg base 2 "is_covered" 2 F_is_covered) (c_sums_behind : Cl P w K mg base 4 "sums_behind" 3 F_sums_behind) (c_pairs_for : Cl P w K mg base 1 "pairs_for" 2 F_pairs_for) (D : Dn K mg "most_holds" s_most_holds ["skin", "table", "many", "thing"]) : Cl P w K mg base 5 "most_holds" 4 F_most_holds := Cl.of D sc_most_holds fun f cdv A outer s H E hr => by
  unfold B_most_holds
  exact (ssCons (ssIf (SW.q (swOr (sqNot (sqVal (sIsi (by rfl) T.n_isinstance (by rfl) T.n_tuple bt_tuple (sVar 3)))) (swOr (sqCmp (op_Ne hr.units) (sCallB cLen (by rfl) T.n_len bt_len (saCons (sVar 3) saNil)) (sLenO c_Skin___len__ hr (by rfl) T.n_len (sVar 0))) (swOr1 (sqNot (sqVal (sCallB (cAll rfl) (by rfl) T.n_all bt_all (saCons (sLc (own := [("rows", 6)]) rfl sc_most_holds.nd (siS (sVar 3)) (show BlkOk ["skin", "table", "many", "thing", "ahead", "zone", "rows", "row"] (defScope s_most_holds) _ [("rows", 6)] from ⟨rfl, by decide +kernel, by decide +kernel, by decide +kernel, by decide +kernel⟩) (by decide +kernel) (fun s1 H1 C1 cl1 fp1 => (sgName 6 sc_most_holds.nd)) (fun s1 H1 C1 cl1 fp1 => stNil) (fun s1 H1 C1 cl1 fp1 => (sCf c_are_rows hr (by rfl) (saCons (sVar 6) saNil)))) saNil)))))))) (ssOne (ssRet sBl)) ssNil)
    (ssCons (ssAsg (sTup (saCons (sTup (saCons sInt (saCons sInt (saCons sInt saNil)))) saNil)) (sgName 4 sc_most_holds.nd))
    (ssCons (ssFor PassesOwn.never rfl (siZipS (by rfl) T.n_zip (saCons (sAt ⟨T.a_Skin_zones⟩ (sVar 0)) (saCons (sVar 3) saNil))) (sgTup rfl (sgCons (sgName 5 sc_most_holds.nd) (sgCons (sgName 6 sc_most_holds.nd) sgNil))) (ssCons (ssIf (sqNot (sqVal (sCallB (cAll rfl) (by rfl) T.n_all bt_all (saCons (sLc (own := [("row", 7)]) rfl sc_most_holds.nd (siS (sCf c_sums_behind hr (by rfl) (saCons (sVar 4) (saCons (sVar 5) (saCons (sVar 1) saNil))))) (show BlkOk ["skin", "table", "many", "thing", "ahead", "zone", "rows", "row"] (defScope s_most_holds) _ [("row", 7)] from ⟨rfl, by decide +kernel, by decide +kernel, by decide +kernel, by decide +kernel⟩) (by decide +kernel) (fun s1 H1 C1 cl1 fp1 => (sgName 7 sc_most_holds.nd)) (fun s1 H1 C1 cl1 fp1 => stNil) (fun s1 H1 C1 cl1 fp1 => (sCf c_is_covered hr (by rfl) (saCons (sVar 7) (saCons (sVar 6) saNil))))) saNil)))) (ssOne (ssRet sBl)) ssNil)
    (ssOne (ssAsg (sVar 6) (sgName 4 sc_most_holds.nd)))))
    (ssOne (ssRet (sCallB (cAll rfl) (by rfl) T.n_all bt_all (saCons (sLc (own := [("row", 7)]) rfl sc_most_holds.nd (siS (sVar 4)) (show BlkOk ["skin", "table", "many", "thing", "ahead", "zone", "rows", "row"] (defScope s_most_holds) _ [("row", 7)] from ⟨rfl, by decide +kernel, by decide +kernel, by decide +kernel, by decide +kernel⟩) (by decide +kernel) (fun s1 H1 C1 cl1 fp1 => (sgName 7 sc_most_holds.nd)) (fun s1 H1 C1 cl1 fp1 => stNil) (fun s1 H1 C1 cl1 fp1 => (sCmp op_Le (sCf c_pairs_for hr (by rfl) (saCons (sVar 1) (saCons (sVar 7) saNil))) (sVar 2)))) saNil)))))))
theorem d__law_bent (T : Txt K mg) (c__law_draw : Cl P w K mg base 1 "_law_draw" 2 F__law_draw) (D : Dn K mg "_law_bent" s__law_bent ["_law_deck_here", "_law_paper", "_law_other"]) : Cl P w K mg base 2 "_law_bent" 3 F__law_bent := Cl.of D sc__law_bent fun f cdv A outer s H E hr => by
  unfold B__law_bent
  exact (ssCons (ssAsg (sCf c__law_draw hr (by rfl) (saCons (sVar 0) (saCons sInt saNil))) (sgName 3 sc__law_bent.nd))
    (ssCons (ssAsg (sCf c__law_draw hr (by rfl) (saCons (sVar 0) (saCons (sCallB cLen (by rfl) T.n_len bt_len (saCons (sVar 1) saNil)) saNil))) (sgName 4 sc__law_bent.nd))
    (ssCons (ssAsg (sCallT (cList rfl) (by rfl) T.n_list bt_list (saCons (sIx (hu_of hr) (sVar 1) (sVar 4)) saNil)) (sgName 5 sc__law_bent.nd))
    (ssCons (ssAsg (sCf c__law_draw hr (by rfl) (saCons (sVar 0) (saCons (sCallB cLen (by rfl) T.n_len bt_len (saCons (sVar 5) saNil)) saNil))) (sgName 6 sc__law_bent.nd))
    (ssCons (ssAsg (sCf c__law_draw hr (by rfl) (saCons (sVar 0) (saCons sInt saNil))) (sgName 7 sc__law_bent.nd))
    (ssCons (ssIf (sqCmp (op_Eq hr.units) (sVar 3) sInt) (ssOne (ssRet (sVar 2))) ssNil)
    (ssCons (ssIf (sqCmp (op_Eq hr.units) (sVar 3) sInt) (ssOne (ssExp (sBm PySem.F.slot_list_pop PySem.F.type_list_pop mt_popAt mPopAt (sVar 5) (saCons (sVar 6) saNil)))) (ssCons (ssAsg (sCallB (cMax rfl) (by rfl) T.n_max bt_max (saCons sInt (saCons (sBin op_Add (sIx (hu_of hr) (sIx (hu_of hr) (sVar 5) (sVar 6)) (sVar 7)) (sIx (hu_of hr) (sLst (saCons sInt (saCons sInt (saCons sInt (saCons (sNeg sInt) saNil))))) (sCf c__law_draw hr (by rfl) (saCons (sVar 0) (saCons sInt saNil))))) saNil))) (sgName 8 sc__law_bent.nd))
    (ssOne (ssSet (hu_of hr) (sVar 5) (sVar 6) (sBin op_Add (sBin op_Add (sSl (sIx (hu_of hr) (sVar 5) (sVar 6)) soNo (soSo (sVar 7))) (sTup (saCons (sVar 8) saNil))) (sSl (sIx (hu_of hr) (sVar 5) (sVar 6)) (soSo (sBin op_Add (sVar 7) sInt)) soNo))))))
    (ssCons (ssIf (sqCmp (op_Eq hr.units) (sVar 3) sInt) (ssOne (ssAsg (sBin op_Add (sVar 5) (sLst (saCons (sTup (saCons sInt (saCons sInt (saCons sInt saNil)))) saNil))) (sgName 5 sc__law_bent.nd))) ssNil)
    (ssOne (ssRet (sBin op_Add (sBin op_Add (sSl (sVar 1) soNo (soSo (sVar 4))) (sTup (saCons (sCallT cTuple (by rfl) T.n_tuple bt_tuple (saCons (sVar 5) saNil)) saNil))) (sSl (sVar 1) (soSo (sBin op_Add (sVar 4) sInt)) soNo))))))))))))
theorem d__law_right (T : Txt K mg) (c__law_all_sums : Cl P w K mg base 3 "_law_all_sums" 2 F__law_all_sums) (c__law_given : Cl P w K mg base 1 "_law_given" 2 F__law_given) (c_most_pairs : Cl P w K mg base 5 "most_pairs" 2 F_most_pairs) (c_read_skin : Cl P w K mg base 3 "read_skin" 1 F_read_skin) (c_Skin___str__ : MeF P w K mg base 3 "Skin" "__str__" F_Skin___str__) (c__law_cut_right : Cl P w K mg base 4 "_law_cut_right" 4 F__law_cut_right) (c__law_pick : Cl P w K mg base 2 "_law_pick" 2 F__law_pick) (c_is_cut : Cl P w K mg base 3 "is_cut" 3 F_is_cut) (c_pairs_given : Cl P w K mg base 2 "pairs_given" 2 F_pairs_given) (c_most_holds : Cl P w K mg base 5 "most_holds" 4 F_most_holds) (c__law_bent : Cl P w K mg base 2 "_law_bent" 3 F__law_bent) (m_Skin_2 : Mkr P w K mg base 1 "Skin" 4 F_Skin___init__ [.int 0, .int 0]) (D : Dn K mg "_law_right" s__law_right ["_law_deck_here", "_law_skin", "_law_table_here"]) : Cl P w K mg base 6 "_law_right" 3 F__law_right := Cl.of D sc__law_right fun f cdv A outer s H E hr => by
  unfold B__law_right
  exact (ssCons (ssAsg (sCf c__law_all_sums hr (by rfl) (saCons (sAt ⟨T.a_Skin_zones⟩ (sVar 1)) (saCons (sVar 2) saNil))) (sgName 3 sc__law_right.nd))
    (ssCons (ssAsg (sCallB (cMax rfl) (by rfl) T.n_max bt_max (saCons (sLcD (own := [("_law_row", 9)]) rfl sc__law_right.nd (sVar 3) (show BlkOk ["_law_deck_here", "_law_skin", "_law_table_here", "_law_sums", "_law_most", "_law_many", "_law_cut", "_law_paper", "_law_read", "_law_row", "_law_zones", "_law_other", "_law_k", "_law_count", "_law_grain", "_law_length"] (defScope s__law_right) _ [("_law_row", 9)] from ⟨rfl, by decide +kernel, by decide +kernel, by decide +kernel, by decide +kernel⟩) (by decide +kernel) (fun s1 H1 C1 cl1 fp1 => (sgName 9 sc__law_right.nd)) (fun s1 H1 C1 cl1 fp1 => stNil) (fun s1 H1 C1 cl1 fp1 => (sCf c__law_given hr (by rfl) (saCons (sVar 2) (saCons (sVar 9) saNil))))) saNil)) (sgName 4 sc__law_right.nd))
    (ssCons (ssAsg (sCf c_most_pairs hr (by rfl) (saCons (sVar 1) (saCons (sVar 2) saNil))) (sgTup rfl (sgCons (sgName 5 sc__law_right.nd) (sgCons (sgName 6 sc__law_right.nd) (sgCons (sgName 7 sc__law_right.nd) sgNil)))))
    (ssCons (ssAsg (sCf c_read_skin hr (by rfl) (saCons (sStrO c_Skin___str__ hr (by rfl) T.n_str (sVar 1)) saNil)) (sgName 8 sc__law_right.nd))
    (ssCons (ssIf (SW.q (swOr (sqCmp (op_Ne hr.units) (sVar 5) (sVar 4)) (swOr (sqNot (sqVal (sCf c__law_cut_right hr (by rfl) (saCons (sVar 1) (saCons (sVar 2) (saCons (sVar 5) (saCons (sVar 6) saNil))))))) (swOr1 (sqCmp (op_Ne hr.units) (sIx (hu_of hr) (sCf c_most_pairs hr (by rfl) (saCons (sVar 8) (saCons (sVar 2) saNil))) sInt) (sVar 5)))))) (ssOne (ssRet sBl)) ssNil)
    (ssCons (ssAsg (sCf c__law_pick hr (by rfl) (saCons (sVar 0) (saCons (sCallB (cSorted rfl (hu6 hr)) (by rfl) T.n_sorted bt_sorted (saCons (sVar 3) saNil)) saNil))) (sgName 9 sc__law_right.nd))
    (ssCons (ssIf (SW.q (swOr (sqNot (sqVal (sCf c_is_cut hr (by rfl) (saCons (sVar 1) (saCons (sVar 2) (saCons (sIx (hu_of hr) (sVar 3) (sVar 9)) saNil)))))) (swOr1 (sqCmp op_Gt (sCf c_pairs_given hr (by rfl) (saCons (sVar 2) (saCons (sIx (hu_of hr) (sVar 3) (sVar 9)) saNil))) (sVar 5))))) (ssOne (ssRet sBl)) ssNil)
    (ssCons (ssIf (SW.q (swOr (sqNot (sqVal (sCf c_most_holds hr (by rfl) (saCons (sVar 1) (saCons (sVar 2) (saCons (sVar 5) (saCons (sVar 7) saNil))))))) (swOr1 (SW.q (swAnd (sqCmp op_Gt (sVar 5) sInt) (swAnd1 (sqVal (sCf c_most_holds hr (by rfl) (saCons (sVar 1) (saCons (sVar 2) (saCons (sBin op_Sub (sVar 5) sInt) (saCons (sVar 7) saNil)))))))))))) (ssOne (ssRet sBl)) ssNil)
    (ssCons (ssAsg (sCallT cTuple (by rfl) T.n_tuple bt_tuple (saCons (sLc (own := [("_law_grain", 14), ("_law_length", 15)]) rfl sc__law_right.nd (siS (sAt ⟨T.a_Skin_zones⟩ (sVar 1))) (show BlkOk ["_law_deck_here", "_law_skin", "_law_table_here", "_law_sums", "_law_most", "_law_many", "_law_cut", "_law_paper", "_law_read", "_law_row", "_law_zones", "_law_other", "_law_k", "_law_count", "_law_grain", "_law_length"] (defScope s__law_right) _ [("_law_grain", 14), ("_law_length", 15)] from ⟨rfl, by decide +kernel, by decide +kernel, by decide +kernel, by decide +kernel⟩) (by decide +kernel) (fun s1 H1 C1 cl1 fp1 => (sgTup rfl (sgCons (sgName 14 sc__law_right.nd) (sgCons (sgName 15 sc__law_right.nd) sgNil)))) (fun s1 H1 C1 cl1 fp1 => stNil) (fun s1 H1 C1 cl1 fp1 => (sTup (saCons (sVar 14) (saCons (sCallB (cMax rfl) (by rfl) T.n_max bt_max (saCons sInt (saCons (sBin op_Sub (sVar 15) sInt) saNil))) saNil))))) saNil)) (sgName 10 sc__law_right.nd))
    (ssCons (ssAsg (sIx (hu_of hr) (sCf c_most_pairs hr (by rfl) (saCons (sMk m_Skin_2 hr (by rfl) (saCons (sVar 10) saNil)) (saCons (sVar 2) saNil))) sInt) (sgName 11 sc__law_right.nd))
    (ssCons (ssFor PassesOwn.never rfl (siR1 (by rfl) T.n_range (saCons sInt saNil)) (sgName 12 sc__law_right.nd) (ssCons (ssAsg (sCallB (cMax rfl) (by rfl) T.n_max bt_max (saCons sInt (saCons (sBin op_Add (sVar 5) (sCf c__law_pick hr (by rfl) (saCons (sVar 0) (saCons (sLst (saCons (sNeg sInt) (saCons (sNeg sInt) (saCons (sNeg sInt) (saCons sInt (saCons sInt saNil)))))) saNil)))) saNil))) (sgName 13 sc__law_right.nd))
    (ssOne (ssIf (SW.q (swAnd (sqVal (sCf c_most_holds hr (by rfl) (saCons (sVar 1) (saCons (sVar 2) (saCons (sVar 13) (saCons (sCf c__law_bent hr (by rfl) (saCons (sVar 0) (saCons (sVar 7) (saCons (sVar 11) saNil)))) saNil)))))) (swAnd1 (sqCmp op_Gt (sVar 4) (sVar 13))))) (ssOne (ssRet sBl)) ssNil))))
    (ssOne (ssRet sBl)))))))))))))
theorem d_table_for (T : Txt K mg)  (D : Dn K mg "table_for" s_table_for ["book", "style", "size"]) : Cl P w K mg base 1 "table_for" 3 F_table_for := Cl.of D sc_table_for fun f cdv A outer s H E hr => by
  unfold B_table_for
  exact (ssCons (ssFor PassesOwn.never rfl (siS (sVar 0)) (sgTup rfl (sgCons (sgName 3 sc_table_for.nd) (sgCons (sgName 4 sc_table_for.nd) (sgCons (sgName 5 sc_table_for.nd) sgNil)))) (ssOne (ssIf (SW.q (swAnd (sqCmp (op_Eq hr.units) (sVar 3) (sVar 1)) (swAnd1 (sqCmp (op_Eq hr.units) (sVar 4) (sVar 2))))) (ssOne (ssRet (sVar 5))) ssNil)))
    (ssOne ssNvr))
theorem b_law (T : Txt K mg) (c__law_deck : Cl P w K mg base 1 "_law_deck" 1 F__law_deck) (c__law_small_zones : Cl P w K mg base 3 "_law_small_zones" 1 F__law_small_zones) (c__law_table : Cl P w K mg base 4 "_law_table" 1 F__law_table) (c__law_draw : Cl P w K mg base 1 "_law_draw" 2 F__law_draw) (c__law_right : Cl P w K mg base 6 "_law_right" 3 F__law_right) (c_table_for : Cl P w K mg base 1 "table_for" 3 F_table_for) (m_Skin_0 : Mkr P w K mg base 1 "Skin" 4 F_Skin___init__ []) : ∀ (f : Addr) (cdv : Value) (A : Around) (outer : List Env) (s : Shared) (H : Hp) (E : XK), Room 6 (A.deeper (envOfC "law" (defScope s_law) s.heap.objs.size f cdv)) → SSs (cxOf CX0 P w K mg base ["_law_script", "_law_deck_here", "_law_turn", "_law_zones", "_law_table_here", "_law_size", "_law_skin", "_law_book"] "law" (defScope s_law) f cdv A outer s H E).nox (defBody s_law) B_law := fun f cdv A outer s H E hr => by
  unfold B_law
  exact (ssCons (ssAsg (sCf c__law_deck hr (by rfl) (saCons (sVar 0) saNil)) (sgName 1 sc_law.nd))
    (ssCons (ssFor PassesOwn.never rfl (siR1 (by rfl) T.n_range (saCons sInt saNil)) (sgName 2 sc_law.nd) (ssCons (ssPar (i := 3) (j := 4) rfl sc_law.nd (saCons (sCf c__law_small_zones hr (by rfl) (saCons (sVar 1) saNil)) (saCons (sCf c__law_table hr (by rfl) (saCons (sVar 1) saNil)) saNil)))
    (ssCons (ssAsg (sBin op_Add sInt (sCf c__law_draw hr (by rfl) (saCons (sVar 1) (saCons sInt saNil)))) (sgName 5 sc_law.nd))
    (ssCons (ssAsg (sMk m_Skin_0 hr (by rfl) (saCons (sVar 3) (saCons (sCf c__law_draw hr (by rfl) (saCons (sVar 1) (saCons sInt saNil))) (saCons (sCf c__law_draw hr (by rfl) (saCons (sVar 1) (saCons sInt saNil))) saNil)))) (sgName 6 sc_law.nd))
    (ssCons (ssAsg (sTup (saCons (sTup (saCons sStr (saCons (sVar 5) (saCons (sVar 4) saNil)))) saNil)) (sgName 7 sc_law.nd))
    (ssOne (ssIf (sqNot (sqVal (sCf c__law_right hr (by rfl) (saCons (sVar 1) (saCons (sVar 6) (saCons (sCf c_table_for hr (by rfl) (saCons (sVar 7) (saCons sStr (saCons (sVar 5) saNil)))) saNil)))))) (ssOne (ssRet sBl)) ssNil)))))))
    (ssOne (ssRet sBl))))
end
end G84
set_option Elab.async false
set_option linter.all false
set_option maxRecDepth 100000
namespace G84
open PySem PySem.Spec PyProof.Rows L2 Fl Sg
def optD : Option Int → D
  | some i => .int i
  | none => .non
def partD (p : Part) : D := .tup [optD p.al, optD p.ac, .int p.need]
def tabD (t : List Part) : D := .tup (t.map partD)
def grS (g : Bool) : Str := if g then "across" else "along"
def grD (g : Bool) : D := .str (grS g)
def zoneD (z : Zone) : D := .tup [grD z.gr, .int z.len]
theorem ne_al : ¬ ((Str.ofString "along") = Str.ofString "across") := by decide
theorem ne_ac : ¬ ((Str.ofString "across") = Str.ofString "along") := by decide
@[simp] theorem p_opt (o : Option Int) : pureD (optD o) = true := by cases o <;> simp [optD]
@[simp] theorem grS_ac (g : Bool) : (grS g = Str.ofString "across") = (g = true) := by cases g <;> simp [grS, ne_al]
@[simp] theorem grS_al (g : Bool) : (grS g = Str.ofString "along") = (g = false) := by cases g <;> simp [grS, ne_ac]
theorem m_part_length (p : Part) (g : Bool) (M : Mem) : F_part_length [partD p, grD g] M = some (.v (optD (p.long g)), M) := by
  refine ft_v0 (p_opt _) ?_
  unfold B_part_length
  cases g <;> simp [partD, grD, Part.long]
theorem sz_of {n : Nat} (h : n ≤ 1000000) : n ≤ sizeLine := by rw [sizeLine_eq]; omega
theorem sz_lt {n : Nat} (h : n < 1000000) : n < sizeLine := by rw [sizeLine_eq]; omega
theorem m_together (a b : List Int) (ha : a.length = 3) (hb : b.length = 3) (M : Mem) : F_together [rowD a, rowD b] M = some (.v (rowD (addR a b)), M) := by
  refine ft_v0 (p_row _) ?_
  unfold B_together
  have z : (3 : Nat) ≤ sizeLine := sz_of (by decide)
  simp [rowD, ha, hb, zip_two]
  rw [lc_map (g := fun p : Int × Int => .int (p.1 + p.2)) (by simp) _ fun p hp => ⟨_, _, rfl, rfl, rfl⟩]
  simp [ha, hb, z]
  exact zmap (fun x y : Int => x + y) D.int a b
theorem zle (a b : List Int) : (a.zip b).map (fun p => D.bl (decide (p.1 ≤ p.2))) = (leL a b).map D.bl := zmap (fun x y : Int => decide (x ≤ y)) D.bl a b
@[simp] theorem leL_len (a b : List Int) : (leL a b).length = min a.length b.length := by simp [leL]
theorem m_is_beneath (a b : List Int) (ha : a.length = 3) (hb : b.length = 3) (M : Mem) : F_is_beneath [rowD a, rowD b] M = some (.v (.bl (leR a b)), M) := by
  refine ft_v0 (p_bl _) ?_
  unfold B_is_beneath
  have z : (3 : Nat) ≤ sizeLine := sz_of (by decide)
  simp [rowD, ha, hb, zip_two]
  rw [lc_map (g := fun p : Int × Int => .bl (decide (p.1 ≤ p.2))) (by simp) _ fun p hp => ⟨_, _, rfl, rfl, rfl⟩, zle]
  simp [ha, hb, z, leR]
theorem m_is_covered (k : List Int) (ks : List (List Int)) (d : D) (M : Mem) (hk : Row3 k) (hks : ∀ x ∈ ks, Row3 x) (hd : SeqR M d ks) : F_is_covered [rowD k, d] M = some (.v (.bl (ks.any (leR k))), M) := by
  refine ft_v0 (p_bl _) ?_
  unfold B_is_covered
  obtain ⟨kp, k1, k2⟩ := hd.fi (fa := fVar 1) (env := [some (rowD k), some d, none]) (by simp)
  simp only [List.map_cons, List.map_nil, List.length_cons, List.length_nil, List.replicate, e_seq, e_for, List.cons_append, List.nil_append, k2, Option.bind_some]
  have := for_find (b := bName 2) (body := (fIfS (qVal (fCf (fNa 2 F_is_beneath) (fCons (fVar 0) (fCons (fVar 2) fNil)))) (fRet (fC (.bl true))) fSkip)) (kp := kp) (emb := rowD) (p := leR k)
    (I := fun env M' => M' = M ∧ ∃ o, env = [some (rowD k), some d, o]) (out := fun _ r M' => r = .v (.bl true) ∧ M' = M) (fun env M' h => by rw [h.1]; exact k1) ks (fun x hx env M' ⟨e1, o, e2⟩ => by
      subst e1 e2
      refine ⟨_, rfl, ?_⟩
      have hb := m_is_beneath k x hk (hks x hx) M'
      cases hp : leR k x with
      | true => simp [hb, hp]
      | false =>
        simp [hb, hp]
        exact ⟨_, _, _, ⟨rfl, rfl, rfl⟩, .inl rfl, rfl, _, rfl⟩) [some (rowD k), some d, none] M ⟨rfl, none, rfl⟩
  cases hf : ks.find? (leR k) with
  | some x =>
    rw [hf] at this
    obtain ⟨r, env', M', g1, rfl, rfl⟩ := this
    rw [g1]
    have : ks.any (leR k) = true := List.any_eq_true.mpr ⟨x, List.mem_of_find?_eq_some hf, List.find?_some hf⟩
    simp [this]
  | none =>
    rw [hf] at this
    obtain ⟨env', M', g1, rfl, o, rfl⟩ := this
    rw [g1]
    have : ks.any (leR k) = false := by
      rw [List.any_eq_false]
      exact List.find?_eq_none.mp hf
    simp [this]
/-! ### greatest -/
def grL (ks : List (List Int)) : List (List Int) := (sortR (ddp ks)).reverse.foldl grSt []
theorem grSt_len (acc : List (List Int)) (r : List Int) : (grSt acc r).length ≤ acc.length + 1 := by
  unfold grSt; split <;> simp
theorem gr_len (xs : List (List Int)) : ∀ acc : List (List Int), (xs.foldl grSt acc).length ≤ acc.length + xs.length := by
  induction xs with
  | nil => intro acc; simp
  | cons x xs ih => intro acc; have := ih (grSt acc x); have := grSt_len acc x; simp only [List.foldl_cons, List.length_cons]; omega
theorem grL_mem {ks : List (List Int)} {k : List Int} (h : k ∈ grL ks) : k ∈ ks := by
  rcases gr_mem _ _ k h with h | h
  · cases h
  · exact ddp_mem.mp (sortR_mem.mp (List.mem_reverse.mp h))
theorem srcD_app {M E : Mem} {d : D} {ks : List (List Int)} (h : srcD M d = some ks) : srcD (M ++ E) d = some ks := by
  cases d with
  | ref n =>
    cases e : M[n]? with
    | none => simp [srcD, asL, asD, e] at h
    | some o =>
      have e2 : (M ++ E)[n]? = some o := by rw [List.getElem?_append_left (List.getElem?_eq_some_iff.mp e).1]; exact e
      have : asL (M ++ E) (.ref n) = asL M (.ref n) := by simp [asL, e, e2]
      have h2 : asD (M ++ E) (.ref n) = asD M (.ref n) := by simp [asD, e, e2]
      unfold srcD at h ⊢
      rw [this, h2]
      exact h
  | _ => exact h
theorem m_greatest (ks : List (List Int)) (d : D) (M : Mem) (hks : ∀ x ∈ ks, Row3 x) (hn : ks.length ≤ 1400) (hd : srcD M d = some ks) : F_greatest [d] M = some (.n (.lst ((grL ks).map rowD)), M) := by
  have hok : okR ks = true := List.all_eq_true.mpr fun k hk => by
    have := hks k hk
    cases k with
    | nil => cases this
    | cons _ _ => rfl
  have hdl : ∀ ls : List (List Int), (ddp ls).length ≤ ls.length := fun ls => by
    induction ls with
    | nil => exact Nat.le_refl _
    | cons x ls ih => unfold ddp; split <;> simp <;> omega
  let xs := (sortR (ddp ks)).reverse
  have hxs : ∀ x ∈ xs, x ∈ ks := fun x hx => ddp_mem.mp (sortR_mem.mp (List.mem_reverse.mp hx))
  have hxl : xs.length ≤ 1400 := by
    show (sortR (ddp ks)).reverse.length ≤ 1400
    rw [List.length_reverse]
    unfold sortR
    rw [List.length_mergeSort]
    exact Nat.le_trans (hdl ks) hn
  have hd2 : srcD (M ++ [O.lst []]) d = some ks := srcD_app hd
  refine ft_r (E := [.lst ((grL ks).map rowD)]) (k := M.length) (Nat.le_refl _) (by simp) (by simp only [okO]; exact pures_ok _ _ (p_rows _)) ?_
  unfold B_greatest
  have L := for_pre (b := bName 2) (body := (fIfS (qNot (qVal (fCf (fNa 2 F_is_covered) (fCons (fVar 2) (fCons (fVar 1) fNil))))) (fExp (fBm gApp (fVar 1) (fCons (fVar 2) fNil))) fSkip)) (kp := fun _ => True) (emb := rowD)
    (I := fun pre env M' => M' = M ++ [.lst ((pre.foldl grSt []).map rowD)] ∧ ∃ o, env = [some d, some (.ref M.length), o]) xs (fun _ _ _ _ => trivial) (fun pre x post e env M' ⟨e1, o, e2⟩ => by
      subst e1 e2
      have hx : x ∈ xs := by rw [e]; simp
      have hp : ∀ y ∈ pre.foldl grSt [], Row3 y := fun y hy => by
        rcases gr_mem _ _ y hy with h | h
        · cases h
        · exact hks y (hxs y (by rw [e]; simp [h]))
      have hlen : (pre.foldl grSt []).length ≤ 1400 := by
        have h1 := gr_len pre []
        have h2 : pre.length ≤ xs.length := by rw [e]; simp
        simp only [List.length_nil] at h1
        omega
      have hat : (M ++ [O.lst ((pre.foldl grSt []).map rowD)])[M.length]? = some (.lst ((pre.foldl grSt []).map rowD)) := by simp
      have hc := m_is_covered x (pre.foldl grSt []) (.ref M.length) (M ++ [.lst ((pre.foldl grSt []).map rowD)]) (hks x (hxs x hx)) hp (.inl (by simp))
      have ha := e_app (d := rowD x) hat (by rw [List.length_map]; exact sz_lt (by omega))
      refine ⟨_, .nx, [some d, some (.ref M.length), some (rowD x)], _, rfl, ?_, .inl rfl, rfl, _, rfl⟩
      cases hp : (pre.foldl grSt []).any (leR x) with
      | true => simp [hc, hp, grSt]
      | false => simp [hc, hp, grSt, ha]) [some d, some (.ref M.length), none] (M ++ [.lst []]) ⟨rfl, none, rfl⟩
  obtain ⟨env', M', g1, e1, o, e2⟩ := L
  subst e1 e2
  have hxr : ((sortR (ddp ks)).map rowD).reverse = xs.map rowD := by simp [xs]
  simp [hd2, hok, hn, hxr, g1]
  rfl
/-! ### zone_cuts -/
def cD (c : List Int × Int) : D := .tup [rowD c.1, .int c.2]
structure CutsOk (n : Nat) (fs : List (List Int × Int)) : Prop where
  len : ∀ c ∈ fs, c.1.length = n
  room : ∀ c ∈ fs, 0 ≤ c.2 ∧ c.2 ≤ 24
  few : fs.length ≤ 7 ^ n
theorem zc1_len {o : Option Int} (ho : LenOk o) {c : List Int × Int} (hc : 0 ≤ c.2 ∧ c.2 ≤ 24) : (zc1 o c).length ≤ 7 := by
  cases o with
  | none => simp [zc1]
  | some l =>
    obtain ⟨h1, h2⟩ := ho.h l rfl
    have : c.2 / l ≤ 6 := Int.ediv_le_of_le_mul (by omega) (by omega)
    simp [zc1]
    omega
theorem zc1_in {o : Option Int} (ho : LenOk o) {c d : List Int × Int} (hc : 0 ≤ c.2 ∧ c.2 ≤ 24) (hd : d ∈ zc1 o c) : d.1.length = c.1.length + 1 ∧ 0 ≤ d.2 ∧ d.2 ≤ 24 := by
  cases o with
  | none => simp [zc1] at hd; subst hd; simp; exact hc
  | some l =>
    obtain ⟨h1, h2⟩ := ho.h l rfl
    simp only [zc1, List.mem_map, List.mem_range] at hd
    obtain ⟨i, hi, rfl⟩ := hd
    have : (i : Int) ≤ c.2 / l := by omega
    have h3 : (i : Int) * l ≤ c.2 := by
      have := Int.mul_le_mul_of_nonneg_right this (show 0 ≤ l by omega)
      exact Int.le_trans this (Int.ediv_mul_le _ (by omega))
    have h4 : 0 ≤ (i : Int) * l := Int.mul_nonneg (by omega) (by omega)
    simp
    omega
theorem flat_len {α β : Type} {f : α → List β} {k : Nat} : ∀ {xs : List α}, (∀ x ∈ xs, (f x).length ≤ k) → (xs.flatMap f).length ≤ k * xs.length
  | [], _ => by simp
  | x :: xs, h => by
    have h1 := h x List.mem_cons_self
    have h2 := flat_len (f := f) (k := k) (xs := xs) fun y hy => h y (List.mem_cons_of_mem _ hy)
    simp only [List.flatMap_cons, List.length_append, List.length_cons, Nat.mul_add]
    omega
theorem CutsOk.step {n : Nat} {fs : List (List Int × Int)} (h : CutsOk n fs) {o : Option Int} (ho : LenOk o) : CutsOk (n + 1) (fs.flatMap (zc1 o)) where
  len := fun c hc => by
    obtain ⟨d, hd, hc⟩ := List.mem_flatMap.mp hc
    rw [(zc1_in ho (h.room d hd) hc).1, h.len d hd]
  room := fun c hc => by
    obtain ⟨d, hd, hc⟩ := List.mem_flatMap.mp hc
    exact (zc1_in ho (h.room d hd) hc).2
  few := by
    have := flat_len (f := zc1 o) (k := 7) (xs := fs) fun c hc => zc1_len ho (h.room c hc)
    have := h.few
    have : 7 ^ (n + 1) = 7 * 7 ^ n := by rw [Nat.pow_succ, Nat.mul_comm]
    omega
theorem cuts_fold {z : Zone} (hz : ZoneOk z) : ∀ {t : List Part}, (∀ p ∈ t, PartOk p) → ∀ {n : Nat} {fs : List (List Int × Int)}, CutsOk n fs → CutsOk (n + t.length) (t.foldl (zcS z.gr) fs)
  | [], _, _, _, h => h
  | p :: t, hp, n, fs, h => by
    have := cuts_fold hz (t := t) (fun q hq => hp q (List.mem_cons_of_mem _ hq)) (h.step ((hp p List.mem_cons_self).long z.gr))
    rw [List.foldl_cons, List.length_cons, show n + (t.length + 1) = n + 1 + t.length by omega]
    exact this
theorem cuts0 {z : Zone} (hz : ZoneOk z) : CutsOk 0 [(([] : List Int), z.len)] where
  len := fun c hc => by rw [List.mem_singleton.mp hc]; rfl
  room := fun c hc => by
    rw [List.mem_singleton.mp hc]
    have := hz.lo
    have := hz.hi
    exact ⟨by show 0 ≤ z.len; omega, by show z.len ≤ 24; omega⟩
  few := by simp
theorem zcF_ok {z : Zone} (hz : ZoneOk z) {t : List Part} (ht : TabOk t) : CutsOk 3 (zcF z t) := by
  have := cuts_fold hz ht.all (cuts0 hz)
  rw [ht.len] at this
  exact this
end G84
set_option Elab.async false
set_option linter.all false
set_option maxRecDepth 100000
/-! G84Z: zone_cuts (under way) -/
namespace G84
open PySem PySem.Spec PyProof.Rows L2 Fl Sg
abbrev zEnv (z : Zone) (t : List Part) (p : Part) (n m : Nat) (x : D) (o8 o9 o10 : Option D) : En := [some (zoneD z), some (tabD t), some (grD z.gr), some (.int z.len), some (.ref n), some (partD p), some x, some (.ref m), o8, o9, o10]
def zElt : FE := fTup (fCons (fBin gAdd (fVar 8) (fTup (fCons (fVar 10) fNil))) (fCons (fBin gSub (fVar 9) (fBin gMul (fVar 10) (fVar 6))) fNil))
theorem z_elt (z : Zone) (t : List Part) (p : Part) (n m : Nat) (l : Int) (c : List Int × Int) (i : Int) (M : Mem) (h0 : 0 ≤ i) (hi : i ≤ 10) (hc : c.1.length ≤ 10) : zElt (zEnv z t p n m (.int l) (some (rowD c.1)) (some (.int c.2)) (some (.int i))) M = some (.v (cD (c.1 ++ [i], c.2 - i * l)), M) := by
  have cm : CMul i l := cmul_l (by omega) (by omega)
  have z1 : c.1.length + 1 ≤ sizeLine := sz_of (by omega)
  simp [zElt, rowD, z1, cm, cD]
theorem z_lc (z : Zone) (t : List Part) (p : Part) (n m : Nat) (l : Int) (c : List Int × Int) (M : Mem) (h1 : 4 ≤ l) (hr : 0 ≤ c.2 ∧ c.2 ≤ 24) (hc : c.1.length ≤ 10) :
    fLcGo (bName 10) qYes zElt (fun _ => True) (zEnv z t p n m (.int l) (some (rowD c.1)) (some (.int c.2)) none) ((List.range (1 + c.2 / l).toNat).map fun i => D.int (0 + (i : Nat))) M = some ((zc1 (some l) c).map cD, M) := by
  have hq : c.2 / l ≤ 6 := Int.ediv_le_of_le_mul (by omega) (by omega)
  have h := lc_map (b := bName 10) (f := zElt) (kp := fun _ => True) (env := zEnv z t p n m (.int l) (some (rowD c.1)) (some (.int c.2)) none) (M := M) (emb := fun i : Nat => D.int (0 + (i : Int)))
    (g := fun i : Nat => cD (c.1 ++ [(i : Int)], c.2 - i * l)) trivial (List.range (1 + c.2 / l).toNat) fun i hi => by
      have hi := List.mem_range.mp hi
      have := z_elt z t p n m l c (i : Int) M (by omega) (by omega) hc
      refine ⟨zEnv z t p n m (.int l) (some (rowD c.1)) (some (.int c.2)) (some (.int i)), _, ?_, this, rfl⟩
      show some _ = some _
      rw [Int.zero_add]
      rfl
  rw [h]
  unfold zc1
  rw [List.map_map]
  rfl
noncomputable def zIn : FS := fIfS (qVal (fBin (gIsN false) (fVar 6) (fC .non))) (fExp (fBm gApp (fVar 7) (fCons (fTup (fCons (fBin gAdd (fVar 8) (fTup (fCons (fC (.int 0)) fNil))) (fCons (fVar 9) fNil))) fNil))) (fExp (fBm gExt (fVar 7) (fCons (fLc (fiR1 (fCons (fBin gAdd (fC (.int 1)) (fBin gFdv (fVar 9) (fVar 6))) fNil)) (bName 10) qYes zElt [10]) fNil)))
theorem z_lc' (z : Zone) (t : List Part) (p : Part) (n m : Nat) (l : Int) (c : List Int × Int) (o10 : Option D) (M : Mem) (h1 : 4 ≤ l) (h2 : l ≤ 24) (hr : 0 ≤ c.2 ∧ c.2 ≤ 24) (hc : c.1.length ≤ 10) :
    fLc (fiR1 (fCons (fBin gAdd (fC (.int 1)) (fBin gFdv (fVar 9) (fVar 6))) fNil)) (bName 10) qYes zElt [10] (zEnv z t p n m (.int l) (some (rowD c.1)) (some (.int c.2)) o10) M = some (.n (.lst ((zc1 (some l) c).map cD)), M) := by
  have hq : c.2 / l ≤ 6 := Int.ediv_le_of_le_mul (by omega) (by omega)
  have hq0 : 0 ≤ c.2 / l := Int.ediv_nonneg hr.1 (by omega)
  have cd : CDivW c.2 l := cdiv_of (by omega) (by omega)
  have hb : okRg (1 + c.2 / l) := okRg_of (by omega) (by omega)
  have h := z_lc z t p n m l c M h1 hr hc
  have hl : ((zc1 (some l) c).map cD).length ≤ sizeLine := by
    rw [List.length_map]
    have := zc1_len (o := some l) ⟨fun l' e => by cases e; exact ⟨h1, h2⟩⟩ hr
    exact sz_of (by omega)
  have e1 : fiR1 (fCons (fBin gAdd (fC (.int 1)) (fBin gFdv (fVar 9) (fVar 6))) fNil) (zEnv z t p n m (.int l) (some (rowD c.1)) (some (.int c.2)) o10) M = rgD (1 + c.2 / l) M := by
    simp [cd]
  rw [e_lc, e1, rgD_ok _ _ hb, Option.bind_some]
  have e2 : wipeE (zEnv z t p n m (.int l) (some (rowD c.1)) (some (.int c.2)) o10) [10] = zEnv z t p n m (.int l) (some (rowD c.1)) (some (.int c.2)) none := rfl
  rw [e2, h, Option.bind_some, if_pos hl]
theorem z_turn (z : Zone) (t : List Part) (p : Part) (hp : PartOk p) (n : Nat) (c : List Int × Int) (o8 o9 o10 : Option D) (M1 : Mem) (acc : List D) (ha : acc.length ≤ 1000) (hr : 0 ≤ c.2 ∧ c.2 ≤ 24) (hc : c.1.length ≤ 10) :
    zIn (zEnv z t p n M1.length (optD (p.long z.gr)) (some (rowD c.1)) (some (.int c.2)) o10) (M1 ++ [.lst acc]) = some (.nx, zEnv z t p n M1.length (optD (p.long z.gr)) (some (rowD c.1)) (some (.int c.2)) o10, M1 ++ [.lst (acc ++ (zc1 (p.long z.gr) c).map cD)]) := by
  have hat : (M1 ++ [O.lst acc])[M1.length]? = some (.lst acc) := by simp
  have z1 : c.1.length + 1 ≤ sizeLine := sz_of (by omega)
  cases ho : p.long z.gr with
  | none =>
    have hg := e_app (d := cD (c.1 ++ [0], c.2)) hat (sz_lt (by omega))
    simp [cD, rowD] at hg
    simp [zIn, optD, rowD, z1, zc1, cD, hg]
  | some l =>
    obtain ⟨h1, h2⟩ := (hp.long z.gr).h l ho
    have hg := e_ext (ys := (zc1 (some l) c).map cD) hat (by
      have := zc1_len (o := some l) ⟨fun l' e => by cases e; exact ⟨h1, h2⟩⟩ hr
      rw [List.length_map]
      exact sz_of (by omega))
    have hl := z_lc' z t p n M1.length l c o10 (M1 ++ [.lst acc]) h1 h2 hr hc
    simp [-e_lc, zIn, optD, hl, hg]
theorem flat_snoc {α β : Type} (f : α → List β) (xs : List α) (x : α) : (xs ++ [x]).flatMap f = xs.flatMap f ++ f x := by simp
theorem z_inner (z : Zone) (t : List Part) (p : Part) (hp : PartOk p) (n k : Nat) (fs : List (List Int × Int)) (hf : CutsOk k fs) (hk : k ≤ 2) (M1 : Mem) (hn : M1[n]? = some (.lst (fs.map cD))) (o8 o9 o10 : Option D) : ∃ o8' o9' o10',
    fForGo (bTup 2 (bCons (bName 8) (bCons (bName 9) bNil))) zIn (fun M' => asLs M' (.ref n) = some (fs.map cD)) (fs.map cD) (zEnv z t p n M1.length (optD (p.long z.gr)) o8 o9 o10) (M1 ++ [.lst []]) =
      some (.nx, zEnv z t p n M1.length (optD (p.long z.gr)) o8' o9' o10', M1 ++ [.lst ((fs.flatMap (zc1 (p.long z.gr))).map cD)]) := by
  have hlt := (List.getElem?_eq_some_iff.mp hn).1
  have L := for_pre (b := bTup 2 (bCons (bName 8) (bCons (bName 9) bNil))) (body := zIn) (kp := fun M' => asLs M' (.ref n) = some (fs.map cD)) (emb := cD)
    (I := fun pre env M' => M' = M1 ++ [.lst ((pre.flatMap (zc1 (p.long z.gr))).map cD)] ∧ ∃ o8 o9 o10, env = zEnv z t p n M1.length (optD (p.long z.gr)) o8 o9 o10) fs
    (fun pre env M' ⟨e1, _⟩ => by subst e1; simp [List.getElem?_append_left hlt, hn])
    (fun pre c post e env M' ⟨e1, o8, o9, o10, e2⟩ => by
      subst e1 e2
      have hc : c ∈ fs := by rw [e]; simp
      have hpl : (pre.flatMap (zc1 (p.long z.gr))).length ≤ 7 * 49 := by
        have h1 := flat_len (f := zc1 (p.long z.gr)) (k := 7) (xs := pre) fun d hd => zc1_len (hp.long z.gr) (hf.room d (by rw [e]; simp [hd]))
        have h2 : pre.length ≤ fs.length := by rw [e]; simp
        have h3 : 7 ^ k ≤ 7 ^ 2 := Nat.pow_le_pow_right (by decide) hk
        have h4 := hf.few
        have : (7 : Nat) ^ 2 = 49 := rfl
        omega
      have T := z_turn z t p hp n c o8 o9 o10 M1 ((pre.flatMap (zc1 (p.long z.gr))).map cD) (by rw [List.length_map]; omega) (hf.room c hc) (by have := hf.len c hc; omega)
      refine ⟨zEnv z t p n M1.length (optD (p.long z.gr)) (some (rowD c.1)) (some (.int c.2)) o10, .nx, _, _, by simp [cD], T, .inl rfl, ?_, _, _, _, rfl⟩
      rw [flat_snoc, List.map_append])
    (zEnv z t p n M1.length (optD (p.long z.gr)) o8 o9 o10) (M1 ++ [.lst []]) ⟨rfl, o8, o9, o10, rfl⟩
  obtain ⟨env', M', g1, e1, o8', o9', o10', e2⟩ := L
  subst e1 e2
  exact ⟨o8', o9', o10', g1⟩
theorem z_outer (z : Zone) (hz : ZoneOk z) (t : List Part) (ht : TabOk t) (M : Mem) (o5 o6 o7 o8 o9 o10 : Option D) : ∃ E n o5' o6' o7' o8' o9' o10',
    fForGo (bName 5) (fSeq (fAsg (bName 6) (fCf (fNa 2 F_part_length) (fCons (fVar 5) (fCons (fVar 2) fNil)))) (fSeq (fAsg (bName 7) (fLst fNil)) (fSeq (fFor (fiS (fVar 4)) (bTup 2 (bCons (bName 8) (bCons (bName 9) bNil))) zIn) (fAsg (bName 4) (fVar 7))))) (fun _ => True) (t.map partD)
      [some (zoneD z), some (tabD t), some (grD z.gr), some (.int z.len), some (.ref M.length), o5, o6, o7, o8, o9, o10] (M ++ [.lst [cD ([], z.len)]]) =
      some (.nx, [some (zoneD z), some (tabD t), some (grD z.gr), some (.int z.len), some (.ref n), o5', o6', o7', o8', o9', o10'], M ++ E) ∧ (M ++ E)[n]? = some (.lst ((zcF z t).map cD)) := by
  have L := for_pre (b := bName 5) (body := (fSeq (fAsg (bName 6) (fCf (fNa 2 F_part_length) (fCons (fVar 5) (fCons (fVar 2) fNil)))) (fSeq (fAsg (bName 7) (fLst fNil)) (fSeq (fFor (fiS (fVar 4)) (bTup 2 (bCons (bName 8) (bCons (bName 9) bNil))) zIn) (fAsg (bName 4) (fVar 7)))))) (kp := fun _ => True) (emb := partD)
    (I := fun pre env M' => ∃ E n o5 o6 o7 o8 o9 o10, M' = M ++ E ∧ env = [some (zoneD z), some (tabD t), some (grD z.gr), some (.int z.len), some (.ref n), o5, o6, o7, o8, o9, o10] ∧ M'[n]? = some (.lst ((pre.foldl (zcS z.gr) [([], z.len)]).map cD))) t (fun _ _ _ _ => trivial)
    (fun pre p post e env M' ⟨E, n, o5, o6, o7, o8, o9, o10, e1, e2, e3⟩ => by
      subst e1 e2
      have hp : PartOk p := ht.all p (by rw [e]; simp)
      have hpre : pre.length ≤ 2 := by
        have := ht.len
        rw [e] at this
        simp at this
        omega
      have hf := cuts_fold hz (t := pre) (fun q hq => ht.all q (by rw [e]; simp [hq])) (cuts0 hz)
      obtain ⟨a8, a9, a10, g⟩ := z_inner z t p hp n _ _ hf (by omega) (M ++ E) e3 o8 o9 o10
      have hlt := (List.getElem?_eq_some_iff.mp e3).1
      have e4 : (M ++ E ++ [O.lst []])[n]? = some (.lst ((pre.foldl (zcS z.gr) [([], z.len)]).map cD)) := by
        rw [List.getElem?_append_left hlt]; exact e3
      have hpl := m_part_length p z.gr (M ++ E)
      refine ⟨_, .nx, [some (zoneD z), some (tabD t), some (grD z.gr), some (.int z.len), some (.ref (M ++ E).length), some (partD p), some (optD (p.long z.gr)), some (.ref (M ++ E).length), a8, a9, a10], _, rfl, ?_, .inl rfl, E ++ [.lst (((pre.foldl (zcS z.gr) [([], z.len)]).flatMap (zc1 (p.long z.gr))).map cD)], _, _, _, _, _, _, _, (List.append_assoc ..), rfl, ?_⟩
      · have e4' : asLs (M ++ E ++ [O.lst []]) (.ref n) = some ((pre.foldl (zcS z.gr) [([], z.len)]).map cD) := by
          rw [e_asLsr, e_asLr, e4]
        have g' : fFor (fiS (fVar 4)) (bTup 2 (bCons (bName 8) (bCons (bName 9) bNil))) zIn (zEnv z t p n (M ++ E).length (optD (p.long z.gr)) o8 o9 o10) (M ++ E ++ [O.lst []]) = some (.nx, zEnv z t p n (M ++ E).length (optD (p.long z.gr)) a8 a9 a10, M ++ E ++ [.lst (((pre.foldl (zcS z.gr) [([], z.len)]).flatMap (zc1 (p.long z.gr))).map cD)]) := by
          rw [e_for, e_fiS, e_fiL]
          show (((Option.bind (some (R.v (.ref n), M ++ E ++ [O.lst []])) _).or _).bind _) = _
          rw [Option.bind_some]
          dsimp only [e_fzv]
          rw [e4']
          exact g
        simp [-e_for, -List.append_assoc, -List.length_append, hpl, g']
      · rw [List.foldl_append]
        simp [zcS])
    [some (zoneD z), some (tabD t), some (grD z.gr), some (.int z.len), some (.ref M.length), o5, o6, o7, o8, o9, o10] (M ++ [.lst [cD ([], z.len)]]) ⟨[.lst [cD ([], z.len)]], M.length, o5, o6, o7, o8, o9, o10, rfl, rfl, by simp⟩
  obtain ⟨env', M', g1, E, n, b5, b6, b7, b8, b9, b10, e1, e2, e3⟩ := L
  subst e1 e2
  exact ⟨E, n, b5, b6, b7, b8, b9, b10, g1, e3⟩
theorem m_zone_cuts (z : Zone) (t : List Part) (M : Mem) (hz : ZoneOk z) (ht : TabOk t) : F_zone_cuts [zoneD z, tabD t] M = some (.n (.lst ((zcL z t).map rowD)), M) := by
  obtain ⟨E, n, b5, b6, b7, b8, b9, b10, g1, g2⟩ := z_outer z hz t ht M none none none none none none
  have hO := zcF_ok hz ht
  refine ft_n (E := E) (by simp only [okO]; exact pures_ok _ _ (p_rows _)) ?_
  unfold B_zone_cuts
  have lc := lc_map (b := bTup 2 (bCons (bName 8) (bCons (bName 9) bNil))) (f := fVar 8) (kp := fun M' => asLs M' (.ref n) = some ((zcF z t).map cD)) (env := [some (zoneD z), some (tabD t), some (grD z.gr), some (.int z.len), some (.ref n), b5, b6, b7, none, none, b10]) (M := M ++ E) (emb := cD) (g := fun c => rowD c.1) (by simp [g2]) (zcF z t) fun c hc => ⟨[some (zoneD z), some (tabD t), some (grD z.gr), some (.int z.len), some (.ref n), b5, b6, b7, some (rowD c.1), some (.int c.2), b10], .v (rowD c.1), by simp [cD], by simp, rfl⟩
  have hl : (zcF z t).length ≤ sizeLine := sz_of (by have := hO.few; omega)
  have g3 : fForGo (bName 5) (fSeq (fAsg (bName 6) (fCf (fNa 2 F_part_length) (fCons (fVar 5) (fCons (fVar 2) fNil)))) (fSeq (fAsg (bName 7) (fLst fNil)) (fSeq (fFor (fiS (fVar 4)) (bTup 2 (bCons (bName 8) (bCons (bName 9) bNil))) (fIfS (qVal (fBin (gIsN false) (fVar 6) (fC .non))) (fExp (fBm gApp (fVar 7) (fCons (fTup (fCons (fBin gAdd (fVar 8) (fTup (fCons (fC (.int 0)) fNil))) (fCons (fVar 9) fNil))) fNil))) (fExp (fBm gExt (fVar 7) (fCons (fLc (fiR1 (fCons (fBin gAdd (fC (.int 1)) (fBin gFdv (fVar 9) (fVar 6))) fNil)) (bName 10) qYes (fTup (fCons (fBin gAdd (fVar 8) (fTup (fCons (fVar 10) fNil))) (fCons (fBin gSub (fVar 9) (fBin gMul (fVar 10) (fVar 6))) fNil))) [10]) fNil))))) (fAsg (bName 4) (fVar 7))))) (fun _ => True) (t.map partD) [some (.tup [grD z.gr, .int z.len]), some (.tup (t.map partD)), some (grD z.gr), some (.int z.len), some (.ref M.length), none, none, none, none, none, none] (M ++ [.lst [.tup [.tup [], .int z.len]]]) = _ := g1
  simp only [zoneD, tabD] at lc g3
  simp at lc
  simp [zoneD, tabD, g3, g2, lc, hl]
  simp [zcL]
end G84
set_option Elab.async false
set_option linter.all false
set_option maxRecDepth 100000
/-! G84N: pairs_for; sums -/
namespace G84
open PySem PySem.Spec PyProof.Rows L2 Fl Sg
theorem zpr (t : List Part) (k : List Int) : (k.zip t).map (fun q => D.int (q.1 / q.2.need)) = (prL t k).map D.int := zmap (fun c (p : Part) => c / p.need) D.int k t
theorem prL_min {t : List Part} (ht : TabOk t) {k : List Int} (hk : Row3 k) : (prL t k).min? = some (prF t k) := by
  cases h : (prL t k).min? with
  | none =>
    have e := List.min?_eq_none_iff.mp h
    have := congrArg List.length e
    simp [prL, ht.len, hk] at this
  | some m => simp [prF, h]
theorem prL_len {t : List Part} (ht : TabOk t) {k : List Int} (hk : Row3 k) : (prL t k).length = 3 := by simp [prL, ht.len, hk]
theorem part_div {t : List Part} (ht : TabOk t) {p : Part} (h : p ∈ t) (c : Int) : CDivW c p.need := cdiv_of (by have := (ht.all p h).n1; omega) (by have := (ht.all p h).n2; omega)
theorem m_pairs_for (t : List Part) (ht : TabOk t) (k : List Int) (hk : Row3 k) (M : Mem) : F_pairs_for [tabD t, rowD k] M = some (.v (.int (prF t k)), M) := by
  refine eq_of_to (to_fn ?_)
  unfold B_pairs_for
  simp [tabD, rowD, ht.len, hk, zip_two]
  refine to_map (k.zip t) (fun q => .int (q.1 / q.2.need)) rfl (by simp) (fun q hq => ?_) ?_
  · simp [twoD, partD, part_div ht (List.of_mem_zip hq).2]
  · simp [zpr, prL_len ht hk, prL_min ht hk]
theorem m_long_in (p : Part) (z : Zone) (M : Mem) : F_long_in [partD p, zoneD z] M = some (.v (optD (p.long z.gr)), M) := by
  refine eq_of_to (to_fn ?_)
  unfold B_long_in
  cases h : z.gr <;> simp [partD, zoneD, Part.long, grD, h]
theorem m_is_count (i : Int) (M : Mem) : F_is_count [.int i] M = some (.v (.bl (decide (0 ≤ i))), M) := by
  refine eq_of_to (to_fn ?_)
  unfold B_is_count
  simp
theorem m_are_counts (k : List Int) (hk : Row3 k) (M : Mem) : F_are_counts [rowD k] M = some (.v (.bl (k.all fun i => decide (0 ≤ i))), M) := by
  refine eq_of_to (to_fn ?_)
  unfold B_are_counts
  simp [rowD, hk, srcS]
  refine to_map k (fun i => .bl (decide (0 ≤ i))) rfl (by simp) (fun q hq => ?_) ?_
  · simp [m_is_count]
  · have e : k.map (fun i => D.bl (decide (0 ≤ i))) = (k.map fun i => decide (0 ≤ i)).map D.bl := by simp
    simp [e, -List.map_map, hk]
/-! does_fit -/
def usedZ (g : Bool) (l : List (Part × Int)) : Int := (l.map fun q => u1 (q.1.long g) q.2).sum
def canZ (g : Bool) (l : List (Part × Int)) : Bool := l.all fun q => (q.1.long g).isSome || decide (q.2 ≤ 0)
theorem used_zip (g : Bool) : ∀ (t : List Part) (k : List Int), usedR g t k = usedZ g (t.zip k)
  | [], [] => rfl
  | [], _ :: _ => rfl
  | _ :: _, [] => rfl
  | p :: t, c :: k => by simp [usedR, usedZ, used_zip g t k]
theorem can_zip (g : Bool) : ∀ (t : List Part) (k : List Int), canR g t k = canZ g (t.zip k)
  | [], [] => rfl
  | [], _ :: _ => rfl
  | _ :: _, [] => rfl
  | p :: t, c :: k => by simp [canR, canZ, can_zip g t k]
theorem usedZ_snoc (g : Bool) (pre : List (Part × Int)) (q : Part × Int) : usedZ g (pre ++ [q]) = usedZ g pre + u1 (q.1.long g) q.2 := by simp [usedZ]
theorem canZ_snoc (g : Bool) (pre : List (Part × Int)) (q : Part × Int) : canZ g (pre ++ [q]) = (canZ g pre && ((q.1.long g).isSome || decide (q.2 ≤ 0))) := by simp [canZ]
def fitB (z : Zone) (t : List Part) (k : List Int) : Bool := canR z.gr t k && decide (usedR z.gr t k ≤ z.len)
theorem m_does_fit (z : Zone) (t : List Part) (ht : TabOk t) (k : List Int) (M : Mem) : F_does_fit [zoneD z, tabD t, rowD k] M = some (.v (.bl (fitB z t k)), M) := by
  refine eq_of_to (to_fn ?_)
  unfold B_does_fit
  simp [tabD, rowD, zip_two]
  refine to_go (t.zip k) (fun pre env M' => M' = M ∧ canZ z.gr pre = true ∧ ∃ a b c, env = [some (zoneD z), some (tabD t), some (rowD k), some (.int (usedZ z.gr pre)), a, b, c]) rfl ⟨rfl, rfl, _, _, _, rfl⟩ (fun _ _ _ _ => trivial) ?_ ?_
  · rintro pre ⟨p, c⟩ post e env M' ⟨rfl, hc, a, b, d, rfl⟩
    have hp : p ∈ t := (List.of_mem_zip (a := p) (b := c) (by rw [e]; simp)).1
    simp [twoD, m_long_in]
    have hs := usedZ_snoc z.gr pre (p, c)
    have hs2 := canZ_snoc z.gr pre (p, c)
    rw [hc, Bool.true_and] at hs2
    dsimp only at hs hs2
    split
    · rename_i h0
      cases hl : p.long z.gr with
      | none =>
        have hf : fitB z t k = false := by
          have : canZ z.gr (t.zip k) = false := by
            rw [e]
            simp [canZ, hl]
            omega
          simp [fitB, can_zip, this]
        simp [optD, hf]
      | some l =>
        obtain ⟨l1, l2⟩ := ((ht.all p hp).long z.gr).h l hl
        have cm : CMul c l := cmul_r (by omega) (by omega)
        simp [optD, cm, hs2, hs, hl, u1, h0]
    · rename_i h0
      simp [hs, hs2, u1, h0]
      exact .inr (by omega)
  · rintro env M' ⟨rfl, hc, a, b, d, rfl⟩
    simp [zoneD, fitB, can_zip, hc, used_zip]
theorem fitB_iff {z : Zone} {t : List Part} {k : List Int} (hl : k.length = t.length) (hn : ∀ c ∈ k, 0 ≤ c) : fitB z t k = true ↔ Fits z t k := by
  unfold fitB
  rw [Bool.and_eq_true, decide_eq_true_eq]
  exact ⟨fun h => ⟨hl, hn, h.1, h.2⟩, fun h => ⟨h.can, h.room⟩⟩
end G84
set_option Elab.async false
set_option linter.all false
set_option maxRecDepth 100000
/-! G84O: cuts of a skin -/
namespace G84
open PySem PySem.Spec PyProof.Rows L2 Fl Sg
def skinF (zs : List Zone) (st gr : Int) : List (Str × D) := [("zones", .tup (zs.map zoneD)), ("stretch", .int st), ("grade", .int gr)]
@[simp] theorem lk_zones (zs : List Zone) (st gr : Int) : List.lookup ("zones" : Str) (skinF zs st gr) = some (.tup (zs.map zoneD)) := rfl
@[simp] theorem lk_stretch (zs : List Zone) (st gr : Int) : List.lookup ("stretch" : Str) (skinF zs st gr) = some (.int st) := rfl
@[simp] theorem lk_grade (zs : List Zone) (st gr : Int) : List.lookup ("grade" : Str) (skinF zs st gr) = some (.int gr) := rfl
abbrev SkinAt (M : Mem) (d : D) (zs : List Zone) (st gr : Int) : Prop := asI M d = some (("Skin" : Str), skinF zs st gr)
def cutD (cut : List (List Int)) : D := .tup (cut.map rowD)
def totC (cut : List (List Int)) (i : Nat) : Int := (cut.map fun k => k.getD i 0).sum
theorem tot_get : ∀ {cut : List (List Int)}, (∀ k ∈ cut, Row3 k) → totR cut = [totC cut 0, totC cut 1, totC cut 2]
  | [], _ => rfl
  | k :: cut, h => by
    have ih := tot_get fun x hx => h x (List.mem_cons_of_mem k hx)
    obtain ⟨a, b, c, rfl⟩ := row3 (h k List.mem_cons_self)
    show addR [a, b, c] (totR cut) = _
    rw [ih]
    simp [addR, totC]
theorem at_row {k : List Int} (h : Row3 k) {i : Nat} (hi : i < 3) : atI (k.map D.int) (i : Int) = some (.int (k.getD i 0)) := by
  obtain ⟨a, b, c, rfl⟩ := row3 h
  have : i = 0 ∨ i = 1 ∨ i = 2 := by omega
  rcases this with rfl | rfl | rfl <;> rfl
theorem m_cut_in_all (cut : List (List Int)) (h : ∀ k ∈ cut, Row3 k) (hl : cut.length ≤ 1000) (M : Mem) : F_cut_in_all [cutD cut] M = some (.v (rowD (totR cut)), M) := by
  refine eq_of_to (to_fn ?_)
  unfold B_cut_in_all
  have hs : cut.length ≤ sizeLine := sz_of (by omega)
  simp [cutD, okRg_of]
  refine to_map (List.range 3) (fun i => .int (totC cut i)) (emb := fun i : Nat => D.int (i : Int)) (by rfl) (by simp) (fun i hi => ?_) ?_
  · have hi := List.mem_range.mp hi
    simp [srcS]
    refine to_map cut (fun k => .int (k.getD i 0)) rfl (by simp) (fun k hk => ?_) ?_
    · simp [rowD, at_row (h k hk) hi]
    · have e : (cut.map fun k => D.int (k.getD i 0)) = (cut.map fun k => k.getD i 0).map D.int := by simp
      rw [e]
      simp [-List.map_map, hs, totC]
  · have e : (List.range 3).map (fun i => D.int (totC cut i)) = (totR cut).map D.int := by rw [tot_get h]; rfl
    rw [e]
    simp [rowD, tot_get h]
theorem zpr2 (t : List Part) (k : List Int) : (t.zip k).map (fun q => D.int (q.2 / q.1.need)) = (prL t k).map D.int := by
  have := zmap (fun (p : Part) (c : Int) => c / p.need) D.int t k
  rw [show (fun q : Part × Int => D.int (q.2 / q.1.need)) = (fun q : Part × Int => D.int ((fun (p : Part) (c : Int) => c / p.need) q.1 q.2)) from rfl, this]
  congr 1
  unfold prL
  rw [List.zipWith_comm]
theorem m_pairs_given (t : List Part) (ht : TabOk t) (cut : List (List Int)) (h : ∀ k ∈ cut, Row3 k) (hl : cut.length ≤ 1000) (M : Mem) : F_pairs_given [tabD t, cutD cut] M = some (.v (.int (prF t (totR cut))), M) := by
  refine eq_of_to (to_fn ?_)
  unfold B_pairs_given
  have hk := totR_row h
  simp [m_cut_in_all cut h hl]
  simp [tabD, rowD, zip_two]
  refine to_map (t.zip (totR cut)) (fun q => .int (q.2 / q.1.need)) rfl (by simp) (fun q hq => ?_) ?_
  · simp [twoD, partD, part_div ht (List.of_mem_zip hq).1]
  · simp [zpr2, prL_len ht hk, prL_min ht hk]
theorem m_is_whole_cut (t : List Part) (ht : TabOk t) (cut : List (List Int)) (h : ∀ k ∈ cut, Row3 k) (hl : cut.length ≤ 1000) (M : Mem) : F_is_whole_cut [tabD t, cutD cut] M = some (.v (.bl ((t.zip (totR cut)).all fun q => decide (q.2 = prF t (totR cut) * q.1.need))), M) := by
  refine eq_of_to (to_fn ?_)
  unfold B_is_whole_cut
  have hk := totR_row h
  simp [m_cut_in_all cut h hl, m_pairs_given t ht cut h hl]
  simp [tabD, rowD, zip_two]
  refine to_map (t.zip (totR cut)) (fun q => .bl (decide (q.2 = prF t (totR cut) * q.1.need))) rfl (by simp) (fun q hq => ?_) ?_
  · have hp := ht.all q.1 (List.of_mem_zip hq).1
    have cm : CMul (prF t (totR cut)) q.1.need := cmul_r (by have := hp.n1; omega) (by have := hp.n2; omega)
    simp [twoD, partD, cm]
  · have e : (t.zip (totR cut)).map (fun q => D.bl (decide (q.2 = prF t (totR cut) * q.1.need))) = ((t.zip (totR cut)).map fun q => decide (q.2 = prF t (totR cut) * q.1.need)).map D.bl := by simp
    rw [e]
    simp [-List.map_map, ht.len, hk]
theorem whole_need {t : List Part} (ht : TabOk t) (m : Int) : ((t.zip (needR t m)).all fun q => decide (q.2 = m * q.1.need)) = true := by
  obtain ⟨p, q, r, rfl, _⟩ := tab3 ht
  simp [needR]
theorem m_used_in (z : Zone) (t : List Part) (ht : TabOk t) (k : List Int) (hc : canR z.gr t k = true) (M : Mem) : F_used_in [zoneD z, tabD t, rowD k] M = some (.v (.int (usedR z.gr t k)), M) := by
  refine eq_of_to (to_fn ?_)
  unfold B_used_in
  simp [tabD, rowD, zip_two]
  refine to_go (t.zip k) (fun pre env M' => M' = M ∧ ∃ a b, env = [some (zoneD z), some (tabD t), some (rowD k), some (.int (usedZ z.gr pre)), a, b]) rfl ⟨rfl, _, _, rfl⟩ (fun _ _ _ _ => trivial) ?_ ?_
  · rintro pre ⟨p, c⟩ post e env M' ⟨rfl, a, b, rfl⟩
    have hp : p ∈ t := (List.of_mem_zip (a := p) (b := c) (by rw [e]; simp)).1
    have hs := usedZ_snoc z.gr pre (p, c)
    rw [can_zip, e, canZ, List.all_eq_true] at hc
    have hc := hc (p, c) (by simp)
    dsimp only at hs hc
    simp [twoD, m_long_in]
    split
    · rename_i h0
      cases hl : p.long z.gr with
      | none => rw [hl] at hc; simp at hc; omega
      | some l =>
        obtain ⟨l1, l2⟩ := ((ht.all p hp).long z.gr).h l hl
        have cm : CMul c l := cmul_r (by omega) (by omega)
        simp [optD, cm, hs, hl, u1, h0, tabD, rowD]
    · rename_i h0
      simp [hs, u1, h0, tabD, rowD]
  · rintro env M' ⟨rfl, a, b, rfl⟩
    simp [used_zip]
theorem FitsAll.can {zs : List Zone} {t : List Part} {cut : List (List Int)} (h : FitsAll zs t cut) {q : Zone × List Int} (hq : q ∈ zs.zip cut) : canR q.1.gr t q.2 = true := (h.all q hq).can
def usedA (zs : List Zone) (t : List Part) (cut : List (List Int)) : List Int := (zs.zip cut).map fun q => usedR q.1.gr t q.2
def restA (zs : List Zone) (t : List Part) (cut : List (List Int)) : List Int := (zs.zip cut).map fun q => q.1.len - usedR q.1.gr t q.2
theorem m_cuttings_of (zs : List Zone) (st gr : Int) (d : D) (t : List Part) (ht : TabOk t) (cut : List (List Int)) (h : FitsAll zs t cut) (hl : zs.length ≤ 1000) (M : Mem) (hd : SkinAt M d zs st gr) : F_cuttings_of [d, tabD t, cutD cut] M = some (.v (.tup ((restA zs t cut).map D.int)), M) := by
  refine eq_of_to (to_fn ?_)
  unfold B_cuttings_of
  have h1 := h.len
  have hs : zs.length ≤ sizeLine := sz_of (by omega)
  simp [hd, cutD, zip_two]
  refine to_map (zs.zip cut) (fun q => .int (q.1.len - usedR q.1.gr t q.2)) rfl (by simp) (fun q hq => ?_) ?_
  · have := m_used_in q.1 t ht q.2 (h.can hq) M
    rw [zoneD] at this
    simp [twoD, zoneD, this]
  · have e : (zs.zip cut).map (fun q => D.int (q.1.len - usedR q.1.gr t q.2)) = (restA zs t cut).map D.int := by simp [restA]
    have hl : (restA zs t cut).length = zs.length := by simp [restA, h1]
    rw [e]
    simp [-List.map_map, hl, hs]
theorem m_used_by (zs : List Zone) (st gr : Int) (d : D) (t : List Part) (ht : TabOk t) (cut : List (List Int)) (h : FitsAll zs t cut) (hl : zs.length ≤ 1000) (M : Mem) (hd : SkinAt M d zs st gr) : F_used_by [d, tabD t, cutD cut] M = some (.v (.int (usedA zs t cut).sum), M) := by
  refine eq_of_to (to_fn ?_)
  unfold B_used_by
  have h1 := h.len
  have hs : zs.length ≤ sizeLine := sz_of (by omega)
  simp [hd, cutD, zip_two]
  refine to_map (zs.zip cut) (fun q => .int (usedR q.1.gr t q.2)) rfl (by simp) (fun q hq => ?_) ?_
  · simp [twoD, m_used_in q.1 t ht q.2 (h.can hq) M]
  · have e : (zs.zip cut).map (fun q => D.int (usedR q.1.gr t q.2)) = (usedA zs t cut).map D.int := by simp [usedA]
    rw [e]
    have hl : (usedA zs t cut).length = zs.length := by simp [usedA, h1]
    simp [hl, hs]
theorem m_length_of (zs : List Zone) (st gr : Int) (d : D) (hl : zs.length ≤ 1000) (M : Mem) (hd : SkinAt M d zs st gr) : F_length_of [d] M = some (.v (.int (lenZ zs)), M) := by
  refine eq_of_to (to_fn ?_)
  unfold B_length_of
  have hs : zs.length ≤ sizeLine := sz_of (by omega)
  simp [hd, srcS]
  refine to_map zs (fun q => .int q.len) rfl (by simp) (fun q hq => ?_) ?_
  · simp [zoneD]
  · have e : zs.map (fun q => D.int q.len) = (zs.map (·.len)).map D.int := by simp
    rw [e]
    simp [-List.map_map, hs, lenZ]
theorem used_rest (t : List Part) : ∀ (zs : List Zone) (cut : List (List Int)), cut.length = zs.length → (usedA zs t cut).sum + (restA zs t cut).sum = lenZ zs
  | [], [], _ => rfl
  | [], _ :: _, h => by cases h
  | _ :: _, [], h => by cases h
  | z :: zs, k :: cut, h => by
    have := used_rest t zs cut (by simpa using h)
    simp [usedA, restA, lenZ] at this ⊢
    omega
theorem m_Skin_len (zs : List Zone) (st gr : Int) (d : D) (M : Mem) (hd : SkinAt M d zs st gr) : F_Skin___len__ [d] M = some (.v (.int zs.length), M) := by
  refine eq_of_to (to_fn ?_)
  unfold B_Skin___len__
  simp [hd]
theorem m_is_cut (zs : List Zone) (st gr : Int) (d : D) (t : List Part) (ht : TabOk t) (cut : List (List Int)) (h : FitsAll zs t cut) (hl : zs.length ≤ 1000) (M : Mem) (hd : SkinAt M d zs st gr) : F_is_cut [d, tabD t, cutD cut] M = some (.v (.bl true), M) := by
  refine eq_of_to (to_fn ?_)
  unfold B_is_cut
  have h1 := h.len
  have hs : zs.length ≤ sizeLine := sz_of (by omega)
  have hb : ((zs.length : Int) < 2 ^ 63) := by omega
  simp [hd, m_Skin_len zs st gr d M hd, cutD, h1, hb, srcS]
  refine ⟨by omega, ?_⟩
  refine to_map cut (fun k => .bl true) rfl (by simp) (fun k hk => ?_) ?_
  · have hn : (k.all fun i => decide (0 ≤ i)) = true := by
      obtain ⟨n, hn, rfl⟩ := List.mem_iff_getElem.mp hk
      have h2 : n < zs.length := by rw [← h.len]; exact hn
      have := (h.all (zs[n], cut[n]) (List.mem_iff_getElem.mpr ⟨n, by simp; omega, by simp⟩)).nn
      simpa using this
    simp [m_are_counts k (h.rows ht k hk), hn]
  · have e : cut.map (fun k => D.bl true) = (cut.map fun k => true).map D.bl := by simp
    rw [e]
    simp [-List.map_map, h1, hs, zip_two, hd]
    refine to_map (zs.zip cut) (fun q => .bl true) rfl (by simp) (fun q hq => ?_) ?_
    · have hf := h.all q hq
      simp [twoD, m_does_fit q.1 t ht q.2, (fitB_iff hf.len hf.nn).mpr hf]
    · have e : (zs.zip cut).map (fun k => D.bl true) = ((zs.zip cut).map fun k => true).map D.bl := by simp
      rw [e]
      simp [-List.map_map, h1, hs]
end G84
set_option Elab.async false
set_option linter.all false
set_option maxRecDepth 100000
/-! G84P: dicts of rows; sums_behind, ways_behind -/
namespace G84
open PySem PySem.Spec PyProof.Rows L2 Fl Sg
def kD (k : List Int) : DK := .t (k.map Sum.inl)
def dicR {β : Type} (emb : β → D) (kvs : List (List Int × β)) : List (DK × D) := kvs.map fun p => (kD p.1, emb p.2)
theorem kD_inj {a b : List Int} (h : kD a = kD b) : a = b := (List.map_inj_right fun _ _ h => Sum.inl.inj h).mp (DK.t.inj h)
theorem kD_iff {a b : List Int} : kD a = kD b ↔ a = b := ⟨kD_inj, fun h => by rw [h]⟩
theorem flat_ints : ∀ k : List Int, flatKeys (k.map D.int) = some (k.map Sum.inl)
  | [] => rfl
  | x :: k => by simp [flatKeys, flatKey, flat_ints k]
@[simp] theorem keyOf_row (k : List Int) : Fl.keyOf (rowD k) = some (kD k) := by simp [Fl.keyOf, rowD, flat_ints, kD]
@[simp] theorem kD_d (k : List Int) : (kD k).d = rowD k := by
  simp only [kD, DK.d, rowD, List.map_map]
  rfl
@[simp] theorem kD_t (k : List Int) : dkT (kD k) = true := rfl
section
variable {β : Type} {emb : β → D} {kvs : List (List Int × β)} {k : List Int} {v : β} {M : Mem} {n : Nat}
@[simp] theorem dicR_len : (dicR emb kvs).length = kvs.length := by simp [dicR]
theorem dput_R : dPut (dicR emb kvs) (kD k) (emb v) = dicR emb (putR kvs k v) := by
  unfold dPut putR
  have e : ((dicR emb kvs).any fun p => decide (p.1 = kD k)) = kvs.any fun p => decide (p.1 = k) := by
    simp [dicR, kD_iff, Function.comp_def]
  rw [e]
  split
  · simp only [dicR, List.map_map]
    refine List.map_congr_left fun p _ => ?_
    simp only [Function.comp_def, kD_iff]
    split <;> rfl
  · simp [dicR]
theorem dlook_R : dLook (dicR emb kvs) (kD k) = (lookR kvs k).map emb := by
  unfold dLook lookR
  induction kvs with
  | nil => rfl
  | cons p kvs ih =>
    simp only [dicR, List.map_cons, List.find?_cons, kD_iff] at ih ⊢
    by_cases h : p.1 = k
    · simp [h]
    · simp only [h, decide_false]
      exact ih
theorem set_dic (h : M[n]? = some (.dic true (dicR emb kvs))) (hl : kvs.length < sizeLine) : gSet M (.ref n) (rowD k) (emb v) = some (M.set n (.dic true (dicR emb (putR kvs k v)))) := by
  have : gSetL M (.ref n) (rowD k) (emb v) = none := rfl
  simp [gSet, this, gSetD, h, hl, dput_R]
theorem keys_dic : (dicR emb kvs).map (fun kv => DK.d kv.1) = (keysR kvs).map rowD := by simp [dicR, keysR, Function.comp_def]
theorem list_dic (h : M[n]? = some (.dic true (dicR emb kvs))) : gList M [.ref n] = some (.n (.lst ((keysR kvs).map rowD))) := by
  simp [gList, asS, asL, asD, h]
  exact keys_dic
theorem ixx_dic (h : M[n]? = some (.dic true (dicR emb kvs))) (hv : lookR kvs k = some v) : gIxx M (.ref n) (rowD k) = some (.v (emb v)) := by
  have : gIx M (.ref n) (rowD k) = none := rfl
  simp [gIxx, this, gDix, asD, h, dlook_R, hv]
theorem kIs_dic : kIs (dicR emb kvs) = some (keysR kvs) := by
  induction kvs with
  | nil => rfl
  | cons p kvs ih =>
    have e : kI (p.1.map Sum.inl) = p.1 := by
      generalize p.1 = k
      induction k with
      | nil => rfl
      | cons x k ih => simp [kI] at ih ⊢; exact ih
    simp only [dicR, List.map_cons, kD, kIs, e, if_true] at ih ⊢
    rw [ih]
    rfl
theorem src_dic (h : M[n]? = some (.dic true (dicR emb kvs))) : srcD M (.ref n) = some (keysR kvs) := by
  simp [srcD, asL, asD, h, kIs_dic]
/-- as a datum -/
def dicF (emb : β → D) (kvs : List (List Int × β)) : D := .dic true ((dicR emb kvs).map (·.1)) ((dicR emb kvs).map (·.2))
theorem asD_F : asD M (dicF emb kvs) = some (true, dicR emb kvs) := by
  simp [dicF, asD, List.zip_map', dicR, Function.comp_def]
theorem ixx_F (hv : lookR kvs k = some v) : gIxx M (dicF emb kvs) (rowD k) = some (.v (emb v)) := by
  have : gIx M (dicF emb kvs) (rowD k) = none := rfl
  simp [gIxx, this, gDix, asD_F, dlook_R, hv]
theorem list_F : gList M [dicF emb kvs] = some (.n (.lst ((keysR kvs).map rowD))) := by
  have h : asS M (dicF emb kvs) = none := rfl
  simp [gList, h, asD_F]
  exact keys_dic
theorem src_F : srcD M (dicF emb kvs) = some (keysR kvs) := by
  have : asL M (dicF emb kvs) = none := rfl
  simp [srcD, this, asD_F, kIs_dic]
end
theorem gl_ok (xs : List (List Int)) : Gr xs (grL xs) := gr_ok fun k => by rw [List.mem_reverse, sortR_mem, ddp_mem]
theorem gx {E F : Mem} {j : Nat} {o : O} (h : E[j]? = some o) : (E ++ F)[j]? = some o := by
  rw [List.getElem?_append_left (List.getElem?_eq_some_iff.mp h).1]; exact h
theorem zcL_row {z : Zone} (hz : ZoneOk z) {t : List Part} (ht : TabOk t) : ∀ k ∈ zcL z t, Row3 k := fun k hk => by rw [Row3, ((zcL_iff hz ht).mp hk).len, ht.len]
theorem zcL_few {z : Zone} (hz : ZoneOk z) {t : List Part} (ht : TabOk t) : (zcL z t).length ≤ 343 := by
  have := (zcF_ok hz ht).few
  simpa [zcL] using this
def cutsG (z : Zone) (t : List Part) : List (List Int) := grL (zcL z t)
theorem cutsG_row {z : Zone} (hz : ZoneOk z) {t : List Part} (ht : TabOk t) : ∀ k ∈ cutsG z t, Row3 k := fun k hk => zcL_row hz ht k (grL_mem hk)
theorem ddp_len : ∀ ls : List (List Int), (ddp ls).length ≤ ls.length
  | [] => Nat.le_refl _
  | x :: ls => by
    have := ddp_len ls
    unfold ddp
    split
    · simp; omega
    · simp; omega
theorem grL_len (ks : List (List Int)) : (grL ks).length ≤ ks.length := by
  have h := gr_len (sortR (ddp ks)).reverse []
  have h2 := ddp_len ks
  have h3 : (sortR (ddp ks)).length = (ddp ks).length := by unfold sortR; rw [List.length_mergeSort]
  simp only [List.length_nil, List.length_reverse] at h
  unfold grL
  omega
theorem cutsG_few {z : Zone} (hz : ZoneOk z) {t : List Part} (ht : TabOk t) : (cutsG z t).length ≤ 343 := by
  have := grL_len (zcL z t)
  have := zcL_few hz ht
  unfold cutsG
  omega
theorem cuts_greatest {z : Zone} (hz : ZoneOk z) {t : List Part} (ht : TabOk t) (M : Mem) : F_greatest [.lst ((zcL z t).map rowD)] M = some (.n (.lst ((cutsG z t).map rowD)), M) :=
  m_greatest (zcL z t) _ M (zcL_row hz ht) (by have := zcL_few hz ht; omega) (by simp [srcD])
theorem fdIn_snoc {β : Type} (f : List Int → List Int → β) (r : List Int) (pre : List (List Int)) (k : List Int) (acc : List (List Int × β)) : fdIn f r (pre ++ [k]) acc = putR (fdIn f r pre acc) (addR r k) (f r k) := by
  simp [fdIn, List.foldl_append]
def fdA {β : Type} (f : List Int → List Int → β) (cuts pre : List (List Int)) : List (List Int × β) := pre.foldl (fun acc r => fdIn f r cuts acc) []
theorem fdA_snoc {β : Type} (f : List Int → List Int → β) (cuts pre : List (List Int)) (r : List Int) : fdA f cuts (pre ++ [r]) = fdIn f r cuts (fdA f cuts pre) := by
  simp [fdA, List.foldl_append]
theorem fdA_len {β : Type} (f : List Int → List Int → β) {cuts : List (List Int)} (hn : cuts.length ≤ 343) (pre : List (List Int)) : (fdA f cuts pre).length ≤ 343 * pre.length := by
  have := fdL_len (f := f) hn (rows := pre) (acc := [])
  simpa [fdA] using this
theorem m_sums_behind (rows : List (List Int)) (hr : ∀ r ∈ rows, Row3 r) (hn : rows.length ≤ 1400) (z : Zone) (hz : ZoneOk z) (t : List Part) (ht : TabOk t) (M : Mem) : F_sums_behind [.tup (rows.map rowD), zoneD z, tabD t] M = some (.n (.lst ((sbL grL t rows z).map rowD)), M) := by
  refine eq_of_to (to_fn ?_)
  unfold B_sums_behind
  simp [m_zone_cuts z t _ hz ht, cuts_greatest hz ht, srcS]
  have hf := cutsG_few hz ht
  refine to_go rows (fun pre env M' => M' = M ++ [.lst ((cutsG z t).map rowD), .dic true (dicR D.bl (fdA (fun _ _ => true) (cutsG z t) pre))] ∧ ∃ a b, env = [some (.tup (rows.map rowD)), some (zoneD z), some (tabD t), some (.ref M.length), some (.ref (M.length + 1)), a, b]) rfl ⟨rfl, _, _, rfl⟩ (fun _ _ _ _ => trivial) ?_ ?_
  · rintro pre r post e env M' ⟨rfl, a, b, rfl⟩
    have hpre : pre.length ≤ 1400 := by
      have := congrArg List.length e
      simp at this; omega
    have hrr := hr r (by rw [e]; simp)
    have hacc := fdA_len (fun _ _ => true) hf pre
    simp
    refine to_go (cutsG z t) (fun pre2 env M' => M' = M ++ [.lst ((cutsG z t).map rowD), .dic true (dicR D.bl (fdIn (fun _ _ => true) r pre2 (fdA (fun _ _ => true) (cutsG z t) pre)))] ∧ ∃ b, env = [some (.tup (rows.map rowD)), some (zoneD z), some (tabD t), some (.ref M.length), some (.ref (M.length + 1)), some (rowD r), b]) rfl ⟨rfl, _, rfl⟩ (fun _ _ _ h => by rw [h.1]; simp) ?_ ?_
    · rintro pre2 k post2 e2 env M' ⟨rfl, b, rfl⟩
      have hk := cutsG_row hz ht k (by rw [e2]; simp)
      have hl2 := fdIn_len (f := fun _ _ => true) (r := r) (cuts := pre2) (acc := fdA (fun _ _ => true) (cutsG z t) pre)
      have hpre2 : pre2.length ≤ 343 := by
        have := congrArg List.length e2
        simp at this; omega
      have hs := set_dic (emb := D.bl) (kvs := fdIn (fun _ _ => true) r pre2 (fdA (fun _ _ => true) (cutsG z t) pre)) (v := true) (k := addR r k) (M := M ++ [.lst ((cutsG z t).map rowD), .dic true (dicR D.bl (fdIn (fun _ _ => true) r pre2 (fdA (fun _ _ => true) (cutsG z t) pre)))]) (n := M.length + 1) (by simp) (by rw [sizeLine_eq]; omega)
      simp [m_together r k hrr hk, hs, fdIn_snoc]
    · rintro env M' ⟨rfl, b, rfl⟩
      simp [fdA_snoc]
  · rintro env M' ⟨rfl, a, b, rfl⟩
    have hl := list_dic (emb := D.bl) (kvs := fdA (fun _ _ => true) (cutsG z t) rows) (M := M ++ [.lst ((cutsG z t).map rowD), .dic true (dicR D.bl (fdA (fun _ _ => true) (cutsG z t) rows))]) (n := M.length + 1) (by simp)
    simp [hl, pureO]
    rfl
end G84
set_option Elab.async false
set_option linter.all false
set_option maxRecDepth 100000
/-! G84Q: ways_behind, whole_cut, most_pairs -/
namespace G84
open PySem PySem.Spec PyProof.Rows L2 Fl Sg
def wD (p : List Int × List Int) : D := .tup [rowD p.1, rowD p.2]
@[simp] theorem p_wD (p : List Int × List Int) : pureD (wD p) = true := by simp [wD]
theorem pureO_dic {β : Type} {emb : β → D} (h : ∀ v, pureD (emb v) = true) (t : Bool) (kvs : List (List Int × β)) : pureO (.dic t (dicR emb kvs)) = true := by
  simp only [pureO, dicR, List.map_map]
  exact p_map fun p _ => h p.2
@[simp] theorem pureO_wd (t : Bool) (kvs : Stt) : pureO (.dic t (dicR wD kvs)) = true := pureO_dic p_wD t kvs
@[simp] theorem pureO_lst (ds : List D) : pureO (.lst ds) = pureDs ds := rfl
def pairD {β : Type} (emb : β → D) (e : List Int × β) : D := .tup [rowD e.1, emb e.2]
theorem pairs_D {β : Type} (emb : β → D) : ∀ st : List (List Int × β), pairsD (st.map (pairD emb)) = some (st.map fun e => (e.1.map Sum.inl, emb e.2))
  | [] => rfl
  | e :: st => by
    rw [List.map_cons]
    show (flatKeys (e.1.map D.int)).bind _ = _
    rw [flat_ints, pairs_D emb st]
    rfl
theorem merge_R {β : Type} (emb : β → D) : ∀ (st acc : List (List Int × β)), mergeD (dicR emb acc) (st.map fun e => (e.1.map Sum.inl, emb e.2)) = dicR emb (st.foldl (fun a e => putR a e.1 e.2) acc)
  | [], acc => rfl
  | e :: st, acc => by
    have := merge_R emb st (putR acc e.1 e.2)
    rw [List.foldl_cons, ← this, ← dput_R]
    rfl
theorem put_new {β : Type} : ∀ (st acc : List (List Int × β)), (keysR acc ++ keysR st).Nodup → st.foldl (fun a e => putR a e.1 e.2) acc = acc ++ st
  | [], acc, _ => by simp
  | e :: st, acc, h => by
    have hn : e.1 ∉ keysR acc := fun z => by
      have := (List.nodup_append.mp h).2.2 e.1 z e.1 (by simp [keysR])
      exact this rfl
    have e1 : putR acc e.1 e.2 = acc ++ [e] := by
      unfold putR
      rw [if_neg (fun z => hn (any_keys.mp z))]
    rw [List.foldl_cons, e1, put_new st (acc ++ [e]) (by simpa [keysR] using h)]
    simp
theorem dict_pairs {β : Type} (emb : β → D) (st : List (List Int × β)) (h : (keysR st).Nodup) (M : Mem) : gDict M [.lst (st.map (pairD emb))] = some (.n (.dic true (dicR emb st))) := by
  have e := merge_R emb st []
  rw [put_new st [] (by simpa [keysR] using h)] at e
  simp [gDict, pairs_D]
  exact e
theorem m_ways_behind (rows : List (List Int)) (hr : ∀ r ∈ rows, Row3 r) (hn : rows.length ≤ 1400) (z : Zone) (hz : ZoneOk z) (t : List Part) (ht : TabOk t) (M : Mem) (n : Nat) (hM : M[n]? = some (.lst (rows.map rowD)))
    (hfew : (keysR (fdL Prod.mk rows (cutsG z t))).length ≤ 1400) : F_ways_behind [.ref n, zoneD z, tabD t] M = some (.n (.dic true (dicR wD (wbL grL rows (cutsG z t)))), M) := by
  refine eq_of_to (to_fn ?_)
  unfold B_ways_behind
  have hf := cutsG_few hz ht
  simp [m_zone_cuts z t _ hz ht, cuts_greatest hz ht, gx hM]
  refine to_go rows (fun pre env M' => M' = M ++ [.lst ((cutsG z t).map rowD), .dic true (dicR wD (fdA Prod.mk (cutsG z t) pre))] ∧ ∃ a b, env = [some (.ref n), some (zoneD z), some (tabD t), some (.ref M.length), some (.ref (M.length + 1)), a, b]) rfl ⟨rfl, _, _, rfl⟩ (fun _ _ _ h => by rw [h.1]; simp [gx hM]) ?_ ?_
  · rintro pre r post e env M' ⟨rfl, a, b, rfl⟩
    have hpre : pre.length ≤ 1400 := by
      have := congrArg List.length e
      simp at this; omega
    have hrr := hr r (by rw [e]; simp)
    have hacc := fdA_len Prod.mk hf pre
    simp
    refine to_go (cutsG z t) (fun pre2 env M' => M' = M ++ [.lst ((cutsG z t).map rowD), .dic true (dicR wD (fdIn Prod.mk r pre2 (fdA Prod.mk (cutsG z t) pre)))] ∧ ∃ b, env = [some (.ref n), some (zoneD z), some (tabD t), some (.ref M.length), some (.ref (M.length + 1)), some (rowD r), b]) rfl ⟨rfl, _, rfl⟩ (fun _ _ _ h => by rw [h.1]; simp) ?_ ?_
    · rintro pre2 k post2 e2 env M' ⟨rfl, b, rfl⟩
      have hk := cutsG_row hz ht k (by rw [e2]; simp)
      have hl2 := fdIn_len (f := Prod.mk) (r := r) (cuts := pre2) (acc := fdA Prod.mk (cutsG z t) pre)
      have hpre2 : pre2.length ≤ 343 := by
        have := congrArg List.length e2
        simp at this; omega
      have hs := set_dic (emb := wD) (kvs := fdIn Prod.mk r pre2 (fdA Prod.mk (cutsG z t) pre)) (v := (r, k)) (k := addR r k) (M := M ++ [.lst ((cutsG z t).map rowD), .dic true (dicR wD (fdIn Prod.mk r pre2 (fdA Prod.mk (cutsG z t) pre)))]) (n := M.length + 1) (by simp) (by rw [sizeLine_eq]; omega)
      rw [show wD (r, k) = .tup [rowD r, rowD k] from rfl] at hs
      simp [m_together r k hrr hk, hs, fdIn_snoc]
    · rintro env M' ⟨rfl, b, rfl⟩
      simp [fdA_snoc]
  · rintro env M' ⟨rfl, a, b, rfl⟩
    have hks : ∀ k ∈ keysR (fdL Prod.mk rows (cutsG z t)), Row3 k := fun k hk => by
      obtain ⟨r, h1, c, h2, rfl⟩ := fd_key.mp hk
      exact addR_len (hr r h1) (cutsG_row hz ht c h2)
    have hg := m_greatest (keysR (fdL Prod.mk rows (cutsG z t))) (.ref (M.length + 1)) (M ++ [.lst ((cutsG z t).map rowD), .dic true (dicR wD (fdA Prod.mk (cutsG z t) rows))]) hks hfew (src_dic (emb := wD) (kvs := fdL Prod.mk rows (cutsG z t)) (by simp; rfl))
    simp [hg]
    refine to_map (grL (keysR (fdL Prod.mk rows (cutsG z t)))) (fun r => pairD wD (r, (lookR (fdL Prod.mk rows (cutsG z t)) r).getD ([], []))) rfl (by simp) (fun r hr => ?_) ?_
    · obtain ⟨v, h1, h2⟩ := lookR_of (grL_mem hr)
      have hx := ixx_dic (emb := wD) (kvs := fdL Prod.mk rows (cutsG z t)) (k := r) (v := v) (M := M ++ [.lst ((cutsG z t).map rowD), .dic true (dicR wD (fdA Prod.mk (cutsG z t) rows))]) (n := M.length + 1) (by simp; rfl) h1
      simp [hx, h1, pairD]
    · have hd := dict_pairs wD (wbL grL rows (cutsG z t)) (by
        have : keysR (wbL grL rows (cutsG z t)) = grL (keysR (fdL Prod.mk rows (cutsG z t))) := by
          unfold wbL keysR
          rw [List.map_map]
          exact List.map_id _
        rw [this]
        exact (gl_ok _).nd)
      have hl := grL_len (keysR (fdL Prod.mk rows (cutsG z t)))
      have e : (grL (keysR (fdL Prod.mk rows (cutsG z t)))).map (fun r => pairD wD (r, (lookR (fdL Prod.mk rows (cutsG z t)) r).getD ([], []))) = (wbL grL rows (cutsG z t)).map (pairD wD) := by
        simp [wbL]
      rw [e]
      have hl2 : (wbL grL rows (cutsG z t)).length ≤ sizeLine := by
        rw [show (wbL grL rows (cutsG z t)).length = (grL (keysR (fdL Prod.mk rows (cutsG z t)))).length by simp [wbL]]
        exact sz_of (by omega)
      simp [-List.map_map, hl2, hd]
end G84
set_option Elab.async false
set_option linter.all false
set_option maxRecDepth 100000
/-! G84R: whole_cut, most_pairs -/
namespace G84
open PySem PySem.Spec PyProof.Rows L2 Fl Sg
def wcS (s : List Int × List (List Int)) (k : List Int) : List Int × List (List Int) := (subR s.1 (minR k s.1), s.2 ++ [minR k s.1])
theorem wc_fold : ∀ (cut : List (List Int)) (left : List Int) (out : List (List Int)), (cut.foldl wcS (left, out)).2 = out ++ wcL left cut
  | [], left, out => by simp [wcL]
  | k :: cut, left, out => by
    rw [List.foldl_cons]
    show (cut.foldl wcS (subR left (minR k left), out ++ [minR k left])).2 = _
    rw [wc_fold cut]
    simp [wcL]
theorem wcS_len (cut : List (List Int)) : ∀ (s : List Int × List (List Int)), (∀ k ∈ cut, Row3 k) → Row3 s.1 → Row3 (cut.foldl wcS s).1 ∧ (cut.foldl wcS s).2.length = s.2.length + cut.length := by
  induction cut with
  | nil => intro s _ h; exact ⟨h, rfl⟩
  | cons k cut ih =>
    intro s hk h
    have := hk k List.mem_cons_self
    obtain ⟨h1, h2⟩ := ih (wcS s k) (fun x hx => hk x (List.mem_cons_of_mem _ hx)) (by simp [wcS, Row3, subR, minR, h, this])
    refine ⟨h1, ?_⟩
    rw [List.foldl_cons, h2]
    simp [wcS]; omega
theorem wc_row {left : List Int} : ∀ {cut : List (List Int)}, (∀ k ∈ cut, Row3 k) → (wcL left cut).length = cut.length := fun {cut} h => by
  induction cut generalizing left with
  | nil => rfl
  | cons k cut ih => simp [wcL, ih fun x hx => h x (List.mem_cons_of_mem _ hx)]
theorem tup_ref {M : Mem} {n : Nat} {xs : List D} (h : M[n]? = some (.lst xs)) : gTuple M [.ref n] = some (.v (.tup xs)) := by
  simp [gTuple, asT, h]
theorem m_whole_cut (t : List Part) (ht : TabOk t) (cut : List (List Int)) (h : ∀ k ∈ cut, Row3 k) (hl : cut.length ≤ 1000) (m : Int) (M : Mem) : F_whole_cut [tabD t, .lst (cut.map rowD), .int m] M = some (.v (cutD (wcL (needR t m) cut)), M) := by
  refine eq_of_to (to_fn ?_)
  unfold B_whole_cut
  simp [tabD]
  refine to_map t (fun p => .int (m * p.need)) rfl (by simp) (fun p hp => ?_) ?_
  · have hp := ht.all p hp
    have cm : CMul m p.need := cmul_r (by have := hp.n1; omega) (by have := hp.n2; omega)
    simp [partD, cm]
  · have e : t.map (fun p => D.int (m * p.need)) = (needR t m).map D.int := by simp [needR]
    rw [e]
    have hnl : (needR t m).length = 3 := needR_row ht m
    simp [hnl]
    refine to_go cut (fun pre env M' => ∃ E i j, M' = M ++ E ∧ j ≠ i ∧ E[i]? = some (.lst ((pre.foldl wcS (needR t m, [])).2.map rowD)) ∧ E[j]? = some (.lst ((pre.foldl wcS (needR t m, [])).1.map D.int)) ∧
      ∃ a b c d e, env = [some (tabD t), some (.lst (cut.map rowD)), some (.int m), some (.ref (M.length + j)), some (.ref (M.length + i)), a, b, c, d, e]) rfl ⟨_, 1, 0, rfl, by simp, rfl, rfl, _, _, _, _, _, rfl⟩ (fun _ _ _ _ => by trivial) ?_ ?_
    · rintro pre k post e env M' ⟨E, i, j, rfl, hj, g1, g2, a, b, c, d, e', rfl⟩
      have hk := h k (by rw [e]; simp)
      obtain ⟨w1, w2⟩ := wcS_len pre (needR t m, []) (fun x hx => h x (by rw [e]; simp [hx])) (needR_row ht m)
      generalize hs : pre.foldl wcS (needR t m, []) = s at g1 g2 w1 w2
      obtain ⟨left, out⟩ := s
      dsimp only at g1 g2 w1 w2
      have hpre : pre.length ≤ 1000 := by
        have := congrArg List.length e
        simp at this; omega
      simp [rowD, g2, hk, w1, zip_two]
      refine to_map (k.zip left) (fun q => .int (min q.1 q.2)) rfl (by simp [g2]) (fun q hq => ?_) ?_
      · simp [twoD]
      · have e1 : (k.zip left).map (fun q => D.int (min q.1 q.2)) = (minR k left).map D.int := zmap (fun x y : Int => min x y) D.int k left
        rw [e1]
        have hm : (minR k left).length = 3 := by simp [minR, hk, w1]
        simp [hm, gx g2, w1, zip_two]
        refine to_map (left.zip (minR k left)) (fun q => .int (q.1 - q.2)) rfl (by simp [gx g2]) (fun q hq => ?_) ?_
        · simp [twoD]
        · have e1 : (left.zip (minR k left)).map (fun q => D.int (q.1 - q.2)) = (subR left (minR k left)).map D.int := zmap (fun x y : Int => x - y) D.int left (minR k left)
          rw [e1]
          have hm2 : (subR left (minR k left)).length = 3 := by simp [subR, hm, w1]
          have ha := e_app (M := M ++ (E ++ [.lst ((minR k left).map D.int), .lst ((subR left (minR k left)).map D.int)])) (n := M.length + i) (xs := out.map rowD) (d := rowD (minR k left)) (by simp [gx g1]) (by rw [List.length_map]; exact sz_lt (by simp at w2; omega))
          rw [rowD] at ha
          have hi := (List.getElem?_eq_some_iff.mp g1).1
          have ht := tup_ref (M := M ++ (E ++ [.lst ((minR k left).map D.int), .lst ((subR left (minR k left)).map D.int)])) (n := M.length + E.length) (xs := (minR k left).map D.int) (by simp)
          simp [hm2, gx g1, ha, ht]
          refine ⟨i, E.length + 1, by omega, ?_, ?_, rfl, rfl⟩
          · rw [List.getElem?_set_self (by simp; omega), hs]
            simp [wcS, rowD]
          · rw [List.getElem?_set_ne (by omega), hs]
            simp [wcS, List.getElem?_append]
    · rintro env M' ⟨E, i, j, rfl, hj, g1, g2, a, b, c, d, e', rfl⟩
      rw [wc_fold, List.nil_append] at g1
      have ht := tup_ref (M := M ++ E) (n := M.length + i) (by rw [get_appn]; exact g1)
      simp [ht, cutD]
end G84
set_option Elab.async false
set_option linter.all false
set_option maxRecDepth 100000
/-! G84S: most_pairs -/
namespace G84
open PySem PySem.Spec PyProof.Rows L2 Fl Sg
@[simp high] theorem fz_dicR {β : Type} (emb : β → D) (st : List (List Int × β)) : (R.n (.dic true (dicR emb st))).fz = dicF emb st := rfl
@[simp] theorem p_dicF (st : Stt) : pureD (dicF wD st) = true := by
  simp only [dicF, pureD]
  exact pureO_wd true st
structure ZsOk (zs : List Zone) : Prop where
  all : ∀ z ∈ zs, ZoneOk z
  len : lenZ zs ≤ 36
  ne : zs ≠ []
theorem lenZ_app (a b : List Zone) : lenZ (a ++ b) = lenZ a + lenZ b := by simp [lenZ]
theorem lenZ_nn : ∀ {zs : List Zone}, (∀ z ∈ zs, ZoneOk z) → (zs.length : Int) ≤ lenZ zs
  | [], _ => by simp [lenZ]
  | z :: zs, h => by
    have h1 := lenZ_nn (zs := zs) fun y hy => h y (List.mem_cons_of_mem _ hy)
    have h2 := (h z List.mem_cons_self).lo
    have e : lenZ (z :: zs) = z.len + lenZ zs := by simp [lenZ]
    rw [e, List.length_cons]
    omega
theorem stp_few {t : List Part} (ht : TabOk t) {zs : List Zone} {sts : List Stt} {rows : List (List Int)} (h : Stp grL t zs sts rows) (hl : lenZ zs ≤ 36) : rows.length ≤ 1000 :=
  few h.nd fun r hr => (h.sub r hr).box ht hl
theorem Stp.keys3 {t : List Part} (ht : TabOk t) {gl : List (List Int) → List (List Int)} {zs : List Zone} {sts : List Stt} {rows : List (List Int)} (h : Stp gl t zs sts rows) : ∀ st ∈ sts, ∀ k ∈ keysR st, Row3 k := by
  induction h with
  | nil => intro st hst; cases hst
  | snoc h hz h1 ih =>
    intro st hst k hk
    rcases List.mem_append.mp hst with hst | hst
    · exact ih st hst k hk
    · rw [List.mem_singleton.mp hst] at hk
      exact (Stp.snoc h hz h1).row ht k hk
def stepD (st : Stt) : D := .tup ((sortR (keysR st)).map rowD)
def mpD (m : Int) (cut : List (List Int)) (sts : List Stt) : D := .tup [.int m, cutD cut, .tup (sts.map stepD)]
structure MpOk (zs : List Zone) (t : List Part) (m : Int) (cut : List (List Int)) (sts : List Stt) (rows : List (List Int)) : Prop where
  stp : Stp grL t zs sts rows
  max : (rows.map (prF t)).max? = some m
  fit : FitsAll zs t cut
  tot : totR cut = needR t m
  nn : 0 ≤ m
theorem m_most_pairs (zs : List Zone) (hz : ZsOk zs) (st gr : Int) (d : D) (t : List Part) (ht : TabOk t) (M : Mem) (hd : SkinAt M d zs st gr) : To (F_most_pairs [d, tabD t] M) fun p => ∃ m cut sts rows, MpOk zs t m cut sts rows ∧ p = (.v (mpD m cut sts), M) := by
  refine to_fn ?_
  unfold B_most_pairs
  have hzl := lenZ_nn hz.all
  have hz36 := hz.len
  simp [hd, asI_app hd]
  refine to_go zs (fun pre env M' => ∃ E i j sts rows, M' = M ++ E ∧ j ≠ i ∧ E[i]? = some (.lst (sts.map (dicF wD))) ∧ E[j]? = some (.lst (rows.map rowD)) ∧ Stp grL t pre sts rows ∧
    ∃ a, env = [some d, some (tabD t), some (.ref (M.length + i)), some (.ref (M.length + j)), a, none, none, none, none, none, none]) rfl ⟨_, 0, 1, [], [[0, 0, 0]], rfl, by simp, rfl, rfl, .nil, _, rfl⟩ (fun _ _ _ _ => by trivial) ?_ ?_
  · rintro pre z post e env M' ⟨E, i, j, sts, rows, rfl, hj, g1, g2, hs, a, rfl⟩
    have hz1 : ZoneOk z := hz.all z (by rw [e]; simp)
    have hl : lenZ (pre ++ [z]) ≤ 36 := by
      have h1 : lenZ zs = lenZ (pre ++ [z]) + lenZ post := by rw [e, ← lenZ_app]; simp
      have h2 := lenZ_nn (zs := post) fun y hy => hz.all y (by rw [e]; simp [hy])
      omega
    have hl1 : lenZ pre ≤ 36 := by
      have := lenZ_app pre [z]
      have h3 : lenZ [z] = z.len := by simp [lenZ]
      have := hz1.lo
      omega
    have hst : St1 t z rows (cutsG z t) (wbL grL rows (cutsG z t)) := wb_ok gl_ok fun k hk => (zcL_iff hz1 ht).mp (grL_mem hk)
    have hnew := Stp.snoc hs hz1 hst
    have hfew : (keysR (fdL Prod.mk rows (cutsG z t))).length ≤ 1000 := few (fd_ok _ _ _).nd fun s hs' => by
      obtain ⟨r, h1, k, h2, rfl⟩ := fd_key.mp hs'
      refine Reach.box ht hl ?_
      rw [Reach.snoc]
      exact ⟨r, k, hs.sub r h1, (zcL_iff hz1 ht).mp (grL_mem h2), rfl⟩
    have hw := m_ways_behind rows (hs.row ht) (by have := stp_few ht hs hl1; omega) z hz1 t ht (M ++ E) (M.length + j) (by rw [get_appn]; exact g2) (by omega)
    have hlen := hs.len
    have hpl : pre.length ≤ zs.length := by rw [e]; simp
    have ha := e_app (M := M ++ E) (n := M.length + i) (xs := sts.map (dicF wD)) (d := dicF wD (wbL grL rows (cutsG z t))) (by rw [get_appn]; exact g1) (by rw [List.length_map]; exact sz_lt (by omega))
    have hi := (List.getElem?_eq_some_iff.mp g1).1
    have hx := ixx_ref (M := M ++ E.set i (.lst (sts.map (dicF wD) ++ [dicF wD (wbL grL rows (cutsG z t))]))) (n := M.length + i) (ds := sts.map (dicF wD) ++ [dicF wD (wbL grL rows (cutsG z t))]) (i := -1) (by rw [get_appn, List.getElem?_set_self hi])
    simp [g1, hw, ha, hx, list_F]
    refine ⟨i, E.length, by omega, sts ++ [wbL grL rows (cutsG z t)], ?_, keysR (wbL grL rows (cutsG z t)), ?_, hnew, rfl, rfl⟩
    · rw [List.getElem?_append_left (by simpa using hi), List.getElem?_set_self hi]; simp
    · rw [show E.length = (E.set i (.lst (sts.map (dicF wD) ++ [dicF wD (wbL grL rows (cutsG z t))]))).length by simp]
      simp
  · rintro env M' ⟨E, i, j, sts, rows, rfl, hj, g1, g2, hs, a, rfl⟩
    have hrl := stp_few ht hs hz.len
    have hsz : rows.length ≤ sizeLine := sz_of (by omega)
    obtain ⟨m, hm, hm2, hm3⟩ := max_of (xs := rows.map (prF t)) (by simpa using hs.ne gl_ok ht)
    simp [g2]
    refine to_map rows (fun r => .int (prF t r)) rfl (by simp [g2]) (fun r hr => ?_) ?_
    · simp [m_pairs_for t ht r (hs.row ht r hr)]
    · have e : rows.map (fun r => D.int (prF t r)) = (rows.map (prF t)).map D.int := by simp
      rw [e]
      simp [-List.map_map, hsz, hm, g2]
      refine to_filter rows (fun r => decide (prF t r = m)) rowD rfl (by simp [g2]) (fun r hr => ?_) ?_
      · simp [m_pairs_for t ht r (hs.row ht r hr)]
      · obtain ⟨here, hh, he⟩ : ∃ here ∈ rows, (rows.filter fun r => decide (prF t r = m)).head? = some here ∧ prF t here = m := by
          obtain ⟨r, h1, h2⟩ := List.mem_map.mp hm2
          cases hf : rows.filter fun r => decide (prF t r = m) with
          | nil =>
            have : r ∈ rows.filter fun r => decide (prF t r = m) := List.mem_filter.mpr ⟨h1, by simpa using h2⟩
            rw [hf] at this; cases this
          | cons x xs =>
            have : x ∈ rows.filter fun r => decide (prF t r = m) := by rw [hf]; simp
            obtain ⟨h3, h4⟩ := List.mem_filter.mp this
            exact ⟨x, h3, rfl, by simpa using h4⟩
        have hat : atI ((rows.filter fun r => decide (prF t r = m)).map rowD) 0 = some (rowD here) := by
          cases hf : rows.filter fun r => decide (prF t r = m) with
          | nil => rw [hf] at he; cases he.1
          | cons x xs =>
            rw [hf] at he
            cases he.1
            exact atI0
        have hfl : (rows.filter fun r => decide (prF t r = m)).length ≤ sizeLine := Nat.le_trans (List.length_filter_le _ _) hsz
        obtain ⟨cs, b1, b2, b3⟩ := hs.back ht here hh
        have hi := (List.getElem?_eq_some_iff.mp g1).1
        have hcl := b2.len
        have hrow := b2.rows ht
        have hlen := hs.len
        simp [hat, hfl, revQ_ref (M := M ++ (E ++ [O.lst []])) (n := M.length + i) (by rw [get_appn]; exact gx g1)]
        refine to_go (emb := dicF wD) sts.reverse (fun pre env M' => ∃ E' c h cs1 cs2 x y, M' = M ++ E' ∧ E'[i]? = some (.lst (sts.map (dicF wD))) ∧ E'[c]? = some (.lst (cs1.map rowD)) ∧ i ≠ c ∧ Back h (sts.reverse.drop pre.length) cs2 ∧ cs = cs1 ++ cs2 ∧
          env = [some d, some (tabD t), some (.ref (M.length + i)), some (.ref (M.length + j)), a, some (.int m), some (rowD h), some (.ref (M.length + c)), x, y, none]) (by simp) ⟨_, E.length, here, [], cs, _, _, rfl, gx g1, by simp, by omega, b1, rfl, rfl⟩ (fun _ _ _ ⟨E', c, h, cs1, cs2, x, y, e1, e2, _⟩ => by rw [e1]; simp [e2]) ?_ ?_
        · rintro pre st post e2 env M' ⟨E', c, h, cs1, cs2, x, y, rfl, q1, q2, q3, q4, q5, rfl⟩
          rw [e2, List.drop_left] at q4
          cases q4 with
          | @cons _ p k _ _ cs3 q6 q7 =>
            have hx := ixx_F (emb := wD) (M := M ++ E') q6
            have hcs : cs1.length ≤ cs.length := by rw [q5]; simp
            have ha := e_app (M := M ++ E') (n := M.length + c) (xs := cs1.map rowD) (d := rowD k) (by rw [get_appn]; exact q2) (by rw [List.length_map]; exact sz_lt (by simp at hcl; omega))
            have hc := (List.getElem?_eq_some_iff.mp q2).1
            simp [hx, wD, q2, ha]
            refine ⟨?_, c, p, cs1 ++ [k], ?_, ?_, cs3, ?_, ?_, rfl, rfl⟩
            · rw [List.getElem?_set_ne (by omega)]; exact q1
            · rw [List.getElem?_set_self hc]; simp
            · omega
            · rw [e2, show pre ++ st :: post = (pre ++ [st]) ++ post by simp, show pre.length + 1 = (pre ++ [st]).length by simp, List.drop_left]; exact q7
            · rw [q5]; simp
        · rintro env M' ⟨E', c, h, cs1, cs2, x, y, rfl, q1, q2, q3, q4, q5, rfl⟩
          rw [List.drop_length] at q4
          cases q4
          rw [List.append_nil] at q5
          subst q5
          have hw := m_whole_cut t ht cs.reverse hrow (by simp at hcl ⊢; omega) m (M ++ E')
          rw [List.map_reverse] at hw
          simp [q2, hw, q1]
          refine to_map sts stepD rfl (by simp [q1]) (fun st hst => ?_) ?_
          · have hok : okR (keysR st) = true := List.all_eq_true.mpr fun k hk => by
              have := hs.keys3 ht st hst k hk
              cases k with
              | nil => cases this
              | cons _ _ => rfl
            simp [gSorted, src_F, hok, stepD]
          · have hmost := hs.most gl_ok ht hm
            have hnn : 0 ≤ m := by
              have := hmost.le _ (Reach.zero ht hz.all)
              obtain ⟨p, q, r, rfl, _⟩ := tab3 ht
              rw [prF3] at this
              simpa using this
            have hle : leR (needR t m) (totR cs.reverse) = true := by rw [b3]; exact need_le ht (hs.row ht here hh) m (by omega)
            obtain ⟨w1, w2⟩ := wc_ok ht b2 (needR_row ht m) (needR_nn ht hnn) hle
            have hs2 : sts.length ≤ sizeLine := sz_of (by omega)
            have hp : pureDs (sts.map stepD) = true := p_map fun st _ => by simp [stepD]
            have hp2 : pureD (cutD (wcL (needR t m) cs.reverse)) = true := by simp [cutD]
            simp [hs2, hp, hp2]
            exact ⟨m, _, sts, ⟨rows, hs, hm, w1, w2, hnn⟩, rfl⟩
end G84
set_option Elab.async false
set_option linter.all false
set_option maxRecDepth 100000
/-! G84T: most_holds -/
namespace G84
open PySem PySem.Spec PyProof.Rows L2 Fl Sg
theorem m_is_row (k : List Int) (hk : Row3 k) (M : Mem) : F_is_row [rowD k] M = some (.v (.bl (k.all fun i => decide (0 ≤ i))), M) := by
  refine eq_of_to (to_fn ?_)
  unfold B_is_row
  simp [rowD, hk]
  refine to_map k (fun i => .bl (decide (0 ≤ i))) rfl (by simp) (fun q hq => ?_) ?_
  · simp
  · have e : k.map (fun i => D.bl (decide (0 ≤ i))) = (k.map fun i => decide (0 ≤ i)).map D.bl := by simp
    simp [e, -List.map_map, hk]
structure RowOk (k : List Int) : Prop where
  row : Row3 k
  nn : ∀ i ∈ k, 0 ≤ i
def rowsT (rows : List (List Int)) : D := .tup (rows.map rowD)
theorem m_are_rows (rows : List (List Int)) (h : ∀ k ∈ rows, RowOk k) (hl : rows.length ≤ 1000000) (M : Mem) : F_are_rows [rowsT rows] M = some (.v (.bl true), M) := by
  refine eq_of_to (to_fn ?_)
  unfold B_are_rows
  have hs : rows.length ≤ sizeLine := sz_of hl
  simp [rowsT]
  refine to_map rows (fun i => .bl true) rfl (by simp) (fun k hk => ?_) ?_
  · have hn : (k.all fun i => decide (0 ≤ i)) = true := by simpa using (h k hk).nn
    simp [m_is_row k (h k hk).row, hn]
  · have e : rows.map (fun i => D.bl true) = (rows.map fun i => true).map D.bl := by simp
    simp [e, -List.map_map, hs]
structure PapOk (paper : List (List (List Int))) : Prop where
  row : ∀ rows ∈ paper, ∀ k ∈ rows, RowOk k
  few : ∀ rows ∈ paper, rows.length ≤ 1400
def papD (paper : List (List (List Int))) : D := .tup (paper.map rowsT)
theorem mhP_false {gl : List (List Int) → List (List Int)} {t : List Part} {l : List (Zone × List (List Int))} (h : (mhP gl t l).1 = false) : ∀ l', (mhP gl t (l ++ l')).1 = false := fun l' => by
  induction l' using snoc_ind with
  | h0 => rw [List.append_nil]; exact h
  | h1 l' x ih => rw [← List.append_assoc, mhP_snoc, mhS, ih]; rfl
theorem mhP_two (gl : List (List Int) → List (List Int)) (t : List Part) (l : List (Zone × List (List Int))) : (mhP gl t l).2 = [[0, 0, 0]] ∨ ∃ p ∈ l, (mhP gl t l).2 = p.2 := by
  induction l using snoc_ind with
  | h0 => exact .inl rfl
  | h1 l x ih => exact .inr ⟨x, by simp, by rw [mhP_snoc]; rfl⟩
theorem m_most_holds (zs : List Zone) (hz : ∀ z ∈ zs, ZoneOk z) (st gr : Int) (d : D) (t : List Part) (ht : TabOk t) (many : Int) (paper : List (List (List Int))) (hp : PapOk paper) (hl : paper.length = zs.length) (hzl : zs.length ≤ 1000) (M : Mem) (hd : SkinAt M d zs st gr) :
    F_most_holds [d, tabD t, .int many, papD paper] M = some (.v (.bl (mhL grL t zs paper many)), M) := by
  refine eq_of_to (to_fn ?_)
  unfold B_most_holds
  have hs : zs.length ≤ sizeLine := sz_of (by omega)
  simp [hd, m_Skin_len zs st gr d M hd, papD, hl]
  refine ⟨by omega, ?_⟩
  refine to_map paper (fun k => .bl true) rfl (by simp) (fun rows hr => ?_) ?_
  · simp [m_are_rows rows (hp.row rows hr) (by have := hp.few rows hr; omega)]
  · have e : paper.map (fun k => D.bl true) = (paper.map fun k => true).map D.bl := by simp
    have hrow : ∀ l : List (Zone × List (List Int)), (∀ p ∈ l, p ∈ zs.zip paper) → (∀ k ∈ (mhP grL t l).2, Row3 k) ∧ (mhP grL t l).2.length ≤ 1400 := fun l hl => by
      rcases mhP_two grL t l with h | ⟨p, h1, h2⟩
      · rw [h]; exact ⟨fun k hk => by rw [List.mem_singleton.mp hk]; rfl, by simp⟩
      · have := (List.of_mem_zip (hl p h1)).2
        rw [h2]; exact ⟨fun k hk => (hp.row _ this k hk).row, hp.few _ this⟩
    rw [e]
    simp [-List.map_map, hl, hs, hd, zip_two]
    refine to_go (zs.zip paper) (fun pre env M' => M' = M ∧ (mhP grL t pre).1 = true ∧ ∃ a b, env = [some d, some (tabD t), some (.int many), some (.tup (paper.map rowsT)), some (rowsT (mhP grL t pre).2), a, b, none]) rfl ⟨rfl, rfl, _, _, rfl⟩ (fun _ _ _ h => by trivial) ?_ ?_
    · rintro pre ⟨z, rows⟩ post e2 env M' ⟨rfl, h1, a, b, rfl⟩
      have hm := List.of_mem_zip (a := z) (b := rows) (by rw [e2]; simp)
      obtain ⟨q1, q2⟩ := hrow pre fun p hp => by rw [e2]; simp [hp]
      have hsb := m_sums_behind (mhP grL t pre).2 q1 q2 z (hz z hm.1) t ht M'
      have hlen : (sbL grL t (mhP grL t pre).2 z).length ≤ sizeLine := by
        have := fdA_len (fun _ _ => true) (cutsG_few (hz z hm.1) ht) (mhP grL t pre).2
        have e : (sbL grL t (mhP grL t pre).2 z).length = (fdA (fun _ _ => true) (cutsG z t) (mhP grL t pre).2).length := by simp [sbL, keysR]; rfl
        rw [e]
        exact sz_of (by omega)
      simp [twoD, rowsT, hsb]
      refine to_map (sbL grL t (mhP grL t pre).2 z) (fun s => .bl (rows.any (leR s))) rfl (by simp) (fun s hs' => ?_) ?_
      · obtain ⟨r, g1, k, g2, rfl⟩ := fd_key.mp hs'
        have h3 : Row3 (addR r k) := addR_len (q1 r g1) (cutsG_row (hz z hm.1) ht k g2)
        have := m_is_covered (addR r k) rows (.tup (rows.map rowD)) M' h3 (fun x hx => (hp.row rows hm.2 x hx).row) (.inr ⟨rfl, rfl⟩)
        simp [this]
      · have e : (sbL grL t (mhP grL t pre).2 z).map (fun s => D.bl (rows.any (leR s))) = ((sbL grL t (mhP grL t pre).2 z).map fun s => rows.any (leR s)).map D.bl := by simp
        rw [e]
        have e3 : mhP grL t (pre ++ [(z, rows)]) = ((mhP grL t pre).1 && (sbL grL t (mhP grL t pre).2 z).all fun r => rows.any (leR r), rows) := mhP_snoc
        rw [h1, Bool.true_and] at e3
        cases hc : (sbL grL t (mhP grL t pre).2 z).all fun r => rows.any (leR r) with
        | true =>
          rw [hc] at e3
          have hc2 : ((sbL grL t (mhP grL t pre).2 z).map fun s => rows.any (leR s)).all id = true := by rw [List.all_map]; exact hc
          simp only [e_allL, hc2, to_some, List.length_map, hlen, true_and]
          simp [e3, hlen, hc2, -List.map_map, -List.all_map]
        | false =>
          rw [hc] at e3
          have hc2 : ((sbL grL t (mhP grL t pre).2 z).map fun s => rows.any (leR s)).all id = false := by rw [List.all_map]; exact hc
          have hf : mhL grL t zs paper many = false := by
            unfold mhL
            rw [e2, show pre ++ (z, rows) :: post = (pre ++ [(z, rows)]) ++ post by simp, mhP_false (by rw [e3]), Bool.false_and]
          simp [hlen, hc2, -List.map_map, -List.all_map, hf]
    · rintro env M' ⟨rfl, h1, a, b, rfl⟩
      obtain ⟨q1, q2⟩ := hrow (zs.zip paper) fun p hp => hp
      simp [rowsT]
      refine to_map (mhP grL t (zs.zip paper)).2 (fun r => .bl (decide (prF t r ≤ many))) rfl (by simp) (fun r hr => ?_) ?_
      · simp [m_pairs_for t ht r (q1 r hr)]
      · have e : (mhP grL t (zs.zip paper)).2.map (fun r => D.bl (decide (prF t r ≤ many))) = ((mhP grL t (zs.zip paper)).2.map fun r => decide (prF t r ≤ many)).map D.bl := by simp
        have hl2 : (mhP grL t (zs.zip paper)).2.length ≤ sizeLine := sz_of (by omega)
        rw [e]
        simp [-List.map_map, hl2, mhL, h1]
end G84
set_option Elab.async false
set_option linter.all false
set_option maxRecDepth 100000
/-! G84X: a skin's text -/
namespace G84
open PySem PySem.Spec PyProof.Rows L2 Fl Sg
theorem asT_fzv (d : D) : (R.v d).fz = d := rfl
def nbL (w s : Str) (lo hi : Int) : Option (Option Int) :=
  if cutS w none (some 1) ≠ s then some none
  else if ¬ (1 ≤ (cutS w (some 1) none).length ∧ (cutS w (some 1) none).length ≤ 2) then some none
  else if ((cutS w (some 1) none).cps.toList.all fun c => decide (c ∈ ("0123456789" : Str).cps.toList)) = false then some none
  else (intText? (cutS w (some 1) none)).bind fun n => if Str.ofString n.repr ≠ cutS w (some 1) none ∨ ¬ (lo ≤ n ∧ n ≤ hi) then some none else some (some n)
theorem m_number_behind (w s : Str) (lo hi : Int) (o : Option Int) (hw : w.length ≤ 100) (h : nbL w s lo hi = some o) (hb : ∀ n, intText? (cutS w (some 1) none) = some n → 0 ≤ n ∧ n ≤ 1000000) (M : Mem) : F_number_behind [.str w, .str s, .int lo, .int hi] M = some (.v (optD o), M) := by
  refine eq_of_to (to_fn ?_)
  unfold B_number_behind
  have hwl : w.length ≤ sizeLine := sz_of (by omega)
  unfold nbL at h
  simp [gSl, hwl]
  by_cases h1 : cutS w none (some 1) = s
  · rw [if_neg (by simpa using h1)] at h
    simp [h1]
    by_cases h2 : 1 ≤ (cutS w (some 1) none).length ∧ (cutS w (some 1) none).length ≤ 2
    · rw [if_neg (by simpa using h2)] at h
      have z2 : (cutS w (some 1) none).length ≤ sizeLine := sz_of (by omega)
      have e1 : (1 : Int) ≤ ((cutS w (some 1) none).length : Int) := by omega
      have e2 : ((cutS w (some 1) none).length : Int) ≤ 2 := by omega
      generalize cutS w (some 1) none = figs at *
      simp [lenS z2, e1, e2]
      refine to_map figs.cps.toList (fun c => .bl (decide (c ∈ ("0123456789" : Str).cps.toList))) rfl (by simp) (fun c hc => ?_) ?_
      · simp [gInS]
      · have e : figs.cps.toList.map (fun c => D.bl (decide (c ∈ ("0123456789" : Str).cps.toList))) = (figs.cps.toList.map fun c => decide (c ∈ ("0123456789" : Str).cps.toList)).map D.bl := by simp
        have hl : figs.cps.toList.length ≤ sizeLine := by rw [show figs.cps.toList.length = figs.length by simp [Str.length]]; exact z2
        have ha : (figs.cps.toList.map fun c => decide (c ∈ ("0123456789" : Str).cps.toList)).all id = figs.cps.toList.all fun c => decide (c ∈ ("0123456789" : Str).cps.toList) := by rw [List.all_map]; rfl
        rw [e]
        simp only [e_allL, to_some, List.length_map, hl, true_and, ha]
        cases hA : figs.cps.toList.all fun c => decide (c ∈ ("0123456789" : Str).cps.toList) with
        | false =>
          rw [hA, if_pos rfl] at h
          cases h
          simp [optD]
        | true =>
          rw [hA, if_neg (by simp)] at h
          obtain ⟨n, hn, h⟩ := Option.bind_eq_some_iff.mp h
          obtain ⟨n0, n1⟩ := hb n hn
          have hlog := log_of n0 n1
          have hf : figs.length ≤ 640 := by omega
          simp [gInt, hf, hn, gStr, hlog]
          by_cases h3 : Str.ofString n.repr = figs
          · by_cases h4 : lo ≤ n
            · by_cases h5 : n ≤ hi
              · rw [if_neg (by simp [h3, h4, h5])] at h
                cases h
                simp [h3, h4, h5, optD]
              · rw [if_pos (by simp [h5])] at h
                cases h
                simp [h3, h4, h5, optD]
            · rw [if_pos (by simp [h4])] at h
              cases h
              simp [h3, h4, optD]
          · rw [if_pos (by simp [h3])] at h
            cases h
            simp [h3, optD]
    · rw [if_pos (by simpa using h2)] at h
      cases h
      have z2 : (cutS w (some 1) none).length ≤ sizeLine := by
        have : (cutS w (some 1) none).length ≤ w.length := by simp [cutS, Str.length]; omega
        omega
      generalize cutS w (some 1) none = figs at *
      simp [lenS z2, optD]
      by_cases h3 : (1 : Int) ≤ (figs.length : Int)
      · have : ¬ (figs.length : Int) ≤ 2 := by omega
        simp [h3, this]
      · simp [h3]
  · rw [if_pos h1] at h
    cases h
    simp [h1, optD]
end G84
namespace G84
open PySem PySem.Spec PyProof.Rows L2 Fl Sg
def numW (s : Str) (n : Nat) : Str := s ++ Str.ofString (Int.repr n)
theorem nb_ok : ∀ n < 42, nbL (numW "s" n) "s" 0 40 = (if n ≤ 40 then some (some (n : Int)) else some none) := by decide +kernel
theorem nb_g : ∀ n < 3, nbL (numW "g" n) "g" 0 2 = some (some (n : Int)) := by decide +kernel
theorem nb_a : ∀ n < 25, 1 ≤ n → nbL (numW "a" n) "a" 1 24 = some (some (n : Int)) := by decide +kernel
theorem nb_x : ∀ n < 25, 1 ≤ n → nbL (numW "x" n) "x" 1 24 = some (some (n : Int)) := by decide +kernel
theorem nb_xa : ∀ n < 25, nbL (numW "x" n) "a" 1 24 = some none := by decide +kernel
theorem it_ok : ∀ n < 42, (∀ s ∈ [("s" : Str), "g", "a", "x"], intText? (cutS (numW s n) (some 1) none) = some (n : Int) ∧ (numW s n).length ≤ 10 ∧ (32 : Nat) ∉ (numW s n).cps.toList) := by decide +kernel
end G84
set_option Elab.async false
set_option linter.all false
set_option maxRecDepth 100000
/-! G84Y: a skin written and read -/
namespace G84
open PySem PySem.Spec PyProof.Rows L2 Fl Sg
def sgS (g : Bool) : Str := if g then "x" else "a"
theorem m_sign_of (g : Bool) (M : Mem) : F_sign_of [grD g] M = some (.v (.str (sgS g)), M) := by
  refine eq_of_to (to_fn ?_)
  unfold B_sign_of
  cases g <;> simp [grD, sgS]
def zoneW (z : Zone) : Str := numW (sgS z.gr) z.len.toNat
theorem zone_fact {z : Zone} (hz : ZoneOk z) : z.len.toNat < 25 ∧ 1 ≤ z.len.toNat ∧ (z.len.toNat : Int) = z.len := by
  have := hz.lo
  have := hz.hi
  omega
theorem rep_few : ∀ n : Nat, n < 42 → (Str.ofString (Int.repr (n : Int))).length ≤ 5 := by decide +kernel
theorem m_zone_word (z : Zone) (hz : ZoneOk z) (M : Mem) : F_zone_word [zoneD z] M = some (.v (.str (zoneW z)), M) := by
  refine eq_of_to (to_fn ?_)
  unfold B_zone_word
  obtain ⟨h1, h2, h3⟩ := zone_fact hz
  have hl := rep_few z.len.toNat (by omega)
  rw [h3] at hl
  have hs : (sgS z.gr).length + (Str.ofString (Int.repr z.len)).length ≤ sizeLine := by
    have : (sgS z.gr).length ≤ 5 := by cases z.gr <;> decide
    exact sz_of (by omega)
  simp [zoneD, m_sign_of, strI (M := M) (show 0 ≤ z.len by omega) (show z.len ≤ 1000000 by omega), hs, zoneW, numW, h3]
theorem zw_fact (z : Zone) (hz : ZoneOk z) : nbL (zoneW z) (sgS z.gr) 1 24 = some (some z.len) ∧ (z.gr = true → nbL (zoneW z) "a" 1 24 = some none) ∧ intText? (cutS (zoneW z) (some 1) none) = some z.len ∧ (zoneW z).length ≤ 10 ∧ (32 : Nat) ∉ (zoneW z).cps.toList := by
  obtain ⟨h1, h2, h3⟩ := zone_fact hz
  have i1 := it_ok z.len.toNat (by omega)
  unfold zoneW
  cases hg : z.gr with
  | true =>
    obtain ⟨g1, g2, g3⟩ := i1 (sgS true) (by simp [sgS])
    rw [h3] at g1
    refine ⟨?_, fun _ => nb_xa _ h1, g1, g2, g3⟩
    have := nb_x _ h1 h2
    rw [h3] at this
    exact this
  | false =>
    obtain ⟨g1, g2, g3⟩ := i1 (sgS false) (by simp [sgS])
    rw [h3] at g1
    refine ⟨?_, (fun h => (by cases h)), g1, g2, g3⟩
    have := nb_a _ h1 h2
    rw [h3] at this
    exact this
theorem m_zone_read (z : Zone) (hz : ZoneOk z) (M : Mem) : F_zone_read [.str (zoneW z)] M = some (.v (zoneD z), M) := by
  refine eq_of_to (to_fn ?_)
  unfold B_zone_read
  obtain ⟨h1, h2, h3, h4, h5⟩ := zw_fact z hz
  have hb : ∀ n, intText? (cutS (zoneW z) (some 1) none) = some n → 0 ≤ n ∧ n ≤ 1000000 := fun n hn => by
    rw [h3] at hn; cases hn
    have := hz.lo
    have := hz.hi
    omega
  have s1 := m_sign_of false
  have s2 := m_sign_of true
  rw [show grD false = .str "along" from rfl] at s1
  rw [show grD true = .str "across" from rfl] at s2
  cases hg : z.gr with
  | false =>
    rw [hg] at h1
    have n1 := fun M => m_number_behind (zoneW z) (sgS false) 1 24 _ (by omega) h1 hb M
    simp [s1, n1, optD, zoneD, hg, grD, grS]
  | true =>
    rw [hg] at h1
    have n1 := fun M => m_number_behind (zoneW z) (sgS true) 1 24 _ (by omega) h1 hb M
    have n0 := fun M => m_number_behind (zoneW z) (sgS false) 1 24 _ (by omega) (h2 hg) hb M
    simp [s1, s2, n1, n0, optD, zoneD, hg, grD, grS]
/-! the text -/
def skinWs (zs : List Zone) (st gr : Nat) : List Str := zs.map zoneW ++ [numW "s" st, numW "g" gr]
def skinT (zs : List Zone) (st gr : Nat) : Str := Txt.join " " (skinWs zs st gr)
structure SgOk (st gr : Nat) : Prop where
  st : st ≤ 40
  gr : gr ≤ 2
theorem ws_fact {zs : List Zone} (hz : ∀ z ∈ zs, ZoneOk z) {st gr : Nat} (hs : SgOk st gr) : ∀ w ∈ skinWs zs st gr, w.length ≤ 10 ∧ (32 : Nat) ∉ w.cps.toList := fun w hw => by
  have := hs.st
  have := hs.gr
  rcases List.mem_append.mp hw with hw | hw
  · obtain ⟨z, h, rfl⟩ := List.mem_map.mp hw
    exact (zw_fact z (hz z h)).2.2.2
  · simp at hw
    rcases hw with rfl | rfl
    · exact (it_ok st (by omega) "s" (by simp)).2
    · exact (it_ok gr (by omega) "g" (by simp)).2
theorem sum_few {α : Type} {f : α → Nat} {k : Nat} : ∀ {xs : List α}, (∀ x ∈ xs, f x ≤ k) → (xs.map f).sum ≤ k * xs.length
  | [], _ => by simp
  | x :: xs, h => by
    have h1 := h x List.mem_cons_self
    have h2 := sum_few (f := f) (k := k) (xs := xs) fun y hy => h y (List.mem_cons_of_mem _ hy)
    simp only [List.map_cons, List.sum_cons, List.length_cons, Nat.mul_add]
    omega
theorem m_Skin_str (zs : List Zone) (hz : ∀ z ∈ zs, ZoneOk z) (hl : zs.length ≤ 100) (st gr : Nat) (hs : SgOk st gr) (d : D) (M : Mem) (hd : SkinAt M d zs st gr) : F_Skin___str__ [d] M = some (.v (.str (skinT zs st gr)), M) := by
  refine eq_of_to (to_fn ?_)
  unfold B_Skin___str__
  have := hs.st
  have := hs.gr
  have hsz : zs.length ≤ sizeLine := sz_of (by omega)
  have hl2 : zs.length + 2 ≤ sizeLine := sz_of (by omega)
  simp [hd]
  refine to_map zs (fun z => .str (zoneW z)) rfl (by simp) (fun z h => ?_) ?_
  · simp [m_zone_word z (hz z h)]
  · have hd2 : ∀ E, asI (M ++ E) d = _ := fun E => asI_app hd
    have ha := add_rl (M := M ++ [.lst ((zs.map zoneW).map D.str)]) (n := M.length) (xs := (zs.map zoneW).map D.str) (ys := [.str (numW "s" st), .str (numW "g" gr)]) (by simp) (by simpa using hl2)
    have hw := ws_fact hz hs
    have hsum := sum_few (f := fun w : Str => w.length) (k := 10) fun w h => (hw w h).1
    have hj := join_lst (M := M ++ [.lst ((zs.map zoneW).map D.str)]) (a := " ") (ys := skinWs zs st gr) (by
      have e1 : (skinWs zs st gr).length = zs.length + 2 := by simp [skinWs]
      have e2 : (" " : Str).length = 1 := by decide
      rw [e2]
      omega)
    have e : zs.map (fun z => D.str (zoneW z)) = (zs.map zoneW).map D.str := by simp
    have r1 := rep_few st (by omega)
    have r2 := rep_few gr (by omega)
    have c1 : ("s" : Str).length + (Str.ofString (Int.repr st)).length ≤ sizeLine := by
      rw [show ("s" : Str).length = 1 by decide]; exact sz_of (by omega)
    have c2 : ("g" : Str).length + (Str.ofString (Int.repr gr)).length ≤ sizeLine := by
      rw [show ("g" : Str).length = 1 by decide]; exact sz_of (by omega)
    have t1 := fun M : Mem => strI (M := M) (i := (st : Int)) (by omega) (by omega)
    have t2 := fun M : Mem => strI (M := M) (i := (gr : Int)) (by omega) (by omega)
    rw [e]
    simp [-List.map_map, hsz, hd2, t1, t2, c1, c2, isStr]
    rw [show Str.ofString "s" ++ Str.ofString (Int.repr st) = numW "s" st from rfl, show Str.ofString "g" ++ Str.ofString (Int.repr gr) = numW "g" gr from rfl]
    rw [show (skinWs zs st gr).map D.str = (zs.map zoneW).map D.str ++ [.str (numW "s" st), .str (numW "g" gr)] by simp [skinWs]] at hj
    simp [-List.map_map, ha, hj, skinT]
end G84
set_option Elab.async false
set_option linter.all false
set_option maxRecDepth 100000
/-! G84U: a skin made, read -/
namespace G84
open PySem PySem.Spec PyProof.Rows L2 Fl Sg
open Classical in
theorem tr_own {M : Mem} {n : Nat} {o : O} (hM : ∃ x, M[n]? = some x) (ho : pureO o = true) : trunc M (.v .non, M.set n o) = some (.v .non, M.set n o) := by
  unfold trunc
  rw [if_pos]
  · simp [okD, List.take_of_length_le]
  · intro m x hm hx
    by_cases e : m = n
    · subst e
      rw [List.getElem?_set_self hm] at hx
      cases hx
      exact .inr (pureO_ok ho)
    · rw [List.getElem?_set_ne (Ne.symm e)] at hx
      exact .inl hx
theorem m_Skin_init (z s g : D) (hz : pureD z = true) (hs : pureD s = true) (hg : pureD g = true) (M : Mem) (n : Nat) (hM : M[n]? = some (.ins "Skin" [])) : F_Skin___init__ [.ref n, z, s, g] M = some (.v .non, M.set n (.ins "Skin" [("zones", z), ("stretch", s), ("grade", g)])) := by
  refine eq_of_to (to_fn ?_)
  unfold B_Skin___init__
  have hn := (List.getElem?_eq_some_iff.mp hM).1
  have k1 : putD ("stretch" : Str) s [(("zones" : Str), z)] = [(("zones" : Str), z), (("stretch" : Str), s)] := rfl
  have k2 : putD ("grade" : Str) g [(("zones" : Str), z), (("stretch" : Str), s)] = [(("zones" : Str), z), (("stretch" : Str), s), (("grade" : Str), g)] := rfl
  have k0 : putD ("zones" : Str) z [] = [(("zones" : Str), z)] := rfl
  have gs : ∀ x, (M.set n x)[n]? = some x := fun x => List.getElem?_set_self hn
  have ht := tr_own (M := M) (n := n) (o := .ins "Skin" [("zones", z), ("stretch", s), ("grade", g)]) ⟨_, hM⟩ (by simp [pureO, hz, hs, hg])
  simp [hM, gs, k0, k1, k2, to_eq ht]
def mkS (ds : List D) (M : Mem) (P : R × Mem → Prop) : Prop := To (fNa 4 F_Skin___init__ (.ref M.length :: ds) (M ++ [.ins "Skin" []])) fun t => match t.1 with
  | .v .non => To (trunc M (.v (.ref M.length), t.2)) P
  | _ => False
@[simp ↓ high] theorem to_mkS (env : En) (M : Mem) (fr : FA) (dds : List D) (P : R × Mem → Prop) : To (fMk "Skin" 4 F_Skin___init__ dds fr env M) P = To (fr env M) fun p => mkS (p.1 ++ dds) p.2 P := by
  rw [to_mk]
  rfl
@[simp] theorem mkS_ok {z s g : D} (hz : pureD z = true) (hs : pureD s = true) (hg : pureD g = true) (M : Mem) (P : R × Mem → Prop) : mkS [z, s, g] M P = P (.n (.ins "Skin" [("zones", z), ("stretch", s), ("grade", g)]), M) := by
  unfold mkS
  have h := m_Skin_init z s g hz hs hg (M ++ [.ins "Skin" []]) M.length (by simp)
  rw [to_na]
  simp only [List.length_cons, List.length_nil, true_and]
  rw [to_eq h]
  dsimp only
  rw [set_app0]
  exact to_cut_r0 (by simp [pureO, hz, hs, hg])
theorem m_read_skin (zs : List Zone) (hz : ∀ z ∈ zs, ZoneOk z) (h1 : 1 ≤ zs.length) (h4 : zs.length ≤ 4) (st gr : Nat) (hs : SgOk st gr) (M : Mem) : F_read_skin [.str (skinT zs st gr)] M = some (.n (.ins "Skin" (skinF zs st gr)), M) := by
  refine eq_of_to (to_fn ?_)
  unfold B_read_skin
  have g1 := hs.st
  have g2 := hs.gr
  have hw := ws_fact hz hs
  have hsum := sum_few (f := fun w : Str => w.length) (k := 10) fun w h => (hw w h).1
  have e1 : (skinWs zs st gr).length = zs.length + 2 := by simp [skinWs]
  have e2 : (" " : Str).length = 1 := by decide
  have hsp : Txt.split (skinT zs st gr) " " = skinWs zs st gr := TL.split_join (s := 32) (S := []) (by decide) (by decide +kernel) (by intro e; rw [e] at e1; simp at e1) fun w h => (hw w h).2
  have hsl : gSplit M (.str (skinT zs st gr)) (.str " ") = some (.n (.lst ((skinWs zs st gr).map D.str))) := by
    have hl : (skinT zs st gr).length + 2 ≤ sizeLine := by
      have := join_len " " (skinWs zs st gr)
      rw [e2] at this
      unfold skinT
      exact sz_of (by omega)
    simp [gSplit, e2, hl, hsp]
  have e3 : (skinWs zs st gr).map D.str = (zs.map zoneW).map D.str ++ [.str (numW "s" st), .str (numW "g" gr)] := by simp [skinWs]
  rw [e3] at hsl
  have i1 := ixx_ref (M := M ++ [.lst ((zs.map zoneW).map D.str ++ [.str (numW "s" st), .str (numW "g" gr)])]) (n := M.length) (ds := (zs.map zoneW).map D.str ++ [.str (numW "s" st), .str (numW "g" gr)]) (i := -2) (by simp)
  have i2 := ixx_ref (M := M ++ [.lst ((zs.map zoneW).map D.str ++ [.str (numW "s" st), .str (numW "g" gr)])]) (n := M.length) (ds := (zs.map zoneW).map D.str ++ [.str (numW "s" st), .str (numW "g" gr)]) (i := -1) (by simp)
  rw [atI_m2] at i1
  rw [atI_m1] at i2
  have n1 : nbL (numW "s" st) "s" 0 40 = some (some (st : Int)) := by rw [nb_ok st (by omega), if_pos g1]
  have n2 : nbL (numW "g" gr) "g" 0 2 = some (some (gr : Int)) := nb_g gr (by omega)
  obtain ⟨p1, p2, p3⟩ := it_ok st (by omega) "s" (by simp)
  obtain ⟨q1, q2, q3⟩ := it_ok gr (by omega) "g" (by simp)
  have m1 := fun M => m_number_behind (numW "s" st) "s" 0 40 _ (by omega) n1 (fun n hn => by rw [p1] at hn; cases hn; omega) M
  have m2 := fun M => m_number_behind (numW "g" gr) "g" 0 2 _ (by omega) n2 (fun n hn => by rw [q1] at hn; cases hn; omega) M
  have hlen := len_ref (M := M ++ [.lst ((zs.map zoneW).map D.str ++ [.str (numW "s" st), .str (numW "g" gr)])]) (n := M.length) (xs := (zs.map zoneW).map D.str ++ [.str (numW "s" st), .str (numW "g" gr)]) (by simp)
  have hl2 : (3 : Int) ≤ (((zs.map zoneW).map D.str ++ [D.str (numW "s" st), D.str (numW "g" gr)]).length : Int) := by simp; omega
  have hl3 : (((zs.map zoneW).map D.str ++ [D.str (numW "s" st), D.str (numW "g" gr)]).length : Int) ≤ 6 := by simp; omega
  have hsz : zs.length ≤ sizeLine := sz_of (by omega)
  have hcut := cut_m2 (l := (zs.map zoneW).map D.str) (a := .str (numW "s" st)) (b := .str (numW "g" gr))
  generalize hws : (zs.map zoneW).map D.str ++ [.str (numW "s" st), .str (numW "g" gr)] = ws at *
  simp [isStr, hsl, hlen, hl2, hl3, i1, i2, m1, m2, optD, gSl, hcut]
  refine to_map zs zoneD (emb := fun z => .str (zoneW z)) (by simp) (by simp) (fun z h => ?_) ?_
  · simp [m_zone_read z (hz z h)]
  · have hp : pureDs (zs.map zoneD) = true := p_map fun z _ => by simp [zoneD, grD]
    have hp2 : pureO (.ins "Skin" [("zones", .tup (zs.map zoneD)), ("stretch", .int st), ("grade", .int gr)]) = true := by simp [pureO, hp]
    simp [hsz, hp, hp2, skinF]
end G84
set_option Elab.async false
set_option linter.all false
set_option maxRecDepth 100000
/-! G84L: the law's own search -/
namespace G84
open PySem PySem.Spec PyProof.Rows L2 Fl Sg
theorem m_given (t : List Part) (ht : TabOk t) (k : List Int) (hk : Row3 k) (M : Mem) : F__law_given [tabD t, rowD k] M = some (.v (.int (prF t k)), M) := by
  refine eq_of_to (to_fn ?_)
  unfold B__law_given
  simp [tabD, rowD, zip_two]
  refine to_map (k.zip t) (fun q => .int (q.1 / q.2.need)) rfl (by simp) (fun q hq => ?_) ?_
  · simp [twoD, partD, part_div ht (List.of_mem_zip hq).2]
  · simp [zpr, prL_len ht hk, prL_min ht hk]
theorem m_added (a b : List Int) (ha : Row3 a) (hb : Row3 b) (M : Mem) : F__law_added [rowD a, rowD b] M = some (.v (rowD (addR a b)), M) := by
  refine eq_of_to (to_fn ?_)
  unfold B__law_added
  have hl : (addR a b).length = 3 := addR_len ha hb
  have e : (a.zip b).map (fun p => D.int (p.1 + p.2)) = (addR a b).map D.int := zmap (fun x y : Int => x + y) D.int a b
  simp [rowD, zip_two]
  refine to_map (a.zip b) (fun q => .int (q.1 + q.2)) rfl (by simp) (fun q hq => ?_) ?_
  · simp [twoD]
  · rw [e]
    simp [hl]
theorem isN_opt (o : Option Int) (M : Mem) : gIsN false M (optD o) .non = some (.v (.bl o.isNone)) := by cases o <;> rfl
theorem eq_ac (g : Bool) (M : Mem) : gEq M (grD g) (.str "across") = some (.v (.bl g)) := by cases g <;> rfl
def posZ (t : List Part) (k : List Int) : List (Part × Int) := (t.zip k).filter fun q => decide (0 < q.2)
def lD (g : Bool) (q : Part × Int) : D := .tup [optD (q.1.long g), .int q.2]
theorem canZ_pos (g : Bool) (l : List (Part × Int)) : canZ g l = ((l.filter fun q => decide (0 < q.2)).filter fun q => (q.1.long g).isNone).isEmpty := by
  induction l with
  | nil => rfl
  | cons q l ih =>
    have e : canZ g (q :: l) = (((q.1.long g).isSome || decide (q.2 ≤ 0)) && canZ g l) := rfl
    rw [e, ih]
    by_cases h : 0 < q.2
    · have h2 : ¬ q.2 ≤ 0 := by omega
      cases hl : q.1.long g <;> simp [List.filter_cons, h, h2, hl]
    · have h2 : q.2 ≤ 0 := by omega
      simp [List.filter_cons, h, h2]
theorem usedZ_pos (g : Bool) (l : List (Part × Int)) : usedZ g l = ((l.filter fun q => decide (0 < q.2)).map fun q => q.2 * (q.1.long g).getD 0).sum := by
  induction l with
  | nil => rfl
  | cons q l ih =>
    have e : usedZ g (q :: l) = u1 (q.1.long g) q.2 + usedZ g l := by simp [usedZ]
    rw [e, ih]
    by_cases h : 0 < q.2
    · simp [List.filter_cons, h, u1]
    · simp [List.filter_cons, h, u1]
theorem m_fits (z : Zone) (t : List Part) (ht : TabOk t) (k : List Int) (hk : Row3 k) (M : Mem) : F__law_fits [zoneD z, tabD t, rowD k] M = some (.v (.bl (fitB z t k)), M) := by
  refine eq_of_to (to_fn ?_)
  unfold B__law_fits
  have hzl : (posZ t k).length ≤ 3 := by
    have := List.length_filter_le (fun q : Part × Int => decide (0 < q.2)) (t.zip k)
    have h3 : (t.zip k).length = 3 := by simp [ht.len, hk]
    unfold posZ
    omega
  have hp : ∀ q ∈ posZ t k, q.1 ∈ t := fun q hq => (List.of_mem_zip (a := q.1) (b := q.2) (List.mem_filter.mp hq).1).1
  simp [zoneD, eq_ac, tabD, rowD, zip_two]
  refine to_filter (t.zip k) (fun q => decide (0 < q.2)) (lD z.gr) rfl (by simp) (fun q hq => ?_) ?_
  · simp [twoD, grD]
    intro h0
    cases hg : z.gr <;> simp [partD, lD, Part.long]
  · have e : (t.zip k).filter (fun q => decide (0 < q.2)) = posZ t k := rfl
    have hs : (posZ t k).length ≤ sizeLine := sz_of (by omega)
    rw [e]
    simp [hs]
    refine to_filter (posZ t k) (fun q => (q.1.long z.gr).isNone) (fun _ => .non) rfl (by simp) (fun q hq => ?_) ?_
    · simp [lD, isN_opt]
      intro h; rw [h]; rfl
    · have hs2 : ((posZ t k).filter fun q => (q.1.long z.gr).isNone).length ≤ sizeLine := Nat.le_trans (List.length_filter_le _ _) hs
      have hne := fun M : Mem => ne_nil (M := M) (d := .lst (((posZ t k).filter fun q => (q.1.long z.gr).isNone).map fun _ => D.non)) (ds := ((posZ t k).filter fun q => (q.1.long z.gr).isNone).map fun _ => D.non) rfl (fun d hd => by obtain ⟨q, _, rfl⟩ := List.mem_map.mp hd; rfl)
      have hcan := canZ_pos z.gr (t.zip k)
      rw [e] at hcan
      have hused := usedZ_pos z.gr (t.zip k)
      rw [e] at hused
      cases hE : ((posZ t k).filter fun q => (q.1.long z.gr).isNone) with
      | cons x xs =>
        rw [hE] at hs2 hne hcan
        have hf : fitB z t k = false := by simp [fitB, can_zip, hcan]
        simp only [List.map_cons, List.map_nil] at hne
        simp at hs2
        simp [hs2, hne, hf]
      | nil =>
        rw [hE] at hne hcan
        have hN : ∀ q ∈ posZ t k, q.1.long z.gr ≠ none := fun q hq h => by
          have : q ∈ (posZ t k).filter fun q => (q.1.long z.gr).isNone := List.mem_filter.mpr ⟨hq, by rw [h]; rfl⟩
          rw [hE] at this; cases this
        simp only [List.map_nil] at hne
        simp [hne]
        refine to_map (posZ t k) (fun q => .int (q.2 * (q.1.long z.gr).getD 0)) rfl (by simp) (fun q hq => ?_) ?_
        · cases hl : q.1.long z.gr with
          | none => exact absurd hl (hN q hq)
          | some l =>
            obtain ⟨l1, l2⟩ := ((ht.all q.1 (hp q hq)).long z.gr).h l hl
            have cm : CMul l q.2 := cmul_l (by omega) (by omega)
            simp [lD, hl, optD, cm]
            rw [Int.mul_comm]
        · have e : (posZ t k).map (fun q => D.int (q.2 * (q.1.long z.gr).getD 0)) = ((posZ t k).map fun q => q.2 * (q.1.long z.gr).getD 0).map D.int := by simp
          rw [e]
          simp [-List.map_map, hs, fitB, can_zip, hcan, used_zip, hused]
end G84
set_option Elab.async false
set_option linter.all false
set_option maxRecDepth 100000
/-! G84K: counts, all sums -/
namespace G84
open PySem PySem.Spec PyProof.Rows L2 Fl Sg
def row3N (a b c : Nat) : List Int := [(a : Int), (b : Int), (c : Int)]
def lcB (z : Zone) (t : List Part) (a b : Nat) : List (List Int) := ((List.range (7 - a - b)).filter fun c => fitB z t (row3N a b c)).map (row3N a b)
def lcA (z : Zone) (t : List Part) (a : Nat) : List (List Int) := (List.range (7 - a)).flatMap (lcB z t a)
def lcL (z : Zone) (t : List Part) : List (List Int) := (List.range 7).flatMap (lcA z t)
theorem lcB_len (z : Zone) (t : List Part) (a b : Nat) : (lcB z t a b).length ≤ 7 := by
  have := List.length_filter_le (fun c => fitB z t (row3N a b c)) (List.range (7 - a - b))
  simp only [lcB, List.length_map, List.length_range] at this ⊢
  omega
theorem lcA_len (z : Zone) (t : List Part) (a : Nat) : (lcA z t a).length ≤ 49 := by
  have := flat_len (f := lcB z t a) (k := 7) (xs := List.range (7 - a)) fun b _ => lcB_len z t a b
  rw [List.length_range] at this
  unfold lcA
  omega
theorem lcL_len (z : Zone) (t : List Part) : (lcL z t).length ≤ 343 := by
  have := flat_len (f := lcA z t) (k := 49) (xs := List.range 7) fun b _ => lcA_len z t b
  rw [List.length_range] at this
  unfold lcL
  omega
theorem lcL_iff {z : Zone} (hz : ZoneOk z) {t : List Part} (ht : TabOk t) {k : List Int} : k ∈ lcL z t ↔ Fits z t k := by
  simp only [lcL, lcA, lcB, List.mem_flatMap, List.mem_map, List.mem_filter, List.mem_range]
  constructor
  · rintro ⟨a, ha, b, hb, c, ⟨hc, hf⟩, rfl⟩
    exact (fitB_iff (by simp [row3N, ht.len]) (by simp [row3N])).mp hf
  · intro h
    obtain ⟨a, b, c, rfl, h1, h2, h3, h4⟩ := used3 ht h
    have := hz.hi
    have e : row3N a.toNat b.toNat c.toNat = [a, b, c] := by simp [row3N]; omega
    refine ⟨a.toNat, by omega, b.toNat, by omega, c.toNat, ⟨by omega, ?_⟩, e⟩
    rw [e]
    exact (fitB_iff h.len h.nn).mpr h
theorem lcL_row {z : Zone} (hz : ZoneOk z) {t : List Part} (ht : TabOk t) : ∀ k ∈ lcL z t, Row3 k := fun k hk => by rw [Row3, ((lcL_iff hz ht).mp hk).len, ht.len]
theorem m_counts (z : Zone) (t : List Part) (ht : TabOk t) (M : Mem) : F__law_counts [zoneD z, tabD t] M = some (.n (.lst ((lcL z t).map rowD)), M) := by
  refine eq_of_to (to_fn ?_)
  unfold B__law_counts
  simp [okRg_of]
  refine to_go (emb := fun i : Nat => D.int (i : Int)) (List.range 7) (fun pre env M' => M' = M ++ [.lst ((pre.flatMap (lcA z t)).map rowD)] ∧ ∃ a b c, env = [some (zoneD z), some (tabD t), some (.ref M.length), a, b, c]) (by rfl) ⟨rfl, _, _, _, rfl⟩ (fun _ _ _ _ => by trivial) ?_ ?_
  · rintro pre a post e env M' ⟨rfl, x, y, w, rfl⟩
    have ha : a < 7 := List.mem_range.mp (by rw [e]; simp)
    have hpre : pre.length ≤ 7 := by
      have := congrArg List.length e
      simp at this; omega
    have hpl := flat_len (f := lcA z t) (k := 49) (xs := pre) fun b _ => lcA_len z t b
    simp
    refine ⟨okRg_of (by omega) (by omega), ?_⟩
    refine to_go (emb := fun i : Nat => D.int (i : Int)) (List.range (7 - a)) (fun pre2 env M' => M' = M ++ [.lst ((pre.flatMap (lcA z t) ++ pre2.flatMap (lcB z t a)).map rowD)] ∧ ∃ b c, env = [some (zoneD z), some (tabD t), some (.ref M.length), some (.int a), b, c]) rfl ⟨by simp, _, _, rfl⟩ (fun _ _ _ _ => by trivial) ?_ ?_
    · rintro pre2 b post2 e2 env M' ⟨rfl, y, w, rfl⟩
      have hb : b < 7 - a := List.mem_range.mp (by rw [e2]; simp)
      have hpre2 : pre2.length ≤ 7 := by
        have := congrArg List.length e2
        simp at this; omega
      have hpl2 := flat_len (f := lcB z t a) (k := 7) (xs := pre2) fun b _ => lcB_len z t a b
      have hbl := lcB_len z t a b
      simp
      refine ⟨okRg_of (by omega) (by omega), ?_⟩
      refine to_filter (emb := fun i : Nat => D.int (i : Int)) (List.range (7 - a - b)) (fun c => fitB z t (row3N a b c)) (fun c => rowD (row3N a b c)) rfl (by simp) (fun c hc => ?_) ?_
      · have hf := m_fits z t ht (row3N a b c) rfl
        rw [show rowD (row3N a b c) = .tup [.int a, .int b, .int c] from rfl] at hf
        simp [hf]
        intro _; rfl
      · have e3 : ((List.range (7 - a - b)).filter fun c => fitB z t (row3N a b c)).map (fun c => rowD (row3N a b c)) = (lcB z t a b).map rowD := by simp [lcB]
        rw [e3]
        have hs : (lcB z t a b).length ≤ sizeLine := sz_of (by omega)
        have hg := e_ext (M := M ++ [.lst ((pre.flatMap (lcA z t) ++ pre2.flatMap (lcB z t a)).map rowD)]) (n := M.length) (xs := (pre.flatMap (lcA z t) ++ pre2.flatMap (lcB z t a)).map rowD) (ys := (lcB z t a b).map rowD) (by simp) (by rw [List.length_map, List.length_map, List.length_append]; exact sz_of (by omega))
        simp only [List.map_append] at hg
        simp [hs, hg]
    · rintro env M' ⟨rfl, y, w, rfl⟩
      simp [lcA]
  · rintro env M' ⟨rfl, x, y, w, rfl⟩
    simp [lcL]
/-! all sums -/
theorem ixx_lkd {β : Type} {emb : β → D} {kvs : List (List Int × β)} {k : List Int} {v : β} {M : Mem} {n : Nat} (h : M[n]? = some (.lkd true (dicR emb kvs))) (hv : lookR kvs k = some v) : gIxx M (.ref n) (rowD k) = some (.v (emb v)) := by
  have : gIx M (.ref n) (rowD k) = none := by simp [gIx, rowD]
  simp [gIxx, this, gDix, asD, h, dlook_R, hv]
abbrev Asl := List (List Int × List (List Int))
structure AsOk (t : List Part) (zs : List Zone) (kvs : Asl) : Prop where
  nd : (keysR kvs).Nodup
  ent : ∀ e ∈ kvs, FitsAll zs t e.2 ∧ totR e.2 = e.1
  keys : ∀ s, s ∈ keysR kvs ↔ Reach t zs s
def asF (kvs : Asl) (r k : List Int) : List (List Int) := (lookR kvs r).getD [] ++ [k]
theorem AsOk.step {t : List Part} (ht : TabOk t) {zs : List Zone} {kvs : Asl} (h : AsOk t zs kvs) {z : Zone} (hz : ZoneOk z) : AsOk t (zs ++ [z]) (fdA (asF kvs) (lcL z t) (keysR kvs)) := by
  have F := fd_ok (asF kvs) (keysR kvs) (lcL z t)
  refine ⟨F.nd, fun e he => ?_, fun s => ?_⟩
  · obtain ⟨r, k, ⟨h1, h2⟩, rfl⟩ := F.ent e he
    obtain ⟨v, h3, h4⟩ := lookR_of h1
    obtain ⟨g1, g2⟩ := h.ent _ h4
    have hk := (lcL_iff hz ht).mp h2
    simp only [asF, h3, Option.getD_some]
    refine ⟨g1.snoc hk, ?_⟩
    rw [totR_snoc (g1.rows ht) (lcL_row hz ht k h2), g2]
  · rw [Reach.snoc, show (s ∈ keysR (fdA (asF kvs) (lcL z t) (keysR kvs))) ↔ _ from fd_key (f := asF kvs) (rows := keysR kvs) (cuts := lcL z t) (s := s)]
    constructor
    · rintro ⟨r, h1, k, h2, rfl⟩
      exact ⟨r, k, (h.keys r).mp h1, (lcL_iff hz ht).mp h2, rfl⟩
    · rintro ⟨r, k, h1, h2, rfl⟩
      exact ⟨r, (h.keys r).mpr h1, k, (lcL_iff hz ht).mpr h2, rfl⟩
theorem AsOk.few {t : List Part} (ht : TabOk t) {zs : List Zone} {kvs : Asl} (h : AsOk t zs kvs) (hl : lenZ zs ≤ 36) : kvs.length ≤ 1000 := by
  have := G84.few h.nd fun s hs => ((h.keys s).mp hs).box ht hl
  simpa [keysR] using this
theorem pureO_cd (b : Bool) (kvs : Asl) : pureO (.dic b (dicR cutD kvs)) = true := pureO_dic (fun v => by simp [cutD]) b kvs
theorem m_all_sums (zs : List Zone) (hz : ZsOk zs) (t : List Part) (ht : TabOk t) (M : Mem) : To (F__law_all_sums [.tup (zs.map zoneD), tabD t] M) fun p => ∃ kvs, AsOk t zs kvs ∧ p = (.n (.dic true (dicR cutD kvs)), M) := by
  refine to_fn ?_
  unfold B__law_all_sums
  have hzl := lenZ_nn hz.all
  have hz36 := hz.len
  simp [flatKeys, flatKey]
  refine to_go zs (fun pre env M' => ∃ E j kvs, M' = M ++ E ∧ E[j]? = some (.dic true (dicR cutD kvs)) ∧ AsOk t pre kvs ∧ ∃ a b c d e, env = [some (.tup (zs.map zoneD)), some (tabD t), some (.ref (M.length + j)), a, b, c, d, e]) rfl ⟨_, 0, [([0, 0, 0], [])], rfl, rfl, ⟨by simp [keysR], fun e he => by rw [List.mem_singleton.mp he]; exact ⟨.nil, rfl⟩, fun s => by simp [keysR]; rfl⟩, _, _, _, _, _, rfl⟩ (fun _ _ _ _ => by trivial) ?_ ?_
  · rintro pre z post e env M' ⟨E, j, kvs, rfl, g1, ok, a, b, c, d, e', rfl⟩
    have hz1 : ZoneOk z := hz.all z (by rw [e]; simp)
    have hl1 : lenZ pre ≤ 36 := by
      have h1 : lenZ zs = lenZ pre + lenZ (z :: post) := by rw [e, ← lenZ_app]
      have h2 := lenZ_nn (zs := z :: post) fun y hy => hz.all y (by rw [e]; simp [List.mem_cons.mp hy])
      omega
    have hkl := ok.few ht hl1
    have hcl := lcL_len z t
    have hj := (List.getElem?_eq_some_iff.mp g1).1
    have hpl : pre.length ≤ zs.length := by rw [e]; simp
    simp [m_counts z t ht, gx g1]
    rw [List.set_append_left _ _ hj]
    have q1 : (E.set j (.lkd true (dicR cutD kvs)))[j]? = some (.lkd true (dicR cutD kvs)) := List.getElem?_set_self hj
    rw [show E.length = (E.set j (.lkd true (dicR cutD kvs))).length by simp]
    generalize E.set j (.lkd true (dicR cutD kvs)) = E1 at q1
    have hfd := fdA_len (asF kvs) hcl
    have hkr : ∀ r ∈ keysR kvs, Row3 r := fun r hr => ((ok.keys r).mp hr).row ht
    have hkl2 : (keysR kvs).length ≤ 1000 := by simpa [keysR] using hkl
    refine to_go (keysR kvs) (fun pre1 env M' => M' = M ++ (E1 ++ [.dic true (dicR cutD (fdA (asF kvs) (lcL z t) pre1)), .lst ((lcL z t).map rowD)]) ∧
      ∃ x y, env = [some (.tup (zs.map zoneD)), some (tabD t), some (.ref (M.length + j)), some (zoneD z), some (.ref (M.length + E1.length)), some (.ref (M.length + (E1.length + 1))), x, y]) keys_dic ⟨rfl, _, _, rfl⟩ (fun _ _ _ h => by rw [h.1]; simp [gx q1]) ?_ ?_
    · rintro pre1 r post1 e1 env M' ⟨rfl, x, y, rfl⟩
      have hr : r ∈ keysR kvs := by rw [e1]; simp
      have hp1 : pre1.length ≤ 1000 := by
        have := congrArg List.length e1
        simp at this; omega
      have hacc := hfd pre1
      simp
      refine to_go (lcL z t) (fun pre2 env M' => M' = M ++ (E1 ++ [.dic true (dicR cutD (fdIn (asF kvs) r pre2 (fdA (asF kvs) (lcL z t) pre1))), .lst ((lcL z t).map rowD)]) ∧
        ∃ y, env = [some (.tup (zs.map zoneD)), some (tabD t), some (.ref (M.length + j)), some (zoneD z), some (.ref (M.length + E1.length)), some (.ref (M.length + (E1.length + 1))), some (rowD r), y]) rfl ⟨rfl, _, rfl⟩ (fun _ _ _ h => by rw [h.1]; simp) ?_ ?_
      · rintro pre2 k post2 e2 env M' ⟨rfl, y, rfl⟩
        have hk := lcL_row hz1 ht k (by rw [e2]; simp)
        have hl2 := fdIn_len (f := asF kvs) (r := r) (cuts := pre2) (acc := fdA (asF kvs) (lcL z t) pre1)
        have hpre2 : pre2.length ≤ 343 := by
          have := congrArg List.length e2
          simp at this; omega
        obtain ⟨v, h3, h4⟩ := lookR_of hr
        have hv : v.length = pre.length := (ok.ent _ h4).1.len
        have hvs : v.length + 1 ≤ sizeLine := sz_of (by omega)
        generalize hA : fdIn (asF kvs) r pre2 (fdA (asF kvs) (lcL z t) pre1) = A at hl2
        have hx := ixx_lkd (emb := cutD) (M := M ++ (E1 ++ [.dic true (dicR cutD A), .lst ((lcL z t).map rowD)])) (n := M.length + j) (by rw [get_appn]; exact gx q1) h3
        have hs := set_dic (emb := cutD) (kvs := A) (v := asF kvs r k) (k := addR r k) (M := M ++ (E1 ++ [.dic true (dicR cutD A), .lst ((lcL z t).map rowD)])) (n := M.length + E1.length) (by simp) (by rw [sizeLine_eq]; omega)
        rw [show cutD (asF kvs r k) = .tup (v.map rowD ++ [rowD k]) by simp [asF, h3, cutD]] at hs
        simp [hx, cutD, hvs, m_added r k (hkr r hr) hk, hs, fdIn_snoc, hA]
      · rintro env M' ⟨rfl, y, rfl⟩
        simp [fdA_snoc]
    · rintro env M' ⟨rfl, x, y, rfl⟩
      have hj1 := (List.getElem?_eq_some_iff.mp q1).1
      simp [gx q1]
      refine ⟨E1.length, fdA (asF kvs) (lcL z t) (keysR kvs), ?_, ok.step ht hz1, rfl⟩
      rw [List.set_append_left _ _ hj1]
      rw [show E1.length = (E1.set j (.dic true (dicR cutD kvs))).length by simp]
      simp
  · rintro env M' ⟨E, j, kvs, rfl, g1, ok, a, b, c, d, e', rfl⟩
    simp
    rw [to_cut_r g1 (pureO_cd _ _)]
    exact ⟨kvs, ok, rfl⟩
end G84
set_option Elab.async false
set_option linter.all false
set_option maxRecDepth 100000
/-! G84D: the deck -/
namespace G84
open PySem PySem.Spec PyProof.Rows L2 Fl Sg
theorem t_draw (d : Dk) (hd : d.ok) (E : Mem) (most : Int) (h0 : 0 < most) (h1 : most < 2 ^ 60) : To (F__law_draw [.ref 1, .int most] (d.m ++ E)) fun p => ∃ (v : Int) (d' : Dk), d'.ok ∧ 0 ≤ v ∧ v < most ∧ p = (.v (.int v), d'.m ++ E) := by
  refine to_fn ?_
  unfold B__law_draw
  obtain ⟨cs, s, c⟩ := d
  have hcd : ∀ i, CDivW i most := fun i => cdiv_of h0 (by omega)
  have hx1 : ∀ a b (X : Mem), gIxx (.lst a :: .lst b :: X) (.ref 1) = fun i => gIxx (.lst a :: .lst b :: X) (.ref 1) i := fun a b X => rfl
  have i2 : ∀ (xs : List D) (x y z : D) (X : Mem), gIxx (.lst xs :: .lst [x, y, z] :: X) (.ref 1) (.int 2) = some (.v z) := fun xs x y z X => by rw [ixx_ref (ds := [x, y, z]) rfl]; simp
  have i1 : ∀ (xs : List D) (x y z : D) (X : Mem), gIxx (.lst xs :: .lst [x, y, z] :: X) (.ref 1) (.int 1) = some (.v y) := fun xs x y z X => by rw [ixx_ref (ds := [x, y, z]) rfl]; simp
  have i0 : ∀ (xs : List D) (x y z : D) (X : Mem), gIxx (.lst xs :: .lst [x, y, z] :: X) (.ref 1) (.int 0) = some (.v x) := fun xs x y z X => by rw [ixx_ref (ds := [x, y, z]) rfl]; simp
  have s2 : ∀ (xs : List D) (x y z w : D) (X : Mem), gSet (.lst xs :: .lst [x, y, z] :: X) (.ref 1) (.int 2) w = some (.lst xs :: .lst [x, y, w] :: X) := fun xs x y z w X => by rw [setL (xs := [x, y, z]) rfl (by decide) (by simp)]; rfl
  have ne : ∀ (xs : List Int) (X : Mem), gNe (.lst (xs.map D.int) :: X) (.ref 0) (.lst []) = some (.v (.bl (!xs.isEmpty))) := fun xs X => by
    rw [ne_nil (ds := xs.map D.int) rfl (fun d hd => by obtain ⟨q, _, rfl⟩ := List.mem_map.mp hd; rfl)]
    simp
  have fin : ∀ (cs' : List Int) (h : cs'.length ≤ 63) (v : Int), To (trunc (Dk.m ⟨cs, s, c⟩ ++ E) (.v (.int (v % most)), Dk.m ⟨cs', s, c + 1⟩ ++ E)) (fun p => ∃ (v : Int) (d' : Dk), d'.ok ∧ 0 ≤ v ∧ v < most ∧ p = (.v (.int v), d'.m ++ E)) := fun cs' h v => by
    rw [to_cut_dk0 (by simp)]
    exact ⟨_, ⟨cs', s, c + 1⟩, h, (emod_in v h0).1, (emod_in v h0).2, rfl⟩
  simp only [Dk.ok] at hd
  rcases List.eq_nil_or_concat cs with rfl | ⟨cs, x, rfl⟩
  · simp only [Dk.m, List.cons_append, List.nil_append, List.map_nil] at fin ⊢
    have ne0 := fun X => ne [] X
    simp only [List.map_nil] at ne0
    have fin := fin []
    simp only [List.map_nil, List.length_nil, Nat.zero_le, true_implies] at fin
    simp [i0, i1, i2, s2, ne0, h0]
    exact fin _
  · simp only [List.concat_eq_append] at *
    have hp : ∀ X, gPop (.lst ((cs ++ [x]).map D.int) :: X) (.ref 0) [] = some (.v (.int x), .lst (cs.map D.int) :: X) := fun X => by
      rw [pop_ref (xs := cs.map D.int) (x := .int x) (by simp)]; rfl
    have ha : ∀ X w, gApp (.lst (cs.map D.int) :: X) (.ref 0) [.int w] = some (.v .non, .lst ((cs ++ [w]).map D.int) :: X) := fun X w => by
      rw [e_app (xs := cs.map D.int) rfl (by rw [List.length_map]; simp at hd; exact sz_lt (by omega))]
      simp
    have ne1 := fun X => ne (cs ++ [x]) X
    simp only [Dk.m, List.cons_append, List.nil_append] at fin ⊢
    generalize hL : (cs ++ [x]).map D.int = L at *
    have he : (cs ++ [x]).isEmpty = false := by simp
    rw [he] at ne1
    simp [i0, i1, i2, s2, ne1, hp, h0, hcd, ha]
    split
    · have := fin (cs ++ [x / most]) (by simpa using hd) x
      simpa using this
    · have := fin cs (by simp at hd; omega)
      exact this _
end G84
set_option Elab.async false
set_option linter.all false
set_option maxRecDepth 100000
/-! G84E: what is drawn -/
namespace G84
open PySem PySem.Spec PyProof.Rows L2 Fl Sg
theorem t_pick (d : Dk) (hd : d.ok) (E : Mem) (xs : List D) (hx : xs ≠ []) (hl : xs.length ≤ 1000000) (hp : pureDs xs = true) : To (F__law_pick [.ref 1, .lst xs] (d.m ++ E)) fun p => ∃ (v : D) (d' : Dk), d'.ok ∧ v ∈ xs ∧ p = (.v v, d'.m ++ E) := by
  refine to_fn ?_
  unfold B__law_pick
  have h0 : 0 < xs.length := List.length_pos_iff.mpr hx
  simp
  refine (t_draw d hd E xs.length (by omega) (by omega)).imp ?_
  rintro _ ⟨v, d', ok, h1, h2, rfl⟩
  have hv : v.toNat < xs.length := by omega
  have ha : atI xs v = some xs[v.toNat] := atI_ok h1 (List.getElem?_eq_getElem hv)
  have hpv : pureD xs[v.toNat] = true := pures_iff.mp hp _ (List.getElem_mem hv)
  simp [ha, hpv]
  exact ⟨_, d', ok, List.getElem_mem hv, rfl, rfl⟩
structure SzOk (zs : List Zone) : Prop extends ZsOk zs where
  few : zs.length ≤ 3
theorem t_small_zones (d : Dk) (hd : d.ok) (E : Mem) : To (F__law_small_zones [.ref 1] (d.m ++ E)) fun p => ∃ (zs : List Zone) (d' : Dk), d'.ok ∧ SzOk zs ∧ p = (.v (.tup (zs.map zoneD)), d'.m ++ E) := by
  refine to_fn ?_
  unfold B__law_small_zones
  simp
  refine (t_draw d hd E 4 (by decide) (by decide)).imp ?_
  rintro _ ⟨way, d1, ok1, w0, w1, rfl⟩
  simp
  refine (t_draw d1 ok1 _ 3 (by decide) (by decide)).imp ?_
  rintro _ ⟨n, d2, ok2, n0, n1, rfl⟩
  have hn : atI [D.int (1 + n), D.int 1] (if way = 2 then 1 else 0) = some (.int (if way = 2 then 1 else 1 + n)) := by split <;> simp
  simp [hn]
  refine ⟨okRg_of (by split <;> omega) (by split <;> omega), ?_⟩
  refine to_go (emb := fun i : Nat => D.int (i : Int)) (List.range (if way = 2 then 1 else 1 + n).toNat) (fun pre env M' => ∃ (d' : Dk) (zs : List Zone), M' = d'.m ++ (E ++ [.lst (zs.map zoneD)]) ∧ d'.ok ∧ zs.length = pre.length ∧ (∀ z ∈ zs, 1 ≤ z.len ∧ (if way = 2 then z.len = 24 else z.len ≤ 12)) ∧
    ∃ k, env = [some (.ref 1), some (.int way), some (.ref (2 + E.length)), k]) rfl ⟨d2, [], rfl, ok2, rfl, (fun _ h => nomatch h), _, rfl⟩ (fun _ _ _ _ => by trivial) ?_ ?_
  · rintro pre i post e env M' ⟨d3, zs, rfl, ok3, hl, hz, k, rfl⟩
    have hpl : pre.length ≤ 10 := by
      have := congrArg List.length e
      simp at this
      split at this <;> omega
    simp
    refine (t_pick d3 ok3 _ [.str "along", .str "across"] (by simp) (by simp) (by simp)).imp ?_
    rintro _ ⟨v, d4, ok4, hv, rfl⟩
    obtain ⟨g, rfl⟩ : ∃ g, v = grD g := by
      simp at hv
      rcases hv with rfl | rfl
      · exact ⟨false, rfl⟩
      · exact ⟨true, rfl⟩
    simp
    refine (t_draw d4 ok4 _ 12 (by decide) (by decide)).imp ?_
    rintro _ ⟨m, d5, ok5, m0, m1, rfl⟩
    have hm : atI [D.int (1 + m), D.int 24] (if way = 2 then 1 else 0) = some (.int (if way = 2 then 24 else 1 + m)) := by split <;> simp
    have ha := e_app (M := d5.m ++ (E ++ [.lst (zs.map zoneD)])) (n := 2 + E.length) (xs := zs.map zoneD) (d := zoneD ⟨g, if way = 2 then 24 else 1 + m⟩) (by rw [dk_get]; simp) (by rw [List.length_map]; exact sz_lt (by omega))
    rw [zoneD] at ha
    simp [hm, ha]
    refine ⟨d5, zs ++ [⟨g, if way = 2 then 24 else 1 + m⟩], by simp [zoneD], ok5, by simp [hl], fun z hz' => ?_⟩
    rcases List.mem_append.mp hz' with h | h
    · exact hz z h
    · rw [List.mem_singleton.mp h]
      show 1 ≤ (if way = 2 then 24 else 1 + m) ∧ if way = 2 then (if way = 2 then 24 else 1 + m) = 24 else (if way = 2 then 24 else 1 + m) ≤ 12
      by_cases hw : way = 2
      · simp [hw]
      · simp [hw]; omega
  · rintro env M' ⟨d3, zs, rfl, ok3, hl, hz, k, rfl⟩
    have ht := tup_ref (M := d3.m ++ (E ++ [.lst (zs.map zoneD)])) (n := 2 + E.length) (xs := zs.map zoneD) (by rw [dk_get]; simp)
    have hp : pureDs (zs.map zoneD) = true := p_map fun z _ => by simp [zoneD, grD]
    simp [ht, hp]
    refine ⟨zs, d3, ok3, ?_, rfl, rfl⟩
    have hzl : ∀ (c : Int) (ys : List Zone), (∀ z ∈ ys, z.len ≤ c) → lenZ ys ≤ c * ys.length := fun c ys => by
      induction ys with
      | nil => intro _; simp [lenZ]
      | cons y ys ih =>
        intro h
        have h1 := ih fun z hz => h z (List.mem_cons_of_mem _ hz)
        have h2 := h y List.mem_cons_self
        have e : lenZ (y :: ys) = y.len + lenZ ys := by simp [lenZ]
        rw [e, List.length_cons]
        push_cast
        rw [Int.mul_add]
        omega
    simp at hl
    by_cases hw : way = 2
    · simp [hw] at hl hz
      refine ⟨⟨fun z h => ⟨(hz z h).1, by have := (hz z h).2; omega⟩, ?_, ?_⟩, by omega⟩
      · have := hzl 24 zs fun z h => by have := (hz z h).2; omega
        rw [hl] at this
        omega
      · intro e; rw [e] at hl; simp at hl
    · simp [hw] at hl hz
      refine ⟨⟨fun z h => ⟨(hz z h).1, by have := (hz z h).2; omega⟩, ?_, ?_⟩, by omega⟩
      · have := hzl 12 zs fun z h => by have := (hz z h).2; omega
        have h3 : (zs.length : Int) ≤ 3 := by omega
        omega
      · intro e; rw [e] at hl; simp at hl; omega
theorem t_lengths (d : Dk) (hd : d.ok) (E : Mem) : To (F__law_lengths [.ref 1] (d.m ++ E)) fun p => ∃ (q : Part) (d' : Dk), d'.ok ∧ PartOk q ∧ p = (.v (partD q), d'.m ++ E) := by
  refine to_fn ?_
  unfold B__law_lengths
  simp
  refine (t_draw d hd E 6 (by decide) (by decide)).imp ?_
  rintro _ ⟨way, d1, ok1, w0, w1, rfl⟩
  simp
  refine (t_draw d1 ok1 E 5 (by decide) (by decide)).imp ?_
  rintro _ ⟨al, d2, ok2, a0, a1, rfl⟩
  simp
  refine (t_draw d2 ok2 E 5 (by decide) (by decide)).imp ?_
  rintro _ ⟨ac, d3, ok3, b0, b1, rfl⟩
  have fin : ∀ (d4 : Dk) (ok4 : d4.ok) (x : Int) (h4 : 4 ≤ x) (h24 : x ≤ 24), To (F__law_pick [.ref 1, .lst [.int 0, .int 0, .int 1, .int 1, .int 0, .int 3]] (d4.m ++ E)) fun p =>
      To (gAdd p.2 (.int 1) p.1.fz) fun r => To (trunc (d.m ++ E) (.v (.tup [optD (if way = 1 then none else some x), optD (if way = 2 then none else some (4 + ac)), r.fz]), p.2)) fun p => ∃ (q : Part) (d' : Dk), d'.ok ∧ PartOk q ∧ p = (.v (partD q), d'.m ++ E) := fun d4 ok4 x h4 h24 => by
    refine (t_pick d4 ok4 E [.int 0, .int 0, .int 1, .int 1, .int 0, .int 3] (by simp) (by simp) (by simp)).imp ?_
    rintro _ ⟨v, d5, ok5, hv, rfl⟩
    obtain ⟨n, rfl, n0, n1⟩ : ∃ n : Int, v = .int n ∧ 0 ≤ n ∧ n ≤ 3 := by
      simp at hv
      rcases hv with rfl | rfl | rfl | rfl
      · exact ⟨0, rfl, by omega, by omega⟩
      · exact ⟨1, rfl, by omega, by omega⟩
      · exact ⟨0, rfl, by omega, by omega⟩
      · exact ⟨3, rfl, by omega, by omega⟩
    simp
    refine ⟨⟨if way = 1 then none else some x, if way = 2 then none else some (4 + ac), 1 + n⟩, d5, ok5, ⟨⟨fun l h => ?_⟩, ⟨fun l h => ?_⟩, by show 1 ≤ 1 + n; omega, by show 1 + n ≤ 4; omega⟩, rfl, rfl⟩
    · dsimp only at h
      split at h
      · cases h
      · cases h; omega
    · dsimp only at h
      split at h
      · cases h
      · cases h; omega
  have e1 : ∀ x : Int, atI [D.int x, D.non] (if way = 1 then 1 else 0) = some (optD (if way = 1 then none else some x)) := fun x => by split <;> simp [optD]
  have e2 : ∀ x : Int, atI [D.int x, D.non] (if way = 2 then 1 else 0) = some (optD (if way = 2 then none else some x)) := fun x => by split <;> simp [optD]
  simp
  split
  · refine (t_draw d3 ok3 E 21 (by decide) (by decide)).imp ?_
    rintro _ ⟨x, d4, ok4, x0, x1, rfl⟩
    simp [e1, e2]
    exact fin d4 ok4 (4 + x) (by omega) (by omega)
  · simp [e1, e2]
    exact fin d3 ok3 (4 + al) (by omega) (by omega)
theorem t_table (d : Dk) (hd : d.ok) (E : Mem) : To (F__law_table [.ref 1] (d.m ++ E)) fun p => ∃ (t : List Part) (d' : Dk), d'.ok ∧ TabOk t ∧ p = (.v (tabD t), d'.m ++ E) := by
  refine to_fn ?_
  unfold B__law_table
  simp [okRg_of]
  refine to_lcI (emb := fun i : Nat => D.int (i : Int)) (List.range 3) (fun pre out M' => ∃ (t : List Part) (d' : Dk), d'.ok ∧ t.length = pre.length ∧ (∀ p ∈ t, PartOk p) ∧ out = t.map partD ∧ M' = d'.m ++ E) (by rfl) ⟨[], d, hd, rfl, (fun _ h => nomatch h), rfl, rfl⟩ (fun _ _ _ _ => by trivial) ?_ ?_
  · rintro pre i post e out M' ⟨t, d', ok, hl, ht, rfl, rfl⟩
    simp
    refine (t_lengths d' ok E).imp ?_
    rintro _ ⟨q, d2, ok2, hq, rfl⟩
    refine ⟨t ++ [q], d2, ok2, by simp [hl], fun p hp => ?_, by simp, rfl⟩
    rcases List.mem_append.mp hp with h | h
    · exact ht p h
    · rw [List.mem_singleton.mp h]; exact hq
  · rintro out M' ⟨t, d', ok, hl, ht, rfl, rfl⟩
    have h3 : t.length = 3 := by rw [hl]; rfl
    have hp : pureDs (t.map partD) = true := p_map fun q _ => by simp [partD]
    simp [h3, hp]
    exact ⟨t, d', ok, ⟨h3, ht⟩, rfl, rfl⟩
theorem t_deck (xs : List Int) : To (F__law_deck [.scr xs] []) fun p => ∃ d : Dk, d.ok ∧ p = (.n (.lst [.ref 0, .int d.s, .int d.c]), [.lst (d.cs.map D.int)]) := by
  refine to_fn0 ?_
  unfold B__law_deck
  have hc : cutL (xs.map D.int) none (some 63) = (xs.take 63).map D.int := by
    unfold cutL
    rw [HT.sIx_none, show (some (63 : Int)) = some ((63 : Nat) : Int) from rfl, HT.sIx_nat]
    simp [List.map_take]
  obtain ⟨ys, hy, hy2⟩ : ∃ ys : List Int, ys.length ≤ 63 ∧ cutL (xs.map D.int) none (some 63) = ys.map D.int := ⟨xs.take 63, by simp; omega, hc⟩
  have hs : ∀ M, gSl M (.scr xs) none (some 63) = some (.n (.lst (ys.map D.int))) := fun M => by
    simp [gSl, asLs, hy2]
  have hl : ∀ M, gList M [.lst (ys.map D.int)] = some (.n (.lst (ys.map D.int))) := fun M => rfl
  simp [hs, hl]
  refine to_map ys (fun c => .int (c % 1000003)) rfl (by simp) (fun q hq => ?_) ?_
  · simp
  · have e : ys.map (fun c => D.int (c % 1000003)) = (ys.map fun c => c % 1000003).map D.int := by simp
    have hsz : ys.length ≤ sizeLine := sz_of (by omega)
    rw [e]
    simp [-List.map_map, hsz]
    exact ⟨⟨ys.reverse, _, 0⟩, by show ys.reverse.length ≤ 63; simpa using hy, ⟨rfl, rfl⟩, by simp⟩
end G84
set_option Elab.async false
set_option linter.all false
set_option maxRecDepth 100000
/-! G84F: the told cut; papers bent -/
namespace G84
open PySem PySem.Spec PyProof.Rows L2 Fl Sg
theorem intsD_ok' (xs : List Int) : intsD (xs.map D.int) = some xs := i_ints xs
theorem m_cut_right (zs : List Zone) (st gr : Int) (d : D) (t : List Part) (ht : TabOk t) (m : Int) (cut : List (List Int)) (h : FitsAll zs t cut) (htot : totR cut = needR t m) (hl : zs.length ≤ 1000) (M : Mem) (hd : SkinAt M d zs st gr) :
    F__law_cut_right [d, tabD t, .int m, cutD cut] M = some (.v (.bl true), M) := by
  refine eq_of_to (to_fn ?_)
  unfold B__law_cut_right
  have hrow := h.rows ht
  have h1 := h.len
  have hpg : prF t (totR cut) = m := by rw [htot]; exact need_pr ht m
  have hwh : ((t.zip (totR cut)).all fun q => decide (q.2 = prF t (totR cut) * q.1.need)) = true := by rw [hpg, htot]; exact whole_need ht m
  have hur := used_rest t zs cut h1
  have hlr : (restA zs t cut).length = zs.length := by simp [restA, h1]
  simp [m_is_cut zs st gr d t ht cut h hl M hd, m_is_whole_cut t ht cut hrow (by omega) M, hwh, m_pairs_given t ht cut hrow (by omega) M, hpg, m_cuttings_of zs st gr d t ht cut h hl M hd, hd, m_Skin_len zs st gr d M hd, hlr, m_used_by zs st gr d t ht cut h hl M hd, m_length_of zs st gr d hl M hd, hur, -List.all_eq_true]
  exact ⟨by rw [hpg] at hwh; exact hwh, by omega⟩
theorem cutL_take {α : Type} (xs : List α) (k : Nat) : cutL xs none (some (k : Int)) = xs.take k := by
  unfold cutL
  rw [HT.sIx_none, HT.sIx_nat]
  simp only [Nat.sub_zero, List.drop_zero]
  rcases Nat.le_total k xs.length with h | h
  · rw [Nat.min_eq_left h]
  · rw [Nat.min_eq_right h, List.take_of_length_le (Nat.le_refl _), List.take_of_length_le h]
theorem cutL_drop {α : Type} (xs : List α) (k : Nat) : cutL xs (some (k : Int)) none = xs.drop k := by
  unfold cutL
  rw [HT.sIx_none, HT.sIx_nat]
  rcases Nat.le_total k xs.length with h | h
  · rw [Nat.min_eq_left h, List.take_of_length_le (by simp)]
  · rw [Nat.min_eq_right h]
    simp [List.drop_of_length_le h]
theorem popAt_ref {M : Mem} {n k : Nat} {xs : List D} (h : M[n]? = some (.lst xs)) (hk : k < xs.length) (hs : xs.length ≤ 1000000) : gPopAt M (.ref n) [.int k] = some (.v xs[k], M.set n (.lst (xs.eraseIdx k))) := by
  have h1 : seqIndex? (k : Int) xs.length = some k := by
    unfold seqIndex?
    simp
    omega
  have h2 : -(2 ^ 63 : Int) ≤ k ∧ (k : Int) < 2 ^ 63 := by omega
  simp only [gPopAt, h, if_pos h2, h1, Option.bind_some, List.getElem?_eq_getElem hk, Option.map_some]
def bentR (row : List Int) (part : Nat) (x : Int) : List Int := row.take part ++ [x] ++ row.drop (part + 1)
theorem bent_ok {row : List Int} (h : RowOk row) {part : Nat} (hp : part < 3) {x : Int} (hx : 0 ≤ x) : RowOk (bentR row part x) := by
  have hl : row.length = 3 := h.row
  refine ⟨by simp [Row3, bentR, hl]; omega, fun i hi => ?_⟩
  simp only [bentR, List.append_assoc, List.mem_append, List.mem_singleton] at hi
  rcases hi with hi | hi | hi
  · exact h.nn i (List.mem_of_mem_take hi)
  · rw [hi]; exact hx
  · exact h.nn i (List.mem_of_mem_drop hi)
structure TolOk (paper : List (List (List Int))) : Prop where
  row : ∀ rows ∈ paper, ∀ k ∈ rows, RowOk k
  few : ∀ rows ∈ paper, rows.length ≤ 1000
  ne : ∀ rows ∈ paper, rows ≠ []
theorem row999 : RowOk [9, 9, 9] := ⟨rfl, by simp⟩
set_option maxHeartbeats 2000000 in
theorem t_bent (d : Dk) (hd : d.ok) (E : Mem) (paper other : List (List (List Int))) (hp : TolOk paper) (hne : paper ≠ []) (hpl : paper.length ≤ 1000) (ho : PapOk other) (hol : other.length = paper.length) :
    To (F__law_bent [.ref 1, papD paper, papD other] (d.m ++ E)) fun p => ∃ (pp : List (List (List Int))) (d' : Dk), d'.ok ∧ PapOk pp ∧ pp.length = paper.length ∧ p = (.v (papD pp), d'.m ++ E) := by
  refine to_fn ?_
  unfold B__law_bent
  have h0 : 0 < paper.length := List.length_pos_iff.mpr hne
  have pure_row : ∀ rows : List (List Int), pureD (rowsT rows) = true := fun rows => by simp [rowsT]
  have pure_pap : ∀ pp : List (List (List Int)), pureD (papD pp) = true := fun pp => by
    simp only [papD, pureD]
    exact p_map fun r _ => pure_row r
  simp
  refine (t_draw d hd E 4 (by decide) (by decide)).imp ?_
  rintro _ ⟨way, d1, ok1, w0, w1, rfl⟩
  have hlp : ∀ M, gLen M [papD paper] = some (.v (.int paper.length)) := fun M => by simp [papD]
  simp [hlp]
  refine (t_draw d1 ok1 E paper.length (by omega) (by omega)).imp ?_
  rintro _ ⟨at', d2, ok2, a0, a1, rfl⟩
  obtain ⟨a, rfl⟩ : ∃ a : Nat, at' = (a : Int) := ⟨at'.toNat, by omega⟩
  have ha : a < paper.length := by omega
  have hix : ∀ M, gIxx M (papD paper) (.int (a : Int)) = some (.v (rowsT paper[a])) := fun M => by
    rw [papD, ixx_tup, atI_map, atI_get ha]
    rfl
  have hs1 : ∀ M, gSl M (papD paper) none (some (a : Int)) = some (.v (papD (paper.take a))) := fun M => by
    rw [papD, Fl.sl_tup, cutL_take]
    simp [papD]
  have hs2 : ∀ M, gSl M (papD paper) (some ((a : Int) + 1)) none = some (.v (papD (paper.drop (a + 1)))) := fun M => by
    rw [papD, Fl.sl_tup, show ((a : Int) + 1) = ((a + 1 : Nat) : Int) by omega, cutL_drop]
    simp [papD]
  have hmem : paper[a] ∈ paper := List.getElem_mem ha
  have hrow := hp.row _ hmem
  have hfew := hp.few _ hmem
  have hrne := List.length_pos_iff.mpr (hp.ne _ hmem)
  have fin : ∀ (d3 : Dk) (ok3 : d3.ok) (E' : Mem) (rows : List (List Int)) (hr : ∀ k ∈ rows, RowOk k) (hf : rows.length ≤ 1400), To (gAdd (d3.m ++ (E ++ E')) (papD (paper.take a)) (.tup [.tup (rows.map rowD)])) fun r => To (gAdd (d3.m ++ (E ++ E')) r.fz (papD (paper.drop (a + 1)))) fun r => To (trunc (d.m ++ E) (r, d3.m ++ (E ++ E'))) fun p => ∃ (pp : List (List (List Int))) (d' : Dk), d'.ok ∧ PapOk pp ∧ pp.length = paper.length ∧ p = (.v (papD pp), d'.m ++ E) := fun d3 ok3 E' rows hr hf => by
    have z1 : (paper.take a).length + 1 ≤ sizeLine := sz_of (by simp; omega)
    have z2 : (paper.take a).length + 1 + (paper.drop (a + 1)).length ≤ sizeLine := sz_of (by simp; omega)
    have e : D.tup ((paper.take a).map rowsT ++ [.tup (rows.map rowD)] ++ (paper.drop (a + 1)).map rowsT) = papD (paper.take a ++ rows :: paper.drop (a + 1)) := by
      simp [papD, rowsT]
    simp only [papD, e_addT, List.length_map, List.length_cons, List.length_nil, Nat.zero_add, if_pos z1, to_some, e_fzv, List.length_append, if_pos z2]
    rw [e, to_cut_dk (pure_pap _)]
    refine ⟨_, d3, ok3, ⟨fun r hr' => ?_, fun r hr' => ?_⟩, by simp; omega, rfl⟩
    · rcases List.mem_append.mp hr' with h | h
      · exact hp.row r (List.mem_of_mem_take h)
      · rcases List.mem_cons.mp h with rfl | h
        · exact hr
        · exact hp.row r (List.mem_of_mem_drop h)
    · rcases List.mem_append.mp hr' with h | h
      · have := hp.few r (List.mem_of_mem_take h); omega
      · rcases List.mem_cons.mp h with rfl | h
        · exact hf
        · have := hp.few r (List.mem_of_mem_drop h); omega
  generalize paper[a] = rows at hix hmem hrow hfew hrne
  simp [hix, rowsT, len_rf]
  refine (t_draw d2 ok2 _ rows.length (by omega) (by omega)).imp ?_
  rintro _ ⟨k', d3, ok3, k0, k1, rfl⟩
  obtain ⟨k, rfl⟩ : ∃ k : Nat, k' = (k : Int) := ⟨k'.toNat, by omega⟩
  have hk : k < rows.length := by omega
  simp
  refine (t_draw d3 ok3 _ 3 (by decide) (by decide)).imp ?_
  rintro _ ⟨p', d4, ok4, p0, p1, rfl⟩
  obtain ⟨part, rfl⟩ : ∃ part : Nat, p' = (part : Int) := ⟨p'.toNat, by omega⟩
  have hpart : part < 3 := by omega
  simp
  split
  · have := to_cut_dk (d := d) (d' := d4) (E := E) (E' := [.lst (rows.map rowD)]) (P := fun p => ∃ (pp : List (List (List Int))) (d' : Dk), d'.ok ∧ PapOk pp ∧ pp.length = paper.length ∧ p = (.v (papD pp), d'.m ++ E)) (pure_pap other)
    rw [this]
    exact ⟨other, d4, ok4, ho, hol, rfl⟩
  · split
    · rename_i hw0 hw1
      have hpop := popAt_ref (M := d4.m ++ (E ++ [.lst (rows.map rowD)])) (n := 2 + E.length) (k := k) (xs := rows.map rowD) (by rw [dk_get]; simp) (by simpa using hk) (by simp; omega)
      have e2 : (rows.map rowD).eraseIdx k = (rows.eraseIdx k).map rowD := by
        rw [List.eraseIdx_eq_take_drop_succ, List.eraseIdx_eq_take_drop_succ, List.map_append, List.map_take, List.map_drop]
      rw [e2] at hpop
      simp [hpop, hw1, hs1, hs2, tup_rf]
      exact fin d4 ok4 _ (rows.eraseIdx k) (fun r hr => hrow r (List.mem_of_mem_eraseIdx hr)) (by have := List.length_eraseIdx_le rows k; omega)
    · rename_i hw0 hw1
      have hik : atI (rows.map rowD) (k : Int) = some (rowD rows[k]) := by rw [atI_map, atI_get hk]; rfl
      have hrk : RowOk rows[k] := hrow _ (List.getElem_mem hk)
      have hset : ∀ r, (rows.map rowD).set k (rowD r) = (rows.set k r).map rowD := fun r => by rw [List.map_set]
      have hmem2 : ∀ r x, x ∈ rows.set k r → x ∈ rows ∨ x = r := fun r x hx => List.mem_or_eq_of_mem_set hx
      generalize rows[k] = row at hik hrk
      have hl3 : row.length = 3 := hrk.row
      have hrp : ∀ M, gIxx M (rowD row) (.int (part : Int)) = some (.v (.int (row.getD part 0))) := fun M => by
        rw [rowD, ixx_tup, at_row hrk.row hpart]; rfl
      have hr1 : ∀ M, gSl M (rowD row) none (some (part : Int)) = some (.v (rowD (row.take part))) := fun M => by
        rw [rowD, Fl.sl_tup, cutL_take]
        simp [rowD]
      have hr2 : ∀ M, gSl M (rowD row) (some ((part : Int) + 1)) none = some (.v (rowD (row.drop (part + 1)))) := fun M => by
        rw [rowD, Fl.sl_tup, show ((part : Int) + 1) = ((part + 1 : Nat) : Int) by omega, cutL_drop]
        simp [rowD]
      have hadd : ∀ (M : Mem) (x : Int), To (gAdd M (rowD (row.take part)) (.tup [.int x])) (fun r => To (gAdd M r.fz (rowD (row.drop (part + 1)))) fun r => r = .v (rowD (bentR row part x))) := fun M x => by
        have z1 : (row.take part).length + 1 ≤ sizeLine := sz_of (by simp; omega)
        have z2 : (row.take part).length + 1 + (row.drop (part + 1)).length ≤ sizeLine := sz_of (by simp; omega)
        simp only [rowD, e_addT, List.length_map, List.length_cons, List.length_nil, Nat.zero_add, if_pos z1, to_some, e_fzv, List.length_append, if_pos z2]
        simp [bentR]
      simp [ixx_rf, hik, hrp]
      refine (t_draw d4 ok4 _ 4 (by decide) (by decide)).imp ?_
      rintro _ ⟨v, d5, ok5, v0, v1, rfl⟩
      obtain ⟨y, hy⟩ : ∃ y : Int, atI [D.int 1, D.int 2, D.int 6, D.int (-1)] v = some (.int y) := by
        have : v = 0 ∨ v = 1 ∨ v = 2 ∨ v = 3 := by omega
        rcases this with rfl | rfl | rfl | rfl
        · exact ⟨_, rfl⟩
        · exact ⟨_, rfl⟩
        · exact ⟨_, rfl⟩
        · exact ⟨_, rfl⟩
      simp [hy, ixx_rf, hik, hr1, hr2]
      have hx0 : 0 ≤ max 0 (row[part]?.getD 0 + y) := by omega
      generalize max 0 (row[part]?.getD 0 + y) = x at hx0 ⊢
      have hb := bent_ok hrk hpart hx0
      refine (hadd _ x).imp fun r h => h.imp fun r2 h2 => ?_
      subst h2
      have hkN : ixN rows.length (k : Int) = some k := ixN_nat hk
      have hall : ∀ z ∈ rows.set k (bentR row part x), RowOk z := fun z hz => by
        rcases hmem2 _ z hz with h | h
        · exact hrow z h
        · rw [h]; exact hb
      simp [-List.map_set, set_rf, hkN, hset]
      split
      · have hz : rows.length + 1 ≤ sizeLine := sz_of (by omega)
        simp [-List.map_set, add_rf, hz, hs1, hs2, tup_rf]
        have := fin d5 ok5 [.lst ((rows.set k (bentR row part x)).map rowD), .lst ((rows.set k (bentR row part x) ++ [[9, 9, 9]]).map rowD)] (rows.set k (bentR row part x) ++ [[9, 9, 9]]) (fun z hz => by
          rcases List.mem_append.mp hz with h | h
          · exact hall z h
          · rw [List.mem_singleton.mp h]; exact row999) (by simp; omega)
        simpa [-List.map_set, rowD] using this
      · simp [-List.map_set, hs1, hs2, tup_rf]
        exact fin d5 ok5 _ _ hall (by simp; omega)
end G84
set_option Elab.async false
set_option linter.all false
set_option maxRecDepth 100000
/-! G84G: the law's question of one skin -/
namespace G84
open PySem PySem.Spec PyProof.Rows L2 Fl Sg
def toldP (sts : List Stt) : List (List (List Int)) := sts.map fun st => sortR (keysR st)
theorem told_D (sts : List Stt) : D.tup (sts.map stepD) = papD (toldP sts) := by simp [papD, toldP, stepD, rowsT, Function.comp_def]
theorem keys_box {t : List Part} (ht : TabOk t) {zs : List Zone} {sts : List Stt} {rows : List (List Int)} (h : Stp grL t zs sts rows) (hl : lenZ zs ≤ 36) : ∀ st ∈ sts, (keysR st).Nodup ∧ keysR st ≠ [] ∧ ∀ k ∈ keysR st, Box k := by
  induction h with
  | nil => intro st hst; cases hst
  | @snoc zs sts rows z st h hz h1 ih =>
    intro st' hst
    have hl1 : lenZ zs ≤ 36 := by
      have := lenZ_app zs [z]
      have h3 : lenZ [z] = z.len := by simp [lenZ]
      have := hz.lo
      omega
    rcases List.mem_append.mp hst with hst | hst
    · exact ih hl1 st' hst
    · rw [List.mem_singleton.mp hst]
      have hs := Stp.snoc h hz h1
      exact ⟨hs.nd, hs.ne gl_ok ht, fun k hk => (hs.sub k hk).box ht hl⟩
theorem told_ok {t : List Part} (ht : TabOk t) {zs : List Zone} {sts : List Stt} {rows : List (List Int)} (h : Stp grL t zs sts rows) (hl : lenZ zs ≤ 36) : TolOk (toldP sts) where
  row := fun rs hr k hk => by
    obtain ⟨st, hst, rfl⟩ := List.mem_map.mp hr
    have hb := (keys_box ht h hl st hst).2.2 k (sortR_mem.mp hk)
    exact ⟨hb.row, fun i hi => (hb.h i hi).1⟩
  few := fun rs hr => by
    obtain ⟨st, hst, rfl⟩ := List.mem_map.mp hr
    obtain ⟨h1, _, h2⟩ := keys_box ht h hl st hst
    have := few h1 h2
    unfold sortR
    rw [List.length_mergeSort]
    exact this
  ne := fun rs hr e => by
    obtain ⟨st, hst, rfl⟩ := List.mem_map.mp hr
    obtain ⟨_, h1, _⟩ := keys_box ht h hl st hst
    cases hk : keysR st with
    | nil => exact h1 hk
    | cons x xs =>
      have : x ∈ sortR (keysR st) := sortR_mem.mpr (by rw [hk]; simp)
      rw [e] at this; cases this
theorem TolOk.pap {p : List (List (List Int))} (h : TolOk p) : PapOk p := ⟨h.row, fun r hr => by have := h.few r hr; omega⟩
theorem skin_at {d : Dk} {E : Mem} {k : Nat} {zs : List Zone} {st gr : Int} (h : E[k]? = some (.ins "Skin" (skinF zs st gr))) : SkinAt (d.m ++ E) (.ref (2 + k)) zs st gr := by
  simp [SkinAt, asI, h]
def shrink (z : Zone) : Zone := ⟨z.gr, max 1 (z.len - 3)⟩
theorem shrink_ok {zs : List Zone} (h : ZsOk zs) : ZsOk (zs.map shrink) where
  all := fun z hz => by
    obtain ⟨y, hy, rfl⟩ := List.mem_map.mp hz
    have h0 := h.all y hy
    have h1 := h0.lo
    have h2 := h0.hi
    exact ⟨by show 1 ≤ max 1 _; omega, by show max 1 _ ≤ 24; omega⟩
  len := by
    have h1 := h.len
    have h2 := h.all
    have go : ∀ ys : List Zone, (∀ z ∈ ys, ZoneOk z) → lenZ (ys.map shrink) ≤ lenZ ys := fun ys => by
      induction ys with
      | nil => intro _; simp [lenZ]
      | cons y ys ih =>
        intro hy
        have h3 := ih fun z hz => hy z (List.mem_cons_of_mem _ hz)
        have h4 := (hy y List.mem_cons_self).lo
        have e1 : lenZ (y :: ys) = y.len + lenZ ys := by simp [lenZ]
        have e2 : lenZ ((y :: ys).map shrink) = max 1 (y.len - 3) + lenZ (ys.map shrink) := by simp [lenZ, shrink]
        rw [e1, e2]
        omega
    have := go zs h2
    omega
  ne := by
    have := h.ne
    simpa using this
set_option maxHeartbeats 4000000 in
theorem t_right (d : Dk) (hd : d.ok) (E : Mem) (k : Nat) (zs : List Zone) (hz : SzOk zs) (st gr : Nat) (hs : SgOk st gr) (t : List Part) (ht : TabOk t) (hE : E[k]? = some (.ins "Skin" (skinF zs st gr))) :
    To (F__law_right [.ref 1, .ref (2 + k), tabD t] (d.m ++ E)) fun p => ∃ (d' : Dk), d'.ok ∧ p = (.v (.bl true), d'.m ++ E) := by
  refine to_fn ?_
  unfold B__law_right
  have hfew := hz.few
  have hzl := hz.len
  have hza := hz.all
  have hsk := fun (d : Dk) (F : Mem) => skin_at (d := d) (E := E ++ F) (k := k) (gx hE)
  have hsk0 := fun (d : Dk) => skin_at (d := d) (E := E) (k := k) hE
  simp [hsk0]
  refine (m_all_sums zs hz.toZsOk t ht (d.m ++ E)).imp ?_
  rintro _ ⟨kvs, ok, rfl⟩
  have hkl := ok.few ht hzl
  have hks : (keysR kvs).length ≤ sizeLine := sz_of (by simp [keysR]; omega)
  simp
  refine to_map (keysR kvs) (fun s => .int (prF t s)) keys_dic (by simp) (fun s hs' => ?_) ?_
  · simp [m_given t ht s (((ok.keys s).mp hs').row ht)]
  · obtain ⟨most, hmost, hm2, hm3⟩ := max_of (xs := (keysR kvs).map (prF t)) (by
      have := (ok.keys _).mpr (Reach.zero ht hza)
      intro e
      rw [List.map_eq_nil_iff] at e
      rw [e] at this; cases this)
    have hMost : Most t zs most := ⟨fun s hs' => hm3 _ (List.mem_map_of_mem ((ok.keys s).mpr hs')), by
      obtain ⟨s, h1, h2⟩ := List.mem_map.mp hm2
      exact ⟨s, (ok.keys s).mp h1, h2⟩⟩
    have e : (keysR kvs).map (fun s => D.int (prF t s)) = ((keysR kvs).map (prF t)).map D.int := by simp
    rw [e]
    simp [-List.map_map, hks, hmost]
    refine (m_most_pairs zs hz.toZsOk st gr (.ref (2 + k)) t ht _ (hsk d _)).imp ?_
    rintro _ ⟨m, cut, sts, rows, mp, rfl⟩
    have hm : m = most := (mp.stp.most gl_ok ht mp.max).uniq hMost
    subst hm
    have hstr := fun F => m_Skin_str zs hza (by omega) st gr hs (.ref (2 + k)) _ (hsk d F)
    have hcr := fun F => m_cut_right zs st gr (.ref (2 + k)) t ht m cut mp.fit mp.tot (by omega) _ (hsk d F)
    have hrd := fun M => m_read_skin zs hza (by have := hz.ne; cases zs with
      | nil => exact absurd rfl this
      | cons _ _ => simp) (by omega) st gr hs M
    simp [mpD, told_D, hsk, hstr, hrd, hcr]
    refine (m_most_pairs zs hz.toZsOk st gr (.ref (2 + (E.length + 1))) t ht _ (by simp [SkinAt, asI])).imp ?_
    rintro _ ⟨m', cut', sts', rows', mp', rfl⟩
    have hm : m' = m := (mp'.stp.most gl_ok ht mp'.max).uniq hMost
    subst hm
    simp [mpD]
    have hsrc := fun F => src_dic (emb := cutD) (kvs := kvs) (M := d.m ++ (E ++ .dic true (dicR cutD kvs) :: F)) (n := 2 + E.length) (by simp)
    have hokR : okR (keysR kvs) = true := List.all_eq_true.mpr fun s hs' => by
      have := ((ok.keys s).mp hs').row ht
      cases s with
      | nil => cases this
      | cons _ _ => rfl
    simp [gSorted, hsrc, hokR]
    have hsl : (sortR (keysR kvs)).length = (keysR kvs).length := by unfold sortR; rw [List.length_mergeSort]
    refine (t_pick d hd _ ((sortR (keysR kvs)).map rowD) (by
      have := (ok.keys _).mpr (Reach.zero ht hza)
      intro e
      rw [List.map_eq_nil_iff] at e
      have h2 := sortR_mem.mpr this
      rw [e] at h2; cases h2) (by rw [List.length_map, hsl]; simp [keysR]; omega) (by simp)).imp ?_
    rintro _ ⟨v, d2, ok2, hv, rfl⟩
    obtain ⟨s, hs', rfl⟩ := List.mem_map.mp hv
    obtain ⟨c, hc1, hc2⟩ := lookR_of (sortR_mem.mp hs')
    obtain ⟨f1, f2⟩ := ok.ent _ hc2
    have hix := fun F => ixx_dic (emb := cutD) (kvs := kvs) (k := s) (v := c) (M := d2.m ++ (E ++ .dic true (dicR cutD kvs) :: F)) (n := 2 + E.length) (by simp) hc1
    have hic := fun F => m_is_cut zs st gr (.ref (2 + k)) t ht c f1 (by omega) _ (hsk d2 F)
    have hpg := fun M => m_pairs_given t ht c (f1.rows ht) (by have : c.length = zs.length := f1.len; omega) M
    have hle : prF t (totR c) ≤ m' := hMost.le _ (f1.reach ht)
    have hlt : ¬ m' < prF t (totR c) := by omega
    simp [hix, hic, hpg, hlt]
    have tol := told_ok ht mp.stp hzl
    have hpl : (toldP sts).length = zs.length := by simp [toldP, mp.stp.len]
    have hmh := fun (d : Dk) F n (pp : List (List (List Int))) (hpp : PapOk pp) (hl : pp.length = zs.length) => m_most_holds zs hza st gr (.ref (2 + k)) t ht n pp hpp hl (by omega) _ (hsk d F)
    have hmt := fun F n => hmh d2 F n (toldP sts) tol.pap hpl
    have htold := fun n => mh_told' (srt := sortR) (fun xs k => sortR_mem) mp.stp mp.max n
    rw [show sts.map (fun st => sortR (keysR st)) = toldP sts from rfl] at htold
    have hnle : ¬ m' ≤ m' - 1 := by omega
    simp [hmt, htold, hnle]
    have hsz : zs.length ≤ sizeLine := sz_of (by omega)
    have hsk2 := fun F => hsk d2 F
    simp [hsk2]
    refine to_map zs (fun z => zoneD (shrink z)) rfl (by simp) (fun z hz' => ?_) ?_
    · simp [zoneD, shrink]
    · have e3 : zs.map (fun z => zoneD (shrink z)) = (zs.map shrink).map zoneD := by simp
      have hp : pureDs ((zs.map shrink).map zoneD) = true := p_map fun z _ => by simp [zoneD, grD]
      rw [e3]
      simp only [List.length_map, hsz, true_and]
      rw [mkS_ok (by simpa using hp) (by simp) (by simp)]
      refine (m_most_pairs (zs.map shrink) (shrink_ok hz.toZsOk) 0 0 (R.n (.ins "Skin" [("zones", .tup ((zs.map shrink).map zoneD)), ("stretch", .int 0), ("grade", .int 0)])).fz t ht _ rfl).imp ?_
      rintro _ ⟨m2, cut2, sts2, rows2, mp2, rfl⟩
      have tol2 := told_ok ht mp2.stp (shrink_ok hz.toZsOk).len
      have hpl2 : (toldP sts2).length = (toldP sts).length := by simp [toldP, mp.stp.len, mp2.stp.len]
      simp [mpD, told_D, okRg_of]
      refine to_go (emb := fun i : Nat => D.int (i : Int)) (List.range 8) (fun pre env M' => ∃ (d3 : Dk) (x12 x13 : Option D), d3.ok ∧ M' = d3.m ++ (E ++ [.dic true (dicR cutD kvs), .ins "Skin" (skinF zs st gr)]) ∧
        env = [some (.ref 1), some (.ref (2 + k)), some (tabD t), some (.ref (2 + E.length)), some (.int m'), some (.int m'), some (cutD cut), some (papD (toldP sts)), some (.ref (2 + (E.length + 1))), some (rowD s), some (.tup ((zs.map shrink).map zoneD)), some (papD (toldP sts2)), x12, x13, none, none]) (by rfl) ⟨d2, _, _, ok2, rfl, by simp; exact ⟨rfl, rfl⟩⟩ (fun _ _ _ _ => by trivial) ?_ ?_
      · rintro pre i post e env M' ⟨d3, x12, x13, ok3, rfl, rfl⟩
        simp
        refine (t_pick d3 ok3 _ [.int (-1), .int (-1), .int (-2), .int 0, .int 1] (by simp) (by simp) (by simp)).imp ?_
        rintro _ ⟨v, d4, ok4, hv, rfl⟩
        obtain ⟨n, rfl⟩ : ∃ n : Int, v = .int n := by
          simp at hv
          rcases hv with rfl | rfl | rfl | rfl
          · exact ⟨_, rfl⟩
          · exact ⟨_, rfl⟩
          · exact ⟨_, rfl⟩
          · exact ⟨_, rfl⟩
        simp
        generalize max 0 (m' + n) = count
        refine (t_bent d4 ok4 _ (toldP sts) (toldP sts2) tol (by
          have := hz.ne
          intro e
          have := congrArg List.length e
          rw [hpl] at this
          exact hz.ne (List.length_eq_zero_iff.mp this)) (by omega) tol2.pap hpl2).imp ?_
        rintro _ ⟨pp, d5, ok5, hpp, hppl, rfl⟩
        have hmp := fun F => hmh d5 F count pp hpp (by omega)
        simp [hmp]
        cases hB : mhL grL t zs pp count with
        | false => simp; exact ⟨d5, ok5, rfl⟩
        | true =>
          have hsound := mh_sound gl_ok ht hza (by omega) (fun rs hr k hk => (hpp.row rs hr k hk).row) hB
          obtain ⟨s0, h1, h2⟩ := hMost.ex
          have := hsound s0 h1
          have hnl : ¬ count < m' := by omega
          simp [hnl]
          exact ⟨by omega, d5, ok5, rfl⟩
      · rintro env M' ⟨d3, x12, x13, ok3, rfl, rfl⟩
        simp
        exact ⟨d3, ok3, rfl⟩
@[simp high] theorem mkS_skin (zs : List Zone) (st gr : Int) (M : Mem) (P : R × Mem → Prop) : mkS [.tup (zs.map zoneD), .int st, .int gr] M P = P (.n (.ins "Skin" (skinF zs st gr)), M) := by
  have hp : pureDs (zs.map zoneD) = true := p_map fun z _ => by simp [zoneD, grD]
  rw [mkS_ok (by simpa using hp) (by simp) (by simp)]
  rfl
set_option maxHeartbeats 4000000 in
theorem t_law (xs : List Int) : To (F_law [.scr xs] []) fun p => p = (.v (.bl true), []) := by
  refine to_fn ?_
  unfold B_law
  simp
  refine (t_deck xs).imp ?_
  rintro _ ⟨d, ok, rfl⟩
  simp [okRg_of]
  refine to_go (emb := fun i : Nat => D.int (i : Int)) (List.range 3) (fun pre env M' => ∃ (d : Dk) (E : Mem) (a b c e f g : Option D), d.ok ∧ M' = d.m ++ E ∧ env = [some (.scr xs), some (.ref 1), a, b, c, e, f, g]) (by rfl) ⟨d, [], _, _, _, _, _, _, ok, rfl, rfl⟩ (fun _ _ _ _ => by trivial) ?_ ?_
  · rintro pre i post e env M' ⟨d, E, a, b, c, e', f, g, ok, rfl, rfl⟩
    simp
    refine (t_small_zones d ok E).imp ?_
    rintro _ ⟨zs, d1, ok1, hz, rfl⟩
    simp
    refine (t_table d1 ok1 E).imp ?_
    rintro _ ⟨t, d2, ok2, ht, rfl⟩
    simp
    refine (t_draw d2 ok2 E 99 (by decide) (by decide)).imp ?_
    rintro _ ⟨size, d3, ok3, _, _, rfl⟩
    simp
    refine (t_draw d3 ok3 E 41 (by decide) (by decide)).imp ?_
    rintro _ ⟨st', d4, ok4, s0, s1, rfl⟩
    simp
    refine (t_draw d4 ok4 E 3 (by decide) (by decide)).imp ?_
    rintro _ ⟨gr', d5, ok5, g0, g1, rfl⟩
    obtain ⟨st, rfl⟩ : ∃ n : Nat, st' = (n : Int) := ⟨st'.toNat, by omega⟩
    obtain ⟨gr, rfl⟩ : ∃ n : Nat, gr' = (n : Int) := ⟨gr'.toNat, by omega⟩
    have hp : pureDs (zs.map zoneD) = true := p_map fun z _ => by simp [zoneD, grD]
    simp
    have htf : ∀ M, F_table_for [.tup [.tup [.str "trim", .int (1 + size), tabD t]], .str "trim", .int (1 + size)] M = some (.v (tabD t), M) := fun M => by
      have hpt : pureD (tabD t) = true := by
        simp only [tabD, pureD]
        exact p_map fun q _ => by simp [partD]
      refine eq_of_to (to_fn ?_)
      unfold B_table_for
      simp [hpt]
    simp [htf]
    have hs : SgOk st gr := ⟨by omega, by omega⟩
    have hE : (E ++ [O.ins ("Skin" : Str) (skinF zs (st : Int) (gr : Int))])[E.length]? = some (O.ins ("Skin" : Str) (skinF zs (st : Int) (gr : Int))) := by simp
    have hR := t_right d5 ok5 _ E.length zs hz st gr hs t ht hE
    refine hR.imp ?_
    rintro _ ⟨d6, ok6, rfl⟩
    simp
    exact ⟨d6, ok6, _, rfl⟩
  · rintro env M' ⟨d, E, a, b, c, e', f, g, ok, rfl, rfl⟩
    simp
    have h := tr_v (M := ([] : Mem)) (E := d.m ++ E) (d := .bl true) (by simp)
    rw [List.nil_append] at h
    rw [to_eq h]
end G84
set_option Elab.async false
set_option linter.all false
set_option maxRecDepth 100000
set_option maxHeartbeats 0
/-! printed by gen.py: the head -/
namespace G84
open PySem PySem.Spec PyProof.Rows L2 Fl
def d0 : He.DefD := ⟨("_law_deck", none), "_law_deck", "_law_deck", defArgs s__law_deck, defBody s__law_deck, defScope s__law_deck, [], []⟩
def d1 : He.DefD := ⟨("_law_draw", none), "_law_draw", "_law_draw", defArgs s__law_draw, defBody s__law_draw, defScope s__law_draw, [], []⟩
def d2 : He.DefD := ⟨("_law_pick", none), "_law_pick", "_law_pick", defArgs s__law_pick, defBody s__law_pick, defScope s__law_pick, [], []⟩
def d3 : He.DefD := ⟨("_law_small_zones", none), "_law_small_zones", "_law_small_zones", defArgs s__law_small_zones, defBody s__law_small_zones, defScope s__law_small_zones, [], []⟩
def d4 : He.DefD := ⟨("_law_lengths", none), "_law_lengths", "_law_lengths", defArgs s__law_lengths, defBody s__law_lengths, defScope s__law_lengths, [], []⟩
def d5 : He.DefD := ⟨("_law_table", none), "_law_table", "_law_table", defArgs s__law_table, defBody s__law_table, defScope s__law_table, [], []⟩
def d6 : He.DefD := ⟨("Skin", some "__init__"), "__init__", "Skin.__init__", defArgs s_Skin___init__, defBody s_Skin___init__, defScope s_Skin___init__, [.int 0, .int 0], []⟩
def d7 : He.DefD := ⟨("_law_fits", none), "_law_fits", "_law_fits", defArgs s__law_fits, defBody s__law_fits, defScope s__law_fits, [], []⟩
def d8 : He.DefD := ⟨("_law_counts", none), "_law_counts", "_law_counts", defArgs s__law_counts, defBody s__law_counts, defScope s__law_counts, [], []⟩
def d9 : He.DefD := ⟨("_law_added", none), "_law_added", "_law_added", defArgs s__law_added, defBody s__law_added, defScope s__law_added, [], []⟩
def d10 : He.DefD := ⟨("_law_all_sums", none), "_law_all_sums", "_law_all_sums", defArgs s__law_all_sums, defBody s__law_all_sums, defScope s__law_all_sums, [], []⟩
def d11 : He.DefD := ⟨("_law_given", none), "_law_given", "_law_given", defArgs s__law_given, defBody s__law_given, defScope s__law_given, [], []⟩
def d12 : He.DefD := ⟨("is_beneath", none), "is_beneath", "is_beneath", defArgs s_is_beneath, defBody s_is_beneath, defScope s_is_beneath, [], []⟩
def d13 : He.DefD := ⟨("is_covered", none), "is_covered", "is_covered", defArgs s_is_covered, defBody s_is_covered, defScope s_is_covered, [], []⟩
def d14 : He.DefD := ⟨("greatest", none), "greatest", "greatest", defArgs s_greatest, defBody s_greatest, defScope s_greatest, [], []⟩
def d15 : He.DefD := ⟨("part_length", none), "part_length", "part_length", defArgs s_part_length, defBody s_part_length, defScope s_part_length, [], []⟩
def d16 : He.DefD := ⟨("zone_cuts", none), "zone_cuts", "zone_cuts", defArgs s_zone_cuts, defBody s_zone_cuts, defScope s_zone_cuts, [], []⟩
def d17 : He.DefD := ⟨("together", none), "together", "together", defArgs s_together, defBody s_together, defScope s_together, [], []⟩
def d18 : He.DefD := ⟨("ways_behind", none), "ways_behind", "ways_behind", defArgs s_ways_behind, defBody s_ways_behind, defScope s_ways_behind, [], []⟩
def d19 : He.DefD := ⟨("pairs_for", none), "pairs_for", "pairs_for", defArgs s_pairs_for, defBody s_pairs_for, defScope s_pairs_for, [], []⟩
def d20 : He.DefD := ⟨("whole_cut", none), "whole_cut", "whole_cut", defArgs s_whole_cut, defBody s_whole_cut, defScope s_whole_cut, [], []⟩
def d21 : He.DefD := ⟨("most_pairs", none), "most_pairs", "most_pairs", defArgs s_most_pairs, defBody s_most_pairs, defScope s_most_pairs, [], []⟩
def d22 : He.DefD := ⟨("number_behind", none), "number_behind", "number_behind", defArgs s_number_behind, defBody s_number_behind, defScope s_number_behind, [], []⟩
def d23 : He.DefD := ⟨("sign_of", none), "sign_of", "sign_of", defArgs s_sign_of, defBody s_sign_of, defScope s_sign_of, [], []⟩
def d24 : He.DefD := ⟨("zone_read", none), "zone_read", "zone_read", defArgs s_zone_read, defBody s_zone_read, defScope s_zone_read, [], []⟩
def d25 : He.DefD := ⟨("read_skin", none), "read_skin", "read_skin", defArgs s_read_skin, defBody s_read_skin, defScope s_read_skin, [], []⟩
def d26 : He.DefD := ⟨("zone_word", none), "zone_word", "zone_word", defArgs s_zone_word, defBody s_zone_word, defScope s_zone_word, [], []⟩
def d27 : He.DefD := ⟨("Skin", some "__str__"), "__str__", "Skin.__str__", defArgs s_Skin___str__, defBody s_Skin___str__, defScope s_Skin___str__, [], []⟩
def d28 : He.DefD := ⟨("Skin", some "__len__"), "__len__", "Skin.__len__", defArgs s_Skin___len__, defBody s_Skin___len__, defScope s_Skin___len__, [], []⟩
def d29 : He.DefD := ⟨("is_count", none), "is_count", "is_count", defArgs s_is_count, defBody s_is_count, defScope s_is_count, [], []⟩
def d30 : He.DefD := ⟨("are_counts", none), "are_counts", "are_counts", defArgs s_are_counts, defBody s_are_counts, defScope s_are_counts, [], []⟩
def d31 : He.DefD := ⟨("long_in", none), "long_in", "long_in", defArgs s_long_in, defBody s_long_in, defScope s_long_in, [], []⟩
def d32 : He.DefD := ⟨("does_fit", none), "does_fit", "does_fit", defArgs s_does_fit, defBody s_does_fit, defScope s_does_fit, [], []⟩
def d33 : He.DefD := ⟨("is_cut", none), "is_cut", "is_cut", defArgs s_is_cut, defBody s_is_cut, defScope s_is_cut, [], []⟩
def d34 : He.DefD := ⟨("cut_in_all", none), "cut_in_all", "cut_in_all", defArgs s_cut_in_all, defBody s_cut_in_all, defScope s_cut_in_all, [], []⟩
def d35 : He.DefD := ⟨("pairs_given", none), "pairs_given", "pairs_given", defArgs s_pairs_given, defBody s_pairs_given, defScope s_pairs_given, [], []⟩
def d36 : He.DefD := ⟨("is_whole_cut", none), "is_whole_cut", "is_whole_cut", defArgs s_is_whole_cut, defBody s_is_whole_cut, defScope s_is_whole_cut, [], []⟩
def d37 : He.DefD := ⟨("used_in", none), "used_in", "used_in", defArgs s_used_in, defBody s_used_in, defScope s_used_in, [], []⟩
def d38 : He.DefD := ⟨("cuttings_of", none), "cuttings_of", "cuttings_of", defArgs s_cuttings_of, defBody s_cuttings_of, defScope s_cuttings_of, [], []⟩
def d39 : He.DefD := ⟨("used_by", none), "used_by", "used_by", defArgs s_used_by, defBody s_used_by, defScope s_used_by, [], []⟩
def d40 : He.DefD := ⟨("length_of", none), "length_of", "length_of", defArgs s_length_of, defBody s_length_of, defScope s_length_of, [], []⟩
def d41 : He.DefD := ⟨("_law_cut_right", none), "_law_cut_right", "_law_cut_right", defArgs s__law_cut_right, defBody s__law_cut_right, defScope s__law_cut_right, [], []⟩
def d42 : He.DefD := ⟨("is_row", none), "is_row", "is_row", defArgs s_is_row, defBody s_is_row, defScope s_is_row, [], []⟩
def d43 : He.DefD := ⟨("are_rows", none), "are_rows", "are_rows", defArgs s_are_rows, defBody s_are_rows, defScope s_are_rows, [], []⟩
def d44 : He.DefD := ⟨("sums_behind", none), "sums_behind", "sums_behind", defArgs s_sums_behind, defBody s_sums_behind, defScope s_sums_behind, [], []⟩
def d45 : He.DefD := ⟨("most_holds", none), "most_holds", "most_holds", defArgs s_most_holds, defBody s_most_holds, defScope s_most_holds, [], []⟩
def d46 : He.DefD := ⟨("_law_bent", none), "_law_bent", "_law_bent", defArgs s__law_bent, defBody s__law_bent, defScope s__law_bent, [], []⟩
def d47 : He.DefD := ⟨("_law_right", none), "_law_right", "_law_right", defArgs s__law_right, defBody s__law_right, defScope s__law_right, [], []⟩
def d48 : He.DefD := ⟨("table_for", none), "table_for", "table_for", defArgs s_table_for, defBody s_table_for, defScope s_table_for, [], []⟩
def d49 : He.DefD := ⟨("law", none), "law", "law", defArgs s_law, defBody s_law, defScope s_law, [], []⟩
def fnL0 : List He.DefD := [d0, d1, d2, d3, d4, d5, d6, d7, d8, d9, d10, d11, d12, d13, d14, d15, d16, d17, d18, d19]
def fnL1 : List He.DefD := [d20, d21, d22, d23, d24, d25, d26, d27, d28, d29, d30, d31, d32, d33, d34, d35, d36, d37, d38, d39]
def fnL2 : List He.DefD := [d40, d41, d42, d43, d44, d45, d46, d47, d48, d49]
def fnL : List He.DefD := fnL0 ++ fnL1 ++ fnL2
def faL0 : List He.Fa := [.glo "_law_deck", .glo "_law_draw", .glo "_law_pick", .glo "_law_small_zones", .glo "_law_lengths", .glo "_law_table", .glo "_law_fits", .glo "_law_counts", .glo "_law_added", .glo "_law_all_sums", .glo "_law_given", .glo "is_beneath", .glo "is_covered", .glo "greatest", .glo "part_length", .glo "zone_cuts", .glo "together", .glo "ways_behind", .glo "pairs_for", .glo "whole_cut"]
def faL1 : List He.Fa := [.glo "most_pairs", .glo "number_behind", .glo "sign_of", .glo "zone_read", .glo "read_skin", .glo "zone_word", .glo "is_count", .glo "are_counts", .glo "long_in", .glo "does_fit", .glo "is_cut", .glo "cut_in_all", .glo "pairs_given", .glo "is_whole_cut", .glo "used_in", .glo "cuttings_of", .glo "used_by", .glo "length_of", .glo "_law_cut_right", .glo "is_row"]
def faL2 : List He.Fa := [.glo "are_rows", .glo "sums_behind", .glo "most_holds", .glo "_law_bent", .glo "_law_right", .glo "table_for", .glo "law", .free "all", .free "bool", .free "dict", .free "int", .free "isinstance", .free "len", .free "list", .free "max", .free "min", .free "range", .free "reversed", .free "set", .free "sorted"]
def faL3 : List He.Fa := [.free "str", .free "sum", .free "tuple", .free "zip", .str "ACROSS" "across", .str "ALONG" "along", .str "FIGURES" "0123456789", .int "MOST_GRADE" 2, .int "MOST_LENGTH" 24, .int "MOST_STRETCH" 40, .int "MOST_ZONES" 4, .int "PARTS" 3, .glo "Skin", .cls "Skin", .noat "Skin" "grade", .noat "Skin" "stretch", .noat "Skin" "zones", .mkr "Skin", .meth "Skin" "__str__", .meth "Skin" "__len__"]
def faL : List He.Fa := faL0 ++ faL1 ++ faL2 ++ faL3
def loL0 : List PySem.Str := ["part_length", "zone_cuts", "together", "is_beneath", "is_covered", "greatest", "pairs_for", "is_row", "are_rows", "sums_behind", "most_holds", "ways_behind", "whole_cut", "most_pairs", "GloveError", "NoText", "NoTable", "ALONG", "ACROSS", "MOST_ZONES"]
def loL1 : List PySem.Str := ["MOST_LENGTH", "MOST_STRETCH", "MOST_GRADE", "FIGURES", "sign_of", "zone_word", "Skin", "number_behind", "zone_read", "read_skin", "length_of", "PARTS", "table_for", "is_count", "are_counts", "long_in", "does_fit", "is_cut", "cut_in_all", "pairs_given"]
def loL2 : List PySem.Str := ["is_whole_cut", "used_in", "used_by", "cuttings_of", "_law_deck", "_law_draw", "_law_pick", "_law_lengths", "_law_table", "_law_fits", "_law_counts", "_law_given", "_law_added", "_law_least_rows", "_law_fronts", "_law_small_zones", "_law_all_sums", "_law_bent", "_law_cut_right", "_law_right"]
def loL : List PySem.Str := loL0 ++ loL1 ++ loL2
abbrev R : PySem.W.OpenRow := PySem.W.OpenLaw.row PySem.Challenge.rw_glovepairs_k84_whole_small_skins_by_all
abbrev hk : PySem.W.Hook := He.hookD 4 faL fnL
def ob (s : PySem.W.SharedT) : He.AlD := He.obsDG 4 faL fnL (HandSHeadRun.getT s)
theorem ob_eq (s : PySem.W.SharedT) : ob s = hk.obs s.abs := He.obsDG_eq (HandSHeadRun.getT_eq s)
theorem run (w : World) : HandSHeadRun.RunEq R (PySem.W.view R.prog [67]) hk ob 4000 loL w := by
  intro os
  kernel_rfl
theorem facts {P : Program} {w : World} {K : PySem.W.Frag} {h : Heap} {mg : Str → Option Value} {f : Addr} (X : K.In h) (G : h.Ns mainGlobals mg) (hfa : mg ("law" : Str) = some (.ref f)) (c : He.SaysD faL fnL K) :
    ∃ fd : FuncData, (∀ (s : Shared) (v : Value), BindsTo s fd ⟨[v], []⟩ [("_law_script", v)]) ∧ ∀ base : Heap, K.In base → base.Ns mainGlobals mg → FnOk P w K mg base CX0 7 f fd ["_law_script"] (spF K mg 1 F_law) := by
  have glo := fun (x : Str) (i : Nat) (e : faL[i]? = some (.glo x)) => He.glo_ok X G (c.fact i e)
  have free := fun (x : Str) (i : Nat) (e : faL[i]? = some (.free x)) => He.free_ok X G (c.fact i e)
  have T : Txt K mg := by
    constructor
    · exact free _ 47 rfl
    · exact free _ 48 rfl
    · exact free _ 49 rfl
    · exact free _ 50 rfl
    · exact free _ 51 rfl
    · exact free _ 52 rfl
    · exact free _ 53 rfl
    · exact free _ 54 rfl
    · exact free _ 55 rfl
    · exact free _ 56 rfl
    · exact free _ 57 rfl
    · exact free _ 58 rfl
    · exact free _ 59 rfl
    · exact free _ 60 rfl
    · exact free _ 61 rfl
    · exact free _ 62 rfl
    · exact free _ 63 rfl
    · obtain ⟨t, e⟩ := He.str_ok X G (c.fact 64 rfl)
      exact ⟨_, e, ⟨t, rfl⟩⟩
    · obtain ⟨t, e⟩ := He.str_ok X G (c.fact 65 rfl)
      exact ⟨_, e, ⟨t, rfl⟩⟩
    · obtain ⟨t, e⟩ := He.str_ok X G (c.fact 66 rfl)
      exact ⟨_, e, ⟨t, rfl⟩⟩
    · obtain ⟨t, e⟩ := He.int_ok X G (c.fact 67 rfl)
      exact ⟨_, e, ⟨t, rfl⟩⟩
    · obtain ⟨t, e⟩ := He.int_ok X G (c.fact 68 rfl)
      exact ⟨_, e, ⟨t, rfl⟩⟩
    · obtain ⟨t, e⟩ := He.int_ok X G (c.fact 69 rfl)
      exact ⟨_, e, ⟨t, rfl⟩⟩
    · obtain ⟨t, e⟩ := He.int_ok X G (c.fact 70 rfl)
      exact ⟨_, e, ⟨t, rfl⟩⟩
    · obtain ⟨t, e⟩ := He.int_ok X G (c.fact 71 rfl)
      exact ⟨_, e, ⟨t, rfl⟩⟩
    · intro C hC
      rw [glo "Skin" 72 rfl] at hC
      cases hC
      exact ⟨He.cls_ok (c.fact 73 rfl), He.noat_ok (c.fact 74 rfl)⟩
    · intro C hC
      rw [glo "Skin" 72 rfl] at hC
      cases hC
      exact ⟨He.cls_ok (c.fact 73 rfl), He.noat_ok (c.fact 75 rfl)⟩
    · intro C hC
      rw [glo "Skin" 72 rfl] at hC
      cases hC
      exact ⟨He.cls_ok (c.fact 73 rfl), He.noat_ok (c.fact 76 rfl)⟩
  have base : Heap := h
  obtain ⟨fd0, F0⟩ := c.def_ 0 (d := d0) rfl
  have b0 : L2.Binds K fd0 ["_law_script"] [] := FunD.bindsN (ps := ["_law_script"]) F0 fun _ _ _ _ _ _ us hl => match us, hl with | [_], _ => rfl
  obtain ⟨fd1, F1⟩ := c.def_ 1 (d := d1) rfl
  have b1 : L2.Binds K fd1 ["_law_deck_here", "_law_most"] [] := FunD.bindsN (ps := ["_law_deck_here", "_law_most"]) F1 fun _ _ _ _ _ _ us hl => match us, hl with | [_, _], _ => rfl
  obtain ⟨fd2, F2⟩ := c.def_ 2 (d := d2) rfl
  have b2 : L2.Binds K fd2 ["_law_deck_here", "_law_some"] [] := FunD.bindsN (ps := ["_law_deck_here", "_law_some"]) F2 fun _ _ _ _ _ _ us hl => match us, hl with | [_, _], _ => rfl
  obtain ⟨fd3, F3⟩ := c.def_ 3 (d := d3) rfl
  have b3 : L2.Binds K fd3 ["_law_deck_here"] [] := FunD.bindsN (ps := ["_law_deck_here"]) F3 fun _ _ _ _ _ _ us hl => match us, hl with | [_], _ => rfl
  obtain ⟨fd4, F4⟩ := c.def_ 4 (d := d4) rfl
  have b4 : L2.Binds K fd4 ["_law_deck_here"] [] := FunD.bindsN (ps := ["_law_deck_here"]) F4 fun _ _ _ _ _ _ us hl => match us, hl with | [_], _ => rfl
  obtain ⟨fd5, F5⟩ := c.def_ 5 (d := d5) rfl
  have b5 : L2.Binds K fd5 ["_law_deck_here"] [] := FunD.bindsN (ps := ["_law_deck_here"]) F5 fun _ _ _ _ _ _ us hl => match us, hl with | [_], _ => rfl
  obtain ⟨fd6, F6⟩ := c.def_ 6 (d := d6) rfl
  obtain ⟨fd7, F7⟩ := c.def_ 7 (d := d7) rfl
  have b7 : L2.Binds K fd7 ["_law_zone", "_law_table_here", "_law_counts_here"] [] := FunD.bindsN (ps := ["_law_zone", "_law_table_here", "_law_counts_here"]) F7 fun _ _ _ _ _ _ us hl => match us, hl with | [_, _, _], _ => rfl
  obtain ⟨fd8, F8⟩ := c.def_ 8 (d := d8) rfl
  have b8 : L2.Binds K fd8 ["_law_zone", "_law_table_here"] [] := FunD.bindsN (ps := ["_law_zone", "_law_table_here"]) F8 fun _ _ _ _ _ _ us hl => match us, hl with | [_, _], _ => rfl
  obtain ⟨fd9, F9⟩ := c.def_ 9 (d := d9) rfl
  have b9 : L2.Binds K fd9 ["_law_one", "_law_other"] [] := FunD.bindsN (ps := ["_law_one", "_law_other"]) F9 fun _ _ _ _ _ _ us hl => match us, hl with | [_, _], _ => rfl
  obtain ⟨fd10, F10⟩ := c.def_ 10 (d := d10) rfl
  have b10 : L2.Binds K fd10 ["_law_zones", "_law_table_here"] [] := FunD.bindsN (ps := ["_law_zones", "_law_table_here"]) F10 fun _ _ _ _ _ _ us hl => match us, hl with | [_, _], _ => rfl
  obtain ⟨fd11, F11⟩ := c.def_ 11 (d := d11) rfl
  have b11 : L2.Binds K fd11 ["_law_table_here", "_law_counts_here"] [] := FunD.bindsN (ps := ["_law_table_here", "_law_counts_here"]) F11 fun _ _ _ _ _ _ us hl => match us, hl with | [_, _], _ => rfl
  obtain ⟨fd12, F12⟩ := c.def_ 12 (d := d12) rfl
  have b12 : L2.Binds K fd12 ["one", "other"] [] := FunD.bindsN (ps := ["one", "other"]) F12 fun _ _ _ _ _ _ us hl => match us, hl with | [_, _], _ => rfl
  obtain ⟨fd13, F13⟩ := c.def_ 13 (d := d13) rfl
  have b13 : L2.Binds K fd13 ["row", "rows"] [] := FunD.bindsN (ps := ["row", "rows"]) F13 fun _ _ _ _ _ _ us hl => match us, hl with | [_, _], _ => rfl
  obtain ⟨fd14, F14⟩ := c.def_ 14 (d := d14) rfl
  have b14 : L2.Binds K fd14 ["rows"] [] := FunD.bindsN (ps := ["rows"]) F14 fun _ _ _ _ _ _ us hl => match us, hl with | [_], _ => rfl
  obtain ⟨fd15, F15⟩ := c.def_ 15 (d := d15) rfl
  have b15 : L2.Binds K fd15 ["part", "grain"] [] := FunD.bindsN (ps := ["part", "grain"]) F15 fun _ _ _ _ _ _ us hl => match us, hl with | [_, _], _ => rfl
  obtain ⟨fd16, F16⟩ := c.def_ 16 (d := d16) rfl
  have b16 : L2.Binds K fd16 ["zone", "table"] [] := FunD.bindsN (ps := ["zone", "table"]) F16 fun _ _ _ _ _ _ us hl => match us, hl with | [_, _], _ => rfl
  obtain ⟨fd17, F17⟩ := c.def_ 17 (d := d17) rfl
  have b17 : L2.Binds K fd17 ["one", "other"] [] := FunD.bindsN (ps := ["one", "other"]) F17 fun _ _ _ _ _ _ us hl => match us, hl with | [_, _], _ => rfl
  obtain ⟨fd18, F18⟩ := c.def_ 18 (d := d18) rfl
  have b18 : L2.Binds K fd18 ["rows", "zone", "table"] [] := FunD.bindsN (ps := ["rows", "zone", "table"]) F18 fun _ _ _ _ _ _ us hl => match us, hl with | [_, _, _], _ => rfl
  obtain ⟨fd19, F19⟩ := c.def_ 19 (d := d19) rfl
  have b19 : L2.Binds K fd19 ["table", "counts"] [] := FunD.bindsN (ps := ["table", "counts"]) F19 fun _ _ _ _ _ _ us hl => match us, hl with | [_, _], _ => rfl
  obtain ⟨fd20, F20⟩ := c.def_ 20 (d := d20) rfl
  have b20 : L2.Binds K fd20 ["table", "cut", "many"] [] := FunD.bindsN (ps := ["table", "cut", "many"]) F20 fun _ _ _ _ _ _ us hl => match us, hl with | [_, _, _], _ => rfl
  obtain ⟨fd21, F21⟩ := c.def_ 21 (d := d21) rfl
  have b21 : L2.Binds K fd21 ["skin", "table"] [] := FunD.bindsN (ps := ["skin", "table"]) F21 fun _ _ _ _ _ _ us hl => match us, hl with | [_, _], _ => rfl
  obtain ⟨fd22, F22⟩ := c.def_ 22 (d := d22) rfl
  have b22 : L2.Binds K fd22 ["word", "sign", "least", "most"] [] := FunD.bindsN (ps := ["word", "sign", "least", "most"]) F22 fun _ _ _ _ _ _ us hl => match us, hl with | [_, _, _, _], _ => rfl
  obtain ⟨fd23, F23⟩ := c.def_ 23 (d := d23) rfl
  have b23 : L2.Binds K fd23 ["grain"] [] := FunD.bindsN (ps := ["grain"]) F23 fun _ _ _ _ _ _ us hl => match us, hl with | [_], _ => rfl
  obtain ⟨fd24, F24⟩ := c.def_ 24 (d := d24) rfl
  have b24 : L2.Binds K fd24 ["word"] [] := FunD.bindsN (ps := ["word"]) F24 fun _ _ _ _ _ _ us hl => match us, hl with | [_], _ => rfl
  obtain ⟨fd25, F25⟩ := c.def_ 25 (d := d25) rfl
  have b25 : L2.Binds K fd25 ["text"] [] := FunD.bindsN (ps := ["text"]) F25 fun _ _ _ _ _ _ us hl => match us, hl with | [_], _ => rfl
  obtain ⟨fd26, F26⟩ := c.def_ 26 (d := d26) rfl
  have b26 : L2.Binds K fd26 ["zone"] [] := FunD.bindsN (ps := ["zone"]) F26 fun _ _ _ _ _ _ us hl => match us, hl with | [_], _ => rfl
  obtain ⟨fd27, F27⟩ := c.def_ 27 (d := d27) rfl
  have b27 : L2.Binds K fd27 ["self"] [] := FunD.bindsN (ps := ["self"]) F27 fun _ _ _ _ _ _ us hl => match us, hl with | [_], _ => rfl
  obtain ⟨fd28, F28⟩ := c.def_ 28 (d := d28) rfl
  have b28 : L2.Binds K fd28 ["self"] [] := FunD.bindsN (ps := ["self"]) F28 fun _ _ _ _ _ _ us hl => match us, hl with | [_], _ => rfl
  obtain ⟨fd29, F29⟩ := c.def_ 29 (d := d29) rfl
  have b29 : L2.Binds K fd29 ["thing"] [] := FunD.bindsN (ps := ["thing"]) F29 fun _ _ _ _ _ _ us hl => match us, hl with | [_], _ => rfl
  obtain ⟨fd30, F30⟩ := c.def_ 30 (d := d30) rfl
  have b30 : L2.Binds K fd30 ["thing"] [] := FunD.bindsN (ps := ["thing"]) F30 fun _ _ _ _ _ _ us hl => match us, hl with | [_], _ => rfl
  obtain ⟨fd31, F31⟩ := c.def_ 31 (d := d31) rfl
  have b31 : L2.Binds K fd31 ["part", "zone"] [] := FunD.bindsN (ps := ["part", "zone"]) F31 fun _ _ _ _ _ _ us hl => match us, hl with | [_, _], _ => rfl
  obtain ⟨fd32, F32⟩ := c.def_ 32 (d := d32) rfl
  have b32 : L2.Binds K fd32 ["zone", "table", "counts"] [] := FunD.bindsN (ps := ["zone", "table", "counts"]) F32 fun _ _ _ _ _ _ us hl => match us, hl with | [_, _, _], _ => rfl
  obtain ⟨fd33, F33⟩ := c.def_ 33 (d := d33) rfl
  have b33 : L2.Binds K fd33 ["skin", "table", "thing"] [] := FunD.bindsN (ps := ["skin", "table", "thing"]) F33 fun _ _ _ _ _ _ us hl => match us, hl with | [_, _, _], _ => rfl
  obtain ⟨fd34, F34⟩ := c.def_ 34 (d := d34) rfl
  have b34 : L2.Binds K fd34 ["cut"] [] := FunD.bindsN (ps := ["cut"]) F34 fun _ _ _ _ _ _ us hl => match us, hl with | [_], _ => rfl
  obtain ⟨fd35, F35⟩ := c.def_ 35 (d := d35) rfl
  have b35 : L2.Binds K fd35 ["table", "cut"] [] := FunD.bindsN (ps := ["table", "cut"]) F35 fun _ _ _ _ _ _ us hl => match us, hl with | [_, _], _ => rfl
  obtain ⟨fd36, F36⟩ := c.def_ 36 (d := d36) rfl
  have b36 : L2.Binds K fd36 ["table", "cut"] [] := FunD.bindsN (ps := ["table", "cut"]) F36 fun _ _ _ _ _ _ us hl => match us, hl with | [_, _], _ => rfl
  obtain ⟨fd37, F37⟩ := c.def_ 37 (d := d37) rfl
  have b37 : L2.Binds K fd37 ["zone", "table", "counts"] [] := FunD.bindsN (ps := ["zone", "table", "counts"]) F37 fun _ _ _ _ _ _ us hl => match us, hl with | [_, _, _], _ => rfl
  obtain ⟨fd38, F38⟩ := c.def_ 38 (d := d38) rfl
  have b38 : L2.Binds K fd38 ["skin", "table", "cut"] [] := FunD.bindsN (ps := ["skin", "table", "cut"]) F38 fun _ _ _ _ _ _ us hl => match us, hl with | [_, _, _], _ => rfl
  obtain ⟨fd39, F39⟩ := c.def_ 39 (d := d39) rfl
  have b39 : L2.Binds K fd39 ["skin", "table", "cut"] [] := FunD.bindsN (ps := ["skin", "table", "cut"]) F39 fun _ _ _ _ _ _ us hl => match us, hl with | [_, _, _], _ => rfl
  obtain ⟨fd40, F40⟩ := c.def_ 40 (d := d40) rfl
  have b40 : L2.Binds K fd40 ["skin"] [] := FunD.bindsN (ps := ["skin"]) F40 fun _ _ _ _ _ _ us hl => match us, hl with | [_], _ => rfl
  obtain ⟨fd41, F41⟩ := c.def_ 41 (d := d41) rfl
  have b41 : L2.Binds K fd41 ["_law_skin", "_law_table_here", "_law_many", "_law_cut"] [] := FunD.bindsN (ps := ["_law_skin", "_law_table_here", "_law_many", "_law_cut"]) F41 fun _ _ _ _ _ _ us hl => match us, hl with | [_, _, _, _], _ => rfl
  obtain ⟨fd42, F42⟩ := c.def_ 42 (d := d42) rfl
  have b42 : L2.Binds K fd42 ["thing"] [] := FunD.bindsN (ps := ["thing"]) F42 fun _ _ _ _ _ _ us hl => match us, hl with | [_], _ => rfl
  obtain ⟨fd43, F43⟩ := c.def_ 43 (d := d43) rfl
  have b43 : L2.Binds K fd43 ["thing"] [] := FunD.bindsN (ps := ["thing"]) F43 fun _ _ _ _ _ _ us hl => match us, hl with | [_], _ => rfl
  obtain ⟨fd44, F44⟩ := c.def_ 44 (d := d44) rfl
  have b44 : L2.Binds K fd44 ["rows", "zone", "table"] [] := FunD.bindsN (ps := ["rows", "zone", "table"]) F44 fun _ _ _ _ _ _ us hl => match us, hl with | [_, _, _], _ => rfl
  obtain ⟨fd45, F45⟩ := c.def_ 45 (d := d45) rfl
  have b45 : L2.Binds K fd45 ["skin", "table", "many", "thing"] [] := FunD.bindsN (ps := ["skin", "table", "many", "thing"]) F45 fun _ _ _ _ _ _ us hl => match us, hl with | [_, _, _, _], _ => rfl
  obtain ⟨fd46, F46⟩ := c.def_ 46 (d := d46) rfl
  have b46 : L2.Binds K fd46 ["_law_deck_here", "_law_paper", "_law_other"] [] := FunD.bindsN (ps := ["_law_deck_here", "_law_paper", "_law_other"]) F46 fun _ _ _ _ _ _ us hl => match us, hl with | [_, _, _], _ => rfl
  obtain ⟨fd47, F47⟩ := c.def_ 47 (d := d47) rfl
  have b47 : L2.Binds K fd47 ["_law_deck_here", "_law_skin", "_law_table_here"] [] := FunD.bindsN (ps := ["_law_deck_here", "_law_skin", "_law_table_here"]) F47 fun _ _ _ _ _ _ us hl => match us, hl with | [_, _, _], _ => rfl
  obtain ⟨fd48, F48⟩ := c.def_ 48 (d := d48) rfl
  have b48 : L2.Binds K fd48 ["book", "style", "size"] [] := FunD.bindsN (ps := ["book", "style", "size"]) F48 fun _ _ _ _ _ _ us hl => match us, hl with | [_, _, _], _ => rfl
  obtain ⟨fd49, F49⟩ := c.def_ 49 (d := d49) rfl
  have b49 : L2.Binds K fd49 ["_law_script"] [] := FunD.bindsN (ps := ["_law_script"]) F49 fun _ _ _ _ _ _ us hl => match us, hl with | [_], _ => rfl
  have e := hfa.symm.trans (glo "law" 46 rfl)
  cases e
  have bl := FunD.bindsA (ps := ["_law_script"]) F49 fun _ _ _ _ _ _ us hl => match us, hl with | [_], _ => rfl
  refine ⟨fd49, fun s v => bl s [v] rfl, fun base _ _ => ?_⟩
  have c__law_deck : Cl P w K mg base 1 "_law_deck" 1 F__law_deck := d__law_deck T  (dn_of F0 (glo "_law_deck" 0 rfl) b0)
  have c__law_draw : Cl P w K mg base 1 "_law_draw" 2 F__law_draw := d__law_draw T  (dn_of F1 (glo "_law_draw" 1 rfl) b1)
  have c__law_pick : Cl P w K mg base 2 "_law_pick" 2 F__law_pick := d__law_pick T c__law_draw (dn_of F2 (glo "_law_pick" 2 rfl) b2)
  have c__law_small_zones : Cl P w K mg base 3 "_law_small_zones" 1 F__law_small_zones := d__law_small_zones T c__law_draw c__law_pick (dn_of F3 (glo "_law_small_zones" 3 rfl) b3)
  have c__law_lengths : Cl P w K mg base 3 "_law_lengths" 1 F__law_lengths := d__law_lengths T c__law_draw c__law_pick (dn_of F4 (glo "_law_lengths" 4 rfl) b4)
  have c__law_table : Cl P w K mg base 4 "_law_table" 1 F__law_table := d__law_table T c__law_lengths (dn_of F5 (glo "_law_table" 5 rfl) b5)
  have m_Skin_0 : Mkr P w K mg base 1 "Skin" 4 F_Skin___init__ [] := mk_of (j := 2) (glo "Skin" 72 rfl) (He.mkr_ok (c.fact 77 rfl)) F6 sc_Skin___init__ (FunD.binds1 (ps := ["self", "zones", "stretch", "grade"]) F6 4 2 (by simp [d6, He.DefD.dvs]) rfl fun _ _ _ _ _ _ _ us its hl hm => match us, its, hl, hm with | [_, _, _, _], [_, _], _, _ => ⟨_, rfl, rfl⟩) (fun w => by simp [d6, He.DefD.dvs, He.Dv.v, RDs, RD]) (b_Skin___init__ T )
  have m_Skin_2 : Mkr P w K mg base 1 "Skin" 4 F_Skin___init__ [.int 0, .int 0] := mk_of (j := 0) (glo "Skin" 72 rfl) (He.mkr_ok (c.fact 77 rfl)) F6 sc_Skin___init__ (FunD.binds1 (ps := ["self", "zones", "stretch", "grade"]) F6 2 0 (by simp [d6, He.DefD.dvs]) rfl fun _ _ _ _ _ _ _ us its hl hm => match us, its, hl, hm with | [_, _], [_, _], _, _ => ⟨_, rfl, rfl⟩) (fun w => by simp [d6, He.DefD.dvs, He.Dv.v, RDs, RD]) (b_Skin___init__ T )
  have c__law_fits : Cl P w K mg base 1 "_law_fits" 3 F__law_fits := d__law_fits T  (dn_of F7 (glo "_law_fits" 6 rfl) b7)
  have c__law_counts : Cl P w K mg base 2 "_law_counts" 2 F__law_counts := d__law_counts T c__law_fits (dn_of F8 (glo "_law_counts" 7 rfl) b8)
  have c__law_added : Cl P w K mg base 1 "_law_added" 2 F__law_added := d__law_added T  (dn_of F9 (glo "_law_added" 8 rfl) b9)
  have c__law_all_sums : Cl P w K mg base 3 "_law_all_sums" 2 F__law_all_sums := d__law_all_sums T c__law_counts c__law_added (dn_of F10 (glo "_law_all_sums" 9 rfl) b10)
  have c__law_given : Cl P w K mg base 1 "_law_given" 2 F__law_given := d__law_given T  (dn_of F11 (glo "_law_given" 10 rfl) b11)
  have c_is_beneath : Cl P w K mg base 1 "is_beneath" 2 F_is_beneath := d_is_beneath T  (dn_of F12 (glo "is_beneath" 11 rfl) b12)
  have c_is_covered : Cl P w K mg base 2 "is_covered" 2 F_is_covered := d_is_covered T c_is_beneath (dn_of F13 (glo "is_covered" 12 rfl) b13)
  have c_greatest : Cl P w K mg base 3 "greatest" 1 F_greatest := d_greatest T c_is_covered (dn_of F14 (glo "greatest" 13 rfl) b14)
  have c_part_length : Cl P w K mg base 1 "part_length" 2 F_part_length := d_part_length T  (dn_of F15 (glo "part_length" 14 rfl) b15)
  have c_zone_cuts : Cl P w K mg base 2 "zone_cuts" 2 F_zone_cuts := d_zone_cuts T c_part_length (dn_of F16 (glo "zone_cuts" 15 rfl) b16)
  have c_together : Cl P w K mg base 1 "together" 2 F_together := d_together T  (dn_of F17 (glo "together" 16 rfl) b17)
  have c_ways_behind : Cl P w K mg base 4 "ways_behind" 3 F_ways_behind := d_ways_behind T c_greatest c_zone_cuts c_together (dn_of F18 (glo "ways_behind" 17 rfl) b18)
  have c_pairs_for : Cl P w K mg base 1 "pairs_for" 2 F_pairs_for := d_pairs_for T  (dn_of F19 (glo "pairs_for" 18 rfl) b19)
  have c_whole_cut : Cl P w K mg base 1 "whole_cut" 3 F_whole_cut := d_whole_cut T  (dn_of F20 (glo "whole_cut" 19 rfl) b20)
  have c_most_pairs : Cl P w K mg base 5 "most_pairs" 2 F_most_pairs := d_most_pairs T c_ways_behind c_pairs_for c_whole_cut (dn_of F21 (glo "most_pairs" 20 rfl) b21)
  have c_number_behind : Cl P w K mg base 1 "number_behind" 4 F_number_behind := d_number_behind T  (dn_of F22 (glo "number_behind" 21 rfl) b22)
  have c_sign_of : Cl P w K mg base 1 "sign_of" 1 F_sign_of := d_sign_of T  (dn_of F23 (glo "sign_of" 22 rfl) b23)
  have c_zone_read : Cl P w K mg base 2 "zone_read" 1 F_zone_read := d_zone_read T c_number_behind c_sign_of (dn_of F24 (glo "zone_read" 23 rfl) b24)
  have c_read_skin : Cl P w K mg base 3 "read_skin" 1 F_read_skin := d_read_skin T c_number_behind c_zone_read m_Skin_0 (dn_of F25 (glo "read_skin" 24 rfl) b25)
  have c_zone_word : Cl P w K mg base 2 "zone_word" 1 F_zone_word := d_zone_word T c_sign_of (dn_of F26 (glo "zone_word" 25 rfl) b26)
  have c_Skin___str__ : MeF P w K mg base 3 "Skin" "__str__" F_Skin___str__ := me_of (st := s_Skin___str__) (qual := "Skin.__str__") (glo "Skin" 72 rfl) (He.meth_ok (c.fact 78 rfl)) F27 sc_Skin___str__ b27 rfl (b_Skin___str__ T c_zone_word)
  have c_Skin___len__ : MeF P w K mg base 1 "Skin" "__len__" F_Skin___len__ := me_of (st := s_Skin___len__) (qual := "Skin.__len__") (glo "Skin" 72 rfl) (He.meth_ok (c.fact 79 rfl)) F28 sc_Skin___len__ b28 rfl (b_Skin___len__ T )
  have c_is_count : Cl P w K mg base 1 "is_count" 1 F_is_count := d_is_count T  (dn_of F29 (glo "is_count" 26 rfl) b29)
  have c_are_counts : Cl P w K mg base 2 "are_counts" 1 F_are_counts := d_are_counts T c_is_count (dn_of F30 (glo "are_counts" 27 rfl) b30)
  have c_long_in : Cl P w K mg base 1 "long_in" 2 F_long_in := d_long_in T  (dn_of F31 (glo "long_in" 28 rfl) b31)
  have c_does_fit : Cl P w K mg base 2 "does_fit" 3 F_does_fit := d_does_fit T c_long_in (dn_of F32 (glo "does_fit" 29 rfl) b32)
  have c_is_cut : Cl P w K mg base 3 "is_cut" 3 F_is_cut := d_is_cut T c_Skin___len__ c_are_counts c_does_fit (dn_of F33 (glo "is_cut" 30 rfl) b33)
  have c_cut_in_all : Cl P w K mg base 1 "cut_in_all" 1 F_cut_in_all := d_cut_in_all T  (dn_of F34 (glo "cut_in_all" 31 rfl) b34)
  have c_pairs_given : Cl P w K mg base 2 "pairs_given" 2 F_pairs_given := d_pairs_given T c_cut_in_all (dn_of F35 (glo "pairs_given" 32 rfl) b35)
  have c_is_whole_cut : Cl P w K mg base 3 "is_whole_cut" 2 F_is_whole_cut := d_is_whole_cut T c_pairs_given c_cut_in_all (dn_of F36 (glo "is_whole_cut" 33 rfl) b36)
  have c_used_in : Cl P w K mg base 2 "used_in" 3 F_used_in := d_used_in T c_long_in (dn_of F37 (glo "used_in" 34 rfl) b37)
  have c_cuttings_of : Cl P w K mg base 3 "cuttings_of" 3 F_cuttings_of := d_cuttings_of T c_used_in (dn_of F38 (glo "cuttings_of" 35 rfl) b38)
  have c_used_by : Cl P w K mg base 3 "used_by" 3 F_used_by := d_used_by T c_used_in (dn_of F39 (glo "used_by" 36 rfl) b39)
  have c_length_of : Cl P w K mg base 1 "length_of" 1 F_length_of := d_length_of T  (dn_of F40 (glo "length_of" 37 rfl) b40)
  have c__law_cut_right : Cl P w K mg base 4 "_law_cut_right" 4 F__law_cut_right := d__law_cut_right T c_is_cut c_is_whole_cut c_pairs_given c_cuttings_of c_Skin___len__ c_used_by c_length_of (dn_of F41 (glo "_law_cut_right" 38 rfl) b41)
  have c_is_row : Cl P w K mg base 1 "is_row" 1 F_is_row := d_is_row T  (dn_of F42 (glo "is_row" 39 rfl) b42)
  have c_are_rows : Cl P w K mg base 2 "are_rows" 1 F_are_rows := d_are_rows T c_is_row (dn_of F43 (glo "are_rows" 40 rfl) b43)
  have c_sums_behind : Cl P w K mg base 4 "sums_behind" 3 F_sums_behind := d_sums_behind T c_greatest c_zone_cuts c_together (dn_of F44 (glo "sums_behind" 41 rfl) b44)
  have c_most_holds : Cl P w K mg base 5 "most_holds" 4 F_most_holds := d_most_holds T c_Skin___len__ c_are_rows c_is_covered c_sums_behind c_pairs_for (dn_of F45 (glo "most_holds" 42 rfl) b45)
  have c__law_bent : Cl P w K mg base 2 "_law_bent" 3 F__law_bent := d__law_bent T c__law_draw (dn_of F46 (glo "_law_bent" 43 rfl) b46)
  have c__law_right : Cl P w K mg base 6 "_law_right" 3 F__law_right := d__law_right T c__law_all_sums c__law_given c_most_pairs c_read_skin c_Skin___str__ c__law_cut_right c__law_pick c_is_cut c_pairs_given c_most_holds c__law_bent m_Skin_2 (dn_of F47 (glo "_law_right" 44 rfl) b47)
  have c_table_for : Cl P w K mg base 1 "table_for" 3 F_table_for := d_table_for T  (dn_of F48 (glo "table_for" 45 rfl) b48)
  exact fl_fnD F49 sc_law (b_law T c__law_deck c__law_small_zones c__law_table c__law_draw c__law_right c_table_for m_Skin_0 _)
end G84
set_option Elab.async false
set_option linter.all false
set_option maxRecDepth 100000
/-! printed by gen.py: the end -/
open PySem PySem.W PySem.Calls PyProof.Rows
set_option maxHeartbeats 0 in
theorem PySem.Challenge.cw_glovepairs_k84_whole_small_skins_by_all_holds : PySem.Challenge.rw_glovepairs_k84_whole_small_skins_by_all.Holds := by
  w_on; o_law
  refine HandSHeadRun.head_any (r := OpenLaw.row PySem.Challenge.rw_glovepairs_k84_whole_small_skins_by_all) (q := view (OpenLaw.row PySem.Challenge.rw_glovepairs_k84_whole_small_skins_by_all).prog [67]) (H := G84.hk) (ob := G84.ob) (M := 4000) (loose := G84.loL) (d := HandSHeadRun.topDef (OpenLaw.row PySem.Challenge.rw_glovepairs_k84_whole_small_skins_by_all).prog 67) (kwd := []) G84.ob_eq
    (by kernel_rfl) (fun s => by kernel_rfl) G84.run (by kernel_rfl) (by kernel_rfl) (by kernel_rfl) (by rfl) (by first | assumption | decide +kernel) (by decide +kernel) ⟨rfl, rfl, rfl, rfl, rfl, by decide +kernel⟩ ?hw ?hc
  case hw => w_witness2
  case hc =>
    refine L2.walk_ofE (l := PySem.Challenge.rw_glovepairs_k84_whole_small_skins_by_all) (n := 63) (k := 7) (x := "_law_script") (CX := L2.CX0) rfl (by decide) (by kernel_rfl) ⟨rfl, by decide, by decide⟩ ?F (fun _ _ _ _ z => z)
    intro w mg fa h Y G hmg0
    obtain ⟨K, KX, c⟩ := Y
    have hmg : mg ("law" : PySem.Str) = some (.ref fa) := by
      have e : (HandSHeadRun.topDef (OpenLaw.row PySem.Challenge.rw_glovepairs_k84_whole_small_skins_by_all).prog 67).name = ("law" : PySem.Str) := by kernel_rfl
      rw [← e]
      exact hmg0
    obtain ⟨fd, hb, hF⟩ := G84.facts (P := (PySem.Challenge.rw_glovepairs_k84_whole_small_skins_by_all).prog) (w := w) KX G hmg c
    exact ⟨K, fd, Fl.spF K mg 1 G84.F_law, KX, hb, fun H a ns hl _ hS => Fl.law_sp (fun xs _ => G84.t_law xs) H a ns hl hS, hF⟩
