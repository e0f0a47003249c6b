import PyProof.Rows.All
import Wide.All
import OpenK.AllK
import Wide.FinOn
import HandS.TupSets
import KE.KDictKeyed
import KE.SortData
import KE.KDictSum
import KE.KeyNested
import HandS.Strs
import HandS.Evl
import HandS.Star
import HandS.TupAny
import HandS.IsInst
import HandS.Style
import HandS.ExcValue
import KE.KRevSl
import HandS.Steps
import HandS.Iter
import HandS.Zip
import HandS.Words
import HandS.WordsExc
import HandS.Defaults
import HandS.Text
import HandS.Flow
import HandS.WideBits
import PyProof.ListStr
import HandS.TupLen
import HandS.Codes
import KE.KDictDisplayH
import HandS.Dict
import HandS.DictComp
import KE.KDictWalk
import KE.KDictCopyH
import KE.GoesEnum
import KE.GoesMore
import KE.KStateDown
import Lean
import HandS.Base
import HandS.Call
import HandS.Ends
import HandS.More
import HandS.Head0
import HandS.Head1
import HandS.Head2
import HandS.HeadEnd
import HandS.HeadHook1
import HandS.HeadHook2
import PySem.Challenge.RW_moredone_k65_whole_leads_stages_and_turn
set_option Elab.async false
set_option linter.all false
set_option maxRecDepth 100000
set_option maxHeartbeats 4000000
/-! sets of nested tuples: tables of any power of two -/
namespace MoR
open PySem PySem.Spec PyProof.Rows L2

/-! ### the round of i -> 5 i + 1, any power of two -/
/-- 2^k turns of x -> 5 x + 1, without the table's size -/
def gT : Nat → Nat → Nat
  | 0, x => 5 * x + 1
  | k + 1, x => gT k (gT k x)
theorem gT_form : ∀ k : Nat, ∃ u : Nat, ∀ x, gT k x = x + 2 ^ k * ((2 * u + 1) * (4 * x + 1))
  | 0 => ⟨0, fun x => by show 5 * x + 1 = _; simp; omega⟩
  | k + 1 => by
    obtain ⟨u, hu⟩ := gT_form k
    refine ⟨u + 2 ^ k * (2 * u + 1) * (2 * u + 1), fun x => ?_⟩
    show gT k (gT k x) = _
    rw [hu (gT k x), hu x]
    generalize hU : 2 * u + 1 = U
    generalize hP : 2 ^ k = P
    have hP2 : 2 ^ (k + 1) = 2 * P := by rw [Nat.pow_succ, hP, Nat.mul_comm]
    rw [hP2]
    have e1 : 2 * (u + P * U * U) + 1 = U + 2 * (P * U * U) := by omega
    rw [e1]
    generalize hX : 4 * x + 1 = X
    have e2 : 4 * (x + P * (U * X)) + 1 = X + 4 * (P * (U * X)) := by omega
    rw [e2]
    have e3 : U * (X + 4 * (P * (U * X))) = U * X + 4 * (U * (P * (U * X))) := by rw [Nat.mul_add, Nat.mul_left_comm U 4]
    have e4 : (U + 2 * (P * U * U)) * X = U * X + 2 * (U * (P * (U * X))) := by
      rw [Nat.add_mul, Nat.mul_assoc 2]
      congr 2
      simp only [Nat.mul_assoc, Nat.mul_left_comm, Nat.mul_comm]
    rw [e3, e4]
    generalize U * (P * (U * X)) = Z
    generalize U * X = Y
    have e5 : P * (Y + 4 * Z) = P * Y + 4 * (P * Z) := by rw [Nat.mul_add, Nat.mul_left_comm P 4]
    have e6 : 2 * P * (Y + 2 * Z) = 2 * (P * Y) + 4 * (P * Z) := by
      rw [Nat.mul_assoc, Nat.mul_add, Nat.mul_left_comm P 2]
      omega
    rw [e5, e6]
    omega
def gN : Nat → Nat → Nat
  | 0, x => x
  | n + 1, x => 5 * gN n x + 1
theorem gN_add (a : Nat) : ∀ (b x : Nat), gN (a + b) x = gN b (gN a x)
  | 0, x => rfl
  | b + 1, x => by show 5 * gN (a + b) x + 1 = 5 * gN b (gN a x) + 1; rw [gN_add a b x]
theorem gT_gN : ∀ (k x : Nat), gT k x = gN (2 ^ k) x
  | 0, x => rfl
  | k + 1, x => by
    show gT k (gT k x) = _
    rw [gT_gN k, gT_gN k, ← gN_add]
    congr 1
    rw [Nat.pow_succ]; omega
/-- each rest is met within 2^k turns -/
theorem gN_meets : ∀ (k i j : Nat), ∃ n, n < 2 ^ k ∧ gN n i % 2 ^ k = j % 2 ^ k
  | 0, i, j => ⟨0, by decide, by simp [Nat.mod_one]⟩
  | k + 1, i, j => by
    obtain ⟨n, hn, e⟩ := gN_meets k i j
    have hp : 2 ^ (k + 1) = 2 * 2 ^ k := by rw [Nat.pow_succ, Nat.mul_comm]
    have hpos : 0 < 2 ^ k := Nat.pow_pos (by decide)
    have split2 : ∀ z, z % (2 * 2 ^ k) = z % 2 ^ k ∨ z % (2 * 2 ^ k) = z % 2 ^ k + 2 ^ k := fun z => by
      have h1 : z % (2 * 2 ^ k) % 2 ^ k = z % 2 ^ k := Nat.mod_mul_left_mod z 2 (2 ^ k)
      have h2 : z % (2 * 2 ^ k) < 2 * 2 ^ k := Nat.mod_lt _ (by omega)
      generalize z % (2 * 2 ^ k) = y at h1 h2
      rw [← h1]
      by_cases c : y < 2 ^ k
      · left; rw [Nat.mod_eq_of_lt c]
      · right
        have : y % 2 ^ k = y - 2 ^ k := by rw [Nat.mod_eq_sub_mod (by omega), Nat.mod_eq_of_lt (by omega)]
        omega
    by_cases c : gN n i % 2 ^ (k + 1) = j % 2 ^ (k + 1)
    · exact ⟨n, by omega, c⟩
    · refine ⟨n + 2 ^ k, by omega, ?_⟩
      rw [gN_add, ← gT_gN]
      obtain ⟨u, hu⟩ := gT_form k
      rw [hu]
      generalize gN n i = y at e c
      have ho : ∃ c, (2 * u + 1) * (4 * y + 1) = 2 * c + 1 := ⟨u * (4 * y + 1) + 2 * y, by rw [Nat.add_mul, Nat.mul_assoc]; omega⟩
      obtain ⟨c', hc'⟩ := ho
      rw [hc']
      have e2 : y + 2 ^ k * (2 * c' + 1) = (y + 2 ^ k) + (2 * 2 ^ k) * c' := by rw [Nat.mul_add, Nat.mul_one, Nat.mul_assoc, Nat.mul_left_comm]; omega
      rw [e2, hp, Nat.add_mul_mod_self_left]
      rw [hp] at c
      have sj := split2 j
      have sy := split2 y
      rw [Nat.add_mod, Nat.mod_eq_of_lt (show 2 ^ k < 2 * 2 ^ k by omega)]
      have hlt : y % 2 ^ k < 2 ^ k := Nat.mod_lt _ hpos
      rcases sy with sy | sy <;> rcases sj with sj | sj
      · exact absurd (by rw [sy, sj, e]) c
      · rw [sy, sj, e, Nat.mod_eq_of_lt (by have := Nat.mod_lt j hpos; omega)]
      · rw [sy, sj, show y % 2 ^ k + 2 ^ k + 2 ^ k = y % 2 ^ k + 2 * 2 ^ k by omega, Nat.add_mod_right, e, Nat.mod_eq_of_lt (by have := Nat.mod_lt j hpos; omega)]
      · exact absurd (by rw [sy, sj, e]) c
theorem lcg_gN (m i : Nat) : ∀ n, L2.lcgI m i n % (m + 1) = gN n i % (m + 1)
  | 0 => rfl
  | n + 1 => by
    show (L2.lcgI m i n * 5 + 1) % (m + 1) % (m + 1) = (5 * gN n i + 1) % (m + 1)
    rw [Nat.mod_mod, Nat.add_mod, Nat.mul_mod, lcg_gN m i n, ← Nat.mul_mod, ← Nat.add_mod, Nat.mul_comm]
/-- the masks that come: 2^k - 1 -/
def MaskG (m : Nat) : Prop := ∃ k, 3 ≤ k ∧ k ≤ 13 ∧ m + 1 = 2 ^ k
theorem MaskG.le {m : Nat} (h : MaskG m) : 7 ≤ m ∧ m ≤ 8191 := by
  obtain ⟨k, h1, h2, e⟩ := h
  have a : 2 ^ 3 ≤ 2 ^ k := Nat.pow_le_pow_right (by decide) h1
  have b : 2 ^ k ≤ 2 ^ 13 := Nat.pow_le_pow_right (by decide) h2
  have c : 2 ^ 3 = 8 := by decide
  have d : 2 ^ 13 = 8192 := by decide
  omega
theorem MaskG.odd {m : Nat} (h : MaskG m) : m % 2 = 1 := by
  obtain ⟨k, h1, _, e⟩ := h
  obtain ⟨j, rfl⟩ : ∃ j, k = j + 1 := ⟨k - 1, by omega⟩
  rw [Nat.pow_succ] at e
  omega
theorem lcgI_meets {m : Nat} (hm : MaskG m) {i j : Nat} (hi : i ≤ m) (hj : j ≤ m) : ∃ k, k ≤ m ∧ L2.lcgI m i k = j := by
  obtain ⟨k, _, _, e⟩ := hm
  obtain ⟨n, hn, h⟩ := gN_meets k i j
  refine ⟨n, by omega, ?_⟩
  rw [← e, ← lcg_gN, Nat.mod_eq_of_lt (show j < m + 1 by omega)] at h
  cases n with
  | zero => rw [← h]; exact (Nat.mod_eq_of_lt (show i < m + 1 by omega)).symm
  | succ n =>
    have : L2.lcgI m i (n + 1) < m + 1 := Nat.mod_lt _ (Nat.succ_pos _)
    rwa [Nat.mod_eq_of_lt this] at h
theorem runs_meet {m : Nat} (hm : MaskG m) (h : Int) {j : Nat} (hj : j ≤ m) : ∃ n, n ≤ m + 12 ∧ runI m (SetTable.bits h) n = j := by
  obtain ⟨k, hk, e⟩ := lcgI_meets hm (runI_le m (SetTable.bits h) 12) hj
  exact ⟨12 + k, by omega, (runI_tail (bits_lt h) k).trans e⟩
theorem way_meets {m : Nat} (hm : MaskG m) (h : Int) {j : Nat} (hj : j ≤ m) : ∃ k, k < 10 * SetTable.turns m ∧ way m h k = j := by
  obtain ⟨n, hn, e⟩ := runs_meet hm h hj
  obtain ⟨k, hk, e2⟩ := run_nth m (SetTable.bits h) n
  exact ⟨k, by unfold SetTable.turns; omega, (congrArg SetTable.Probe.j e2).trans e⟩
theorem way_in (m : Nat) (h : Int) (k : Nat) : way m h k ≤ m := by
  have hi : SetTable.bits h % (m + 1) ≤ m := Nat.le_of_lt_succ (Nat.mod_lt _ (Nat.succ_pos _))
  have r := runEnd_bd hi
  have q := nth_in (m := m) k (runAt m (SetTable.bits h % (m + 1)) (SetTable.bits h)) (Nat.le_trans (Nat.le_of_eq (by show SetTable.bits h % (m + 1) + (SetTable.runEnd m (SetTable.bits h % (m + 1)) - SetTable.bits h % (m + 1)) = SetTable.runEnd m (SetTable.bits h % (m + 1)); omega)) r.1)
  exact Nat.le_trans (Nat.le_add_right _ _) q

/-! ### a table whose entries are found from their hashes -/
structure TabG (t : SetTable) (hs : List Int) : Prop where
  ris : Ris t.place.toList
  dm : t.dummies = #[]
  sz : t.place.size = hs.length
  mok : MaskG t.mask
  bd : ∀ x ∈ t.place.toList, x ≤ t.mask
  reach : ∀ (i : Nat) (h : Int) (j : Nat), hs[i]? = some h → t.place.toList[i]? = some j → ∃ k, way t.mask h k = j ∧ ∀ k', k' < k → way t.mask h k' ∈ t.place.toList
theorem TabG.first {t : SetTable} {hs : List Int} (T : TabG t hs) (hl : hs.length ≤ t.mask) (h : Int) : ∃ K, K < 10 * SetTable.turns t.mask ∧ way t.mask h K ∉ t.place.toList ∧ ∀ k, k < K → way t.mask h k ∈ t.place.toList := by
  obtain ⟨j, hj, hn⟩ := st_missing t.place.toList (t.mask + 1) (by rw [Array.length_toList, T.sz]; omega)
  obtain ⟨k, hk, e⟩ := way_meets T.mok h (Nat.le_of_lt_succ hj)
  obtain ⟨K, h1, h2, h3⟩ := st_least (p := fun k => way t.mask h k ∉ t.place.toList) k (by rw [e]; exact hn)
  exact ⟨K, Nat.lt_of_le_of_lt h1 hk, h2, fun k' hk' => Classical.byContradiction (h3 k' hk')⟩
theorem TabG.before {t : SetTable} {hs : List Int} (T : TabG t hs) {h : Int} {K i j : Nat} (hK : way t.mask h K ∉ t.place.toList) (hi : hs[i]? = some h) (hj : t.place.toList[i]? = some j) : ∃ k, k < K ∧ way t.mask h k = j := by
  obtain ⟨k, e, hb⟩ := T.reach i h j hi hj
  refine ⟨k, Nat.lt_of_not_le fun c => ?_, e⟩
  rcases Nat.lt_or_eq_of_le c with c | c
  · exact hK (hb K c)
  · rw [c, e] at hK; exact hK (List.mem_of_getElem? hj)
/-- what put leaves: the new hash at the place p -/
structure PutG (t t' : SetTable) (hs : List Int) (h : Int) (p : Nat) : Prop where
  le : p ≤ hs.length
  tab : TabG t' (hs.take p ++ h :: hs.drop p)
  mask : t'.mask = t.mask
  led : t'.led = t.led
  fill : t'.fill = hs.length + 1
theorem TabG.put {t : SetTable} {hs : List Int} (T : TabG t hs) {h : Int} {K : Nat} (hK : way t.mask h K ∉ t.place.toList) (hb : ∀ k, k < K → way t.mask h k ∈ t.place.toList) :
    PutG t (t.put (way t.mask h K)).1 hs h (t.put (way t.mask h K)).2 := by
  have hjm := way_in t.mask h K
  generalize hj : way t.mask h K = j at hK hjm
  have cut := (below_cut T.ris j).1
  have hp1 : SetTable.below t.place j ≤ t.place.toList.length := by rw [Array.length_toList]; exact cut
  have hp2 : SetTable.below t.place j ≤ hs.length := by rw [← T.sz]; exact cut
  have hpp := put_place t j
  have hin : ∀ x, x ∈ (t.put j).1.place.toList ↔ x = j ∨ x ∈ t.place.toList := fun x => by rw [hpp]; exact L2.mem_ins
  have hsize : (t.put j).1.place.size = hs.length + 1 := by rw [← Array.length_toList, hpp, len_ins _ hp1, Array.length_toList, T.sz]
  refine ⟨hp2, ⟨ris_insert T.ris fun e => hK (List.mem_of_getElem? (by rw [Array.getElem?_toList]; exact e)), put_dm T.dm j, hsize.trans (len_ins _ hp2 _).symm, T.mok, fun x hx => ?_, fun i h' j' h1 h2 => ?_⟩, rfl, rfl, ?_⟩
  · rcases (hin x).mp hx with rfl | q
    · exact hjm
    · exact T.bd x q
  · have h1' : (hs.take (SetTable.below t.place j) ++ h :: hs.drop (SetTable.below t.place j))[i]? = some h' := h1
    rw [tins_get hs hp2] at h1'
    rw [hpp, tins_get _ hp1] at h2
    have old : ∀ i0, hs[i0]? = some h' → t.place.toList[i0]? = some j' → ∃ k, way t.mask h' k = j' ∧ ∀ k', k' < k → way t.mask h' k' ∈ (t.put j).1.place.toList := fun i0 a b => by
      obtain ⟨k, e, z⟩ := T.reach i0 h' j' a b
      exact ⟨k, e, fun k' hk' => (hin _).mpr (.inr (z k' hk'))⟩
    by_cases c : i < SetTable.below t.place j
    · rw [if_pos c] at h1' h2; exact old i h1' h2
    · rw [if_neg c] at h1' h2
      by_cases d : i = SetTable.below t.place j
      · rw [if_pos d] at h1' h2
        cases h1'; cases h2
        exact ⟨K, hj, fun k' hk' => (hin _).mpr (.inr (hb k' hk'))⟩
      · rw [if_neg d] at h1' h2; exact old (i - 1) h1' h2
  · show (t.put j).1.place.size + (t.put j).1.dummies.size = _
    rw [hsize, put_dm T.dm j]; rfl
end MoR
set_option maxHeartbeats 4000000
/-! sets of nested tuples: a table laid anew -/
namespace MoR
open PySem PySem.Spec PyProof.Rows L2

/-- the place that laying anew takes for a hash: the first free one of its way -/
theorem free_way {m : Nat} (hm : MaskG m) (owner : Array (Option Nat)) (h : Int) {j : Nat} (hj : j ≤ m) (hf : oAt owner j = none) :
    ∃ K, SetTable.layClean.free m owner (SetTable.turns m) (SetTable.bits h % (m + 1)) (SetTable.bits h) = some (way m h K) ∧ oAt owner (way m h K) = none ∧ ∀ k, k < K → oAt owner (way m h k) ≠ none := by
  obtain ⟨n, hn, e⟩ := runs_meet hm h hj
  have hw : way m h (off m (SetTable.bits h % (m + 1)) (SetTable.bits h) n) = j := by
    have q := nth_off m n (SetTable.bits h % (m + 1)) (SetTable.bits h)
    rw [itL_run] at q
    exact (congrArg SetTable.Probe.j q).trans e
  obtain ⟨K, k1, k2, k3⟩ := st_least (p := fun k => oAt owner (way m h k) = none) _ (by rw [hw]; exact hf)
  refine ⟨K, free_spec m owner (SetTable.turns m) n _ _ K (by unfold SetTable.turns; omega) k1 (fun k hk => ?_) ?_, k2, k3⟩
  · cases z : oAt owner (nth m (runAt m (SetTable.bits h % (m + 1)) (SetTable.bits h)) k).j with
    | none => exact absurd z (k3 k hk)
    | some _ => rfl
  · have k2' : oAt owner (nth m (runAt m (SetTable.bits h % (m + 1)) (SetTable.bits h)) K).j = none := k2
    rw [k2']; rfl
theorem own_more {m : Nat} (hm : MaskG m) {done : List Int} {owner : Array (Option Nat)} (W : Own m done owner) (hl : done.length ≤ m) (h : Int) :
    ∃ j, SetTable.layClean.free m owner (SetTable.turns m) (SetTable.bits h % (m + 1)) (SetTable.bits h) = some j ∧ Own m (done ++ [h]) (owner.setIfInBounds j (some done.length)) := by
  obtain ⟨ps, hps, hin⟩ := W.ps
  obtain ⟨j0, h0, hn0⟩ := st_missing ps (m + 1) (by omega)
  have hj0 : oAt owner j0 = none := Classical.byContradiction fun z => hn0 (hin j0 (Nat.le_of_lt_succ h0) z)
  obtain ⟨K, e1, e2, e3⟩ := free_way hm owner h (Nat.le_of_lt_succ h0) hj0
  have hjm := way_in m h K
  refine ⟨_, e1, ?_⟩
  generalize hjj : way m h K = j at e2 hjm
  have hself : oAt (owner.setIfInBounds j (some done.length)) j = some done.length := oAt_set_self _ (by rw [W.sz]; omega)
  have hoth : ∀ {i : Nat}, i ≠ j → oAt (owner.setIfInBounds j (some done.length)) i = oAt owner i := fun c => oAt_set_ne _ c
  have mono : ∀ {i : Nat}, oAt owner i ≠ none → oAt (owner.setIfInBounds j (some done.length)) i ≠ none := fun {i} hi => by
    by_cases c : i = j
    · rw [c, hself]; simp
    · rw [hoth c]; exact hi
  have hlen : (done ++ [h]).length = done.length + 1 := by simp
  refine ⟨by rw [Array.size_setIfInBounds]; exact W.sz, fun i k hi e => ?_, fun k hk => ?_, ⟨j :: ps, by rw [List.length_cons, hlen, hps], fun i hi e => ?_⟩⟩
  · by_cases c : i = j
    · rw [c, hself] at e
      cases e
      exact ⟨h, K, by simp, by rw [hjj, c], fun k' hk' => mono (e3 k' hk')⟩
    · rw [hoth c] at e
      obtain ⟨h', K', a1, a2, a3⟩ := W.at_ i k hi e
      exact ⟨h', K', by rw [List.getElem?_append_left (List.getElem?_eq_some_iff.mp a1).1]; exact a1, a2, fun k' hk' => mono (a3 k' hk')⟩
  · rw [hlen] at hk
    by_cases c : k = done.length
    · exact ⟨j, hjm, by rw [c]; exact hself⟩
    · obtain ⟨i, hi, e⟩ := W.all k (by omega)
      exact ⟨i, hi, by rw [hoth (fun z => by rw [z, e2] at e; cases e)]; exact e⟩
  · by_cases c : i = j
    · rw [c]; exact List.mem_cons_self
    · rw [hoth c] at e; exact List.mem_cons_of_mem _ (hin i hi e)
theorem lay_fold {m : Nat} (hm : MaskG m) : ∀ (rest done : List Int) (owner : Array (Option Nat)), Own m done owner → done.length + rest.length ≤ m →
    ∃ owner' n, rest.foldl (stepF m) (some (owner, done.length)) = some (owner', n) ∧ Own m (done ++ rest) owner'
  | [], done, owner, W, _ => ⟨owner, done.length, rfl, by rw [List.append_nil]; exact W⟩
  | h :: rest, done, owner, W, hl => by
    rw [List.length_cons] at hl
    obtain ⟨j, e, W'⟩ := own_more hm W (by omega) h
    have hl' : (done ++ [h]).length = done.length + 1 := by simp
    obtain ⟨owner', n, f, W2⟩ := lay_fold hm rest (done ++ [h]) _ W' (by omega)
    refine ⟨owner', n, ?_, by rw [List.append_cons]; exact W2⟩
    rw [List.foldl_cons, stepF_some e, ← hl']
    exact f
theorem lay_clean {m : Nat} (hm : MaskG m) {hs : Array Int} (hn : hs.size ≤ m) : ∃ owner, SetTable.layClean m hs = some owner ∧ Own m hs.toList owner := by
  obtain ⟨owner, n, f, W⟩ := lay_fold hm hs.toList [] _ (Own.init m) (by show 0 + hs.toList.length ≤ m; have : hs.toList.length = hs.size := Array.length_toList; omega)
  refine ⟨owner, ?_, W⟩
  rw [layClean_eq]
  exact congrArg (Option.map (·.1)) f
/-- the relaid table: the same entries in another order -/
structure RelG (t t' : SetTable) (hs : Array Int) (order : Array Nat) (M : Nat) : Prop where
  perm : order.toList.Perm (List.range hs.size)
  tab : TabG t' (order.toList.map fun i => hs.getD i 0)
  mask : t'.mask = M
  led : t'.led = t.led
theorem relay_tab (t : SetTable) {hs : Array Int} {wanted M : Nat} (hw : SetTable.sizeAbove wanted - 1 = M) (hM : MaskG M) (hn : hs.size ≤ M) : ∃ t' order, t.relaid hs wanted = some (t', order) ∧ RelG t t' hs order M := by
  obtain ⟨owner, e, W⟩ := lay_clean hM hn
  have hr : t.relaid hs wanted = some (tabOf t M owner, ((liveOf M owner).map (·.2)).toArray) := by rw [relaid_eq, hw, e]; rfl
  have hml : ∀ {j k : Nat}, (j, k) ∈ liveOf M owner ↔ j ≤ M ∧ oAt owner j = some k := mem_live W.sz
  obtain ⟨r1, r2⟩ := ris_live (fun j => owner.getD j none) (List.range (M + 1)) (List.pairwise_lt_range)
  have r1 : Ris ((liveOf M owner).map (·.1)) := r1
  have r2 : ∀ x ∈ (liveOf M owner).map (·.1), x ∈ List.range (M + 1) := r2
  have hall : ∀ k, k < hs.size → k ∈ (liveOf M owner).map (·.2) := fun k hk => by
    obtain ⟨j, b1, b2⟩ := W.all k (by rw [Array.length_toList]; exact hk)
    exact List.mem_map.mpr ⟨(j, k), hml.mpr ⟨b1, b2⟩, rfl⟩
  have hlen : ((liveOf M owner).map (·.2)).length = hs.size := by
    obtain ⟨ps, p1, p2⟩ := W.ps
    have nd : ((liveOf M owner).map (·.1)).Nodup := List.Pairwise.imp (fun h => Nat.ne_of_lt h) r1
    have a := nat_nodup_len ((liveOf M owner).map (·.1)) ps nd fun x hx => by
      obtain ⟨⟨y, k⟩, hq, rfl⟩ := List.mem_map.mp hx
      obtain ⟨b1, b2⟩ := hml.mp hq
      exact p2 y b1 (by rw [b2]; simp)
    have b := nat_nodup_len (List.range hs.size) ((liveOf M owner).map (·.2)) List.nodup_range fun k hk => hall k (List.mem_range.mp hk)
    have hz : hs.toList.length = hs.size := Array.length_toList
    rw [List.length_map] at a b ⊢
    rw [List.length_range] at b
    omega
  refine ⟨_, _, hr, ⟨perm_range hs.size _ hlen hall, ⟨r1, rfl, ?_, hM, fun x hx => Nat.le_of_lt_succ (List.mem_range.mp (r2 x hx)), fun i h j h1 h2 => ?_⟩, rfl, rfl⟩⟩
  · show ((liveOf M owner).map (·.1)).toArray.size = _
    simp
  · have h1' : (((liveOf M owner).map (·.2)).map fun i => hs.getD i 0)[i]? = some h := h1
    have h2' : ((liveOf M owner).map (·.1))[i]? = some j := h2
    rw [List.getElem?_map, List.getElem?_map] at h1'
    rw [List.getElem?_map] at h2'
    obtain ⟨⟨y, k⟩, hq, e1⟩ := Option.map_eq_some_iff.mp h2'
    rw [hq] at h1'
    have ej : y = j := e1
    subst ej
    have eh : hs.getD k 0 = h := Option.some.inj h1'
    obtain ⟨b1, b2⟩ := hml.mp (List.mem_of_getElem? hq)
    obtain ⟨h0, K, a1, a2, a3⟩ := W.at_ y k b1 b2
    have e0 : hs.getD k 0 = h0 := by rw [Array.getD_eq_getD_getElem?, ← Array.getElem?_toList, a1]; rfl
    have ehh : h0 = h := e0.symm.trans eh
    subst ehh
    refine ⟨K, a2, fun k' hk' => ?_⟩
    obtain ⟨k2, z⟩ := Option.ne_none_iff_exists'.mp (a3 k' hk')
    exact List.mem_map.mpr ⟨(way M h0 k', k2), hml.mpr ⟨way_in M h0 k', z⟩, rfl⟩

/-! ### the sizes that come -/
/-- the masks that a set grown item by item goes through -/
def Sz (m : Nat) : Prop := m = 7 ∨ m = 31 ∨ m = 127 ∨ m = 511 ∨ m = 2047 ∨ m = 8191
theorem Sz.mask {m : Nat} (h : Sz m) : MaskG m := by
  rcases h with h | h | h | h | h | h <;> subst h
  · exact ⟨3, by decide, by decide, rfl⟩
  · exact ⟨5, by decide, by decide, rfl⟩
  · exact ⟨7, by decide, by decide, rfl⟩
  · exact ⟨9, by decide, by decide, rfl⟩
  · exact ⟨11, by decide, by decide, rfl⟩
  · exact ⟨13, by decide, by decide, rfl⟩
theorem Sz.grow {m n : Nat} (h : Sz m) (hr : n * 5 < m * 3) (hf : ¬ (n + 1) * 5 < m * 3) (hn : n < 4096) :
    ∃ M, Sz M ∧ SetTable.sizeAbove (SetTable.grown (n + 1)) = M + 1 ∧ (n + 1) * 5 < M * 3 ∧ n + 1 ≤ M ∧ M + 1 ≤ 8192 := by
  rcases h with h | h | h | h | h | h <;> subst h
  · have e : n = 4 := by omega
    subst e; exact ⟨31, .inr (.inl rfl), by decide +kernel, by decide, by decide, by decide⟩
  · have e : n = 18 := by omega
    subst e; exact ⟨127, .inr (.inr (.inl rfl)), by decide +kernel, by decide, by decide, by decide⟩
  · have e : n = 76 := by omega
    subst e; exact ⟨511, .inr (.inr (.inr (.inl rfl))), by decide +kernel, by decide, by decide, by decide⟩
  · have e : n = 306 := by omega
    subst e; exact ⟨2047, .inr (.inr (.inr (.inr (.inl rfl)))), by decide +kernel, by decide, by decide, by decide⟩
  · have e : n = 1228 := by omega
    subst e; exact ⟨8191, .inr (.inr (.inr (.inr (.inr rfl)))), by decide +kernel, by decide, by decide, by decide⟩
  · omega
end MoR
set_option maxHeartbeats 4000000
/-! sets of nested tuples -/
namespace MoR
open PySem PySem.Spec PyProof.Rows L2

abbrev khash (w : World) (k : NestedKey) : Int := NestedKey.hash w k
/-- the tuple at a is the key k -/
structure IsK (P : Program) (w : World) (h : Heap) (k : NestedKey) (a : Addr) : Prop where
  is : NestedIs h k (.ref a)
  dp : k.depth ≤ 8
section
variable {P : Program} {w : World} {A : Around} {E : Value → Shared → Prop} {s : Shared}
theorem depth_mem : ∀ (ks : List NestedKey) (k : NestedKey), k ∈ ks → k.depth ≤ NestedKey.depthAll ks
  | [], _, h => by cases h
  | x :: ks, k, h => by
    simp only [NestedKey.depthAll]
    rcases List.mem_cons.mp h with e | h
    · rw [e]; exact Nat.le_max_left _ _
    · exact Nat.le_trans (depth_mem ks k h) (Nat.le_max_right _ _)
theorem ofAClass_key : ∀ (n : Nat) (k : NestedKey) (v : Value) (Q : Bool → Shared → Prop), NestedIs s.heap k v → k.depth ≤ n → Q false s → wpAny (model P w) A (ofAClassStatement n v) Q E s
  | n, .none, _, Q, x, _, h => by cases x; cases n <;> exact wpAny_pure h
  | n, .num i, _, Q, x, _, h => by cases x <;> cases n <;> exact wpAny_pure h
  | n, .text y, _, Q, x, _, h => by cases x; cases n <;> exact wpAny_pure h
  | 0, .tup ks, _, Q, x, hn, h => by simp only [NestedKey.depth] at hn; omega
  | n + 1, .tup ks, _, Q, x, hn, h => by
    cases x with
    | @tup a o vs _ _ hg hc hd hk =>
      simp only [NestedKey.depth] at hn
      have hT : s.TypeIs (.ref a) "tuple" := ⟨o, hg, hc⟩
      unfold ofAClassStatement
      refine wpAny_bind (wpAny_typeOf hT ?_)
      dsimp only
      have e : (("tuple" : String) == "tuple") = true := by decide
      simp only [e, if_true, Bool.not_true, Bool.false_eq_true, if_false]
      try refine wpAny_bind (wpAny_pure ?_)
      try simp only [Bool.not_true, Bool.false_eq_true, if_false]
      show wpAny _ _ (seqItems? (.ref a) >>= _) _ _ s
      refine wpAny_bind (wpAny_seqItems hg hd ?_)
      dsimp only
      refine wpAny_bind ?_
      show wpAny _ _ (forIn vs _ _) _ _ s
      rw [← Array.forIn_toList]
      refine wpAny_forIn_list _ (fun rest r s' => r.1 = none ∧ s' = s ∧ ∃ kr, NestedAll s.heap kr rest ∧ ∀ k ∈ kr, k ∈ ks) _ ?_ ?_ _ _ ⟨rfl, rfl, ks, hk, fun _ h => h⟩
      · rintro v rest r s' ⟨hr, es, kr, hall, hin⟩
        replace es := es.symm; subst es
        cases hall with
        | @cons k0 _ kr' _ x1 x2 =>
          have hm : k0 ∈ ks := hin k0 List.mem_cons_self
          refine wpAny_bind (ofAClass_key n k0 v _ x1 ?_ ?_)
          · have := depth_mem ks k0 hm; omega
          · simp only [Bool.false_eq_true, if_false]
            exact wpAny_pure ⟨rfl, rfl, kr', x2, fun k hk => hin k (List.mem_cons_of_mem _ hk)⟩
      · rintro ⟨r1, r2⟩ s' ⟨hr, rfl, _⟩
        simp only at hr
        subst hr
        exact wpAny_pure h
theorem hashBy_key : ∀ (n : Nat) (k : NestedKey) (v : Value) (Q : Bool → Shared → Prop), NestedIs s.heap k v → (∀ b, Q b s) → wpAny (model P w) A (hashByValue n v) Q E s
  | n, .none, _, Q, x, h => by cases x; cases n <;> exact wpAny_pure (h _)
  | n, .num i, _, Q, x, h => by cases x <;> cases n <;> exact wpAny_pure (h _)
  | n, .text y, _, Q, x, h => by cases x; cases n <;> exact wpAny_pure (h _)
  | 0, .tup ks, _, Q, x, h => by cases x; exact wpAny_pure (h _)
  | n + 1, .tup ks, _, Q, x, h => by
    cases x with
    | @tup a o vs _ _ hg hc hd hk =>
      have hT : s.TypeIs (.ref a) "tuple" := ⟨o, hg, hc⟩
      unfold hashByValue
      refine wpAny_bind (wpAny_specialOf hT F.slot_tuple_hash.lookup ?_)
      show wpAny _ _ (seqItems? (.ref a) >>= _) _ _ s
      refine wpAny_bind (wpAny_seqItems hg hd ?_)
      refine wpAny_bind ?_
      show wpAny _ _ (forIn vs _ _) _ _ s
      rw [← Array.forIn_toList]
      refine wpAny_forIn_list _ (fun rest r s' => (r.1 = none ∧ s' = s ∧ ∃ kr, NestedAll s.heap kr rest)) _ ?_ ?_ _ _ ⟨rfl, rfl, ks, hk⟩
      · rintro v rest r s' ⟨hr, es, kr, hall⟩
        replace es := es.symm; subst es
        cases hall with
        | @cons k0 _ kr' _ x1 x2 =>
          refine wpAny_bind (hashBy_key n k0 v _ x1 fun b => ?_)
          cases b
          · simp only [Bool.not_false, if_true]
            exact wpAny_pure (wpAny_pure (h _))
          · simp only [Bool.not_true, Bool.false_eq_true, if_false]
            exact wpAny_pure ⟨rfl, rfl, kr', x2⟩
      · rintro ⟨r1, r2⟩ s' ⟨hr, rfl, _⟩
        simp only at hr
        subst hr
        exact wpAny_pure (h _)
theorem IsK.typeIs {h : Heap} {k : NestedKey} {a : Addr} (x : IsK P w h k a) : ∃ o, h.get? a = some o ∧ o.cls = .type "tuple" := by
  cases x.is with
  | tup hg hc hd hk => exact ⟨_, hg, hc⟩
theorem IsK.quiet {k : NestedKey} {b : Addr} {Q : Bool → Shared → Prop} (hk : IsK P w s.heap k b) (h : Q true s) : wpAny (model P w) A (eqIsQuiet 8 (.ref b)) Q E s := quiet_key k _ 8 s hk.is hk.dp A E Q h
theorem IsK.eq {x y : NestedKey} {a b : Addr} {Q : Bool → Shared → Prop} (hu : A.units + 8 < cLine) (hx : IsK P w s.heap x a) (hy : IsK P w s.heap y b) (h : Q (decide (x = y)) s) : wpAny (model P w) A (eqBool (.ref a) (.ref b)) Q E s :=
  eqAt_key x y A s _ _ hx.is hy.is (by have := hx.dp; omega) _ _ _ _ (by rw [← NestedKey.decide_eq]; exact h)
theorem IsK.hash {k : NestedKey} {a : Addr} {Q : Int → Shared → Prop} (hu : A.units + 8 < cLine) (hx : IsK P w s.heap k a) (h : Q (khash w k) { s with toks := s.toks + k.draws }) : wpAny (model P w) A (pyHash (.ref a)) Q E s :=
  pyHash_key k _ A s Q hx.is (by have := hx.dp; omega) h
theorem IsK.inj {h : Heap} {x y : NestedKey} {a : Addr} (hx : IsK P w h x a) (hy : IsK P w h y a) : x = y := NestedIs.inj _ _ _ hx.is hy.is
/-- a search among tuples shows nothing -/
theorem seen_key {k : NestedKey} {b : Addr} {Q : Bool → Shared → Prop} (hk : IsK P w s.heap k b) {ys : List Value} (hy : ∀ y ∈ ys, ∃ k' c, y = Value.ref c ∧ IsK P w s.heap k' c) (h : Q false s) :
    wpAny (model P w) A (searchCouldBeSeen (.ref b) ys) Q E s := by
  unfold searchCouldBeSeen
  refine wpAny_bind ?_
  refine wpAny_forIn_list _ (fun rest r s' => r.1 = none ∧ s' = s ∧ ∀ y ∈ rest, ∃ k' c, y = Value.ref c ∧ IsK P w s.heap k' c) _ ?_ ?_ _ _ ⟨rfl, rfl, hy⟩
  · rintro v rest r s' ⟨hr, rfl, hall⟩
    obtain ⟨k', c, rfl, hc⟩ := hall v List.mem_cons_self
    have rest' : ∀ y ∈ rest, ∃ k' c, y = Value.ref c ∧ IsK P w s'.heap k' c := fun u hu' => hall u (List.mem_cons_of_mem _ hu')
    dsimp only
    by_cases hv : (b == c || (carriedByValue (.ref b) && carriedByValue (.ref c))) = true
    · refine wp_if_pos hv ?_
      exact wpAny_pure ⟨rfl, rfl, rest'⟩
    · refine wp_if_neg hv ?_
      refine wpAny_bind (IsK.quiet hk ?_)
      simp only [Bool.not_true, Bool.false_eq_true, if_false]
      refine wpAny_bind (IsK.quiet hc ?_)
      simp only [Bool.not_true, Bool.false_eq_true, if_false]
      refine wpAny_bind (ofAClass_key 8 _ _ _ hk.is hk.dp ?_)
      simp only [Bool.false_eq_true, if_false]
      refine wpAny_bind (ofAClass_key 8 _ _ _ hc.is hc.dp ?_)
      simp only [Bool.false_eq_true, if_false]
      exact wpAny_pure ⟨rfl, rfl, rest'⟩
  · rintro ⟨r1, r2⟩ s' ⟨hr, rfl, _⟩
    simp only at hr
    subst hr
    exact wpAny_pure h

/-! ### the set of tuples -/
def rowsK (w : World) (L : List (Addr × NestedKey)) : List (Int × Value) := L.map fun p => (khash w p.2, Value.ref p.1)
structure SetG (P : Program) (w : World) (h : Heap) (a : Addr) (L : List (Addr × NestedKey)) (es : Array (Int × Value)) (ep : Nat) (t : SetTable) : Prop where
  ob : ∃ o, h.get? a = some o ∧ o.ExactSet ∧ o.data = .set es ep t
  rows : es.toList = rowsK w L
  tab : TabG t (L.map fun p => khash w p.2)
  nd : (L.map (·.2)).Nodup
  tup : ∀ p ∈ L, IsK P w h p.2 p.1
  sz : Sz t.mask
  led : w.params.followText "set-order" = true ∨ t.led = true
  room : L.length * 5 < t.mask * 3
  few : L.length < 4096
variable {a : Addr} {L : List (Addr × NestedKey)} {es : Array (Int × Value)} {ep : Nat} {t : SetTable}
theorem SetG.size (R : SetG P w s.heap a L es ep t) : es.size = L.length := by
  have h := congrArg List.length R.rows
  unfold rowsK at h
  rw [Array.length_toList, List.length_map] at h
  exact h
theorem SetG.fits (R : SetG P w s.heap a L es ep t) : t.fits es.size = true := by
  have h1 := R.tab.sz
  rw [List.length_map] at h1
  have h2 := R.size
  have h3 := R.room
  unfold SetTable.fits SetTable.fill
  rw [R.tab.dm, Bool.and_eq_true, beq_iff_eq, decide_eq_true_eq]
  show t.place.size = es.size ∧ t.place.size + 0 ≤ t.mask
  omega
theorem SetG.entry (R : SetG P w s.heap a L es ep t) {i : Nat} {p : Addr × NestedKey} (h : L[i]? = some p) : es[i]? = some (khash w p.2, Value.ref p.1) := by
  rw [← Array.getElem?_toList, R.rows]
  unfold rowsK
  rw [List.getElem?_map, h] <;> rfl
theorem SetG.gw (R : SetG P w s.heap a L es ep t) : ¬ t.gaveWay = true := by
  unfold SetTable.gaveWay
  rw [R.tab.mok.odd]
  decide
theorem sameMem (t : SetTable) : t.sameMemory t.moves t.mask = some true := by
  unfold SetTable.sameMemory
  rw [if_pos (beq_self_eq_true _)]

/-- THE SEARCH: from the c-th step of the way on -/
theorem search_fromK (R : SetG P w s.heap a L es ep t) {x : Addr} {k : NestedKey} (hx : IsK P w s.heap k x) (hu : A.units + 8 < cLine) {K : Nat} (hKf : K < 10 * SetTable.turns t.mask)
    (hK : way t.mask (khash w k) K ∉ t.place.toList) (hKb : ∀ c, c < K → way t.mask (khash w k) c ∈ t.place.toList) {Q : SetFound → Shared → Prop}
    (hin : k ∈ L.map (·.2) → Q (.there none) s) (hout : k ∉ L.map (·.2) → Q (.free (way t.mask (khash w k) K) false) s) :
    ∀ (f c : Nat) (stand : Option SetTable.Probe), stand.getD (t.probeStart (khash w k)) = nth t.mask (runAt t.mask (SetTable.bits (khash w k) % (t.mask + 1)) (SetTable.bits (khash w k))) c → c ≤ K → K - c < f →
      (∀ (i : Nat) p, L[i]? = some p → p.2 = k → ∃ c', c ≤ c' ∧ c' < K ∧ t.place.toList[i]? = some (way t.mask (khash w k) c')) →
      wpAny (model P w) A (setSearchFrom a (.ref x) (khash w k) true f stand) Q E s
  | 0, c, stand, _, _, hf, _ => absurd hf (Nat.not_lt_zero _)
  | f + 1, c, stand, hst, hc, hf, hre => by
    obtain ⟨o, ho, hex, hd⟩ := R.ob
    rw [setSearchFrom_succ]
    refine wpAny_bind (wpAny_setState_of ho hd R.fits ?_)
    dsimp only
    refine wp_if_neg R.gw ?_
    try refine wpAny_bind (wpAny_pure ?_)
    have hnd : (nth t.mask (runAt t.mask (SetTable.bits (khash w k) % (t.mask + 1)) (SetTable.bits (khash w k))) c).dummy = none := by
      have key : ∀ (n : Nat) (p : SetTable.Probe), p.dummy = none → (nth t.mask p n).dummy = none := by
        intro n
        induction n with
        | zero => intro p h; exact h
        | succ n ih =>
          intro p h
          refine ih (adv t.mask p) ?_
          unfold adv
          split <;> exact h
      exact key c _ rfl
    have sh : ∀ q, nth t.mask (nth t.mask (runAt t.mask (SetTable.bits (khash w k) % (t.mask + 1)) (SetTable.bits (khash w k))) c) q = nth t.mask (runAt t.mask (SetTable.bits (khash w k) % (t.mask + 1)) (SetTable.bits (khash w k))) (c + q) := fun q => (nth_add t.mask c _ q).symm
    have e1 : ∀ q, (nth t.mask (nth t.mask (runAt t.mask (SetTable.bits (khash w k) % (t.mask + 1)) (SetTable.bits (khash w k))) c) q).j = way t.mask (khash w k) (c + q) := fun q => congrArg SetTable.Probe.j (sh q)
    have spec := go_spec t R.tab.ris R.tab.dm (fun i => (es[i]?.map (·.1)).getD 0) (khash w k) (10 * SetTable.turns t.mask) (K - c) _ hnd (by omega)
      (fun q hq => by rw [e1]; exact hKb (c + q) (by omega)) (by rw [e1, show c + (K - c) = K by omega]; exact hK)
    have hashAt : ∀ (i : Nat) p, L[i]? = some p → (fun i => (es[i]?.map (·.1)).getD 0) i = khash w p.2 := fun i p hp => by
      show (es[i]?.map (·.1)).getD 0 = _
      rw [R.entry hp] <;> rfl
    rcases spec with ⟨q, i, hq, hi, hh, hno, hpr⟩ | ⟨hno, hpr⟩
    · -- a candidate
      have hpr' : t.probe (fun i => (es[i]?.map (·.1)).getD 0) (khash w k) (stand.getD (t.probeStart (khash w k))) = some (.candidate (way t.mask (khash w k) (c + q)) i (nth t.mask (runAt t.mask (SetTable.bits (khash w k) % (t.mask + 1)) (SetTable.bits (khash w k))) (c + (q + 1)))) := by
        rw [hst, ← e1, ← sh]
        exact hpr
      rw [hpr']
      dsimp only
      rw [e1] at hi
      -- the entry
      have hil : i < L.length := by
        have h1 : i < t.place.toList.length := (List.getElem?_eq_some_iff.mp hi).1
        have h2 := R.tab.sz
        rw [List.length_map] at h2
        rw [Array.length_toList] at h1
        omega
      have hp : L[i]? = some L[i] := List.getElem?_eq_getElem hil
      generalize hpe : L[i] = p at hp
      have hmem : p ∈ L := List.mem_of_getElem? hp
      have hpt := R.tup p hmem
      have rest : wpAny (model P w) A (searchRest a (.ref x) (khash w k) true f es t (way t.mask (khash w k) (c + q)) i (nth t.mask (runAt t.mask (SetTable.bits (khash w k) % (t.mask + 1)) (SetTable.bits (khash w k))) (c + (q + 1)))) Q E s := by
        unfold searchRest
        rw [R.entry hp]
        dsimp only
        refine wpAny_bind (wpAny_holding (IsK.eq hu hpt hx ?_))
        refine wpAny_bind (wpAny_setState_of ho hd R.fits ?_)
        dsimp only
        by_cases hkk : p.2 = k
        · refine wp_if_pos (by simp [hkk]) ?_
          refine wpAny_pure (hin ?_)
          exact List.mem_map.mpr ⟨p, hmem, hkk⟩
        · refine wp_if_neg (by simp [hkk]) ?_
          try refine wpAny_bind (wpAny_pure ?_)
          rw [sameMem]
          dsimp only
          have hsl : t.slot (way t.mask (khash w k) (c + q)) = .live i := slot_live R.tab.ris hi
          simp only [if_true, hsl, R.entry hp]
          refine wpAny_bind (wpAny_isSame_ref_self (wpAny_bind (wpAny_pure ?_)))
          simp only [if_true]
          refine wp_if_neg (by simp [hkk]) ?_
          refine search_fromK R hx hu hKf hK hKb hin hout f (c + (q + 1)) _ rfl (by omega) (by omega) fun i0 p0 h0 hk0 => ?_
          obtain ⟨c', a1, a2, a3⟩ := hre i0 p0 h0 hk0
          refine ⟨c', ?_, a2, a3⟩
          -- it isn't passed
          rcases Nat.lt_or_ge c' (c + q) with z | z
          · exfalso
            refine hno (c' - c) i0 (by omega) (by rw [e1, show c + (c' - c) = c' by omega]; exact a3) ?_
            exact (hashAt i0 p0 h0).trans (congrArg (khash w) hk0)
          · rcases Nat.lt_or_ge (c + q) c' with y | y
            · omega
            · exfalso
              have ec : c' = c + q := Nat.le_antisymm y z
              rw [ec] at a3
              have s0 := slot_live R.tab.ris a3
              rw [hsl] at s0
              injection s0 with s0
              rw [← s0, hp] at h0
              exact hkk ((congrArg Prod.snd (Option.some.inj h0)).trans hk0)
      by_cases hl : t.led = true
      · refine wp_if_neg (by simp [hl]) ?_
        try refine wpAny_bind (wpAny_pure ?_)
        exact rest
      · refine wp_if_pos (by simp [hl]) ?_
        refine wpAny_bind (seen_key hx (fun y hy => ?_) ?_)
        · obtain ⟨e, he, ee⟩ := List.mem_map.mp hy
          have he1 : e ∈ es ∧ e.1 = khash w k := by simpa using he
          have he2 : e ∈ es.toList := by simpa using he1.1
          rw [R.rows] at he2
          obtain ⟨p2, hp2, e2⟩ := List.mem_map.mp he2
          refine ⟨p2.2, p2.1, ?_, R.tup p2 hp2⟩
          rw [← ee, ← e2]
        · refine wp_if_neg (by decide) ?_
          try refine wpAny_bind (wpAny_pure ?_)
          exact rest
    · -- the empty slot
      have hpr' : t.probe (fun i => (es[i]?.map (·.1)).getD 0) (khash w k) (stand.getD (t.probeStart (khash w k))) = some (.empty (way t.mask (khash w k) K) none) := by
        have e2 : way t.mask (khash w k) K = (nth t.mask (nth t.mask (runAt t.mask (SetTable.bits (khash w k) % (t.mask + 1)) (SetTable.bits (khash w k))) c) (K - c)).j := by
          rw [e1, show c + (K - c) = K by omega]
        rw [hst, e2]
        exact hpr
      rw [hpr']
      dsimp only
      refine wpAny_pure (hout fun hm => ?_)
      obtain ⟨p0, h0, hk0⟩ := List.mem_map.mp hm
      obtain ⟨i0, hi0, e0⟩ := List.getElem_of_mem h0
      have h00 : L[i0]? = some p0 := by rw [List.getElem?_eq_getElem hi0, e0]
      obtain ⟨c', a1, a2, a3⟩ := hre i0 p0 h00 hk0
      refine hno (c' - c) i0 (by omega) (by rw [e1, show c + (c' - c) = c' by omega]; exact a3) ?_
      exact (hashAt i0 p0 h00).trans (congrArg (khash w) hk0)

/-- the search as adding asks for it -/
theorem search_atK (R : SetG P w s.heap a L es ep t) {x : Addr} {k : NestedKey} (hx : IsK P w s.heap k x) (hu : A.units + 8 < cLine) {Q : SetFound → Shared → Prop}
    (hin : k ∈ L.map (·.2) → Q (.there none) s)
    (hout : ∀ K, k ∉ L.map (·.2) → way t.mask (khash w k) K ∉ t.place.toList → (∀ c, c < K → way t.mask (khash w k) c ∈ t.place.toList) → Q (.free (way t.mask (khash w k) K) false) s) :
    wpAny (model P w) A (setSearch a (.ref x) (khash w k) true) Q E s := by
  have hroom := R.room
  obtain ⟨K, hKf, hK, hKb⟩ := R.tab.first (by rw [List.length_map]; omega) (khash w k)
  have hbig : K < 100000 := by
    have : 10 * SetTable.turns t.mask ≤ 82060 := by
      unfold SetTable.turns
      rcases R.sz with e | e | e | e | e | e <;> omega
    omega
  unfold setSearch
  refine search_fromK R hx hu hKf hK hKb hin (fun hn => hout K hn hK hKb) 100000 0 none rfl (Nat.zero_le _) (by omega) fun i p hp hk => ?_
  have hi : (L.map fun p => khash w p.2)[i]? = some (khash w k) := by rw [List.getElem?_map, hp, ← hk] <;> rfl
  have hil : i < t.place.toList.length := by
    have h1 : i < L.length := (List.getElem?_eq_some_iff.mp hp).1
    have h2 := R.tab.sz
    rw [List.length_map] at h2
    rw [Array.length_toList]
    omega
  have hj := List.getElem?_eq_getElem hil
  obtain ⟨c, hc, e⟩ := R.tab.before hK hi hj
  exact ⟨c, Nat.zero_le _, hc, by rw [hj, e]⟩
end
section
variable {P : Program} {w : World} {A : Around} {E : Value → Shared → Prop} {s : Shared}
/-- a tuple isn't the set -/
theorem isK_same {h h' : Heap} {k : NestedKey} {a b : Addr} {o : Obj} {es : Array (Int × Value)} {ep : Nat} {t : SetTable} (hb : IsK P w h k b) (ho : h.get? a = some o) (hd : o.data = .set es ep t) (hs : Heap.SameBut a h h') : IsK P w h' k b := by
  refine ⟨NestedIs.at (fun c oc vs n hc hv => (hs.2 c fun e => ?_).trans hc) k _ hb.is, hb.dp⟩
  subst e
  obtain rfl : oc = o := Option.some.inj (hc.symm.trans ho)
  rw [hd] at hv
  exact nomatch hv
theorem rows_put (L : List (Addr × NestedKey)) (p : Nat) (x : Addr) (k : NestedKey) : rowsK w (L.take p ++ (x, k) :: L.drop p) = (rowsK w L).take p ++ (khash w k, Value.ref x) :: (rowsK w L).drop p := by
  unfold rowsK
  rw [List.map_append, List.map_cons, List.map_take, List.map_drop]
theorem put_perm {α : Type} (L : List α) (p : Nat) (x : α) : (L.take p ++ x :: L.drop p).Perm (x :: L) := by
  have h : (L.take p ++ x :: L.drop p).Perm (x :: (L.take p ++ L.drop p)) := List.perm_middle
  rw [List.take_append_drop] at h
  exact h
theorem order_rows (L : List (Addr × NestedKey)) (es : Array (Int × Value)) (order : Array Nat) (hr : es.toList = rowsK w L) (hp : order.toList.Perm (List.range L.length)) :
    ∃ L2, (order.filterMap (es[·]?)).toList = rowsK w L2 ∧ L2.Perm L ∧ (L2.map fun p => khash w p.2) = order.toList.map fun i => (es.map (·.1)).getD i 0 := by
  have hsz : es.size = L.length := by
    have h := congrArg List.length hr
    unfold rowsK at h
    rw [Array.length_toList, List.length_map] at h
    exact h
  have ent : ∀ i (h : i < L.length), es[i]? = some (khash w (L[i]).2, Value.ref (L[i]).1) := fun i h => by
    rw [← Array.getElem?_toList, hr]
    unfold rowsK
    rw [List.getElem?_map, List.getElem?_eq_getElem h] <;> rfl
  have key : ∀ l : List Nat, (∀ i ∈ l, i < L.length) → ∃ L2 : List (Addr × NestedKey), l.filterMap (fun i => es[i]?) = rowsK w L2 ∧ L2 = l.filterMap (fun i => L[i]?) ∧ (L2.map fun p => khash w p.2) = l.map fun i => (es.map (·.1)).getD i 0 := by
    intro l
    induction l with
    | nil => intro _; exact ⟨[], rfl, rfl, rfl⟩
    | cons i l ih =>
      intro hl
      have hi := hl i List.mem_cons_self
      obtain ⟨L2, e1, e2, e3⟩ := ih fun j hj => hl j (List.mem_cons_of_mem _ hj)
      refine ⟨L[i] :: L2, ?_, ?_, ?_⟩
      · rw [List.filterMap_cons_some (ent i hi), e1] <;> rfl
      · rw [List.filterMap_cons_some (List.getElem?_eq_getElem hi), e2]
      · rw [List.map_cons, List.map_cons, e3]
        have hi2 : i < (es.map (·.1)).size := by rw [Array.size_map, hsz]; exact hi
        have e4 : (es.map (·.1)).getD i 0 = khash w (L[i]).2 := by
          have e5 : (es.map (·.1))[i]? = some (khash w (L[i]).2) := by rw [Array.getElem?_map, ent i hi] <;> rfl
          simp [Array.getD_eq_getD_getElem?, e5]
        rw [e4]
  obtain ⟨L2, e1, e2, e3⟩ := key order.toList fun i hi => List.mem_range.mp (hp.mem_iff.mp hi)
  refine ⟨L2, by first | (rw [Array.toList_filterMap]; exact e1) | simpa using e1, ?_, e3⟩
  have h1 : L2.Perm ((List.range L.length).filterMap fun i => L[i]?) := by
    rw [e2]
    exact hp.filterMap _
  have h2 : (List.range L.length).filterMap (fun i => L[i]?) = L := by
    have key2 : ∀ n, n ≤ L.length → (List.range n).filterMap (fun i => L[i]?) = L.take n := by
      intro n
      induction n with
      | zero => intro _; rfl
      | succ n ih =>
        intro hn
        have hlt : n < L.length := hn
        rw [List.range_succ, List.filterMap_append, ih (Nat.le_of_lt hlt), List.take_succ, List.getElem?_eq_getElem hlt]
        rw [List.filterMap_cons_some (List.getElem?_eq_getElem hlt)] <;> rfl
    rw [key2 L.length (Nat.le_refl _), List.take_length]
  rw [h2] at h1
  exact h1

variable {a : Addr} {L : List (Addr × NestedKey)} {es : Array (Int × Value)} {ep : Nat} {t : SetTable}
/-- the table laid anew, larger -/
theorem relay_atK {o : Obj} (ho : s.heap.get? a = some o) (hex : o.ExactSet) (hd : o.data = .set es ep t) (hrows : es.toList = rowsK w L) (hsz : t.place.size = es.size) (hdm : t.dummies = #[]) (hfl : es.size ≤ t.mask)
    (nd : (L.map (·.2)).Nodup) (tup : ∀ p ∈ L, IsK P w s.heap p.2 p.1) (ld : w.params.followText "set-order" = true ∨ t.led = true) (few : L.length < 4096) {wanted M : Nat}
    (hw : SetTable.sizeAbove wanted = M + 1) (hM : Sz M) (hw2 : M + 1 ≤ 8192) (hnm : L.length ≤ M) (hn : L.length * 5 < M * 3) {Q : Unit → Shared → Prop}
    (hQ : ∀ h' L' es' ep' t', Heap.SameBut a s.heap h' → SetG P w h' a L' es' ep' t' → L'.Perm L → Q () { s with heap := h' }) : wpAny (model P w) A (setRelay a wanted) Q E s := by
  have hsl : es.size = L.length := by
    have h := congrArg List.length hrows
    unfold rowsK at h
    rw [Array.length_toList, List.length_map] at h
    exact h
  have hfits : t.fits es.size = true := by
    unfold SetTable.fits SetTable.fill
    rw [hdm, Bool.and_eq_true, beq_iff_eq, decide_eq_true_eq]
    show t.place.size = es.size ∧ t.place.size + 0 ≤ t.mask
    omega
  obtain ⟨t', order, e, hp, T, em, el⟩ := relay_tab t (hs := es.map (·.1)) (wanted := wanted) (M := M) (by omega) hM.mask (by rw [Array.size_map, hsl]; exact hnm)
  rw [Array.size_map, hsl] at hp
  obtain ⟨L2, r1, r2, r3⟩ := order_rows L es order hrows hp
  rw [← r3] at T
  have hs2 : (order.filterMap (es[·]?)).size = es.size := by
    have h := congrArg List.length r1
    unfold rowsK at h
    rw [Array.length_toList, List.length_map, r2.length_eq] at h
    rw [h, hsl]
  rw [setRelay_eq]
  refine wpAny_bind (wpAny_setState_of ho hd hfits ?_)
  dsimp only
  refine wp_if_neg (by rw [sizeLine_eq]; omega) ?_
  try refine wpAny_bind (wpAny_pure ?_)
  rw [e]
  dsimp only
  refine wpAny_bind ?_
  refine wp_if_neg (by rw [hs2]; simp) ?_
  try refine wpAny_bind (wpAny_pure ?_)
  refine wpAny_pure ?_
  dsimp only
  refine wpAny_storeSet_of ho hd ?_ (by rw [hs2, hsl, sizeLine_eq]; omega)
  have sb : Heap.SameBut a s.heap (s.heap.update a (Obj.putSet (order.filterMap (es[·]?)) t')) := Heap.SameBut.update ..
  refine hQ _ L2 (order.filterMap (es[·]?)) (ep + 1) t' sb ?_ r2
  refine ⟨⟨_, store_at ho hd, ⟨hex.1, hex.2.1, hex.2.2⟩, rfl⟩, r1, T, ?_, fun p hpm => isK_same (tup p (r2.mem_iff.mp hpm)) ho hd sb, by rw [em]; exact hM, by rw [el]; exact ld, ?_, by rw [r2.length_eq]; exact few⟩
  · exact (r2.map (·.2)).nodup_iff.mpr nd
  · rw [r2.length_eq, em]
    exact hn

/-- behind the table's new place -/
theorem add_tail (R : SetG P w s.heap a L es ep t) {x : Addr} {k : NestedKey} {o : Obj} (ho : s.heap.get? a = some o) (hex : o.ExactSet) (hd : o.data = .set es ep t) (hx : IsK P w s.heap k x) (hfew : L.length + 1 < 4096) {K : Nat} {t1 : SetTable} (hm : k ∉ L.map (·.2))
    (q2 : SetTable.below t.place (way t.mask (khash w k) K) ≤ (L.map fun p => khash w p.2).length)
    (q3 : TabG t1 ((L.map fun p => khash w p.2).take (SetTable.below t.place (way t.mask (khash w k) K)) ++ khash w k :: (L.map fun p => khash w p.2).drop (SetTable.below t.place (way t.mask (khash w k) K))))
    (q4 : t1.mask = t.mask) (q5 : t1.led = t.led) (q9 : t1.fill = (L.map fun p => khash w p.2).length + 1) {Q : Bool → Shared → Prop}
    (hQ : ∀ b h' L' es' ep' t', Heap.SameBut a s.heap h' → SetG P w h' a L' es' ep' t' → (k ∈ L.map (·.2) → L' = L) → (k ∉ L.map (·.2) → L'.Perm ((x, k) :: L)) → Q b { s with heap := h' }) :
    wpAny (model P w) A (do
        storeSet a (SetTable.insertAt es (SetTable.below t.place (way t.mask (khash w k) K)) (khash w k, .ref x)) t1
        if !false && t1.tooFull then setRelay a (SetTable.grown (es.size + 1))
        return true) Q E s := by
    have hsl := R.size
    have hroom := R.room
    have hin : (SetTable.insertAt es (SetTable.below t.place (way t.mask (khash w k) K)) (khash w k, Value.ref x)).toList = rowsK w (L.take (SetTable.below t.place (way t.mask (khash w k) K)) ++ (x, k) :: L.drop (SetTable.below t.place (way t.mask (khash w k) K))) := by
      rw [SetTable.toList_insertAt, rows_put, R.rows]
    generalize hpp : SetTable.below t.place (way t.mask (khash w k) K) = p at q2 q3 hin ⊢
    have pm := put_perm L p (x, k)
    have hlen : (L.take p ++ (x, k) :: L.drop p).length = L.length + 1 := pm.length_eq
    have hhs : (L.take p ++ (x, k) :: L.drop p).map (fun p => khash w p.2) = (L.map fun p => khash w p.2).take p ++ khash w k :: (L.map fun p => khash w p.2).drop p := by
      rw [List.map_append, List.map_cons, List.map_take, List.map_drop]
    rw [← hhs] at q3
    have nd1 : ((L.take p ++ (x, k) :: L.drop p).map (·.2)).Nodup := by
      refine (pm.map (·.2)).nodup_iff.mpr ?_
      rw [List.map_cons]
      exact List.nodup_cons.mpr ⟨hm, R.nd⟩
    have hes : (SetTable.insertAt es p (khash w k, Value.ref x)).size = L.length + 1 := by
      have h := congrArg List.length hin
      unfold rowsK at h
      rw [Array.length_toList, List.length_map, hlen] at h
      exact h
    generalize SetTable.insertAt es p (khash w k, Value.ref x) = es1 at hin hes ⊢
    generalize L.take p ++ (x, k) :: L.drop p = L1 at pm hlen q3 nd1 hin
    refine wpAny_bind (wpAny_storeSet_of ho hd ?_ (by rw [hes, sizeLine_eq]; omega))
    have sb : Heap.SameBut a s.heap (s.heap.update a (Obj.putSet es1 t1)) := Heap.SameBut.update ..
    have ho1 := store_at (es' := es1) (t' := t1) ho hd
    generalize s.heap.update a (Obj.putSet es1 t1) = h1 at sb ho1 ⊢
    have tup1 : ∀ p ∈ L1, IsK P w h1 p.2 p.1 := fun p hp => by
      rcases List.mem_cons.mp (pm.mem_iff.mp hp) with e | hp
      · rw [e]; exact isK_same hx ho hd sb
      · exact isK_same (R.tup p hp) ho hd sb
    have ld1 : w.params.followText "set-order" = true ∨ t1.led = true := by rw [q5]; exact R.led
    by_cases hf : t1.tooFull = true
    · first
        | (refine wpAny_bind ?_; refine wp_if_pos (by simp [hf]) ?_)
        | (refine wp_if_pos (by simp [hf]) ?_; refine wpAny_bind ?_)
      have hfull : (L.length + 1) * 5 ≥ t1.mask * 3 := by
        have h := hf
        unfold SetTable.tooFull at h
        rw [decide_eq_true_eq, q9, List.length_map] at h
        exact h
      rw [hsl]
      have hsz1 : t1.place.size = es1.size := by
        have h := q3.sz
        rw [List.length_map, hlen] at h
        rw [h, hes]
      obtain ⟨M, m1, m2, m3, m4, m5⟩ := R.sz.grow hroom (by rw [q4] at hfull; omega) (by omega : L.length < 4096)
      refine relay_atK (s := { s with heap := h1 }) ho1 ⟨hex.1, hex.2.1, hex.2.2⟩ rfl hin hsz1 q3.dm (by rw [hes, q4]; omega) nd1 tup1 ld1 (by rw [hlen]; exact hfew) m2 m1 m5 (by rw [hlen]; exact m4) (by rw [hlen]; exact m3) ?_
      intro h2 L2 es2 ep2 t3 sb2 R2 pm2
      exact wpAny_pure (hQ true h2 L2 es2 ep2 t3 (sb.trans sb2) R2 (fun z => absurd z hm) fun _ => pm2.trans pm)
    · first
        | refine wp_if_neg (by simp [hf]) ?_
        | (refine wpAny_bind ?_; refine wp_if_neg (by simp [hf]) ?_; refine wpAny_pure ?_)
      refine wpAny_pure (hQ true h1 L1 es1 (ep + 1) t1 sb ⟨⟨_, ho1, ⟨hex.1, hex.2.1, hex.2.2⟩, rfl⟩, hin, q3, nd1, tup1, by rw [q4]; exact R.sz, ld1, ?_, by rw [hlen]; exact hfew⟩ (fun z => absurd z hm) fun _ => pm)
      have h := hf
      unfold SetTable.tooFull at h
      rw [decide_eq_true_eq, q9, List.length_map] at h
      rw [hlen]
      omega

/-- ADDING -/
theorem add_atK (R : SetG P w s.heap a L es ep t) {x : Addr} {k : NestedKey} (hx : IsK P w s.heap k x) (hu : A.units + 8 < cLine) (hfew : L.length + 1 < 4096) {Q : Bool → Shared → Prop}
    (hQ : ∀ b h' L' es' ep' t', Heap.SameBut a s.heap h' → SetG P w h' a L' es' ep' t' → (k ∈ L.map (·.2) → L' = L) → (k ∉ L.map (·.2) → L'.Perm ((x, k) :: L)) → Q b { s with heap := h' }) :
    wpAny (model P w) A (setAddHashed a (.ref x) (khash w k)) Q E s := by
  obtain ⟨o, ho, hex, hd⟩ := R.ob
  have hsl := R.size
  have hroom := R.room
  unfold setAddHashed
  refine wpAny_holding ?_
  rw [show (100000 : Nat) = 99999 + 1 from rfl, setAddHashedIn_succ]
  refine wpAny_bind (wpAny_setState_of ho hd R.fits ?_)
  dsimp only
  refine wp_if_neg (by simp [byScan, Value.scannable]) ?_
  try refine wpAny_bind (wpAny_pure ?_)
  refine wpAny_bind (search_atK R hx hu (fun hm => ?_) fun K hm hK hb => ?_)
  · dsimp only
    exact wpAny_pure (hQ false s.heap L es ep t (Heap.SameBut.refl a s.heap) R (fun _ => rfl) fun z => absurd hm z)
  · dsimp only
    refine wpAny_bind (wpAny_setState_of ho hd R.fits ?_)
    dsimp only
    have pg := R.tab.put hK hb
    have q1 : (t.put (way t.mask (khash w k) K)).2 = SetTable.below t.place (way t.mask (khash w k) K) := rfl
    generalize hpt : t.put (way t.mask (khash w k) K) = pt at pg q1 ⊢
    obtain ⟨t1, p⟩ := pt
    dsimp only at pg q1 ⊢
    subst q1
    obtain ⟨q2, q3, q4, q5, q9⟩ := pg
    have goal : ∀ t2 : SetTable, t2.place = t1.place → t2.dummies = t1.dummies → t2.mask = t1.mask → t2.led = t1.led → wpAny (model P w) A (do
        storeSet a (SetTable.insertAt es (SetTable.below t.place (way t.mask (khash w k) K)) (khash w k, .ref x)) t2
        if !false && t2.tooFull then setRelay a (SetTable.grown (es.size + 1))
        return true) Q E s := fun t2 e1 e2 e3 e4 => by
      replace q3 : TabG t2 _ := ⟨by rw [e1]; exact q3.ris, by rw [e2]; exact q3.dm, by rw [e1]; exact q3.sz, by rw [e3]; exact q3.mok, by rw [e1, e3]; exact q3.bd, by rw [e1, e3]; exact q3.reach⟩
      replace q4 := e3.trans q4
      replace q5 := e4.trans q5
      replace q9 : t2.fill = _ := (show t2.fill = t1.fill by unfold SetTable.fill; rw [e1, e2]).trans q9
      clear e1 e2 e3 e4
      exact add_tail R ho hex hd hx hfew hm q2 q3 q4 q5 q9 hQ
    by_cases hp1 : t1.plain = true
    · first
        | (refine wpAny_bind ?_; refine wp_if_pos hp1 ?_; refine hashBy_key 8 _ _ _ hx.is fun b => ?_)
        | refine wp_if_pos hp1 (wpAny_bind (hashBy_key 8 _ _ _ hx.is fun b => ?_))
      cases b
      · exact goal { t1 with plain := false } rfl rfl rfl rfl
      · exact goal t1 rfl rfl rfl rfl
    · first
        | (refine wpAny_bind ?_; refine wp_if_neg hp1 ?_; refine wpAny_pure ?_)
        | refine wp_if_neg hp1 (wpAny_bind (wpAny_pure ?_))
      exact goal t1 rfl rfl rfl rfl
end
/-- what the set has got from the first i items -/
structure Got (ks : List (Addr × NestedKey)) (i : Nat) (L : List (Addr × NestedKey)) : Prop where
  sub : ∀ p ∈ L, p ∈ ks.take i
  all : ∀ p ∈ ks.take i, p.2 ∈ L.map (·.2)
  len : L.length ≤ i
theorem Got.zero (ks : List (Addr × NestedKey)) : Got ks 0 [] := ⟨fun p h => (by cases h), fun p h => (by simp at h), Nat.le_refl _⟩
theorem take_next {α : Type} {l : List α} {i : Nat} {x : α} (h : l[i]? = some x) : l.take (i + 1) = l.take i ++ [x] := by
  rw [List.take_succ, h] <;> rfl
theorem Got.same {ks L : List (Addr × NestedKey)} {i : Nat} {x : Addr × NestedKey} (g : Got ks i L) (h : ks[i]? = some x) (hm : x.2 ∈ L.map (·.2)) : Got ks (i + 1) L := by
  refine ⟨fun p hp => ?_, fun p hp => ?_, Nat.le_succ_of_le g.len⟩
  · rw [take_next h]
    exact List.mem_append_left _ (g.sub p hp)
  · rw [take_next h] at hp
    rcases List.mem_append.mp hp with z | z
    · exact g.all p z
    · rw [List.mem_singleton.mp z]; exact hm
theorem Got.more {ks L L' : List (Addr × NestedKey)} {i : Nat} {x : Addr × NestedKey} (g : Got ks i L) (h : ks[i]? = some x) (pm : L'.Perm (x :: L)) : Got ks (i + 1) L' := by
  refine ⟨fun p hp => ?_, fun p hp => ?_, ?_⟩
  · rw [take_next h]
    rcases List.mem_cons.mp (pm.mem_iff.mp hp) with e | z
    · rw [e]; exact List.mem_append_right _ (List.mem_singleton.mpr rfl)
    · exact List.mem_append_left _ (g.sub p z)
  · rw [(pm.map (·.2)).mem_iff, List.map_cons]
    rw [take_next h] at hp
    rcases List.mem_append.mp hp with z | z
    · exact List.mem_cons_of_mem _ (g.all p z)
    · rw [List.mem_singleton.mp z]; exact List.mem_cons_self
  · rw [pm.length_eq, List.length_cons]
    exact Nat.succ_le_succ g.len

section
variable {P : Program} {w : World} {A : Around} {E : Value → Shared → Prop} {s : Shared}
theorem isK_keep {h h' : Heap} {k : NestedKey} {b : Addr} (x : IsK P w h k b) (hk : ∀ c o, h.get? c = some o → h'.get? c = some o) : IsK P w h' k b := by
  exact ⟨NestedIs.at (fun c oc vs n hc _ => hk c oc hc) k _ x.is, x.dp⟩
theorem SetG.keep {h h' : Heap} {a : Addr} {L : List (Addr × NestedKey)} {es : Array (Int × Value)} {ep : Nat} {t : SetTable} (R : SetG P w h a L es ep t) (ha : ∀ o, h.get? a = some o → h'.get? a = some o) (ht : ∀ p ∈ L, IsK P w h' p.2 p.1) : SetG P w h' a L es ep t := by
  obtain ⟨o, ho, r⟩ := R.ob
  exact ⟨⟨o, ha o ho, r⟩, R.rows, R.tab, R.nd, ht, R.sz, R.led, R.room, R.few⟩
/-- a new set -/
theorem setG_fresh {h : Heap} {a : Addr} (ho : h.get? a = some { cls := .type "set", dict := none, data := .set #[] 0 (.fresh 0 0 (!w.params.followText "set-order")) }) : SetG P w h a [] #[] 0 (.fresh 0 0 (!w.params.followText "set-order")) where
  ob := ⟨_, ho, ⟨rfl, rfl, rfl⟩, rfl⟩
  rows := rfl
  tab := ⟨List.Pairwise.nil, rfl, rfl, Sz.mask (.inl rfl), fun x hx => (by cases hx), fun i h j hi => (by simp at hi)⟩
  nd := List.nodup_nil
  tup := fun p hp => (by cases hp)
  sz := .inl rfl
  led := by
    show _ ∨ (!w.params.followText "set-order") = true
    cases w.params.followText "set-order"
    · exact .inr rfl
    · exact .inl rfl
  room := by
    show 0 * 5 < 7 * 3
    decide
  few := by
    show 0 < 4096
    decide

/-- set.update's loop -/
theorem set_update_keys {I : Addr} {fp wr : List Addr} {G : Array GenState → Array GenState → Prop} {n : Nat} {Pv : Nat → Value → Prop} {St : Nat → Shared → Prop} {R : Result → Shared → Prop}
    (W : WalksS P w A.in1 I fp wr G n Pv St) (S : Addr) (hSf : S ∉ fp) (ks : List (Addr × NestedKey)) (hn : n = ks.length) (hfew : ks.length < 4096) (hval : ∀ i v, Pv i v → ∃ p, ks[i]? = some p ∧ v = .ref p.1)
    (h0 : Heap) (hk : ∀ p ∈ ks, IsK P w h0 p.2 p.1) (hS0 : h0.get? S = none) (hw0 : ∀ b ∈ wr, h0.get? b = none) (hu : A.in1.units + 8 < cLine) :
    ∀ (k i : Nat) (s : Shared), n - i = k → i ≤ n → St i s → (∀ b o, h0.get? b = some o → s.heap.get? b = some o) → (∃ L es ep t, SetG P w s.heap S L es ep t ∧ Got ks i L) →
      (∀ s' L es ep t, Moved (S :: wr) G s s' → SetG P w s'.heap S L es ep t → Got ks n L → (∀ b o, h0.get? b = some o → s'.heap.get? b = some o) → R (.ok (.ret .none)) s') →
      codeAny (model P w) A (.builtin "set.update.loop" ⟨[.ref S, .ref I], []⟩) R s := by
  have hSw : S ∉ wr := fun h => hSf (W.sub _ h)
  have hsub : ∀ b ∈ wr, b ∈ S :: wr := fun b hb => List.mem_cons_of_mem _ hb
  have keepM : ∀ {s s' : Shared}, Moved wr G s s' → (∀ b o, h0.get? b = some o → s.heap.get? b = some o) → ∀ b o, h0.get? b = some o → s'.heap.get? b = some o := fun hm hkp b o e =>
    hm.heap b o (fun hb => by rw [hw0 b hb] at e; cases e) (hkp b o e)
  intro k
  induction k with
  | zero =>
    intro i s hk' hi hst hkp ⟨L, es, ep, t, hS, g⟩ hR
    have hin : i = n := by omega
    subst hin
    refine codeAny_builtin F.entry_set_update_loop ?_
    rw [Around.under_plainId F.plain_set_update_loop _]
    show wpAny _ A.in1 (pyNext (.ref I) >>= _) _ _ s
    refine wpAny_bind (W.done s _ _ hst fun s' hm => ?_)
    show wpAny _ A.in1 (ret Value.none) _ _ s'
    have hkp' := keepM hm hkp
    have sub : ∀ p ∈ L, p ∈ ks := fun p hp => List.mem_of_mem_take (g.sub p hp)
    exact wpAny_pure (hR s' L es ep t (hm.mono hsub) (hS.keep (fun o e => hm.heap S o hSw e) fun p hp => isK_keep (hk p (sub p hp)) hkp') g hkp')
  | succ k ih =>
    intro i s hk' hi hst hkp ⟨L, es, ep, t, hS, g⟩ hR
    have hlt : i < n := by omega
    refine codeAny_builtin F.entry_set_update_loop ?_
    rw [Around.under_plainId F.plain_set_update_loop _]
    show wpAny _ A.in1 (pyNext (.ref I) >>= _) _ _ s
    refine wpAny_bind (W.item i s _ _ hlt hst fun v s' hP hst' hm => ?_)
    obtain ⟨p, hp, rfl⟩ := hval i v hP
    have hkp' := keepM hm hkp
    have sub : ∀ p ∈ L, p ∈ ks := fun p hp => List.mem_of_mem_take (g.sub p hp)
    have hS' : SetG P w s'.heap S L es ep t := hS.keep (fun o e => hm.heap S o hSw e) fun q hq => isK_keep (hk q (sub q hq)) hkp'
    have hx : IsK P w s'.heap p.2 p.1 := isK_keep (hk p (List.mem_of_getElem? hp)) hkp'
    show wpAny _ A.in1 (holding [Value.ref p.1] (setAdd S (.ref p.1)) >>= _) _ _ s'
    refine wpAny_bind (wpAny_holding ?_)
    unfold setAdd
    refine wpAny_holding ?_
    refine wpAny_bind (IsK.hash hu hx ?_)
    refine add_atK (s := { s' with toks := s'.toks + p.2.draws }) hS' hx hu (by have := g.len; omega) fun b h' L' es' ep' t' hsb hS2 c1 c2 => ?_
    have g' : Got ks (i + 1) L' := by
      rcases Classical.em (p.2 ∈ L.map (·.2)) with c | c
      · rw [c1 c]; exact g.same hp c
      · exact g.more hp (c2 c)
    have hkp2 : ∀ b o, h0.get? b = some o → h'.get? b = some o := fun b o e => (hsb.2 b (fun z => by rw [z, hS0] at e; cases e)).trans (hkp' b o e)
    refine wpAny_pure ⟨plainId_quiet F.plain_set_update_loop _, ih (i + 1) _ (by omega) hlt (W.frame _ s' _ _ hst' (Nat.le_add_right _ _) fun b hb o e => ?_) hkp2 ⟨L', es', ep', t', hS2, g'⟩ fun s'' L2 es2 ep2 t2 hm'' hS'' g'' hkp'' => ?_⟩
    · rw [hsb.2 b (fun h : b = S => hSf (by rw [← h]; exact hb))]; exact e
    · refine hR s'' L2 es2 ep2 t2 (Moved.trans W.gtrans ((hm.mono hsub).then_heap (Nat.le_add_right _ _) fun b o hb e => ?_) hm'') hS'' g'' hkp''
      rw [hsb.2 b (fun h : b = S => hb (by rw [h]; exact List.mem_cons_self))]; exact e

set_option maxHeartbeats 3200000 in
/-- set(xs) -/
theorem call_set_keys {l : Addr} {items : Array Value} (ks : List (Addr × NestedKey)) {Q : Value → Shared → Prop} (hh : A.handled = none) (hl : s.heap.IsList l items) (hit : items.toList = ks.map fun p => Value.ref p.1)
    (hk : ∀ p ∈ ks, IsK P w s.heap p.2 p.1) (hfew : ks.length < 4096) (hu : A.units + 16 < cLine)
    (h : ∀ (h' : Heap) (tk : Nat) L es ep t, SetG P w h' s.heap.objs.size L es ep t → Got ks ks.length L → (∀ b o, s.heap.get? b = some o → h'.get? b = some o) → Q (.ref s.heap.objs.size) { s with heap := h', toks := tk }) :
    wpAny (model P w) A (call (.type "set") [.ref l]) Q E s := by
  have hisz : items.size = ks.length := by
    have q := congrArg List.length hit
    rw [Array.length_toList, List.length_map] at q
    exact q
  obtain ⟨c, tl, hmro⟩ := F.called_set.mro
  have hmade := F.called_set.made
  have hsub := F.called_set.sub
  refine wpAny_call (codeAny_of_tree ?_)
  show wpAny _ _ (callAny (.type "set") _) _ _ _
  refine wpAny_pure ⟨Code.quiet_builtin _ (by decide +kernel), codeAny_builtin F.entry_type_call ?_⟩
  rw [Around.under_plain (weight_type_call_type "set" [.ref l] []) rfl]
  have h1 := F.called_set.notType
  have h2 := F.called_set.canCreate
  have hct := F.typeCall_set_1 (.ref l)
  repeat (any_goals (first | assumption | wp_step))

  refine codeAny_mono (code_set_led1 (.ref l) (E := E) (Q₁ := fun obj s₁ => obj = .ref s.heap.objs.size ∧ s₁ = { s with heap := s.heap.push { cls := .type "set", dict := none, data := .set #[] 0 (.fresh 0 0 (!w.params.followText "set-order")) } }) ⟨rfl, rfl⟩) fun r s₁ hr => ?_
  cases r with
  | error e => exact hr
  | ok fl =>
    cases fl with
    | ret obj =>
      obtain ⟨rfl, rfl⟩ := hr
      have hS : (s.heap.push { cls := .type "set", dict := none, data := .set #[] 0 (.fresh 0 0 (!w.params.followText "set-order")) }).get? s.heap.objs.size = some { cls := .type "set", dict := none, data := .set #[] 0 (.fresh 0 0 (!w.params.followText "set-order")) } := Heap.get?_push_size _ rfl
      have hT : Shared.TypeIs { s with heap := s.heap.push { cls := .type "set", dict := none, data := .set #[] 0 (.fresh 0 0 (!w.params.followText "set-order")) } } (.ref s.heap.objs.size) "set" := ⟨_, hS, rfl⟩
      have hli := F.called_set.init.lookup
      have hbi := F.called_set.init.bind (.ref s.heap.objs.size)
      repeat (any_goals (first | assumption | wp_step))

      refine codeAny_mono (codeAny_call_builtin (R := wants (fun r s₂ => r = .none ∧ ∃ h' tk L es ep t, s₂ = { s with heap := h', toks := tk } ∧ SetG P w h' s.heap.objs.size L es ep t ∧ Got ks ks.length L ∧
          (∀ b o, s.heap.get? b = some o → h'.get? b = some o)) E) F.called_set.init.plain F.entry_set_init (check_set_init_1 hT ?_)) fun r₂ s₂ hr₂ => ?_
      · obtain ⟨ol, hol, hcl, nl, hdl⟩ := hl
        obtain ⟨ocls, odict, odata, oslots⟩ := ol
        simp only at hcl hdl
        subst hcl; subst hdl
        have hol' : (s.heap.push { cls := .type "set", dict := none, data := .set #[] 0 (.fresh 0 0 (!w.params.followText "set-order")) }).get? l = some { cls := .type "list", dict := odict, data := .seq items nl, slots := oslots } := Heap.get?_push_of_some _ hol
        have hsls := F.sub_list_set
        have hslf := F.sub_list_frozenset
        have hne : (Value.type "list" == Value.type "dict") = false := by decide
        have hl1 : (s.heap.push { cls := .type "set", dict := none, data := .set #[] 0 (.fresh 0 0 (!w.params.followText "set-order")) }).IsList l items := ⟨_, hol', rfl, nl, rfl⟩
        unfold Builtin.«set.__init__» noKeywords Builtin.Frozenset.updateFrom
        generalize hPI : pyIter = PI
        wp_walk
        subst hPI

        refine wpAny_pyIter_list hl1 ?_
        refine wpAny_bind (wpAny_runValue ?_)
        have hlS : l < s.heap.objs.size := Heap.lt_size hol
        have hh3 : A.in1.in1.in1.handled = none := by simp [hh]
        have hz1 : (s.heap.push { cls := .type "set", dict := none, data := .set #[] 0 (.fresh 0 0 (!w.params.followText "set-order")) }).objs.size = s.heap.objs.size + 1 := Heap.size_push ..
        have hneI : l ≠ (s.heap.push { cls := .type "set", dict := none, data := .set #[] 0 (.fresh 0 0 (!w.params.followText "set-order")) }).objs.size := by
          rw [Heap.size_push]; exact Nat.ne_of_lt (Nat.lt_succ_of_lt hlS)
        have hSf : s.heap.objs.size ∉ [(s.heap.push { cls := .type "set", dict := none, data := .set #[] 0 (.fresh 0 0 (!w.params.followText "set-order")) }).objs.size, l] := by
          rw [Heap.size_push]; simp only [List.mem_cons, List.mem_singleton, List.not_mem_nil, or_false, not_or]
          exact ⟨Nat.ne_of_lt (Nat.lt_succ_self _), Nat.ne_of_gt hlS⟩
        have hval : ∀ (i : Nat) (v : Value), items[i]? = some v → ∃ p, ks[i]? = some p ∧ v = .ref p.1 := fun i v hv => by
          have q : items.toList[i]? = some v := by rw [Array.getElem?_toList]; exact hv
          rw [hit, List.getElem?_map] at q
          cases hq : ks[i]? with
          | none => rw [hq] at q; cases q
          | some p =>
            rw [hq] at q
            exact ⟨p, rfl, (Option.some.inj q).symm⟩
        have none_of : ∀ b, s.heap.objs.size ≤ b → s.heap.get? b = none := fun b hb => by
          cases q : s.heap.get? b with
          | none => rfl
          | some o => exact absurd (Nat.lt_of_lt_of_le (Heap.lt_size q) hb) (Nat.lt_irrefl _)
        refine set_update_keys ((Walks.list hh3 _ l hneI items).toS) s.heap.objs.size
          hSf ks hisz hfew hval s.heap hk (none_of _ (Nat.le_refl _)) (fun b hb => none_of b (by
            rw [List.mem_singleton.mp hb, Heap.size_push]
            exact Nat.le_succ _)) (by simp only [Around.in1_units] at hu ⊢; omega) (items.size - 0) 0 _ (by omega) (Nat.zero_le _)
          ⟨⟨_, Heap.get?_push_size _ rfl, rfl, rfl⟩, (hl1.push _)⟩ (fun b o e => Heap.get?_push_of_some _ (Heap.get?_push_of_some _ e)) ?hS0 ?hR
        case hS0 =>
          have hget : ((s.heap.push { cls := .type "set", dict := none, data := .set #[] 0 (.fresh 0 0 (!w.params.followText "set-order")) }).push { cls := .type "list_iterator", data := .fields #[.ref l, .int 0 0] }).get? s.heap.objs.size
              = some { cls := .type "set", dict := none, data := .set #[] 0 (.fresh 0 0 (!w.params.followText "set-order")) } := Heap.get?_push_of_some _ hS
          exact ⟨[], #[], 0, _, setG_fresh hget, Got.zero ks⟩
        case hR =>
          intro s' L es ep t hm hS' g' hkp
          obtain ⟨h', g2, d', tk', os'⟩ := s'
          have eg : g2 = s.gens := hm.gens
          have ed : d' = s.drawn := hm.drawn
          have eo : os' = s.os := hm.os
          subst eg; subst ed; subst eo
          show wpAny _ _ _ _ _ _
          refine wpAny_pure ?_
          show wpAny _ _ (ret Value.none) _ _ _
          rw [hisz] at g'
          exact wpAny_pure ⟨rfl, h', tk', L, es, ep, t, rfl, hS', g', hkp⟩

      · cases r₂ with
        | error e => exact hr₂
        | ok fl₂ =>
          cases fl₂ with
          | ret r =>
            obtain ⟨rfl, h', tk, L, es, ep, t, rfl, hS', g', hk'⟩ := hr₂
            repeat (any_goals (first | assumption | wp_step))
            exact h _ _ _ _ _ _ hS' g' hk'
          | _ => exact hr₂.elim
    | _ => exact hr.elim


end
end MoR
set_option maxHeartbeats 4000000
/-! set(xs), whatever the items are; sets of texts -/
namespace MoR
open PySem PySem.Spec PyProof.Rows L2
section
variable {P : Program} {w : World} {A : Around} {E : Value → Shared → Prop} {s : Shared}
/-- what set(xs) asks of the items: Iv i h says what the set at S has got in the heap h from the first i items -/
structure Adds (P : Program) (w : World) (A : Around) (E : Value → Shared → Prop) (S : Addr) (h0 : Heap) (items : List Value) (Iv : Nat → Heap → Prop) : Prop where
  keep : ∀ i h h', Iv i h → (∀ o, h.get? S = some o → h'.get? S = some o) → (∀ b o, h0.get? b = some o → h'.get? b = some o) → Iv i h'
  add : ∀ i v (s : Shared) (Q : Bool → Shared → Prop), items[i]? = some v → Iv i s.heap → (∀ b o, h0.get? b = some o → s.heap.get? b = some o) →
    (∀ b h' tk, Heap.SameBut S s.heap h' → s.toks ≤ tk → Iv (i + 1) h' → Q b { s with heap := h', toks := tk }) → wpAny (model P w) A (setAdd S v) Q E s
/-- an empty set, just made, at S -/
def EmptyAt (w : World) (h : Heap) (S : Addr) : Prop := h.get? S = some { cls := .type "set", dict := none, data := .set #[] 0 (.fresh 0 0 (!w.params.followText "set-order")) }
theorem set_update_gen {I : Addr} {fp wr : List Addr} {G : Array GenState → Array GenState → Prop} {n : Nat} {Pv : Nat → Value → Prop} {St : Nat → Shared → Prop} {R : Result → Shared → Prop}
    (W : WalksS P w A.in1 I fp wr G n Pv St) (S : Addr) (hSf : S ∉ fp) {items : List Value} (hval : ∀ i v, Pv i v → items[i]? = some v) {Iv : Nat → Heap → Prop}
    (h0 : Heap) (hA : ∀ E, Adds P w A.in1 E S h0 items Iv) (hS0 : h0.get? S = none) (hw0 : ∀ b ∈ wr, h0.get? b = none) :
    ∀ (k i : Nat) (s : Shared), n - i = k → i ≤ n → St i s → (∀ b o, h0.get? b = some o → s.heap.get? b = some o) → Iv i s.heap →
      (∀ s', Moved (S :: wr) G s s' → Iv n s'.heap → (∀ b o, h0.get? b = some o → s'.heap.get? b = some o) → R (.ok (.ret .none)) s') →
      codeAny (model P w) A (.builtin "set.update.loop" ⟨[.ref S, .ref I], []⟩) R s := by
  have hSw : S ∉ wr := fun h => hSf (W.sub _ h)
  have hsub : ∀ b ∈ wr, b ∈ S :: wr := fun b hb => List.mem_cons_of_mem _ hb
  have keepM : ∀ {s s' : Shared}, Moved wr G s s' → (∀ b o, h0.get? b = some o → s.heap.get? b = some o) → ∀ b o, h0.get? b = some o → s'.heap.get? b = some o := fun hm hkp b o e =>
    hm.heap b o (fun hb => by rw [hw0 b hb] at e; cases e) (hkp b o e)
  intro k
  induction k with
  | zero =>
    intro i s hk' hi hst hkp hS hR
    have hin : i = n := by omega
    subst hin
    refine codeAny_builtin F.entry_set_update_loop ?_
    rw [Around.under_plainId F.plain_set_update_loop _]
    show wpAny _ A.in1 (pyNext (.ref I) >>= _) _ _ s
    refine wpAny_bind (W.done s _ _ hst fun s' hm => ?_)
    show wpAny _ A.in1 (ret Value.none) _ _ s'
    have hkp' := keepM hm hkp
    exact wpAny_pure (hR s' (hm.mono hsub) ((hA fun _ _ => True).keep _ _ _ hS (fun o e => hm.heap S o hSw e) hkp') hkp')
  | succ k ih =>
    intro i s hk' hi hst hkp hS hR
    have hlt : i < n := by omega
    refine codeAny_builtin F.entry_set_update_loop ?_
    rw [Around.under_plainId F.plain_set_update_loop _]
    show wpAny _ A.in1 (pyNext (.ref I) >>= _) _ _ s
    refine wpAny_bind (W.item i s _ _ hlt hst fun v s' hP hst' hm => ?_)
    have hp := hval i v hP
    have hkp' := keepM hm hkp
    have hS' : Iv i s'.heap := (hA fun _ _ => True).keep _ _ _ hS (fun o e => hm.heap S o hSw e) hkp'
    show wpAny _ A.in1 (holding [v] (setAdd S v) >>= _) _ _ s'
    refine wpAny_bind (wpAny_holding ?_)
    refine (hA _).add i v s' _ hp hS' hkp' fun b h' tk hsb htk hS2 => ?_
    have hkp2 : ∀ b o, h0.get? b = some o → h'.get? b = some o := fun b o e => (hsb.2 b (fun z => by rw [z, hS0] at e; cases e)).trans (hkp' b o e)
    refine wpAny_pure ⟨plainId_quiet F.plain_set_update_loop _, ih (i + 1) _ (by omega) hlt (W.frame _ s' _ _ hst' htk fun b hb o e => ?_) hkp2 hS2 fun s'' hm'' hS'' hkp'' => ?_⟩
    · rw [hsb.2 b (fun h : b = S => hSf (by rw [← h]; exact hb))]; exact e
    · refine hR s'' (Moved.trans W.gtrans ((hm.mono hsub).then_heap htk fun b o hb e => ?_) hm'') hS'' hkp''
      rw [hsb.2 b (fun h : b = S => hb (by rw [h]; exact List.mem_cons_self))]; exact e
set_option maxHeartbeats 3200000 in
/-- set(xs) -/
theorem call_set_list {l : Addr} {items : Array Value} {Iv : Nat → Heap → Prop} {Q : Value → Shared → Prop} (hh : A.handled = none) (hl : s.heap.IsList l items)
    (hA : ∀ A1 E1, A1.units ≤ A.units + 6 → Adds P w A1 E1 s.heap.objs.size s.heap items.toList Iv) (h0 : ∀ h', EmptyAt w h' s.heap.objs.size → Iv 0 h')
    (h : ∀ (h' : Heap) (tk : Nat), Iv items.size h' → (∀ b o, s.heap.get? b = some o → h'.get? b = some o) → Q (.ref s.heap.objs.size) { s with heap := h', toks := tk }) :
    wpAny (model P w) A (call (.type "set") [.ref l]) Q E s := by
  obtain ⟨c, tl, hmro⟩ := F.called_set.mro
  have hmade := F.called_set.made
  have hsub := F.called_set.sub
  refine wpAny_call (codeAny_of_tree ?_)
  show wpAny _ _ (callAny (.type "set") _) _ _ _
  refine wpAny_pure ⟨Code.quiet_builtin _ (by decide +kernel), codeAny_builtin F.entry_type_call ?_⟩
  rw [Around.under_plain (weight_type_call_type "set" [.ref l] []) rfl]
  have h1 := F.called_set.notType
  have h2 := F.called_set.canCreate
  have hct := F.typeCall_set_1 (.ref l)
  repeat (any_goals (first | assumption | wp_step))

  refine codeAny_mono (code_set_led1 (.ref l) (E := E) (Q₁ := fun obj s₁ => obj = .ref s.heap.objs.size ∧ s₁ = { s with heap := s.heap.push { cls := .type "set", dict := none, data := .set #[] 0 (.fresh 0 0 (!w.params.followText "set-order")) } }) ⟨rfl, rfl⟩) fun r s₁ hr => ?_
  cases r with
  | error e => exact hr
  | ok fl =>
    cases fl with
    | ret obj =>
      obtain ⟨rfl, rfl⟩ := hr
      have hS : (s.heap.push { cls := .type "set", dict := none, data := .set #[] 0 (.fresh 0 0 (!w.params.followText "set-order")) }).get? s.heap.objs.size = some { cls := .type "set", dict := none, data := .set #[] 0 (.fresh 0 0 (!w.params.followText "set-order")) } := Heap.get?_push_size _ rfl
      have hT : Shared.TypeIs { s with heap := s.heap.push { cls := .type "set", dict := none, data := .set #[] 0 (.fresh 0 0 (!w.params.followText "set-order")) } } (.ref s.heap.objs.size) "set" := ⟨_, hS, rfl⟩
      have hli := F.called_set.init.lookup
      have hbi := F.called_set.init.bind (.ref s.heap.objs.size)
      repeat (any_goals (first | assumption | wp_step))

      refine codeAny_mono (codeAny_call_builtin (R := wants (fun r s₂ => r = .none ∧ ∃ h' tk, s₂ = { s with heap := h', toks := tk } ∧ Iv items.size h' ∧
          (∀ b o, s.heap.get? b = some o → h'.get? b = some o)) E) F.called_set.init.plain F.entry_set_init (check_set_init_1 hT ?_)) fun r₂ s₂ hr₂ => ?_
      · obtain ⟨ol, hol, hcl, nl, hdl⟩ := hl
        obtain ⟨ocls, odict, odata, oslots⟩ := ol
        simp only at hcl hdl
        subst hcl; subst hdl
        have hol' : (s.heap.push { cls := .type "set", dict := none, data := .set #[] 0 (.fresh 0 0 (!w.params.followText "set-order")) }).get? l = some { cls := .type "list", dict := odict, data := .seq items nl, slots := oslots } := Heap.get?_push_of_some _ hol
        have hsls := F.sub_list_set
        have hslf := F.sub_list_frozenset
        have hne : (Value.type "list" == Value.type "dict") = false := by decide
        have hl1 : (s.heap.push { cls := .type "set", dict := none, data := .set #[] 0 (.fresh 0 0 (!w.params.followText "set-order")) }).IsList l items := ⟨_, hol', rfl, nl, rfl⟩
        unfold Builtin.«set.__init__» noKeywords Builtin.Frozenset.updateFrom
        generalize hPI : pyIter = PI
        wp_walk
        subst hPI

        refine wpAny_pyIter_list hl1 ?_
        refine wpAny_bind (wpAny_runValue ?_)
        have hlS : l < s.heap.objs.size := Heap.lt_size hol
        have hh3 : A.in1.in1.in1.handled = none := by simp [hh]
        have hz1 : (s.heap.push { cls := .type "set", dict := none, data := .set #[] 0 (.fresh 0 0 (!w.params.followText "set-order")) }).objs.size = s.heap.objs.size + 1 := Heap.size_push ..
        have hneI : l ≠ (s.heap.push { cls := .type "set", dict := none, data := .set #[] 0 (.fresh 0 0 (!w.params.followText "set-order")) }).objs.size := by
          rw [Heap.size_push]; exact Nat.ne_of_lt (Nat.lt_succ_of_lt hlS)
        have hSf : s.heap.objs.size ∉ [(s.heap.push { cls := .type "set", dict := none, data := .set #[] 0 (.fresh 0 0 (!w.params.followText "set-order")) }).objs.size, l] := by
          rw [Heap.size_push]; simp only [List.mem_cons, List.mem_singleton, List.not_mem_nil, or_false, not_or]
          exact ⟨Nat.ne_of_lt (Nat.lt_succ_self _), Nat.ne_of_gt hlS⟩
        have hval : ∀ (i : Nat) (v : Value), items[i]? = some v → items.toList[i]? = some v := fun i v hv => by
          rw [Array.getElem?_toList]; exact hv
        have none_of : ∀ b, s.heap.objs.size ≤ b → s.heap.get? b = none := fun b hb => by
          cases q : s.heap.get? b with
          | none => rfl
          | some o => exact absurd (Nat.lt_of_lt_of_le (Heap.lt_size q) hb) (Nat.lt_irrefl _)
        refine set_update_gen ((Walks.list hh3 _ l hneI items).toS) s.heap.objs.size
          hSf hval s.heap (fun E1 => hA _ E1 (by simp only [Around.in1_units]; omega)) (none_of _ (Nat.le_refl _)) (fun b hb => none_of b (by
            rw [List.mem_singleton.mp hb, Heap.size_push]
            exact Nat.le_succ _)) (items.size - 0) 0 _ (by omega) (Nat.zero_le _)
          ⟨⟨_, Heap.get?_push_size _ rfl, rfl, rfl⟩, (hl1.push _)⟩ (fun b o e => Heap.get?_push_of_some _ (Heap.get?_push_of_some _ e)) ?hS0 ?hR
        case hS0 =>
          have hget : ((s.heap.push { cls := .type "set", dict := none, data := .set #[] 0 (.fresh 0 0 (!w.params.followText "set-order")) }).push { cls := .type "list_iterator", data := .fields #[.ref l, .int 0 0] }).get? s.heap.objs.size
              = some { cls := .type "set", dict := none, data := .set #[] 0 (.fresh 0 0 (!w.params.followText "set-order")) } := Heap.get?_push_of_some _ hS
          exact h0 _ hget
        case hR =>
          intro s' hm hS' hkp
          obtain ⟨h', g2, d', tk', os'⟩ := s'
          have eg : g2 = s.gens := hm.gens
          have ed : d' = s.drawn := hm.drawn
          have eo : os' = s.os := hm.os
          subst eg; subst ed; subst eo
          show wpAny _ _ _ _ _ _
          refine wpAny_pure ?_
          show wpAny _ _ (ret Value.none) _ _ _
          exact wpAny_pure ⟨rfl, h', tk', rfl, hS', hkp⟩

      · cases r₂ with
        | error e => exact hr₂
        | ok fl₂ =>
          cases fl₂ with
          | ret r =>
            obtain ⟨rfl, h', tk, rfl, hS', hk'⟩ := hr₂
            repeat (any_goals (first | assumption | wp_step))
            exact h _ _ hS' hk'
          | _ => exact hr₂.elim
    | _ => exact hr.elim
/-- set(xs), xs a tuple -/
theorem call_set_tup {l : Addr} {items : Array Value} {Iv : Nat → Heap → Prop} {Q : Value → Shared → Prop} (hh : A.handled = none) (hl : s.heap.IsTuple l items)
    (hA : ∀ A1 E1, A1.units ≤ A.units + 6 → Adds P w A1 E1 s.heap.objs.size s.heap items.toList Iv) (h0 : ∀ h', EmptyAt w h' s.heap.objs.size → Iv 0 h')
    (h : ∀ (h' : Heap) (tk : Nat), Iv items.size h' → (∀ b o, s.heap.get? b = some o → h'.get? b = some o) → Q (.ref s.heap.objs.size) { s with heap := h', toks := tk }) :
    wpAny (model P w) A (call (.type "set") [.ref l]) Q E s := by
  obtain ⟨c, tl, hmro⟩ := F.called_set.mro
  have hmade := F.called_set.made
  have hsub := F.called_set.sub
  refine wpAny_call (codeAny_of_tree ?_)
  show wpAny _ _ (callAny (.type "set") _) _ _ _
  refine wpAny_pure ⟨Code.quiet_builtin _ (by decide +kernel), codeAny_builtin F.entry_type_call ?_⟩
  rw [Around.under_plain (weight_type_call_type "set" [.ref l] []) rfl]
  have h1 := F.called_set.notType
  have h2 := F.called_set.canCreate
  have hct := F.typeCall_set_1 (.ref l)
  repeat (any_goals (first | assumption | wp_step))

  refine codeAny_mono (code_set_led1 (.ref l) (E := E) (Q₁ := fun obj s₁ => obj = .ref s.heap.objs.size ∧ s₁ = { s with heap := s.heap.push { cls := .type "set", dict := none, data := .set #[] 0 (.fresh 0 0 (!w.params.followText "set-order")) } }) ⟨rfl, rfl⟩) fun r s₁ hr => ?_
  cases r with
  | error e => exact hr
  | ok fl =>
    cases fl with
    | ret obj =>
      obtain ⟨rfl, rfl⟩ := hr
      have hS : (s.heap.push { cls := .type "set", dict := none, data := .set #[] 0 (.fresh 0 0 (!w.params.followText "set-order")) }).get? s.heap.objs.size = some { cls := .type "set", dict := none, data := .set #[] 0 (.fresh 0 0 (!w.params.followText "set-order")) } := Heap.get?_push_size _ rfl
      have hT : Shared.TypeIs { s with heap := s.heap.push { cls := .type "set", dict := none, data := .set #[] 0 (.fresh 0 0 (!w.params.followText "set-order")) } } (.ref s.heap.objs.size) "set" := ⟨_, hS, rfl⟩
      have hli := F.called_set.init.lookup
      have hbi := F.called_set.init.bind (.ref s.heap.objs.size)
      repeat (any_goals (first | assumption | wp_step))

      refine codeAny_mono (codeAny_call_builtin (R := wants (fun r s₂ => r = .none ∧ ∃ h' tk, s₂ = { s with heap := h', toks := tk } ∧ Iv items.size h' ∧
          (∀ b o, s.heap.get? b = some o → h'.get? b = some o)) E) F.called_set.init.plain F.entry_set_init (check_set_init_1 hT ?_)) fun r₂ s₂ hr₂ => ?_
      · obtain ⟨ol, hol, hcl, nl, hdl⟩ := hl
        obtain ⟨ocls, odict, odata, oslots⟩ := ol
        simp only at hcl hdl
        subst hcl; subst hdl
        have hol' : (s.heap.push { cls := .type "set", dict := none, data := .set #[] 0 (.fresh 0 0 (!w.params.followText "set-order")) }).get? l = some { cls := .type "tuple", dict := odict, data := .seq items nl, slots := oslots } := Heap.get?_push_of_some _ hol
        have hsls := F.sub_tuple_set
        have hslf := F.sub_tuple_frozenset
        have hne : (Value.type "tuple" == Value.type "dict") = false := by decide
        have hl1 : (s.heap.push { cls := .type "set", dict := none, data := .set #[] 0 (.fresh 0 0 (!w.params.followText "set-order")) }).IsTuple l items := ⟨_, hol', rfl, nl, rfl⟩
        unfold Builtin.«set.__init__» noKeywords Builtin.Frozenset.updateFrom
        generalize hPI : pyIter = PI
        wp_walk
        subst hPI

        refine wpAny_pyIter_tuple hl1 ?_
        refine wpAny_bind (wpAny_runValue ?_)
        have hlS : l < s.heap.objs.size := Heap.lt_size hol
        have hh3 : A.in1.in1.in1.handled = none := by simp [hh]
        have hz1 : (s.heap.push { cls := .type "set", dict := none, data := .set #[] 0 (.fresh 0 0 (!w.params.followText "set-order")) }).objs.size = s.heap.objs.size + 1 := Heap.size_push ..
        have hneI : l ≠ (s.heap.push { cls := .type "set", dict := none, data := .set #[] 0 (.fresh 0 0 (!w.params.followText "set-order")) }).objs.size := by
          rw [Heap.size_push]; exact Nat.ne_of_lt (Nat.lt_succ_of_lt hlS)
        have hSf : s.heap.objs.size ∉ [(s.heap.push { cls := .type "set", dict := none, data := .set #[] 0 (.fresh 0 0 (!w.params.followText "set-order")) }).objs.size, l] := by
          rw [Heap.size_push]; simp only [List.mem_cons, List.mem_singleton, List.not_mem_nil, or_false, not_or]
          exact ⟨Nat.ne_of_lt (Nat.lt_succ_self _), Nat.ne_of_gt hlS⟩
        have hval : ∀ (i : Nat) (v : Value), items[i]? = some v → items.toList[i]? = some v := fun i v hv => by
          rw [Array.getElem?_toList]; exact hv
        have none_of : ∀ b, s.heap.objs.size ≤ b → s.heap.get? b = none := fun b hb => by
          cases q : s.heap.get? b with
          | none => rfl
          | some o => exact absurd (Nat.lt_of_lt_of_le (Heap.lt_size q) hb) (Nat.lt_irrefl _)
        refine set_update_gen ((Walks.tuple hh3 _ l hneI items).toS) s.heap.objs.size
          hSf hval s.heap (fun E1 => hA _ E1 (by simp only [Around.in1_units]; omega)) (none_of _ (Nat.le_refl _)) (fun b hb => none_of b (by
            rw [List.mem_singleton.mp hb, Heap.size_push]
            exact Nat.le_succ _)) (items.size - 0) 0 _ (by omega) (Nat.zero_le _)
          ⟨⟨_, Heap.get?_push_size _ rfl, rfl, rfl⟩, (hl1.push _)⟩ (fun b o e => Heap.get?_push_of_some _ (Heap.get?_push_of_some _ e)) ?hS0 ?hR
        case hS0 =>
          have hget : ((s.heap.push { cls := .type "set", dict := none, data := .set #[] 0 (.fresh 0 0 (!w.params.followText "set-order")) }).push { cls := .type "tuple_iterator", data := .fields #[.ref l, .int 0 0] }).get? s.heap.objs.size
              = some { cls := .type "set", dict := none, data := .set #[] 0 (.fresh 0 0 (!w.params.followText "set-order")) } := Heap.get?_push_of_some _ hS
          exact h0 _ hget
        case hR =>
          intro s' hm hS' hkp
          obtain ⟨h', g2, d', tk', os'⟩ := s'
          have eg : g2 = s.gens := hm.gens
          have ed : d' = s.drawn := hm.drawn
          have eo : os' = s.os := hm.os
          subst eg; subst ed; subst eo
          show wpAny _ _ _ _ _ _
          refine wpAny_pure ?_
          show wpAny _ _ (ret Value.none) _ _ _
          exact wpAny_pure ⟨rfl, h', tk', rfl, hS', hkp⟩

      · cases r₂ with
        | error e => exact hr₂
        | ok fl₂ =>
          cases fl₂ with
          | ret r =>
            obtain ⟨rfl, h', tk, rfl, hS', hk'⟩ := hr₂
            repeat (any_goals (first | assumption | wp_step))
            exact h _ _ hS' hk'
          | _ => exact hr₂.elim
    | _ => exact hr.elim

end
end MoR
namespace Mo

/-! ### sorted lists without repetitions -/
section
variable {β : Type} [DecidableEq β]
/-- a total order as a Bool relation -/
structure TOrd (le : β → β → Bool) : Prop where
  total : ∀ a b, le a b = true ∨ le b a = true
  trans : ∀ a b c, le a b = true → le b c = true → le a c = true
  anti : ∀ a b, le a b = true → le b a = true → a = b
variable {le : β → β → Bool}
theorem TOrd.refl (o : TOrd le) (a : β) : le a a = true := (o.total a a).elim id id
def ins (le : β → β → Bool) (x : β) : List β → List β
  | [] => [x]
  | y :: r => if x = y then y :: r else if le x y then x :: y :: r else y :: ins le x r
def canon (le : β → β → Bool) : List β → List β
  | [] => []
  | x :: r => ins le x (canon le r)
theorem mem_ins {x y : β} : ∀ {l : List β}, y ∈ ins le x l ↔ y = x ∨ y ∈ l
  | [] => by simp [ins]
  | z :: r => by
    unfold ins
    by_cases h : x = z
    · subst h
      rw [if_pos rfl]
      simp
    · rw [if_neg h]
      by_cases h2 : le x z = true
      · rw [if_pos h2]; simp
      · rw [if_neg h2, List.mem_cons, mem_ins, List.mem_cons]
        constructor
        · rintro (h | h | h) <;> simp [h]
        · rintro (h | h | h) <;> simp [h]
theorem mem_canon {y : β} : ∀ {l : List β}, y ∈ canon le l ↔ y ∈ l
  | [] => by simp [canon]
  | x :: r => by
    unfold canon
    rw [mem_ins, mem_canon, List.mem_cons]
/-- strictly rising -/
def Rise (le : β → β → Bool) (l : List β) : Prop := l.Pairwise fun a b => le a b = true ∧ a ≠ b
theorem rise_ins (o : TOrd le) {x : β} : ∀ {l : List β}, Rise le l → Rise le (ins le x l)
  | [], _ => by simp [ins, Rise]
  | z :: r, h => by
    unfold ins
    obtain ⟨h1, h2⟩ := List.pairwise_cons.mp h
    by_cases e : x = z
    · rw [if_pos e]; exact h
    · rw [if_neg e]
      by_cases e2 : le x z = true
      · rw [if_pos e2]
        refine List.pairwise_cons.mpr ⟨fun y hy => ?_, h⟩
        rcases List.mem_cons.mp hy with rfl | hy
        · exact ⟨e2, e⟩
        · have q := h1 y hy
          refine ⟨o.trans _ _ _ e2 q.1, fun z => ?_⟩
          subst z
          exact q.2 (o.anti _ _ q.1 e2)
      · rw [if_neg e2]
        refine List.pairwise_cons.mpr ⟨fun y hy => ?_, rise_ins o h2⟩
        rcases mem_ins.mp hy with rfl | hy
        · exact ⟨(o.total z y).resolve_right e2, fun q => e q.symm⟩
        · exact h1 y hy
theorem rise_canon (o : TOrd le) : ∀ l : List β, Rise le (canon le l)
  | [] => List.Pairwise.nil
  | x :: r => rise_ins o (rise_canon o r)
theorem Rise.nodup {l : List β} (h : Rise le l) : l.Nodup := h.imp fun q => q.2
theorem rise_unique (o : TOrd le) : ∀ {l m : List β}, Rise le l → Rise le m → (∀ x, x ∈ l ↔ x ∈ m) → l = m
  | [], [], _, _, _ => rfl
  | [], y :: m, _, _, h => absurd ((h y).mpr List.mem_cons_self) (by simp)
  | x :: l, [], _, _, h => absurd ((h x).mp List.mem_cons_self) (by simp)
  | x :: l, y :: m, hl, hm, h => by
    obtain ⟨a1, a2⟩ := List.pairwise_cons.mp hl
    obtain ⟨b1, b2⟩ := List.pairwise_cons.mp hm
    have e : x = y := by
      rcases List.mem_cons.mp ((h x).mp List.mem_cons_self) with e | hx
      · exact e
      · rcases List.mem_cons.mp ((h y).mpr List.mem_cons_self) with e | hy
        · exact e.symm
        · exact o.anti _ _ (a1 y hy).1 (b1 x hx).1
    subst e
    rw [rise_unique o a2 b2 fun z => ?_]
    constructor
    · intro hz
      rcases List.mem_cons.mp ((h z).mp (List.mem_cons_of_mem _ hz)) with e | q
      · exact absurd e.symm (a1 z hz).2
      · exact q
    · intro hz
      rcases List.mem_cons.mp ((h z).mpr (List.mem_cons_of_mem _ hz)) with e | q
      · exact absurd e.symm (b1 z hz).2
      · exact q
/-- a list in order without repetitions, of the same members, is the canonical one -/
theorem canon_eq (o : TOrd le) {l out : List β} (hs : out.Pairwise fun a b => le a b = true) (hn : out.Nodup) (hm : ∀ x, x ∈ out ↔ x ∈ l) : out = canon le l :=
  rise_unique o (List.Pairwise.and hs hn) (rise_canon o l) fun x => by rw [hm, mem_canon]
theorem canon_of_rise (o : TOrd le) {l : List β} (h : Rise le l) : canon le l = l :=
  rise_unique o (rise_canon o l) h fun _ => mem_canon
theorem canon_congr (o : TOrd le) {l m : List β} (h : ∀ x, x ∈ l ↔ x ∈ m) : canon le l = canon le m :=
  rise_unique o (rise_canon o l) (rise_canon o m) fun x => by rw [mem_canon, mem_canon, h]
theorem canon_nil_iff {l : List β} : canon le l = [] ↔ l = [] := by
  constructor
  · intro h
    cases l with
    | nil => rfl
    | cons x r =>
      have : x ∈ canon le (x :: r) := mem_canon.mpr List.mem_cons_self
      rw [h] at this; cases this
  · rintro rfl; rfl
/-- pigeons -/
theorem nodup_le : ∀ {l m : List β}, l.Nodup → (∀ x, x ∈ l → x ∈ m) → l.length ≤ m.length
  | [], _, _, _ => Nat.zero_le _
  | x :: l, m, hn, h => by
    obtain ⟨h1, h2⟩ := List.nodup_cons.mp hn
    have hx : x ∈ m := h x List.mem_cons_self
    have h3 : l.length ≤ (m.erase x).length := nodup_le h2 fun y hy => (List.mem_erase_of_ne (fun e : y = x => h1 (by rw [← e]; exact hy))).mpr (h y (List.mem_cons_of_mem _ hy))
    rw [List.length_erase_of_mem hx] at h3
    have : 0 < m.length := List.length_pos_of_mem hx
    rw [List.length_cons]; omega
theorem canon_len (o : TOrd le) (l : List β) : (canon le l).length ≤ l.length := nodup_le (rise_canon o l).nodup fun _ h => mem_canon.mp h
theorem rise_sub {l m : List β} (h : Rise le m) (s : l.Sublist m) : Rise le l := List.Pairwise.sublist s h
end

/-! ### words -/
section
variable {α : Type} [DecidableEq α]
/-- a word without its longest beginning that is a part of a log -/
def restW : List α → List α → List α
  | w, [] => w
  | [], _ :: _ => []
  | a :: w, n :: l => if a = n then restW w l else restW (a :: w) l
theorem restW_nil (l : List α) : restW ([] : List α) l = [] := by cases l <;> rfl
theorem restW_cons (a n : α) (w l : List α) : restW (a :: w) (n :: l) = if a = n then restW w l else restW (a :: w) l := rfl
theorem sub_append : ∀ (l w m : List α), w.Sublist (l ++ m) ↔ (restW w l).Sublist m
  | [], w, m => by cases w <;> exact Iff.rfl
  | n :: l, [], m => by rw [restW_nil]; simp
  | n :: l, a :: w, m => by
    rw [restW_cons]
    by_cases h : a = n
    · subst h
      rw [if_pos rfl, ← sub_append l w m]
      show (a :: w).Sublist (a :: (l ++ m)) ↔ _
      exact List.cons_sublist_cons
    · rw [if_neg h, ← sub_append l (a :: w) m]
      show (a :: w).Sublist (n :: (l ++ m)) ↔ _
      constructor
      · intro s
        cases s with
        | cons _ s => exact s
        | cons_cons _ s => exact absurd rfl h
      · intro s; exact s.cons _
theorem rest_suffix : ∀ (l w : List α), ∃ p, p ++ restW w l = w ∧ p.Sublist l
  | [], w => ⟨[], by cases w <;> rfl, List.Sublist.slnil⟩
  | n :: l, [] => ⟨[], rfl, List.nil_sublist _⟩
  | n :: l, a :: w => by
    rw [restW_cons]
    by_cases h : a = n
    · subst h
      rw [if_pos rfl]
      obtain ⟨p, e, s⟩ := rest_suffix l w
      exact ⟨a :: p, by rw [List.cons_append, e], s.cons_cons _⟩
    · rw [if_neg h]
      obtain ⟨p, e, s⟩ := rest_suffix l (a :: w)
      exact ⟨p, e, s.cons _⟩
theorem rest_len (w l : List α) : (restW w l).length ≤ w.length := by
  obtain ⟨p, e, _⟩ := rest_suffix l w
  have := congrArg List.length e
  rw [List.length_append] at this
  omega
theorem restW_append : ∀ (l m w : List α), restW w (l ++ m) = restW (restW w l) m
  | [], m, w => by cases w <;> rfl
  | n :: l, m, [] => by rw [restW_nil, restW_nil, restW_nil]
  | n :: l, m, a :: w => by
    show restW (a :: w) (n :: (l ++ m)) = _
    rw [restW_cons, restW_cons]
    by_cases h : a = n
    · rw [if_pos h, if_pos h]; exact restW_append l m w
    · rw [if_neg h, if_neg h]; exact restW_append l m (a :: w)
/-- of how many events the longest beginning is -/
def begun (w l : List α) : Nat := w.length - (restW w l).length
theorem rest_drop (w l : List α) : restW w l = w.drop (begun w l) := by
  obtain ⟨p, e, _⟩ := rest_suffix l w
  have h1 := congrArg List.length e
  rw [List.length_append] at h1
  have h2 : begun w l = p.length := by unfold begun; omega
  rw [h2]
  conv => rhs; rw [← e]
  simp
theorem begun_le (w l : List α) : begun w l ≤ w.length := by unfold begun; omega
theorem begun_nil (w : List α) : begun w [] = 0 := by unfold begun; cases w <;> simp [restW]
theorem begun_snoc (w l : List α) (n : α) : begun w (l ++ [n]) = if w[begun w l]? = some n then begun w l + 1 else begun w l := by
  have h := rest_drop w l
  have e : restW w (l ++ [n]) = restW (restW w l) [n] := restW_append l [n] w
  have hl : (restW w l).length = w.length - begun w l := by rw [h, List.length_drop]
  have hb := begun_le w l
  cases hr : restW w l with
  | nil =>
    have hz : w.length ≤ begun w l := by rw [hr] at hl; simp at hl; omega
    rw [List.getElem?_eq_none hz, if_neg (by simp)]
    unfold begun at *
    rw [e, hr, restW_nil]
  | cons a r =>
    have hg : w[begun w l]? = some a := by
      have : (w.drop (begun w l))[0]? = some a := by rw [← h, hr]; rfl
      rw [List.getElem?_drop] at this
      simpa using this
    rw [hg]
    rw [hr] at e hl
    rw [restW_cons] at e
    rw [List.length_cons] at hl
    by_cases hq : a = n
    · rw [if_pos hq] at e
      rw [if_pos (by rw [hq])]
      have : restW r ([] : List α) = r := by cases r <;> rfl
      rw [this] at e
      have e2 : begun w (l ++ [n]) = w.length - r.length := by unfold begun; rw [e]
      omega
    · rw [if_neg hq] at e
      rw [if_neg (by intro z; exact hq (Option.some.inj z))]
      have : restW (a :: r) ([] : List α) = a :: r := rfl
      rw [this] at e
      have e2 : begun w (l ++ [n]) = w.length - (r.length + 1) := by unfold begun; rw [e, List.length_cons]
      omega
/-- is a part of -/
def isPart (w l : List α) : Bool := begun w l == w.length
theorem isPart_iff {w l : List α} : isPart w l = true ↔ w.Sublist l := by
  have h := sub_append l w []
  rw [List.append_nil] at h
  rw [h]
  unfold isPart
  rw [beq_iff_eq, List.sublist_nil]
  have := begun_le w l
  have hl : (restW w l).length = w.length - begun w l := by rw [rest_drop, List.length_drop]
  constructor
  · intro e
    exact List.length_eq_zero_iff.mp (by omega)
  · intro e
    rw [e] at hl
    simp at hl
    omega
theorem isPart_false {w l : List α} : isPart w l = false ↔ ¬ w.Sublist l := by
  rw [← isPart_iff]; simp

/-! ### bases -/
def Done (b : List (List α)) (l : List α) : Prop := ∃ w, w ∈ b ∧ w.Sublist l
theorem Done.mono {b : List (List α)} {l m : List α} (h : Done b l) (s : l.Sublist m) : Done b m := let ⟨w, hw, q⟩ := h; ⟨w, hw, q.trans s⟩
def does (b : List (List α)) (l : List α) : Bool := b.any fun w => isPart w l
theorem does_iff {b : List (List α)} {l : List α} : does b l = true ↔ Done b l := by
  unfold does Done
  rw [List.any_eq_true]
  constructor
  · rintro ⟨w, hw, q⟩; exact ⟨w, hw, isPart_iff.mp q⟩
  · rintro ⟨w, hw, q⟩; exact ⟨w, hw, isPart_iff.mpr q⟩
instance (b : List (List α)) (l : List α) : Decidable (Done b l) := decidable_of_iff _ does_iff
theorem does_eq {b c : List (List α)} {l m : List α} (h : Done b l ↔ Done c m) : does b l = does c m := by
  rw [Bool.eq_iff_iff, does_iff, does_iff, h]
theorem done_nil (l : List α) : ¬ Done ([] : List (List α)) l := fun ⟨_, h, _⟩ => by cases h
theorem done_always (l : List α) : Done [([] : List α)] l := ⟨[], List.mem_singleton.mpr rfl, List.nil_sublist _⟩

/-- an order of words, those of fewer events first -/
structure WOrd (le : List α → List α → Bool) : Prop extends TOrd le where
  len : ∀ a b, le a b = true → a.length ≤ b.length
variable {le : List α → List α → Bool}
def inOrder (le : List α → List α → Bool) (ws : List (List α)) : List (List α) := canon le ws
def greedy : List (List α) → List (List α) → List (List α)
  | found, [] => found
  | found, w :: r => if found.any (fun u => isPart u w) then greedy found r else greedy (found ++ [w]) r
def leastOf (le : List α → List α → Bool) (ws : List (List α)) : List (List α) := greedy [] (inOrder le ws)
/-- none is a part of another -/
def Anti (b : List (List α)) : Prop := ∀ u v, u ∈ b → v ∈ b → u.Sublist v → u = v
/-- a base -/
structure CB (le : List α → List α → Bool) (b : List (List α)) : Prop where
  rise : Rise le b
  anti : Anti b
theorem greedy_spec (o : WOrd le) : ∀ (r found : List (List α)), Rise le (found ++ r) → (∀ u ∈ found, ∀ v ∈ found, u.Sublist v → u = v) →
    Rise le (greedy found r) ∧ (∀ x, x ∈ greedy found r → x ∈ found ++ r) ∧ (∀ x ∈ found ++ r, ∃ u ∈ greedy found r, u.Sublist x) ∧ (∀ u ∈ greedy found r, ∀ v ∈ greedy found r, u.Sublist v → u = v) ∧ (∀ x ∈ found, x ∈ greedy found r)
  | [], found, hr, ha => by
    rw [List.append_nil] at *
    exact ⟨hr, fun _ h => h, fun x h => ⟨x, h, List.Sublist.refl _⟩, ha, fun _ h => h⟩
  | w :: r, found, hr, ha => by
    unfold greedy
    by_cases h : found.any (fun u => isPart u w) = true
    · rw [if_pos h]
      have hr2 : Rise le (found ++ r) := rise_sub hr (List.Sublist.append (List.Sublist.refl _) (List.sublist_cons_self _ _))
      obtain ⟨h1, h2, h3, h4, h5⟩ := greedy_spec o r found hr2 ha
      refine ⟨h1, fun x hx => ?_, fun x hx => ?_, h4, h5⟩
      · rcases List.mem_append.mp (h2 x hx) with q | q
        · exact List.mem_append_left _ q
        · exact List.mem_append_right _ (List.mem_cons_of_mem _ q)
      · rcases List.mem_append.mp hx with q | q
        · exact h3 x (List.mem_append_left _ q)
        · rcases List.mem_cons.mp q with rfl | q
          · obtain ⟨u, hu, s⟩ := List.any_eq_true.mp h
            exact ⟨u, h5 u hu, isPart_iff.mp s⟩
          · exact h3 x (List.mem_append_right _ q)
    · rw [if_neg h]
      have e : (found ++ [w]) ++ r = found ++ w :: r := by simp
      have hw : ∀ u ∈ found, ¬ u.Sublist w := fun u hu s => h (List.any_eq_true.mpr ⟨u, hu, isPart_iff.mpr s⟩)
      have hlt : ∀ u ∈ found, le u w = true ∧ u ≠ w := fun u hu => (List.pairwise_append.mp hr).2.2 u hu w List.mem_cons_self
      have ha2 : ∀ u ∈ found ++ [w], ∀ v ∈ found ++ [w], u.Sublist v → u = v := by
        intro u hu v hv s
        rcases List.mem_append.mp hu with hu | hu
        · rcases List.mem_append.mp hv with hv | hv
          · exact ha u hu v hv s
          · rw [List.mem_singleton.mp hv] at s
            exact absurd s (hw u hu)
        · rcases List.mem_append.mp hv with hv | hv
          · rw [List.mem_singleton.mp hu] at s ⊢
            exact s.eq_of_length_le (o.len _ _ (hlt v hv).1)
          · rw [List.mem_singleton.mp hu, List.mem_singleton.mp hv]
      obtain ⟨h1, h2, h3, h4, h5⟩ := greedy_spec o r (found ++ [w]) (by rw [e]; exact hr) ha2
      rw [e] at h2 h3
      exact ⟨h1, h2, h3, h4, fun x hx => h5 x (List.mem_append_left _ hx)⟩
section
variable (o : WOrd le)
include o
theorem cb_leastOf (ws : List (List α)) : CB le (leastOf le ws) := by
  obtain ⟨h1, _, _, h4, _⟩ := greedy_spec o (inOrder le ws) [] (rise_canon o.toTOrd ws) (fun u h => by cases h)
  exact ⟨h1, fun u v hu hv s => h4 u hu v hv s⟩
theorem leastOf_sub {ws : List (List α)} {x : List α} (h : x ∈ leastOf le ws) : x ∈ ws := by
  obtain ⟨_, h2, _⟩ := greedy_spec o (inOrder le ws) [] (rise_canon o.toTOrd ws) (fun u h => by cases h)
  exact mem_canon.mp (h2 x h)
theorem leastOf_all {ws : List (List α)} {x : List α} (h : x ∈ ws) : ∃ u, u ∈ leastOf le ws ∧ u.Sublist x := by
  obtain ⟨_, _, h3, _⟩ := greedy_spec o (inOrder le ws) [] (rise_canon o.toTOrd ws) (fun u h => by cases h)
  obtain ⟨u, hu, s⟩ := h3 x (mem_canon.mpr h)
  exact ⟨u, hu, s⟩
theorem done_leastOf {ws : List (List α)} {l : List α} : Done (leastOf le ws) l ↔ Done ws l := by
  constructor
  · rintro ⟨w, hw, s⟩; exact ⟨w, leastOf_sub o hw, s⟩
  · rintro ⟨w, hw, s⟩
    obtain ⟨u, hu, s2⟩ := leastOf_all o hw
    exact ⟨u, hu, s2.trans s⟩
/-- TWO BASES that the same logs do are one -/
theorem base_unique {b c : List (List α)} (hb : CB le b) (hc : CB le c) (h : ∀ l, Done b l ↔ Done c l) : b = c := by
  have key : ∀ {b c : List (List α)}, CB le b → CB le c → (∀ l, Done b l ↔ Done c l) → ∀ x, x ∈ b → x ∈ c := by
    intro b c hb hc h x hx
    obtain ⟨w, hw, s⟩ := (h x).mp ⟨x, hx, List.Sublist.refl _⟩
    obtain ⟨u, hu, s2⟩ := (h w).mpr ⟨w, hw, List.Sublist.refl _⟩
    have e := hb.anti u x hu hx (s2.trans s)
    subst e
    rw [← s.eq_of_length_le s2.length_le]; exact hw
  exact rise_unique o.toTOrd hb.rise hc.rise fun x => ⟨key hb hc h x, key hc hb (fun l => (h l).symm) x⟩
theorem leastOf_cb {b : List (List α)} (hb : CB le b) : leastOf le b = b := base_unique o (cb_leastOf o b) hb fun _ => done_leastOf o
theorem mem_leastOf {ws : List (List α)} {x : List α} : x ∈ leastOf le ws ↔ x ∈ ws ∧ ∀ u ∈ ws, u.Sublist x → u = x := by
  constructor
  · intro h
    refine ⟨leastOf_sub o h, fun u hu s => ?_⟩
    obtain ⟨v, hv, s2⟩ := leastOf_all o hu
    have e := (cb_leastOf o ws).anti v x hv h (s2.trans s)
    subst e
    exact s.eq_of_length_le s2.length_le
  · rintro ⟨h1, h2⟩
    obtain ⟨u, hu, s⟩ := leastOf_all o h1
    rw [← h2 u (leastOf_sub o hu) s]; exact hu
theorem leastOf_congr {b c : List (List α)} (h : ∀ l, Done b l ↔ Done c l) : leastOf le b = leastOf le c :=
  base_unique o (cb_leastOf o b) (cb_leastOf o c) fun l => by rw [done_leastOf o, done_leastOf o, h]
/-- the law's own way to the least ones: filter what has no other as a part -/
theorem leastOf_filter (ws : List (List α)) : leastOf le ws = (inOrder le ws).filter fun w => ((inOrder le ws).filter fun u => decide (u ≠ w) && isPart u w).isEmpty := by
  refine rise_unique o.toTOrd (cb_leastOf o ws).rise (rise_sub (rise_canon o.toTOrd ws) (List.filter_sublist)) fun x => ?_
  rw [mem_leastOf o, List.mem_filter]
  unfold inOrder
  rw [mem_canon, List.isEmpty_iff, List.filter_eq_nil_iff]
  refine and_congr_right fun _ => ?_
  constructor
  · intro h u hu q
    rw [Bool.and_eq_true, decide_eq_true_eq, isPart_iff] at q
    exact q.1 (h u (mem_canon.mp hu) q.2)
  · intro h u hu s
    refine Classical.byContradiction fun hne => h u (mem_canon.mpr hu) ?_
    rw [Bool.and_eq_true, decide_eq_true_eq, isPart_iff]
    exact ⟨hne, s⟩
end
theorem cb_nil : CB le ([] : List (List α)) := ⟨List.Pairwise.nil, fun u v h => by cases h⟩
theorem cb_one (w : List α) : CB le [w] := ⟨List.pairwise_singleton _ _, fun u v hu hv _ => by rw [List.mem_singleton.mp hu, List.mem_singleton.mp hv]⟩
theorem leastOf_nil : leastOf le ([] : List (List α)) = [] := rfl
/-- who has () is always -/
theorem cb_always {b : List (List α)} (h : CB le b) (hn : [] ∈ b) : b = [[]] := by
  have h1 : ∀ x ∈ b, x = [] := fun x hx => (h.anti [] x hn hx (List.nil_sublist _)).symm
  have hd := h.rise.nodup
  cases b with
  | nil => cases hn
  | cons x r =>
    have ex := h1 x List.mem_cons_self
    cases r with
    | nil => rw [ex]
    | cons y r =>
      have ey := h1 y (by simp)
      rw [ex, ey] at hd
      simp at hd

/-- the base of a judgement -/
structure IsBase (le : List α → List α → Bool) (b : List (List α)) (U : List α → Prop) : Prop where
  cb : CB le b
  iff : ∀ l, Done b l ↔ U l
theorem IsBase.unique (o : WOrd le) {b c : List (List α)} {U : List α → Prop} (hb : IsBase le b U) (hc : IsBase le c U) : b = c :=
  base_unique o hb.cb hc.cb fun l => (hb.iff l).trans (hc.iff l).symm
theorem IsBase.congr {b : List (List α)} {U V : List α → Prop} (h : IsBase le b U) (e : ∀ l, U l ↔ V l) : IsBase le b V := ⟨h.cb, fun l => (h.iff l).trans (e l)⟩
theorem IsBase.of_cb {b : List (List α)} (h : CB le b) : IsBase le b (Done b) := ⟨h, fun _ => Iff.rfl⟩
/-- its words are the least of the judgement -/
theorem IsBase.min {b : List (List α)} {U : List α → Prop} (h : IsBase le b U) {x : List α} : x ∈ b ↔ U x ∧ ∀ y, U y → y.Sublist x → y = x := by
  constructor
  · intro hx
    refine ⟨(h.iff x).mp ⟨x, hx, List.Sublist.refl _⟩, fun y hy s => ?_⟩
    obtain ⟨w, hw, s2⟩ := (h.iff y).mpr hy
    have e := h.cb.anti w x hw hx (s2.trans s)
    subst e
    exact s.eq_of_length_le s2.length_le
  · rintro ⟨h1, h2⟩
    obtain ⟨w, hw, s⟩ := (h.iff x).mpr h1
    rw [← h2 w ((h.iff w).mp ⟨w, hw, List.Sublist.refl _⟩) s]; exact hw
end
end Mo
namespace Mo
section
variable {α : Type} [DecidableEq α] {le : List α → List α → Bool}
abbrev ALW : List (List α) := [[]]

/-! ### one behind the other -/
def thenB (le : List α → List α → Bool) (A B : List (List α)) : List (List α) := inOrder le (A.flatMap fun w => B.map fun m => w ++ m)
theorem mem_thenB {A B : List (List α)} {x : List α} : x ∈ thenB le A B ↔ ∃ a ∈ A, ∃ b ∈ B, x = a ++ b := by
  unfold thenB inOrder
  rw [mem_canon, List.mem_flatMap]
  constructor
  · rintro ⟨a, ha, h⟩
    obtain ⟨b, hb, rfl⟩ := List.mem_map.mp h
    exact ⟨a, ha, b, hb, rfl⟩
  · rintro ⟨a, ha, b, hb, rfl⟩
    exact ⟨a, ha, List.mem_map.mpr ⟨b, hb, rfl⟩⟩
theorem done_thenB {A B : List (List α)} {l : List α} : Done (thenB le A B) l ↔ ∃ l1 l2, l = l1 ++ l2 ∧ Done A l1 ∧ Done B l2 := by
  constructor
  · rintro ⟨w, hw, s⟩
    obtain ⟨a, ha, b, hb, rfl⟩ := mem_thenB.mp hw
    obtain ⟨l1, l2, e, s1, s2⟩ := List.append_sublist_iff.mp s
    exact ⟨l1, l2, e, ⟨a, ha, s1⟩, ⟨b, hb, s2⟩⟩
  · rintro ⟨l1, l2, rfl, ⟨a, ha, s1⟩, ⟨b, hb, s2⟩⟩
    exact ⟨a ++ b, mem_thenB.mpr ⟨a, ha, b, hb, rfl⟩, s1.append s2⟩
/-- a product within a product -/
theorem prod_sub {A B : List (List α)} (hA : Anti A) (hB : Anti B) {a a' b b' : List α} (ha : a ∈ A) (ha' : a' ∈ A) (hb : b ∈ B) (hb' : b' ∈ B) (s : (a ++ b).Sublist (a' ++ b')) : a = a' ∧ b = b' := by
  obtain ⟨u, v, e, s1, s2⟩ := List.sublist_append_iff.mp s
  rcases Nat.le_total a.length u.length with h | h
  · have p : a <+: u := by
      have q : a <+: u ++ v := by rw [← e]; exact List.prefix_append _ _
      exact List.prefix_of_prefix_length_le q (List.prefix_append _ _) h
    have e1 := hA a a' ha ha' (p.sublist.trans s1)
    subst e1
    have e2 : u = a := s1.eq_of_length_le h
    subst e2
    have e3 := List.append_cancel_left e
    rw [← e3] at s2
    exact ⟨rfl, hB b b' hb hb' s2⟩
  · have p : b <:+ v := by
      have q : b <:+ u ++ v := by rw [← e]; exact List.suffix_append _ _
      have hl := congrArg List.length e
      rw [List.length_append, List.length_append] at hl
      exact List.suffix_of_suffix_length_le q (List.suffix_append _ _) (by omega)
    have hl := congrArg List.length e
    rw [List.length_append, List.length_append] at hl
    have e1 := hB b b' hb hb' (p.sublist.trans s2)
    subst e1
    have h3 := s2.length_le
    have e2 : v = b := s2.eq_of_length_le (by omega)
    subst e2
    have e3 := List.append_cancel_right e
    rw [← e3] at s1
    exact ⟨hA a a' ha ha' s1, rfl⟩
theorem cb_thenB (o : WOrd le) {A B : List (List α)} (hA : CB le A) (hB : CB le B) : CB le (thenB le A B) := by
  refine ⟨rise_canon o.toTOrd _, fun u v hu hv s => ?_⟩
  obtain ⟨a, ha, b, hb, rfl⟩ := mem_thenB.mp hu
  obtain ⟨a', ha', b', hb', rfl⟩ := mem_thenB.mp hv
  obtain ⟨e1, e2⟩ := prod_sub hA.anti hB.anti ha ha' hb hb' s
  rw [e1, e2]
theorem thenB_assoc (o : WOrd le) (A B C : List (List α)) : thenB le (thenB le A B) C = thenB le A (thenB le B C) := by
  unfold thenB
  refine canon_congr o.toTOrd fun x => ?_
  have h1 : x ∈ inOrder le ((inOrder le (A.flatMap fun w => B.map fun m => w ++ m)).flatMap fun w => C.map fun m => w ++ m) ↔ ∃ a ∈ A, ∃ b ∈ B, ∃ c ∈ C, x = a ++ (b ++ c) := by
    show x ∈ thenB le (thenB le A B) C ↔ _
    rw [mem_thenB]
    constructor
    · rintro ⟨y, hy, c, hc, rfl⟩
      obtain ⟨a, ha, b, hb, rfl⟩ := mem_thenB.mp hy
      exact ⟨a, ha, b, hb, c, hc, by simp⟩
    · rintro ⟨a, ha, b, hb, c, hc, rfl⟩
      exact ⟨a ++ b, mem_thenB.mpr ⟨a, ha, b, hb, rfl⟩, c, hc, by simp⟩
  have h2 : x ∈ inOrder le (A.flatMap fun w => (inOrder le (B.flatMap fun w => C.map fun m => w ++ m)).map fun m => w ++ m) ↔ ∃ a ∈ A, ∃ b ∈ B, ∃ c ∈ C, x = a ++ (b ++ c) := by
    show x ∈ thenB le A (thenB le B C) ↔ _
    rw [mem_thenB]
    constructor
    · rintro ⟨a, ha, y, hy, rfl⟩
      obtain ⟨b, hb, c, hc, rfl⟩ := mem_thenB.mp hy
      exact ⟨a, ha, b, hb, c, hc, rfl⟩
    · rintro ⟨a, ha, b, hb, c, hc, rfl⟩
      exact ⟨a, ha, b ++ c, mem_thenB.mpr ⟨b, hb, c, hc, rfl⟩, rfl⟩
  unfold inOrder at h1 h2
  rw [mem_canon] at h1 h2
  exact h1.trans h2.symm
theorem thenB_alw (o : WOrd le) {A : List (List α)} (hA : CB le A) : thenB le A ALW = A :=
  rise_unique o.toTOrd (rise_canon o.toTOrd _) hA.rise fun x => by
    show x ∈ thenB le A ALW ↔ _
    rw [mem_thenB]
    constructor
    · rintro ⟨a, ha, b, hb, rfl⟩
      rw [List.mem_singleton.mp hb, List.append_nil]; exact ha
    · intro h; exact ⟨x, h, [], List.mem_singleton.mpr rfl, by simp⟩
theorem alw_thenB (o : WOrd le) {A : List (List α)} (hA : CB le A) : thenB le ALW A = A :=
  rise_unique o.toTOrd (rise_canon o.toTOrd _) hA.rise fun x => by
    show x ∈ thenB le ALW A ↔ _
    rw [mem_thenB]
    constructor
    · rintro ⟨a, ha, b, hb, rfl⟩
      rw [List.mem_singleton.mp ha]; exact hb
    · intro h; exact ⟨[], List.mem_singleton.mpr rfl, x, h, rfl⟩
theorem thenB_nil_left (B : List (List α)) : thenB le [] B = [] := rfl
theorem thenB_nil_right (A : List (List α)) : thenB le A [] = [] := by
  unfold thenB
  have : (A.flatMap fun w => ([] : List (List α)).map fun m => w ++ m) = [] := by
    induction A with
    | nil => rfl
    | cons a A ih => simp [List.flatMap_cons]
  rw [this]; rfl

/-! ### inside -/
def isInside (A B : List (List α)) : Bool := A.all fun w => does B w
theorem inside_iff {A B : List (List α)} : isInside A B = true ↔ ∀ l, Done A l → Done B l := by
  unfold isInside
  rw [List.all_eq_true]
  constructor
  · rintro h l ⟨w, hw, s⟩
    exact (does_iff.mp (h w hw)).mono s
  · intro h w hw
    exact does_iff.mpr (h w ⟨w, hw, List.Sublist.refl _⟩)
theorem inside_words {A B : List (List α)} : isInside A B = true ↔ ∀ w ∈ A, Done B w := by
  unfold isInside
  rw [List.all_eq_true]
  exact forall_congr' fun w => imp_congr_right fun _ => does_iff
theorem inside_refl (A : List (List α)) : isInside A A = true := inside_iff.mpr fun _ h => h
theorem inside_trans {A B C : List (List α)} (h1 : isInside A B = true) (h2 : isInside B C = true) : isInside A C = true := inside_iff.mpr fun l h => inside_iff.mp h2 l (inside_iff.mp h1 l h)
theorem inside_anti (o : WOrd le) {A B : List (List α)} (hA : CB le A) (hB : CB le B) (h1 : isInside A B = true) (h2 : isInside B A = true) : A = B :=
  base_unique o hA hB fun l => ⟨inside_iff.mp h1 l, inside_iff.mp h2 l⟩

/-! ### standings -/
def standing (le : List α → List α → Bool) (b : List (List α)) (l : List α) : List (List α) := leastOf le (b.map fun w => restW w l)
theorem cb_standing (o : WOrd le) (b : List (List α)) (l : List α) : CB le (standing le b l) := cb_leastOf o _
theorem done_rests {b : List (List α)} {l m : List α} : Done (b.map fun w => restW w l) m ↔ Done b (l ++ m) := by
  constructor
  · rintro ⟨x, hx, s⟩
    obtain ⟨w, hw, rfl⟩ := List.mem_map.mp hx
    exact ⟨w, hw, (sub_append l w m).mpr s⟩
  · rintro ⟨w, hw, s⟩
    exact ⟨restW w l, List.mem_map.mpr ⟨w, hw, rfl⟩, (sub_append l w m).mp s⟩
theorem done_standing (o : WOrd le) {b : List (List α)} {l m : List α} : Done (standing le b l) m ↔ Done b (l ++ m) := by
  unfold standing
  rw [done_leastOf o, done_rests]
theorem standing_standing (o : WOrd le) (b : List (List α)) (l m : List α) : standing le (standing le b l) m = standing le b (l ++ m) :=
  base_unique o (cb_standing o _ _) (cb_standing o _ _) fun x => by rw [done_standing o, done_standing o, done_standing o, List.append_assoc]
theorem standing_nil (o : WOrd le) {b : List (List α)} (h : CB le b) : standing le b [] = b :=
  base_unique o (cb_standing o _ _) h fun x => by rw [done_standing o]; exact Iff.rfl
theorem standing_inside (o : WOrd le) {b : List (List α)} (l : List α) : isInside b (standing le b l) = true :=
  inside_iff.mpr fun x h => (done_standing o).mpr (h.mono (List.sublist_append_right _ _))
/-- the standing of a standing behind one event -/
def step (le : List α → List α → Bool) (s : List (List α)) (n : α) : List (List α) := leastOf le (s.map fun w => if w.take 1 = [n] then w.drop 1 else w)
theorem step_word (w : List α) (n : α) : (if w.take 1 = [n] then w.drop 1 else w) = restW w [n] := by
  cases w with
  | nil => rfl
  | cons a w =>
    rw [restW_cons]
    have e : restW w ([] : List α) = w := by cases w <;> rfl
    have e2 : restW (a :: w) ([] : List α) = a :: w := rfl
    rw [e, e2]
    by_cases h : a = n
    · simp [h]
    · simp [h]
theorem step_standing (s : List (List α)) (n : α) : step le s n = standing le s [n] := by
  unfold step standing
  congr 1
  exact List.map_congr_left fun w _ => step_word w n
theorem cb_step (o : WOrd le) (s : List (List α)) (n : α) : CB le (step le s n) := cb_leastOf o _
theorem done_step (o : WOrd le) {s : List (List α)} {n : α} {m : List α} : Done (step le s n) m ↔ Done s (n :: m) := by
  rw [step_standing, done_standing o]; exact Iff.rfl
/-- the names with which words begin (as a set) -/
def heads (s : List (List α)) : List α := s.filterMap List.head?
theorem mem_heads {s : List (List α)} {n : α} : n ∈ heads s ↔ ∃ w, n :: w ∈ s := by
  unfold heads
  rw [List.mem_filterMap]
  constructor
  · rintro ⟨w, hw, e⟩
    cases w with
    | nil => cases e
    | cons a w => cases e; exact ⟨w, hw⟩
  · rintro ⟨w, hw⟩
    exact ⟨n :: w, hw, rfl⟩
theorem step_same (o : WOrd le) {s : List (List α)} (h : CB le s) {n : α} (hn : n ∉ heads s) : step le s n = s := by
  have e : (s.map fun w => if w.take 1 = [n] then w.drop 1 else w) = s := by
    conv => rhs; rw [← List.map_id s]
    refine List.map_congr_left fun w hw => ?_
    cases w with
    | nil => rfl
    | cons a w =>
      have : a ≠ n := fun e => hn (mem_heads.mpr ⟨w, e ▸ hw⟩)
      simp [this]
  unfold step
  rw [e, leastOf_cb o h]

/-! ### the hardest of some standings -/
variable {leB : List (List α) → List (List α) → Bool}
def hardest (leB : List (List α) → List (List α) → Bool) (states : List (List (List α))) : List (List (List α)) :=
  (canon leB states).filter fun s => !((canon leB states).filter fun r => decide (r ≠ s)).any fun r => isInside r s
theorem hardest_sub {states : List (List (List α))} {s : List (List α)} (h : s ∈ hardest leB states) : s ∈ states := mem_canon.mp (List.mem_filter.mp h).1
theorem hardest_below (o : WOrd le) {states : List (List (List α))} (hc : ∀ s ∈ states, CB le s) : ∀ (n : Nat) (s : List (List α)), s ∈ states → ((canon leB states).filter fun r => isInside r s).length ≤ n → ∃ r ∈ hardest leB states, isInside r s = true := by
  intro n
  induction n with
  | zero =>
    intro s hs hn
    have hm : s ∈ (canon leB states).filter fun r => isInside r s := List.mem_filter.mpr ⟨mem_canon.mpr hs, inside_refl s⟩
    have := List.length_pos_of_mem hm
    omega
  | succ n ih =>
    intro s hs hn
    by_cases h : ((canon leB states).filter fun r => decide (r ≠ s)).any (fun r => isInside r s) = true
    · obtain ⟨r, hr, hi⟩ := List.any_eq_true.mp h
      obtain ⟨hr1, hr2⟩ := List.mem_filter.mp hr
      have hne : r ≠ s := of_decide_eq_true hr2
      have hrs : r ∈ states := mem_canon.mp hr1
      -- strictly fewer lie within r
      have hsub : (((canon leB states).filter fun x => isInside x r).length) < ((canon leB states).filter fun x => isInside x s).length := by
        have e : ((canon leB states).filter fun x => isInside x r) = ((canon leB states).filter fun x => isInside x s).filter fun x => isInside x r := by
          rw [List.filter_filter]
          refine List.filter_congr fun x _ => ?_
          cases hx : isInside x r with
          | false => simp
          | true => simp [inside_trans hx hi]
        rw [e]
        have hms : s ∈ (canon leB states).filter fun x => isInside x s := List.mem_filter.mpr ⟨mem_canon.mpr hs, inside_refl s⟩
        refine Nat.lt_of_le_of_ne (List.length_filter_le _ _) fun hq => ?_
        have hall := List.length_filter_eq_length_iff.mp hq s hms
        exact hne (inside_anti o (hc r hrs) (hc s hs) hi hall)
      obtain ⟨q, hq, hqr⟩ := ih r hrs (by omega)
      exact ⟨q, hq, inside_trans hqr hi⟩
    · refine ⟨s, List.mem_filter.mpr ⟨mem_canon.mpr hs, ?_⟩, inside_refl s⟩
      simp only [Bool.not_eq_true] at h
      rw [h]; rfl
theorem hardest_all (o : WOrd le) {states : List (List (List α))} (hc : ∀ s ∈ states, CB le s) {P : List (List α) → Prop} (hP : ∀ r s, isInside r s = true → P r → P s) : (∀ s ∈ hardest leB states, P s) ↔ ∀ s ∈ states, P s := by
  constructor
  · intro h s hs
    obtain ⟨r, hr, hi⟩ := hardest_below (leB := leB) o hc _ s hs (Nat.le_refl _)
    exact hP r s hi (h r hr)
  · intro h s hs
    exact h s (hardest_sub hs)

/-! ### least into -/
/-- behind which each standing is done by each end -/
def UU (states : List (List (List α))) (ends : List (List α)) (y : List α) : Prop := ∀ s ∈ states, ∀ e ∈ ends, Done s (y ++ e)
theorem uu_hardest (o : WOrd le) {states : List (List (List α))} (hc : ∀ s ∈ states, CB le s) {ends : List (List α)} {y : List α} : UU (hardest leB states) ends y ↔ UU states ends y :=
  hardest_all o hc fun r s hi h e he => inside_iff.mp hi _ (h e he)
theorem uu_always {states : List (List (List α))} {ends : List (List α)} (h : ∀ s ∈ states, ∀ e ∈ ends, Done s e) : IsBase le ALW (UU states ends) :=
  ⟨cb_one [], fun l => ⟨fun _ s hs e he => (h s hs e he).mono (List.sublist_append_right _ _), fun _ => done_always l⟩⟩
def stepsH (le : List α → List α → Bool) (leB : List (List α) → List (List α) → Bool) (states : List (List (List α))) (n : α) : List (List (List α)) := hardest leB (states.map fun s => step le s n)
theorem uu_step (o : WOrd le) {states : List (List (List α))} {ends : List (List α)} {n : α} {y : List α} : UU (stepsH le leB states n) ends y ↔ UU states ends (n :: y) := by
  unfold stepsH
  rw [uu_hardest o (fun s hs => by obtain ⟨t, _, rfl⟩ := List.mem_map.mp hs; exact cb_step o _ _)]
  unfold UU
  constructor
  · intro h s hs e he
    exact (done_step o).mp (h _ (List.mem_map.mpr ⟨s, hs, rfl⟩) e he)
  · intro h t ht e he
    obtain ⟨s, hs, rfl⟩ := List.mem_map.mp ht
    exact (done_step o).mpr (h s hs e he)
/-- THE STEP of least_into -/
theorem into_step (o : WOrd le) {states : List (List (List α))} {ends : List (List α)} (hc : ∀ s ∈ states, CB le s) (hn : ¬ ∀ s ∈ states, ∀ e ∈ ends, Done s e) {names : List α} (hnames : ∀ n, n ∈ names ↔ ∃ s ∈ states, n ∈ heads s) {L : α → List (List α)}
    (hL : ∀ n ∈ names, stepsH le leB states n ≠ states → IsBase le (L n) (UU (stepsH le leB states n) ends)) :
    IsBase le (leastOf le ((names.filter fun n => decide (stepsH le leB states n ≠ states)).flatMap fun n => (L n).map fun y => n :: y)) (UU states ends) := by
  refine ⟨cb_leastOf o _, fun l => ?_⟩
  rw [done_leastOf o]
  constructor
  · rintro ⟨w, hw, s⟩
    obtain ⟨n, hn1, hw2⟩ := List.mem_flatMap.mp hw
    obtain ⟨hn2, hn3⟩ := List.mem_filter.mp hn1
    obtain ⟨y, hy, rfl⟩ := List.mem_map.mp hw2
    have h1 := (hL n hn2 (of_decide_eq_true hn3)).iff y
    have h2 : UU states ends (n :: y) := (uu_step o).mp (h1.mp ⟨y, hy, List.Sublist.refl _⟩)
    exact fun t ht e he => (h2 t ht e he).mono (s.append (List.Sublist.refl _))
  · induction l with
    | nil => exact fun h => absurd h hn
    | cons n l ih =>
      intro h
      by_cases h1 : n ∈ names
      · by_cases h2 : stepsH le leB states n = states
        · have h3 : UU states ends l := by
            have := (uu_step (leB := leB) o).mpr h
            rw [h2] at this
            exact this
          exact (ih h3).mono (List.sublist_cons_self _ _)
        · obtain ⟨y, hy, s⟩ := ((hL n h1 h2).iff l).mpr ((uu_step o).mpr h)
          exact ⟨n :: y, List.mem_flatMap.mpr ⟨n, List.mem_filter.mpr ⟨h1, decide_eq_true h2⟩, List.mem_map.mpr ⟨y, hy, rfl⟩⟩, s.cons_cons _⟩
      · have h3 : UU states ends l := fun s hs e he => by
          have q : n ∉ heads s := fun z => h1 ((hnames n).mpr ⟨s, hs, z⟩)
          have := (done_step o).mpr (h s hs e he)
          rw [step_same o (hc s hs) q] at this
          exact this
        exact (ih h3).mono (List.sublist_cons_self _ _)

/-! ### the measure -/
theorem sum_erase {β : Type} [DecidableEq β] (f : β → Nat) {x : β} : ∀ {m : List β}, x ∈ m → (m.map f).sum = f x + ((m.erase x).map f).sum
  | y :: m, h => by
    by_cases e : y = x
    · subst e
      rw [List.erase_cons_head, List.map_cons, List.sum_cons]
    · have hm : x ∈ m := (List.mem_cons.mp h).resolve_left fun q => e q.symm
      rw [List.erase_cons_tail (by simpa using e), List.map_cons, List.sum_cons, List.map_cons, List.sum_cons, sum_erase f hm]
      omega
theorem nodup_sum_le {β : Type} [DecidableEq β] (f : β → Nat) : ∀ {l m : List β}, l.Nodup → (∀ x, x ∈ l → x ∈ m) → (l.map f).sum ≤ (m.map f).sum
  | [], _, _, _ => Nat.zero_le _
  | x :: l, m, hn, h => by
    obtain ⟨h1, h2⟩ := List.nodup_cons.mp hn
    have hx : x ∈ m := h x List.mem_cons_self
    have h3 := nodup_sum_le f (l := l) (m := m.erase x) h2 fun y hy => (List.mem_erase_of_ne (fun e : y = x => h1 (by rw [← e]; exact hy))).mpr (h y (List.mem_cons_of_mem _ hy))
    rw [List.map_cons, List.sum_cons, sum_erase f hx]
    omega
def bsize (s : List (List α)) : Nat := (s.map List.length).sum
def ssize (states : List (List (List α))) : Nat := (states.map bsize).sum
theorem bsize_step_le (o : WOrd le) (s : List (List α)) (n : α) : bsize (step le s n) ≤ bsize s := by
  unfold bsize step
  refine Nat.le_trans (nodup_sum_le List.length (cb_leastOf o _).rise.nodup fun x hx => leastOf_sub o hx) ?_
  rw [List.map_map]
  induction s with
  | nil => exact Nat.le_refl _
  | cons w s ih =>
    rw [List.map_cons, List.map_cons, List.sum_cons, List.sum_cons]
    have : ((List.length ∘ fun w : List α => if w.take 1 = [n] then w.drop 1 else w) w) ≤ w.length := by
      show (if w.take 1 = [n] then w.drop 1 else w).length ≤ _
      split
      · rw [List.length_drop]; omega
      · exact Nat.le_refl _
    omega
theorem bsize_step_lt (o : WOrd le) {s : List (List α)} {n : α} (h : n ∈ heads s) : bsize (step le s n) < bsize s := by
  obtain ⟨w0, hw0⟩ := mem_heads.mp h
  unfold bsize step
  refine Nat.lt_of_le_of_lt (nodup_sum_le List.length (cb_leastOf o _).rise.nodup fun x hx => leastOf_sub o hx) ?_
  rw [List.map_map]
  have key : ∀ (s : List (List α)), ((s.map (List.length ∘ fun w : List α => if w.take 1 = [n] then w.drop 1 else w)).sum ≤ (s.map List.length).sum) ∧ (n :: w0 ∈ s → (s.map (List.length ∘ fun w : List α => if w.take 1 = [n] then w.drop 1 else w)).sum < (s.map List.length).sum) := by
    intro s
    induction s with
    | nil => exact ⟨Nat.le_refl _, fun h => by cases h⟩
    | cons w s ih =>
      rw [List.map_cons, List.map_cons, List.sum_cons, List.sum_cons]
      have h1 : ((List.length ∘ fun w : List α => if w.take 1 = [n] then w.drop 1 else w) w) ≤ w.length := by
        show (if w.take 1 = [n] then w.drop 1 else w).length ≤ _
        split
        · rw [List.length_drop]; omega
        · exact Nat.le_refl _
      refine ⟨by have := ih.1; omega, fun hm => ?_⟩
      rcases List.mem_cons.mp hm with e | hm
      · subst e
        have h2 : ((List.length ∘ fun w : List α => if w.take 1 = [n] then w.drop 1 else w) (n :: w0)) < (n :: w0).length := by
          show (if (n :: w0).take 1 = [n] then (n :: w0).drop 1 else n :: w0).length < _
          rw [if_pos (by simp)]
          simp
        have := ih.1
        omega
      · have := ih.2 hm
        omega
  exact (key s).2 hw0
variable (oB : TOrd leB)
include oB in
theorem nodup_hardest (states : List (List (List α))) : (hardest leB states).Nodup := ((rise_canon oB states).sublist List.filter_sublist).imp fun q => q.2
include oB in
theorem ssize_steps (o : WOrd le) {states : List (List (List α))} {n : α} (h : ∃ s ∈ states, n ∈ heads s) : ssize (stepsH le leB states n) < ssize states := by
  unfold stepsH ssize
  refine Nat.lt_of_le_of_lt (nodup_sum_le bsize (nodup_hardest oB _) fun x hx => hardest_sub hx) ?_
  rw [List.map_map]
  obtain ⟨s0, hs0, hn⟩ := h
  have key : ∀ (l : List (List (List α))), ((l.map (bsize ∘ fun s => step le s n)).sum ≤ (l.map bsize).sum) ∧ (s0 ∈ l → (l.map (bsize ∘ fun s => step le s n)).sum < (l.map bsize).sum) := by
    intro l
    induction l with
    | nil => exact ⟨Nat.le_refl _, fun h => by cases h⟩
    | cons s l ih =>
      rw [List.map_cons, List.map_cons, List.sum_cons, List.sum_cons]
      have h1 : (bsize ∘ fun s => step le s n) s ≤ bsize s := bsize_step_le o s n
      refine ⟨by have := ih.1; omega, fun hm => ?_⟩
      rcases List.mem_cons.mp hm with e | hm
      · subst e
        have h2 : (bsize ∘ fun s => step le s n) s0 < bsize s0 := bsize_step_lt o hn
        have := ih.1
        omega
      · have := ih.2 hm
        omega
  exact (key states).2 hs0
/-- each such judgement has its base -/
theorem exists_into (o : WOrd le) (oB : TOrd leB) (ends : List (List α)) : ∀ (k : Nat) (states : List (List (List α))), ssize states ≤ k → (∀ s ∈ states, CB le s) → ∃ b, IsBase le b (UU states ends) := by
  intro k
  induction k with
  | zero =>
    intro states hk hc
    by_cases h : ∀ s ∈ states, ∀ e ∈ ends, Done s e
    · exact ⟨_, uu_always h⟩
    · refine ⟨_, into_step (leB := leB) (names := states.flatMap heads) (L := fun _ => []) o hc h (fun n => by rw [List.mem_flatMap]) fun n hn _ => ?_⟩
      obtain ⟨s, hs, hns⟩ := List.mem_flatMap.mp hn
      have := ssize_steps oB o ⟨s, hs, hns⟩
      omega
  | succ k ih =>
    intro states hk hc
    by_cases h : ∀ s ∈ states, ∀ e ∈ ends, Done s e
    · exact ⟨_, uu_always h⟩
    · have hL : ∀ n, ∃ b, n ∈ states.flatMap heads → IsBase le b (UU (stepsH le leB states n) ends) := fun n => by
        by_cases hn : n ∈ states.flatMap heads
        · obtain ⟨s, hs, hns⟩ := List.mem_flatMap.mp hn
          have := ssize_steps oB o ⟨s, hs, hns⟩
          obtain ⟨b, hb⟩ := ih (stepsH le leB states n) (by omega) fun t ht => by
            obtain ⟨q, _, rfl⟩ := List.mem_map.mp (hardest_sub ht)
            exact cb_step o _ _
          exact ⟨b, fun _ => hb⟩
        · exact ⟨[], fun z => absurd z hn⟩
      exact ⟨_, into_step (leB := leB) (names := states.flatMap heads) (L := fun n => Classical.choose (hL n)) o hc h (fun n => by rw [List.mem_flatMap]) fun n hn _ => Classical.choose_spec (hL n) hn⟩
open Classical in
/-- the base of a judgement, where it has one -/
noncomputable def theBase (le : List α → List α → Bool) (U : List α → Prop) : List (List α) := if h : ∃ b, IsBase le b U then Classical.choose h else []
theorem theBase_eq (o : WOrd le) {U : List α → Prop} {b : List (List α)} (h : IsBase le b U) : theBase le U = b := by
  unfold theBase
  have hx : ∃ b, IsBase le b U := ⟨b, h⟩
  rw [dif_pos hx]
  exact (Classical.choose_spec hx).unique o h
noncomputable def into (le : List α → List α → Bool) (states : List (List (List α))) (ends : List (List α)) : List (List α) := theBase le (UU states ends)
theorem isBase_into (o : WOrd le) (oB : TOrd leB) {states : List (List (List α))} {ends : List (List α)} (hc : ∀ s ∈ states, CB le s) : IsBase le (into le states ends) (UU states ends) := by
  obtain ⟨b, hb⟩ := exists_into o oB ends _ states (Nat.le_refl _) hc
  unfold into
  rw [theBase_eq o hb]
  exact hb

/-! ### leads -/
noncomputable def amid (le : List α → List α → Bool) (leB : List (List α) → List (List α) → Bool) (W A E : List (List α)) : List (List α) := into le (hardest leB (A.map fun a => standing le W a)) E
noncomputable def lead (le : List α → List α → Bool) (leB : List (List α) → List (List α) → Bool) (W E : List (List α)) : List (List α) := amid le leB W ALW E
noncomputable def restOf (le : List α → List α → Bool) (leB : List (List α) → List (List α) → Bool) (W A : List (List α)) : List (List α) := amid le leB W A ALW
theorem isBase_amid (o : WOrd le) (oB : TOrd leB) (W A E : List (List α)) : IsBase le (amid le leB W A E) (fun y => ∀ a ∈ A, ∀ e ∈ E, Done W (a ++ (y ++ e))) := by
  have hc : ∀ s ∈ A.map (fun a => standing le W a), CB le s := fun s hs => by
    obtain ⟨a, _, rfl⟩ := List.mem_map.mp hs
    exact cb_standing o _ _
  refine (isBase_into o oB fun s hs => hc s (hardest_sub hs)).congr fun y => ?_
  rw [uu_hardest o hc]
  unfold UU
  constructor
  · intro h a ha e he
    exact (done_standing o).mp (h _ (List.mem_map.mpr ⟨a, ha, rfl⟩) e he)
  · intro h s hs e he
    obtain ⟨a, ha, rfl⟩ := List.mem_map.mp hs
    exact (done_standing o).mpr (h a ha e he)
theorem isBase_lead (o : WOrd le) (oB : TOrd leB) (W E : List (List α)) : IsBase le (lead le leB W E) (fun x => ∀ e ∈ E, Done W (x ++ e)) :=
  (isBase_amid o oB W ALW E).congr fun y => ⟨fun h e he => h [] (List.mem_singleton.mpr rfl) e he, fun h a ha e he => by rw [List.mem_singleton.mp ha]; exact h e he⟩
theorem isBase_restOf (o : WOrd le) (oB : TOrd leB) (W A : List (List α)) : IsBase le (restOf le leB W A) (fun y => ∀ a ∈ A, Done W (a ++ y)) :=
  (isBase_amid o oB W A ALW).congr fun y => ⟨fun h a ha => by have := h a ha [] (List.mem_singleton.mpr rfl); rwa [List.append_nil] at this, fun h a ha e he => by rw [List.mem_singleton.mp he, List.append_nil]; exact h a ha⟩
end
end Mo
set_option maxHeartbeats 4000000
/-! typed data: texts, tuples, pairs; their order; their keys -/
namespace MoR
open PySem PySem.Spec PyProof.Rows L2 PySem.W

mutual
/-- no list, no dict inside -/
def imm : PyData → Bool
  | .none => true
  | .bool _ => true
  | .int _ => true
  | .str _ => true
  | .tuple xs => immAll xs
  | .list _ => false
  | .dict _ => false
def immAll : List PyData → Bool
  | [] => true
  | x :: xs => imm x && immAll xs
end
theorem imm_cons {x : PyData} {xs : List PyData} (h : immAll (x :: xs) = true) : imm x = true ∧ immAll xs = true := by
  rw [immAll, Bool.and_eq_true] at h; exact h
mutual
def toKey : PyData → NestedKey
  | .none => .none
  | .bool b => .num (if b = true then 1 else 0)
  | .int i => .num i
  | .str x => .text x
  | .tuple xs => .tup (toKeys xs)
  | .list _ => .none
  | .dict _ => .none
def toKeys : List PyData → List NestedKey
  | [] => []
  | x :: xs => toKey x :: toKeys xs
end
mutual
theorem toKey_alike : ∀ (d e : PyData), imm d = true → alike d e = true → toKey d = toKey e → PyData.eqv d e = true
  | .none, e, _, h, _ => by cases e <;> simp_all [alike, PyData.eqv]
  | .bool b, e, _, h, q => by
    cases e with
    | bool c =>
      simp only [toKey, NestedKey.num.injEq] at q
      simp only [PyData.eqv]
      cases b <;> cases c <;> simp_all
    | _ => simp [alike] at h
  | .int i, e, _, h, q => by
    cases e with
    | int j => simp only [toKey, NestedKey.num.injEq] at q; simp [PyData.eqv, q]
    | _ => simp [alike] at h
  | .str x, e, _, h, q => by
    cases e with
    | str y => simp only [toKey, NestedKey.text.injEq] at q; simp [PyData.eqv, q]
    | _ => simp [alike] at h
  | .tuple xs, e, i, h, q => by
    cases e with
    | tuple ys =>
      simp only [toKey, NestedKey.tup.injEq] at q
      simp only [imm] at i
      simp only [alike] at h
      simp only [PyData.eqv]
      exact toKeys_alike xs ys i h q
    | _ => simp [alike] at h
  | .list _, _, i, _, _ => by simp [imm] at i
  | .dict _, _, i, _, _ => by simp [imm] at i
theorem toKeys_alike : ∀ (xs ys : List PyData), immAll xs = true → alikeAll xs ys = true → toKeys xs = toKeys ys → PyData.eqvAll xs ys = true
  | [], [], _, _, _ => by simp [PyData.eqvAll]
  | [], _ :: _, _, _, q => by simp [toKeys] at q
  | _ :: _, [], _, _, q => by simp [toKeys] at q
  | x :: xs, y :: ys, i, h, q => by
    simp only [toKeys, List.cons.injEq] at q
    obtain ⟨i1, i2⟩ := imm_cons i
    obtain ⟨h1, h2⟩ := alike_all_cons h
    simp only [PyData.eqvAll, Bool.and_eq_true]
    exact ⟨toKey_alike x y i1 h1 q.1, toKeys_alike xs ys i2 h2 q.2⟩
end
mutual
theorem key_depth : ∀ d : PyData, imm d = true → (toKey d).depth ≤ d.depth
  | .none, _ => by simp [toKey, NestedKey.depth]
  | .bool _, _ => by simp [toKey, NestedKey.depth]
  | .int _, _ => by simp [toKey, NestedKey.depth]
  | .str _, _ => by simp [toKey, NestedKey.depth]
  | .tuple xs, i => by
    simp only [imm] at i
    have h := keys_depth xs i
    simp only [toKey, NestedKey.depth, PyData.depth]
    omega
  | .list _, i => by simp [imm] at i
  | .dict _, i => by simp [imm] at i
theorem keys_depth : ∀ xs : List PyData, immAll xs = true → NestedKey.depthAll (toKeys xs) ≤ PyData.depthAll xs
  | [], _ => by simp [toKeys, NestedKey.depthAll]
  | x :: xs, i => by
    obtain ⟨i1, i2⟩ := imm_cons i
    have h1 := key_depth x i1
    have h2 := keys_depth xs i2
    simp only [toKeys, NestedKey.depthAll, PyData.depthAll]
    omega
end
mutual
/-- what reads as data without lists is a key -/
theorem reads_key {h : Heap} : ∀ (d : PyData) (v : Value) (as : List Addr), imm d = true → Reads h v d as → NestedIs h (toKey d) v
  | .none, _, _, _, r => by cases r; exact .none
  | .bool b, _, _, _, r => by cases r; exact .bool rfl
  | .int i, _, _, _, r => by cases r; exact .int _ _
  | .str x, _, _, _, r => by cases r; exact .text _ _
  | .tuple xs, _, _, i, r => by
    simp only [imm] at i
    cases r with
    | tuple h1 h2 h3 h4 => exact .tup h1 h2 h3 (reads_keys xs _ _ i h4)
  | .list _, _, _, i, _ => by simp [imm] at i
  | .dict _, _, _, i, _ => by simp [imm] at i
theorem reads_keys {h : Heap} : ∀ (xs : List PyData) (vs : List Value) (as : List Addr), immAll xs = true → ReadsAll h vs xs as → NestedAll h (toKeys xs) vs
  | [], _, _, _, r => by cases r; exact .nil
  | x :: xs, _, _, i, r => by
    obtain ⟨i1, i2⟩ := imm_cons i
    cases r with
    | cons h1 h2 => exact .cons (reads_key x _ _ i1 h1) (reads_keys xs _ _ i2 h2)
end

/-- a kind of data: what it reads as -/
class Ec (α : Type) where
  enc : α → PyData
/-- .. without lists, alike, told apart by == -/
class En (α : Type) extends Ec α where
  imm : ∀ x, imm (enc x) = true
  al : ∀ x y, alike (enc x) (enc y) = true
  eqv : ∀ x y, PyData.eqv (enc x) (enc y) = true ↔ x = y
  dp : Nat
  dpt : ∀ x, (enc x).depth ≤ dp
section
variable {α β : Type} [En α] [En β]
theorem imm_map : ∀ xs : List α, immAll (xs.map Ec.enc) = true
  | [] => by simp [immAll]
  | x :: xs => by simp [immAll, En.imm x, imm_map xs]
theorem al_map : ∀ xs ys : List α, alikeAll (xs.map Ec.enc) (ys.map Ec.enc) = true
  | [], _ => by simp [alikeAll]
  | _ :: _, [] => by simp [alikeAll]
  | x :: xs, y :: ys => by simp [alikeAll, En.al x y, al_map xs ys]
theorem eqv_map : ∀ xs ys : List α, PyData.eqvAll (xs.map Ec.enc) (ys.map Ec.enc) = true ↔ xs = ys
  | [], [] => by simp [PyData.eqvAll]
  | _ :: _, [] => by simp [PyData.eqvAll]
  | [], _ :: _ => by simp [PyData.eqvAll]
  | x :: xs, y :: ys => by simp only [List.map_cons, PyData.eqvAll, Bool.and_eq_true, En.eqv, eqv_map xs ys, List.cons.injEq]
theorem dp_map : ∀ xs : List α, PyData.depthAll (xs.map Ec.enc) ≤ En.dp α
  | [] => by simp [PyData.depthAll]
  | x :: xs => by
    have h1 := En.dpt x
    have h2 := dp_map xs
    simp only [List.map_cons, PyData.depthAll]
    omega
end
instance : Ec Str := ⟨fun x => .str x⟩
instance : En Str where
  imm x := by simp [MoR.imm, Ec.enc]
  al x y := by simp [alike, Ec.enc]
  eqv x y := by simp [PyData.eqv, Ec.enc]
  dp := 0
  dpt x := by simp [PyData.depth, Ec.enc]
instance : Ec Nat := ⟨fun x => .int x⟩
instance : En Nat where
  imm x := by simp [MoR.imm, Ec.enc]
  al x y := by simp [alike, Ec.enc]
  eqv x y := by
    simp only [PyData.eqv, Ec.enc, beq_iff_eq]
    exact Int.ofNat_inj
  dp := 0
  dpt x := by simp [PyData.depth, Ec.enc]
instance {α : Type} [Ec α] : Ec (List α) := ⟨fun xs => .tuple (xs.map Ec.enc)⟩
theorem enc_list {α : Type} [Ec α] (xs : List α) : Ec.enc xs = .tuple (xs.map Ec.enc) := rfl
instance {α : Type} [En α] : En (List α) where
  imm xs := by rw [enc_list]; simp only [MoR.imm]; exact imm_map xs
  al xs ys := by rw [enc_list, enc_list]; simp only [alike]; exact al_map xs ys
  eqv xs ys := by rw [enc_list, enc_list]; simp only [PyData.eqv]; exact eqv_map xs ys
  dp := En.dp α + 1
  dpt xs := by
    have h := dp_map xs
    rw [enc_list]
    simp only [PyData.depth]
    omega
instance {α β : Type} [Ec α] [Ec β] : Ec (α × β) := ⟨fun p => .tuple [Ec.enc p.1, Ec.enc p.2]⟩
theorem enc_pair {α β : Type} [Ec α] [Ec β] (p : α × β) : Ec.enc p = .tuple [Ec.enc p.1, Ec.enc p.2] := rfl
instance {α β : Type} [En α] [En β] : En (α × β) where
  imm p := by simp [MoR.imm, immAll, enc_pair, En.imm]
  al p q := by simp [alike, alikeAll, enc_pair, En.al]
  eqv p q := by
    obtain ⟨a, b⟩ := p
    obtain ⟨c, d⟩ := q
    simp [PyData.eqv, PyData.eqvAll, enc_pair, En.eqv]
  dp := max (En.dp α) (En.dp β) + 1
  dpt p := by
    have h1 := En.dpt p.1
    have h2 := En.dpt p.2
    rw [enc_pair]
    simp only [PyData.depth, PyData.depthAll]
    omega
instance : Ec Bool := ⟨fun b => .bool b⟩
instance : En Bool where
  imm x := by simp [MoR.imm, Ec.enc]
  al x y := by simp [alike, Ec.enc]
  eqv x y := by simp [PyData.eqv, Ec.enc]
  dp := 0
  dpt x := by simp [PyData.depth, Ec.enc]
instance {α : Type} [Ec α] : Ec (Option α) := ⟨fun
  | none => .none
  | some x => Ec.enc x⟩
section
variable {α β : Type} [En α] [En β]
theorem enc_eqv [DecidableEq α] (x y : α) : PyData.eqv (Ec.enc x) (Ec.enc y) = decide (x = y) := by
  by_cases h : x = y
  · rw [decide_eq_true h]; exact (En.eqv x y).mpr h
  · rw [decide_eq_false h]
    cases q : PyData.eqv (Ec.enc x) (Ec.enc y) with
    | false => rfl
    | true => exact absurd ((En.eqv x y).mp q) h
theorem enc_toks {x y : α} (h : keyToks (Ec.enc x) = keyToks (Ec.enc y)) : x = y := by
  cases q : PyData.eqv (Ec.enc x) (Ec.enc y) with
  | true => exact (En.eqv x y).mp q
  | false =>
    have a := (toks_eqv _ _ (En.al x y)).2 q
    rw [h] at a
    have e1 := a [Sum.inl 0] [Sum.inl 1]
    have e2 := a [Sum.inl 1] [Sum.inl 0]
    rw [lex_pre] at e1 e2
    have b1 : lexLt itemOrd [Sum.inl 0] [Sum.inl 1] = true := by decide
    have b2 : lexLt itemOrd [Sum.inl 1] [Sum.inl 0] = false := by decide
    rw [b1] at e1
    rw [b2] at e2
    rw [← e1] at e2
    cases e2
theorem enc_key {x y : α} (h : toKey (Ec.enc x) = toKey (Ec.enc y)) : x = y :=
  (En.eqv x y).mp (toKey_alike _ _ (En.imm x) (En.al x y) h)
theorem enc_inj {x y : α} (h : Ec.enc x = Ec.enc y) : x = y := enc_key (by rw [h])
/-- Python's order -/
def leE (α : Type) [En α] : α → α → Bool := dataLe false (Ec.enc (α := α))
theorem ordE (α : Type) [En α] : Mo.TOrd (leE α) where
  total a b := (sortLe_total (listOrd itemOrd) false fun b : α => keyToks (Ec.enc b)).total a b
  trans a b c h1 h2 := (sortLe_total (listOrd itemOrd) false fun b : α => keyToks (Ec.enc b)).trans a b c h1 h2
  anti a b h1 h2 := by
    have h1' : (!dataLt (Ec.enc b) (Ec.enc a)) = true := h1
    have h2' : (!dataLt (Ec.enc a) (Ec.enc b)) = true := h2
    rw [Bool.not_eq_true'] at h1' h2'
    exact enc_toks ((listOrd itemOrd).total _ _ h2' h1')
theorem sort_canon [DecidableEq α] {l xs : List α} (hn : l.Nodup) (hm : ∀ x, x ∈ l ↔ x ∈ xs) : l.mergeSort (leE α) = Mo.canon (leE α) xs := by
  refine Mo.canon_eq (ordE α) (sort_pairwise (sortLe_total (listOrd itemOrd) false fun b : α => keyToks (Ec.enc b)) l) ?_ fun x => ?_
  · exact (List.mergeSort_perm l _).nodup_iff.mpr hn
  · rw [(List.mergeSort_perm l _).mem_iff]; exact hm x
theorem le_pair (a c : α) (b d : β) [DecidableEq α] : leE (α × β) (a, b) (c, d) = if a = c then leE β b d else leE α a c := by
  show (!dataLt (.tuple [Ec.enc c, Ec.enc d]) (.tuple [Ec.enc a, Ec.enc b])) = _
  rw [dataLt_pair (En.al c a) (En.al d b)]
  by_cases h : a = c
  · subst h
    rw [if_pos rfl, if_pos ((En.eqv a a).mpr rfl)]
    by_cases h2 : PyData.eqv (Ec.enc d) (Ec.enc b) = true
    · rw [if_pos h2]
      have e := (En.eqv d b).mp h2
      subst e
      have q : leE β d d = true := ((ordE β).total d d).elim id id
      rw [q]; rfl
    · rw [if_neg h2]; rfl
  · rw [if_neg h, if_neg fun z => h ((En.eqv c a).mp z).symm]; rfl
theorem le_nat (a b : Nat) : leE Nat a b = decide (a ≤ b) := by
  show (!dataLt (.int b) (.int a)) = _
  rw [dataLt_int]
  by_cases h : a ≤ b
  · rw [decide_eq_true h, decide_eq_false (by omega)]; rfl
  · rw [decide_eq_false h, decide_eq_true (by omega)]; rfl
end
/-- words: by length, then by letters -/
abbrev Wd := List Str
abbrev Bs := List Wd
def leW (a b : Wd) : Bool := leE (Nat × Wd) (a.length, a) (b.length, b)
theorem ordW : Mo.WOrd leW where
  total a b := (ordE _).total _ _
  trans a b c := (ordE _).trans _ _ _
  anti a b h1 h2 := congrArg Prod.snd ((ordE _).anti _ _ h1 h2)
  len a b h := by
    unfold leW at h
    rw [le_pair] at h
    by_cases e : a.length = b.length
    · omega
    · rw [if_neg e, le_nat] at h
      exact of_decide_eq_true h
/-- in_order: sorted by (length, word), the words alone -/
theorem canon_words (ws : List Wd) : (Mo.canon (leE (Nat × Wd)) (ws.map fun w => (w.length, w))).map (·.2) = Mo.canon leW ws := by
  have hr := Mo.rise_canon (ordE (Nat × Wd)) (ws.map fun w => (w.length, w))
  have hm : ∀ p ∈ Mo.canon (leE (Nat × Wd)) (ws.map fun w => (w.length, w)), p.1 = p.2.length := fun p hp => by
    obtain ⟨w, _, rfl⟩ := List.mem_map.mp (Mo.mem_canon.mp hp)
    rfl
  refine Mo.rise_unique ordW.toTOrd ?_ (Mo.rise_canon ordW.toTOrd ws) fun x => ?_
  · refine List.pairwise_map.mpr (List.Pairwise.imp_of_mem (fun {p q} hp hq h => ?_) hr)
    have e1 := hm p hp
    have e2 := hm q hq
    obtain ⟨a, b⟩ := p
    obtain ⟨c, d⟩ := q
    simp only at e1 e2
    subst e1 e2
    exact ⟨h.1, fun e => h.2 (by simp only at e; rw [e])⟩
  · rw [Mo.mem_canon, List.mem_map]
    constructor
    · rintro ⟨p, hp, rfl⟩
      obtain ⟨w, hw, rfl⟩ := List.mem_map.mp (Mo.mem_canon.mp hp)
      exact hw
    · intro hx
      exact ⟨(x.length, x), Mo.mem_canon.mpr (List.mem_map.mpr ⟨x, hx, rfl⟩), rfl⟩
end MoR
set_option maxHeartbeats 4000000
/-! sets of texts; the values of a set; sorted -/
namespace MoR
open PySem PySem.Spec PyProof.Rows L2
/-! ### what a set of ints is -/
def keyS (e : Int × Value) : Str := match e.2 with | .str k _ => k | _ => default
def GoodS (w : World) (e : Int × Value) : Prop := ∃ k tk, e.2 = Value.str k tk ∧ e.1 = hashStr w k

/-- the set of ints at a: S its members, n their number; its table rises and can be walked -/
def SetS (w : World) (h : Heap) (a : Addr) (S : Str → Bool) (n : Nat) : Prop :=
  ∃ o es ep t, h.get? a = some o ∧ o.ExactSet ∧ o.data = .set es ep t ∧ (∀ e ∈ es.toList, GoodS w e) ∧ (es.toList.map keyS).Nodup ∧ (∀ k, S k = true ↔ k ∈ es.toList.map keyS) ∧
    es.size < scanBound ∧ t.fits es.size = true ∧ es.size = n ∧ Ris t.place.toList ∧ (w.params.followText "set-order" = true ∨ t.led = true)

section
variable {P : Program} {w : World} {h h' : Heap} {a : Addr} {S : Str → Bool} {n : Nat}

theorem SetS.at (R : SetS w h a S n) (k : ∀ o, h.get? a = some o → h'.get? a = some o) : SetS w h' a S n := by
  obtain ⟨o, es, ep, t, ho, r⟩ := R
  exact ⟨o, es, ep, t, k o ho, r⟩
theorem SetS.lt (R : SetS w h a S n) : a < h.objs.size := by
  obtain ⟨o, es, ep, t, ho, r⟩ := R
  exact Heap.lt_size ho
theorem SetS.congr {S' : Str → Bool} (R : SetS w h a S n) (e : ∀ k, S' k = S k) : SetS w h a S' n := by
  have q : S' = S := funext e
  rw [q]; exact R
theorem goods_elems {l : List (Int × Value)} (g : ∀ e ∈ l, GoodS w e) : ElemsOf (PySem.strKind P w) l := fun e he => by
  obtain ⟨k, tk, h1, h2⟩ := g e he
  exact ⟨⟨k, by rw [h1]; exact PySem.strKind_is P w k tk, h2⟩, by rw [h1] <;> rfl⟩
theorem goods_is {e : Int × Value} (g : GoodS w e) (k : Str) : (PySem.strKind P w).is k e.2 = true ↔ keyS e = k := by
  obtain ⟨k0, tk, h1, _⟩ := g
  unfold keyS
  rw [h1]
  show (Value.isStrOf k (.str k0 tk) = true) ↔ k0 = k
  simp only [Value.isStrOf]
  first
    | exact beq_iff_eq
    | exact decide_eq_true_iff
    | (constructor <;> intro q <;> simp_all)
theorem goods_mem {l : List (Int × Value)} (g : ∀ e ∈ l, GoodS w e) (k : Str) : k ∈ l.map keyS ↔ ∃ e ∈ l, (PySem.strKind P w).is k e.2 = true := by
  rw [List.mem_map]
  constructor
  · rintro ⟨e, he, q⟩
    exact ⟨e, he, (goods_is (g e he) k).2 q⟩
  · rintro ⟨e, he, q⟩
    exact ⟨e, he, (goods_is (g e he) k).1 q⟩
theorem SetS.setOf (R : SetS w h a S n) : h.SetOf (PySem.strKind P w) a S n := by
  obtain ⟨o, es, ep, t, ho, hx, hd, g, nd, hm, hb, hf, hn, _⟩ := R
  exact ⟨o, es, ep, t, ho, hx, hd, goods_elems g, fun k => (hm k).trans (goods_mem g k), hb, hf, hn⟩
end

section
variable {P : Program} {w : World} {A : Around} {E : Value → Shared → Prop} {s : Shared} {a : Addr} {S : Str → Bool} {n : Nat}

/-! ### add -/
theorem setS_add_tail {g : Bool → Sem Unit} (hg : ∀ (b : Bool) (s₁ : Shared) (Q' : Unit → Shared → Prop), Q' () s₁ → wpAny (model P w) A (g b) Q' E s₁)
    {o : Obj} {es : Array (Int × Value)} {ep : Nat} {t : SetTable} (ho : s.heap.get? a = some o) (hex : o.ExactSet) (hd : o.data = .set es ep t)
    {es1 : Array (Int × Value)} {t2 : SetTable} {S' : Str → Bool} (g1 : ∀ e ∈ es1.toList, GoodS w e) (nd1 : (es1.toList.map keyS).Nodup) (m1 : ∀ k, S' k = true ↔ k ∈ es1.toList.map keyS)
    (hb1 : es1.size < scanBound) (hf2 : t2.fits es1.size = true) (hr : Ris t2.place.toList) (hl : w.params.followText "set-order" = true ∨ t2.led = true) {wasDummy : Bool} {R : Option Bool → Shared → Prop}
    (hR : ∀ h', Heap.SameBut a s.heap h' → SetS w h' a S' es1.size → R (some true) { s with heap := h' }) :
    wpAny (model P w) A (do
        storeSet a es1 t2
        if (!wasDummy && t2.tooFull) = true then do
            g (relayAll t2 es1 (SetTable.grown es1.size)).2.2
            storeSet a (relayAll t2 es1 (SetTable.grown es1.size)).1 (relayAll t2 es1 (SetTable.grown es1.size)).2.1
            pure (some true)
          else pure (some true)) R E s := by
  refine wpAny_bind (wpAny_storeSet_of ho hd ?_ (fits_of_scanBound hb1))
  have ho1 := store_at (es' := es1) (t' := t2) ho hd
  have sb1 := Heap.SameBut.update s.heap a (Obj.putSet es1 t2)
  split
  · have pm := relayAll_perm t2 es1 (SetTable.grown es1.size)
    have hf3 := relayAll_fits t2 es1 (SetTable.grown es1.size)
    have hr3 := relayAll_ris t2 es1 (SetTable.grown es1.size)
    have hl3 := relayAll_led t2 es1 (SetTable.grown es1.size)
    generalize relayAll t2 es1 (SetTable.grown es1.size) = Z at pm hf3 hr3 hl3 ⊢
    obtain ⟨es2, t3, gave⟩ := Z
    dsimp only at pm hf3 hr3 hl3 ⊢
    have hsz : es2.size = es1.size := by rw [← Array.length_toList, pm.length_eq, Array.length_toList]
    have hb2 : es2.size < scanBound := by rw [hsz]; exact hb1
    refine wpAny_bind (hg _ _ _ ?_)
    refine wpAny_bind (wpAny_storeSet_of ho1 rfl ?_ (fits_of_scanBound hb2))
    have ho2 := store_at (es' := es2) (t' := t3) ho1 rfl
    refine wpAny_pure (hR _ (sb1.trans (Heap.SameBut.update _ a _)) ?_)
    exact ⟨_, es2, _, t3, ho2, hex, rfl, fun e he => g1 e (pm.mem_iff.mp he), (pm.map keyS).nodup_iff.mpr nd1, fun k => (m1 k).trans (pm.map keyS).mem_iff.symm, hb2, hf3, hsz, hr3,
      hl.imp id fun z => by rw [hl3]; exact z⟩
  · exact wpAny_pure (hR _ sb1 ⟨_, es1, _, t2, ho1, hex, rfl, g1, nd1, m1, hb1, hf2, rfl, hr, hl⟩)

theorem setS_add_hashed {k : Str} {tk : Tok} {Q : Bool → Shared → Prop} (R : SetS w s.heap a S n) (room : n + 1 < scanBound)
    (hQ : ∀ h', Heap.SameBut a s.heap h' → SetS w h' a (fun j => S j || decide (j = k)) (if S k = true then n else n + 1) → Q (!S k) { s with heap := h' }) :
    wpAny (model P w) A (setAddHashed a (.str k tk) ((PySem.strKind P w).hash k)) Q E s := by
  obtain ⟨o, es, ep, t, ho, hex, hd, g, nd, hm, hb, hf, hn, hr, hl⟩ := R
  have hkey : (PySem.strKind P w).is k (.str k tk) = true := PySem.strKind_is P w k tk
  have hsc : (Value.str k tk).scannable = true := rfl
  have hel : ElemsOf (PySem.strKind P w) es.toList := goods_elems g
  unfold setAddHashed setAddHashedIn
  refine wpAny_holding (wpAny_bind (wpAny_setState_of ho hd hf ?_))
  dsimp only
  rw [byScan_of hsc hb hel]
  simp only [↓reduceIte]
  unfold setAddByScan
  refine wpAny_bind ?_
  refine wpAny_bind (wpAny_rule ?_)
  refine wpAny_bind (wpAny_setScan_of hkey ho hd hf hel ?_)
  cases hfi : List.findIdx? (fun e => (PySem.strKind P w).is k e.2) es.toList with
  | some j =>
    dsimp only
    obtain ⟨hj, pj, _⟩ := List.findIdx?_eq_some_iff_getElem.mp hfi
    have hSk : S k = true := (hm k).2 ((goods_mem (P := P) (w := w) g k).2 ⟨es.toList[j], List.getElem_mem hj, pj⟩)
    refine wpAny_pure (wpAny_pure ?_)
    have q := hQ s.heap (Heap.SameBut.refl a s.heap) ⟨o, es, ep, t, ho, hex, hd, g, nd, fun i => by
      rw [Bool.or_eq_true, decide_eq_true_eq, ← hm i]
      exact ⟨fun z => z.elim id (fun e => e ▸ hSk), .inl⟩, hb, hf, by rw [if_pos hSk]; exact hn, hr, hl⟩
    rw [hSk] at q
    exact q
  | none =>
    dsimp only
    have hnk : k ∉ es.toList.map keyS := fun z => by
      obtain ⟨e, he, q⟩ := (goods_mem (P := P) (w := w) g k).1 z
      have c := List.findIdx?_eq_none_iff.mp hfi e he
      rw [q] at c
      cases c
    have hSk : S k = false := by
      cases q : S k with
      | false => rfl
      | true => exact absurd ((hm k).1 q) hnk
    have hgw : ∀ (b : Bool) {s₁ : Shared} {Q' : Unit → Shared → Prop}, Q' () s₁ → wpAny (model P w) A (match b with | true => rule "set.scan.the-table-gave-way" | false => pure ()) Q' E s₁ :=
      fun b s₁ Q' q => by cases b <;> first | exact wpAny_pure q | exact wpAny_rule q
    have pm := layNew_perm t es ((PySem.strKind P w).hash k) (.str k tk)
    have hf1 := layNew_fits t es ((PySem.strKind P w).hash k) (.str k tk)
    have hr1 := layNew_ris t es ((PySem.strKind P w).hash k) (.str k tk) hr
    have hl1 := layNew_led t es ((PySem.strKind P w).hash k) (.str k tk)
    generalize layNew t es ((PySem.strKind P w).hash k) (.str k tk) = Z at pm hf1 hr1 hl1 ⊢
    obtain ⟨es1, t1, wasDummy, gave⟩ := Z
    dsimp only at pm hf1 hr1 hl1 ⊢
    rw [Array.toList_push] at pm
    have pc : es1.toList.Perm (((PySem.strKind P w).hash k, Value.str k tk) :: es.toList) := pm.trans (List.perm_append_singleton _ _)
    have pk : (es1.toList.map keyS).Perm (k :: es.toList.map keyS) := pc.map keyS
    have g1 : ∀ e ∈ es1.toList, GoodS w e := fun e he => by
      rcases List.mem_cons.mp (pc.mem_iff.mp he) with z | z
      · rw [z]; exact ⟨k, tk, rfl, rfl⟩
      · exact g e z
    have nd1 : (es1.toList.map keyS).Nodup := pk.nodup_iff.mpr (List.nodup_cons.mpr ⟨hnk, nd⟩)
    have m1 : ∀ i, (S i || decide (i = k)) = true ↔ i ∈ es1.toList.map keyS := fun i => by
      rw [Bool.or_eq_true, decide_eq_true_eq, hm i, pk.mem_iff, List.mem_cons]
      exact Or.comm
    have hsz : es1.size = n + 1 := by rw [← Array.length_toList, pc.length_eq, List.length_cons, Array.length_toList, hn]
    have hb1 : es1.size < scanBound := by rw [hsz]; exact room
    have hled : w.params.followText "set-order" = true ∨ t1.led = true := hl.imp id fun z => by rw [hl1]; exact z
    have fin : ∀ h', Heap.SameBut a s.heap h' → SetS w h' a (fun j => S j || decide (j = k)) es1.size → Q true { s with heap := h' } := fun h' sb r => by
      have q := hQ h' sb
      rw [hSk] at q
      rw [hsz] at r
      exact q r
    refine wpAny_bind (hgw _ ?_)
    split
    · refine wpAny_bind ?_
      rw [hashByValue_scannable 8 hsc]
      refine wpAny_pure ?_
      refine setS_add_tail ?_ ho hex hd g1 nd1 m1 hb1 ?_ ?_ ?_ ?_
      · intro b s₁ Q' q; cases b <;> first | exact wpAny_pure q | exact wpAny_rule q
      · first | (split <;> first | exact hf1 | exact SetTable.fits_plain_off hf1) | exact hf1
      · first | (split <;> exact hr1) | exact hr1
      · first | (split <;> exact hled) | exact hled
      · intro h' sb r; dsimp only; exact wpAny_pure (fin h' sb r)
    · refine wpAny_bind (wpAny_pure ?_)
      simp only [↓reduceIte]
      refine setS_add_tail ?_ ho hex hd g1 nd1 m1 hb1 hf1 hr1 hled ?_
      · intro b s₁ Q' q; cases b <;> first | exact wpAny_pure q | exact wpAny_rule q
      · intro h' sb r; dsimp only; exact wpAny_pure (fin h' sb r)


end
end MoR
set_option maxHeartbeats 4000000
/-! set(xs) and sorted of it, xs typed data -/
namespace MoR
open PySem PySem.Spec PyProof.Rows L2 PySem.W
/-- the values of the set at S -/
def SetVals (w : World) (h : Heap) (S : Addr) (us : List Value) : Prop :=
  ∃ o es ep t, h.get? S = some o ∧ o.ExactSet ∧ o.data = .set es ep t ∧ t.fits es.size = true ∧ es.size < scanBound ∧ Ris t.place.toList ∧ (w.params.followText "set-order" = true ∨ t.led = true) ∧ es.toList.map (·.2) = us
/-- v reads as x -/
def Rz {α : Type} [En α] (R : Value → α → Prop) (h : Heap) (v : Value) (x : α) : Prop := R v x ∧ ∃ as, Reads h v (Ec.enc x) as
theorem rz_keep {α : Type} [En α] {R : Value → α → Prop} {h h' : Heap} (k : ∀ b o, h.get? b = some o → h'.get? b = some o) {us : List Value} {xs : List α} (e : EachIs (Rz R h) us xs) : EachIs (Rz R h') us xs :=
  e.mono fun _ _ ⟨q, as, r⟩ => ⟨q, as, PyProof.Rows.Reads.keeps k r⟩
theorem each_perm {α β : Type} {R : α → β → Prop} {us vs : List α} (p : vs.Perm us) : ∀ {ys : List β}, EachIs R us ys → ∃ zs, zs.Perm ys ∧ EachIs R vs zs := by
  induction p with
  | nil => intro ys e; exact ⟨ys, List.Perm.refl _, e⟩
  | cons x _ ih =>
    intro ys e
    cases e with
    | cons h t =>
      obtain ⟨zs, q, e2⟩ := ih t
      exact ⟨_ :: zs, q.cons _, .cons h e2⟩
  | swap x y l =>
    intro ys e
    cases e with
    | cons h t =>
      cases t with
      | cons h2 t2 => exact ⟨_ :: _ :: _, List.Perm.swap _ _ _, .cons h2 (.cons h t2)⟩
  | trans _ _ ih1 ih2 =>
    intro ys e
    obtain ⟨zs, q, e2⟩ := ih2 e
    obtain ⟨ws, q2, e3⟩ := ih1 e2
    exact ⟨ws, q2.trans q, e3⟩
theorem each_get {α β : Type} {R : α → β → Prop} : ∀ {us : List α} {ys : List β} {i : Nat} {u : α}, EachIs R us ys → us[i]? = some u → ∃ y, ys[i]? = some y ∧ R u y
  | _, _, _, _, .nil, h => by simp at h
  | _, _, 0, _, .cons h _, e => by simp at e; subst e; exact ⟨_, rfl, h⟩
  | _, _, i + 1, _, .cons _ t, e => by
    simp at e
    obtain ⟨y, h1, h2⟩ := each_get t e
    exact ⟨y, by simpa using h1, h2⟩

section
variable {P : Program} {w : World} {A : Around} {E : Value → Shared → Prop} {s : Shared} {α : Type} [En α] {Rl : Value → α → Prop}
abbrev kE (x : α) : NestedKey := toKey (Ec.enc x)
/-- tuples, as rows of address and key -/
theorem refs_keys (hT : ∀ x : α, ∃ ds, Ec.enc x = .tuple ds) (hd : En.dp α ≤ 8) : ∀ {us : List Value} {xs : List α}, EachIs (Rz Rl s.heap) us xs →
    ∃ ks : List (Addr × NestedKey), us = ks.map (fun p => Value.ref p.1) ∧ ks.map (·.2) = xs.map kE ∧ ∀ p ∈ ks, IsK P w s.heap p.2 p.1 ∧ ∃ x ∈ xs, p.2 = kE x ∧ Rz Rl s.heap (.ref p.1) x
  | _, _, .nil => ⟨[], rfl, rfl, fun p h => by cases h⟩
  | _, _, @EachIs.cons _ _ _ u x _ xs ⟨q0, as, r⟩ t => by
    obtain ⟨ks, h1, h2, h3⟩ := refs_keys hT hd t
    obtain ⟨ds, e⟩ := hT x
    have r0 := r
    rw [e] at r0
    have hk := reads_key (Ec.enc x) u as (En.imm x) r
    cases r0 with
    | @tuple a o vs n _ _ g1 g2 g3 g4 =>
      refine ⟨(a, kE x) :: ks, by rw [h1]; rfl, by rw [List.map_cons, List.map_cons, h2], fun p hp => ?_⟩
      rcases List.mem_cons.mp hp with q | hp
      · subst q
        exact ⟨⟨hk, Nat.le_trans (key_depth _ (En.imm x)) (Nat.le_trans (En.dpt x) hd)⟩, x, List.mem_cons_self, rfl, q0, as, r⟩
      · obtain ⟨a1, y, hy, a2⟩ := h3 p hp
        exact ⟨a1, y, List.mem_cons_of_mem _ hy, a2⟩
theorem keys_back {h : Heap} {xs : List α} : ∀ {L : List (Addr × NestedKey)}, (∀ p ∈ L, ∃ x ∈ xs, p.2 = kE x ∧ Rz Rl h (.ref p.1) x) →
    ∃ ys : List α, EachIs (Rz Rl h) (L.map fun p => Value.ref p.1) ys ∧ L.map (·.2) = ys.map kE ∧ ∀ y ∈ ys, y ∈ xs
  | [], _ => ⟨[], .nil, rfl, fun y h => by cases h⟩
  | p :: L, hp => by
    obtain ⟨ys, h1, h2, h3⟩ := keys_back (L := L) fun q hq => hp q (List.mem_cons_of_mem _ hq)
    obtain ⟨x, hx, e, r⟩ := hp p List.mem_cons_self
    refine ⟨x :: ys, .cons r h1, by rw [List.map_cons, List.map_cons, h2, e], fun y hy => ?_⟩
    rcases List.mem_cons.mp hy with q | hy
    · rw [q]; exact hx
    · exact h3 y hy
/-- what the set has at the end -/
def EndSet (w : World) {α : Type} [En α] (Rl : Value → α → Prop) (h : Heap) (S : Addr) (xs : List α) : Prop := ∃ (us : List Value) (ys : List α), SetVals w h S us ∧ EachIs (Rz Rl h) us ys ∧ ys.Nodup ∧ ∀ x, x ∈ ys ↔ x ∈ xs
theorem adds_keys {A1 : Around} {S : Addr} {us : List Value} (ks : List (Addr × NestedKey)) (hit : us = ks.map fun p => Value.ref p.1) (hk : ∀ p ∈ ks, IsK P w s.heap p.2 p.1) (hfew : ks.length < 4096) (hu : A1.units + 8 < cLine) :
    Adds P w A1 E S s.heap us (fun i h => ∃ L es ep t, SetG P w h S L es ep t ∧ Got ks i L) where
  keep i h h' x k1 k2 := by
    obtain ⟨L, es, ep, t, hS, g⟩ := x
    exact ⟨L, es, ep, t, hS.keep k1 fun p hp => isK_keep (hk p (List.mem_of_mem_take (g.sub p hp))) k2, g⟩
  add i v s1 Q hi x k1 hQ := by
    obtain ⟨L, es, ep, t, hS, g⟩ := x
    rw [hit, List.getElem?_map] at hi
    obtain ⟨p, hp, rfl⟩ := Option.map_eq_some_iff.mp hi
    have hil : i < ks.length := (List.getElem?_eq_some_iff.mp hp).1
    have hx : IsK P w s1.heap p.2 p.1 := isK_keep (hk p (List.mem_of_getElem? hp)) k1
    unfold setAdd
    refine wpAny_holding ?_
    refine wpAny_bind (IsK.hash hu hx ?_)
    refine add_atK (s := { s1 with toks := s1.toks + p.2.draws }) hS hx hu (by have := g.len; omega) fun b h' L' es' ep' t' hsb hS2 c1 c2 => ?_
    refine hQ b h' _ hsb (Nat.le_add_right _ _) ⟨L', es', ep', t', hS2, ?_⟩
    rcases Classical.em (p.2 ∈ L.map (·.2)) with c | c
    · rw [c1 c]; exact g.same hp c
    · exact g.more hp (c2 c)
theorem end_keys {s1 : Shared} {S : Addr} {xs : List α} {ks : List (Addr × NestedKey)} (h2 : ks.map (·.2) = xs.map kE)
    (h3 : ∀ p ∈ ks, ∃ x ∈ xs, p.2 = kE x ∧ Rz Rl s1.heap (.ref p.1) x) {L : List (Addr × NestedKey)} {es : Array (Int × Value)} {ep : Nat} {t : SetTable} (R : SetG P w s1.heap S L es ep t) (g : Got ks ks.length L) : EndSet w Rl s1.heap S xs := by
  have sub : ∀ p ∈ L, p ∈ ks := fun p hp => List.mem_of_mem_take (g.sub p hp)
  obtain ⟨ys, e1, e2, e3⟩ := keys_back (h := s1.heap) (xs := xs) (L := L) fun p hp => h3 p (sub p hp)
  obtain ⟨o, ho, hex, hd⟩ := R.ob
  have hfits : t.fits es.size = true := R.fits
  have hsz : es.size = L.length := R.size
  refine ⟨L.map fun p => Value.ref p.1, ys, ⟨o, es, ep, t, ho, hex, hd, hfits, ?_, R.tab.ris, R.led, ?_⟩, e1, ?_, fun x => ⟨fun hx => e3 x hx, fun hx => ?_⟩⟩
  · rw [hsz]; exact R.few
  · rw [R.rows]
    unfold rowsK
    rw [List.map_map]; rfl
  · have nd := R.nd
    rw [e2] at nd
    exact nodup_of_map nd
  · have hk : kE x ∈ ks.map (·.2) := by rw [h2]; exact List.mem_map.mpr ⟨x, hx, rfl⟩
    obtain ⟨p, hp, e⟩ := List.mem_map.mp hk
    have hL : p.2 ∈ L.map (·.2) := g.all p (by rw [List.take_length]; exact hp)
    rw [e2, e] at hL
    obtain ⟨y, hy, e4⟩ := List.mem_map.mp hL
    rw [← enc_key e4]; exact hy
/-- set(xs), xs a list or a tuple of tuples -/
theorem call_set_tups {l : Addr} {items : Array Value} {xs : List α} {Q : Value → Shared → Prop} (hT : ∀ x : α, ∃ ds, Ec.enc x = .tuple ds) (hd : En.dp α ≤ 8) (hh : A.handled = none) (hl : s.heap.IsList l items ∨ s.heap.IsTuple l items) (hr : EachIs (Rz Rl s.heap) items.toList xs)
    (hfew : xs.length < 4096) (hu : A.units + 16 < cLine)
    (h : ∀ (h' : Heap) (tk : Nat), EndSet w Rl h' s.heap.objs.size xs → (∀ b o, s.heap.get? b = some o → h'.get? b = some o) → Q (.ref s.heap.objs.size) { s with heap := h', toks := tk }) :
    wpAny (model P w) A (call (.type "set") [.ref l]) Q E s := by
  obtain ⟨ks, h1, h2, h3⟩ := refs_keys (P := P) (w := w) hT hd hr
  have hlen : ks.length = xs.length := by
    have q := congrArg List.length h2
    rw [List.length_map, List.length_map] at q
    exact q
  have hsz : items.size = ks.length := by
    have q := congrArg List.length h1
    rw [Array.length_toList, List.length_map] at q
    exact q
  have go : ∀ (h' : Heap) (tk : Nat), (∃ L es ep t, SetG P w h' s.heap.objs.size L es ep t ∧ Got ks items.size L) → (∀ b o, s.heap.get? b = some o → h'.get? b = some o) → Q (.ref s.heap.objs.size) { s with heap := h', toks := tk } := fun h' tk ⟨L, es, ep, t, R, g⟩ k => by
    rw [hsz] at g
    refine h h' tk (end_keys (s1 := { s with heap := h', toks := tk }) h2 (fun p hp => ?_) R g) k
    obtain ⟨_, x, hx, e, q0, as, r⟩ := h3 p hp
    exact ⟨x, hx, e, q0, as, PyProof.Rows.Reads.keeps k r⟩
  have hA : ∀ A1 E1, A1.units ≤ A.units + 6 → Adds P w A1 E1 s.heap.objs.size s.heap items.toList (fun i h => ∃ L es ep t, SetG P w h s.heap.objs.size L es ep t ∧ Got ks i L) :=
    fun A1 E1 hu1 => adds_keys ks h1 (fun p hp => (h3 p hp).1) (by omega) (by omega)
  have h0 : ∀ h', EmptyAt w h' s.heap.objs.size → ∃ L es ep t, SetG P w h' s.heap.objs.size L es ep t ∧ Got ks 0 L := fun h' e => ⟨[], #[], 0, _, setG_fresh e, Got.zero ks⟩
  rcases hl with hl | hl
  · exact call_set_list hh hl hA h0 go
  · exact call_set_tup hh hl hA h0 go

/-! ### texts -/
variable {Rs : Value → Str → Prop} (hRs : ∀ k tk, Rs (.str k tk) k)
theorem adds_texts {A1 : Around} {S : Addr} {us : List Value} (xs : List Str) (hr : EachIs (Rz Rs s.heap) us xs) (hfew : xs.length < 4096) :
    Adds P w A1 E S s.heap us (fun i h => ∃ M n, SetS w h S M n ∧ n ≤ i ∧ ∀ k, M k = true ↔ k ∈ xs.take i) where
  keep i h h' x k1 k2 := by
    obtain ⟨M, n, R, q⟩ := x
    exact ⟨M, n, R.at k1, q⟩
  add i v s1 Q hi x k1 hQ := by
    obtain ⟨M, n, R, hn, hm⟩ := x
    obtain ⟨k, hk, _, as, r⟩ := each_get hr hi
    have hil : i < xs.length := (List.getElem?_eq_some_iff.mp hk).1
    cases r with
    | str _ tk =>
      unfold setAdd
      refine wpAny_holding ?_
      refine wpAny_bind (wpAny_pyHash_str ?_)
      refine setS_add_hashed (k := k) (tk := tk) R (by unfold scanBound; omega) fun h' sb R' => ?_
      refine hQ _ h' _ sb (Nat.le_succ _) ⟨_, _, R', ?_, fun j => ?_⟩
      · split <;> omega
      · rw [take_next hk, List.mem_append, List.mem_singleton, Bool.or_eq_true, hm j, decide_eq_true_eq]
include hRs in
theorem end_texts {h : Heap} {S : Addr} {xs : List Str} {M : Str → Bool} {n : Nat} (R : SetS w h S M n) (hm : ∀ k, M k = true ↔ k ∈ xs) : EndSet w Rs h S xs := by
  obtain ⟨o, es, ep, t, ho, hex, hd, g, nd, hk, hb, hf, hn, hr, hl⟩ := R
  have key : ∀ l : List (Int × Value), (∀ e ∈ l, GoodS w e) → EachIs (Rz Rs h) (l.map (·.2)) (l.map keyS) := by
    intro l
    induction l with
    | nil => intro _; exact .nil
    | cons e l ih =>
      intro hg
      obtain ⟨k, tk, h1, _⟩ := hg e List.mem_cons_self
      refine .cons ?_ (ih fun x hx => hg x (List.mem_cons_of_mem _ hx))
      have h2 : keyS e = k := by unfold keyS; rw [h1]
      show Rz Rs h e.2 (keyS e)
      rw [h1, h2]
      exact ⟨hRs k tk, _, Reads.str k tk⟩
  exact ⟨_, es.toList.map keyS, ⟨o, es, ep, t, ho, hex, hd, hf, hb, hr, hl, rfl⟩, key _ g, nd, fun x => by rw [← hk x]; exact hm x⟩
include hRs in
theorem call_set_texts {l : Addr} {items : Array Value} {xs : List Str} {Q : Value → Shared → Prop} (hh : A.handled = none) (hl : s.heap.IsList l items ∨ s.heap.IsTuple l items) (hr : EachIs (Rz Rs s.heap) items.toList xs)
    (hfew : xs.length < 4096) (h : ∀ (h' : Heap) (tk : Nat), EndSet w Rs h' s.heap.objs.size xs → (∀ b o, s.heap.get? b = some o → h'.get? b = some o) → Q (.ref s.heap.objs.size) { s with heap := h', toks := tk }) :
    wpAny (model P w) A (call (.type "set") [.ref l]) Q E s := by
  have hsz : items.size = xs.length := by
    have q := hr.length
    rw [Array.length_toList] at q
    exact q
  have go : ∀ (h' : Heap) (tk : Nat), (∃ M n, SetS w h' s.heap.objs.size M n ∧ n ≤ items.size ∧ ∀ k, M k = true ↔ k ∈ xs.take items.size) → (∀ b o, s.heap.get? b = some o → h'.get? b = some o) → Q (.ref s.heap.objs.size) { s with heap := h', toks := tk } := fun h' tk ⟨M, n, R, _, hm⟩ k => by
    rw [hsz, List.take_length] at hm
    exact h h' tk (end_texts hRs R hm) k
  have hA : ∀ A1 E1, A1.units ≤ A.units + 6 → Adds P w A1 E1 s.heap.objs.size s.heap items.toList (fun i h => ∃ M n, SetS w h s.heap.objs.size M n ∧ n ≤ i ∧ ∀ k, M k = true ↔ k ∈ xs.take i) :=
    fun A1 E1 _ => adds_texts xs hr hfew
  have h0 : ∀ h', EmptyAt w h' s.heap.objs.size → ∃ M n, SetS w h' s.heap.objs.size M n ∧ n ≤ 0 ∧ ∀ k, M k = true ↔ k ∈ xs.take 0 := fun h' e =>
    ⟨fun _ => false, 0, ⟨_, #[], 0, _, e, ⟨rfl, rfl, rfl⟩, rfl, (fun e he => by simp at he), (by simp), (fun k => by simp), (by decide), (by rfl), rfl, List.Pairwise.nil, by
      show _ ∨ (!w.params.followText "set-order") = true
      cases w.params.followText "set-order"
      · exact .inr rfl
      · exact .inl rfl⟩, Nat.le_refl _, fun k => by simp⟩
  rcases hl with hl | hl
  · exact call_set_list hh hl hA h0 go
  · exact call_set_tup hh hl hA h0 go
end
end MoR
set_option maxHeartbeats 4000000
/-! sorted, of lists and sets of typed data -/
namespace MoR
open PySem PySem.Spec PyProof.Rows L2 PySem.W PySem.Calls
/-- what can be sorted: all tuples with an item; no tuple and no None; one item at most; a tuple with an item ahead of the empty one -/
def SortOk (ds : List PyData) : Prop := Sortable ds ∨ (ds.length ≤ 1 ∧ ∀ d ∈ ds, d ≠ .none) ∨ ∃ x r, ds = [.tuple (x :: r), .tuple []]
section
variable {P : Program} {w : World} {A : Around} {E : Value → Shared → Prop} {s : Shared}
theorem general_lt {ds : List PyData} (hal : AllAlike ds) (hn : ∀ d ∈ ds, d ≠ .none) (hu : ∀ d, d ∈ ds → A.units + d.depth < cLine) : H.LtAt P w A s (dataKind s.heap ds) general' := by
  intro E x y a b Q ha hb hq
  obtain ⟨d, as, hd, ra, rfl⟩ := dataKind_inv ha
  obtain ⟨d', as', hd', rb, rfl⟩ := dataKind_inv hb
  show wpAny _ _ (oneLt' false x y) Q E s
  exact oneLt_alike (fun h => nomatch h) ra rb (hal d hd d' hd') (hn d hd) (Nat.lt_of_le_of_lt (Nat.add_le_add_left (Nat.min_le_left _ _) _) (hu d hd)) hq
theorem sortsAt_ok {vs : List Value} {ds : List PyData} (e : EachIs (fun v d => ∃ as, Reads s.heap v d as) vs ds) (hal : AllAlike ds) (hk : SortOk ds) (hu : ∀ d, d ∈ ds → A.units + d.depth < cLine) : SortsAt P w A s (dataKind s.heap ds) vs := by
  rcases hk with hk | ⟨h1, hn⟩ | ⟨x, r, rfl⟩
  · exact SortsAt.data e hal hk hu
  · refine ⟨fun v hv => ?_, general', general_lt hal hn hu, fun h2 => ?_⟩
    · obtain ⟨d, hd, as, r⟩ := e.left v hv
      exact ⟨_, dataKind_some hal hd r⟩
    · have := e.length; omega
  · refine ⟨fun v hv => ?_, general', general_lt hal (fun d hd => ?_) hu, fun _ E Q hq => ?_⟩
    · obtain ⟨d, hd, as, r⟩ := e.left v hv
      exact ⟨_, dataKind_some hal hd r⟩
    · simp only [List.mem_cons, List.not_mem_nil, or_false] at hd
      rcases hd with rfl | rfl <;> exact fun h => nomatch h
    · cases e with
      | cons h1 t =>
        cases t with
        | cons h2 t2 =>
          cases t2
          obtain ⟨as, r1⟩ := h1
          obtain ⟨bs, r2⟩ := h2
          cases r1 with
          | @tuple a1 o1 vs1 n1 _ _ g1 g2 g3 g4 =>
            cases r2 with
            | @tuple a2 o2 vs2 n2 _ _ k1 k2 k3 k4 =>
              have e1 : ∃ f, vs1[0]? = some f := by
                cases q : vs1.toList with
                | nil => rw [q] at g4; cases g4
                | cons f l => exact ⟨f, by rw [← Array.getElem?_toList, q]; rfl⟩
              have e2 : vs2[0]? = none := by
                rw [← Array.getElem?_toList]
                cases q : vs2.toList with
                | nil => rfl
                | cons f l => rw [q] at k4; cases k4
              obtain ⟨f, e1⟩ := e1
              rw [keyKind'_eq, List.mapM_toArray, map_eq_pure_bind]
              refine wpAny_bind (wpAny_bind ?_)
              rw [List.mapM_cons]
              refine wpAny_bind ?_
              rw [kas_first_eq]
              refine wpAny_bind (Looks.here (show Looks (model P w) s.heap (typeOf (.ref a1)) o1.cls from (Looks.ld g1).andThen .now) ?_)
              rw [g2, if_neg (by first | decide | simp)]
              refine wpAny_bind (listItems_at g1 g3 (wpAny_pure ?_))
              rw [e1, List.mapM_cons]
              refine wpAny_bind (wpAny_bind ?_)
              rw [kas_first_eq]
              refine wpAny_bind (Looks.here (show Looks (model P w) s.heap (typeOf (.ref a2)) o2.cls from (Looks.ld k1).andThen .now) ?_)
              rw [k2, if_neg (by first | decide | simp)]
              refine wpAny_bind (listItems_at k1 k3 (wpAny_pure ?_))
              rw [e2, List.mapM_nil]
              refine wpAny_bind (wpAny_pure (wpAny_pure (wpAny_pure (wpAny_pure ?_))))
              rw [if_neg (by simp), if_pos (by simp)]
              exact wpAny_pure hq
section
variable {α : Type} [En α] {Rl : Value → α → Prop}
theorem alike_en (xs : List α) : AllAlike (xs.map Ec.enc) := AllAlike.of fun a b => En.al a b
theorem ok_tuples {xs : List α} (h : ∀ x : α, ∃ d r, Ec.enc x = .tuple (d :: r)) : SortOk (xs.map Ec.enc) := .inl (Sortable.tuples h)
theorem ok_rows {xs : List (List α)} (h : ∀ x ∈ xs, x ≠ []) : SortOk (xs.map Ec.enc) := .inl (.inl fun d hd => by
  obtain ⟨x, hx, rfl⟩ := List.mem_map.mp hd
  cases x with
  | nil => exact absurd rfl (h _ hx)
  | cons y r => exact ⟨_, _, rfl⟩)
theorem ok_texts (xs : List Str) : SortOk (xs.map Ec.enc) := .inl (Sortable.others fun b => ⟨fun h => (nomatch h), fun _ h => (nomatch h)⟩)
theorem ok_pairs {β : Type} [En β] (xs : List (α × β)) : SortOk (xs.map Ec.enc) := ok_tuples fun x => ⟨_, _, rfl⟩
theorem ok_one {xs : List (List α)} (h : xs.length ≤ 1) : SortOk (xs.map Ec.enc) := .inr (.inl ⟨by rw [List.length_map]; exact h, fun d hd => by
  obtain ⟨x, hx, rfl⟩ := List.mem_map.mp hd
  exact fun h => nomatch h⟩)
theorem ok_two {x : List α} (h : x ≠ []) : SortOk ([x, []].map Ec.enc) := .inr (.inr (by
  cases x with
  | nil => exact absurd rfl h
  | cons y r => exact ⟨Ec.enc y, r.map Ec.enc, rfl⟩))
/-- list.sort on the new list of the values vs -/
theorem sort_new {E : Value → Shared → Prop} {vs : List Value} {ys : List α} {Q : Value → Shared → Prop} {a : Addr} {n : Nat} {R : Value → α → Prop} (ho : s.heap.get? a = some (seqObj "list" vs.toArray n)) (eR : EachIs R vs ys) (e : EachIs (Rz Rl s.heap) vs ys) (hna : ∀ v x, Rz Rl s.heap v x → ∃ as, Reads s.heap v (Ec.enc (α := α) x) as ∧ a ∉ as)
    (hk : SortOk (ys.map Ec.enc)) (hL : ys.length ≤ sizeLine) (hu : A.units + 1 + En.dp α < cLine)
    (h : ∀ out, out.length = ys.length → EachIs R out (ys.mergeSort (leE α)) → Q .none { s with heap := sortedHeap s.heap a vs (List.toArray out) }) :
    wpAny (model P w) A (call (.builtin "list.sort") [.ref a]) Q E s := by
  have er : EachIs (fun v b => ∃ as, Reads s.heap v (Ec.enc b) as ∧ a ∉ as) vs ys := e.mono fun v x r => hna v x r
  have er' : EachIs (fun v b => ∃ as, Reads (sortingHeap s.heap a vs) v (Ec.enc b) as) vs ys := each_keepBut (h' := sortingHeap s.heap a vs) (fun _ _ hb q => sortingHeap_old hb q) (fun o q => by rw [ho] at q; rw [← Option.some.inj q]) (alike_en ys) er
  refine wpAny_call_entry slot_list_sort ⟨_, ho, rfl⟩ entry_list_sort (list_sort_vals (κ := dataKind (sortingHeap s.heap a vs) (ys.map Ec.enc)) ho (sortsAt_ok (s := { s with heap := sortingHeap s.heap a vs }) (each_map (R := fun v d => ∃ as, Reads (sortingHeap s.heap a vs) v d as) Ec.enc er') (alike_en ys) hk (fun d hd => ?_)) (by rw [e.length]; exact hL) ⟨.none, rfl, ?_⟩) (args_list_sort _)
  · obtain ⟨x, _, rfl⟩ := List.mem_map.mp hd
    have := En.dpt x
    simp only [Around.in1_units]
    omega
  · exact h _ (by rw [sortVals_length false rfl]; exact e.length) (sortVals_data false eR er' (alike_en ys))
/-- data without lists reads off no list -/
theorem rz_none {h : Heap} : ∀ (d : PyData) (v : Value) (as : List Addr), imm d = true → Reads h v d as → as = []
  | .none, _, _, _, r => by cases r; rfl
  | .bool b, _, _, _, r => by cases r; rfl
  | .int i, _, _, _, r => by cases r; rfl
  | .str x, _, _, _, r => by cases r; rfl
  | .tuple xs, _, _, i, r => by
    simp only [imm] at i
    cases r with
    | tuple h1 h2 h3 h4 =>
      have key : ∀ (xs : List PyData) (vs : List Value) (as : List Addr), immAll xs = true → (∀ d ∈ xs, ∀ v as, imm d = true → Reads h v d as → as = []) → ReadsAll h vs xs as → as = [] := by
        intro xs
        induction xs with
        | nil => intro vs as _ _ r; cases r; rfl
        | cons x xs ih =>
          intro vs as i hx r
          obtain ⟨i1, i2⟩ := imm_cons i
          cases r with
          | cons h1 h2 => rw [hx x List.mem_cons_self _ _ i1 h1, ih _ _ i2 (fun d hd => hx d (List.mem_cons_of_mem _ hd)) h2]; rfl
      exact key xs _ _ i (fun d hd v as i1 r1 => rz_none d v as i1 r1) h4
  | .list _, _, _, i, _ => by simp [imm] at i
  | .dict _, _, _, i, _ => by simp [imm] at i
theorem rz_off {h : Heap} {v : Value} {x : α} (a : Addr) (r : Rz Rl h v x) : ∃ as, Reads h v (Ec.enc x) as ∧ a ∉ as := by
  obtain ⟨_, as, r⟩ := r
  have e := rz_none _ _ _ (En.imm x) r
  subst e
  exact ⟨[], r, fun h => by cases h⟩
theorem fresh_at {h h1 : Heap} {p : Addr} (k : ∀ b o, h.get? b = some o → h1.get? b = some o) (hp : h1.objs.size ≤ p) : h.get? p = none := by
  cases e : h.get? p with
  | none => rfl
  | some o => exact absurd (Heap.lt_size (k _ _ e)) (Nat.not_lt.mpr hp)
/-- sorted of what collect gathers -/
theorem sorted_by {r : Addr} {Q : Value → Shared → Prop} (Good : List α → Prop)
    (C : ∀ R : List Value → Shared → Prop, (∀ s1 vs ys, (∀ b o, s.heap.get? b = some o → s1.heap.get? b = some o) → s1.gens = s.gens → s1.os = s.os → EachIs (Rz Rl s1.heap) vs ys → Good ys → R vs s1) → wpAny (model P w) A.in1 (collect (.ref r)) R E s)
    (hk : ∀ ys, Good ys → SortOk (ys.map Ec.enc) ∧ ys.length ≤ 100000) (hu : A.units + 2 + En.dp α < cLine)
    (hQ : ∀ s' p (out : Array Value) (c : Nat) ys, (∀ b o, s.heap.get? b = some o → s'.heap.get? b = some o) → s'.gens = s.gens → s'.os = s.os → s.heap.get? p = none → s'.heap.get? p = some (seqObj "list" out c) →
      Good ys → EachIs (Rz Rl s'.heap) out.toList (ys.mergeSort (leE α)) → Q (.ref p) s') :
    wpAny (model P w) A (call (.builtin "sorted") [.ref r]) Q E s := by
  refine Calls.call_function_entry kind_sorted plain_sorted entry_sorted (args_sorted1 _) ?_
  unfold Builtin.«sorted»
  refine wpAny_bind (m := checkCount "sorted" 1 1 _) (wpAny_pure ?_)
  refine wpAny_bind (C _ fun s1 vs ys k1 g1 o1 e hg => ?_)
  obtain ⟨hs, hL0⟩ := hk ys hg
  have hL : ys.length ≤ sizeLine := Nat.le_trans hL0 (by decide)
  refine wpAny_bind (wpAny_newList ?_ (by rw [e.length]; exact hL))
  have hoL : (s1.heap.push (seqObj "list" vs.toArray 0)).get? s1.heap.objs.size = some (seqObj "list" vs.toArray 0) := Heap.get?_push_size _ rfl
  have e2 : EachIs (Rz Rl (s1.heap.push (seqObj "list" vs.toArray 0))) vs ys := rz_keep (fun b o q => Heap.get?_push_of_some _ q) e
  refine wpAny_bind (wpAny_holding (sort_new (s := { s1 with heap := s1.heap.push (seqObj "list" vs.toArray 0) }) hoL e e2 (fun v x r => rz_off _ r) hs hL (by simp only [Around.in1_units]; omega) fun out _ e3 => ?_))
  obtain ⟨c, hc⟩ := sortedHeap_at (vs := vs) (out := out.toArray) hoL
  have k2 : ∀ b o, s1.heap.get? b = some o → (sortedHeap (s1.heap.push (seqObj "list" vs.toArray 0)) s1.heap.objs.size vs out.toArray).get? b = some o := fun b u q => by
    have hlt := Heap.lt_size q
    rw [sortedHeap_old (Nat.ne_of_lt hlt) (by rw [size_push']; exact Nat.lt_succ_of_lt hlt)]
    exact Heap.get?_push_of_some _ q
  exact wpAny_pure ⟨_, rfl, hQ _ s1.heap.objs.size out.toArray c ys (fun b u q => k2 b u (k1 b u q)) g1 o1 (fresh_at k1 (Nat.le_refl _)) hc hg (rz_keep k2 e3)⟩
/-- sorted(set) -/
theorem sorted_endset [DecidableEq α] {a : Addr} {xs : List α} {Q : Value → Shared → Prop} (R : EndSet w Rl s.heap a xs) (hh : A.handled = none) (hk : ∀ ys : List α, ys.Nodup → (∀ y, y ∈ ys ↔ y ∈ xs) → SortOk (ys.map Ec.enc)) (hl : xs.length ≤ 100000) (hu : A.units + 2 + En.dp α < cLine)
    (hQ : ∀ s' p (out : Array Value) (c : Nat), (∀ b o, s.heap.get? b = some o → s'.heap.get? b = some o) → s'.gens = s.gens → s'.os = s.os → s.heap.get? p = none → s'.heap.get? p = some (seqObj "list" out c) →
      EachIs (Rz Rl s'.heap) out.toList (Mo.canon (leE α) xs) → Q (.ref p) s') :
    wpAny (model P w) A (call (.builtin "sorted") [.ref a]) Q E s := by
  obtain ⟨us, ys, ⟨o, es, ep, t, ho, hex, hd, hf, hsz, hr, hled, hus⟩, e, nd, hm⟩ := R
  refine sorted_by (fun zs : List α => zs.Nodup ∧ ∀ x, x ∈ zs ↔ x ∈ xs) (fun R hR => ?_) (fun zs g => ⟨hk zs g.1 g.2, Nat.le_trans (Mo.nodup_le g.1 fun x hx => (g.2 x).mp hx) hl⟩) hu
    fun s' p out c zs k g o hp hg gd ez => hQ s' p out c k g o hp hg (by rw [← sort_canon gd.1 gd.2]; exact ez)
  refine collect_set (A := A.in1) hh ⟨o, ho, hex.1, hd⟩ hf hsz hr hled fun s1 vs k1 _ g1 o1 pm => ?_
  rw [hus] at pm
  obtain ⟨zs, pz, ez⟩ := each_perm pm e
  exact hR s1 vs zs k1 g1 o1 (rz_keep k1 ez) ⟨pz.nodup_iff.mpr nd, fun x => (pz.mem_iff).trans (hm x)⟩
/-- sorted(list) -/
theorem sorted_list {a : Addr} {items : Array Value} {xs : List α} {Q : Value → Shared → Prop} (hl : s.heap.IsList a items) (e : EachIs (Rz Rl s.heap) items.toList xs) (hk : SortOk (xs.map Ec.enc)) (hx : xs.length ≤ 100000) (hu : A.units + 2 + En.dp α < cLine)
    (hQ : ∀ s' p (out : Array Value) (c : Nat), (∀ b o, s.heap.get? b = some o → s'.heap.get? b = some o) → s'.gens = s.gens → s'.os = s.os → s.heap.get? p = none → s'.heap.get? p = some (seqObj "list" out c) →
      EachIs (Rz Rl s'.heap) out.toList (xs.mergeSort (leE α)) → Q (.ref p) s') :
    wpAny (model P w) A (call (.builtin "sorted") [.ref a]) Q E s := by
  refine sorted_by (fun zs : List α => zs = xs) (fun R hR => ?_) (fun zs g => by subst g; exact ⟨hk, hx⟩) hu fun s' p out c zs k g o hp hg gd ez => hQ s' p out c k g o hp hg (by rw [← gd]; exact ez)
  have hlen : items.toList.length ≤ sizeLine := by rw [e.length]; exact Nat.le_trans hx (by decide)
  have hl' : s.heap.IsList a items.toList.toArray := by simpa using hl
  have k : ∀ b o, s.heap.get? b = some o → ((s.heap.push (seqObj "list" #[] 0)).update s.heap.objs.size (Obj.mapSeq (· ++ items.toList.toArray))).get? b = some o := fun b o q => by
    have hlt := Heap.lt_size q
    rw [(Heap.SameBut.update _ _ _).2 b (Nat.ne_of_lt hlt)]
    exact Heap.get?_push_of_some _ q
  refine collect_list hl' ?_ hlen
  exact hR _ _ xs k rfl rfl (rz_keep k e) rfl
end
end
end MoR
set_option maxHeartbeats 4000000
/-! data without lists, in the walk -/
namespace MoR
open PySem PySem.Spec PyProof.Rows L2 PySem.W Evl

mutual
/-- v is the data d -/
inductive Im (K : PySem.W.Frag) (H : Hp) : V → PyData → Prop
  | non : Im K H .non .none
  | bl (b : Bool) : Im K H (.bl b) (.bool b)
  | int (i : Int) : Im K H (.int i) (.int i)
  | str (x : Str) : Im K H (.str x) (.str x)
  | tup {a : Addr} {xs : List V} {ds : List PyData} : SqT K H a xs → ImAll K H xs ds → Im K H (.ref a) (.tuple ds)
inductive ImAll (K : PySem.W.Frag) (H : Hp) : List V → List PyData → Prop
  | nil : ImAll K H [] []
  | cons {v : V} {vs : List V} {d : PyData} {ds : List PyData} : Im K H v d → ImAll K H vs ds → ImAll K H (v :: vs) (d :: ds)
end
section
variable {K : PySem.W.Frag} {H H' H1 H2 : Hp}
mutual
theorem Im.dp : ∀ {d : PyData} {v : V}, Im K H v d → Dp K H v d
  | .none, _, h => by cases h; exact .non
  | .bool b, _, h => by cases h; exact .bl _
  | .int i, _, h => by cases h; exact .int _
  | .str x, _, h => by cases h; exact .str _
  | .tuple ds, _, h => by
    cases h with
    | tup h1 h2 => exact .tup h1 (ImAll.dp h2)
  | .list _, _, h => by cases h
  | .dict _, _, h => by cases h
theorem ImAll.dp : ∀ {ds : List PyData} {vs : List V}, ImAll K H vs ds → DpAll K H vs ds
  | [], _, h => by cases h; exact .nil
  | d :: ds, _, h => by
    cases h with
    | cons h1 h2 => exact .cons (Im.dp h1) (ImAll.dp h2)
end
/-- tuples keep -/
def Tk (K : PySem.W.Frag) (H H' : Hp) : Prop := ∀ a xs, SqT K H a xs → SqT K H' a xs
theorem Tk.refl : Tk K H H := fun _ _ h => h
theorem Tk.trans (a : Tk K H H1) (b : Tk K H1 H2) : Tk K H H2 := fun x xs h => b x xs (a x xs h)
theorem Tk.ex (e : Ex H H') : Tk K H H' := fun _ _ h => ex_t e h
/-- a list is written -/
theorem Tk.lst {a : Addr} {xs : List V} {o : HO} (h : H a = some (.lst xs)) : Tk K H (upd H a o) := fun b ys hb => by
  rcases hb with hb | hb
  · left
    rcases hb with hb | ⟨u, hb⟩
    · exact .inl (by rw [upd_ne (ne_of hb h (fun e => nomatch e))]; exact hb)
    · exact .inr ⟨u, by rw [upd_ne (ne_of hb h (fun e => nomatch e))]; exact hb⟩
  · exact .inr hb
theorem Tk.ext {a : Addr} {φ : Heap → Prop} {o : HO} (h : H a = some (.ext φ)) : Tk K H (upd H a o) := fun b ys hb => by
  rcases hb with hb | hb
  · left
    rcases hb with hb | ⟨u, hb⟩
    · exact .inl (by rw [upd_ne (ne_of hb h (fun e => nomatch e))]; exact hb)
    · exact .inr ⟨u, by rw [upd_ne (ne_of hb h (fun e => nomatch e))]; exact hb⟩
  · exact .inr hb
mutual
theorem Im.tk (t : Tk K H H') : ∀ {d : PyData} {v : V}, Im K H v d → Im K H' v d
  | .none, _, h => by cases h; exact .non
  | .bool b, _, h => by cases h; exact .bl _
  | .int i, _, h => by cases h; exact .int _
  | .str x, _, h => by cases h; exact .str _
  | .tuple ds, _, h => by
    cases h with
    | tup h1 h2 => exact .tup (t _ _ h1) (ImAll.tk t h2)
  | .list _, _, h => by cases h
  | .dict _, _, h => by cases h
theorem ImAll.tk (t : Tk K H H') : ∀ {ds : List PyData} {vs : List V}, ImAll K H vs ds → ImAll K H' vs ds
  | [], _, h => by cases h; exact .nil
  | d :: ds, _, h => by
    cases h with
    | cons h1 h2 => exact .cons (Im.tk t h1) (ImAll.tk t h2)
end
theorem Im.ex (e : Ex H H') {d : PyData} {v : V} (h : Im K H v d) : Im K H' v d := h.tk (.ex e)
theorem ImAll.ex (e : Ex H H') {ds : List PyData} {vs : List V} (h : ImAll K H vs ds) : ImAll K H' vs ds := h.tk (.ex e)
theorem ImAll.length : ∀ {ds : List PyData} {vs : List V}, ImAll K H vs ds → vs.length = ds.length
  | [], _, h => by cases h; rfl
  | d :: ds, _, h => by
    cases h with
    | cons h1 h2 => rw [List.length_cons, List.length_cons, h2.length]
theorem ImAll.get : ∀ {ds : List PyData} {vs : List V} {i : Nat} {v : V}, ImAll K H vs ds → vs[i]? = some v → ∃ d, ds[i]? = some d ∧ Im K H v d
  | [], _, _, _, h, e => by cases h; simp at e
  | d :: ds, _, 0, _, h, e => by
    cases h with
    | cons h1 h2 => simp at e; subst e; exact ⟨_, rfl, h1⟩
  | d :: ds, _, i + 1, _, h, e => by
    cases h with
    | cons h1 h2 => simp at e; obtain ⟨d', q, r⟩ := ImAll.get h2 e; exact ⟨d', by simpa using q, r⟩
theorem ImAll.at : ∀ {ds : List PyData} {vs : List V} {i : Nat} {d : PyData}, ImAll K H vs ds → ds[i]? = some d → ∃ v, vs[i]? = some v ∧ Im K H v d
  | [], _, _, _, h, e => by simp at e
  | _ :: ds, _, 0, _, h, e => by
    cases h with
    | cons h1 h2 => simp at e; subst e; exact ⟨_, rfl, h1⟩
  | _ :: ds, _, i + 1, _, h, e => by
    cases h with
    | cons h1 h2 => simp at e; obtain ⟨d', q, r⟩ := ImAll.at h2 e; exact ⟨d', by simpa using q, r⟩
theorem ImAll.append : ∀ {ds es : List PyData} {vs us : List V}, ImAll K H vs ds → ImAll K H us es → ImAll K H (vs ++ us) (ds ++ es)
  | [], _, _, _, h, h' => by cases h; exact h'
  | d :: ds, _, _, _, h, h' => by
    cases h with
    | cons h1 h2 => exact .cons h1 (ImAll.append h2 h')
theorem ImAll.take : ∀ {ds : List PyData} {vs : List V} (n : Nat), ImAll K H vs ds → ImAll K H (vs.take n) (ds.take n)
  | _, _, 0, _ => .nil
  | [], _, n + 1, h => by cases h; exact .nil
  | d :: ds, _, n + 1, h => by
    cases h with
    | cons h1 h2 => exact .cons h1 (ImAll.take n h2)
theorem ImAll.drop : ∀ {ds : List PyData} {vs : List V} (n : Nat), ImAll K H vs ds → ImAll K H (vs.drop n) (ds.drop n)
  | _, _, 0, h => h
  | [], _, n + 1, h => by cases h; exact .nil
  | d :: ds, _, n + 1, h => by
    cases h with
    | cons h1 h2 => exact ImAll.drop n h2
theorem ImAll.reverse : ∀ {ds : List PyData} {vs : List V}, ImAll K H vs ds → ImAll K H vs.reverse ds.reverse
  | [], _, h => by cases h; exact .nil
  | d :: ds, _, h => by
    cases h with
    | cons h1 h2 => rw [List.reverse_cons, List.reverse_cons]; exact (ImAll.reverse h2).append (.cons h1 .nil)
section
variable {α : Type} [Ec α]
/-- v is x -/
abbrev Is (K : PySem.W.Frag) (H : Hp) (v : V) (x : α) : Prop := Im K H v (Ec.enc x)
/-- the values vs are the xs -/
abbrev IsAll (K : PySem.W.Frag) (H : Hp) (vs : List V) (xs : List α) : Prop := ImAll K H vs (xs.map Ec.enc)
theorem IsAll.len {vs : List V} {xs : List α} (h : IsAll K H vs xs) : vs.length = xs.length := by
  have q := ImAll.length h
  rw [List.length_map] at q; exact q
theorem IsAll.val {vs : List V} {xs : List α} {i : Nat} {v : V} (h : IsAll K H vs xs) (e : vs[i]? = some v) : ∃ x, xs[i]? = some x ∧ Is K H v x := by
  obtain ⟨d, q, r⟩ := ImAll.get h e
  rw [List.getElem?_map] at q
  obtain ⟨x, hx, rfl⟩ := Option.map_eq_some_iff.mp q
  exact ⟨x, hx, r⟩
theorem IsAll.item {vs : List V} {xs : List α} {i : Nat} {x : α} (h : IsAll K H vs xs) (e : xs[i]? = some x) : ∃ v, vs[i]? = some v ∧ Is K H v x :=
  ImAll.at h (by rw [List.getElem?_map, e]; rfl)
theorem IsAll.snoc {vs : List V} {xs : List α} {v : V} {x : α} (h : IsAll K H vs xs) (h2 : Is K H v x) : IsAll K H (vs ++ [v]) (xs ++ [x]) := by
  show ImAll K H _ ((xs ++ [x]).map Ec.enc)
  rw [List.map_append]
  exact ImAll.append h (.cons h2 .nil)
theorem IsAll.app {vs us : List V} {xs ys : List α} (h : IsAll K H vs xs) (h2 : IsAll K H us ys) : IsAll K H (vs ++ us) (xs ++ ys) := by
  show ImAll K H _ ((xs ++ ys).map Ec.enc)
  rw [List.map_append]
  exact ImAll.append h h2
theorem Is.list {v : V} {xs : List α} (h : Is K H v xs) : ∃ a vs, v = .ref a ∧ SqT K H a vs ∧ IsAll K H vs xs := by
  cases h with
  | tup h1 h2 => exact ⟨_, _, rfl, h1, h2⟩
theorem Is.mk {a : Addr} {vs : List V} {xs : List α} (h : SqT K H a vs) (h2 : IsAll K H vs xs) : Is K H (.ref a) xs := .tup h h2
theorem Is.text {v : V} {x : Str} (h : Is K H v x) : v = .str x := by cases h; rfl
theorem Is.nat {v : V} {n : Nat} (h : Is K H v n) : v = .int n := by cases h; rfl
theorem Is.pair {β : Type} [Ec β] {v : V} {p : α × β} (h : Is K H v p) : ∃ a u w, v = .ref a ∧ SqT K H a [u, w] ∧ Is K H u p.1 ∧ Is K H w p.2 := by
  cases h with
  | tup h1 h2 =>
    cases h2 with
    | cons a b =>
      cases b with
      | cons c d =>
        cases d
        exact ⟨_, _, _, rfl, h1, a, c⟩
theorem Is.mkPair {β : Type} [Ec β] {a : Addr} {u w : V} {x : α} {y : β} (h : SqT K H a [u, w]) (h1 : Is K H u x) (h2 : Is K H w y) : Is K H (.ref a) (x, y) := .tup h (.cons h1 (.cons h2 .nil))
end
end

/-! ### sorted(set(xs)), sorted(xs) -/
section
variable {X : Cx} {pins : List (Addr × Obj)} {σ : L2.St} {H : Hp} {s : Shared} {α : Type} [En α]
/-- values, as the walk knows them -/
def Rk (K : PySem.W.Frag) (H : Hp) (v : Value) (x : α) : Prop := ∃ u, RelV u v ∧ Is K H u x
theorem rk_all (I : L2.Inv X pins σ H s) : ∀ {xs : List α} {vs : List V} {us : List Value}, IsAll X.K H vs xs → Vals vs us → EachIs (Rz (Rk X.K H) s.heap) us xs
  | [], _, _, h, r => by cases h; cases r; exact .nil
  | x :: xs, _, _, h, r => by
    cases h with
    | cons h1 h2 =>
      cases r with
      | cons r1 r2 => exact .cons ⟨⟨_, r1, h1⟩, Dp.reads I _ _ _ h1.dp r1⟩ (rk_all I h2 r2)
theorem rk_back {K : PySem.W.Frag} {h : Heap} : ∀ {xs : List α} {us : List Value}, EachIs (Rz (Rk K H) h) us xs → ∃ vs, Vals vs us ∧ IsAll K H vs xs
  | _, _, .nil => ⟨[], .nil, .nil⟩
  | _, _, .cons ⟨⟨u, r, i⟩, _⟩ t => by
    obtain ⟨vs, a, b⟩ := rk_back t
    exact ⟨u :: vs, .cons r a, .cons i b⟩
/-- xs: a list or a tuple of values -/
def SqE (K : PySem.W.Frag) (H : Hp) (a : Addr) (vs : List V) : Prop := H a = some (.lst vs) ∨ SqT K H a vs
theorem sqe_or {K : PySem.W.Frag} {H : Hp} {a : Addr} {vs : List V} (h : SqE K H a vs) : SqL K H a vs ∨ SqT K H a vs := h.imp sq_of id
theorem sqe_at (I : L2.Inv X pins σ H s) {a : Addr} {vs : List V} (h : SqE X.K H a vs) : ∃ its : List Value, Vals vs its ∧ (s.heap.IsList a its.toArray ∨ s.heap.IsTuple a its.toArray) := by
  rcases h with h | h
  · obtain ⟨its, rv, pl, _⟩ := I.list (sq_of h)
    exact ⟨its, rv, .inl pl.isList⟩
  · obtain ⟨its, rv, pl, _⟩ := I.tuple h
    exact ⟨its, rv, .inr pl⟩
theorem new_list (I : L2.Inv X pins σ H s) {s' : Shared} {p : Addr} {out : Array Value} {c : Nat} {xs : List α} (k : ∀ b o, s.heap.get? b = some o → s'.heap.get? b = some o) (g : s'.gens = s.gens) (o : s'.os = s.os) (hp : s.heap.get? p = none)
    (hg : s'.heap.get? p = some (seqObj "list" out c)) (hl : xs.length ≤ 100000) (e : EachIs (Rz (Rk X.K H) s'.heap) out.toList xs) :
    ∃ vs, H p = none ∧ IsAll X.K H vs xs ∧ L2.Inv X pins σ (upd H p (.lst vs)) s' := by
  obtain ⟨vs, rv, iv⟩ := rk_back e
  have hn : H p = none := I.hok.gone hp
  have hlen : vs.length ≤ sizeLine := by rw [iv.len]; exact Nat.le_trans hl (by decide)
  refine ⟨vs, hn, iv, ?_⟩
  have J : L2.Inv X pins σ (upd H p (.lst vs)) { s with heap := s'.heap, gens := s'.gens, drawn := s'.drawn, toks := s'.toks } :=
    I.call (ch := []) (Un.laidN k hp hn) (I.hok.laidN k hn ⟨hlen, out.toList, c, rv, by simpa using hg⟩) (by rw [g]; exact I.bare) (fun _ z => nomatch z)
  have e : s' = { s with heap := s'.heap, gens := s'.gens, drawn := s'.drawn, toks := s'.toks } := by
    cases s'
    cases s
    cases o
    rfl
  rw [e]
  exact J
def rSrt (K : PySem.W.Frag) : List V → Hp → VK → Prop := fun vs H Q => ∃ (α : Type) (_ : En α) (a : Addr) (us : List V) (xs : List α), vs = [.ref a] ∧ SqL K H a us ∧ IsAll K H us xs ∧ SortOk (xs.map Ec.enc) ∧ xs.length ≤ 100000 ∧ En.dp α ≤ 8 ∧
  ∀ p us', H p = none → IsAll K H us' (xs.mergeSort (leE α)) → Q (.ref p) (upd H p (.lst us'))
theorem cr_srt (hu : X.A.units + 64 < cLine) : CallR X (.builtin "sorted") (rSrt X.K) := by
  intro pins s σ H vs us Q I r h
  obtain ⟨α, _, a, us', xs, rfl, hs, hi, hk, hl, hd, q⟩ := h
  rw [Vals.ref1 r]
  obtain ⟨its, rv, pl, _⟩ := I.list hs
  refine sorted_list pl.isList (rk_all I hi (by simpa using rv)) hk hl (by omega) fun s' p out c k g o hp hg e => ?_
  obtain ⟨vs, hn, iv, J⟩ := new_list I k g o hp hg (by rw [List.length_mergeSort]; exact hl) e
  exact ⟨.ref p, _, J, rfl, q p vs hn iv⟩
/-- what set() can hold -/
inductive SetKd (α : Type) [En α] : Prop where
  | tups : (∀ x : α, ∃ ds, Ec.enc x = .tuple ds) → SetKd α
def tSS (K : PySem.W.Frag) (te : TE) : TE := fun σ H Q => te σ H fun x H1 => ∃ (α : Type) (_ : En α) (_ : DecidableEq α) (a : Addr) (vs : List V) (xs : List α), x = .ref a ∧ SqE K H1 a vs ∧ IsAll K H1 vs xs ∧ (∀ x : α, ∃ ds, Ec.enc x = .tuple ds) ∧ En.dp α ≤ 8 ∧ xs.length < 4096 ∧
  (∀ ys : List α, ys.Nodup → (∀ y, y ∈ ys ↔ y ∈ xs) → SortOk (ys.map Ec.enc)) ∧
  ∀ p us, H1 p = none → IsAll K H1 us (Mo.canon (leE α) xs) → Q (.ref p) (upd H1 p (.lst us))
def tSSt (K : PySem.W.Frag) (te : TE) : TE := fun σ H Q => te σ H fun x H1 => ∃ (a : Addr) (vs : List V) (xs : List Str), x = .ref a ∧ SqE K H1 a vs ∧ IsAll K H1 vs xs ∧ xs.length < 4096 ∧
  ∀ p us, H1 p = none → IsAll K H1 us (Mo.canon (leE Str) xs) → Q (.ref p) (upd H1 p (.lst us))
theorem ss_end [DecidableEq α] {Q : VK} {xs : List α} (I : L2.Inv X pins σ H s) {h' : Heap} {tk : Nat} (R : EndSet X.w (Rk X.K H) h' s.heap.objs.size xs) (k : ∀ b o, s.heap.get? b = some o → h'.get? b = some o)
    (hc : X.calm = true) (hd : En.dp α ≤ 8) (hl : xs.length < 4096) (hu : X.A.units + 64 < cLine) (hk : ∀ ys : List α, ys.Nodup → (∀ y, y ∈ ys ↔ y ∈ xs) → SortOk (ys.map Ec.enc))
    (q : ∀ p us, H p = none → IsAll X.K H us (Mo.canon (leE α) xs) → Q (.ref p) (upd H p (.lst us))) :
    wpAny (model X.prog X.w) X.A (call (.builtin "sorted") [.ref s.heap.objs.size]) (EP X pins σ Q) X.xe { s with heap := h', toks := tk } := by
  have I2 : L2.Inv X pins σ H { s with heap := h', toks := tk } := I.kept k
  refine sorted_endset (s := { s with heap := h', toks := tk }) R (I.ok.hd hc) hk (by omega) (by omega) fun s' p out c k2 g o hp hg e => ?_
  have hcl : (Mo.canon (leE α) xs).length ≤ 100000 := Nat.le_trans (Mo.canon_len (ordE α) xs) (by omega)
  obtain ⟨vs, hn, iv, J⟩ := new_list I2 k2 g o hp hg hcl e
  exact ⟨.ref p, _, J, rfl, q p vs hn iv⟩
theorem pe_ss {a : Expr} {ta : TE} {p p2 q pos : Pos} (hc : X.calm = true) (hu : X.A.units + 64 < cLine) (hg : Gl X "sorted") (hm : X.mg "sorted" = none) (hg2 : Gl X "set") (hm2 : X.mg "set" = none) (ha : PE X a ta)
    (na : starEach [a] X.env = (false, eval a X.env) :: starEach [] X.env := by rfl) : PE X (.Call (.Name "sorted" p) [.Call (.Name "set" p2) [a] [] q] [] pos) (tSS X.K ta) := by
  refine ⟨fun pins s σ H Q I h => ?_⟩
  refine Call_ (ld_blt I hg hm PyProof.Rows.boot_sorted ?_)
  refine PyProof.Rows.callWith_builtin1 (PyProof.Rows.args_cons ?_ rfl) rfl rfl
  refine Call_ (ld_blt I hg2 hm2 PyProof.Rows.boot_set ?_)
  refine PyProof.Rows.callWith_type1 (PyProof.Rows.args_cons (thn (ha.run pins s σ H _ I h) fun v s1 ⟨x, H1, I1, r1, q1⟩ => PyProof.Rows.args_nil ?_) na) na rfl
  obtain ⟨α, _, _, a, vs, xs, rfl, hs, hi, hT, hd, hl, hk, q1⟩ := q1
  cases r1
  obtain ⟨its, rv, pl⟩ := sqe_at I1 hs
  refine call_set_tups hT hd (I1.ok.hd hc) pl (rk_all I1 hi (by simpa using rv)) hl (by omega) fun h' tk R k => ?_
  refine PyProof.Rows.args_nil ?_
  exact ss_end I1 R k hc hd hl hu hk q1
theorem pe_sst {a : Expr} {ta : TE} {p p2 q pos : Pos} (hc : X.calm = true) (hu : X.A.units + 64 < cLine) (hg : Gl X "sorted") (hm : X.mg "sorted" = none) (hg2 : Gl X "set") (hm2 : X.mg "set" = none) (ha : PE X a ta)
    (na : starEach [a] X.env = (false, eval a X.env) :: starEach [] X.env := by rfl) : PE X (.Call (.Name "sorted" p) [.Call (.Name "set" p2) [a] [] q] [] pos) (tSSt X.K ta) := by
  refine ⟨fun pins s σ H Q I h => ?_⟩
  refine Call_ (ld_blt I hg hm PyProof.Rows.boot_sorted ?_)
  refine PyProof.Rows.callWith_builtin1 (PyProof.Rows.args_cons ?_ rfl) rfl rfl
  refine Call_ (ld_blt I hg2 hm2 PyProof.Rows.boot_set ?_)
  refine PyProof.Rows.callWith_type1 (PyProof.Rows.args_cons (thn (ha.run pins s σ H _ I h) fun v s1 ⟨x, H1, I1, r1, q1⟩ => PyProof.Rows.args_nil ?_) na) na rfl
  obtain ⟨a, vs, xs, rfl, hs, hi, hl, q1⟩ := q1
  cases r1
  obtain ⟨its, rv, pl⟩ := sqe_at I1 hs
  refine call_set_texts (fun k tk => ⟨.str k, ⟨tk, rfl⟩, .str k⟩) (I1.ok.hd hc) pl (rk_all I1 hi (by simpa using rv)) hl fun h' tk R k => ?_
  refine PyProof.Rows.args_nil ?_
  exact ss_end I1 R k hc (by decide) hl hu (fun ys _ _ => ok_texts ys) q1
end
end MoR
set_option maxHeartbeats 4000000
/-! ==, != and in of alike data; t[::-1] -/
namespace MoR
open PySem PySem.Spec PyProof.Rows L2 PySem.W Evl PySem.SeqAt
section
variable {A : Around} {s : Shared}
theorem rcAt_alike {da db : PyData} {a b : Value} {as bs : List Addr} (ra : Reads s.heap a da as) (rb : Reads s.heap b db bs) (h : alike da db = true) (hu : A.units + min da.depth db.depth < cLine) : RcAt A s a b (PyData.eqv da db) := by
  cases ra with
  | none =>
    cases rb with
    | none => exact RcAt.none_none
    | _ => simp [alike] at h
  | bool x =>
    cases rb with
    | bool y => exact RcAt.bool_bool x y
    | _ => simp [alike] at h
  | int x t =>
    cases rb with
    | int y u => exact RcAt.int_int x t y u
    | _ => simp [alike] at h
  | str x t =>
    cases rb with
    | str y u => exact RcAt.str_str x t y u
    | _ => simp [alike] at h
  | @list l o vs n xs as₁ h1 h2 h3 h4 =>
    have hl : s.heap.IsList l vs := ⟨_, h1, h2, _, h3⟩
    cases rb with
    | @list l' o' vs' n' ys bs₁ k1 k2 k3 k4 =>
      have hl' : s.heap.IsList l' vs' := ⟨_, k1, k2, _, k3⟩
      have n1 : vs.size = xs.length := by simpa using ReadsAll.length _ _ _ h4
      have n2 : vs'.size = ys.length := by simpa using ReadsAll.length _ _ _ k4
      have hal : alikeAll xs ys = true := by simpa [alike] using h
      have he : ∀ j (j1 : j < vs.size) (j2 : j < vs'.size), EqAt A.in1 s vs[j] vs'[j] (pairEq xs ys j) := fun j j1 j2 => by
        have := eqAt_alikeAll xs ys A.in1 s vs.toList vs'.toList _ _ h4 k4 hal (room_in hu) j (by simpa using j1) (by simpa using j2)
        simpa using this
      show RcAt A s (.ref l) (.ref l') (PyData.eqvAll xs ys)
      by_cases hsz : vs.size = vs'.size
      · rw [← eqvAll_same_length (by omega : xs.length = ys.length), ← n1]
        exact RcAt.lists hl hl' hsz (room_here hu) he
      · rw [eqvAll_other_length (by omega : xs.length ≠ ys.length)]
        exact RcAt.lists_lengths hl hl' (by simpa using hsz) (room_here hu)
    | _ => simp [alike] at h
  | @tuple l o vs n xs as₁ h1 h2 h3 h4 =>
    have hl : s.heap.IsTuple l vs := ⟨_, h1, h2, _, h3⟩
    cases rb with
    | @tuple l' o' vs' n' ys bs₁ k1 k2 k3 k4 =>
      have hl' : s.heap.IsTuple l' vs' := ⟨_, k1, k2, _, k3⟩
      have n1 : vs.size = xs.length := by simpa using ReadsAll.length _ _ _ h4
      have n2 : vs'.size = ys.length := by simpa using ReadsAll.length _ _ _ k4
      have hal : alikeAll xs ys = true := by simpa [alike] using h
      have he : ∀ j (j1 : j < vs.size) (j2 : j < vs'.size), EqAt A.in1 s vs[j] vs'[j] (pairEq xs ys j) := fun j j1 j2 => by
        have := eqAt_alikeAll xs ys A.in1 s vs.toList vs'.toList _ _ h4 k4 hal (room_in hu) j (by simpa using j1) (by simpa using j2)
        simpa using this
      show RcAt A s (.ref l) (.ref l') (PyData.eqvAll xs ys)
      rw [← eqvAll_eq xs ys, ← n1, ← n2]
      exact RcAt.tuples hl hl' (room_here hu) he
    | _ => simp [alike] at h
  | dict => exact absurd h (by cases db <;> simp [alike])
theorem rcNeAt_alike {da db : PyData} {a b : Value} {as bs : List Addr} (ra : Reads s.heap a da as) (rb : Reads s.heap b db bs) (h : alike da db = true) (hu : A.units + min da.depth db.depth < cLine) : RcNeAt A s a b (!PyData.eqv da db) := by
  cases ra with
  | none =>
    cases rb with
    | none => exact RcNeAt.none_none
    | _ => simp [alike] at h
  | bool x =>
    cases rb with
    | bool y => exact RcNeAt.bool_bool x y
    | _ => simp [alike] at h
  | int x t =>
    cases rb with
    | int y u => exact RcNeAt.int_int x t y u
    | _ => simp [alike] at h
  | str x t =>
    cases rb with
    | str y u => exact RcNeAt.str_str x t y u
    | _ => simp [alike] at h
  | @list l o vs n xs as₁ h1 h2 h3 h4 =>
    have hl : s.heap.IsList l vs := ⟨_, h1, h2, _, h3⟩
    cases rb with
    | @list l' o' vs' n' ys bs₁ k1 k2 k3 k4 =>
      have hl' : s.heap.IsList l' vs' := ⟨_, k1, k2, _, k3⟩
      have n1 : vs.size = xs.length := by simpa using ReadsAll.length _ _ _ h4
      have n2 : vs'.size = ys.length := by simpa using ReadsAll.length _ _ _ k4
      have hal : alikeAll xs ys = true := by simpa [alike] using h
      have he : ∀ j (j1 : j < vs.size) (j2 : j < vs'.size), EqAt A.in1 s vs[j] vs'[j] (pairEq xs ys j) := fun j j1 j2 => by
        have := eqAt_alikeAll xs ys A.in1 s vs.toList vs'.toList _ _ h4 k4 hal (room_in hu) j (by simpa using j1) (by simpa using j2)
        simpa using this
      show RcNeAt A s (.ref l) (.ref l') (!PyData.eqvAll xs ys)
      by_cases hsz : vs.size = vs'.size
      · rw [← eqvAll_same_length (by omega : xs.length = ys.length), ← n1]
        exact RcNeAt.lists hl hl' hsz (room_here hu) he
      · rw [eqvAll_other_length (by omega : xs.length ≠ ys.length)]
        exact RcNeAt.lists_lengths hl hl' (by simpa using hsz) (room_here hu)
    | _ => simp [alike] at h
  | @tuple l o vs n xs as₁ h1 h2 h3 h4 =>
    have hl : s.heap.IsTuple l vs := ⟨_, h1, h2, _, h3⟩
    cases rb with
    | @tuple l' o' vs' n' ys bs₁ k1 k2 k3 k4 =>
      have hl' : s.heap.IsTuple l' vs' := ⟨_, k1, k2, _, k3⟩
      have n1 : vs.size = xs.length := by simpa using ReadsAll.length _ _ _ h4
      have n2 : vs'.size = ys.length := by simpa using ReadsAll.length _ _ _ k4
      have hal : alikeAll xs ys = true := by simpa [alike] using h
      have he : ∀ j (j1 : j < vs.size) (j2 : j < vs'.size), EqAt A.in1 s vs[j] vs'[j] (pairEq xs ys j) := fun j j1 j2 => by
        have := eqAt_alikeAll xs ys A.in1 s vs.toList vs'.toList _ _ h4 k4 hal (room_in hu) j (by simpa using j1) (by simpa using j2)
        simpa using this
      show RcNeAt A s (.ref l) (.ref l') (!PyData.eqvAll xs ys)
      rw [← eqvAll_eq xs ys, ← n1, ← n2]
      exact RcNeAt.tuples hl hl' (room_here hu) he
    | _ => simp [alike] at h
  | dict => exact absurd h (by cases db <;> simp [alike])
end
section
variable {X : Cx}
def rEqG (K : PySem.W.Frag) : R2 := fun x y H Q => ∃ d e, Dp K H x d ∧ Dp K H y e ∧ alike d e = true ∧ d.depth ≤ 16 ∧ Q (.bl (PyData.eqv d e)) H
def rNeG (K : PySem.W.Frag) : R2 := fun x y H Q => ∃ d e, Dp K H x d ∧ Dp K H y e ∧ alike d e = true ∧ d.depth ≤ 16 ∧ Q (.bl (!PyData.eqv d e)) H
theorem op_eqG (hu : X.A.units + 64 < cLine) : OpR X (compareOp .Eq) (rEqG X.K) := by
  intro pins s σ H x y v u Q I rx ry h
  obtain ⟨d, e, hd, he, ha, hp, q⟩ := h
  obtain ⟨as, r1⟩ := Dp.reads I d x v hd rx
  obtain ⟨bs, r2⟩ := Dp.reads I e y u he ry
  exact rcAt_alike r1 r2 ha (by have := Nat.min_le_left d.depth e.depth; omega) _ _ _ _ ⟨.bl _, H, I, rfl, q⟩
theorem op_neG (hu : X.A.units + 64 < cLine) : OpR X (compareOp .NotEq) (rNeG X.K) := by
  intro pins s σ H x y v u Q I rx ry h
  obtain ⟨d, e, hd, he, ha, hp, q⟩ := h
  obtain ⟨as, r1⟩ := Dp.reads I d x v hd rx
  obtain ⟨bs, r2⟩ := Dp.reads I e y u he ry
  exact rcNeAt_alike r1 r2 ha (by have := Nat.min_le_left d.depth e.depth; omega) _ _ _ _ ⟨.bl _, H, I, rfl, q⟩
/-- x in t, t a list or tuple of typed data -/
def rInG (K : PySem.W.Frag) : R2 := fun x y H Q => ∃ (α : Type) (_ : En α) (_ : DecidableEq α) (d : α) (a : Addr) (vs : List V) (xs : List α), Is K H x d ∧ y = .ref a ∧ SqE K H a vs ∧ IsAll K H vs xs ∧ En.dp α ≤ 16 ∧ Q (.bl (decide (d ∈ xs))) H
def rNotInG (K : PySem.W.Frag) : R2 := fun x y H Q => ∃ (α : Type) (_ : En α) (_ : DecidableEq α) (d : α) (a : Addr) (vs : List V) (xs : List α), Is K H x d ∧ y = .ref a ∧ SqE K H a vs ∧ IsAll K H vs xs ∧ En.dp α ≤ 16 ∧ Q (.bl (!decide (d ∈ xs))) H
open Classical in
noncomputable def isB {α : Type} [En α] (h : Heap) (d : α) (y : Value) : Bool := decide (∃ as, Reads h y (Ec.enc d) as)
open Classical in
theorem isB_at {α : Type} [En α] [DecidableEq α] {Rl : Value → α → Prop} {s : Shared} {y : Value} {x d : α} (r : Rz Rl s.heap y x) : isB s.heap d y = decide (x = d) := by
  obtain ⟨_, as, r⟩ := r
  unfold isB
  by_cases e : x = d
  · subst e
    exact (decide_eq_true ⟨as, r⟩).trans (decide_eq_true rfl).symm
  · rw [decide_eq_false e]
    refine decide_eq_false fun ⟨bs, r2⟩ => e ?_
    exact enc_inj (alike_unique _ _ _ _ _ (En.al x d) r r2)
theorem isB_any {α : Type} [En α] [DecidableEq α] {Rl : Value → α → Prop} {s : Shared} {d : α} : ∀ {us : List Value} {xs : List α}, EachIs (Rz Rl s.heap) us xs → us.any (isB s.heap d) = decide (d ∈ xs)
  | _, _, .nil => by simp
  | _, _, @EachIs.cons _ _ _ u x us xs h t => by
    rw [List.any_cons, isB_at (d := d) h, isB_any t]
    by_cases e : x = d
    · subst e; simp
    · have : ¬ d = x := fun z => e z.symm
      simp [e, this]
theorem in_core {pins : List (Addr × Obj)} {σ : L2.St} {H : Hp} {s : Shared} {α : Type} [En α] [DecidableEq α] {x : V} {v : Value} {d : α} {a : Addr} {vs : List V} {xs : List α} (I : L2.Inv X pins σ H s) (hx : Is X.K H x d) (rx : RelV x v) (hs : SqE X.K H a vs) (hi : IsAll X.K H vs xs) (hd : En.dp α ≤ 16) (hu : X.A.units + 64 < cLine) :
    ∃ its : List Value, (s.heap.IsList a its.toArray ∨ s.heap.IsTuple a its.toArray) ∧ (∀ y, y ∈ its.toArray → EqAt X.A.in1 s y v (isB s.heap d y)) ∧ its.toArray.any (isB s.heap d) = decide (d ∈ xs) := by
  obtain ⟨its, rv, pl⟩ := sqe_at I hs
  have er := rk_all I hi (by simpa using rv)
  obtain ⟨bs, r2⟩ := Dp.reads I _ x v hx.dp rx
  refine ⟨its, pl, fun y hy => ?_, by rw [← Array.any_toList]; exact isB_any er⟩
  obtain ⟨z, hz, r⟩ := er.left y (by simpa using hy)
  rw [isB_at (d := d) r]
  obtain ⟨_, as, r1⟩ := r
  have q := eqAt_alike _ _ X.A.in1 s y v as bs r1 r2 (En.al z d) (by
    have h1 := En.dpt z
    have h2 := Nat.min_le_left (Ec.enc z).depth (Ec.enc d).depth
    simp only [Around.in1_units]; omega)
  rw [enc_eqv] at q
  exact q
theorem op_inG (hu : X.A.units + 64 < cLine) : OpR X (compareOp .In) (rInG X.K) := by
  intro pins s σ H x y v u Q I rx ry h
  obtain ⟨α, _, _, d, a, vs, xs, hx, rfl, hs, hi, hd, q⟩ := h
  cases ry
  obtain ⟨its, pl, he, ha⟩ := in_core I hx rx hs hi hd hu
  rcases pl with pl | pl
  · exact in_listAt _ pl he (by rw [ha]; exact ⟨.bl _, H, I, rfl, q⟩)
  · exact in_tupleAt _ pl he (by rw [ha]; exact ⟨.bl _, H, I, rfl, q⟩)
theorem op_notInG (hu : X.A.units + 64 < cLine) : OpR X (compareOp .NotIn) (rNotInG X.K) := by
  intro pins s σ H x y v u Q I rx ry h
  obtain ⟨α, _, _, d, a, vs, xs, hx, rfl, hs, hi, hd, q⟩ := h
  cases ry
  obtain ⟨its, pl, he, ha⟩ := in_core I hx rx hs hi hd hu
  rcases pl with pl | pl
  · exact notIn_listAt _ pl he (by rw [ha]; exact ⟨.bl _, H, I, rfl, q⟩)
  · exact notIn_tupleAt _ pl he (by rw [ha]; exact ⟨.bl _, H, I, rfl, q⟩)
end

/-! ### t[::-1] -/
section
variable {prog : Program} {w : World} {A : Around} {E : Value → Shared → Prop} {s : Shared}
theorem back_adjust (n : Nat) : Builtin.Slice.sliceAdjust none none (-1) (n : Int) = ((n : Int) - 1, -1) := by
  unfold Builtin.Slice.sliceAdjust
  simp
theorem back_places (n : Nat) : Builtin.Slice.slicePlaces ((n : Int) - 1) (-1) (-1) = n := by
  unfold Builtin.Slice.slicePlaces
  have h1 : ¬ ((-1 : Int) > 0) := by decide
  simp only [h1, if_false]
  rw [show (- -1 : Int) = 1 by decide, Int.ediv_one]
  split <;> omega
theorem fm_congr {α β : Type} {f g : α → Option β} : ∀ {l : List α}, (∀ k ∈ l, f k = g k) → l.filterMap f = l.filterMap g
  | [], _ => rfl
  | x :: l, h => by
    rw [List.filterMap_cons, List.filterMap_cons, h x List.mem_cons_self, fm_congr fun k hk => h k (List.mem_cons_of_mem _ hk)]
theorem back_pick (xs : Array Value) : ((List.range xs.size).filterMap fun (k : Nat) => xs[((xs.size : Int) - 1 + (k : Int) * (-1)).toNat]?).toArray = xs.toList.reverse.toArray := by
  have e : ((List.range xs.size).filterMap fun (k : Nat) => xs[((xs.size : Int) - 1 + (k : Int) * (-1)).toNat]?) = ((List.range xs.size).map (fun k => xs.size - 1 - k)).filterMap (xs[·]?) := by
    rw [List.filterMap_map]
    refine fm_congr fun k hk => ?_
    have := List.mem_range.mp hk
    show xs[((xs.size : Int) - 1 + (k : Int) * (-1)).toNat]? = xs[xs.size - 1 - k]?
    have e2 : ((xs.size : Int) - 1 + (k : Int) * (-1)).toNat = xs.size - 1 - k := by omega
    rw [e2]
  rw [e, krv_range, List.filterMap_reverse, krv_all]
theorem getItem_tuple_back {t sl : Addr} {items : Array Value} {vs : Value} {Q : Value → Shared → Prop} (ht : IsTup s.heap t items) (hs : s.heap.IsSliceOf sl .none .none vs) (ps : IsPart vs (some (-1)))
    (h : Q (.ref s.heap.objs.size) { s with heap := s.heap.push { cls := .type "tuple", data := .seq items.toList.reverse.toArray } }) (hsz : items.size ≤ sizeLine) : wpAny (model prog w) A (getItem (.ref t) (.ref sl)) Q E s := by
  have htake : sizeOk (.seq items.toList.reverse.toArray) := by
    show items.toList.reverse.toArray.size ≤ sizeLine
    rw [List.size_toArray, List.length_reverse, Array.length_toList]
    exact hsz
  obtain ⟨os, hos, hcs, hds⟩ := id hs
  have hTs : s.TypeIs (.ref sl) "slice" := ⟨os, hos, hcs⟩
  unfold getItem
  try with_reducible refine wpAny_holding ?_
  first | refine wpAny_bind (wpAny_pure ?_) | skip
  refine wpAny_bind (wpAny_sequenceKey ht.typeIs (by decide) ?_)
  refine wpAny_bind (wpAny_callSpecial?_slot (name := Str.ofString "__getitem__") ht.typeIs PyProof.Rows.slot_tuple_getitem
    (wpAny_call_entry PyProof.Rows.slot_tuple_getitem ht.typeIs entry_tuple_getitem ?_ (args_tuple_getitem _ _)))
  show wpAny _ _ (Builtin.Tuple.tupleItemsOf (.ref t) >>= _) _ _ s
  refine wpAny_bind (tupleItemsOf_ ht ?_)
  refine wpAny_bind (wpAny_typeOf hTs ?_)
  rw [if_pos (by decide)]
  refine wpAny_bind (m := Builtin.Slice.sliceApplied (.ref sl) (pure (items.size : Int))) (show wpAny _ _ _ _ _ s from ?_)
  unfold Builtin.Slice.sliceApplied Builtin.Slice.sliceFields
  refine wpAny_bind (wpAny_bind (wpAny_field hos hds (x := .none) rfl (wpAny_bind (wpAny_field hos hds (x := .none) rfl (wpAny_bind (wpAny_field hos hds (x := vs) rfl (wpAny_pure ?_)))))))
  refine wpAny_bind (HT.slicePart_ ps ?_)
  show wpAny _ _ (if ((-1 : Int) == 0) = true then _ else _) _ _ s
  rw [if_neg (by decide)]
  refine wpAny_bind (HT.slicePart_ .none (wpAny_bind (HT.slicePart_ .none (wpAny_bind (wpAny_pure ?_)))))
  show wpAny _ _ (match Builtin.Slice.sliceAdjust none none (-1) (items.size : Int) with | (lo, hi) => pure (lo, (-1 : Int), Builtin.Slice.slicePlaces lo hi (-1))) _ _ s
  rw [back_adjust]
  show wpAny _ _ (pure (((items.size : Int) - 1), (-1 : Int), Builtin.Slice.slicePlaces ((items.size : Int) - 1) (-1) (-1))) _ _ s
  rw [back_places]
  refine wpAny_pure ?_
  have hno : ¬ ((((items.size : Int) - 1) == 0 && (-1 : Int) == 1 && items.size == items.size) = true) := by
    intro q
    rw [Bool.and_eq_true, Bool.and_eq_true] at q
    exact absurd (eq_of_beq q.1.2) (by decide)
  show wpAny _ _ (if (((items.size : Int) - 1) == 0 && (-1 : Int) == 1 && items.size == items.size) = true then _ else _) _ _ s
  rw [if_neg hno, back_pick]
  first
    | exact wpAny_bind (m := Builtin.Tuple.tupleExact _) (wpAny_newObj_type (wpAny_pure ⟨_, rfl, wpAny_pure h⟩) htake)
    | exact wpAny_bind (m := Builtin.Tuple.tupleExact _) (wpAny_newObj_type (wpAny_bind (wpAny_pure (wpAny_pure ⟨_, rfl, wpAny_pure h⟩))) htake)
    | exact wpAny_bind (wpAny_bind (m := Builtin.Tuple.tupleExact _) (wpAny_newObj_type (wpAny_pure (wpAny_pure ⟨_, rfl, wpAny_pure h⟩)) htake))
    | exact wpAny_bind (wpAny_bind (m := Builtin.Tuple.tupleExact _) (wpAny_newObj_type (wpAny_pure ⟨_, rfl, wpAny_pure h⟩) htake))
end
def tRevT (K : PySem.W.Frag) (te : TE) : TE := fun σ H Q => te σ H fun x H1 => ∃ a xs, x = .ref a ∧ SqT K H1 a xs ∧ ∀ p, H1 p = none → Q (.ref p) (upd H1 p (.tup xs.reverse))
theorem pe_revT {X : Cx} {e : Expr} {te : TE} {k : Nat} {p1 p2 p3 pos : Pos} (he : PE X e te) : PE X (.Subscript e (.Slice none none (some (.UnaryOp .USub (.Constant (.int 1) k p1) p2)) p3) pos) (tRevT X.K te) := by
  refine ⟨fun pins s σ H Q I h => ?_⟩
  refine Subscript_ (thn (he.run pins s σ H _ I h) fun v s1 ⟨x, H1, I1, r1, q1⟩ => ?_)
  obtain ⟨a, xs, ex, hx, q⟩ := q1
  subst ex
  cases r1
  have hst : PO X (some (.UnaryOp .USub (.Constant (.int 1) k p1) p2)) (tPart (tUn (rU fun i => .int (-i)) (tC (.int 1)))) := po_some (pe_un un_neg pe_int)
  refine wpAny_Slice (thn (po_none.run pins s1 σ H1 (fun o H2 => o = none ∧ H2 = H1) I1 ⟨rfl, rfl⟩) fun vl s2 ⟨l, H2, I2, pl, el, e2⟩ => ?_)
  subst el e2
  refine thn (po_none.run pins s2 σ H2 (fun o H3 => o = none ∧ H3 = H2) I2 ⟨rfl, rfl⟩) fun vu s3 ⟨u, H3, I3, pu, eu, e3⟩ => ?_
  subst eu e3
  refine thn (hst.run pins s3 σ H3 (fun o H4 => o = some (-1) ∧ H4 = H3) I3 ⟨1, rfl, -1, rfl, rfl, rfl⟩) fun vs s4 ⟨o, H4, I4, ps, eo, e4⟩ => ?_
  subst eo e4
  have I5 : L2.Inv X pins σ H4 { s4 with heap := s4.heap.push { cls := .type "slice", data := .fields #[vl, vu, vs] } } := I4.kept (t' := s4.toks) fun b ob q => Heap.get?_push_of_some _ q
  obtain ⟨its, r, ht, hz⟩ := I5.tuple hx
  have hlen := r.length
  cases pl
  cases pu
  show wpAny (model X.prog X.w) X.A (subscriptTail e (.Slice none none (some (.UnaryOp .USub (.Constant (.int 1) k p1) p2)) p3) (.ref a) (.ref s4.heap.objs.size)) (EP X pins σ Q) X.xe { s4 with heap := s4.heap.push { cls := .type "slice", data := .fields #[.none, .none, vs] } }
  refine tail_any (ops := [.ref a, .ref s4.heap.objs.size]) ht.typeIs (PyProof.Rows.slot_tuple_getitem.lookup) ?_ (by with_unfolding_all rfl)
  refine getItem_tuple_back ht (Heap.IsSliceOf.new _ .none .none vs) ps ?_ (by rw [List.size_toArray]; omega)
  refine ⟨.ref _, _, I5.laid (t' := s4.toks) (o := .tup xs.reverse) (fun b ob q => Heap.get?_push_of_some _ q) (Nat.le_refl _) ?_, rfl, q _ (I5.hok.fresh (Nat.le_refl _))⟩
  exact ⟨by rw [List.length_reverse]; exact hz, _, by simpa using r.reverse, IsTup.new _ _⟩
end MoR
set_option maxHeartbeats 4000000
/-! what a reading evaluates to, typed -/
namespace MoR
open PySem PySem.Spec PyProof.Rows L2 PySem.W Evl

abbrev VP := V → Hp → Prop
section
variable {K : PySem.W.Frag} {σ : L2.St} {H H' : Hp}
def EvP (te : TE) (σ : L2.St) (H : Hp) (P : VP) : Prop := ∀ H1, Ex H H1 → ∀ Q : VK, (∀ v H2, Ex H1 H2 → P v H2 → Q v H2) → te σ H1 Q
def isP (K : PySem.W.Frag) {α : Type} [Ec α] (x : α) : VP := fun v H => Is K H v x
/-- a list or a tuple of the xs -/
def sqP (K : PySem.W.Frag) {α : Type} [Ec α] (xs : List α) : VP := fun v H => ∃ a vs, v = .ref a ∧ SqE K H a vs ∧ IsAll K H vs xs
/-- a list of the xs, not there in H0 -/
def nlP (K : PySem.W.Frag) (H0 : Hp) {α : Type} [Ec α] (xs : List α) : VP := fun v H => ∃ a vs, v = .ref a ∧ H0 a = none ∧ H a = some (.lst vs) ∧ IsAll K H vs xs
def MonoP (P : VP) : Prop := ∀ v H H', Ex H H' → P v H → P v H'
theorem sqe_ex {a : Addr} {vs : List V} (e : Ex H H') (h : SqE K H a vs) : SqE K H' a vs := by
  rcases h with h | h
  · exact .inl (e _ _ h)
  · exact .inr (ex_t e h)
theorem mono_is {α : Type} [Ec α] (x : α) : MonoP (isP K x) := fun _ _ _ e h => Im.ex e h
theorem mono_sq {α : Type} [Ec α] (xs : List α) : MonoP (sqP K xs) := fun _ _ _ e ⟨a, vs, h1, h2, h3⟩ => ⟨a, vs, h1, sqe_ex e h2, ImAll.ex e h3⟩
theorem mono_nl {H0 : Hp} {α : Type} [Ec α] (xs : List α) : MonoP (nlP K H0 xs) := fun _ _ _ e ⟨a, vs, h1, h0, h2, h3⟩ => ⟨a, vs, h1, h0, e _ _ h2, ImAll.ex e h3⟩
theorem mono_eq {v0 : V} : MonoP (fun v _ => v = v0) := fun _ _ _ _ h => h
section
variable {α β γ : Type} [Ec α] [Ec β] [Ec γ] {te ta tb tc : TE} {P P' R : VP}
theorem EvP.mono (e : Ex H H') (h : EvP te σ H P) : EvP te σ H' P := fun H1 a Q q => h H1 (e.trans a) Q q
theorem EvP.weak (w : ∀ v H', Ex H H' → P v H' → P' v H') (h : EvP te σ H P) : EvP te σ H P' := fun H1 a Q q => h H1 a Q fun v H2 e p => q v H2 e (w v H2 (a.trans e) p)
theorem sq_of_is {v : V} {xs : List α} (h : isP K xs v H) : sqP K xs v H := by
  obtain ⟨a, vs, h1, h2, h3⟩ := Is.list h
  exact ⟨a, vs, h1, .inr h2, h3⟩
theorem sq_of_nl {H0 : Hp} {v : V} {xs : List α} (h : nlP K H0 xs v H) : sqP K xs v H := by
  obtain ⟨a, vs, h1, h0, h2, h3⟩ := h
  exact ⟨a, vs, h1, .inl h2, h3⟩
theorem EvP.sq {xs : List α} (h : EvP te σ H (isP K xs)) : EvP te σ H (sqP K xs) := h.weak fun _ _ _ p => sq_of_is p
theorem EvP.sqn {H0 : Hp} {xs : List α} (h : EvP te σ H (nlP K H0 xs)) : EvP te σ H (sqP K xs) := h.weak fun _ _ _ p => sq_of_nl p
theorem ep_var {i : Nat} {v : V} (h : σ[i]? = some (some v)) (m : MonoP P) (p : P v H) : EvP (tVar i) σ H P := fun H1 e Q q => ⟨v, h, q v H1 (Ex.refl H1) (m v H H1 e p)⟩
theorem ep_vis {i : Nat} {v : V} {x : α} (h : σ[i]? = some (some v)) (p : Is K H v x) : EvP (tVar i) σ H (isP K x) := ep_var h (mono_is x) p
theorem ep_c {v : V} (h : ∀ H', P v H') : EvP (tC v) σ H P := fun H1 _ Q q => q v H1 (Ex.refl H1) (h H1)
theorem ep_bl (b : Bool) : EvP (tC (.bl b)) σ H (isP K b) := ep_c fun _ => .bl b
theorem ep_nat (n : Nat) : EvP (tC (.int (n : Int))) σ H (isP K n) := ep_c fun _ => .int _
theorem ep_str (x : Str) : EvP (tC (.str x)) σ H (isP K x) := ep_c fun _ => .str x
/-- an operation on two values -/
theorem ep_op {r : R2} (ha : EvP ta σ H P) (m : MonoP P) (hb : EvP tb σ H P') (hr : ∀ x y H1, Ex H H1 → P x H1 → P' y H1 → ∀ Q : VK, (∀ v H2, Ex H1 H2 → R v H2 → Q v H2) → r x y H1 Q) : EvP (tOp r ta tb) σ H R := fun H1 e Q q =>
  ha H1 e _ fun x H2 e2 p => hb H2 (e.trans e2) _ fun y H3 e3 p' => hr x y H3 ((e.trans e2).trans e3) (m _ _ _ e3 p) p' Q fun v H4 e4 w => q v H4 ((e2.trans e3).trans e4) w
theorem ep_eq {α : Type} [En α] [DecidableEq α] {x y : α} (ha : EvP ta σ H (isP K x)) (hb : EvP tb σ H (isP K y)) (hd : En.dp α ≤ 16 := by decide) : EvP (tOp (rEqG K) ta tb) σ H (isP K (decide (x = y))) :=
  ep_op ha (mono_is x) hb fun u v H1 _ p p' Q q => ⟨_, _, Im.dp p, Im.dp p', En.al x y, Nat.le_trans (En.dpt x) hd, q _ H1 (Ex.refl H1) (by rw [enc_eqv]; exact .bl _)⟩
theorem ep_ne {α : Type} [En α] [DecidableEq α] {x y : α} (ha : EvP ta σ H (isP K x)) (hb : EvP tb σ H (isP K y)) (hd : En.dp α ≤ 16 := by decide) : EvP (tOp (rNeG K) ta tb) σ H (isP K (!decide (x = y))) :=
  ep_op ha (mono_is x) hb fun u v H1 _ p p' Q q => ⟨_, _, Im.dp p, Im.dp p', En.al x y, Nat.le_trans (En.dpt x) hd, q _ H1 (Ex.refl H1) (by rw [enc_eqv]; exact .bl _)⟩
theorem dp_nl {H0 : Hp} {v : V} {xs : List α} (h : nlP K H0 xs v H) : Dp K H v (.list (xs.map Ec.enc)) := by
  obtain ⟨a, vs, rfl, _, h2, h3⟩ := h
  exact .lst (sq_of h2) (ImAll.dp h3)
theorem ep_eqL {α : Type} [En α] [DecidableEq α] {xs ys : List α} {H0 H0' : Hp} (ha : EvP ta σ H (nlP K H0 xs)) (hb : EvP tb σ H (nlP K H0' ys)) (hd : En.dp α ≤ 15 := by decide) : EvP (tOp (rEqG K) ta tb) σ H (isP K (decide (xs = ys))) :=
  ep_op ha (mono_nl xs) hb fun u v H1 _ p p' Q q => ⟨_, _, dp_nl p, dp_nl p', by simp only [alike]; exact al_map xs ys, by have := dp_map xs; simp only [PyData.depth]; omega, q _ H1 (Ex.refl H1) (by
    have e : PyData.eqv (.list (xs.map Ec.enc)) (.list (ys.map Ec.enc)) = decide (xs = ys) := by
      simp only [PyData.eqv]
      by_cases h : xs = ys
      · rw [decide_eq_true h]; exact (eqv_map xs ys).mpr h
      · rw [decide_eq_false h]
        cases z : PyData.eqvAll (xs.map Ec.enc) (ys.map Ec.enc) with
        | false => rfl
        | true => exact absurd ((eqv_map xs ys).mp z) h
    rw [e]; exact .bl _)⟩
theorem ep_neL {α : Type} [En α] [DecidableEq α] {xs ys : List α} {H0 H0' : Hp} (ha : EvP ta σ H (nlP K H0 xs)) (hb : EvP tb σ H (nlP K H0' ys)) (hd : En.dp α ≤ 15 := by decide) : EvP (tOp (rNeG K) ta tb) σ H (isP K (!decide (xs = ys))) :=
  ep_op ha (mono_nl xs) hb fun u v H1 _ p p' Q q => ⟨_, _, dp_nl p, dp_nl p', by simp only [alike]; exact al_map xs ys, by have := dp_map xs; simp only [PyData.depth]; omega, q _ H1 (Ex.refl H1) (by
    have e : PyData.eqv (.list (xs.map Ec.enc)) (.list (ys.map Ec.enc)) = decide (xs = ys) := by
      simp only [PyData.eqv]
      by_cases h : xs = ys
      · rw [decide_eq_true h]; exact (eqv_map xs ys).mpr h
      · rw [decide_eq_false h]
        cases z : PyData.eqvAll (xs.map Ec.enc) (ys.map Ec.enc) with
        | false => rfl
        | true => exact absurd ((eqv_map xs ys).mp z) h
    rw [e]; exact .bl _)⟩
theorem ep_in {α : Type} [En α] [DecidableEq α] {x : α} {xs : List α} (ha : EvP ta σ H (isP K x)) (hb : EvP tb σ H (sqP K xs)) (hd : En.dp α ≤ 16 := by decide) : EvP (tOp (rInG K) ta tb) σ H (isP K (decide (x ∈ xs))) :=
  ep_op ha (mono_is x) hb fun u v H1 _ p ⟨a, vs, h1, h2, h3⟩ Q q => ⟨α, _, _, x, a, vs, xs, p, h1, h2, h3, hd, q _ H1 (Ex.refl H1) (.bl _)⟩
theorem ep_notIn {α : Type} [En α] [DecidableEq α] {x : α} {xs : List α} (ha : EvP ta σ H (isP K x)) (hb : EvP tb σ H (sqP K xs)) (hd : En.dp α ≤ 16 := by decide) : EvP (tOp (rNotInG K) ta tb) σ H (isP K (!decide (x ∈ xs))) :=
  ep_op ha (mono_is x) hb fun u v H1 _ p ⟨a, vs, h1, h2, h3⟩ Q q => ⟨α, _, _, x, a, vs, xs, p, h1, h2, h3, hd, q _ H1 (Ex.refl H1) (.bl _)⟩
abbrev rLt : R2 := rI0 fun i j => .bl (decide (i < j))
abbrev rGt' : R2 := rI0 fun i j => .bl (decide (j < i))
abbrev rLe' : R2 := rI0 fun i j => .bl (decide (i ≤ j))
abbrev rGe' : R2 := rI0 fun i j => .bl (decide (j ≤ i))
abbrev rAdd' : R2 := rI0 fun i j => .int (i + j)
theorem ep_int2 {r : R2} {g : Int → Int → V} {m n : Nat} (hg : r = rI0 g) (ha : EvP ta σ H (isP K m)) (hb : EvP tb σ H (isP K n)) : EvP (tOp r ta tb) σ H (fun v _ => v = g m n) := by
  subst hg
  exact ep_op ha (mono_is m) hb fun u v H1 _ p p' Q q => ⟨_, _, Is.nat p, Is.nat p', q _ H1 (Ex.refl H1) rfl⟩
theorem is_bl {b c : Bool} {v : V} (h : v = .bl b) (e : b = c) : isP K c v H := by subst h e; exact .bl _
theorem ep_lt {m n : Nat} (ha : EvP ta σ H (isP K m)) (hb : EvP tb σ H (isP K n)) : EvP (tOp rLt ta tb) σ H (isP K (decide (m < n))) := (ep_int2 rfl ha hb).weak fun v H' _ h => is_bl h (by simp)
theorem ep_gt {m n : Nat} (ha : EvP ta σ H (isP K m)) (hb : EvP tb σ H (isP K n)) : EvP (tOp rGt' ta tb) σ H (isP K (decide (n < m))) := (ep_int2 rfl ha hb).weak fun v H' _ h => is_bl h (by simp)
theorem ep_le {m n : Nat} (ha : EvP ta σ H (isP K m)) (hb : EvP tb σ H (isP K n)) : EvP (tOp rLe' ta tb) σ H (isP K (decide (m ≤ n))) := (ep_int2 rfl ha hb).weak fun v H' _ h => is_bl h (by simp)
theorem ep_ge {m n : Nat} (ha : EvP ta σ H (isP K m)) (hb : EvP tb σ H (isP K n)) : EvP (tOp rGe' ta tb) σ H (isP K (decide (n ≤ m))) := (ep_int2 rfl ha hb).weak fun v H' _ h => is_bl h (by simp)
theorem ep_add {m n : Nat} (ha : EvP ta σ H (isP K m)) (hb : EvP tb σ H (isP K n)) : EvP (tOp rAdd' ta tb) σ H (isP K (m + n)) := (ep_int2 rfl ha hb).weak fun v H' _ h => by
  subst h
  show Im K H' (.int ((m : Int) + (n : Int))) (.int ((m + n : Nat) : Int))
  rw [Int.natCast_add]
  exact .int _
/-- len -/
abbrev rLen' (K : PySem.W.Frag) : List V → Hp → VK → Prop := fun xs H Q => ∃ x n, xs = [x] ∧ LenV K x H n ∧ Q (.int n) H
theorem ep_len {xs : List α} (ha : EvP ta σ H (sqP K xs)) : EvP (tCB (rLen' K) (tCons ta tNil)) σ H (isP K xs.length) := fun H1 e Q q =>
  ha H1 e _ fun v H2 e2 ⟨a, vs, h1, h2, h3⟩ => ⟨_, xs.length, rfl, by
    subst h1
    rcases h2 with h2 | h2
    · exact .inl ⟨vs, sq_of h2, (IsAll.len h3).symm⟩
    · exact .inr ⟨vs, h2, (IsAll.len h3).symm⟩, q _ H2 e2 (.int _)⟩
theorem ep_lenS {x : Str} (ha : EvP ta σ H (isP K x)) (hx : x.length ≤ 100000) : EvP (tCB (rLen' K) (tCons ta tNil)) σ H (isP K x.length) := fun H1 e Q q =>
  ha H1 e _ fun v H2 e2 p => ⟨_, x.length, rfl, by rw [Is.text p]; exact ⟨sz_of hx, rfl⟩, q _ H2 e2 (.int _)⟩
/-- items -/
theorem at_nat {β : Type} {xs : List β} {i : Nat} {x : β} (h : xs[i]? = some x) : atI xs (i : Int) = some x := by
  have hi := (List.getElem?_eq_some_iff.mp h).1
  unfold atI
  rw [ixN_nat hi]
  exact h
theorem ep_ix {xs : List α} {i : Nat} {x : α} (ha : EvP ta σ H (sqP K xs)) (hb : EvP tb σ H (isP K i)) (hx : xs[i]? = some x) : EvP (tOp (rIx K) ta tb) σ H (isP K x) :=
  ep_op ha (mono_sq xs) hb fun u v H1 _ ⟨a, vs, h1, h2, h3⟩ p' Q q => by
    obtain ⟨w, hw, hi⟩ := IsAll.item h3 hx
    rcases h2 with h2 | h2
    · exact .inl ⟨a, vs, _, w, h1, Is.nat p', sq_of h2, at_nat hw, q _ H1 (Ex.refl H1) hi⟩
    · exact .inr (.inl ⟨a, vs, _, w, h1, Is.nat p', h2, at_nat hw, q _ H1 (Ex.refl H1) hi⟩)
theorem ep_fst {x : α} {y : β} (ha : EvP ta σ H (isP K (x, y))) : EvP (tOp (rIx K) ta (tC (.int 0))) σ H (isP K x) := fun H1 e Q q =>
  ha H1 e _ fun v H2 e2 p => by
    obtain ⟨a, u, w, h1, h2, h3, h4⟩ := Is.pair p
    exact .inr (.inl ⟨a, _, 0, u, h1, rfl, h2, rfl, q _ H2 e2 h3⟩)
theorem ep_snd {x : α} {y : β} (ha : EvP ta σ H (isP K (x, y))) : EvP (tOp (rIx K) ta (tC (.int 1))) σ H (isP K y) := fun H1 e Q q =>
  ha H1 e _ fun v H2 e2 p => by
    obtain ⟨a, u, w, h1, h2, h3, h4⟩ := Is.pair p
    exact .inr (.inl ⟨a, _, 1, w, h1, rfl, h2, rfl, q _ H2 e2 h4⟩)
/-- slices of a tuple -/
theorem sIx_nat (n d i : Nat) : HT.sIx n d (some (i : Int)) = min i n := by
  show (if (i : Int) < 0 then ((i : Int) + (n : Int)).toNat else min (i : Int).toNat n) = min i n
  rw [if_neg (by omega)]
  simp
theorem cut_is {a : Addr} {vs : List V} {xs : List α} {lo hi : Option Int} {Q : VK} (h2 : SqT K H a vs) (h3 : IsAll K H vs xs) {ys : List α} (hy : ys = (xs.drop (HT.sIx xs.length 0 lo)).take (HT.sIx xs.length xs.length hi - HT.sIx xs.length 0 lo))
    (q : ∀ v H2, Ex H H2 → isP K ys v H2 → Q v H2) : rSlA K (.ref a) lo hi H Q := by
  have hl := IsAll.len h3
  have hc : IsAll K H (cutV vs lo hi) ys := by
    subst hy
    unfold cutV
    rw [hl]
    show ImAll K H _ (List.map _ _)
    rw [List.map_take, List.map_drop]
    exact (ImAll.drop _ h3).take _
  refine ⟨a, vs, rfl, h2, fun w => ?_, fun _ p hp => ?_⟩
  · have e : ys = xs := by
      subst hy
      rw [hl] at w
      rw [w.1, w.2]
      simp
    subst e
    exact q _ H (Ex.refl H) (Is.mk h2 h3)
  · refine q _ _ (Ex.new hp) (Is.mk (st_of upd_same) ?_)
    exact ImAll.ex (Ex.new hp) hc
theorem ep_from {xs : List α} {i : Nat} (ha : EvP ta σ H (isP K xs)) (hb : EvP tb σ H (isP K i)) : EvP (tSl (rSlA K) ta (tPart tb) tNoPart) σ H (isP K (xs.drop i)) := fun H1 e Q q =>
  ha H1 e _ fun v H2 e2 p => hb H2 (e.trans e2) _ fun u H3 e3 p' => ⟨_, Is.nat p', by
    obtain ⟨a, vs, h1, h2, h3⟩ := Is.list p
    subst h1
    refine cut_is (ex_t e3 h2) (ImAll.ex e3 h3) (ys := xs.drop i) ?_ fun w H4 e4 r => q w H4 ((e2.trans e3).trans e4) r
    rw [sIx_nat]
    show xs.drop i = (xs.drop (min i xs.length)).take (xs.length - min i xs.length)
    by_cases h : i ≤ xs.length
    · rw [Nat.min_eq_left h, List.take_of_length_le (by rw [List.length_drop]; exact Nat.le_refl _)]
    · rw [Nat.min_eq_right (by omega), List.drop_of_length_le (by omega : xs.length ≤ i)]
      simp⟩
theorem ep_upto {xs : List α} {i : Nat} (ha : EvP ta σ H (isP K xs)) (hb : EvP tb σ H (isP K i)) : EvP (tSl (rSlA K) ta tNoPart (tPart tb)) σ H (isP K (xs.take i)) := fun H1 e Q q =>
  ha H1 e _ fun v H2 e2 p => hb H2 (e.trans e2) _ fun u H3 e3 p' => ⟨_, Is.nat p', by
    obtain ⟨a, vs, h1, h2, h3⟩ := Is.list p
    subst h1
    refine cut_is (ex_t e3 h2) (ImAll.ex e3 h3) (ys := xs.take i) ?_ fun w H4 e4 r => q w H4 ((e2.trans e3).trans e4) r
    rw [sIx_nat]
    show xs.take i = (xs.drop 0).take (min i xs.length - 0)
    rw [List.drop_zero, Nat.sub_zero]
    by_cases h : i ≤ xs.length
    · rw [Nat.min_eq_left h]
    · rw [Nat.min_eq_right (by omega), List.take_of_length_le (by omega), List.take_of_length_le (Nat.le_refl _)]⟩
theorem ep_rev {xs : List α} (ha : EvP ta σ H (isP K xs)) : EvP (tRevT K ta) σ H (isP K xs.reverse) := fun H1 e Q q =>
  ha H1 e _ fun v H2 e2 p => by
    obtain ⟨a, vs, h1, h2, h3⟩ := Is.list p
    refine ⟨a, vs, h1, h2, fun p hp => q _ _ (e2.trans (Ex.new hp)) (Is.mk (st_of upd_same) ?_)⟩
    show ImAll K _ _ (List.map _ _)
    rw [List.map_reverse]
    exact ImAll.ex (Ex.new hp) (ImAll.reverse h3)
theorem ep_cat {xs ys : List α} (ha : EvP ta σ H (isP K xs)) (hb : EvP tb σ H (isP K ys)) (hz : xs.length + ys.length ≤ 100000) : EvP (tOp (rCatA K) ta tb) σ H (isP K (xs ++ ys)) :=
  ep_op ha (mono_is xs) hb fun u v H1 _ p p' Q q => by
    obtain ⟨a, vs, h1, h2, h3⟩ := Is.list p
    obtain ⟨b, us, k1, k2, k3⟩ := Is.list p'
    have l1 := IsAll.len h3
    have l2 := IsAll.len k3
    refine ⟨a, b, vs, us, h1, k1, h2, k2, sz_of (by omega), fun e => ?_, fun _ e => ?_, fun _ _ p hp => ?_⟩
    · have e2 : xs = [] := List.eq_nil_of_length_eq_zero (by rw [← l1, e]; rfl)
      subst e2
      exact q _ H1 (Ex.refl H1) (Is.mk k2 k3)
    · have e2 : ys = [] := List.eq_nil_of_length_eq_zero (by rw [← l2, e]; rfl)
      subst e2
      rw [List.append_nil] at q
      exact q _ H1 (Ex.refl H1) (Is.mk h2 h3)
    · exact q _ _ (Ex.new hp) (Is.mk (st_of upd_same) (ImAll.ex (Ex.new hp) (IsAll.app h3 k3)))
/-- tuple(xs) -/
abbrev rTupOf (K : PySem.W.Frag) : List V → Hp → VK → Prop := fun xs H Q => ∃ p ys, xs = [.ref p] ∧ ((SqL K H p ys ∧ ∀ l, H l = none → Q (.ref l) (upd H l (.tup ys))) ∨ (SqT K H p ys ∧ Q (.ref p) H))
theorem ep_tuple {xs : List α} (ha : EvP ta σ H (sqP K xs)) : EvP (tCB (rTupOf K) (tCons ta tNil)) σ H (isP K xs) := fun H1 e Q q =>
  ha H1 e _ fun v H2 e2 ⟨a, vs, h1, h2, h3⟩ => ⟨a, vs, by rw [h1], by
    rcases h2 with h2 | h2
    · exact .inl ⟨sq_of h2, fun l hl => q _ _ (e2.trans (Ex.new hl)) (Is.mk (st_of upd_same) (ImAll.ex (Ex.new hl) h3))⟩
    · exact .inr ⟨h2, q _ H2 e2 (Is.mk h2 h3)⟩⟩
/-- list(xs) -/
abbrev rListOf (K : PySem.W.Frag) : List V → Hp → VK → Prop := fun xs H Q => ∃ p ys, xs = [.ref p] ∧ (SqL K H p ys ∨ SqT K H p ys) ∧ ∀ l, H l = none → Q (.ref l) (upd H l (.lst ys))
theorem ep_list {xs : List α} (ha : EvP ta σ H (sqP K xs)) : EvP (tCB (rListOf K) (tCons ta tNil)) σ H (nlP K H xs) := fun H1 e Q q =>
  ha H1 e _ fun v H2 e2 ⟨a, vs, h1, h2, h3⟩ => ⟨a, vs, by rw [h1], sqe_or h2, fun l hl => q _ _ (e2.trans (Ex.new hl)) ⟨l, vs, rfl, fresh_back (e.trans e2) hl, upd_same, ImAll.ex (Ex.new hl) h3⟩⟩
/-- all, any of truth values -/
theorem bools_of : ∀ {bs : List Bool} {vs : List V}, IsAll K H vs bs → vs = bs.map V.bl
  | [], _, h => by cases h; rfl
  | b :: bs, _, h => by
    cases h with
    | cons h1 h2 =>
      rw [bools_of h2]
      cases h1
      rfl
theorem ep_all {bs : List Bool} {H0 : Hp} (ha : EvP ta σ H (nlP K H0 bs)) : EvP (tCB (rAll K) (tCons ta tNil)) σ H (isP K (bs.all id)) := fun H1 e Q q =>
  ha H1 e _ fun v H2 e2 ⟨a, vs, h1, _, h2, h3⟩ => ⟨a, bs, by rw [h1], by rw [← bools_of h3]; exact sq_of h2, q _ H2 e2 (.bl _)⟩
theorem ep_any {bs : List Bool} {H0 : Hp} (ha : EvP ta σ H (nlP K H0 bs)) : EvP (tCB (rAny K) (tCons ta tNil)) σ H (isP K (bs.any id)) := fun H1 e Q q =>
  ha H1 e _ fun v H2 e2 ⟨a, vs, h1, _, h2, h3⟩ => ⟨a, bs, by rw [h1], by rw [← bools_of h3]; exact sq_of h2, q _ H2 e2 (.bl _)⟩
/-- sums of counts -/
theorem nats_of : ∀ {ns : List Nat} {vs : List V}, IsAll K H vs ns → vs = (ns.map fun n : Nat => (n : Int)).map V.int
  | [], _, h => by cases h; rfl
  | b :: bs, _, h => by
    cases h with
    | cons h1 h2 =>
      rw [nats_of h2]
      cases h1
      rfl
theorem sum_nat : ∀ ns : List Nat, (ns.map fun n : Nat => (n : Int)).sum = ((ns.sum : Nat) : Int)
  | [] => rfl
  | n :: ns => by rw [List.map_cons, List.sum_cons, List.sum_cons, sum_nat ns, Int.natCast_add]
theorem ep_sum {ns : List Nat} {H0 : Hp} (ha : EvP ta σ H (nlP K H0 ns)) : EvP (tCB (rSum K) (tCons ta tNil)) σ H (isP K ns.sum) := fun H1 e Q q =>
  ha H1 e _ fun v H2 e2 ⟨a, vs, h1, _, h2, h3⟩ => ⟨a, ns.map fun n : Nat => (n : Int), by rw [h1], by rw [← nats_of h3]; exact sq_of h2, q _ H2 e2 (by rw [sum_nat]; exact .int _)⟩
/-- displays -/
theorem ep_pair {x : α} {y : β} (ha : EvP ta σ H (isP K x)) (hb : EvP tb σ H (isP K y)) : EvP (tTup (tCons ta (tCons tb tNil))) σ H (isP K (x, y)) := fun H1 e Q q =>
  ha H1 e _ fun u H2 e2 p => hb H2 (e.trans e2) _ fun v H3 e3 p' => ⟨by show 2 ≤ sizeLine; decide, fun r hr => q _ _ ((e2.trans e3).trans (Ex.new hr)) (Is.mkPair (st_of upd_same) (Im.ex (e3.trans (Ex.new hr)) p) (Im.ex (Ex.new hr) p'))⟩
theorem ep_tup0 : EvP (tTup tNil) σ H (isP K ([] : List α)) := fun H1 e Q q => ⟨by show 0 ≤ sizeLine; decide, fun r hr => q _ _ (Ex.new hr) (Is.mk (st_of upd_same) .nil)⟩
theorem ep_tup1 {x : α} (ha : EvP ta σ H (isP K x)) : EvP (tTup (tCons ta tNil)) σ H (isP K [x]) := fun H1 e Q q =>
  ha H1 e _ fun u H2 e2 p => ⟨by show 1 ≤ sizeLine; decide, fun r hr => q _ _ (e2.trans (Ex.new hr)) (Is.mk (st_of upd_same) (.cons (Im.ex (Ex.new hr) p) .nil))⟩
theorem ep_tup2 {x y : α} (ha : EvP ta σ H (isP K x)) (hb : EvP tb σ H (isP K y)) : EvP (tTup (tCons ta (tCons tb tNil))) σ H (isP K [x, y]) := fun H1 e Q q =>
  ha H1 e _ fun u H2 e2 p => hb H2 (e.trans e2) _ fun v H3 e3 p' => ⟨by show 2 ≤ sizeLine; decide, fun r hr => q _ _ ((e2.trans e3).trans (Ex.new hr)) (Is.mk (st_of upd_same) (.cons (Im.ex (e3.trans (Ex.new hr)) p) (.cons (Im.ex (Ex.new hr) p') .nil)))⟩
theorem ep_lst0 : EvP (tLst tNil) σ H (nlP K H ([] : List α)) := fun H1 e Q q => ⟨by show 0 ≤ sizeLine; decide, fun r hr => q _ _ (Ex.new hr) ⟨r, [], rfl, fresh_back e hr, upd_same, .nil⟩⟩
theorem ep_lst1 {x : α} (ha : EvP ta σ H (isP K x)) : EvP (tLst (tCons ta tNil)) σ H (nlP K H [x]) := fun H1 e Q q =>
  ha H1 e _ fun u H2 e2 p => ⟨by show 1 ≤ sizeLine; decide, fun r hr => q _ _ (e2.trans (Ex.new hr)) ⟨r, _, rfl, fresh_back (e.trans e2) hr, upd_same, .cons (Im.ex (Ex.new hr) p) .nil⟩⟩
/-- (x, *ys), (*ys, x), [*xs, *ys] -/
theorem ep_consT {x : α} {ys : List α} (ha : EvP ta σ H (isP K x)) (hb : EvP tb σ H (sqP K ys)) (hz : ys.length < 100000) : EvP (tTup (tCons ta (StX.tStar K tb tNil))) σ H (isP K (x :: ys)) := fun H1 e Q q =>
  ha H1 e _ fun u H2 e2 p => hb H2 (e.trans e2) _ fun v H3 e3 ⟨a, vs, h1, h2, h3⟩ => ⟨a, vs, h1, (sqe_or h2).symm, by
    have hl := IsAll.len h3
    exact ⟨sz_of (by simp; omega), fun r hr => q _ _ ((e2.trans e3).trans (Ex.new hr)) (Is.mk (st_of upd_same) (.cons (Im.ex (e3.trans (Ex.new hr)) p) (by rw [List.append_nil]; exact ImAll.ex (Ex.new hr) h3)))⟩⟩
theorem ep_snocT {y : α} {xs : List α} (ha : EvP ta σ H (sqP K xs)) (hb : EvP tb σ H (isP K y)) (hz : xs.length < 100000) : EvP (tTup (StX.tStar K ta (tCons tb tNil))) σ H (isP K (xs ++ [y])) := fun H1 e Q q =>
  ha H1 e _ fun u H2 e2 ⟨a, vs, h1, h2, h3⟩ => ⟨a, vs, h1, (sqe_or h2).symm, hb H2 (e.trans e2) _ fun v H3 e3 p' => by
    have hl := IsAll.len h3
    exact ⟨sz_of (by simp; omega), fun r hr => q _ _ ((e2.trans e3).trans (Ex.new hr)) (Is.mk (st_of upd_same) (IsAll.snoc (ImAll.ex (e3.trans (Ex.new hr)) h3) (Im.ex (Ex.new hr) p')))⟩⟩
theorem ep_starL {xs ys : List α} (ha : EvP ta σ H (sqP K xs)) (hb : EvP tb σ H (sqP K ys)) (hz : xs.length + ys.length ≤ 100000) : EvP (tLst (StX.tStar K ta (StX.tStar K tb tNil))) σ H (nlP K H (xs ++ ys)) := fun H1 e Q q =>
  ha H1 e _ fun u H2 e2 ⟨a, vs, h1, h2, h3⟩ => ⟨a, vs, h1, (sqe_or h2).symm, hb H2 (e.trans e2) _ fun v H3 e3 ⟨b, us, k1, k2, k3⟩ => ⟨b, us, k1, (sqe_or k2).symm, by
    have hl := IsAll.len h3
    have hl2 := IsAll.len k3
    exact ⟨sz_of (by simp; omega), fun r hr => q _ _ ((e2.trans e3).trans (Ex.new hr)) ⟨r, _, rfl, fresh_back ((e.trans e2).trans e3) hr, upd_same, IsAll.app (ImAll.ex (e3.trans (Ex.new hr)) h3) (by rw [List.append_nil]; exact ImAll.ex (Ex.new hr) k3)⟩⟩⟩⟩
end
end
end MoR
set_option maxHeartbeats 4000000
/-! walks over typed sequences: comprehensions, for; calls; statements -/
namespace MoR
open PySem PySem.Spec PyProof.Rows L2 PySem.W Evl
section
variable {K : PySem.W.Frag} {σ : L2.St} {H H' H1 H2 : Hp} {W : List Addr}
/-- all stands but at W; tuples stand -/
structure ExL (K : PySem.W.Frag) (W : List Addr) (H H' : Hp) : Prop where
  ob : ∀ a o, a ∉ W → H a = some o → H' a = some o
  tk : Tk K H H'
theorem ExL.of (e : Ex H H') : ExL K W H H' := ⟨fun a o _ h => e a o h, .ex e⟩
theorem ExL.refl : ExL K W H H := .of (Ex.refl H)
theorem ExL.trans (a : ExL K W H H1) (b : ExL K W H1 H2) : ExL K W H H2 := ⟨fun x o h e => b.ob x o h (a.ob x o h e), a.tk.trans b.tk⟩
theorem ExL.then (a : ExL K W H H1) (b : Ex H1 H2) : ExL K W H H2 := a.trans (.of b)
theorem ExL.nil (a : ExL K [] H H') : Ex H H' := fun x o e => a.ob x o (by simp) e
theorem ExL.lst {a : Addr} {vs us : List V} (e : ExL K W H H') (ha : a ∈ W) (h : H' a = some (.lst vs)) : ExL K W H (upd H' a (.lst us)) :=
  ⟨fun b o hb q => by rw [upd_ne (fun z => hb (by rw [z]; exact ha))]; exact e.ob b o hb q, e.tk.trans (.lst h)⟩
/-- an object that H does not know may change -/
theorem ExL.fresh {a : Addr} {o : HO} {vs : List V} (e : ExL K W H H') (ha : H a = none) (h : H' a = some (.lst vs)) : ExL K W H (upd H' a o) :=
  ⟨fun b u hb q => by rw [upd_ne (ne_of_none q ha)]; exact e.ob b u hb q, e.tk.trans (.lst h)⟩
/-- what is walked, typed -/
def Wk {α : Type} [Ec α] (K : PySem.W.Frag) (wi : TI) (σ : L2.St) (H : Hp) (W : List Addr) (xs : List α) : Prop := ∀ H0, Ex H H0 → ∀ R : It → Hp → Prop, (∀ J H1, Ex H0 H1 →
  (∀ H', ExL K W H1 H' → (∀ i x, xs[i]? = some x → J.go i H' ∧ ∀ v H'', J.yld i H' v H'' → Ex H' H'' ∧ Is K H'' v x) ∧ J.stop xs.length H') → R J H1) → wi σ H0 R
/-- a list or a tuple walked -/
def iSeq (K : PySem.W.Frag) (tl : TE) : TI := fun σ H R => tl σ H fun x H1 => ∃ a, x = .ref a ∧ (((∃ xs, SqL K H1 a xs) ∧ R (Itl K a) H1) ∨ ((∃ xs, SqT K H1 a xs) ∧ R (Itt K a) H1))
theorem pi_seq {X : Cx} {tg l : Expr} {tl : TE} (hl : PE X l tl) : PI X tg l (iSeq X.K tl) := by
  refine ⟨fun pins s σ H R I h => ?_⟩
  refine thn (hl.run pins s σ H _ I h) fun v s1 ⟨x, H1, I1, r1, q1⟩ => ?_
  obtain ⟨a, e, q⟩ := q1
  subst e
  cases r1
  rcases q with ⟨⟨xs, hq⟩, q⟩ | ⟨⟨xs, hq⟩, q⟩
  · obtain ⟨its, rv, p, hz⟩ := I1.list hq
    refine wpAny_pyIter_list p.isList ?_
    refine ⟨s1.heap.objs.size, [s1.heap.objs.size], _, _, H1, rfl, I1.kept (t' := s1.toks) fun b o e => Heap.get?_push_of_some _ e, turn_list a _, ⟨_, Heap.get?_push_size _ rfl, rfl, rfl⟩, fun b hb => ?_, q⟩
    have e : b = s1.heap.objs.size := by simpa using hb
    subst e
    exact I1.fpOk (Nat.le_refl _) (I1.hok.fresh (Nat.le_refl _))
  · obtain ⟨its, rv, p, hz⟩ := I1.tuple hq
    refine wpAny_pyIter_tuple (show s1.heap.IsTuple a its.toArray from p) ?_
    refine ⟨s1.heap.objs.size, [s1.heap.objs.size], _, _, H1, rfl, I1.kept (t' := s1.toks) fun b o e => Heap.get?_push_of_some _ e, turn_tuple a _, ⟨_, Heap.get?_push_size _ rfl, rfl, rfl⟩, fun b hb => ?_, q⟩
    have e : b = s1.heap.objs.size := by simpa using hb
    subst e
    exact I1.fpOk (Nat.le_refl _) (I1.hok.fresh (Nat.le_refl _))
section
variable {α β γ : Type} [Ec α] [Ec β] [Ec γ] {te ta tb tl : TE} {P P' R : VP} {xs : List α}
theorem sql_one {a : Addr} {vs us : List V} (h : H a = some (.lst vs)) (h2 : SqL K H a us) (hk : K.lookup a = none) : us = vs := by
  rcases h2 with h2 | ⟨o, its, n, q, _⟩
  · rcases h2 with h2 | ⟨o, h2⟩
    · rw [h] at h2; injection h2 with h2; injection h2 with h2; exact h2.symm
    · rw [h] at h2; injection h2 with h2; cases h2
  · rw [hk] at q; cases q
theorem wk_seqP (h : EvP tl σ H P) (hp : ∀ v H1, Ex H H1 → P v H1 → ∃ a vs, v = .ref a ∧ IsAll K H1 vs xs ∧ (SqT K H1 a vs ∨ (SqL K H1 a vs ∧ a ∉ W))) : Wk K (iSeq K tl) σ H W xs := fun H0 e R q =>
  h H0 e _ fun v H1 e1 p => by
    obtain ⟨a, vs, rfl, hi, hs⟩ := hp v H1 (e.trans e1) p
    have hl := IsAll.len hi
    rcases hs with hs | ⟨hs, hw⟩
    · refine ⟨a, rfl, .inr ⟨⟨vs, hs⟩, q _ H1 e1 fun H' x => ?_⟩⟩
      have hs' := x.tk _ _ hs
      have hi' := ImAll.tk x.tk hi
      refine ⟨fun i y hy => ?_, ⟨vs, hs', by omega⟩⟩
      obtain ⟨u, hu, iu⟩ := IsAll.item hi' hy
      refine ⟨⟨vs, u, hs', hu⟩, fun w H'' z => ?_⟩
      obtain ⟨rfl, z⟩ := z
      have e3 := z vs hs'
      rw [hu] at e3
      cases e3
      exact ⟨Ex.refl _, iu⟩
    · refine ⟨a, rfl, .inl ⟨⟨vs, hs⟩, q _ H1 e1 fun H' x => ?_⟩⟩
      have hs' : SqL K H' a vs := by
        rcases hs with hs | hs
        · left
          rcases hs with hs | ⟨o, hs⟩
          · exact .inl (x.ob a _ hw hs)
          · exact .inr ⟨o, x.ob a _ hw hs⟩
        · exact .inr hs
      have hi' := ImAll.tk x.tk hi
      refine ⟨fun i y hy => ?_, ⟨vs, hs', by omega⟩⟩
      obtain ⟨u, hu, iu⟩ := IsAll.item hi' hy
      refine ⟨⟨vs, u, hs', hu⟩, fun w H'' z => ?_⟩
      obtain ⟨rfl, z⟩ := z
      have e3 := z vs hs'
      rw [hu] at e3
      cases e3
      exact ⟨Ex.refl _, iu⟩
theorem wk_seq (h : EvP tl σ H (sqP K xs)) : Wk K (iSeq K tl) σ H [] xs := wk_seqP h fun v H1 _ ⟨a, vs, h1, h2, h3⟩ => ⟨a, vs, h1, h3, by
  rcases h2 with h2 | h2
  · exact .inr ⟨sq_of h2, by simp⟩
  · exact .inl h2⟩
theorem wk_is (h : EvP tl σ H (isP K xs)) : Wk K (iSeq K tl) σ H W xs := wk_seqP h fun v H1 _ p => by
  obtain ⟨a, vs, h1, h2, h3⟩ := Is.list p
  exact ⟨a, vs, h1, h3, .inl h2⟩
/-- a new list: none of those that H knows -/
theorem wk_new {H0 : Hp} (h : EvP tl σ H (nlP K H0 xs)) (hw : ∀ a ∈ W, H0 a ≠ none) : Wk K (iSeq K tl) σ H W xs := wk_seqP h fun v H1 _ ⟨a, vs, h1, h0, h2, h3⟩ =>
  ⟨a, vs, h1, h3, .inr ⟨sq_of h2, fun z => hw a z h0⟩⟩
theorem wk_rng1 {n : Nat} (h : EvP te σ H (isP K n)) (hn : n ≤ 100000) : Wk K (iRng1 (tCons te tNil)) σ H W (List.range n) := fun H0 e R q =>
  h H0 e _ fun v H1 e1 p => ⟨n, by rw [Is.nat p], by omega, by omega, q _ H1 e1 fun H' _ => ⟨fun i x hx => by
    obtain ⟨hi, rfl⟩ : i < n ∧ x = i := by
      have := List.getElem?_eq_some_iff.mp hx
      simp at this
      exact ⟨this.1, this.2.symm⟩
    refine ⟨by show x < (n : Int).toNat; omega, fun v H'' ⟨e, z⟩ => ?_⟩
    subst e z
    have e0 : (0 : Int) + (x : Int) = (x : Int) := Int.zero_add _
    rw [e0]
    exact ⟨Ex.refl _, .int _⟩, by show (n : Int).toNat ≤ (List.range n).length; rw [List.length_range]; omega⟩⟩
/-- range(m, n) -/
theorem wk_rng2 {m n : Nat} (h : EvP ta σ H (isP K m)) (h2 : EvP tb σ H (isP K n)) (hm : m ≤ 100000) (hn : n ≤ 100000) : Wk K (iRng2 (tCons ta (tCons tb tNil))) σ H W ((List.range (n - m)).map (m + ·)) := fun H0 e R q =>
  h H0 e _ fun u H1 e1 p => h2 H1 (e.trans e1) _ fun v H2 e2 p2 => ⟨m, n, by rw [Is.nat p, Is.nat p2], ⟨by omega, by omega, by omega, by omega⟩, q _ H2 (e1.trans e2) fun H' _ => ⟨fun i x hx => by
    obtain ⟨hi, rfl⟩ : i < n - m ∧ x = m + i := by
      rw [List.getElem?_map] at hx
      obtain ⟨y, hy, rfl⟩ := Option.map_eq_some_iff.mp hx
      have := List.getElem?_eq_some_iff.mp hy
      simp at this
      exact ⟨this.1, by omega⟩
    refine ⟨by show i < ((n : Int) - (m : Int)).toNat; omega, fun v H'' ⟨e, z⟩ => ?_⟩
    subst e z
    refine ⟨Ex.refl _, ?_⟩
    show Im K _ (.int ((m : Int) + (i : Int))) (.int ((m + i : Nat) : Int))
    rw [Int.natCast_add]
    exact .int _, by show ((n : Int) - (m : Int)).toNat ≤ _; rw [List.length_map, List.length_range]; omega⟩⟩
/-- the signs of a text -/
def signs (x : Str) : List Str := x.cps.toList.map fun c => ⟨#[c]⟩
theorem wk_str {x : Str} (h : EvP te σ H (isP K x)) : Wk K (iStr te) σ H W (signs x) := fun H0 e R q =>
  h H0 e _ fun v H1 e1 p => ⟨x, Is.text p, q _ H1 e1 fun H' _ => ⟨fun i y hy => by
    unfold signs at hy
    rw [List.getElem?_map] at hy
    obtain ⟨c, hc, rfl⟩ := Option.map_eq_some_iff.mp hy
    rw [Array.getElem?_toList] at hc
    refine ⟨(Array.getElem?_eq_some_iff.mp hc).1, fun v H'' ⟨e, z⟩ => ?_⟩
    obtain ⟨d, hd, z⟩ := z
    subst e z
    rw [hc] at hd
    cases hd
    exact ⟨Ex.refl _, .str _⟩, by show x.cps.size ≤ (signs x).length; unfold signs; simp⟩⟩
theorem zip_get {β : Type} {xs : List α} {ys : List β} {i : Nat} {p : α × β} (h : (xs.zip ys)[i]? = some p) : xs[i]? = some p.1 ∧ ys[i]? = some p.2 := by
  rw [List.getElem?_zip_eq_some] at h
  exact h
/-- zip of two lists -/
theorem wk_zipL {ys : List β} (h : EvP ta σ H P) (h2 : EvP tb σ H P') (hP : ∀ v H1, Ex H H1 → P v H1 → ∃ a vs, v = .ref a ∧ SqL K H1 a vs ∧ IsAll K H1 vs xs) (hP' : ∀ v H1, Ex H H1 → P' v H1 → ∃ a vs, v = .ref a ∧ SqL K H1 a vs ∧ IsAll K H1 vs ys) :
    Wk K (RZ.iZipA K (tCons ta (tCons tb tNil))) σ H [] (xs.zip ys) := fun H0 e R q =>
  h H0 e _ fun u H1 e1 p => h2 H1 (e.trans e1) _ fun v H2 e2 p2 => by
    obtain ⟨a, vs, rfl, ha, ia⟩ := hP u H1 (e.trans e1) p
    obtain ⟨b, us, rfl, hb, ib⟩ := hP' v H2 ((e.trans e1).trans e2) p2
    have l1 := IsAll.len ia
    have l2 := IsAll.len ib
    refine ⟨a, b, vs, us, rfl, .inl ⟨ex_l e2 ha, hb, q _ H2 (e1.trans e2) fun H' x => ?_⟩⟩
    have x' := x.nil
    have ha' := ex_l (e2.trans x') ha
    have hb' := ex_l x' hb
    refine ⟨fun i y hy => ?_, ⟨vs, us, ha', hb', by rw [List.length_zip]; omega⟩⟩
    obtain ⟨g1, g2⟩ := zip_get hy
    obtain ⟨u1, hu1, iu1⟩ := IsAll.item (ImAll.ex (e2.trans x') ia) g1
    obtain ⟨u2, hu2, iu2⟩ := IsAll.item (ImAll.ex x' ib) g2
    refine ⟨⟨vs, us, u1, u2, ha', hb', hu1, hu2⟩, fun w H'' z => ?_⟩
    obtain ⟨T, x1, x2, rfl, hT, rfl, z1, z2⟩ := z
    have q1 := z1 vs ha'
    have q2 := z2 us hb'
    rw [hu1] at q1; cases q1
    rw [hu2] at q2; cases q2
    exact ⟨Ex.new hT, Is.mkPair (st_of upd_same) (Im.ex (Ex.new hT) iu1) (Im.ex (Ex.new hT) iu2)⟩

/-! ### comprehensions -/
def Cv (K : PySem.W.Frag) (H : Hp) (Dl : Addr) (ys : List β) (H' : Hp) : Prop := H Dl = none ∧ Ex H H' ∧ ∃ vs, H' Dl = some (.lst vs) ∧ IsAll K H' vs ys
theorem cv_put {Dl : Addr} {ys : List β} {y : β} {v : V} {vs : List V} (h0 : H Dl = none) (e : Ex H H') (h : H' Dl = some (.lst vs)) (hi : IsAll K H' vs ys) (hv : Is K H' v y) : Cv K H Dl (ys ++ [y]) (upd H' Dl (.lst (vs ++ [v]))) :=
  ⟨h0, Ex.mut e h0, _, upd_same, IsAll.snoc (ImAll.tk (.lst h) hi) (Im.tk (.lst h) hv)⟩
theorem take_one {l : List α} {i : Nat} {x : α} (h : l[i]? = some x) : l.take (i + 1) = l.take i ++ [x] := by
  rw [List.take_succ, h]; rfl
/-- [te for g in wi if t]: S x σ is how the target stands when x has come -/
theorem el_lc {wi : TI} {g : TG} {t : TT} {vs : List Nat} (S : α → L2.St → Hp → Prop) (f : α → Bool) (gg : α → β) (h : Wk K wi σ H [] xs) (hz : xs.length ≤ 50000)
    (hg : ∀ x ∈ xs, ∀ v H1, Ex H H1 → Is K H1 v x → ∀ Q : L2.St → Hp → Prop, (∀ σ2, wipe σ2 vs = wipe σ vs → S x σ2 H1 → Q σ2 H1) → g v (wipe σ vs) H1 Q)
    (ht : ∀ x ∈ xs, ∀ σ2 H1, Ex H H1 → S x σ2 H1 → EvT t σ2 H1 (f x))
    (he : ∀ x ∈ xs, ∀ σ2 H1, Ex H H1 → S x σ2 H1 → f x = true → EvP te σ2 H1 (isP K (gg x))) : EvP (tLc wi g t te vs) σ H (nlP K H ((xs.filter f).map gg)) := fun H0 e Q q =>
  h H0 e _ fun J H1 e1 hJ => fun Dl hD => by
    have hD0 : H Dl = none := fresh_back (e.trans e1) hD
    refine ⟨fun i m H' => m = xs.length - i ∧ i ≤ xs.length ∧ Cv K H1 Dl (((xs.take i).filter f).map gg) H', ⟨xs.length, by simp, Nat.zero_le _, hD, Ex.new hD, [], upd_same, .nil⟩, ?_⟩
    rintro i m H' ⟨rfl, hi, c0, c1, us, c2, c3⟩
    obtain ⟨jg, js⟩ := hJ H' (.of c1)
    by_cases hlt : i < xs.length
    · have hx : xs[i]? = some xs[i] := List.getElem?_eq_getElem hlt
      have hm : xs[i] ∈ xs := List.getElem_mem hlt
      generalize xs[i] = x at hx hm
      obtain ⟨j1, j2⟩ := jg i x hx
      refine .inr ⟨j1, fun H'' => Cv K H1 Dl (((xs.take (i + 1)).filter f).map gg) H'', fun H'' c => ⟨xs.length - (i + 1), by omega, rfl, hlt, c⟩, fun v H'' y => ?_⟩
      obtain ⟨e2, iv⟩ := j2 v H'' y
      have eb : Ex H H'' := ((e.trans e1).trans c1).trans e2
      refine hg x hm v H'' eb iv _ fun σ2 hw hS => ⟨hw, ?_⟩
      refine ht x hm σ2 H'' eb hS H'' (Ex.refl _) _ fun H3 e3 => ?_
      cases hf : f x with
      | true =>
        show te σ2 H3 fun y H4 => ∃ acc, H4 Dl = some (.lst acc) ∧ acc.length < sizeLine ∧ Cv K H1 Dl (((xs.take (i + 1)).filter f).map gg) (upd H4 Dl (.lst (acc ++ [y])))
        refine he x hm σ2 H'' eb hS hf H3 e3 _ fun w H4 e4 iw => ?_
        have ea : Ex H' H4 := (e2.trans e3).trans e4
        refine ⟨us, ea _ _ c2, sz_lt ?_, ?_⟩
        · have l1 := IsAll.len c3
          have l2 := List.length_filter_le f (xs.take i)
          rw [List.length_map] at l1
          rw [List.length_take] at l2
          omega
        · rw [take_one hx, List.filter_append, List.map_append, List.filter_cons, if_pos hf]
          exact cv_put c0 (c1.trans ea) (ea _ _ c2) (ImAll.ex ea c3) iw
      | false =>
        show Cv K H1 Dl (((xs.take (i + 1)).filter f).map gg) H3
        rw [take_one hx, List.filter_append, List.map_append, List.filter_cons, if_neg (by rw [hf]; decide)]
        show Cv K H1 Dl (_ ++ []) H3
        rw [List.append_nil]
        exact ⟨c0, c1.trans (e2.trans e3), us, (e2.trans e3) _ _ c2, ImAll.ex (e2.trans e3) c3⟩
    · have hii : i = xs.length := by omega
      subst hii
      rw [List.take_length] at c3
      exact .inl ⟨js, q _ H' (e1.trans c1) ⟨Dl, us, rfl, hD0, c2, c3⟩⟩
/-- the target is a name -/
def Sn (K : PySem.W.Frag) (σ : L2.St) (vs : List Nat) (j : Nat) (x : α) (σ2 : L2.St) (H1 : Hp) : Prop := ∃ v, σ2 = (wipe σ vs).set j (some v) ∧ Is K H1 v x
theorem el_lcN {wi : TI} {t : TT} {vs : List Nat} {j : Nat} (f : α → Bool) (gg : α → β) (h : Wk K wi σ H [] xs) (hz : xs.length ≤ 50000) (hw : ∀ x, wipe ((wipe σ vs).set j (some x)) vs = wipe σ vs)
    (ht : ∀ x ∈ xs, ∀ v H1, Ex H H1 → Is K H1 v x → EvT t ((wipe σ vs).set j (some v)) H1 (f x))
    (he : ∀ x ∈ xs, ∀ v H1, Ex H H1 → Is K H1 v x → f x = true → EvP te ((wipe σ vs).set j (some v)) H1 (isP K (gg x))) : EvP (tLc wi (gName j) t te vs) σ H (nlP K H ((xs.filter f).map gg)) :=
  el_lc (Sn K σ vs j) f gg h hz (fun x _ v H1 _ iv Q q => q _ (hw _) ⟨v, rfl, iv⟩) (fun x hx σ2 H1 e ⟨v, hv, iv⟩ => by subst hv; exact ht x hx v H1 e iv) (fun x hx σ2 H1 e ⟨v, hv, iv⟩ hf => by subst hv; exact he x hx v H1 e iv hf)
theorem et_yes : EvT tYes σ H true := fun H1 _ Q q => q H1 (Ex.refl H1)
/-- no test -/
theorem el_map {wi : TI} {vs : List Nat} {j : Nat} (gg : α → β) (h : Wk K wi σ H [] xs) (hz : xs.length ≤ 50000) (hw : ∀ x, wipe ((wipe σ vs).set j (some x)) vs = wipe σ vs)
    (he : ∀ x ∈ xs, ∀ v H1, Ex H H1 → Is K H1 v x → EvP te ((wipe σ vs).set j (some v)) H1 (isP K (gg x))) : EvP (tLc wi (gName j) tYes te vs) σ H (nlP K H (xs.map gg)) := by
  have q := el_lcN (te := te) (t := tYes) (fun _ => true) gg h hz hw (fun _ _ _ _ _ _ => et_yes) (fun x hx v H1 e iv _ => he x hx v H1 e iv)
  rw [List.filter_eq_self.mpr (fun _ _ => rfl)] at q
  exact q
/-- the target is two names -/
def S2 {β : Type} [Ec β] (K : PySem.W.Frag) (σ : L2.St) (vs : List Nat) (i j : Nat) (p : α × β) (σ2 : L2.St) (H1 : Hp) : Prop := ∃ u w, σ2 = ((wipe σ vs).set i (some u)).set j (some w) ∧ Is K H1 u p.1 ∧ Is K H1 w p.2
/-- the target (x, y) -/
def g2 (K : PySem.W.Frag) (i j : Nat) : TG := gTup K 2 (gCons (gName i) (gCons (gName j) gNil))
theorem g2_run {β : Type} [Ec β] {i j : Nat} {p : α × β} {v : V} {Q : L2.St → Hp → Prop} (h : Is K H v p) (q : ∀ u w, Is K H u p.1 → Is K H w p.2 → Q ((σ.set i (some u)).set j (some w)) H) : g2 K i j v σ H Q := by
  obtain ⟨a, u, w, rfl, h2, h3, h4⟩ := Is.pair h
  exact ⟨a, _, rfl, h2, rfl, u, _, rfl, w, _, rfl, rfl, q u w h3 h4⟩
theorem el_lc2n {γ : Type} [Ec γ] {β : Type} [Ec β] {ps : List (α × β)} {wi : TI} {t : TT} {vs : List Nat} {i j : Nat} (f : α × β → Bool) (gg : α × β → γ) (h : Wk K wi σ H [] ps) (hz : ps.length ≤ 50000) (hw : ∀ x y, wipe (((wipe σ vs).set i (some x)).set j (some y)) vs = wipe σ vs)
    (ht : ∀ p ∈ ps, ∀ u w H1, Ex H H1 → Is K H1 u p.1 → Is K H1 w p.2 → EvT t (((wipe σ vs).set i (some u)).set j (some w)) H1 (f p))
    (he : ∀ p ∈ ps, ∀ u w H1, Ex H H1 → Is K H1 u p.1 → Is K H1 w p.2 → f p = true → EvP te (((wipe σ vs).set i (some u)).set j (some w)) H1 (isP K (gg p))) : EvP (tLc wi (g2 K i j) t te vs) σ H (nlP K H ((ps.filter f).map gg)) :=
  el_lc (S2 K σ vs i j) f gg h hz (fun x _ v H1 _ iv Q q => g2_run iv fun u w iu iw => q _ (hw _ _) ⟨u, w, rfl, iu, iw⟩) (fun x hx σ2 H1 e ⟨u, w, hv, iu, iw⟩ => by subst hv; exact ht x hx u w H1 e iu iw)
    (fun x hx σ2 H1 e ⟨u, w, hv, iu, iw⟩ hf => by subst hv; exact he x hx u w H1 e iu iw hf)

/-! ### two clauses -/
theorem el_lc2 {wi wi1 : TI} {j j1 : Nat} {vs vs1 : List Nat} {γ : Type} [Ec γ] (ff : α → List β) (gg : α → β → γ) (h : Wk K wi σ H [] xs) (hz : (xs.map fun x => (ff x).length).sum ≤ 50000) (hw : ∀ x, wipe ((wipe σ vs).set j (some x)) vs = wipe σ vs)
    (hw1 : ∀ x y, wipe ((wipe ((wipe σ vs).set j (some x)) vs1).set j1 (some y)) vs1 = wipe ((wipe σ vs).set j (some x)) vs1)
    (h1 : ∀ x ∈ xs, ∀ v H1 W, Ex H H1 → (∀ b ∈ W, H b = none ∧ H1 b ≠ none) → Is K H1 v x → Wk K wi1 ((wipe σ vs).set j (some v)) H1 W (ff x))
    (he : ∀ x ∈ xs, ∀ y ∈ ff x, ∀ v w H1, Ex H H1 → Is K H1 v x → Is K H1 w y → EvP te ((wipe ((wipe σ vs).set j (some v)) vs1).set j1 (some w)) H1 (isP K (gg x y))) :
    EvP (tLc2 wi (gName j) tYes wi1 (gName j1) tYes te vs vs1) σ H (nlP K H (xs.flatMap fun x => (ff x).map (gg x))) := fun H0 e Q q =>
  h H0 e _ fun J H1 e1 hJ => fun Dl hD => by
    have hD0 : H Dl = none := fresh_back (e.trans e1) hD
    have tot : ∀ l : List α, (l.flatMap fun x => (ff x).map (gg x)).length = (l.map fun x => (ff x).length).sum := by
      intro l
      induction l with
      | nil => rfl
      | cons x l ih => rw [List.flatMap_cons, List.length_append, List.length_map, ih, List.map_cons, List.sum_cons]
    have part : ∀ (l : List α) (i : Nat), ((l.take i).map fun x => (ff x).length).sum ≤ (l.map fun x => (ff x).length).sum := by
      intro l
      induction l with
      | nil => intro i; simp
      | cons x l ih =>
        intro i
        cases i with
        | zero => simp
        | succ i => rw [List.take_succ_cons, List.map_cons, List.sum_cons, List.map_cons, List.sum_cons]; have := ih i; omega
    refine ⟨fun i m H' => m = xs.length - i ∧ i ≤ xs.length ∧ Cv K H1 Dl ((xs.take i).flatMap fun x => (ff x).map (gg x)) H', ⟨xs.length, by simp, Nat.zero_le _, hD, Ex.new hD, [], upd_same, .nil⟩, ?_⟩
    rintro i m H' ⟨rfl, hi, c0, c1, us, c2, c3⟩
    obtain ⟨jg, js⟩ := hJ H' (.of c1)
    by_cases hlt : i < xs.length
    · have hx : xs[i]? = some xs[i] := List.getElem?_eq_getElem hlt
      have hm : xs[i] ∈ xs := List.getElem_mem hlt
      generalize xs[i] = x at hx hm
      obtain ⟨j1', j2⟩ := jg i x hx
      refine .inr ⟨j1', fun H'' => Cv K H1 Dl ((xs.take (i + 1)).flatMap fun x => (ff x).map (gg x)) H'', fun H'' c => ⟨xs.length - (i + 1), by omega, rfl, hlt, c⟩, fun v H'' y => ?_⟩
      obtain ⟨e2, iv⟩ := j2 v H'' y
      have eb : Ex H H'' := ((e.trans e1).trans c1).trans e2
      refine ⟨hw _, ?_⟩
      show wi1 ((wipe σ vs).set j (some v)) H'' _
      refine h1 x hm v H'' [Dl] eb (fun b hb => by
        rw [List.mem_singleton.mp hb]
        exact ⟨hD0, by rw [e2 _ _ c2]; exact fun z => nomatch z⟩) iv H'' (Ex.refl _) _ fun J1 H3 e3 hJ1 => ?_
      have ew : Ex H1 H3 := (c1.trans e2).trans e3
      refine ⟨fun k m H4 => m = (ff x).length - k ∧ k ≤ (ff x).length ∧ Cv K H1 Dl (((xs.take i).flatMap fun x => (ff x).map (gg x)) ++ ((ff x).take k).map (gg x)) H4 ∧ ExL K [Dl] H3 H4, ⟨(ff x).length, by simp, Nat.zero_le _, ⟨c0, ew, us, (e2.trans e3) _ _ c2, by simpa using ImAll.ex (e2.trans e3) c3⟩, .refl⟩, ?_⟩
      rintro k m H4 ⟨rfl, hk, ⟨d0, d1, ws, d2, d3⟩, d4⟩
      obtain ⟨kg, ks⟩ := hJ1 H4 d4
      by_cases hlt1 : k < (ff x).length
      · have hy : (ff x)[k]? = some (ff x)[k] := List.getElem?_eq_getElem hlt1
        have hm1 : (ff x)[k] ∈ ff x := List.getElem_mem hlt1
        generalize (ff x)[k] = y at hy hm1
        obtain ⟨k1, k2⟩ := kg k y hy
        refine .inr ⟨k1, fun H5 => Cv K H1 Dl (((xs.take i).flatMap fun x => (ff x).map (gg x)) ++ ((ff x).take (k + 1)).map (gg x)) H5 ∧ ExL K [Dl] H3 H5, fun H5 c => ⟨(ff x).length - (k + 1), by omega, rfl, hlt1, c.1, c.2⟩, fun w H5 z => ?_⟩
        obtain ⟨e5, iw⟩ := k2 w H5 z
        refine ⟨hw1 _ _, ?_⟩
        show te ((wipe ((wipe σ vs).set j (some v)) vs1).set j1 (some w)) H5 _
        have ed : Ex H H5 := ((e.trans e1).trans d1).trans e5
        have iv' : Is K H5 v x := Im.tk ((Tk.ex e3).trans (d4.tk.trans (.ex e5))) iv
        refine he x hm y hm1 v w H5 ed iv' iw H5 (Ex.refl _) _ fun r H6 e6 ir => ?_
        have ef : Ex H4 H6 := e5.trans e6
        refine ⟨ws, ef _ _ d2, sz_lt ?_, ?_, ?_⟩
        · have l1 := IsAll.len d3
          have l2 := tot (xs.take (i + 1))
          have l3 := part xs (i + 1)
          rw [take_one hx, List.flatMap_append, List.length_append, List.flatMap_cons, List.flatMap_nil, List.append_nil, List.length_map] at l2
          rw [List.length_append, List.length_map, List.length_take] at l1
          rw [take_one hx] at l3
          omega
        · rw [take_one hy, List.map_append, ← List.append_assoc]
          exact cv_put d0 (d1.trans ef) (ef _ _ d2) (ImAll.ex ef d3) ir
        · exact (d4.then ef).lst List.mem_cons_self (ef _ _ d2)
      · have hkk : k = (ff x).length := by omega
        subst hkk
        refine .inl ⟨ks, d0, d1, ws, d2, ?_⟩
        rw [List.take_length] at d3
        rw [take_one hx, List.flatMap_append, List.flatMap_cons, List.flatMap_nil, List.append_nil]
        exact d3
    · have hii : i = xs.length := by omega
      subst hii
      rw [List.take_length] at c3
      exact .inl ⟨js, q _ H' (e1.trans c1) ⟨Dl, us, rfl, hD0, c2, c3⟩⟩
end
end
end MoR
set_option maxHeartbeats 4000000
/-! for, while, calls, statements, tests: typed -/
namespace MoR
open PySem PySem.Spec PyProof.Rows L2 PySem.W Evl
section
variable {K : PySem.W.Frag} {σ : L2.St} {H H' H1 H2 : Hp} {W : List Addr} {D : Ends}
section
variable {α β γ : Type} [Ec α] [Ec β] [Ec γ] {te ta tb tl : TE} {t u : TT} {P P' R : VP} {xs : List α} {tu tw : TS} {g : TG}
/-- for g in wi: tb -/
theorem s_for {wi : TI} {tb : TS} (h : Wk K wi σ H W xs) (Pv : Hp → Nat → L2.St → Hp → Prop) (h0 : ∀ H1, Ex H H1 → Pv H1 0 σ H1) (hk : ∀ H1 i σ' H', Ex H H1 → Pv H1 i σ' H' → ExL K W H1 H')
    (hs : ∀ H1 i x v σ' H' H'', Ex H H1 → xs[i]? = some x → Pv H1 i σ' H' → Ex H' H'' → Is K H'' v x → g v σ' H'' fun σ2 H2 => tb { D with nx := Pv H1 (i + 1), ct := Pv H1 (i + 1), bk := D.nx } σ2 H2)
    (hd : ∀ H1 σ' H', Ex H H1 → Pv H1 xs.length σ' H' → D.nx σ' H') : tFor wi g tb D σ H :=
  h H (Ex.refl H) _ fun J H1 e1 hJ => ⟨fun i m σ' H' => m = xs.length - i ∧ i ≤ xs.length ∧ Pv H1 i σ' H', ⟨xs.length, by simp, Nat.zero_le _, h0 H1 e1⟩, by
    rintro i m σ' H' ⟨rfl, hi, p⟩
    obtain ⟨jg, js⟩ := hJ H' (hk H1 i σ' H' e1 p)
    by_cases hlt : i < xs.length
    · have hx : xs[i]? = some xs[i] := List.getElem?_eq_getElem hlt
      obtain ⟨j1, j2⟩ := jg i _ hx
      exact .inr ⟨j1, Pv H1 (i + 1), fun σ2 H2 p2 => ⟨xs.length - (i + 1), by omega, rfl, hlt, p2⟩, fun v H'' y => by
        obtain ⟨e2, iv⟩ := j2 v H'' y
        exact hs H1 i _ v σ' H' H'' e1 hx p e2 iv⟩
    · have hii : i = xs.length := by omega
      subst hii
      exact .inl ⟨js, hd H1 σ' H' e1 p⟩⟩
/-! ### tests -/
theorem et_T {b : Bool} (h : EvP te σ H (isP K b)) : EvT (tTest te) σ H b := fun H1 e Q q => h H1 e _ fun v H2 e2 p => ⟨b, by cases p; rfl, q H2 e2⟩
theorem et_V {b : Bool} (h : EvP te σ H (isP K b)) : EvT (tB te) σ H b := fun H1 e Q q => h H1 e _ fun v H2 e2 p => ⟨b, by cases p; rfl, q H2 e2⟩
theorem EvT.at {b c : Bool} (h : EvT t σ H b) (e : b = c) : EvT t σ H c := e ▸ h
theorem EvP.at {x y : α} (h : EvP te σ H (isP K x)) (e : x = y) : EvP te σ H (isP K y) := e ▸ h
theorem EvP.atL {H0 : Hp} {ys : List α} (h : EvP te σ H (nlP K H0 xs)) (e : xs = ys) : EvP te σ H (nlP K H0 ys) := e ▸ h
theorem ep_not {b : Bool} (h : EvP te σ H (isP K b)) : EvP (tNotV te) σ H (isP K (!b)) := fun H1 e Q q => h H1 e _ fun v H2 e2 p => ⟨b, by cases p; rfl, q _ H2 e2 (.bl _)⟩
theorem ep_and {a b : Bool} (h1 : EvP ta σ H (isP K a)) (h2 : a = true → EvP tb σ H (isP K b)) : EvP (tAndV ta tb) σ H (isP K (a && b)) := fun H1 e Q q => h1 H1 e _ fun v H2 e2 p => ⟨a, by cases p; rfl, by
  cases a with
  | true =>
    show tb σ H2 Q
    exact h2 rfl H2 (e.trans e2) Q fun v H3 e3 p3 => q v H3 (e2.trans e3) p3
  | false =>
    show Q (.bl false) H2
    exact q _ H2 e2 (.bl _)⟩
theorem ep_or {a b : Bool} (h1 : EvP ta σ H (isP K a)) (h2 : a = false → EvP tb σ H (isP K b)) : EvP (tOrV ta tb) σ H (isP K (a || b)) := fun H1 e Q q => h1 H1 e _ fun v H2 e2 p => ⟨a, by cases p; rfl, by
  cases a with
  | false =>
    show tb σ H2 Q
    exact h2 rfl H2 (e.trans e2) Q fun v H3 e3 p3 => q v H3 (e2.trans e3) p3
  | true =>
    show Q (.bl true) H2
    exact q _ H2 e2 (.bl _)⟩
theorem ep_if {b : Bool} (h : EvT t σ H b) (h1 : b = true → EvP ta σ H P) (h2 : b = false → EvP tb σ H P) : EvP (tIf t ta tb) σ H P := fun H1 e Q q => h H1 e _ fun H2 e2 => by
  cases b with
  | true =>
    show ta σ H2 Q
    exact h1 rfl H2 (e.trans e2) Q fun v H3 e3 p => q v H3 (e2.trans e3) p
  | false =>
    show tb σ H2 Q
    exact h2 rfl H2 (e.trans e2) Q fun v H3 e3 p => q v H3 (e2.trans e3) p
/-! ### calls -/
inductive AllP : List VP → List V → Hp → Prop
  | nil {H : Hp} : AllP [] [] H
  | cons {P : VP} {Ps : List VP} {v : V} {vs : List V} {H : Hp} : P v H → AllP Ps vs H → AllP (P :: Ps) (v :: vs) H
def EvAs (ta : TA) (σ : L2.St) (H : Hp) (Ps : List VP) : Prop := ∀ H1, Ex H H1 → ∀ Q : List V → Hp → Prop, (∀ vs H2, Ex H1 H2 → AllP Ps vs H2 → Q vs H2) → ta σ H1 Q
theorem ea_nil' : EvAs tNil σ H [] := fun H1 _ Q q => q [] H1 (Ex.refl H1) .nil
theorem ea_cons' {ts : TA} {Ps : List VP} (h : EvP te σ H P) (m : MonoP P) (hr : EvAs ts σ H Ps) : EvAs (tCons te ts) σ H (P :: Ps) := fun H1 e Q q =>
  h H1 e _ fun v H2 e2 p => hr H2 (e.trans e2) _ fun vs H3 e3 ps => q _ H3 (e2.trans e3) (.cons (m _ _ _ e3 p) ps)
/-- a promise: from the arguments Ps a value R comes, all that was known stands -/
def Pro (sp : Sp) (Ps : List VP) (Rs : Hp → VP) : Prop := ∀ vs H, AllP Ps vs H → ∀ (Q : VK) (E : XK), (∀ v H', Ex H H' → Rs H v H' → Q v H') → sp vs H Q E
theorem ep_call {sp : Sp} {E : XK} {ts : TA} {Ps : List VP} {Rs : Hp → VP} (hp : Pro sp Ps Rs) (h : EvAs ts σ H Ps) (hR : ∀ H1 v H2, Ex H H1 → Rs H1 v H2 → R v H2) : EvP (tCall sp [] E ts) σ H R := fun H1 e Q q =>
  h H1 e _ fun vs H2 e2 ps => by
    show sp (vs ++ []) H2 Q E
    rw [List.append_nil]
    exact hp vs H2 ps Q E fun v H3 e3 r => q v H3 (e2.trans e3) (hR H2 v H3 (e.trans e2) r)
/-- the promise that gives such a value, as a Sp -/
def spP {ι : Type} (Ps : ι → List VP) (ok : ι → Prop) (Rs : ι → Hp → VP) : Sp := fun vs H Q _ => ∃ i, AllP (Ps i) vs H ∧ ok i ∧ ∀ v H', Ex H H' → Rs i H v H' → Q v H'
theorem pro_sp {ι : Type} {Ps : ι → List VP} {ok : ι → Prop} {Rs : ι → Hp → VP} (i : ι) (h : ok i) : Pro (spP Ps ok Rs) (Ps i) (Rs i) := fun vs H ps Q E q => ⟨i, ps, h, q⟩
theorem ep_sp {ι : Type} {Ps : ι → List VP} {ok : ι → Prop} {Rs : ι → Hp → VP} {E : XK} {ts : TA} (i : ι) (hok : ok i) (h : EvAs ts σ H (Ps i)) (hR : ∀ H1 v H2, Ex H H1 → Rs i H1 v H2 → R v H2) : EvP (tCall (spP Ps ok Rs) [] E ts) σ H R :=
  ep_call (pro_sp i hok) h hR
/-! ### statements -/
theorem ms_asg {i : Nat} (h : EvP te σ H P) (k : ∀ v H1, Ex H H1 → P v H1 → D.nx (σ.set i (some v)) H1) : tAsg te (gName i) D σ H := h H (Ex.refl H) _ fun v H1 e p => k v H1 e p
theorem ms_ret (h : EvP te σ H P) (k : ∀ v H1, Ex H H1 → P v H1 → D.rt v H1) : tRet te D σ H := h H (Ex.refl H) _ k
theorem ms_if {b : Bool} (h : EvT t σ H b) (h1 : b = true → ∀ H1, Ex H H1 → tu D σ H1) (h2 : b = false → ∀ H1, Ex H H1 → tw D σ H1) : tIfS t tu tw D σ H := s_if h h1 h2
/-- xs.append(e) -/
theorem ms_app {i : Nat} {l : Addr} {vs : List V} (ha : σ[i]? = some (some (.ref l))) (hl : H l = some (.lst vs)) (h : EvP te σ H P) (hz : vs.length < 100000) (k : ∀ v H1, Ex H H1 → P v H1 → D.nx σ (upd H1 l (.lst (vs ++ [v])))) :
    tDrop (tBM K "list" rAppend (tVar i) (tCons te tNil)) D σ H := ⟨_, ha, .inl ⟨rfl, vs, sq_of hl⟩, h H (Ex.refl H) _ fun v H1 e p => ⟨l, vs, v, rfl, rfl, e l _ hl, sz_lt hz, k v H1 e p⟩⟩
/-- xs.extend(e), e a new list -/
theorem ms_ext {i : Nat} {l : Addr} {vs : List V} {H0 : Hp} {ys : List α} (ha : σ[i]? = some (some (.ref l))) (hl : H l = some (.lst vs)) (h : EvP te σ H (nlP K H0 ys)) (hz : vs.length + ys.length ≤ 100000) (k : ∀ us H1, Ex H H1 → IsAll K H1 us ys → D.nx σ (upd H1 l (.lst (vs ++ us)))) :
    tDrop (tBM K "list" rExtend (tVar i) (tCons te tNil)) D σ H := ⟨_, ha, .inl ⟨rfl, vs, sq_of hl⟩, h H (Ex.refl H) _ fun v H1 e ⟨b, us, h1, _, h2, h3⟩ => ⟨l, b, vs, us, rfl, by rw [h1], e l _ hl, h2, sz_of (by rw [IsAll.len h3]; exact hz), k us H1 e h3⟩⟩
theorem ms_par {i j : Nat} {ta tb : TE} (h : EvP ta σ H P) (m : MonoP P) (h2 : EvP tb σ H P') (k : ∀ v w H1, Ex H H1 → P v H1 → P' w H1 → D.nx ((σ.set i (some v)).set j (some w)) H1) : tPar i j (tCons ta (tCons tb tNil)) D σ H :=
  h H (Ex.refl H) _ fun v H1 e p => h2 H1 e _ fun w H2 e2 p2 => ⟨v, w, rfl, k v w H2 (e.trans e2) (m _ _ _ e2 p) p2⟩
theorem ms_asg2 {i j : Nat} {x : α} {y : β} (h : EvP te σ H (isP K (x, y))) (k : ∀ v w H1, Ex H H1 → Is K H1 v x → Is K H1 w y → D.nx ((σ.set i (some v)).set j (some w)) H1) : tAsg te (g2 K i j) D σ H :=
  h H (Ex.refl H) _ fun v H1 e p => g2_run p fun u w iu iw => k u w H1 e iu iw
theorem ms_augN {i : Nat} {m n : Nat} (hx : σ[i]? = some (some (.int (m : Int)))) (h : EvP te σ H (isP K n)) (k : ∀ H1, Ex H H1 → D.nx (σ.set i (some (.int ((m + n : Nat) : Int)))) H1) : tAug i te (ipI fun a b => a + b) D σ H :=
  ⟨_, hx, h H (Ex.refl H) _ fun v H1 e p => ⟨m, n, rfl, Is.nat p, by
    show D.nx (σ.set i (some (.int ((m : Int) + (n : Int))))) H1
    rw [← Int.natCast_add]; exact k H1 e⟩⟩
end
end
/-- a def that is there, with its promise -/
structure Cal (P : Program) (w : World) (K : PySem.W.Frag) (mg : Str → Option Value) (base : Heap) (x : Str) (k : Nat) (ps : List Str) (sp : Sp) : Prop where
  ex : ∃ (f : Addr) (fd : FuncData), FnOk P w K mg base CX0 k f fd ps sp ∧ mg x = some (.ref f) ∧ PySem.W.keepIn K (.ref f) = true ∧ Binds K fd ps []
theorem pe_cal {X : Cx} {x : Str} {k j : Nat} {ps : List Str} {sp : Sp} {e : Expr} {es : List Expr} {t : TA} {p pos : Pos} (C : Cal X.prog X.w X.K X.mg X.base x k ps sp) (hr : Room j X.A) (hj : k ≤ j) (hg : Gl X x) (ha : PA X (e :: es) t) (hdb : (x == ("__debug__" : Str)) = false := by decide)
    (he : starEach (e :: es) X.env = (false, eval e X.env) :: starEach es X.env := by rfl) (hpl : (backTo pos (starEach es X.env)).any (·.1) = false := by rfl) : PE X (.Call (.Name x p) (e :: es) [] pos) (tCall sp [] E0 t) := by
  obtain ⟨f, fd, F, hm, hk, hb⟩ := C.ex
  exact pe_call F (hr.mono hj) hg hm hk hb .nil pass0 ha hdb he hpl
theorem pe_cal0 {X : Cx} {x : Str} {k j : Nat} {sp : Sp} {p pos : Pos} (C : Cal X.prog X.w X.K X.mg X.base x k [] sp) (hr : Room j X.A) (hj : k ≤ j) (hg : Gl X x) (hdb : (x == ("__debug__" : Str)) = false := by decide) : PE X (.Call (.Name x p) [] [] pos) (tCall sp [] E0 tNil) := by
  obtain ⟨f, fd, F, hm, hk, hb⟩ := C.ex
  exact pe_call0 F (hr.mono hj) hg hm hk hb .nil pass0 hdb
end MoR
set_option maxHeartbeats 4000000
/-! more readings -/
namespace MoR
open PySem PySem.Spec PyProof.Rows L2 PySem.W Evl
abbrev rMul0 : R2 := rI CMul fun i j => .int (i * j)
abbrev rMod0 : R2 := rI (fun _ j => 0 < j) fun i j => .int (i % j)
abbrev rDiv0 : R2 := rI CDiv fun i j => .int (i / j)
abbrev rPow0 : R2 := rI CPow fun i j => .int (i ^ j.toNat)
abbrev rAbs : List V → Hp → VK → Prop := fun xs H Q => ∃ i, xs = [.int i] ∧ Q (.int (if i < 0 then -i else i)) H
abbrev rMin2 : List V → Hp → VK → Prop := fun xs H Q => ∃ i j, xs = [.int i, .int j] ∧ Q (.int (if j < i then j else i)) H
abbrev rInt1 : List V → Hp → VK → Prop := fun xs H Q => (∃ i, xs = [.int i] ∧ Q (.int i) H) ∨ ∃ k, xs = [.bl k] ∧ Q (.int (if k then 1 else 0)) H
abbrev rCatS' : R2 := fun x y H Q => ∃ i j, x = .str i ∧ y = .str j ∧ i.length + j.length ≤ sizeLine ∧ Q (.str (i ++ j)) H
abbrev rJoin (K : PySem.W.Frag) : V → List V → Hp → VK → Prop := fun x xs H Q => ∃ a p, ∃ ys : List Str, x = .str a ∧ xs = [.ref p] ∧ (SqL K H p (ys.map V.str) ∨ SqT K H p (ys.map V.str)) ∧ (ys.map (·.length)).sum + ys.length * a.length ≤ 16777216 ∧ Q (.str (Txt.join a ys)) H
/-- list(text) -/
def rListStr : List V → Hp → VK → Prop := fun xs H Q => ∃ x : Str, xs = [.str x] ∧ x.length ≤ 1000 ∧ ∀ p, H p = none → Q (.ref p) (upd H p (.lst ((signs x).map V.str)))
theorem cr_listStr {X : Cx} (hc : X.calm = true) : CallR X (.type "list") rListStr := by
  intro pins s σ H xs us Q I r h
  obtain ⟨x, rfl, hx, q⟩ := h
  obtain ⟨u, rfl, ru⟩ := r.one
  obtain ⟨t, rfl⟩ := ru
  have hsz : x.cps.size ≤ 1000 := hx
  have hn : H s.heap.objs.size = none := I.hok.fresh (Nat.le_refl _)
  refine call_list_str (I.ok.hd hc) x t (fun h' tk acc c k hS hacc => ?_) (Nat.le_trans hsz (by decide))
  have e : acc.toList.length = x.cps.size := by rw [Array.length_toList]; exact hacc.1
  have hv : Vals ((signs x).map V.str) acc.toList := by
    have key : ∀ (cs : List Nat) (us : List Value) (i : Nat), us.length = cs.length → (∀ j, j < cs.length → ∃ c t, cs[j]? = some c ∧ us[j]? = some (.str ⟨#[c]⟩ t)) → Vals ((cs.map fun c => (⟨#[c]⟩ : Str)).map V.str) us := by
      intro cs
      induction cs with
      | nil => intro us i hl _; cases us with
        | nil => exact .nil
        | cons _ _ => simp at hl
      | cons c cs ih =>
        intro us i hl h
        cases us with
        | nil => simp at hl
        | cons u us =>
          obtain ⟨c', t', h1, h2⟩ := h 0 (by simp)
          simp at h1 h2
          subst h1 h2
          refine .cons ⟨t', rfl⟩ (ih us i (by simpa using hl) fun j hj => ?_)
          obtain ⟨c2, t2, g1, g2⟩ := h (j + 1) (by simp; omega)
          exact ⟨c2, t2, by simpa using g1, by simpa using g2⟩
    refine key x.cps.toList acc.toList 0 (by rw [e]; simp) fun j hj => ?_
    have hj' : j < acc.size := by rw [hacc.1]; simpa using hj
    obtain ⟨c0, u0, g1, g2⟩ := hacc.2 j acc[j] (Array.getElem?_eq_getElem hj')
    exact ⟨c0, u0, by rw [Array.getElem?_toList]; exact g1, by rw [Array.getElem?_toList, Array.getElem?_eq_getElem hj', g2]⟩
  exact ⟨.ref s.heap.objs.size, _, I.laid (t' := tk) k (Nat.le_refl _) (o := .lst ((signs x).map V.str)) ⟨by rw [hv.length, e]; exact Nat.le_trans hsz (by decide), acc.toList, c, hv, by simpa using hS⟩, rfl, q _ hn⟩
end MoR
set_option maxHeartbeats 8000000
/-! the defs of the text: slots, readings, derivations; printed by emit.py -/
namespace MoD
open PySem PySem.Spec PyProof.Rows L2 MoR
def top (i : Nat) : Stmt := PySem.Challenge.pw_moredone_k65_whole_leads_stages_and_turn.main.body.getD i (.Pass ⟨0, 0, 0, 0⟩)
abbrev sis_name : Stmt := top 2
abbrev stupled : Stmt := top 3
abbrev sis_log : Stmt := top 5
abbrev sbegun : Stmt := top 6
abbrev sis_part : Stmt := top 7
abbrev srest : Stmt := top 8
abbrev sin_order : Stmt := top 9
abbrev sleast_of : Stmt := top 10
abbrev sbase_of : Stmt := top 14
abbrev sis_base : Stmt := top 15
abbrev sdoes : Stmt := top 16
abbrev seither : Stmt := top 17
abbrev sthen : Stmt := top 18
abbrev stimes : Stmt := top 19
abbrev sis_inside : Stmt := top 20
abbrev sbehind : Stmt := top 21
abbrev sparted : Stmt := top 22
abbrev sstages : Stmt := top 23
abbrev sstanding : Stmt := top 25
abbrev sstep : Stmt := top 26
abbrev sfirst_names : Stmt := top 27
abbrev shardest : Stmt := top 29
abbrev sleast_into : Stmt := top 31
abbrev samid : Stmt := top 32
abbrev slead : Stmt := top 33
abbrev srest_of : Stmt := top 34
abbrev slogs_to : Stmt := top 35
abbrev sends_of : Stmt := top 36
abbrev scommon_parts_of : Stmt := top 37
abbrev spairs : Stmt := top 38
abbrev sis_split : Stmt := top 39
abbrev ssplits : Stmt := top 40
abbrev s_law_box : Stmt := top 42
abbrev s_law_take : Stmt := top 43
abbrev s_law_cells : Stmt := top 44
abbrev s_law_of : Stmt := top 45
abbrev s_law_pick : Stmt := top 46
abbrev s_law_same : Stmt := top 47
abbrev s_law_names : Stmt := top 48
abbrev s_law_lies : Stmt := top 49
abbrev s_law_sorted : Stmt := top 50
abbrev s_law_least : Stmt := top 51
abbrev s_law_every : Stmt := top 52
abbrev s_law_event_row : Stmt := top 53
abbrev s_law_some_rows : Stmt := top 54
abbrev s_law_drawn_base : Stmt := top 55
abbrev s_law_done : Stmt := top 56
abbrev s_law_joined : Stmt := top 57
abbrev s_law_behind : Stmt := top 58
abbrev s_law_inside : Stmt := top 59
abbrev s_law_leads_right : Stmt := top 60
abbrev s_law_sides_right : Stmt := top 61
abbrev s_law_pairs_right : Stmt := top 62
abbrev s_law_cuts_right : Stmt := top 63
abbrev s_law_by_hand_right : Stmt := top 64
abbrev s_law_right : Stmt := top 65
abbrev slaw : Stmt := top 66
abbrev FnP (K : PySem.W.Frag) (x : Str) (st : Stmt) (f : Addr) (fd : FuncData) : Prop := FunD K x x (defArgs st) (defBody st) (defScope st) [] [] f fd
def letters : Str := "abcdefghijklmnopqrstuvwxyz"
/-- what the top has written beside its defs -/
structure Txt (K : PySem.W.Frag) (mg : Str → Option Value) (nv av ev : Addr) : Prop where
  never : mg "NEVER" = some (.ref nv)
  always : mg "ALWAYS" = some (.ref av)
  letters : ∃ u, mg "LETTERS" = some u ∧ RelV (.str letters) u
  tnever : ∀ H, SqT K H nv []
  talways : ∀ H, SqT K H av [.ref ev]
  tev : ∀ H, SqT K H ev []
  b_isinstance : mg "isinstance" = none
  b_len : mg "len" = none
  b_all : mg "all" = none
  b_tuple : mg "tuple" = none
  b_any : mg "any" = none
  b_sorted : mg "sorted" = none
  b_set : mg "set" = none
  b_range : mg "range" = none
  b_zip : mg "zip" = none
  b_abs : mg "abs" = none
  b_int : mg "int" = none
  b_list : mg "list" = none
  b_min : mg "min" = none
  b_enumerate : mg "enumerate" = none
  b_sum : mg "sum" = none
  b_bool : mg "bool" = none
  b_str : mg "str" = none
section
variable {P : Program} {w : World} {K : PySem.W.Frag} {mg : Str → Option Value} {base : Heap}
theorem Cal.up {x : Str} {j k : Nat} {ps : List Str} {sp : Sp} (C : Cal P w K mg base x j ps sp) (h : j ≤ k) : Cal P w K mg base x k ps sp := by
  obtain ⟨f, fd, F, r⟩ := C.ex
  exact ⟨f, fd, F.mono h, r⟩
theorem Cal.mk' {x : Str} {st : Stmt} {k : Nat} {ps : List Str} {sp : Sp} {f : Addr} {fd : FuncData} (F : FnP K x st f fd) (O : FnOk P w K mg base CX0 k f fd ps sp) (hm : mg x = some (.ref f)) (hb : Binds K fd ps []) : Cal P w K mg base x k ps sp := ⟨f, fd, O, hm, F.kp, hb⟩
end
end MoD
set_option maxHeartbeats 8000000
/-! the defs of the text: slots, readings, derivations; printed by emit.py -/
namespace MoD
open PySem PySem.Spec PyProof.Rows L2 MoR
abbrev Nbegun : List Str := ["word", "log", "many", "name"]
theorem scbegun : FnScope Nbegun ["word", "log"] (defScope sbegun) := ⟨rfl, rfl, rfl, by decide +kernel, rfl, by decide +kernel, by decide +kernel⟩
def trbegun (K : PySem.W.Frag) (nv av : Addr) : TS :=
  tSeq (tAsg (tC (.int 0)) (gName 2)) (tSeq (tFor (iSeq K (tVar 1)) (gName 3) (tIfS (tAnd (tTest (tOp rLt (tVar 2) (tCB (rLen' K) (tCons (tVar 0) (tNil))))) (tTest (tOp (rEqG K) (tOp (rIx K) (tVar 0) (tVar 2)) (tVar 3)))) (tAug 2 (tC (.int 1)) (ipI fun a b => a + b)) (tNext))) (tRet (tVar 2)))
theorem okbegun {P : Program} {w : World} {K : PySem.W.Frag} {mg : Str → Option Value} {base : Heap} {nv av ev : Addr} {k : Nat} {f : Addr} {fd : FuncData} (F : FnP K "begun" sbegun f fd) (T : Txt K mg nv av ev)
    {sp : Sp} (len : ∀ vs H Q E, sp vs H Q E → vs.length = 2) (pure : ∀ vs H Q E, sp vs H Q E → trbegun K nv av  { nx := fun _ H' => Q .non H', rt := Q } (start Nbegun vs) H) : FnOk P w K mg base CX0 (k + 1) f fd ["word", "log"] sp := by
  refine F.ok scbegun len (fun cdv A outer s H vs Q E hr h => ⟨trbegun K nv av , PSs.nox ?_, pure vs H Q E h⟩)
  have nd := scbegun.nd
  exact pss_cons (ps_set (i := 2) nd rfl (by first | exact Or.inl rfl | exact Or.inr rfl) (pe_int)) (pss_cons (ps_for PassesOwn.never rfl (pi_seq (pv 1)) (pg_name (i := 3) nd rfl (by first | exact Or.inl rfl | exact Or.inr rfl)) (pss_one (ps_if (PW.pt (pw_and (pt_cmpR op_lt (pv 2) (pe_callB call_len rfl T.b_len (by decide +kernel) (pa_cons (pv 0) (pa_nil))) (nomark _)) (pw_and1 (pt_cmpR (op_eqG hr.units) (pe_ix ix_seq (pv 0) (pv 2) (fun _ _ => rfl)) (pv 3) (nomark _))))) (pss_one (ps_aug (i := 2) nd rfl (by first | exact Or.inl rfl | exact Or.inr rfl) (pe_int) ip_add)) (pss_nil)))) (pss_one (ps_ret (pv 2))))
theorem bnbegun {K : PySem.W.Frag} {f : Addr} {fd : FuncData} (F : FnP K "begun" sbegun f fd) : Binds K fd ["word", "log"] [] := F.bindsN fun _ _ _ _ _ _ us hl => match us, hl with | [_, _], _ => rfl
abbrev Nis_part : List Str := ["word", "log"]
theorem scis_part : FnScope Nis_part ["word", "log"] (defScope sis_part) := ⟨rfl, rfl, rfl, by decide +kernel, rfl, by decide +kernel, by decide +kernel⟩
def tris_part (K : PySem.W.Frag) (nv av : Addr) (spbegun : Sp) : TS :=
  tRet (tOp (rEqG K) (tCall spbegun [] E0 (tCons (tVar 0) (tCons (tVar 1) (tNil)))) (tCB (rLen' K) (tCons (tVar 0) (tNil))))
theorem okis_part {P : Program} {w : World} {K : PySem.W.Frag} {mg : Str → Option Value} {base : Heap} {nv av ev : Addr} {k : Nat} {f : Addr} {fd : FuncData} {spbegun : Sp} (F : FnP K "is_part" sis_part f fd) (T : Txt K mg nv av ev) (Cbegun : Cal P w K mg base "begun" k ["word", "log"] spbegun)
    {sp : Sp} (len : ∀ vs H Q E, sp vs H Q E → vs.length = 2) (pure : ∀ vs H Q E, sp vs H Q E → tris_part K nv av spbegun { nx := fun _ H' => Q .non H', rt := Q } (start Nis_part vs) H) : FnOk P w K mg base CX0 (k + 1) f fd ["word", "log"] sp := by
  refine F.ok scis_part len (fun cdv A outer s H vs Q E hr h => ⟨tris_part K nv av spbegun, PSs.nox ?_, pure vs H Q E h⟩)
  have nd := scis_part.nd
  exact pss_one (ps_ret (pe_cmpR (op_eqG hr.units) (pe_cal Cbegun hr (Nat.le_refl _) rfl (pa_cons (pv 0) (pa_cons (pv 1) (pa_nil)))) (pe_callB call_len rfl T.b_len (by decide +kernel) (pa_cons (pv 0) (pa_nil))) (nomark _)))
theorem bnis_part {K : PySem.W.Frag} {f : Addr} {fd : FuncData} (F : FnP K "is_part" sis_part f fd) : Binds K fd ["word", "log"] [] := F.bindsN fun _ _ _ _ _ _ us hl => match us, hl with | [_, _], _ => rfl
abbrev Nrest : List Str := ["word", "log"]
theorem screst : FnScope Nrest ["word", "log"] (defScope srest) := ⟨rfl, rfl, rfl, by decide +kernel, rfl, by decide +kernel, by decide +kernel⟩
def trrest (K : PySem.W.Frag) (nv av : Addr) (spbegun : Sp) : TS :=
  tRet (tCB (rTupOf K) (tCons (tSl (rSlA K) (tVar 0) (tPart (tCall spbegun [] E0 (tCons (tVar 0) (tCons (tVar 1) (tNil))))) tNoPart) (tNil)))
theorem okrest {P : Program} {w : World} {K : PySem.W.Frag} {mg : Str → Option Value} {base : Heap} {nv av ev : Addr} {k : Nat} {f : Addr} {fd : FuncData} {spbegun : Sp} (F : FnP K "rest" srest f fd) (T : Txt K mg nv av ev) (Cbegun : Cal P w K mg base "begun" k ["word", "log"] spbegun)
    {sp : Sp} (len : ∀ vs H Q E, sp vs H Q E → vs.length = 2) (pure : ∀ vs H Q E, sp vs H Q E → trrest K nv av spbegun { nx := fun _ H' => Q .non H', rt := Q } (start Nrest vs) H) : FnOk P w K mg base CX0 (k + 1) f fd ["word", "log"] sp := by
  refine F.ok screst len (fun cdv A outer s H vs Q E hr h => ⟨trrest K nv av spbegun, PSs.nox ?_, pure vs H Q E h⟩)
  have nd := screst.nd
  exact pss_one (ps_ret (pe_callTy call_tuple_of rfl T.b_tuple (by decide +kernel) (pa_cons (pe_slice sl_tupA (pv 0) (po_some (pe_cal Cbegun hr (Nat.le_refl _) rfl (pa_cons (pv 0) (pa_cons (pv 1) (pa_nil))))) po_none) (pa_nil))))
theorem bnrest {K : PySem.W.Frag} {f : Addr} {fd : FuncData} (F : FnP K "rest" srest f fd) : Binds K fd ["word", "log"] [] := F.bindsN fun _ _ _ _ _ _ us hl => match us, hl with | [_, _], _ => rfl
abbrev Nin_order : List Str := ["logs", "size", "log"]
theorem scin_order : FnScope Nin_order ["logs"] (defScope sin_order) := ⟨rfl, rfl, rfl, by decide +kernel, rfl, by decide +kernel, by decide +kernel⟩
def trin_order (K : PySem.W.Frag) (nv av : Addr) : TS :=
  tRet (tLc (iSeq K (tSS K (tLc (iSeq K (tVar 0)) (gName 2) tYes (tTup (tCons (tCB (rLen' K) (tCons (tVar 2) (tNil))) (tCons (tVar 2) (tNil)))) [2]))) (g2 K 1 2) tYes (tVar 2) [1, 2])
theorem okin_order {P : Program} {w : World} {K : PySem.W.Frag} {mg : Str → Option Value} {base : Heap} {nv av ev : Addr} {k : Nat} {f : Addr} {fd : FuncData} (F : FnP K "in_order" sin_order f fd) (T : Txt K mg nv av ev)
    {sp : Sp} (len : ∀ vs H Q E, sp vs H Q E → vs.length = 1) (pure : ∀ vs H Q E, sp vs H Q E → trin_order K nv av  { nx := fun _ H' => Q .non H', rt := Q } (start Nin_order vs) H) : FnOk P w K mg base CX0 (k + 1) f fd ["logs"] sp := by
  refine F.ok scin_order len (fun cdv A outer s H vs Q E hr h => ⟨trin_order K nv av , PSs.nox ?_, pure vs H Q E h⟩)
  have nd := scin_order.nd
  exact pss_one (ps_ret (pe_lc (own := [("size", 1), ("log", 2)]) (g := g2 K 1 2) rfl nd (pi_seq (pe_ss rfl hr.units rfl T.b_sorted rfl T.b_set (pe_lc (own := [("log", 2)]) (g := gName 2) rfl nd (pi_seq (pv 0)) (blkOk_by (own := [("log", 2)]) (N := Nin_order) (sc := defScope sin_order) (by decide +kernel)) (fun _ _ _ _ _ => pg_name (i := 2) nd rfl (by first | exact Or.inl rfl | exact Or.inr rfl)) (fun _ _ _ _ _ => pts_nil) (fun _ _ _ _ _ => pe_tup (pa_cons (pe_callB call_len rfl T.b_len (by decide +kernel) (pa_cons (pv 2) (pa_nil))) (pa_cons (pv 2) (pa_nil))))))) (blkOk_by (own := [("size", 1), ("log", 2)]) (N := Nin_order) (sc := defScope sin_order) (by decide +kernel)) (fun _ _ _ _ _ => pg_tup rfl (pgs_cons (pg_name (i := 1) nd rfl (by first | exact Or.inl rfl | exact Or.inr rfl)) (pgs_cons (pg_name (i := 2) nd rfl (by first | exact Or.inl rfl | exact Or.inr rfl)) (pgs_nil)))) (fun _ _ _ _ _ => pts_nil) (fun _ _ _ _ _ => pv 2)))
theorem bnin_order {K : PySem.W.Frag} {f : Addr} {fd : FuncData} (F : FnP K "in_order" sin_order f fd) : Binds K fd ["logs"] [] := F.bindsN fun _ _ _ _ _ _ us hl => match us, hl with | [_], _ => rfl
abbrev Nleast_of : List Str := ["logs", "found", "log", "word"]
theorem scleast_of : FnScope Nleast_of ["logs"] (defScope sleast_of) := ⟨rfl, rfl, rfl, by decide +kernel, rfl, by decide +kernel, by decide +kernel⟩
def trleast_of (K : PySem.W.Frag) (nv av : Addr) (spis_part spin_order : Sp) : TS :=
  tSeq (tAsg (tLst tNil) (gName 1)) (tSeq (tFor (iSeq K (tCall spin_order [] E0 (tCons (tVar 0) (tNil)))) (gName 2) (tIfS (tNot (tB (tCB (rAny K) (tCons (tLc (iSeq K (tVar 1)) (gName 3) tYes (tCall spis_part [] E0 (tCons (tVar 3) (tCons (tVar 2) (tNil)))) [3]) (tNil))))) (tDrop (tBM K "list" rAppend (tVar 1) (tCons (tVar 2) (tNil)))) (tNext))) (tRet (tCB (rTupOf K) (tCons (tVar 1) (tNil)))))
theorem okleast_of {P : Program} {w : World} {K : PySem.W.Frag} {mg : Str → Option Value} {base : Heap} {nv av ev : Addr} {k : Nat} {f : Addr} {fd : FuncData} {spis_part spin_order : Sp} (F : FnP K "least_of" sleast_of f fd) (T : Txt K mg nv av ev) (Cis_part : Cal P w K mg base "is_part" k ["word", "log"] spis_part) (Cin_order : Cal P w K mg base "in_order" k ["logs"] spin_order)
    {sp : Sp} (len : ∀ vs H Q E, sp vs H Q E → vs.length = 1) (pure : ∀ vs H Q E, sp vs H Q E → trleast_of K nv av spis_part spin_order { nx := fun _ H' => Q .non H', rt := Q } (start Nleast_of vs) H) : FnOk P w K mg base CX0 (k + 1) f fd ["logs"] sp := by
  refine F.ok scleast_of len (fun cdv A outer s H vs Q E hr h => ⟨trleast_of K nv av spis_part spin_order, PSs.nox ?_, pure vs H Q E h⟩)
  have nd := scleast_of.nd
  exact pss_cons (ps_set (i := 1) nd rfl (by first | exact Or.inl rfl | exact Or.inr rfl) (pe_lst (pa_nil))) (pss_cons (ps_for PassesOwn.never rfl (pi_seq (pe_cal Cin_order hr (Nat.le_refl _) rfl (pa_cons (pv 0) (pa_nil)))) (pg_name (i := 2) nd rfl (by first | exact Or.inl rfl | exact Or.inr rfl)) (pss_one (ps_if (pt_not (pt_val (pe_callB (cr_any rfl) rfl T.b_any (by decide +kernel) (pa_cons (pe_lc (own := [("word", 3)]) (g := gName 3) rfl nd (pi_seq (pv 1)) (blkOk_by (own := [("word", 3)]) (N := Nleast_of) (sc := defScope sleast_of) (by decide +kernel)) (fun _ _ _ _ _ => pg_name (i := 3) nd rfl (by first | exact Or.inl rfl | exact Or.inr rfl)) (fun _ _ _ _ _ => pts_nil) (fun _ _ _ _ _ => pe_cal Cis_part hr (Nat.le_refl _) rfl (pa_cons (pv 3) (pa_cons (pv 2) (pa_nil))))) (pa_nil))))) (pss_one (ps_expr (pe_bm PySem.F.plainAttrs_list PySem.F.slot_list_append PySem.F.type_list_append mt_append (pv 1) (pa_cons (pv 2) (pa_nil))))) (pss_nil)))) (pss_one (ps_ret (pe_callTy call_tuple_of rfl T.b_tuple (by decide +kernel) (pa_cons (pv 1) (pa_nil))))))
theorem bnleast_of {K : PySem.W.Frag} {f : Addr} {fd : FuncData} (F : FnP K "least_of" sleast_of f fd) : Binds K fd ["logs"] [] := F.bindsN fun _ _ _ _ _ _ us hl => match us, hl with | [_], _ => rfl
abbrev Nis_name : List Str := ["value", "sign"]
theorem scis_name : FnScope Nis_name ["value"] (defScope sis_name) := ⟨rfl, rfl, rfl, by decide +kernel, rfl, by decide +kernel, by decide +kernel⟩
def tris_name (K : PySem.W.Frag) (nv av : Addr) : TS :=
  tRet (tAndV (tCB (rIsi K) (tCons (tVar 0) (tCons (tC (.ty "str")) (tNil)))) (tAndV (tChain rLe' rLe' (tC (.int 1)) (tCB (rLen' K) (tCons (tVar 0) (tNil))) (tC (.int 8))) (tCB (rAll K) (tCons (tLc (iStr (tVar 0)) (gName 1) tYes (tOp rInS (tVar 1) (tC (.str letters))) [1]) (tNil)))))
theorem okis_name {P : Program} {w : World} {K : PySem.W.Frag} {mg : Str → Option Value} {base : Heap} {nv av ev : Addr} {k : Nat} {f : Addr} {fd : FuncData} (F : FnP K "is_name" sis_name f fd) (T : Txt K mg nv av ev)
    {sp : Sp} (len : ∀ vs H Q E, sp vs H Q E → vs.length = 1) (pure : ∀ vs H Q E, sp vs H Q E → tris_name K nv av  { nx := fun _ H' => Q .non H', rt := Q } (start Nis_name vs) H) : FnOk P w K mg base CX0 (k + 1) f fd ["value"] sp := by
  refine F.ok scis_name len (fun cdv A outer s H vs Q E hr h => ⟨tris_name K nv av , PSs.nox ?_, pure vs H Q E h⟩)
  have nd := scis_name.nd
  exact pss_one (ps_ret (pe_and (pe_callB call_isi rfl T.b_isinstance (by decide +kernel) (pa_cons (pv 0) (pa_cons (pe_bltn rfl T.b_str (by decide +kernel) rfl) (pa_nil)))) (pe_and (pe_chain op_le op_le (pe_int) (pe_callB call_len rfl T.b_len (by decide +kernel) (pa_cons (pv 0) (pa_nil))) (pe_int)) (pe_one (pe_callB (cr_all rfl) rfl T.b_all (by decide +kernel) (pa_cons (pe_lc (own := [("sign", 1)]) (g := gName 1) rfl nd (pi_str (pv 0)) (blkOk_by (own := [("sign", 1)]) (N := Nis_name) (sc := defScope sis_name) (by decide +kernel)) (fun _ _ _ _ _ => pg_name (i := 1) nd rfl (by first | exact Or.inl rfl | exact Or.inr rfl)) (fun _ _ _ _ _ => pts_nil) (fun _ _ _ _ _ => pe_cmpR op_inS (pv 1) (C8.pe_gc rfl T.letters) rfl)) (pa_nil)))))))
theorem bnis_name {K : PySem.W.Frag} {f : Addr} {fd : FuncData} (F : FnP K "is_name" sis_name f fd) : Binds K fd ["value"] [] := F.bindsN fun _ _ _ _ _ _ us hl => match us, hl with | [_], _ => rfl
abbrev Ntupled : List Str := ["value", "part"]
theorem sctupled : FnScope Ntupled ["value"] (defScope stupled) := ⟨rfl, rfl, rfl, by decide +kernel, rfl, by decide +kernel, by decide +kernel⟩
def trtupled (K : PySem.W.Frag) (nv av : Addr) (sptupled : Sp) : TS :=
  tRet (tIf (tB (tCB (rIsiT K) (tCons (tVar 0) (tCons (tTup (tCons (tC (.ty "list")) (tCons (tC (.ty "tuple")) (tNil)))) (tNil))))) (tCB (rTupOf K) (tCons (tLc (iSeq K (tVar 0)) (gName 1) tYes (tCall sptupled [] E0 (tCons (tVar 1) (tNil))) [1]) (tNil))) (tVar 0))
theorem oktupled {P : Program} {w : World} {K : PySem.W.Frag} {mg : Str → Option Value} {base : Heap} {nv av ev : Addr} {k : Nat} {f : Addr} {fd : FuncData} {sptupled : Sp} (F : FnP K "tupled" stupled f fd) (T : Txt K mg nv av ev) (Ctupled : Cal P w K mg base "tupled" k ["value"] sptupled)
    {sp : Sp} (len : ∀ vs H Q E, sp vs H Q E → vs.length = 1) (pure : ∀ vs H Q E, sp vs H Q E → trtupled K nv av sptupled { nx := fun _ H' => Q .non H', rt := Q } (start Ntupled vs) H) : FnOk P w K mg base CX0 (k + 1) f fd ["value"] sp := by
  refine F.ok sctupled len (fun cdv A outer s H vs Q E hr h => ⟨trtupled K nv av sptupled, PSs.nox ?_, pure vs H Q E h⟩)
  have nd := sctupled.nd
  exact pss_one (ps_ret (pe_ifExp (pt_val (pe_callB call_isiT rfl T.b_isinstance (by decide +kernel) (pa_cons (pv 0) (pa_cons (pe_tup (pa_cons (pe_bltn rfl T.b_list (by decide +kernel) rfl) (pa_cons (pe_bltn rfl T.b_tuple (by decide +kernel) rfl) (pa_nil)))) (pa_nil))))) (pe_callTy call_tuple_of rfl T.b_tuple (by decide +kernel) (pa_cons (pe_lc (own := [("part", 1)]) (g := gName 1) rfl nd (pi_seq (pv 0)) (blkOk_by (own := [("part", 1)]) (N := Ntupled) (sc := defScope stupled) (by decide +kernel)) (fun _ _ _ _ _ => pg_name (i := 1) nd rfl (by first | exact Or.inl rfl | exact Or.inr rfl)) (fun _ _ _ _ _ => pts_nil) (fun _ _ _ _ _ => pe_cal Ctupled hr (Nat.le_refl _) rfl (pa_cons (pv 1) (pa_nil)))) (pa_nil))) (pv 0)))
theorem bntupled {K : PySem.W.Frag} {f : Addr} {fd : FuncData} (F : FnP K "tupled" stupled f fd) : Binds K fd ["value"] [] := F.bindsN fun _ _ _ _ _ _ us hl => match us, hl with | [_], _ => rfl
abbrev Nis_log : List Str := ["thing", "name"]
theorem scis_log : FnScope Nis_log ["thing"] (defScope sis_log) := ⟨rfl, rfl, rfl, by decide +kernel, rfl, by decide +kernel, by decide +kernel⟩
def tris_log (K : PySem.W.Frag) (nv av : Addr) (spis_name : Sp) : TS :=
  tRet (tAndV (tCB (rIsi K) (tCons (tVar 0) (tCons (tC (.ty "tuple")) (tNil)))) (tCB (rAll K) (tCons (tLc (iSeq K (tVar 0)) (gName 1) tYes (tCall spis_name [] E0 (tCons (tVar 1) (tNil))) [1]) (tNil))))
theorem okis_log {P : Program} {w : World} {K : PySem.W.Frag} {mg : Str → Option Value} {base : Heap} {nv av ev : Addr} {k : Nat} {f : Addr} {fd : FuncData} {spis_name : Sp} (F : FnP K "is_log" sis_log f fd) (T : Txt K mg nv av ev) (Cis_name : Cal P w K mg base "is_name" k ["value"] spis_name)
    {sp : Sp} (len : ∀ vs H Q E, sp vs H Q E → vs.length = 1) (pure : ∀ vs H Q E, sp vs H Q E → tris_log K nv av spis_name { nx := fun _ H' => Q .non H', rt := Q } (start Nis_log vs) H) : FnOk P w K mg base CX0 (k + 1) f fd ["thing"] sp := by
  refine F.ok scis_log len (fun cdv A outer s H vs Q E hr h => ⟨tris_log K nv av spis_name, PSs.nox ?_, pure vs H Q E h⟩)
  have nd := scis_log.nd
  exact pss_one (ps_ret (pe_and (pe_callB call_isi rfl T.b_isinstance (by decide +kernel) (pa_cons (pv 0) (pa_cons (pe_bltn rfl T.b_tuple (by decide +kernel) rfl) (pa_nil)))) (pe_one (pe_callB (cr_all rfl) rfl T.b_all (by decide +kernel) (pa_cons (pe_lc (own := [("name", 1)]) (g := gName 1) rfl nd (pi_seq (pv 0)) (blkOk_by (own := [("name", 1)]) (N := Nis_log) (sc := defScope sis_log) (by decide +kernel)) (fun _ _ _ _ _ => pg_name (i := 1) nd rfl (by first | exact Or.inl rfl | exact Or.inr rfl)) (fun _ _ _ _ _ => pts_nil) (fun _ _ _ _ _ => pe_cal Cis_name hr (Nat.le_refl _) rfl (pa_cons (pv 1) (pa_nil)))) (pa_nil))))))
theorem bnis_log {K : PySem.W.Frag} {f : Addr} {fd : FuncData} (F : FnP K "is_log" sis_log f fd) : Binds K fd ["thing"] [] := F.bindsN fun _ _ _ _ _ _ us hl => match us, hl with | [_], _ => rfl
abbrev Nbase_of : List Str := ["logs"]
theorem scbase_of : FnScope Nbase_of ["logs"] (defScope sbase_of) := ⟨rfl, rfl, rfl, by decide +kernel, rfl, by decide +kernel, by decide +kernel⟩
def trbase_of (K : PySem.W.Frag) (nv av : Addr) (sptupled spleast_of : Sp) : TS :=
  tRet (tCall spleast_of [] E0 (tCons (tCall sptupled [] E0 (tCons (tVar 0) (tNil))) (tNil)))
theorem okbase_of {P : Program} {w : World} {K : PySem.W.Frag} {mg : Str → Option Value} {base : Heap} {nv av ev : Addr} {k : Nat} {f : Addr} {fd : FuncData} {sptupled spleast_of : Sp} (F : FnP K "base_of" sbase_of f fd) (T : Txt K mg nv av ev) (Ctupled : Cal P w K mg base "tupled" k ["value"] sptupled) (Cleast_of : Cal P w K mg base "least_of" k ["logs"] spleast_of)
    {sp : Sp} (len : ∀ vs H Q E, sp vs H Q E → vs.length = 1) (pure : ∀ vs H Q E, sp vs H Q E → trbase_of K nv av sptupled spleast_of { nx := fun _ H' => Q .non H', rt := Q } (start Nbase_of vs) H) : FnOk P w K mg base CX0 (k + 1) f fd ["logs"] sp := by
  refine F.ok scbase_of len (fun cdv A outer s H vs Q E hr h => ⟨trbase_of K nv av sptupled spleast_of, PSs.nox ?_, pure vs H Q E h⟩)
  have nd := scbase_of.nd
  exact pss_one (ps_ret (pe_cal Cleast_of hr (Nat.le_refl _) rfl (pa_cons (pe_cal Ctupled hr (Nat.le_refl _) rfl (pa_cons (pv 0) (pa_nil))) (pa_nil))))
theorem bnbase_of {K : PySem.W.Frag} {f : Addr} {fd : FuncData} (F : FnP K "base_of" sbase_of f fd) : Binds K fd ["logs"] [] := F.bindsN fun _ _ _ _ _ _ us hl => match us, hl with | [_], _ => rfl
abbrev Nis_base : List Str := ["thing", "log"]
theorem scis_base : FnScope Nis_base ["thing"] (defScope sis_base) := ⟨rfl, rfl, rfl, by decide +kernel, rfl, by decide +kernel, by decide +kernel⟩
def tris_base (K : PySem.W.Frag) (nv av : Addr) (spis_log spbase_of : Sp) : TS :=
  tRet (tAndV (tCB (rIsi K) (tCons (tVar 0) (tCons (tC (.ty "tuple")) (tNil)))) (tAndV (tCB (rAll K) (tCons (tLc (iSeq K (tVar 0)) (gName 1) tYes (tCall spis_log [] E0 (tCons (tVar 1) (tNil))) [1]) (tNil))) (tOp (rEqG K) (tCall spbase_of [] E0 (tCons (tVar 0) (tNil))) (tVar 0))))
theorem okis_base {P : Program} {w : World} {K : PySem.W.Frag} {mg : Str → Option Value} {base : Heap} {nv av ev : Addr} {k : Nat} {f : Addr} {fd : FuncData} {spis_log spbase_of : Sp} (F : FnP K "is_base" sis_base f fd) (T : Txt K mg nv av ev) (Cis_log : Cal P w K mg base "is_log" k ["thing"] spis_log) (Cbase_of : Cal P w K mg base "base_of" k ["logs"] spbase_of)
    {sp : Sp} (len : ∀ vs H Q E, sp vs H Q E → vs.length = 1) (pure : ∀ vs H Q E, sp vs H Q E → tris_base K nv av spis_log spbase_of { nx := fun _ H' => Q .non H', rt := Q } (start Nis_base vs) H) : FnOk P w K mg base CX0 (k + 1) f fd ["thing"] sp := by
  refine F.ok scis_base len (fun cdv A outer s H vs Q E hr h => ⟨tris_base K nv av spis_log spbase_of, PSs.nox ?_, pure vs H Q E h⟩)
  have nd := scis_base.nd
  exact pss_one (ps_ret (pe_and (pe_callB call_isi rfl T.b_isinstance (by decide +kernel) (pa_cons (pv 0) (pa_cons (pe_bltn rfl T.b_tuple (by decide +kernel) rfl) (pa_nil)))) (pe_and (pe_callB (cr_all rfl) rfl T.b_all (by decide +kernel) (pa_cons (pe_lc (own := [("log", 1)]) (g := gName 1) rfl nd (pi_seq (pv 0)) (blkOk_by (own := [("log", 1)]) (N := Nis_base) (sc := defScope sis_base) (by decide +kernel)) (fun _ _ _ _ _ => pg_name (i := 1) nd rfl (by first | exact Or.inl rfl | exact Or.inr rfl)) (fun _ _ _ _ _ => pts_nil) (fun _ _ _ _ _ => pe_cal Cis_log hr (Nat.le_refl _) rfl (pa_cons (pv 1) (pa_nil)))) (pa_nil))) (pe_one (pe_cmpR (op_eqG hr.units) (pe_cal Cbase_of hr (Nat.le_refl _) rfl (pa_cons (pv 0) (pa_nil))) (pv 0) (nomark _))))))
theorem bnis_base {K : PySem.W.Frag} {f : Addr} {fd : FuncData} (F : FnP K "is_base" sis_base f fd) : Binds K fd ["thing"] [] := F.bindsN fun _ _ _ _ _ _ us hl => match us, hl with | [_], _ => rfl
abbrev Ndoes : List Str := ["base", "log", "word"]
theorem scdoes : FnScope Ndoes ["base", "log"] (defScope sdoes) := ⟨rfl, rfl, rfl, by decide +kernel, rfl, by decide +kernel, by decide +kernel⟩
def trdoes (K : PySem.W.Frag) (nv av : Addr) (spis_part : Sp) : TS :=
  tRet (tCB (rAny K) (tCons (tLc (iSeq K (tVar 0)) (gName 2) tYes (tCall spis_part [] E0 (tCons (tVar 2) (tCons (tVar 1) (tNil)))) [2]) (tNil)))
theorem okdoes {P : Program} {w : World} {K : PySem.W.Frag} {mg : Str → Option Value} {base : Heap} {nv av ev : Addr} {k : Nat} {f : Addr} {fd : FuncData} {spis_part : Sp} (F : FnP K "does" sdoes f fd) (T : Txt K mg nv av ev) (Cis_part : Cal P w K mg base "is_part" k ["word", "log"] spis_part)
    {sp : Sp} (len : ∀ vs H Q E, sp vs H Q E → vs.length = 2) (pure : ∀ vs H Q E, sp vs H Q E → trdoes K nv av spis_part { nx := fun _ H' => Q .non H', rt := Q } (start Ndoes vs) H) : FnOk P w K mg base CX0 (k + 1) f fd ["base", "log"] sp := by
  refine F.ok scdoes len (fun cdv A outer s H vs Q E hr h => ⟨trdoes K nv av spis_part, PSs.nox ?_, pure vs H Q E h⟩)
  have nd := scdoes.nd
  exact pss_one (ps_ret (pe_callB (cr_any rfl) rfl T.b_any (by decide +kernel) (pa_cons (pe_lc (own := [("word", 2)]) (g := gName 2) rfl nd (pi_seq (pv 0)) (blkOk_by (own := [("word", 2)]) (N := Ndoes) (sc := defScope sdoes) (by decide +kernel)) (fun _ _ _ _ _ => pg_name (i := 2) nd rfl (by first | exact Or.inl rfl | exact Or.inr rfl)) (fun _ _ _ _ _ => pts_nil) (fun _ _ _ _ _ => pe_cal Cis_part hr (Nat.le_refl _) rfl (pa_cons (pv 2) (pa_cons (pv 1) (pa_nil))))) (pa_nil))))
theorem bndoes {K : PySem.W.Frag} {f : Addr} {fd : FuncData} (F : FnP K "does" sdoes f fd) : Binds K fd ["base", "log"] [] := F.bindsN fun _ _ _ _ _ _ us hl => match us, hl with | [_, _], _ => rfl
abbrev Neither : List Str := ["one", "other"]
theorem sceither : FnScope Neither ["one", "other"] (defScope seither) := ⟨rfl, rfl, rfl, by decide +kernel, rfl, by decide +kernel, by decide +kernel⟩
def treither (K : PySem.W.Frag) (nv av : Addr) (spbase_of : Sp) : TS :=
  tRet (tCall spbase_of [] E0 (tCons (tLst (StX.tStar K (tVar 0) (StX.tStar K (tVar 1) (tNil)))) (tNil)))
theorem okeither {P : Program} {w : World} {K : PySem.W.Frag} {mg : Str → Option Value} {base : Heap} {nv av ev : Addr} {k : Nat} {f : Addr} {fd : FuncData} {spbase_of : Sp} (F : FnP K "either" seither f fd) (T : Txt K mg nv av ev) (Cbase_of : Cal P w K mg base "base_of" k ["logs"] spbase_of)
    {sp : Sp} (len : ∀ vs H Q E, sp vs H Q E → vs.length = 2) (pure : ∀ vs H Q E, sp vs H Q E → treither K nv av spbase_of { nx := fun _ H' => Q .non H', rt := Q } (start Neither vs) H) : FnOk P w K mg base CX0 (k + 1) f fd ["one", "other"] sp := by
  refine F.ok sceither len (fun cdv A outer s H vs Q E hr h => ⟨treither K nv av spbase_of, PSs.nox ?_, pure vs H Q E h⟩)
  have nd := sceither.nd
  exact pss_one (ps_ret (pe_cal Cbase_of hr (Nat.le_refl _) rfl (pa_cons (pe_lst (StX.pa_star (pv 0) (StX.pa_star (pv 1) (pa_nil)))) (pa_nil))))
theorem bneither {K : PySem.W.Frag} {f : Addr} {fd : FuncData} (F : FnP K "either" seither f fd) : Binds K fd ["one", "other"] [] := F.bindsN fun _ _ _ _ _ _ us hl => match us, hl with | [_, _], _ => rfl
abbrev Nthen : List Str := ["one", "other", "word", "mate"]
theorem scthen : FnScope Nthen ["one", "other"] (defScope sthen) := ⟨rfl, rfl, rfl, by decide +kernel, rfl, by decide +kernel, by decide +kernel⟩
def trthen (K : PySem.W.Frag) (nv av : Addr) (sptupled spin_order : Sp) : TS :=
  tRet (tCB (rTupOf K) (tCons (tCall spin_order [] E0 (tCons (tLc2 (iSeq K (tCall sptupled [] E0 (tCons (tVar 0) (tNil)))) (gName 2) tYes (iSeq K (tCall sptupled [] E0 (tCons (tVar 1) (tNil)))) (gName 3) tYes (tOp (rCatA K) (tVar 2) (tVar 3)) [2, 3] [3]) (tNil))) (tNil)))
theorem okthen {P : Program} {w : World} {K : PySem.W.Frag} {mg : Str → Option Value} {base : Heap} {nv av ev : Addr} {k : Nat} {f : Addr} {fd : FuncData} {sptupled spin_order : Sp} (F : FnP K "then" sthen f fd) (T : Txt K mg nv av ev) (Ctupled : Cal P w K mg base "tupled" k ["value"] sptupled) (Cin_order : Cal P w K mg base "in_order" k ["logs"] spin_order)
    {sp : Sp} (len : ∀ vs H Q E, sp vs H Q E → vs.length = 2) (pure : ∀ vs H Q E, sp vs H Q E → trthen K nv av sptupled spin_order { nx := fun _ H' => Q .non H', rt := Q } (start Nthen vs) H) : FnOk P w K mg base CX0 (k + 1) f fd ["one", "other"] sp := by
  refine F.ok scthen len (fun cdv A outer s H vs Q E hr h => ⟨trthen K nv av sptupled spin_order, PSs.nox ?_, pure vs H Q E h⟩)
  have nd := scthen.nd
  exact pss_one (ps_ret (pe_callTy call_tuple_of rfl T.b_tuple (by decide +kernel) (pa_cons (pe_cal Cin_order hr (Nat.le_refl _) rfl (pa_cons (pe_lc2 (own := [("word", 2), ("mate", 3)]) (vs1 := [3]) (g := gName 2) (g1 := gName 3) rfl nd (pi_seq (pe_cal Ctupled hr (Nat.le_refl _) rfl (pa_cons (pv 0) (pa_nil)))) (blkOk_by (own := [("word", 2), ("mate", 3)]) (N := Nthen) (sc := defScope sthen) (by decide +kernel)) (by decide) (fun _ _ _ _ _ => pg_name (i := 2) nd rfl (by first | exact Or.inl rfl | exact Or.inr rfl)) (fun _ _ _ _ _ => pts_nil) (fun _ _ _ _ _ => pi_seq (pe_cal Ctupled hr (Nat.le_refl _) rfl (pa_cons (pv 1) (pa_nil)))) (fun _ _ _ _ _ => pg_name (i := 3) nd rfl (by first | exact Or.inl rfl | exact Or.inr rfl)) (fun _ _ _ _ _ => pts_nil) (fun _ _ _ _ _ => pe_op op_catA (pv 2) (pv 3))) (pa_nil))) (pa_nil))))
theorem bnthen {K : PySem.W.Frag} {f : Addr} {fd : FuncData} (F : FnP K "then" sthen f fd) : Binds K fd ["one", "other"] [] := F.bindsN fun _ _ _ _ _ _ us hl => match us, hl with | [_, _], _ => rfl
abbrev Ntimes : List Str := ["base", "number", "found", "turn"]
theorem sctimes : FnScope Ntimes ["base", "number"] (defScope stimes) := ⟨rfl, rfl, rfl, by decide +kernel, rfl, by decide +kernel, by decide +kernel⟩
def trtimes (K : PySem.W.Frag) (nv av : Addr) (spthen : Sp) : TS :=
  tSeq (tAsg (tC (.ref av)) (gName 2)) (tSeq (tFor (iRng1 (tCons (tVar 1) (tNil))) (gName 3) (tAsg (tCall spthen [] E0 (tCons (tVar 2) (tCons (tVar 0) (tNil)))) (gName 2))) (tRet (tVar 2)))
theorem oktimes {P : Program} {w : World} {K : PySem.W.Frag} {mg : Str → Option Value} {base : Heap} {nv av ev : Addr} {k : Nat} {f : Addr} {fd : FuncData} {spthen : Sp} (F : FnP K "times" stimes f fd) (T : Txt K mg nv av ev) (Cthen : Cal P w K mg base "then" k ["one", "other"] spthen)
    {sp : Sp} (len : ∀ vs H Q E, sp vs H Q E → vs.length = 2) (pure : ∀ vs H Q E, sp vs H Q E → trtimes K nv av spthen { nx := fun _ H' => Q .non H', rt := Q } (start Ntimes vs) H) : FnOk P w K mg base CX0 (k + 1) f fd ["base", "number"] sp := by
  refine F.ok sctimes len (fun cdv A outer s H vs Q E hr h => ⟨trtimes K nv av spthen, PSs.nox ?_, pure vs H Q E h⟩)
  have nd := sctimes.nd
  exact pss_cons (ps_set (i := 2) nd rfl (by first | exact Or.inl rfl | exact Or.inr rfl) (pe_glob rfl T.always rfl)) (pss_cons (ps_for PassesOwn.never rfl (pi_range1 rfl T.b_range (pa_cons (pv 1) (pa_nil))) (pg_name (i := 3) nd rfl (by first | exact Or.inl rfl | exact Or.inr rfl)) (pss_one (ps_set (i := 2) nd rfl (by first | exact Or.inl rfl | exact Or.inr rfl) (pe_cal Cthen hr (Nat.le_refl _) rfl (pa_cons (pv 2) (pa_cons (pv 0) (pa_nil))))))) (pss_one (ps_ret (pv 2))))
theorem bntimes {K : PySem.W.Frag} {f : Addr} {fd : FuncData} (F : FnP K "times" stimes f fd) : Binds K fd ["base", "number"] [] := F.bindsN fun _ _ _ _ _ _ us hl => match us, hl with | [_, _], _ => rfl
abbrev Nis_inside : List Str := ["one", "other", "word"]
theorem scis_inside : FnScope Nis_inside ["one", "other"] (defScope sis_inside) := ⟨rfl, rfl, rfl, by decide +kernel, rfl, by decide +kernel, by decide +kernel⟩
def tris_inside (K : PySem.W.Frag) (nv av : Addr) (spdoes : Sp) : TS :=
  tRet (tCB (rAll K) (tCons (tLc (iSeq K (tVar 0)) (gName 2) tYes (tCall spdoes [] E0 (tCons (tVar 1) (tCons (tVar 2) (tNil)))) [2]) (tNil)))
theorem okis_inside {P : Program} {w : World} {K : PySem.W.Frag} {mg : Str → Option Value} {base : Heap} {nv av ev : Addr} {k : Nat} {f : Addr} {fd : FuncData} {spdoes : Sp} (F : FnP K "is_inside" sis_inside f fd) (T : Txt K mg nv av ev) (Cdoes : Cal P w K mg base "does" k ["base", "log"] spdoes)
    {sp : Sp} (len : ∀ vs H Q E, sp vs H Q E → vs.length = 2) (pure : ∀ vs H Q E, sp vs H Q E → tris_inside K nv av spdoes { nx := fun _ H' => Q .non H', rt := Q } (start Nis_inside vs) H) : FnOk P w K mg base CX0 (k + 1) f fd ["one", "other"] sp := by
  refine F.ok scis_inside len (fun cdv A outer s H vs Q E hr h => ⟨tris_inside K nv av spdoes, PSs.nox ?_, pure vs H Q E h⟩)
  have nd := scis_inside.nd
  exact pss_one (ps_ret (pe_callB (cr_all rfl) rfl T.b_all (by decide +kernel) (pa_cons (pe_lc (own := [("word", 2)]) (g := gName 2) rfl nd (pi_seq (pv 0)) (blkOk_by (own := [("word", 2)]) (N := Nis_inside) (sc := defScope sis_inside) (by decide +kernel)) (fun _ _ _ _ _ => pg_name (i := 2) nd rfl (by first | exact Or.inl rfl | exact Or.inr rfl)) (fun _ _ _ _ _ => pts_nil) (fun _ _ _ _ _ => pe_cal Cdoes hr (Nat.le_refl _) rfl (pa_cons (pv 1) (pa_cons (pv 2) (pa_nil))))) (pa_nil))))
theorem bnis_inside {K : PySem.W.Frag} {f : Addr} {fd : FuncData} (F : FnP K "is_inside" sis_inside f fd) : Binds K fd ["one", "other"] [] := F.bindsN fun _ _ _ _ _ _ us hl => match us, hl with | [_, _], _ => rfl
abbrev Nbehind : List Str := ["base", "log", "word"]
theorem scbehind : FnScope Nbehind ["base", "log"] (defScope sbehind) := ⟨rfl, rfl, rfl, by decide +kernel, rfl, by decide +kernel, by decide +kernel⟩
def trbehind (K : PySem.W.Frag) (nv av : Addr) (spin_order : Sp) : TS :=
  tRet (tCB (rTupOf K) (tCons (tCall spin_order [] E0 (tCons (tLc (iSeq K (tVar 0)) (gName 2) (tTest (tOp (rEqG K) (tSl (rSlA K) (tVar 2) tNoPart (tPart (tCB (rLen' K) (tCons (tVar 1) (tNil))))) (tVar 1))) (tSl (rSlA K) (tVar 2) (tPart (tCB (rLen' K) (tCons (tVar 1) (tNil)))) tNoPart) [2]) (tNil))) (tNil)))
theorem okbehind {P : Program} {w : World} {K : PySem.W.Frag} {mg : Str → Option Value} {base : Heap} {nv av ev : Addr} {k : Nat} {f : Addr} {fd : FuncData} {spin_order : Sp} (F : FnP K "behind" sbehind f fd) (T : Txt K mg nv av ev) (Cin_order : Cal P w K mg base "in_order" k ["logs"] spin_order)
    {sp : Sp} (len : ∀ vs H Q E, sp vs H Q E → vs.length = 2) (pure : ∀ vs H Q E, sp vs H Q E → trbehind K nv av spin_order { nx := fun _ H' => Q .non H', rt := Q } (start Nbehind vs) H) : FnOk P w K mg base CX0 (k + 1) f fd ["base", "log"] sp := by
  refine F.ok scbehind len (fun cdv A outer s H vs Q E hr h => ⟨trbehind K nv av spin_order, PSs.nox ?_, pure vs H Q E h⟩)
  have nd := scbehind.nd
  exact pss_one (ps_ret (pe_callTy call_tuple_of rfl T.b_tuple (by decide +kernel) (pa_cons (pe_cal Cin_order hr (Nat.le_refl _) rfl (pa_cons (pe_lc (own := [("word", 2)]) (g := gName 2) rfl nd (pi_seq (pv 0)) (blkOk_by (own := [("word", 2)]) (N := Nbehind) (sc := defScope sbehind) (by decide +kernel)) (fun _ _ _ _ _ => pg_name (i := 2) nd rfl (by first | exact Or.inl rfl | exact Or.inr rfl)) (fun _ _ _ _ _ => pts_one (pt_cmpR (op_eqG hr.units) (pe_slice sl_tupA (pv 2) po_none (po_some (pe_callB call_len rfl T.b_len (by decide +kernel) (pa_cons (pv 1) (pa_nil))))) (pv 1) (nomark _))) (fun _ _ _ _ _ => pe_slice sl_tupA (pv 2) (po_some (pe_callB call_len rfl T.b_len (by decide +kernel) (pa_cons (pv 1) (pa_nil)))) po_none)) (pa_nil))) (pa_nil))))
theorem bnbehind {K : PySem.W.Frag} {f : Addr} {fd : FuncData} (F : FnP K "behind" sbehind f fd) : Binds K fd ["base", "log"] [] := F.bindsN fun _ _ _ _ _ _ us hl => match us, hl with | [_, _], _ => rfl
abbrev Nparted : List Str := ["base", "log", "after", "heads", "ahead", "word", "size", "head"]
theorem scparted : FnScope Nparted ["base", "log"] (defScope sparted) := ⟨rfl, rfl, rfl, by decide +kernel, rfl, by decide +kernel, by decide +kernel⟩
def trparted (K : PySem.W.Frag) (nv av : Addr) (spin_order spthen spbehind : Sp) : TS :=
  tSeq (tAsg (tCall spbehind [] E0 (tCons (tVar 0) (tCons (tVar 1) (tNil)))) (gName 2)) (tSeq (tAsg (tLc2 (iSeq K (tVar 0)) (gName 5) tYes (iRng1 (tCons (tOp rAdd' (tCB (rLen' K) (tCons (tVar 5) (tNil))) (tC (.int 1))) (tNil))) (gName 6) tYes (tSl (rSlA K) (tVar 5) tNoPart (tPart (tVar 6))) [5, 6] [6]) (gName 3)) (tSeq (tAsg (tCB (rTupOf K) (tCons (tCall spin_order [] E0 (tCons (tLc (iSeq K (tVar 3)) (gName 7) (tTest (tOp (rEqG K) (tCall spbehind [] E0 (tCons (tVar 0) (tCons (tVar 7) (tNil)))) (tVar 2))) (tVar 7) [7]) (tNil))) (tNil))) (gName 4)) (tRet (tIf (tTest (tOp (rEqG K) (tCall spthen [] E0 (tCons (tVar 4) (tCons (tVar 2) (tNil)))) (tVar 0))) (tTup (tCons (tVar 4) (tCons (tVar 2) (tNil)))) (tC .non)))))
theorem okparted {P : Program} {w : World} {K : PySem.W.Frag} {mg : Str → Option Value} {base : Heap} {nv av ev : Addr} {k : Nat} {f : Addr} {fd : FuncData} {spin_order spthen spbehind : Sp} (F : FnP K "parted" sparted f fd) (T : Txt K mg nv av ev) (Cin_order : Cal P w K mg base "in_order" k ["logs"] spin_order) (Cthen : Cal P w K mg base "then" k ["one", "other"] spthen) (Cbehind : Cal P w K mg base "behind" k ["base", "log"] spbehind)
    {sp : Sp} (len : ∀ vs H Q E, sp vs H Q E → vs.length = 2) (pure : ∀ vs H Q E, sp vs H Q E → trparted K nv av spin_order spthen spbehind { nx := fun _ H' => Q .non H', rt := Q } (start Nparted vs) H) : FnOk P w K mg base CX0 (k + 1) f fd ["base", "log"] sp := by
  refine F.ok scparted len (fun cdv A outer s H vs Q E hr h => ⟨trparted K nv av spin_order spthen spbehind, PSs.nox ?_, pure vs H Q E h⟩)
  have nd := scparted.nd
  exact pss_cons (ps_set (i := 2) nd rfl (by first | exact Or.inl rfl | exact Or.inr rfl) (pe_cal Cbehind hr (Nat.le_refl _) rfl (pa_cons (pv 0) (pa_cons (pv 1) (pa_nil))))) (pss_cons (ps_setLc2 (i := 3) (own := [("word", 5), ("size", 6)]) (vs1 := [6]) (g := gName 5) (g1 := gName 6) rfl nd rfl rfl (sw_true rfl rfl rfl (by decide +kernel)) (pi_seq (pv 0)) (blkOk_by (own := [("word", 5), ("size", 6)]) (N := Nparted) (sc := defScope sparted) (by decide +kernel)) (by decide) (fun _ _ _ _ _ => pg_name (i := 5) nd rfl (by first | exact Or.inl rfl | exact Or.inr rfl)) (fun _ _ _ _ _ => pts_nil) (fun _ _ _ _ _ => pi_range1 rfl T.b_range (pa_cons (pe_op op_add (pe_callB call_len rfl T.b_len (by decide +kernel) (pa_cons (pv 5) (pa_nil))) (pe_int)) (pa_nil))) (fun _ _ _ _ _ => pg_name (i := 6) nd rfl (by first | exact Or.inl rfl | exact Or.inr rfl)) (fun _ _ _ _ _ => pts_nil) (fun _ _ _ _ _ => pe_slice sl_tupA (pv 5) po_none (po_some (pv 6)))) (pss_cons (ps_set (i := 4) nd rfl (by first | exact Or.inl rfl | exact Or.inr rfl) (pe_callTy call_tuple_of rfl T.b_tuple (by decide +kernel) (pa_cons (pe_cal Cin_order hr (Nat.le_refl _) rfl (pa_cons (pe_lc (own := [("head", 7)]) (g := gName 7) rfl nd (pi_seq (pv 3)) (blkOk_by (own := [("head", 7)]) (N := Nparted) (sc := defScope sparted) (by decide +kernel)) (fun _ _ _ _ _ => pg_name (i := 7) nd rfl (by first | exact Or.inl rfl | exact Or.inr rfl)) (fun _ _ _ _ _ => pts_one (pt_cmpR (op_eqG hr.units) (pe_cal Cbehind hr (Nat.le_refl _) rfl (pa_cons (pv 0) (pa_cons (pv 7) (pa_nil)))) (pv 2) (nomark _))) (fun _ _ _ _ _ => pv 7)) (pa_nil))) (pa_nil)))) (pss_one (ps_ret (pe_ifExp (pt_cmpR (op_eqG hr.units) (pe_cal Cthen hr (Nat.le_refl _) rfl (pa_cons (pv 4) (pa_cons (pv 2) (pa_nil)))) (pv 0) (nomark _)) (pe_tup (pa_cons (pv 4) (pa_cons (pv 2) (pa_nil)))) (pe_non))))))
theorem bnparted {K : PySem.W.Frag} {f : Addr} {fd : FuncData} (F : FnP K "parted" sparted f fd) : Binds K fd ["base", "log"] [] := F.bindsN fun _ _ _ _ _ _ us hl => match us, hl with | [_, _], _ => rfl
abbrev Nstages : List Str := ["base", "found", "left", "tries", "ahead", "size", "pair"]
theorem scstages : FnScope Nstages ["base"] (defScope sstages) := ⟨rfl, rfl, rfl, by decide +kernel, rfl, by decide +kernel, by decide +kernel⟩
def trstages (K : PySem.W.Frag) (nv av : Addr) (sptupled spparted : Sp) : TS :=
  tSeq (tAsg (tTup (tCons (tLst tNil) (tCons (tCall sptupled [] E0 (tCons (tVar 0) (tNil))) (tNil)))) (g2 K 1 2)) (tSeq (tIfS (tTest (tOp (rEqG K) (tVar 2) (tC (.ref nv)))) (tRet (tC .non)) (tNext)) (tSeq (tWhile (tTest (tOp (rNeG K) (tVar 2) (tC (.ref av)))) (tSeq (tAsg (tLc (iRng2 (tCons (tC (.int 1)) (tCons (tOp rAdd' (tCB (rLen' K) (tCons (tOp (rIx K) (tVar 2) (tC (.int 0))) (tNil))) (tC (.int 1))) (tNil)))) (gName 5) tYes (tCall spparted [] E0 (tCons (tVar 2) (tCons (tSl (rSlA K) (tOp (rIx K) (tVar 2) (tC (.int 0))) tNoPart (tPart (tVar 5))) (tNil)))) [5]) (gName 3)) (tSeq (tAsg (tOp (rIx K) (tLc (iSeq K (tVar 3)) (gName 6) (tTest (tOp rNotN (tVar 6) (tC .non))) (tVar 6) [6]) (tC (.int 0))) (g2 K 4 2)) (tDrop (tBM K "list" rAppend (tVar 1) (tCons (tVar 4) (tNil))))))) (tRet (tCB (rTupOf K) (tCons (tVar 1) (tNil))))))
theorem okstages {P : Program} {w : World} {K : PySem.W.Frag} {mg : Str → Option Value} {base : Heap} {nv av ev : Addr} {k : Nat} {f : Addr} {fd : FuncData} {sptupled spparted : Sp} (F : FnP K "stages" sstages f fd) (T : Txt K mg nv av ev) (Ctupled : Cal P w K mg base "tupled" k ["value"] sptupled) (Cparted : Cal P w K mg base "parted" k ["base", "log"] spparted)
    {sp : Sp} (len : ∀ vs H Q E, sp vs H Q E → vs.length = 1) (pure : ∀ vs H Q E, sp vs H Q E → trstages K nv av sptupled spparted { nx := fun _ H' => Q .non H', rt := Q } (start Nstages vs) H) : FnOk P w K mg base CX0 (k + 1) f fd ["base"] sp := by
  refine F.ok scstages len (fun cdv A outer s H vs Q E hr h => ⟨trstages K nv av sptupled spparted, PSs.nox ?_, pure vs H Q E h⟩)
  have nd := scstages.nd
  exact pss_cons (ps_asg (pe_tup (pa_cons (pe_lst (pa_nil)) (pa_cons (pe_cal Ctupled hr (Nat.le_refl _) rfl (pa_cons (pv 0) (pa_nil))) (pa_nil)))) (pg_tup rfl (pgs_cons (pg_name (i := 1) nd rfl (by first | exact Or.inl rfl | exact Or.inr rfl)) (pgs_cons (pg_name (i := 2) nd rfl (by first | exact Or.inl rfl | exact Or.inr rfl)) (pgs_nil))))) (pss_cons (ps_if (pt_cmpR (op_eqG hr.units) (pv 2) (pe_glob rfl T.never rfl) (nomark _)) (pss_one (ps_ret (pe_non))) (pss_nil)) (pss_cons (ps_while PassesOwn.never (pt_cmpR (op_neG hr.units) (pv 2) (pe_glob rfl T.always rfl) (nomark _)) (pss_cons (ps_setLc (i := 3) (own := [("size", 5)]) (g := gName 5) rfl nd rfl rfl (sw_true rfl rfl rfl (by decide +kernel)) (pi_range2 rfl T.b_range (pa_cons (pe_int) (pa_cons (pe_op op_add (pe_callB call_len rfl T.b_len (by decide +kernel) (pa_cons (pe_ix ix_seq (pv 2) (pe_int) (fun _ _ => rfl)) (pa_nil))) (pe_int)) (pa_nil)))) (blkOk_by (own := [("size", 5)]) (N := Nstages) (sc := defScope sstages) (by decide +kernel)) (fun _ _ _ _ _ => pg_name (i := 5) nd rfl (by first | exact Or.inl rfl | exact Or.inr rfl)) (fun _ _ _ _ _ => pts_nil) (fun _ _ _ _ _ => pe_cal Cparted hr (Nat.le_refl _) rfl (pa_cons (pv 2) (pa_cons (pe_slice sl_tupA (pe_ix ix_seq (pv 2) (pe_int) (fun _ _ => rfl)) po_none (po_some (pv 5))) (pa_nil))))) (pss_cons (ps_asg (pe_ix ix_seq (pe_lc (own := [("pair", 6)]) (g := gName 6) rfl nd (pi_seq (pv 3)) (blkOk_by (own := [("pair", 6)]) (N := Nstages) (sc := defScope sstages) (by decide +kernel)) (fun _ _ _ _ _ => pg_name (i := 6) nd rfl (by first | exact Or.inl rfl | exact Or.inr rfl)) (fun _ _ _ _ _ => pts_one (pt_cmpR op_notN1 (pv 6) (pe_non) (nomark _))) (fun _ _ _ _ _ => pv 6)) (pe_int) (fun _ _ => rfl)) (pg_tup rfl (pgs_cons (pg_name (i := 4) nd rfl (by first | exact Or.inl rfl | exact Or.inr rfl)) (pgs_cons (pg_name (i := 2) nd rfl (by first | exact Or.inl rfl | exact Or.inr rfl)) (pgs_nil))))) (pss_one (ps_expr (pe_bm PySem.F.plainAttrs_list PySem.F.slot_list_append PySem.F.type_list_append mt_append (pv 1) (pa_cons (pv 4) (pa_nil)))))))) (pss_one (ps_ret (pe_callTy call_tuple_of rfl T.b_tuple (by decide +kernel) (pa_cons (pv 1) (pa_nil)))))))
theorem bnstages {K : PySem.W.Frag} {f : Addr} {fd : FuncData} (F : FnP K "stages" sstages f fd) : Binds K fd ["base"] [] := F.bindsN fun _ _ _ _ _ _ us hl => match us, hl with | [_], _ => rfl
abbrev Nstanding : List Str := ["base", "log", "word"]
theorem scstanding : FnScope Nstanding ["base", "log"] (defScope sstanding) := ⟨rfl, rfl, rfl, by decide +kernel, rfl, by decide +kernel, by decide +kernel⟩
def trstanding (K : PySem.W.Frag) (nv av : Addr) (sprest spbase_of : Sp) : TS :=
  tRet (tCall spbase_of [] E0 (tCons (tLc (iSeq K (tVar 0)) (gName 2) tYes (tCall sprest [] E0 (tCons (tVar 2) (tCons (tVar 1) (tNil)))) [2]) (tNil)))
theorem okstanding {P : Program} {w : World} {K : PySem.W.Frag} {mg : Str → Option Value} {base : Heap} {nv av ev : Addr} {k : Nat} {f : Addr} {fd : FuncData} {sprest spbase_of : Sp} (F : FnP K "standing" sstanding f fd) (T : Txt K mg nv av ev) (Crest : Cal P w K mg base "rest" k ["word", "log"] sprest) (Cbase_of : Cal P w K mg base "base_of" k ["logs"] spbase_of)
    {sp : Sp} (len : ∀ vs H Q E, sp vs H Q E → vs.length = 2) (pure : ∀ vs H Q E, sp vs H Q E → trstanding K nv av sprest spbase_of { nx := fun _ H' => Q .non H', rt := Q } (start Nstanding vs) H) : FnOk P w K mg base CX0 (k + 1) f fd ["base", "log"] sp := by
  refine F.ok scstanding len (fun cdv A outer s H vs Q E hr h => ⟨trstanding K nv av sprest spbase_of, PSs.nox ?_, pure vs H Q E h⟩)
  have nd := scstanding.nd
  exact pss_one (ps_ret (pe_cal Cbase_of hr (Nat.le_refl _) rfl (pa_cons (pe_lc (own := [("word", 2)]) (g := gName 2) rfl nd (pi_seq (pv 0)) (blkOk_by (own := [("word", 2)]) (N := Nstanding) (sc := defScope sstanding) (by decide +kernel)) (fun _ _ _ _ _ => pg_name (i := 2) nd rfl (by first | exact Or.inl rfl | exact Or.inr rfl)) (fun _ _ _ _ _ => pts_nil) (fun _ _ _ _ _ => pe_cal Crest hr (Nat.le_refl _) rfl (pa_cons (pv 2) (pa_cons (pv 1) (pa_nil))))) (pa_nil))))
theorem bnstanding {K : PySem.W.Frag} {f : Addr} {fd : FuncData} (F : FnP K "standing" sstanding f fd) : Binds K fd ["base", "log"] [] := F.bindsN fun _ _ _ _ _ _ us hl => match us, hl with | [_, _], _ => rfl
abbrev Nstep : List Str := ["state", "name", "word"]
theorem scstep : FnScope Nstep ["state", "name"] (defScope sstep) := ⟨rfl, rfl, rfl, by decide +kernel, rfl, by decide +kernel, by decide +kernel⟩
def trstep (K : PySem.W.Frag) (nv av : Addr) (spbase_of : Sp) : TS :=
  tRet (tCall spbase_of [] E0 (tCons (tLc (iSeq K (tVar 0)) (gName 2) tYes (tIf (tTest (tOp (rEqG K) (tSl (rSlA K) (tVar 2) tNoPart (tPart (tC (.int 1)))) (tTup (tCons (tVar 1) (tNil))))) (tSl (rSlA K) (tVar 2) (tPart (tC (.int 1))) tNoPart) (tVar 2)) [2]) (tNil)))
theorem okstep {P : Program} {w : World} {K : PySem.W.Frag} {mg : Str → Option Value} {base : Heap} {nv av ev : Addr} {k : Nat} {f : Addr} {fd : FuncData} {spbase_of : Sp} (F : FnP K "step" sstep f fd) (T : Txt K mg nv av ev) (Cbase_of : Cal P w K mg base "base_of" k ["logs"] spbase_of)
    {sp : Sp} (len : ∀ vs H Q E, sp vs H Q E → vs.length = 2) (pure : ∀ vs H Q E, sp vs H Q E → trstep K nv av spbase_of { nx := fun _ H' => Q .non H', rt := Q } (start Nstep vs) H) : FnOk P w K mg base CX0 (k + 1) f fd ["state", "name"] sp := by
  refine F.ok scstep len (fun cdv A outer s H vs Q E hr h => ⟨trstep K nv av spbase_of, PSs.nox ?_, pure vs H Q E h⟩)
  have nd := scstep.nd
  exact pss_one (ps_ret (pe_cal Cbase_of hr (Nat.le_refl _) rfl (pa_cons (pe_lc (own := [("word", 2)]) (g := gName 2) rfl nd (pi_seq (pv 0)) (blkOk_by (own := [("word", 2)]) (N := Nstep) (sc := defScope sstep) (by decide +kernel)) (fun _ _ _ _ _ => pg_name (i := 2) nd rfl (by first | exact Or.inl rfl | exact Or.inr rfl)) (fun _ _ _ _ _ => pts_nil) (fun _ _ _ _ _ => pe_ifExp (pt_cmpR (op_eqG hr.units) (pe_slice sl_tupA (pv 2) po_none (po_some (pe_int))) (pe_tup (pa_cons (pv 1) (pa_nil))) (nomark _)) (pe_slice sl_tupA (pv 2) (po_some (pe_int)) po_none) (pv 2))) (pa_nil))))
theorem bnstep {K : PySem.W.Frag} {f : Addr} {fd : FuncData} (F : FnP K "step" sstep f fd) : Binds K fd ["state", "name"] [] := F.bindsN fun _ _ _ _ _ _ us hl => match us, hl with | [_, _], _ => rfl
abbrev Nfirst_names : List Str := ["state", "word"]
theorem scfirst_names : FnScope Nfirst_names ["state"] (defScope sfirst_names) := ⟨rfl, rfl, rfl, by decide +kernel, rfl, by decide +kernel, by decide +kernel⟩
def trfirst_names (K : PySem.W.Frag) (nv av : Addr) : TS :=
  tRet (tSSt K (tLc (iSeq K (tVar 0)) (gName 1) (tTest (tOp rGt' (tCB (rLen' K) (tCons (tVar 1) (tNil))) (tC (.int 0)))) (tOp (rIx K) (tVar 1) (tC (.int 0))) [1]))
theorem okfirst_names {P : Program} {w : World} {K : PySem.W.Frag} {mg : Str → Option Value} {base : Heap} {nv av ev : Addr} {k : Nat} {f : Addr} {fd : FuncData} (F : FnP K "first_names" sfirst_names f fd) (T : Txt K mg nv av ev)
    {sp : Sp} (len : ∀ vs H Q E, sp vs H Q E → vs.length = 1) (pure : ∀ vs H Q E, sp vs H Q E → trfirst_names K nv av  { nx := fun _ H' => Q .non H', rt := Q } (start Nfirst_names vs) H) : FnOk P w K mg base CX0 (k + 1) f fd ["state"] sp := by
  refine F.ok scfirst_names len (fun cdv A outer s H vs Q E hr h => ⟨trfirst_names K nv av , PSs.nox ?_, pure vs H Q E h⟩)
  have nd := scfirst_names.nd
  exact pss_one (ps_ret (pe_sst rfl hr.units rfl T.b_sorted rfl T.b_set (pe_lc (own := [("word", 1)]) (g := gName 1) rfl nd (pi_seq (pv 0)) (blkOk_by (own := [("word", 1)]) (N := Nfirst_names) (sc := defScope sfirst_names) (by decide +kernel)) (fun _ _ _ _ _ => pg_name (i := 1) nd rfl (by first | exact Or.inl rfl | exact Or.inr rfl)) (fun _ _ _ _ _ => pts_one (pt_cmpR op_gt (pe_callB call_len rfl T.b_len (by decide +kernel) (pa_cons (pv 1) (pa_nil))) (pe_int) (nomark _))) (fun _ _ _ _ _ => pe_ix ix_seq (pv 1) (pe_int) (fun _ _ => rfl)))))
theorem bnfirst_names {K : PySem.W.Frag} {f : Addr} {fd : FuncData} (F : FnP K "first_names" sfirst_names f fd) : Binds K fd ["state"] [] := F.bindsN fun _ _ _ _ _ _ us hl => match us, hl with | [_], _ => rfl
abbrev Nhardest : List Str := ["states", "rows", "state", "row"]
theorem schardest : FnScope Nhardest ["states"] (defScope shardest) := ⟨rfl, rfl, rfl, by decide +kernel, rfl, by decide +kernel, by decide +kernel⟩
def trhardest (K : PySem.W.Frag) (nv av : Addr) (spis_inside : Sp) : TS :=
  tSeq (tAsg (tSS K (tVar 0)) (gName 1)) (tRet (tCB (rTupOf K) (tCons (tLc (iSeq K (tVar 1)) (gName 2) (tNot (tB (tCB (rAny K) (tCons (tLc (iSeq K (tVar 1)) (gName 3) (tTest (tOp (rNeG K) (tVar 3) (tVar 2))) (tCall spis_inside [] E0 (tCons (tVar 3) (tCons (tVar 2) (tNil)))) [3]) (tNil))))) (tVar 2) [2]) (tNil))))
theorem okhardest {P : Program} {w : World} {K : PySem.W.Frag} {mg : Str → Option Value} {base : Heap} {nv av ev : Addr} {k : Nat} {f : Addr} {fd : FuncData} {spis_inside : Sp} (F : FnP K "hardest" shardest f fd) (T : Txt K mg nv av ev) (Cis_inside : Cal P w K mg base "is_inside" k ["one", "other"] spis_inside)
    {sp : Sp} (len : ∀ vs H Q E, sp vs H Q E → vs.length = 1) (pure : ∀ vs H Q E, sp vs H Q E → trhardest K nv av spis_inside { nx := fun _ H' => Q .non H', rt := Q } (start Nhardest vs) H) : FnOk P w K mg base CX0 (k + 1) f fd ["states"] sp := by
  refine F.ok schardest len (fun cdv A outer s H vs Q E hr h => ⟨trhardest K nv av spis_inside, PSs.nox ?_, pure vs H Q E h⟩)
  have nd := schardest.nd
  exact pss_cons (ps_set (i := 1) nd rfl (by first | exact Or.inl rfl | exact Or.inr rfl) (pe_ss rfl hr.units rfl T.b_sorted rfl T.b_set (pv 0))) (pss_one (ps_ret (pe_callTy call_tuple_of rfl T.b_tuple (by decide +kernel) (pa_cons (pe_lc (own := [("state", 2)]) (g := gName 2) rfl nd (pi_seq (pv 1)) (blkOk_by (own := [("state", 2)]) (N := Nhardest) (sc := defScope shardest) (by decide +kernel)) (fun _ _ _ _ _ => pg_name (i := 2) nd rfl (by first | exact Or.inl rfl | exact Or.inr rfl)) (fun _ _ _ _ _ => pts_one (pt_not (pt_val (pe_callB (cr_any rfl) rfl T.b_any (by decide +kernel) (pa_cons (pe_lc (own := [("row", 3)]) (g := gName 3) rfl nd (pi_seq (pv 1)) (blkOk_by (own := [("row", 3)]) (by kernel_rfl)) (fun _ _ _ _ _ => pg_name (i := 3) nd rfl (by first | exact Or.inl rfl | exact Or.inr rfl)) (fun _ _ _ _ _ => pts_one (pt_cmpR (op_neG hr.units) (pv 3) (pv 2) (nomark _))) (fun _ _ _ _ _ => pe_cal Cis_inside hr (Nat.le_refl _) rfl (pa_cons (pv 3) (pa_cons (pv 2) (pa_nil))))) (pa_nil)))))) (fun _ _ _ _ _ => pv 2)) (pa_nil)))))
theorem bnhardest {K : PySem.W.Frag} {f : Addr} {fd : FuncData} (F : FnP K "hardest" shardest f fd) : Binds K fd ["states"] [] := F.bindsN fun _ _ _ _ _ _ us hl => match us, hl with | [_], _ => rfl
abbrev Nlead : List Str := ["base", "other"]
theorem sclead : FnScope Nlead ["base", "other"] (defScope slead) := ⟨rfl, rfl, rfl, by decide +kernel, rfl, by decide +kernel, by decide +kernel⟩
def trlead (K : PySem.W.Frag) (nv av : Addr) (spamid : Sp) : TS :=
  tRet (tCall spamid [] E0 (tCons (tVar 0) (tCons (tC (.ref av)) (tCons (tVar 1) (tNil)))))
theorem oklead {P : Program} {w : World} {K : PySem.W.Frag} {mg : Str → Option Value} {base : Heap} {nv av ev : Addr} {k : Nat} {f : Addr} {fd : FuncData} {spamid : Sp} (F : FnP K "lead" slead f fd) (T : Txt K mg nv av ev) (Camid : Cal P w K mg base "amid" k ["base", "one", "other"] spamid)
    {sp : Sp} (len : ∀ vs H Q E, sp vs H Q E → vs.length = 2) (pure : ∀ vs H Q E, sp vs H Q E → trlead K nv av spamid { nx := fun _ H' => Q .non H', rt := Q } (start Nlead vs) H) : FnOk P w K mg base CX0 (k + 1) f fd ["base", "other"] sp := by
  refine F.ok sclead len (fun cdv A outer s H vs Q E hr h => ⟨trlead K nv av spamid, PSs.nox ?_, pure vs H Q E h⟩)
  have nd := sclead.nd
  exact pss_one (ps_ret (pe_cal Camid hr (Nat.le_refl _) rfl (pa_cons (pv 0) (pa_cons (pe_glob rfl T.always rfl) (pa_cons (pv 1) (pa_nil))))))
theorem bnlead {K : PySem.W.Frag} {f : Addr} {fd : FuncData} (F : FnP K "lead" slead f fd) : Binds K fd ["base", "other"] [] := F.bindsN fun _ _ _ _ _ _ us hl => match us, hl with | [_, _], _ => rfl
abbrev Nrest_of : List Str := ["base", "other"]
theorem screst_of : FnScope Nrest_of ["base", "other"] (defScope srest_of) := ⟨rfl, rfl, rfl, by decide +kernel, rfl, by decide +kernel, by decide +kernel⟩
def trrest_of (K : PySem.W.Frag) (nv av : Addr) (spamid : Sp) : TS :=
  tRet (tCall spamid [] E0 (tCons (tVar 0) (tCons (tVar 1) (tCons (tC (.ref av)) (tNil)))))
theorem okrest_of {P : Program} {w : World} {K : PySem.W.Frag} {mg : Str → Option Value} {base : Heap} {nv av ev : Addr} {k : Nat} {f : Addr} {fd : FuncData} {spamid : Sp} (F : FnP K "rest_of" srest_of f fd) (T : Txt K mg nv av ev) (Camid : Cal P w K mg base "amid" k ["base", "one", "other"] spamid)
    {sp : Sp} (len : ∀ vs H Q E, sp vs H Q E → vs.length = 2) (pure : ∀ vs H Q E, sp vs H Q E → trrest_of K nv av spamid { nx := fun _ H' => Q .non H', rt := Q } (start Nrest_of vs) H) : FnOk P w K mg base CX0 (k + 1) f fd ["base", "other"] sp := by
  refine F.ok screst_of len (fun cdv A outer s H vs Q E hr h => ⟨trrest_of K nv av spamid, PSs.nox ?_, pure vs H Q E h⟩)
  have nd := screst_of.nd
  exact pss_one (ps_ret (pe_cal Camid hr (Nat.le_refl _) rfl (pa_cons (pv 0) (pa_cons (pv 1) (pa_cons (pe_glob rfl T.always rfl) (pa_nil))))))
theorem bnrest_of {K : PySem.W.Frag} {f : Addr} {fd : FuncData} (F : FnP K "rest_of" srest_of f fd) : Binds K fd ["base", "other"] [] := F.bindsN fun _ _ _ _ _ _ us hl => match us, hl with | [_, _], _ => rfl
abbrev Nis_split : List Str := ["base", "thing", "part"]
theorem scis_split : FnScope Nis_split ["base", "thing"] (defScope sis_split) := ⟨rfl, rfl, rfl, by decide +kernel, rfl, by decide +kernel, by decide +kernel⟩
def tris_split (K : PySem.W.Frag) (nv av : Addr) (sptupled spis_base spthen : Sp) : TS :=
  tSeq (tIfS (tOr (tNot (tB (tCB (rIsi K) (tCons (tVar 1) (tCons (tC (.ty "tuple")) (tNil)))))) (tOr (tTest (tOp (rNeG K) (tCB (rLen' K) (tCons (tVar 1) (tNil))) (tC (.int 2)))) (tNot (tB (tCB (rAll K) (tCons (tLc (iSeq K (tVar 1)) (gName 2) tYes (tCall spis_base [] E0 (tCons (tVar 2) (tNil))) [2]) (tNil))))))) (tRet (tC (.bl false))) (tNext)) (tRet (tAndV (tOp (rNotInG K) (tC (.ref av)) (tVar 1)) (tOp (rEqG K) (tCall spthen [] E0 (tCons (tOp (rIx K) (tVar 1) (tC (.int 0))) (tCons (tOp (rIx K) (tVar 1) (tC (.int 1))) (tNil)))) (tCall sptupled [] E0 (tCons (tVar 0) (tNil))))))
theorem okis_split {P : Program} {w : World} {K : PySem.W.Frag} {mg : Str → Option Value} {base : Heap} {nv av ev : Addr} {k : Nat} {f : Addr} {fd : FuncData} {sptupled spis_base spthen : Sp} (F : FnP K "is_split" sis_split f fd) (T : Txt K mg nv av ev) (Ctupled : Cal P w K mg base "tupled" k ["value"] sptupled) (Cis_base : Cal P w K mg base "is_base" k ["thing"] spis_base) (Cthen : Cal P w K mg base "then" k ["one", "other"] spthen)
    {sp : Sp} (len : ∀ vs H Q E, sp vs H Q E → vs.length = 2) (pure : ∀ vs H Q E, sp vs H Q E → tris_split K nv av sptupled spis_base spthen { nx := fun _ H' => Q .non H', rt := Q } (start Nis_split vs) H) : FnOk P w K mg base CX0 (k + 1) f fd ["base", "thing"] sp := by
  refine F.ok scis_split len (fun cdv A outer s H vs Q E hr h => ⟨tris_split K nv av sptupled spis_base spthen, PSs.nox ?_, pure vs H Q E h⟩)
  have nd := scis_split.nd
  exact pss_cons (ps_if (PW.pt (pw_or (pt_not (pt_val (pe_callB call_isi rfl T.b_isinstance (by decide +kernel) (pa_cons (pv 1) (pa_cons (pe_bltn rfl T.b_tuple (by decide +kernel) rfl) (pa_nil)))))) (pw_or (pt_cmpR (op_neG hr.units) (pe_callB call_len rfl T.b_len (by decide +kernel) (pa_cons (pv 1) (pa_nil))) (pe_int) (nomark _)) (pw_or1 (pt_not (pt_val (pe_callB (cr_all rfl) rfl T.b_all (by decide +kernel) (pa_cons (pe_lc (own := [("part", 2)]) (g := gName 2) rfl nd (pi_seq (pv 1)) (blkOk_by (own := [("part", 2)]) (N := Nis_split) (sc := defScope sis_split) (by decide +kernel)) (fun _ _ _ _ _ => pg_name (i := 2) nd rfl (by first | exact Or.inl rfl | exact Or.inr rfl)) (fun _ _ _ _ _ => pts_nil) (fun _ _ _ _ _ => pe_cal Cis_base hr (Nat.le_refl _) rfl (pa_cons (pv 2) (pa_nil)))) (pa_nil))))))))) (pss_one (ps_ret (pe_bl))) (pss_nil)) (pss_one (ps_ret (pe_and (pe_cmpR (op_notInG hr.units) (pe_glob rfl T.always rfl) (pv 1) rfl) (pe_one (pe_cmpR (op_eqG hr.units) (pe_cal Cthen hr (Nat.le_refl _) rfl (pa_cons (pe_ix ix_seq (pv 1) (pe_int) (fun _ _ => rfl)) (pa_cons (pe_ix ix_seq (pv 1) (pe_int) (fun _ _ => rfl)) (pa_nil)))) (pe_cal Ctupled hr (Nat.le_refl _) rfl (pa_cons (pv 0) (pa_nil))) (nomark _))))))
theorem bnis_split {K : PySem.W.Frag} {f : Addr} {fd : FuncData} (F : FnP K "is_split" sis_split f fd) : Binds K fd ["base", "thing"] [] := F.bindsN fun _ _ _ _ _ _ us hl => match us, hl with | [_, _], _ => rfl
abbrev Nsplits : List Str := ["base", "pair"]
theorem scsplits : FnScope Nsplits ["base"] (defScope ssplits) := ⟨rfl, rfl, rfl, by decide +kernel, rfl, by decide +kernel, by decide +kernel⟩
def trsplits (K : PySem.W.Frag) (nv av : Addr) (sppairs spis_split : Sp) : TS :=
  tRet (tLc (iSeq K (tCall sppairs [] E0 (tCons (tVar 0) (tNil)))) (gName 1) (tB (tCall spis_split [] E0 (tCons (tVar 0) (tCons (tVar 1) (tNil))))) (tVar 1) [1])
theorem oksplits {P : Program} {w : World} {K : PySem.W.Frag} {mg : Str → Option Value} {base : Heap} {nv av ev : Addr} {k : Nat} {f : Addr} {fd : FuncData} {sppairs spis_split : Sp} (F : FnP K "splits" ssplits f fd) (T : Txt K mg nv av ev) (Cpairs : Cal P w K mg base "pairs" k ["base"] sppairs) (Cis_split : Cal P w K mg base "is_split" k ["base", "thing"] spis_split)
    {sp : Sp} (len : ∀ vs H Q E, sp vs H Q E → vs.length = 1) (pure : ∀ vs H Q E, sp vs H Q E → trsplits K nv av sppairs spis_split { nx := fun _ H' => Q .non H', rt := Q } (start Nsplits vs) H) : FnOk P w K mg base CX0 (k + 1) f fd ["base"] sp := by
  refine F.ok scsplits len (fun cdv A outer s H vs Q E hr h => ⟨trsplits K nv av sppairs spis_split, PSs.nox ?_, pure vs H Q E h⟩)
  have nd := scsplits.nd
  exact pss_one (ps_ret (pe_lc (own := [("pair", 1)]) (g := gName 1) rfl nd (pi_seq (pe_cal Cpairs hr (Nat.le_refl _) rfl (pa_cons (pv 0) (pa_nil)))) (blkOk_by (own := [("pair", 1)]) (N := Nsplits) (sc := defScope ssplits) (by decide +kernel)) (fun _ _ _ _ _ => pg_name (i := 1) nd rfl (by first | exact Or.inl rfl | exact Or.inr rfl)) (fun _ _ _ _ _ => pts_one (pt_val (pe_cal Cis_split hr (Nat.le_refl _) rfl (pa_cons (pv 0) (pa_cons (pv 1) (pa_nil)))))) (fun _ _ _ _ _ => pv 1)))
theorem bnsplits {K : PySem.W.Frag} {f : Addr} {fd : FuncData} (F : FnP K "splits" ssplits f fd) : Binds K fd ["base"] [] := F.bindsN fun _ _ _ _ _ _ us hl => match us, hl with | [_], _ => rfl
end MoD
namespace Mo
section
variable {α : Type} [DecidableEq α] {le : List α → List α → Bool} {leB : List (List α) → List (List α) → Bool}

/-! ### done, by words -/
theorem done_all {B : List (List α)} {P : List α → Prop} (hP : ∀ u v, u.Sublist v → P u → P v) : (∀ l, Done B l → P l) ↔ ∀ w ∈ B, P w :=
  ⟨fun h w hw => h w ⟨w, hw, List.Sublist.refl _⟩, fun h l ⟨w, hw, s⟩ => hP w l s (h w hw)⟩
theorem inside_base {A B : List (List α)} {U : List α → Prop} (h : IsBase le B U) : isInside A B = true ↔ ∀ w ∈ A, U w := by
  rw [inside_words]
  exact forall_congr' fun w => imp_congr_right fun _ => h.iff w
theorem inside_thenB {A B W : List (List α)} : isInside (thenB le A B) W = true ↔ ∀ a ∈ A, ∀ b ∈ B, Done W (a ++ b) := by
  rw [inside_words]
  constructor
  · intro h a ha b hb; exact h _ (mem_thenB.mpr ⟨a, ha, b, hb, rfl⟩)
  · intro h w hw
    obtain ⟨a, ha, b, hb, rfl⟩ := mem_thenB.mp hw
    exact h a ha b hb
/-- the law's own joining: the least of all products -/
def joined (le : List α → List α → Bool) (A B : List (List α)) : List (List α) := leastOf le (A.flatMap fun w => B.map fun m => w ++ m)
theorem done_joined (o : WOrd le) {A B : List (List α)} {l : List α} : Done (joined le A B) l ↔ Done (thenB le A B) l := by
  unfold joined thenB inOrder
  rw [done_leastOf o]
  unfold Done
  constructor
  · rintro ⟨w, hw, s⟩; exact ⟨w, mem_canon.mpr hw, s⟩
  · rintro ⟨w, hw, s⟩; exact ⟨w, mem_canon.mp hw, s⟩
theorem inside_joined (o : WOrd le) {A B W : List (List α)} : isInside (joined le A B) W = true ↔ ∀ a ∈ A, ∀ b ∈ B, Done W (a ++ b) := by
  rw [← inside_thenB (le := le), inside_iff, inside_iff]
  exact forall_congr' fun l => by rw [done_joined o]
def rev (le : List α → List α → Bool) (b : List (List α)) : List (List α) := leastOf le (b.map List.reverse)
theorem done_rev (o : WOrd le) {b : List (List α)} {l : List α} : Done (rev le b) l ↔ Done b l.reverse := by
  unfold rev
  rw [done_leastOf o]
  constructor
  · rintro ⟨w, hw, s⟩
    obtain ⟨v, hv, rfl⟩ := List.mem_map.mp hw
    exact ⟨v, hv, by have := s.reverse; rwa [List.reverse_reverse] at this⟩
  · rintro ⟨w, hw, s⟩
    exact ⟨w.reverse, List.mem_map.mpr ⟨w, hw, rfl⟩, by have := s.reverse; rwa [List.reverse_reverse] at this⟩
theorem cb_rev (o : WOrd le) (b : List (List α)) : CB le (rev le b) := cb_leastOf o _
theorem rev_rev (o : WOrd le) {b : List (List α)} (h : CB le b) : rev le (rev le b) = b :=
  base_unique o (cb_rev o _) h fun l => by rw [done_rev o, done_rev o, List.reverse_reverse]
theorem mem_rev (o : WOrd le) {b : List (List α)} (h : CB le b) {x : List α} : x ∈ rev le b ↔ x.reverse ∈ b := by
  unfold rev
  rw [mem_leastOf o]
  constructor
  · rintro ⟨h1, _⟩
    obtain ⟨v, hv, rfl⟩ := List.mem_map.mp h1
    rw [List.reverse_reverse]; exact hv
  · intro hx
    refine ⟨List.mem_map.mpr ⟨_, hx, List.reverse_reverse _⟩, fun u hu s => ?_⟩
    obtain ⟨v, hv, rfl⟩ := List.mem_map.mp hu
    have s2 := s.reverse
    rw [List.reverse_reverse] at s2
    rw [h.anti v _ hv hx s2, List.reverse_reverse]

/-! ### leads, rightly -/
section
variable (o : WOrd le) (oB : TOrd leB)
include o oB
theorem bool_eq {p q : Bool} (h : p = true ↔ q = true) : p = q := Bool.eq_iff_iff.mpr h
theorem fits_lead (W one two : List (List α)) : isInside (thenB le one two) W = isInside one (lead le leB W two) :=
  Bool.eq_iff_iff.mpr (by rw [inside_thenB, inside_base (isBase_lead o oB W two)])
theorem fits_rest (W one two : List (List α)) : isInside (thenB le one two) W = isInside two (restOf le leB W one) :=
  Bool.eq_iff_iff.mpr (by rw [inside_thenB, inside_base (isBase_restOf o oB W one)]; exact ⟨fun h b hb a ha => h a ha b hb, fun h a ha b hb => h b hb a ha⟩)
theorem joined_lead (W two : List (List α)) : isInside (joined le (lead le leB W two) two) W = true :=
  (inside_joined o).mpr fun a ha b hb => ((isBase_lead o oB W two).iff a).mp ⟨a, ha, List.Sublist.refl _⟩ b hb
theorem joined_rest (W one : List (List α)) : isInside (joined le one (restOf le leB W one)) W = true :=
  (inside_joined o).mpr fun a ha b hb => ((isBase_restOf o oB W one).iff b).mp ⟨b, hb, List.Sublist.refl _⟩ a ha
theorem joined_amid (W one two : List (List α)) : isInside (joined le one (joined le (amid le leB W one two) two)) W = true := by
  rw [inside_joined o]
  intro a ha x hx
  have hd : Done (joined le (amid le leB W one two) two) x := ⟨x, hx, List.Sublist.refl _⟩
  rw [done_joined o, done_thenB] at hd
  obtain ⟨l1, l2, rfl, h1, b, hb, s⟩ := hd
  have h2 := ((isBase_amid o oB W one two).iff l1).mp h1 a ha b hb
  exact h2.mono ((List.Sublist.refl _).append ((List.Sublist.refl _).append s))
theorem inside_lead (W two : List (List α)) : isInside W (lead le leB W two) = true :=
  (inside_base (isBase_lead o oB W two)).mpr fun w hw e _ => ⟨w, hw, List.sublist_append_left _ _⟩
theorem rest_row (W : List (List α)) (row : List α) : restOf le leB W [row] = standing le W row :=
  (isBase_restOf o oB W [row]).unique o ⟨cb_standing o _ _, fun l => by
    rw [done_standing o]
    exact ⟨fun h a ha => by rw [List.mem_singleton.mp ha]; exact h, fun h => h row (List.mem_singleton.mpr rfl)⟩⟩
theorem lead_row (W : List (List α)) (row : List α) : lead le leB W [row.reverse] = rev le (standing le (rev le W) row) :=
  (isBase_lead o oB W [row.reverse]).unique o ⟨cb_rev o _, fun l => by
    rw [done_rev o, done_standing o, done_rev o, List.reverse_append, List.reverse_reverse]
    exact ⟨fun h a ha => by rw [List.mem_singleton.mp ha]; exact h, fun h => h _ (List.mem_singleton.mpr rfl)⟩⟩
theorem rev_rest (W one : List (List α)) : rev le (restOf le leB W one) = lead le leB (rev le W) (rev le one) :=
  IsBase.unique o (U := fun x => ∀ e ∈ rev le one, Done (rev le W) (x ++ e)) ⟨cb_rev o _, fun l => by
    rw [done_rev o, (isBase_restOf o oB W one).iff]
    constructor
    · intro h e he
      rw [done_rev o, List.reverse_append]
      have hd : Done (rev le one) e := ⟨e, he, List.Sublist.refl _⟩
      rw [done_rev o] at hd
      obtain ⟨a, ha, s⟩ := hd
      exact (h a ha).mono (s.append (List.Sublist.refl _))
    · intro h a ha
      have hd : Done (rev le one) a.reverse := (done_rev o).mpr (by rw [List.reverse_reverse]; exact ⟨a, ha, List.Sublist.refl _⟩)
      obtain ⟨e, he, s⟩ := hd
      have h1 := h e he
      rw [done_rev o, List.reverse_append] at h1
      have s2 := s.reverse
      rw [List.reverse_reverse] at s2
      exact h1.mono (s2.append (List.Sublist.refl _))⟩ (isBase_lead o oB _ _)
/-- amid from both sides -/
theorem amid_sides (W one two : List (List α)) (own : List α) : does (amid le leB W one two) own = two.all fun e => one.all fun a => does W (a ++ own ++ e) := by
  rw [Bool.eq_iff_iff, does_iff, (isBase_amid o oB W one two).iff, List.all_eq_true]
  constructor
  · intro h e he
    rw [List.all_eq_true]
    intro a ha
    rw [does_iff, List.append_assoc]
    exact h a ha e he
  · intro h a ha e he
    have := List.all_eq_true.mp (h e he) a ha
    rw [does_iff, List.append_assoc] at this
    exact this
def either (le : List α → List α → Bool) (A B : List (List α)) : List (List α) := leastOf le (A ++ B)
omit oB in
theorem done_either {A B : List (List α)} {l : List α} : Done (either le A B) l ↔ Done A l ∨ Done B l := by
  unfold either
  rw [done_leastOf o]
  constructor
  · rintro ⟨w, hw, s⟩
    rcases List.mem_append.mp hw with h | h
    · exact .inl ⟨w, h, s⟩
    · exact .inr ⟨w, h, s⟩
  · rintro (⟨w, hw, s⟩ | ⟨w, hw, s⟩)
    · exact ⟨w, List.mem_append_left _ hw, s⟩
    · exact ⟨w, List.mem_append_right _ hw, s⟩
theorem lead_either (W one two : List (List α)) (own : List α) : does (lead le leB W (either le one two)) own = (does (lead le leB W one) own && does (lead le leB W two) own) := by
  rw [Bool.eq_iff_iff, Bool.and_eq_true, does_iff, does_iff, does_iff, (isBase_lead o oB W _).iff, (isBase_lead o oB W one).iff, (isBase_lead o oB W two).iff]
  have mono : ∀ u v, u.Sublist v → Done W (own ++ u) → Done W (own ++ v) := fun u v s h => h.mono ((List.Sublist.refl _).append s)
  rw [← done_all (B := either le one two) mono, ← done_all (B := one) mono, ← done_all (B := two) mono]
  constructor
  · intro h
    exact ⟨fun l hl => h l ((done_either o).mpr (.inl hl)), fun l hl => h l ((done_either o).mpr (.inr hl))⟩
  · rintro ⟨h1, h2⟩ l hl
    rcases (done_either o).mp hl with q | q
    · exact h1 l q
    · exact h2 l q

/-! ### greatest pairs -/
/-- two bases, each the greatest beside the other -/
structure Pair (W A B : List (List α)) : Prop where
  one : A = lead le leB W B
  two : B = restOf le leB W A
/-- lead, by the judgement of the ends -/
theorem lead_congr {W E F : List (List α)} (h : ∀ x, (∀ e ∈ E, Done W (x ++ e)) ↔ ∀ e ∈ F, Done W (x ++ e)) : lead le leB W E = lead le leB W F :=
  (isBase_lead o oB W E).unique o ((isBase_lead o oB W F).congr fun x => (h x).symm)
/-- lead of rest of lead -/
theorem galois (W E : List (List α)) : lead le leB W (restOf le leB W (lead le leB W E)) = lead le leB W E := by
  refine lead_congr o oB fun x => ?_
  have h1 := isBase_restOf o oB W (lead le leB W E)
  have h2 := isBase_lead o oB W E
  constructor
  · intro h e he
    have hd : Done (restOf le leB W (lead le leB W E)) e := (h1.iff e).mpr fun a ha => (h2.iff a).mp ⟨a, ha, List.Sublist.refl _⟩ e he
    obtain ⟨b, hb, s⟩ := hd
    exact (h b hb).mono ((List.Sublist.refl _).append s)
  · intro h b hb
    obtain ⟨a, ha, s⟩ := (h2.iff x).mpr h
    exact ((h1.iff b).mp ⟨b, hb, List.Sublist.refl _⟩ a ha).mono (s.append (List.Sublist.refl _))
theorem pair_of (W E : List (List α)) : Pair (le := le) (leB := leB) W (lead le leB W E) (restOf le leB W (lead le leB W E)) := ⟨(galois o oB W E).symm, rfl⟩
theorem galois2 (W A : List (List α)) : restOf le leB W (lead le leB W (restOf le leB W A)) = restOf le leB W A := by
  refine (isBase_restOf o oB W _).unique o ((isBase_restOf o oB W A).congr fun y => ?_)
  have h1 := isBase_restOf o oB W A
  have h2 := isBase_lead o oB W (restOf le leB W A)
  constructor
  · intro h a ha
    obtain ⟨b, hb, s⟩ := (h1.iff y).mpr h
    exact ((h2.iff a).mp ⟨a, ha, List.Sublist.refl _⟩ b hb).mono ((List.Sublist.refl _).append s)
  · intro h a ha
    have hd : Done (lead le leB W (restOf le leB W A)) a := (h2.iff a).mpr fun b hb => (h1.iff b).mp ⟨b, hb, List.Sublist.refl _⟩ a ha
    obtain ⟨x, hx, s⟩ := hd
    exact (h x hx).mono (s.append (List.Sublist.refl _))
/-- the greatest pair above two bases that fit -/
theorem pair_above {W one two : List (List α)} (h : isInside (thenB le one two) W = true) : ∃ A B, Pair (le := le) (leB := leB) W A B ∧ isInside one A = true ∧ isInside two B = true := by
  refine ⟨lead le leB W (restOf le leB W one), restOf le leB W (lead le leB W (restOf le leB W one)), pair_of o oB W _, ?_, ?_⟩
  · rw [inside_base (isBase_lead o oB W _)]
    intro a ha b hb
    exact ((isBase_restOf o oB W one).iff b).mp ⟨b, hb, List.Sublist.refl _⟩ a ha
  · rw [galois2 o oB, ← fits_rest o oB]; exact h
theorem pair_fits {W A B one two : List (List α)} (hp : Pair (le := le) (leB := leB) W A B) (h1 : isInside one A = true) (h2 : isInside two B = true) : isInside (thenB le one two) W = true := by
  rw [inside_thenB]
  intro a ha b hb
  obtain ⟨x, hx, s1⟩ := inside_words.mp h1 a ha
  obtain ⟨y, hy, s2⟩ := inside_words.mp h2 b hb
  have h3 : Done A x := ⟨x, hx, List.Sublist.refl _⟩
  rw [hp.one, (isBase_lead o oB W B).iff] at h3
  exact (h3 y hy).mono (s1.append s2)
theorem pair_cb {W A B : List (List α)} (hp : Pair (le := le) (leB := leB) W A B) : CB le A ∧ CB le B := by
  constructor
  · rw [hp.one]; exact (isBase_lead o oB W B).cb
  · rw [hp.two]; exact (isBase_restOf o oB W A).cb

/-! ### pairs by standings and ends -/
/-- all standings; ends of which each other log is like one -/
def AllSt (W : List (List α)) (Q : List (List (List α))) : Prop := ∀ s, s ∈ Q ↔ ∃ l, s = standing le W l
def AllEnds (W E : List (List α)) : Prop := ∀ z, ∃ e ∈ E, ∀ x, Done W (x ++ z) ↔ Done W (x ++ e)
def fitting (E : List (List α)) (row : List (List (List α))) : List (List α) := E.filter fun e => row.all fun s => does s e
/-- a row: what some columns have in common -/
def IsRow (Q : List (List (List α))) (E : List (List α)) (row : List (List (List α))) : Prop := ∃ F : List (List α), (∀ e ∈ F, e ∈ E) ∧ row = Q.filter fun s => F.all fun e => does s e
variable {W E : List (List α)} {Q : List (List (List α))}
theorem row_lead (hQ : AllSt (le := le) W Q) {row : List (List (List α))} (hr : IsRow Q E row) (x : List α) : Done (lead le leB W (fitting E row)) x ↔ standing le W x ∈ row := by
  obtain ⟨F, hF, rfl⟩ := hr
  rw [(isBase_lead o oB W _).iff]
  unfold fitting
  constructor
  · intro h
    refine List.mem_filter.mpr ⟨(hQ _).mpr ⟨x, rfl⟩, List.all_eq_true.mpr fun e he => does_iff.mpr ((done_standing o).mpr (h e (List.mem_filter.mpr ⟨hF e he, List.all_eq_true.mpr fun s hs => ?_⟩)))⟩
    exact List.all_eq_true.mp (List.mem_filter.mp hs).2 e he
  · intro h e he
    have := List.all_eq_true.mp (List.mem_filter.mp he).2 _ h
    exact (done_standing o).mp (does_iff.mp this)
theorem row_inj (hQ : AllSt (le := le) W Q) {row row' : List (List (List α))} (hr : IsRow Q E row) (hr' : IsRow Q E row') (h : lead le leB W (fitting E row) = lead le leB W (fitting E row')) : row = row' := by
  have key : ∀ s ∈ Q, s ∈ row ↔ s ∈ row' := fun s hs => by
    obtain ⟨x, rfl⟩ := (hQ s).mp hs
    rw [← row_lead o oB hQ hr, ← row_lead o oB hQ hr', h]
  obtain ⟨F, _, rfl⟩ := hr
  obtain ⟨F', _, rfl⟩ := hr'
  refine List.filter_congr fun s hs => ?_
  have := key s hs
  rw [List.mem_filter, List.mem_filter] at this
  rw [Bool.eq_iff_iff]
  exact ⟨fun h => (this.mp ⟨hs, h⟩).2, fun h => (this.mpr ⟨hs, h⟩).2⟩
theorem row_of_pair (hQ : AllSt (le := le) W Q) (hE : AllEnds W E) {A B : List (List α)} (hp : Pair (le := le) (leB := leB) W A B) :
    ∃ row, IsRow Q E row ∧ A = lead le leB W (fitting E row) := by
  let F := E.filter fun e => does B e
  refine ⟨Q.filter fun s => F.all fun e => does s e, ⟨F, fun e he => (List.mem_filter.mp he).1, rfl⟩, ?_⟩
  have hr : IsRow Q E (Q.filter fun s => F.all fun e => does s e) := ⟨F, fun e he => (List.mem_filter.mp he).1, rfl⟩
  refine base_unique o (pair_cb o oB hp).1 (isBase_lead o oB W _).cb fun x => ?_
  rw [row_lead o oB hQ hr, List.mem_filter, List.all_eq_true]
  have hB := isBase_restOf o oB W A
  rw [← hp.two] at hB
  have hA := isBase_lead o oB W B
  rw [← hp.one] at hA
  rw [hA.iff]
  constructor
  · intro h
    refine ⟨(hQ _).mpr ⟨x, rfl⟩, fun e he => does_iff.mpr ((done_standing o).mpr ?_)⟩
    obtain ⟨b, hb, s⟩ := does_iff.mp (List.mem_filter.mp he).2
    exact (h b hb).mono ((List.Sublist.refl _).append s)
  · rintro ⟨_, h⟩ b hb
    obtain ⟨e, he, hq⟩ := hE b
    have hbe : Done B e := (hB.iff e).mpr fun a ha => (hq a).mp ((hB.iff b).mp ⟨b, hb, List.Sublist.refl _⟩ a ha)
    exact (hq x).mpr ((done_standing o).mp (does_iff.mp (h e (List.mem_filter.mpr ⟨he, does_iff.mpr hbe⟩))))
/-- what pairs finds: each greatest pair once -/
theorem pairs_found (hQ : AllSt (le := le) W Q) (hE : AllEnds W E) {R : List (List (List (List α)))} (hR : R.Nodup) (hrow : ∀ row, row ∈ R ↔ IsRow Q E row) :
    (R.map fun row => (lead le leB W (fitting E row), restOf le leB W (lead le leB W (fitting E row)))).Nodup ∧
      ∀ A B, (A, B) ∈ (R.map fun row => (lead le leB W (fitting E row), restOf le leB W (lead le leB W (fitting E row)))) ↔ Pair (le := le) (leB := leB) W A B := by
  constructor
  · refine List.pairwise_map.mpr (List.Pairwise.imp_of_mem (fun {a b} ha hb hne e => ?_) hR)
    exact hne (row_inj o oB hQ ((hrow a).mp ha) ((hrow b).mp hb) (Prod.mk.inj e).1)
  · intro A B
    rw [List.mem_map]
    constructor
    · rintro ⟨row, _, e⟩
      obtain ⟨e1, e2⟩ := Prod.mk.inj e
      rw [← e2, ← e1]
      exact pair_of o oB W _
    · intro hp
      obtain ⟨row, hr, e⟩ := row_of_pair o oB hQ hE hp
      exact ⟨row, (hrow row).mpr hr, by rw [← e, ← hp.two]⟩
end

/-! ### products and cuts -/
/-- of the shortest one -/
theorem shortest : ∀ {B : List (List α)}, B ≠ [] → ∃ b ∈ B, ∀ c ∈ B, b.length ≤ c.length
  | [], h => absurd rfl h
  | [b], _ => ⟨b, List.mem_singleton.mpr rfl, fun c hc => by rw [List.mem_singleton.mp hc]; exact Nat.le_refl _⟩
  | a :: b :: r, _ => by
    obtain ⟨c, hc, hm⟩ := shortest (B := b :: r) (by simp)
    by_cases h : a.length ≤ c.length
    · refine ⟨a, List.mem_cons_self, fun d hd => ?_⟩
      rcases List.mem_cons.mp hd with rfl | hd
      · exact Nat.le_refl _
      · exact Nat.le_trans h (hm d hd)
    · refine ⟨c, List.mem_cons_of_mem _ hc, fun d hd => ?_⟩
      rcases List.mem_cons.mp hd with rfl | hd
      · omega
      · exact hm d hd
/-- what leads a base into a product, does its other side -/
theorem cancel_right {A B : List (List α)} (hB : B ≠ []) {x : List α} (h : ∀ b ∈ B, Done (thenB le A B) (x ++ b)) : Done A x := by
  obtain ⟨b, hb, hm⟩ := shortest hB
  obtain ⟨l1, l2, e, h1, c, hc, s⟩ := done_thenB.mp (h b hb)
  have h2 := hm c hc
  have h3 := s.length_le
  have hl := congrArg List.length e
  rw [List.length_append, List.length_append] at hl
  have p : l1 <+: x := by
    have q : l1 <+: x ++ b := by rw [e]; exact List.prefix_append _ _
    exact List.prefix_of_prefix_length_le q (List.prefix_append _ _) (by omega)
  exact h1.mono p.sublist
theorem cancel_left {A B : List (List α)} (hA : A ≠ []) {y : List α} (h : ∀ a ∈ A, Done (thenB le A B) (a ++ y)) : Done B y := by
  obtain ⟨a, ha, hm⟩ := shortest hA
  obtain ⟨l1, l2, e, ⟨c, hc, s⟩, h2⟩ := done_thenB.mp (h a ha)
  have h4 := hm c hc
  have h3 := s.length_le
  have hl := congrArg List.length e
  rw [List.length_append, List.length_append] at hl
  have p : l2 <:+ y := by
    have q : l2 <:+ a ++ y := by rw [e]; exact List.suffix_append _ _
    exact List.suffix_of_suffix_length_le q (List.suffix_append _ _) (by omega)
  exact h2.mono p.sublist
section
variable (o : WOrd le) (oB : TOrd leB)
include o oB in
/-- a cut is a greatest pair -/
theorem cut_pair {A B : List (List α)} (hA : CB le A) (hB : CB le B) (nA : A ≠ []) (nB : B ≠ []) : Pair (le := le) (leB := leB) (thenB le A B) A B := by
  constructor
  · refine IsBase.unique o ⟨hA, fun l => Iff.rfl⟩ ((isBase_lead o oB _ B).congr fun x => ⟨fun h => cancel_right nB h, fun h b hb => ?_⟩)
    exact done_thenB.mpr ⟨x, b, rfl, h, b, hb, List.Sublist.refl _⟩
  · refine IsBase.unique o ⟨hB, fun l => Iff.rfl⟩ ((isBase_restOf o oB _ A).congr fun y => ⟨fun h => cancel_left nA h, fun h a ha => ?_⟩)
    exact done_thenB.mpr ⟨a, y, rfl, ⟨a, ha, List.Sublist.refl _⟩, h⟩
theorem thenB_ne {A B : List (List α)} (nA : A ≠ []) (nB : B ≠ []) : thenB le A B ≠ [] := by
  obtain ⟨a, ha⟩ := List.exists_mem_of_ne_nil A nA
  obtain ⟨b, hb⟩ := List.exists_mem_of_ne_nil B nB
  exact List.ne_nil_of_mem (mem_thenB.mpr ⟨a, ha, b, hb, rfl⟩)
theorem ne_of_thenB {A B : List (List α)} (h : thenB le A B ≠ []) : A ≠ [] ∧ B ≠ [] := by
  refine ⟨fun e => h ?_, fun e => h ?_⟩
  · rw [e]; rfl
  · rw [e]; exact thenB_nil_right A
/-- a word of a product that begins with a word of its first side -/
theorem prefix_word {A B : List (List α)} (hA : CB le A) {a x : List α} (ha : a ∈ A) (h : a ++ x ∈ thenB le A B) : x ∈ B := by
  obtain ⟨a', ha', b, hb, e⟩ := mem_thenB.mp h
  have hp : a <+: a' ∨ a' <+: a := List.prefix_or_prefix_of_prefix (l₃ := a ++ x) (List.prefix_append _ _) (by rw [e]; exact List.prefix_append _ _)
  have ea : a = a' := by
    rcases hp with p | p
    · exact hA.anti a a' ha ha' p.sublist
    · exact (hA.anti a' a ha' ha p.sublist).symm
  subst ea
  rw [List.append_cancel_left e]; exact hb
theorem exact_right (o : WOrd le) {A B : List (List α)} (hA : CB le A) (hB : CB le B) {x b : List α} (hx : ∀ b ∈ B, Done (thenB le A B) (x ++ b)) (hb : b ∈ B) (hm : x ++ b ∈ thenB le A B) : x ∈ A := by
  obtain ⟨a, ha, s⟩ := cancel_right (List.ne_nil_of_mem hb) hx
  have h1 : a ++ b ∈ thenB le A B := mem_thenB.mpr ⟨a, ha, b, hb, rfl⟩
  have e := (cb_thenB o hA hB).anti _ _ h1 hm (s.append (List.Sublist.refl _))
  rw [← List.append_cancel_right e]; exact ha
/-- LEVI: two products that are one -/
theorem levi (o : WOrd le) {A B C D : List (List α)} (hA : CB le A) (hB : CB le B) (hC : CB le C) (hD : CB le D) (n : thenB le A B ≠ []) (e : thenB le A B = thenB le C D)
    {b0 d0 : List α} (hb0 : b0 ∈ B) (hb : ∀ b ∈ B, b0.length ≤ b.length) (hd0 : d0 ∈ D) (hle : d0.length ≤ b0.length) : ∃ E, CB le E ∧ C = thenB le A E ∧ B = thenB le E D := by
  have nA := (ne_of_thenB n).1
  have hW := cb_thenB o hA hB
  -- each word of C begins with one of A
  have f1 : ∀ c ∈ C, ∃ a ∈ A, ∃ x, c = a ++ x ∧ x ++ d0 ∈ B := by
    intro c hc
    have h1 : c ++ d0 ∈ thenB le A B := by rw [e]; exact mem_thenB.mpr ⟨c, hc, d0, hd0, rfl⟩
    obtain ⟨a, ha, b, hbB, eq⟩ := mem_thenB.mp h1
    have hlen := hb b hbB
    have hl := congrArg List.length eq
    rw [List.length_append, List.length_append] at hl
    have p : a <+: c := by
      have q : a <+: c ++ d0 := by rw [eq]; exact List.prefix_append _ _
      exact List.prefix_of_prefix_length_le q (List.prefix_append _ _) (by omega)
    obtain ⟨x, rfl⟩ := p
    rw [List.append_assoc] at eq
    exact ⟨a, ha, x, rfl, by rw [List.append_cancel_left eq]; exact hbB⟩
  let E := inOrder le (C.flatMap fun c => A.filterMap fun a => if a <+: c then some (c.drop a.length) else none)
  have mE : ∀ x, x ∈ E ↔ ∃ a ∈ A, a ++ x ∈ C := by
    intro x
    show x ∈ inOrder le _ ↔ _
    unfold inOrder
    rw [mem_canon, List.mem_flatMap]
    constructor
    · rintro ⟨c, hc, h⟩
      obtain ⟨a, ha, h2⟩ := List.mem_filterMap.mp h
      by_cases p : a <+: c
      · rw [if_pos p] at h2
        obtain ⟨y, rfl⟩ := p
        rw [List.drop_left] at h2
        cases h2
        exact ⟨a, ha, hc⟩
      · rw [if_neg p] at h2; cases h2
    · rintro ⟨a, ha, hc⟩
      refine ⟨a ++ x, hc, List.mem_filterMap.mpr ⟨a, ha, ?_⟩⟩
      rw [if_pos (List.prefix_append _ _), List.drop_left]
  -- E behind, D: within B
  have f2 : ∀ x ∈ E, ∀ d ∈ D, x ++ d ∈ B := by
    intro x hx d hd
    obtain ⟨a, ha, hc⟩ := (mE x).mp hx
    refine prefix_word hA ha (x := x ++ d) ?_
    rw [e, ← List.append_assoc]
    exact mem_thenB.mpr ⟨a ++ x, hc, d, hd, rfl⟩
  have f3 : ∀ a ∈ A, ∀ x ∈ E, a ++ x ∈ C := by
    intro a ha x hx
    have h1 : ∀ d ∈ D, (a ++ x) ++ d ∈ thenB le C D := fun d hd => by
      rw [← e, List.append_assoc]
      exact mem_thenB.mpr ⟨a, ha, x ++ d, f2 x hx d hd, rfl⟩
    exact exact_right o hC hD (fun d hd => ⟨_, h1 d hd, List.Sublist.refl _⟩) hd0 (h1 d0 hd0)
  have hE : CB le E := by
    refine ⟨rise_canon o.toTOrd _, fun u v hu hv s => ?_⟩
    obtain ⟨a, ha⟩ := List.exists_mem_of_ne_nil A nA
    exact List.append_cancel_left (hC.anti _ _ (f3 a ha u hu) (f3 a ha v hv) ((List.Sublist.refl a).append s))
  refine ⟨E, hE, ?_, ?_⟩
  · refine rise_unique o.toTOrd hC.rise (cb_thenB o hA hE).rise fun c => ?_
    rw [mem_thenB]
    constructor
    · intro hc
      obtain ⟨a, ha, x, rfl, _⟩ := f1 c hc
      exact ⟨a, ha, x, (mE x).mpr ⟨a, ha, hc⟩, rfl⟩
    · rintro ⟨a, ha, x, hx, rfl⟩
      exact f3 a ha x hx
  · refine rise_unique o.toTOrd hB.rise (cb_thenB o hE hD).rise fun b => ?_
    rw [mem_thenB]
    constructor
    · intro hbB
      obtain ⟨a, ha⟩ := List.exists_mem_of_ne_nil A nA
      have h1 : a ++ b ∈ thenB le C D := by rw [← e]; exact mem_thenB.mpr ⟨a, ha, b, hbB, rfl⟩
      obtain ⟨c, hc, d, hd, eq⟩ := mem_thenB.mp h1
      obtain ⟨a', ha', x, rfl, _⟩ := f1 c hc
      have hx : x ∈ E := (mE x).mpr ⟨a', ha', hc⟩
      rw [List.append_assoc] at eq
      have hp : a <+: a' ∨ a' <+: a := List.prefix_or_prefix_of_prefix (l₃ := a ++ b) (List.prefix_append _ _) (by rw [eq]; exact List.prefix_append _ _)
      have ea : a = a' := by
        rcases hp with p | p
        · exact hA.anti a a' ha ha' p.sublist
        · exact (hA.anti a' a ha' ha p.sublist).symm
      subst ea
      exact ⟨x, hx, d, hd, List.append_cancel_left eq⟩
    · rintro ⟨x, hx, d, hd, rfl⟩
      exact f2 x hx d hd
theorem levi_or (o : WOrd le) {A B C D : List (List α)} (hA : CB le A) (hB : CB le B) (hC : CB le C) (hD : CB le D) (n : thenB le A B ≠ []) (e : thenB le A B = thenB le C D) :
    (∃ E, CB le E ∧ C = thenB le A E ∧ B = thenB le E D) ∨ (∃ E, CB le E ∧ A = thenB le C E ∧ D = thenB le E B) := by
  have n2 : thenB le C D ≠ [] := by rw [← e]; exact n
  obtain ⟨b0, hb0, hb⟩ := shortest (ne_of_thenB n).2
  obtain ⟨d0, hd0, hd⟩ := shortest (ne_of_thenB n2).2
  rcases Nat.le_total d0.length b0.length with h | h
  · exact .inl (levi o hA hB hC hD n e hb0 hb hd0 h)
  · exact .inr (levi o hC hD hA hB n2 e.symm hd0 hd hb0 h)
/-- not to be cut -/
def Indec (p : List (List α)) : Prop := ∀ A B, CB le A → CB le B → p = thenB le A B → A = ALW ∨ B = ALW
def prodB (le : List α → List α → Bool) : List (List (List α)) → List (List α)
  | [] => ALW
  | p :: ps => thenB le p (prodB le ps)
structure Stage (p : List (List α)) : Prop where
  cb : CB le p
  ne : p ≠ []
  na : p ≠ ALW
  ind : Indec (le := le) p
theorem cb_prod (o : WOrd le) : ∀ {ps : List (List (List α))}, (∀ p ∈ ps, Stage (le := le) p) → CB le (prodB le ps)
  | [], _ => cb_one []
  | p :: ps, h => cb_thenB o (h p List.mem_cons_self).cb (cb_prod o fun q hq => h q (List.mem_cons_of_mem _ hq))
theorem prod_ne : ∀ {ps : List (List (List α))}, (∀ p ∈ ps, Stage (le := le) p) → prodB le ps ≠ []
  | [], _ => by simp [prodB]
  | p :: ps, h => thenB_ne (h p List.mem_cons_self).ne (prod_ne fun q hq => h q (List.mem_cons_of_mem _ hq))
theorem prod_append (o : WOrd le) : ∀ {ps qs : List (List (List α))}, (∀ p ∈ qs, Stage (le := le) p) → prodB le (ps ++ qs) = thenB le (prodB le ps) (prodB le qs)
  | [], qs, h => by
    show prodB le qs = thenB le ALW (prodB le qs)
    rw [alw_thenB o (cb_prod o h)]
  | p :: ps, qs, h => by
    show thenB le p (prodB le (ps ++ qs)) = thenB le (thenB le p (prodB le ps)) (prodB le qs)
    rw [prod_append o h, thenB_assoc o]
theorem alw_prod {A B : List (List α)} (h : thenB le A B = ALW) (hA : CB le A) (hB : CB le B) : A = ALW ∧ B = ALW := by
  have hm : ([] : List α) ∈ thenB le A B := by rw [h]; exact List.mem_singleton.mpr rfl
  obtain ⟨a, ha, b, hb, e⟩ := mem_thenB.mp hm
  have e1 := List.append_eq_nil_iff.mp e.symm
  rw [e1.1] at ha
  rw [e1.2] at hb
  exact ⟨cb_always hA ha, cb_always hB hb⟩
/-- the cuts of a product of stages -/
theorem cuts (o : WOrd le) : ∀ {ps : List (List (List α))}, (∀ p ∈ ps, Stage (le := le) p) → ∀ {A B : List (List α)}, CB le A → CB le B →
    ((thenB le A B = prodB le ps ∧ A ≠ ALW ∧ B ≠ ALW) ↔ ∃ k, 1 ≤ k ∧ k < ps.length ∧ A = prodB le (ps.take k) ∧ B = prodB le (ps.drop k))
  | [], _, A, B, hA, hB => by
    constructor
    · rintro ⟨h, h1, _⟩
      exact absurd (alw_prod h hA hB).1 h1
    · rintro ⟨k, h1, h2, _⟩
      simp at h2
  | p :: ps, hs, A, B, hA, hB => by
    have hp := hs p List.mem_cons_self
    have hs' : ∀ q ∈ ps, Stage (le := le) q := fun q hq => hs q (List.mem_cons_of_mem _ hq)
    have hP := cb_prod o hs'
    have n : prodB le (p :: ps) ≠ [] := prod_ne hs
    constructor
    · rintro ⟨h, h1, h2⟩
      have e : thenB le A B = thenB le p (prodB le ps) := h
      have nAB : thenB le A B ≠ [] := by rw [h]; exact n
      rcases levi_or o hA hB hp.cb hP nAB e with ⟨E, hE, e1, e2⟩ | ⟨E, hE, e1, e2⟩
      · rcases hp.ind A E hA hE e1 with q | q
        · exact absurd q h1
        · subst q
          rw [thenB_alw o hA] at e1
          rw [alw_thenB o hP] at e2
          subst e1 e2
          refine ⟨1, Nat.le_refl _, ?_, by show p = thenB le p ALW; rw [thenB_alw o hp.cb], rfl⟩
          rw [List.length_cons]
          cases ps with
          | nil => exact absurd rfl h2
          | cons _ _ => simp
      · by_cases q : E = ALW
        · subst q
          rw [thenB_alw o hp.cb] at e1
          rw [alw_thenB o hB] at e2
          subst e1
          refine ⟨1, Nat.le_refl _, ?_, by show A = thenB le A ALW; rw [thenB_alw o hA], e2.symm⟩
          rw [List.length_cons]
          cases ps with
          | nil => exact absurd e2.symm h2
          | cons _ _ => simp
        · obtain ⟨k, k1, k2, e3, e4⟩ := (cuts o hs' hE hB).mp ⟨e2.symm, q, h2⟩
          refine ⟨k + 1, by omega, by rw [List.length_cons]; omega, ?_, ?_⟩
          · rw [e1, e3]; rfl
          · rw [e4]; rfl
    · rintro ⟨k, k1, k2, rfl, rfl⟩
      have ht : ∀ q ∈ (p :: ps).take k, Stage (le := le) q := fun q hq => hs q (List.mem_of_mem_take hq)
      have hd : ∀ q ∈ (p :: ps).drop k, Stage (le := le) q := fun q hq => hs q (List.mem_of_mem_drop hq)
      refine ⟨by rw [← prod_append o hd, List.take_append_drop], ?_, ?_⟩
      · obtain ⟨j, rfl⟩ : ∃ j, k = j + 1 := ⟨k - 1, by omega⟩
        intro e
        have e' : thenB le p (prodB le (ps.take j)) = ALW := e
        exact hp.na (alw_prod e' hp.cb (cb_prod o fun q hq => hs' q (List.mem_of_mem_take hq))).1
      · cases hq : (p :: ps).drop k with
        | nil =>
          have := congrArg List.length hq
          rw [List.length_drop] at this
          simp at this k2
          omega
        | cons q qs =>
          rw [hq] at hd
          intro e
          have e' : thenB le q (prodB le qs) = ALW := e
          exact (hd q List.mem_cons_self).na (alw_prod e' (hd q List.mem_cons_self).cb (cb_prod o fun z hz => hd z (List.mem_cons_of_mem _ hz))).1
/-- two rows of stages of one product -/
theorem stages_unique (o : WOrd le) : ∀ {ps qs : List (List (List α))}, (∀ p ∈ ps, Stage (le := le) p) → (∀ p ∈ qs, Stage (le := le) p) → prodB le ps = prodB le qs → ps = qs
  | [], [], _, _, _ => rfl
  | [], q :: qs, _, h2, e => by
    have e' : thenB le q (prodB le qs) = ALW := e.symm
    exact absurd (alw_prod e' (h2 q List.mem_cons_self).cb (cb_prod o fun z hz => h2 z (List.mem_cons_of_mem _ hz))).1 (h2 q List.mem_cons_self).na
  | p :: ps, [], h1, _, e => by
    have e' : thenB le p (prodB le ps) = ALW := e
    exact absurd (alw_prod e' (h1 p List.mem_cons_self).cb (cb_prod o fun z hz => h1 z (List.mem_cons_of_mem _ hz))).1 (h1 p List.mem_cons_self).na
  | p :: ps, q :: qs, h1, h2, e => by
    have hp := h1 p List.mem_cons_self
    have hq := h2 q List.mem_cons_self
    have h1' : ∀ z ∈ ps, Stage (le := le) z := fun z hz => h1 z (List.mem_cons_of_mem _ hz)
    have h2' : ∀ z ∈ qs, Stage (le := le) z := fun z hz => h2 z (List.mem_cons_of_mem _ hz)
    have e' : thenB le p (prodB le ps) = thenB le q (prodB le qs) := e
    rcases levi_or o hp.cb (cb_prod o h1') hq.cb (cb_prod o h2') (prod_ne h1) e' with ⟨E, hE, e1, e2⟩ | ⟨E, hE, e1, e2⟩
    · rcases hq.ind p E hp.cb hE e1 with z | z
      · exact absurd z hp.na
      · subst z
        rw [thenB_alw o hp.cb] at e1
        rw [alw_thenB o (cb_prod o h2')] at e2
        rw [e1, stages_unique o h1' h2' e2]
    · rcases hp.ind q E hq.cb hE e1 with z | z
      · exact absurd z hq.na
      · subst z
        rw [thenB_alw o hq.cb] at e1
        rw [alw_thenB o (cb_prod o h1')] at e2
        rw [e1, stages_unique o h1' h2' e2.symm]
end
end
end Mo
namespace Mo
section
variable {α : Type} [DecidableEq α] {le : List α → List α → Bool} {leB : List (List α) → List (List α) → Bool}

/-! ### parted -/
def behind (le : List α → List α → Bool) (W : List (List α)) (l : List α) : List (List α) := inOrder le ((W.filter fun w => decide (w.take l.length = l)).map fun w => w.drop l.length)
def prefixes (W : List (List α)) : List (List α) := W.flatMap fun w => (List.range (w.length + 1)).map fun k => w.take k
def aheadOf (le : List α → List α → Bool) (W : List (List α)) (l : List α) : List (List α) := inOrder le ((prefixes W).filter fun h => decide (behind le W h = behind le W l))
def parted (le : List α → List α → Bool) (W : List (List α)) (l : List α) : Option (List (List α) × List (List α)) :=
  if thenB le (aheadOf le W l) (behind le W l) = W then some (aheadOf le W l, behind le W l) else none
theorem mem_behind {W : List (List α)} {l x : List α} : x ∈ behind le W l ↔ l ++ x ∈ W := by
  unfold behind inOrder
  rw [mem_canon, List.mem_map]
  constructor
  · rintro ⟨w, hw, rfl⟩
    obtain ⟨h1, h2⟩ := List.mem_filter.mp hw
    have h3 : w.take l.length = l := of_decide_eq_true h2
    have h4 : l ++ w.drop l.length = w := by
      have := List.take_append_drop l.length w
      rwa [h3] at this
    rw [h4]; exact h1
  · intro h
    exact ⟨l ++ x, List.mem_filter.mpr ⟨h, decide_eq_true (List.take_left)⟩, List.drop_left⟩
theorem mem_prefixes {W : List (List α)} {h : List α} : h ∈ prefixes W ↔ ∃ x, h ++ x ∈ W := by
  unfold prefixes
  rw [List.mem_flatMap]
  constructor
  · rintro ⟨w, hw, q⟩
    obtain ⟨k, _, rfl⟩ := List.mem_map.mp q
    exact ⟨w.drop k, by rw [List.take_append_drop]; exact hw⟩
  · rintro ⟨x, hx⟩
    refine ⟨h ++ x, hx, List.mem_map.mpr ⟨h.length, List.mem_range.mpr ?_, List.take_left⟩⟩
    rw [List.length_append]; omega
section
variable (o : WOrd le)
include o
theorem parted_cut {A B : List (List α)} (hA : CB le A) (hB : CB le B) (nB : B ≠ []) {a : List α} (ha : a ∈ A) : parted le (thenB le A B) a = some (A, B) := by
  have h1 : ∀ a ∈ A, behind le (thenB le A B) a = B := fun a ha => rise_unique o.toTOrd (rise_canon o.toTOrd _) hB.rise fun x => by
    show x ∈ behind le (thenB le A B) a ↔ _
    rw [mem_behind]
    exact ⟨fun h => prefix_word hA ha h, fun h => mem_thenB.mpr ⟨a, ha, x, h, rfl⟩⟩
  have h2 : aheadOf le (thenB le A B) a = A := rise_unique o.toTOrd (rise_canon o.toTOrd _) hA.rise fun x => by
    show x ∈ aheadOf le (thenB le A B) a ↔ _
    unfold aheadOf inOrder
    rw [mem_canon, List.mem_filter, h1 a ha, decide_eq_true_eq]
    constructor
    · rintro ⟨_, h⟩
      have h3 : ∀ b ∈ B, x ++ b ∈ thenB le A B := fun b hb => mem_behind.mp (by rw [h]; exact hb)
      obtain ⟨b, hb⟩ := List.exists_mem_of_ne_nil B nB
      exact exact_right o hA hB (fun b hb => ⟨_, h3 b hb, List.Sublist.refl _⟩) hb (h3 b hb)
    · intro h
      obtain ⟨b, hb⟩ := List.exists_mem_of_ne_nil B nB
      exact ⟨mem_prefixes.mpr ⟨b, mem_thenB.mpr ⟨x, h, b, hb, rfl⟩⟩, h1 x h⟩
  unfold parted
  rw [h1 a ha, h2, if_pos rfl]
theorem parted_some {W A B : List (List α)} (hW : CB le W) (nW : W ≠ []) {l : List α} (h : parted le W l = some (A, B)) : thenB le A B = W ∧ CB le A ∧ CB le B ∧ A = aheadOf le W l ∧ B = behind le W l := by
  unfold parted at h
  by_cases e : thenB le (aheadOf le W l) (behind le W l) = W
  · rw [if_pos e] at h
    have h := Option.some.inj h
    obtain ⟨rfl, rfl⟩ := Prod.mk.inj h
    have n := ne_of_thenB (le := le) (by rw [e]; exact nW)
    refine ⟨e, ⟨rise_canon o.toTOrd _, fun u v hu hv s => ?_⟩, ⟨rise_canon o.toTOrd _, fun u v hu hv s => ?_⟩, rfl, rfl⟩
    · obtain ⟨b, hb⟩ := List.exists_mem_of_ne_nil _ n.2
      have q := hW.anti (u ++ b) (v ++ b) (by rw [← e]; exact mem_thenB.mpr ⟨u, hu, b, hb, rfl⟩) (by rw [← e]; exact mem_thenB.mpr ⟨v, hv, b, hb, rfl⟩) (s.append (List.Sublist.refl _))
      exact List.append_cancel_right q
    · obtain ⟨a, ha⟩ := List.exists_mem_of_ne_nil _ n.1
      have q := hW.anti (a ++ u) (a ++ v) (by rw [← e]; exact mem_thenB.mpr ⟨a, ha, u, hu, rfl⟩) (by rw [← e]; exact mem_thenB.mpr ⟨a, ha, v, hv, rfl⟩) ((List.Sublist.refl a).append s)
      exact List.append_cancel_left q
  · rw [if_neg e] at h; cases h
/-- the tries of a turn: the beginnings of the first word, the shortest first -/
def tries (le : List α → List α → Bool) (W : List (List α)) (w0 : List α) : List (Option (List (List α) × List (List α))) := (List.range w0.length).map fun k => parted le W (w0.take (k + 1))
omit o in
theorem find_first {γ : Type} (f : Nat → Option γ) : ∀ (n : Nat) (k : Nat), k < n → (f k).isSome = true → ∃ j x, j ≤ k ∧ f j = some x ∧ (∀ i, i < j → f i = none) ∧ (((List.range n).map f).filterMap id).head? = some x := by
  intro n k hk hf
  have hex : ∃ j, (f j).isSome = true ∧ ∀ i, i < j → f i = none := by
    have key : ∀ m, (∃ j, j < m ∧ (f j).isSome = true) → ∃ j, j < m ∧ (f j).isSome = true ∧ ∀ i, i < j → f i = none := by
      intro m
      induction m with
      | zero => rintro ⟨j, hj, _⟩; omega
      | succ m ih =>
        rintro ⟨j, hj, hs⟩
        by_cases h : ∃ j, j < m ∧ (f j).isSome = true
        · obtain ⟨i, h1, h2, h3⟩ := ih h
          exact ⟨i, by omega, h2, h3⟩
        · refine ⟨j, hj, hs, fun i hi => ?_⟩
          cases q : f i with
          | none => rfl
          | some x => exact absurd ⟨i, by omega, by rw [q]; rfl⟩ h
    obtain ⟨j, _, h2, h3⟩ := key (k + 1) ⟨k, by omega, hf⟩
    exact ⟨j, h2, h3⟩
  obtain ⟨j, hj, hmin⟩ := hex
  have hjk : j ≤ k := by
    rcases Nat.lt_or_ge k j with h | h
    · rw [hmin k h] at hf; cases hf
    · exact h
  obtain ⟨x, hx⟩ := Option.isSome_iff_exists.mp hj
  refine ⟨j, x, hjk, hx, hmin, ?_⟩
  have e : List.range n = List.range j ++ (List.range (n - j)).map (fun i => j + i) := by
    rw [← List.range_add]
    congr 1; omega
  rw [e, List.map_append, List.filterMap_append]
  have e1 : ((List.range j).map f).filterMap id = [] := by
    rw [List.filterMap_eq_nil_iff]
    intro y hy
    obtain ⟨i, hi, rfl⟩ := List.mem_map.mp hy
    exact hmin i (List.mem_range.mp hi)
  rw [e1, List.nil_append]
  obtain ⟨m, hm⟩ : ∃ m, n - j = m + 1 := ⟨n - j - 1, by omega⟩
  rw [hm, List.range_succ_eq_map, List.map_cons, List.map_cons]
  have e2 : f (j + 0) = some x := hx
  rw [List.filterMap_cons_some (b := x) (by exact e2)]
  rfl
theorem first_short {W : List (List α)} (hW : Rise le W) {w0 : List α} (h0 : W.head? = some w0) : ∀ w ∈ W, w0.length ≤ w.length := by
  cases W with
  | nil => cases h0
  | cons a r =>
    cases h0
    obtain ⟨h1, _⟩ := List.pairwise_cons.mp hW
    intro w hw
    rcases List.mem_cons.mp hw with rfl | hw
    · exact Nat.le_refl _
    · exact o.len _ _ (h1 w hw).1
/-- A TURN of stages: the first of the tries is a stage, and what is behind it -/
theorem stage_turn {W : List (List α)} (hW : CB le W) (nA : W ≠ ALW) {w0 : List α} (h0 : W.head? = some w0) :
    ∃ A B, ((tries le W w0).filterMap id).head? = some (A, B) ∧ Stage (le := le) A ∧ CB le B ∧ B ≠ [] ∧ thenB le A B = W ∧ ∀ b0, B.head? = some b0 → b0.length < w0.length := by
  have hw0 : w0 ∈ W := List.mem_of_mem_head? (by rw [h0]; rfl)
  have nW : W ≠ [] := List.ne_nil_of_mem hw0
  have hpos : 0 < w0.length := by
    cases hz : w0 with
    | nil =>
      rw [hz] at hw0
      exact absurd (cb_always hW hw0) nA
    | cons a r => simp
  have hlast : parted le W w0 = some (W, ALW) := by
    have := parted_cut o hW (cb_one []) (by simp) (B := ALW) hw0
    rwa [thenB_alw o hW] at this
  obtain ⟨j, ⟨A, B⟩, hj, hf, hmin, hh⟩ := find_first (fun k => parted le W (w0.take (k + 1))) w0.length (w0.length - 1) (by omega) (by
    show (parted le W (w0.take (w0.length - 1 + 1))).isSome = true
    rw [show w0.length - 1 + 1 = w0.length by omega, List.take_length, hlast]; rfl)
  have hf : parted le W (w0.take (j + 1)) = some (A, B) := hf
  obtain ⟨e, hA, hB, eA, eB⟩ := parted_some o hW nW hf
  have n := ne_of_thenB (le := le) (A := A) (B := B) (by rw [e]; exact nW)
  have hin : w0.take (j + 1) ∈ A := by
    rw [eA]
    unfold aheadOf inOrder
    rw [mem_canon, List.mem_filter]
    exact ⟨mem_prefixes.mpr ⟨w0.drop (j + 1), by rw [List.take_append_drop]; exact hw0⟩, decide_eq_true rfl⟩
  have hlen : (w0.take (j + 1)).length = j + 1 := by rw [List.length_take]; omega
  have hbin : w0.drop (j + 1) ∈ B := prefix_word hA hin (by rw [List.take_append_drop, e]; exact hw0)
  refine ⟨A, B, hh, ⟨hA, n.1, fun z => ?_, fun C D hC hD eq => ?_⟩, hB, n.2, e, fun b0 hb0 => ?_⟩
  · rw [z] at hin
    have := List.mem_singleton.mp hin
    rw [this] at hlen
    simp at hlen
  · refine Classical.byContradiction fun hno => ?_
    have h1 : C ≠ ALW := fun z => hno (.inl z)
    have h2 : D ≠ ALW := fun z => hno (.inr z)
    obtain ⟨c, hc, d, hd, e2⟩ := mem_thenB.mp (by rw [← eq]; exact hin : w0.take (j + 1) ∈ thenB le C D)
    have hc0 : 0 < c.length := by
      cases hz : c with
      | nil => rw [hz] at hc; exact absurd (cb_always hC hc) h1
      | cons _ _ => simp
    have hd0 : 0 < d.length := by
      cases hz : d with
      | nil => rw [hz] at hd; exact absurd (cb_always hD hd) h2
      | cons _ _ => simp
    have hl := congrArg List.length e2
    rw [hlen, List.length_append] at hl
    have hDB := cb_thenB o hD hB
    have nDB := thenB_ne (le := le) (List.ne_nil_of_mem hd) n.2
    have hcut : parted le (thenB le C (thenB le D B)) c = some (C, thenB le D B) := parted_cut o hC hDB nDB hc
    rw [← thenB_assoc o, ← eq, e] at hcut
    have ec : w0.take ((c.length - 1) + 1) = c := by
      rw [show c.length - 1 + 1 = c.length by omega]
      have : w0.take (j + 1) = c ++ d := e2
      have h3 : (w0.take (j + 1)).take c.length = c := by rw [this, List.take_left]
      rw [List.take_take] at h3
      rwa [show min c.length (j + 1) = c.length by omega] at h3
    have hno2 := hmin (c.length - 1) (by omega)
    have hno2 : parted le W (w0.take (c.length - 1 + 1)) = none := hno2
    rw [ec, hcut] at hno2
    cases hno2
  · have h1 := first_short o hB.rise hb0 _ hbin
    rw [List.length_drop] at h1
    omega
end

/-! ### the standings, walked -/
/-- what logs_to gives -/
structure Walked (le : List α → List α → Bool) (W : List (List α)) (kvs : List (List (List α) × List α)) : Prop where
  nd : (kvs.map Prod.fst).Nodup
  at_ : ∀ p ∈ kvs, p.1 = standing le W p.2
  first : W ∈ kvs.map Prod.fst
  closed : ∀ p ∈ kvs, ∀ n ∈ heads p.1, step le p.1 n ∈ kvs.map Prod.fst
variable (o : WOrd le)
include o
theorem Walked.all {W : List (List α)} (hW : CB le W) {kvs : List (List (List α) × List α)} (h : Walked le W kvs) : AllSt (le := le) W (kvs.map Prod.fst) := by
  intro s
  constructor
  · intro hs
    obtain ⟨p, hp, rfl⟩ := List.mem_map.mp hs
    exact ⟨p.2, h.at_ p hp⟩
  · rintro ⟨l, rfl⟩
    have key : ∀ (n : Nat) (l : List α), l.length = n → standing le W l ∈ kvs.map Prod.fst := by
      intro n
      induction n with
      | zero =>
        intro l hl
        rw [List.length_eq_zero_iff.mp hl, standing_nil o hW]
        exact h.first
      | succ n ih =>
        intro l hl
        have hne : l ≠ [] := by intro z; rw [z] at hl; simp at hl
        obtain ⟨m, x, rfl⟩ : ∃ m x, l = m ++ [x] := ⟨l.dropLast, l.getLast hne, (List.dropLast_concat_getLast hne).symm⟩
        rw [List.length_append, List.length_singleton] at hl
        have h1 := ih m (by omega)
        rw [← standing_standing o, ← step_standing]
        by_cases hx : x ∈ heads (standing le W m)
        · obtain ⟨p, hp, e⟩ := List.mem_map.mp h1
          rw [← e] at hx ⊢
          exact h.closed p hp x hx
        · rw [step_same o (cb_standing o _ _) hx]; exact h1
    exact key _ l rfl
theorem Walked.ends {W : List (List α)} (hW : CB le W) {kvs : List (List (List α) × List α)} (h : Walked le (rev le W) kvs) : AllEnds W (kvs.map fun p => p.2.reverse) := by
  intro z
  obtain ⟨p, hp, e⟩ := List.mem_map.mp ((h.all o (cb_rev o W) (standing le (rev le W) z.reverse)).mpr ⟨_, rfl⟩)
  rw [h.at_ p hp] at e
  refine ⟨p.2.reverse, List.mem_map.mpr ⟨p, hp, rfl⟩, fun x => ?_⟩
  have e2 : ∀ y, Done (rev le W) (p.2 ++ y) ↔ Done (rev le W) (z.reverse ++ y) := fun y => by rw [← done_standing o, ← done_standing o, e]
  have e3 := e2 x.reverse
  rw [done_rev o, done_rev o, List.reverse_append, List.reverse_append, List.reverse_reverse, List.reverse_reverse] at e3
  exact e3.symm

/-! ### the rows, walked -/
omit o in
/-- what common_parts_of gives, by its columns -/
theorem rows_all {Q : List (List (List α))} {E : List (List α)} {R : List (List (List (List α)))} (h0 : Q ∈ R) (h1 : ∀ row ∈ R, IsRow Q E row)
    (h2 : ∀ row ∈ R, ∀ e ∈ E, (row.filter fun s => decide (s ∈ Q.filter fun t => does t e)) ∈ R) : ∀ row, row ∈ R ↔ IsRow Q E row := by
  intro row
  refine ⟨h1 row, ?_⟩
  rintro ⟨F, hF, rfl⟩
  induction F with
  | nil =>
    have : (Q.filter fun s => ([] : List (List α)).all fun e => does s e) = Q := List.filter_eq_self.mpr fun _ _ => rfl
    rw [this]; exact h0
  | cons e F ih =>
    have h3 := h2 _ (ih fun x hx => hF x (List.mem_cons_of_mem _ hx)) e (hF e List.mem_cons_self)
    have : ((Q.filter fun s => F.all fun e => does s e).filter fun s => decide (s ∈ Q.filter fun t => does t e)) = Q.filter fun s => (e :: F).all fun e => does s e := by
      rw [List.filter_filter]
      refine List.filter_congr fun s hs => ?_
      rw [List.all_cons]
      congr 1
      rw [Bool.eq_iff_iff, decide_eq_true_eq, List.mem_filter]
      exact ⟨fun h => h.2, fun h => ⟨hs, h⟩⟩
    rw [← this]; exact h3
omit o in
theorem row_step {Q : List (List (List α))} {E : List (List α)} {row : List (List (List α))} (h : IsRow Q E row) {e : List α} (he : e ∈ E) : IsRow Q E (row.filter fun s => decide (s ∈ Q.filter fun t => does t e)) := by
  obtain ⟨F, hF, rfl⟩ := h
  refine ⟨e :: F, fun x hx => ?_, ?_⟩
  · rcases List.mem_cons.mp hx with rfl | hx
    · exact he
    · exact hF x hx
  · rw [List.filter_filter]
    refine List.filter_congr fun s hs => ?_
    rw [List.all_cons]
    congr 1
    rw [Bool.eq_iff_iff, decide_eq_true_eq, List.mem_filter]
    exact ⟨fun h => h.2, fun h => ⟨hs, h⟩⟩
omit o in
theorem row_whole (Q : List (List (List α))) (E : List (List α)) : IsRow Q E Q := ⟨[], fun e he => (by cases he), (List.filter_eq_self.mpr fun _ _ => rfl).symm⟩

/-! ### cuts, as the law makes them -/
def prodL (le : List α → List α → Bool) (ps : List (List (List α))) : List (List α) := ps.foldl (thenB le) ALW
theorem prodL_eq {ps : List (List (List α))} (h : ∀ p ∈ ps, Stage (le := le) p) : prodL le ps = prodB le ps := by
  have key : ∀ (ps : List (List (List α))) (A : List (List α)), CB le A → (∀ p ∈ ps, Stage (le := le) p) → ps.foldl (thenB le) A = thenB le A (prodB le ps) := by
    intro ps
    induction ps with
    | nil => intro A hA _; exact (thenB_alw o hA).symm
    | cons p ps ih =>
      intro A hA hp
      show ps.foldl (thenB le) (thenB le A p) = thenB le A (thenB le p (prodB le ps))
      rw [ih _ (cb_thenB o hA (hp p List.mem_cons_self).cb) (fun q hq => hp q (List.mem_cons_of_mem _ hq)), thenB_assoc o]
  unfold prodL
  rw [key ps ALW (cb_one []) h, alw_thenB o (cb_prod o h)]
def due (le : List α → List α → Bool) (ps : List (List (List α))) : List (List (List α) × List (List α)) := (List.range (ps.length - 1)).map fun k => (prodL le (ps.take (k + 1)), prodL le (ps.drop (k + 1)))
theorem mem_due {ps : List (List (List α))} (h : ∀ p ∈ ps, Stage (le := le) p) {A B : List (List α)} : (A, B) ∈ due le ps ↔ ∃ k, 1 ≤ k ∧ k < ps.length ∧ A = prodB le (ps.take k) ∧ B = prodB le (ps.drop k) := by
  have t1 : ∀ k, ∀ p ∈ ps.take k, Stage (le := le) p := fun k p hp => h p (List.mem_of_mem_take hp)
  have t2 : ∀ k, ∀ p ∈ ps.drop k, Stage (le := le) p := fun k p hp => h p (List.mem_of_mem_drop hp)
  unfold due
  rw [List.mem_map]
  constructor
  · rintro ⟨k, hk, e⟩
    obtain ⟨rfl, rfl⟩ := Prod.mk.inj e
    have := List.mem_range.mp hk
    exact ⟨k + 1, by omega, by omega, prodL_eq o (t1 _), prodL_eq o (t2 _)⟩
  · rintro ⟨k, h1, h2, rfl, rfl⟩
    refine ⟨k - 1, List.mem_range.mpr (by omega), ?_⟩
    rw [show k - 1 + 1 = k by omega, prodL_eq o (t1 _), prodL_eq o (t2 _)]
theorem due_nodup {ps : List (List (List α))} (h : ∀ p ∈ ps, Stage (le := le) p) : (due le ps).Nodup := by
  unfold due
  refine List.pairwise_map.mpr (List.Pairwise.imp_of_mem (fun {a b} ha hb hne e => ?_) List.nodup_range)
  have t1 : ∀ k, ∀ p ∈ ps.take k, Stage (le := le) p := fun k p hp => h p (List.mem_of_mem_take hp)
  have e1 := (Prod.mk.inj e).1
  rw [prodL_eq o (t1 _), prodL_eq o (t1 _)] at e1
  have e2 := congrArg List.length (stages_unique o (t1 _) (t1 _) e1)
  rw [List.length_take, List.length_take] at e2
  have := List.mem_range.mp ha
  have := List.mem_range.mp hb
  omega
def isSplit (le : List α → List α → Bool) (W : List (List α)) (p : List (List α) × List (List α)) : Bool := decide (p.1 ≠ ALW) && (decide (p.2 ≠ ALW) && decide (thenB le p.1 p.2 = W))
variable {leP : (List (List α) × List (List α)) → (List (List α) × List (List α)) → Bool}
/-- splits are where stages can be cut -/
theorem splits_due (oB : TOrd leB) (oP : TOrd leP) {W : List (List α)} {ps : List (List (List α))} (h : ∀ p ∈ ps, Stage (le := le) p) (e : prodB le ps = W) {P : List (List (List α) × List (List α))} (hP : Rise leP P)
    (hm : ∀ A B, (A, B) ∈ P ↔ Pair (le := le) (leB := leB) W A B) : P.filter (isSplit le W) = canon leP (due le ps) := by
  have nW : W ≠ [] := by rw [← e]; exact prod_ne h
  refine rise_unique oP (rise_sub hP List.filter_sublist) (rise_canon oP _) fun p => ?_
  obtain ⟨A, B⟩ := p
  rw [mem_canon, mem_due o h, List.mem_filter, hm]
  unfold isSplit
  rw [Bool.and_eq_true, Bool.and_eq_true, decide_eq_true_eq, decide_eq_true_eq, decide_eq_true_eq]
  constructor
  · rintro ⟨hp, h1, h2, h3⟩
    obtain ⟨hA, hB⟩ := pair_cb o oB hp
    exact (cuts o h hA hB).mp ⟨h3.trans e.symm, h1, h2⟩
  · rintro ⟨k, k1, k2, rfl, rfl⟩
    have t1 : ∀ p ∈ ps.take k, Stage (le := le) p := fun p hp => h p (List.mem_of_mem_take hp)
    have t2 : ∀ p ∈ ps.drop k, Stage (le := le) p := fun p hp => h p (List.mem_of_mem_drop hp)
    obtain ⟨h3, h1, h2⟩ := (cuts o h (cb_prod o t1) (cb_prod o t2)).mpr ⟨k, k1, k2, rfl, rfl⟩
    refine ⟨?_, h1, h2, h3.trans e⟩
    have := cut_pair o oB (cb_prod o t1) (cb_prod o t2) (prod_ne t1) (prod_ne t2)
    rw [h3, e] at this
    exact this
/-- never and always have none -/
theorem splits_none (oB : TOrd leB) {W : List (List α)} (hW : W = [] ∨ W = ALW) {P : List (List (List α) × List (List α))}
    (hm : ∀ A B, (A, B) ∈ P ↔ Pair (le := le) (leB := leB) W A B) : P.filter (isSplit le W) = [] := by
  rw [List.filter_eq_nil_iff]
  rintro ⟨A, B⟩ hp hs
  unfold isSplit at hs
  rw [Bool.and_eq_true, Bool.and_eq_true, decide_eq_true_eq, decide_eq_true_eq, decide_eq_true_eq] at hs
  obtain ⟨h1, h2, h3⟩ := hs
  have h1 : A ≠ ALW := h1
  have h2 : B ≠ ALW := h2
  have h3 : thenB le A B = W := h3
  have hpair := (hm A B).mp hp
  obtain ⟨hA, hB⟩ := pair_cb o oB hpair
  rcases hW with rfl | rfl
  · by_cases nA : A = []
    · refine h2 (IsBase.unique o (U := fun _ => True) ⟨hB, fun l => ⟨fun _ => trivial, fun _ => ?_⟩⟩ ⟨cb_one [], fun l => ⟨fun _ => trivial, fun _ => done_always l⟩⟩)
      rw [hpair.two, (isBase_restOf o oB _ A).iff, nA]
      intro a ha; cases ha
    · have nB : B = [] := Classical.byContradiction fun nB => thenB_ne (le := le) nA nB h3
      refine h1 (IsBase.unique o (U := fun _ => True) ⟨hA, fun l => ⟨fun _ => trivial, fun _ => ?_⟩⟩ ⟨cb_one [], fun l => ⟨fun _ => trivial, fun _ => done_always l⟩⟩)
      rw [hpair.one, (isBase_lead o oB _ B).iff, nB]
      intro b hb; cases hb
  · exact h1 (alw_prod h3 hA hB).1
/-- each cut is a split -/
theorem due_split {W : List (List α)} {ps : List (List (List α))} (h : ∀ p ∈ ps, Stage (le := le) p) (e : prodB le ps = W) {p : List (List α) × List (List α)} (hp : p ∈ due le ps) : isSplit le W p = true ∧ CB le p.1 ∧ CB le p.2 := by
  obtain ⟨A, B⟩ := p
  obtain ⟨k, k1, k2, rfl, rfl⟩ := (mem_due o h).mp hp
  have t1 : ∀ p ∈ ps.take k, Stage (le := le) p := fun p hp => h p (List.mem_of_mem_take hp)
  have t2 : ∀ p ∈ ps.drop k, Stage (le := le) p := fun p hp => h p (List.mem_of_mem_drop hp)
  obtain ⟨h3, h1, h2⟩ := (cuts o h (cb_prod o t1) (cb_prod o t2)).mpr ⟨k, k1, k2, rfl, rfl⟩
  refine ⟨?_, cb_prod o t1, cb_prod o t2⟩
  unfold isSplit
  rw [Bool.and_eq_true, Bool.and_eq_true, decide_eq_true_eq, decide_eq_true_eq, decide_eq_true_eq]
  exact ⟨h1, h2, h3.trans e⟩
end
end Mo
set_option maxHeartbeats 4000000
/-! what the words' defs do -/
namespace MoD
open PySem PySem.Spec PyProof.Rows L2 MoR PySem.W Evl
variable {K : PySem.W.Frag} {nv av : Addr}
theorem sq {t u : TS} {D : Ends} {σ : L2.St} {H : Hp} (h : t { D with nx := u D } σ H) : tSeq t u D σ H := h
/-- one argument, two, three -/
theorem all1 {P : VP} {vs : List V} {H : Hp} (h : AllP [P] vs H) : ∃ v, vs = [v] ∧ P v H := by
  cases h with
  | cons a b => cases b; exact ⟨_, rfl, a⟩
theorem all2 {P R : VP} {vs : List V} {H : Hp} (h : AllP [P, R] vs H) : ∃ v w, vs = [v, w] ∧ P v H ∧ R w H := by
  cases h with
  | cons a b =>
    cases b with
    | cons c d => cases d; exact ⟨_, _, rfl, a, c⟩
theorem all3 {P R S : VP} {vs : List V} {H : Hp} (h : AllP [P, R, S] vs H) : ∃ v w x, vs = [v, w, x] ∧ P v H ∧ R w H ∧ S x H := by
  cases h with
  | cons a b =>
    cases b with
    | cons c d =>
      cases d with
      | cons e f => cases f; exact ⟨_, _, _, rfl, a, c, e⟩
theorem all_len : ∀ {Ps : List VP} {vs : List V} {H : Hp}, AllP Ps vs H → vs.length = Ps.length
  | _, _, _, .nil => rfl
  | _, _, _, .cons _ t => by rw [List.length_cons, List.length_cons, all_len t]

/-! ### begun, is_part, rest -/
abbrev spbegun (K : PySem.W.Frag) : Sp := spP (fun i : Wd × Wd => [isP K i.1, isP K i.2]) (fun _ => True) (fun i _ => isP K (Mo.begun i.1 i.2))
theorem len_begun (vs : List V) (H : Hp) (Q : VK) (E : XK) (h : spbegun K vs H Q E) : vs.length = 2 := by
  obtain ⟨i, h, _⟩ := h
  exact all_len h
theorem pure_begun (vs : List V) (H : Hp) (Q : VK) (E : XK) (h : spbegun K vs H Q E) : trbegun K nv av { nx := fun _ H' => Q .non H', rt := Q } (L2.start Nbegun vs) H := by
  obtain ⟨⟨w, l⟩, h, _, q⟩ := h
  obtain ⟨v1, v2, rfl, h1, h2⟩ := all2 h
  replace h1 : Is K H v1 w := h1
  replace h2 : Is K H v2 l := h2
  unfold trbegun
  refine sq (ms_asg (ep_nat (K := K) 0) fun v H1 e1 p1 => ?_)
  cases Is.nat p1
  refine sq (s_for (xs := l) (W := []) (wk_seq (ep_vis rfl (h2.ex e1)).sq) (fun H2 i σ' H' => Ex H2 H' ∧ ∃ x, σ' = [some v1, some v2, some (.int (Mo.begun w (l.take i) : Nat)), x])
    (fun H2 e2 => ⟨Ex.refl _, none, ?_⟩) (fun H2 i σ' H' _ p => .of p.1) (fun H2 i x v σ' H' H'' e2 hx p e3 iv => ?_) fun H2 σ' H' e2 p => ?_)
  · show _ = [some v1, some v2, some (.int (Mo.begun w [] : Nat)), none]
    rw [Mo.begun_nil]; rfl
  · obtain ⟨p1, y, rfl⟩ := p
    have ew : Is K H'' v1 w := h1.ex (((e1.trans e2).trans p1).trans e3)
    have hs : Mo.begun w (l.take (i + 1)) = if w[Mo.begun w (l.take i)]? = some x then Mo.begun w (l.take i) + 1 else Mo.begun w (l.take i) := by
      rw [take_one hx, Mo.begun_snoc]
    generalize Mo.begun w (l.take i) = m at hs ⊢
    show tIfS _ _ _ _ [some v1, some v2, some (.int (m : Nat)), some v] H''
    refine ms_if (b := decide (m < w.length) && decide (w[m]? = some x)) (et_and (et_T (ep_lt (K := K) (ep_vis rfl (.int _)) (ep_len (ep_vis rfl ew).sq))) fun hb => ?_) (fun hb H3 e4 => ?_) fun hb H3 e4 => ?_
    · have hm : m < w.length := of_decide_eq_true hb
      have hw : w[m]? = some w[m] := List.getElem?_eq_getElem hm
      refine EvT.at (et_T (ep_eq (ep_ix (ep_vis rfl ew).sq (ep_vis rfl (.int _)) hw) (ep_vis rfl iv))) ?_
      rw [hw]
      simp
    · rw [Bool.and_eq_true, decide_eq_true_eq, decide_eq_true_eq] at hb
      rw [if_pos hb.2] at hs
      refine ms_augN rfl (ep_nat (K := K) 1) fun H4 e5 => ⟨(p1.trans e3).trans (e4.trans e5), some v, ?_⟩
      rw [hs]; rfl
    · rw [if_neg (fun z => by
        have hm : m < w.length := (List.getElem?_eq_some_iff.mp z).1
        rw [Bool.and_eq_false_iff, decide_eq_false_iff_not, decide_eq_false_iff_not] at hb
        exact hb.elim (fun y => y hm) (fun y => y z))] at hs
      exact ⟨(p1.trans e3).trans e4, some v, by rw [hs]⟩
  · obtain ⟨p1, y, rfl⟩ := p
    rw [List.take_length]
    exact ms_ret (ep_vis (x := Mo.begun w l) rfl (.int _)) fun v H3 e3 r => q v H3 (((e1.trans e2).trans p1).trans e3) r
abbrev spis_part (K : PySem.W.Frag) : Sp := spP (fun i : Wd × Wd => [isP K i.1, isP K i.2]) (fun _ => True) (fun i _ => isP K (Mo.isPart i.1 i.2))
theorem call_begun {σ : L2.St} {H : Hp} {ts : TA} {w l : Wd} (h : EvAs ts σ H [isP K w, isP K l]) : EvP (tCall (spbegun K) [] E0 ts) σ H (isP K (Mo.begun w l)) := ep_sp (w, l) trivial h fun _ _ _ _ r => r
theorem pure_is_part (vs : List V) (H : Hp) (Q : VK) (E : XK) (h : spis_part K vs H Q E) : tris_part K nv av (spbegun K) { nx := fun _ H' => Q .non H', rt := Q } (L2.start Nis_part vs) H := by
  obtain ⟨⟨w, l⟩, h, _, q⟩ := h
  obtain ⟨v1, v2, rfl, h1, h2⟩ := all2 h
  refine ms_ret (ep_eq (call_begun (ea_cons' (ep_vis rfl h1) (mono_is _) (ea_cons' (ep_vis rfl h2) (mono_is _) ea_nil'))) (ep_len (ep_vis rfl h1).sq)) fun v H3 e3 r => q v H3 e3 ?_
  have e : Mo.isPart w l = decide (Mo.begun w l = w.length) := by unfold Mo.isPart; rw [Bool.eq_iff_iff, beq_iff_eq, decide_eq_true_eq]
  show Is K H3 v (Mo.isPart w l)
  rw [e]; exact r
abbrev sprest (K : PySem.W.Frag) : Sp := spP (fun i : Wd × Wd => [isP K i.1, isP K i.2]) (fun _ => True) (fun i _ => isP K (Mo.restW i.1 i.2))
theorem pure_rest (vs : List V) (H : Hp) (Q : VK) (E : XK) (h : sprest K vs H Q E) : trrest K nv av (spbegun K) { nx := fun _ H' => Q .non H', rt := Q } (L2.start Nrest vs) H := by
  obtain ⟨⟨w, l⟩, h, _, q⟩ := h
  obtain ⟨v1, v2, rfl, h1, h2⟩ := all2 h
  refine ms_ret (ep_tuple (ep_from (ep_vis rfl h1) (call_begun (ea_cons' (ep_vis rfl h1) (mono_is _) (ea_cons' (ep_vis rfl h2) (mono_is _) ea_nil')))).sq) fun v H3 e3 r => q v H3 e3 ?_
  show Is K H3 v (Mo.restW w l)
  rw [Mo.rest_drop]; exact r
/-! ### in_order, least_of -/
abbrev spin_order (K : PySem.W.Frag) : Sp := spP (fun i : Bs => [sqP K i]) (fun i => i.length < 4096) (fun i H => nlP K H (Mo.inOrder leW i))
theorem ex_canon {α : Type} [En α] [DecidableEq α] {te : TE} {σ : L2.St} {H : Hp} {xs : List α} (h : EvP te σ H (sqP K xs)) (hT : ∀ x : α, ∃ ds, Ec.enc x = .tuple ds) (hd : En.dp α ≤ 8) (hl : xs.length < 4096) (hk : ∀ ys : List α, ys.Nodup → (∀ y, y ∈ ys ↔ y ∈ xs) → SortOk (ys.map Ec.enc)) :
    EvP (tSS K te) σ H (nlP K H (Mo.canon (leE α) xs)) := fun H1 e Q q => h H1 e _ fun v H2 e2 ⟨a, vs, h1, h2, h3⟩ => ⟨α, _, _, a, vs, xs, h1, h2, h3, hT, hd, hl, hk, fun p us hp hu =>
  q _ _ (e2.trans (Ex.new hp)) ⟨p, us, rfl, fresh_back (e.trans e2) hp, upd_same, ImAll.ex (Ex.new hp) hu⟩⟩
theorem ex_canonT {te : TE} {σ : L2.St} {H : Hp} {xs : List Str} (h : EvP te σ H (sqP K xs)) (hl : xs.length < 4096) : EvP (tSSt K te) σ H (nlP K H (Mo.canon (leE Str) xs)) := fun H1 e Q q =>
  h H1 e _ fun v H2 e2 ⟨a, vs, h1, h2, h3⟩ => ⟨a, vs, xs, h1, h2, h3, hl, fun p us hp hu => q _ _ (e2.trans (Ex.new hp)) ⟨p, us, rfl, fresh_back (e.trans e2) hp, upd_same, ImAll.ex (Ex.new hp) hu⟩⟩
theorem pure_in_order (vs : List V) (H : Hp) (Q : VK) (E : XK) (h : spin_order K vs H Q E) : trin_order K nv av { nx := fun _ H' => Q .non H', rt := Q } (L2.start Nin_order vs) H := by
  obtain ⟨ws, h, hl, q⟩ := h
  obtain ⟨v1, rfl, a, us, h1, h2, h3⟩ := all1 h
  have hcl : (Mo.canon (leE (Nat × Wd)) (ws.map fun w => (w.length, w))).length ≤ 50000 := by
    have h1 := Mo.canon_len (ordE (Nat × Wd)) (ws.map fun w => (w.length, w))
    rw [List.length_map] at h1
    omega
  refine ms_ret (el_lc2n (fun _ => true) (fun p : Nat × Wd => p.2) (wk_seq (ex_canon (el_map (fun w : Wd => (w.length, w)) (wk_seq (ep_var rfl (mono_sq ws) ⟨a, us, h1, h2, h3⟩)) (by omega) (fun _ => rfl) fun x hx v H1 e1 iv => ?_).sqn ?_ ?_ ?_ ?_).sqn) hcl (fun _ _ => rfl)
    (fun _ _ _ _ _ _ _ _ => et_yes) fun p hp u w H1 e1 iu iw _ => ?_) fun v H3 e3 r => q v H3 e3 ?_
  · exact ep_pair (ep_len (ep_vis rfl iv).sq) (ep_vis rfl iv)
  · exact fun x => ⟨_, rfl⟩
  · decide
  · rw [List.length_map]; exact hl
  · exact fun ys _ _ => ok_pairs ys
  · exact ep_vis rfl iw
  · show nlP K H (Mo.canon leW ws) v H3
    rw [← canon_words]
    rw [List.filter_eq_self.mpr (fun _ _ => rfl)] at r
    exact r
end MoD
set_option maxHeartbeats 4000000
/-! what the bases' defs do -/
namespace MoD
open PySem PySem.Spec PyProof.Rows L2 MoR PySem.W Evl
variable {K : PySem.W.Frag} {nv av : Addr}
theorem call_in_order {σ : L2.St} {H : Hp} {ts : TA} {ws : Bs} (hl : ws.length < 4096) (h : EvAs ts σ H [sqP K ws]) : EvP (tCall (spin_order K) [] E0 ts) σ H (nlP K H (Mo.inOrder leW ws)) :=
  ep_sp ws hl h fun H1 v H2 e r => by
    obtain ⟨a, vs, h1, h2, h3, h4⟩ := r
    exact ⟨a, vs, h1, fresh_back e h2, h3, h4⟩
theorem call_is_part {σ : L2.St} {H : Hp} {ts : TA} {w l : Wd} (h : EvAs ts σ H [isP K w, isP K l]) : EvP (tCall (spis_part K) [] E0 ts) σ H (isP K (Mo.isPart w l)) := ep_sp (w, l) trivial h fun _ _ _ _ r => r
theorem call_rest {σ : L2.St} {H : Hp} {ts : TA} {w l : Wd} (h : EvAs ts σ H [isP K w, isP K l]) : EvP (tCall (sprest K) [] E0 ts) σ H (isP K (Mo.restW w l)) := ep_sp (w, l) trivial h fun _ _ _ _ r => r
theorem any_map {α : Type} (l : List α) (f : α → Bool) : (l.map f).any id = l.any f := by rw [List.any_map]; rfl
theorem all_map {α : Type} (l : List α) (f : α → Bool) : (l.map f).all id = l.all f := by rw [List.all_map]; rfl
/-! ### least_of -/
abbrev spleast_of (K : PySem.W.Frag) : Sp := spP (fun i : Bs => [isP K i]) (fun i => i.length < 4096) (fun i _ => isP K (Mo.leastOf leW i))
theorem drop_get {α : Type} {l : List α} {i : Nat} {x : α} (h : l[i]? = some x) : l.drop i = x :: l.drop (i + 1) := by
  obtain ⟨hi, e⟩ := List.getElem?_eq_some_iff.mp h
  rw [List.drop_eq_getElem_cons hi, e]
theorem pure_least_of (vs : List V) (H : Hp) (Q : VK) (E : XK) (h : spleast_of K vs H Q E) : trleast_of K nv av (spis_part K) (spin_order K) { nx := fun _ H' => Q .non H', rt := Q } (L2.start Nleast_of vs) H := by
  obtain ⟨ws, h, hl, q⟩ := h
  obtain ⟨v1, rfl, h1⟩ := all1 h
  unfold trleast_of
  refine sq (ms_asg (ep_lst0 (K := K) (α := Wd)) fun v H1 e1 p1 => ?_)
  obtain ⟨f, us0, rfl, hf0, hf, hu⟩ := p1
  refine sq (s_for (W := [f]) (xs := Mo.inOrder leW ws) (wk_new (call_in_order hl (ea_cons' (ep_vis rfl (h1.ex e1)).sq (mono_sq _) ea_nil')) (fun a ha => by rw [List.mem_singleton.mp ha, hf]; exact fun z => nomatch z))
    (fun H2 i σ' H' => ∃ us fs x, ExL K [f] H2 H' ∧ H' f = some (.lst us) ∧ IsAll K H' us fs ∧ fs.length ≤ i ∧ Mo.greedy fs ((Mo.inOrder leW ws).drop i) = Mo.leastOf leW ws ∧ σ' = [some v1, some (.ref f), x, none])
    (fun H2 e2 => ⟨us0, [], none, .refl, e2 _ _ hf, ImAll.ex e2 hu, Nat.le_refl _, rfl, rfl⟩) (fun H2 i σ' H' _ p => by obtain ⟨us, fs, x, p, _⟩ := p; exact p) (fun H2 i x v σ' H' H'' e2 hx p e3 iv => ?_) fun H2 σ' H' e2 p => ?_)
  · obtain ⟨us, fs, y, p1, p2, p3, p4, p5, rfl⟩ := p
    have hi : i < ws.length := Nat.lt_of_lt_of_le (List.getElem?_eq_some_iff.mp hx).1 (Mo.canon_len ordW.toTOrd ws)
    rw [drop_get hx] at p5
    have f2 : H'' f = some (.lst us) := e3 _ _ p2
    have i2 : IsAll K H'' us fs := ImAll.ex e3 p3
    show tIfS _ _ _ _ [some v1, some (.ref f), some v, none] H''
    refine ms_if (b := !(fs.any fun u => Mo.isPart u x)) (et_not (EvT.at (et_V (ep_any (el_map (fun u : Wd => Mo.isPart u x) (wk_seq (ep_var rfl (mono_sq fs) ⟨f, us, rfl, .inl f2, i2⟩)) (by omega) (fun _ => rfl) fun z hz w H1 e4 iw => ?_))) (any_map _ _))) (fun hb H3 e4 => ?_) fun hb H3 e4 => ?_
    · exact call_is_part (ea_cons' (ep_vis rfl iw) (mono_is _) (ea_cons' (ep_vis rfl (iv.ex e4)) (mono_is _) ea_nil'))
    · rw [Bool.not_eq_true'] at hb
      unfold Mo.greedy at p5
      rw [hb] at p5
      refine ms_app rfl (e4 _ _ f2) (ep_vis rfl (iv.ex e4)) (by rw [IsAll.len i2]; omega) fun w H4 e5 iw => ?_
      exact ⟨us ++ [w], fs ++ [x], some v, ((p1.then (e3.trans e4)).then e5).lst List.mem_cons_self (e5 _ _ (e4 _ _ f2)), upd_same, IsAll.snoc (ImAll.tk (.lst (e5 _ _ (e4 _ _ f2))) (ImAll.ex (e4.trans e5) i2)) (Im.tk (.lst (e5 _ _ (e4 _ _ f2))) iw), by simp; omega, p5, rfl⟩
    · have hb' : (fs.any fun u => Mo.isPart u x) = true := by cases z : (fs.any fun u => Mo.isPart u x) with
        | true => rfl
        | false => rw [z] at hb; cases hb
      unfold Mo.greedy at p5
      rw [hb'] at p5
      exact ⟨us, fs, some v, p1.then (e3.trans e4), e4 _ _ f2, ImAll.ex e4 i2, by omega, p5, rfl⟩
  · obtain ⟨us, fs, y, p1, p2, p3, p4, p5, rfl⟩ := p
    rw [List.drop_length] at p5
    refine ms_ret (ep_tuple (ep_var rfl (mono_sq fs) ⟨f, us, rfl, .inl p2, p3⟩)) fun v H3 e3 r => q v H3 ?_ ?_
    · exact fun b o hb => e3 _ _ (p1.ob b o (fun z => by rw [List.mem_singleton.mp z, hf0] at hb; cases hb) (e2 _ _ (e1 _ _ hb)))
    · show Is K H3 v (Mo.leastOf leW ws)
      rw [← p5]
      have : Mo.greedy fs ([] : Bs) = fs := by unfold Mo.greedy; rfl
      rw [this]
      exact r
theorem call_least_of {σ : L2.St} {H : Hp} {ts : TA} {ws : Bs} (hl : ws.length < 4096) (h : EvAs ts σ H [isP K ws]) : EvP (tCall (spleast_of K) [] E0 ts) σ H (isP K (Mo.leastOf leW ws)) := ep_sp ws hl h fun _ _ _ _ r => r
/-! ### tupled: of a text, of a word, of a base -/
abbrev sptup0 (K : PySem.W.Frag) : Sp := spP (fun i : Str => [isP K i]) (fun _ => True) (fun i _ => isP K i)
abbrev sptup1 (K : PySem.W.Frag) : Sp := spP (fun i : Wd => [isP K i]) (fun i => i.length < 40000) (fun i _ => isP K i)
abbrev sptupled (K : PySem.W.Frag) : Sp := spP (fun i : Bs => [sqP K i]) (fun i => i.length < 40000 ∧ ∀ w ∈ i, w.length < 40000) (fun i _ => isP K i)
theorem tyx_seq {H : Hp} {a : Addr} {vs : List V} (h : SqE K H a vs) : TyX K H (.ref a) (.type "list") ∨ TyX K H (.ref a) (.type "tuple") := by
  rcases h with h | h
  · exact .inl (.base (.lst h))
  · rcases h with (h | ⟨o, h⟩) | ⟨o, its, n, h, hc, _⟩
    · exact .inr (.base (.tup h))
    · exact .inr (.fTuple h)
    · exact .inr (.kTuple h hc)
theorem tyx_tup {H : Hp} {a : Addr} {vs : List V} (h : SqT K H a vs) : TyX K H (.ref a) (.type "tuple") := by
  rcases h with (h | ⟨o, h⟩) | ⟨o, its, n, h, hc, _⟩
  · exact .base (.tup h)
  · exact .fTuple h
  · exact .kTuple h hc
/-- isinstance(value, (list, tuple)) -/
theorem et_isT {σ : L2.St} {H : Hp} {v : V} {i : Nat} {b : Bool} (hs : σ[i]? = some (some v)) (hv : ∀ H', Ex H H' → ∃ t, TyX K H' v t ∧ PySem.W.kitAny K t [.type "list", .type "tuple"] = some b) :
    EvT (tB (tCB (rIsiT K) (tCons (tVar i) (tCons (tTup (tCons (tC (.ty "list")) (tCons (tC (.ty "tuple")) tNil))) tNil)))) σ H b := fun H1 e Q q =>
  ⟨v, hs, by show 2 ≤ sizeLine; decide, fun p hp => by
    obtain ⟨t, ht, hb⟩ := hv _ (e.trans (Ex.new hp))
    exact ⟨v, p, [.ty "list", .ty "tuple"], t, [.type "list", .type "tuple"], b, rfl, upd_same, .cons (.ty _) (.cons (.ty _) .nil), ht, hb, b, rfl, q _ (Ex.new hp)⟩⟩
theorem kit_seq (K : PySem.W.Frag) : PySem.W.kitAny K (.type "list") [.type "list", .type "tuple"] = some true ∧ PySem.W.kitAny K (.type "tuple") [.type "list", .type "tuple"] = some true ∧ PySem.W.kitAny K (.type "str") [.type "list", .type "tuple"] = some false := by
  refine ⟨?_, ?_, ?_⟩
  · exact kitAny_cons (b := true) (kit_ty (by decide +kernel)) (fun h => nomatch h) fun _ => rfl
  · exact kitAny_cons (b := false) (kit_ty (by decide +kernel)) (fun _ => kitAny_cons (b := true) (kit_ty (by decide +kernel)) (fun h => nomatch h) fun _ => rfl) fun h => nomatch h
  · exact kitAny_cons (b := false) (kit_ty (by decide +kernel)) (fun _ => kitAny_cons (b := false) (kit_ty (by decide +kernel)) (fun _ => rfl) fun h => nomatch h) fun h => nomatch h
theorem isT_seq {H : Hp} {a : Addr} {vs : List V} (h : SqE K H a vs) : ∀ H', Ex H H' → ∃ t, TyX K H' (.ref a) t ∧ PySem.W.kitAny K t [.type "list", .type "tuple"] = some true := fun H' e => by
  rcases tyx_seq (sqe_ex e h) with q | q
  · exact ⟨_, q, (kit_seq K).1⟩
  · exact ⟨_, q, (kit_seq K).2.1⟩
theorem pure_tup0 (vs : List V) (H : Hp) (Q : VK) (E : XK) (h : sptup0 K vs H Q E) {sp : Sp} : trtupled K nv av sp { nx := fun _ H' => Q .non H', rt := Q } (L2.start Ntupled vs) H := by
  obtain ⟨x, h, _, q⟩ := h
  obtain ⟨v1, rfl, h1⟩ := all1 h
  cases Is.text h1
  refine ms_ret (ep_if (b := false) (et_isT rfl fun H' _ => ⟨_, .base (.str x), (kit_seq K).2.2⟩) (fun hb => nomatch hb) fun _ => ep_vis rfl h1) fun v H3 e3 r => q v H3 e3 r
theorem pure_tup1 (vs : List V) (H : Hp) (Q : VK) (E : XK) (h : sptup1 K vs H Q E) : trtupled K nv av (sptup0 K) { nx := fun _ H' => Q .non H', rt := Q } (L2.start Ntupled vs) H := by
  obtain ⟨w, h, hl, q⟩ := h
  obtain ⟨v1, rfl, h1⟩ := all1 h
  obtain ⟨a, us, rfl, h2, h3⟩ := Is.list h1
  refine ms_ret (ep_if (b := true) (et_isT rfl (isT_seq (.inr h2))) (fun _ => ep_tuple (el_map (fun x : Str => x) (wk_seq (ep_vis rfl h1).sq) (by omega) (fun _ => rfl) fun x hx v H1 e1 iv => ?_).sqn) fun hb => nomatch hb) fun v H3 e3 r => q v H3 e3 (by rw [List.map_id'] at r; exact r)
  exact ep_sp x trivial (ea_cons' (ep_vis rfl iv) (mono_is _) ea_nil') fun _ _ _ _ r => r
theorem pure_tupled (vs : List V) (H : Hp) (Q : VK) (E : XK) (h : sptupled K vs H Q E) : trtupled K nv av (sptup1 K) { nx := fun _ H' => Q .non H', rt := Q } (L2.start Ntupled vs) H := by
  obtain ⟨w, h, ⟨hl, hw⟩, q⟩ := h
  obtain ⟨v1, rfl, a, us, rfl, h2, h3⟩ := all1 h
  refine ms_ret (ep_if (b := true) (et_isT rfl (isT_seq h2)) (fun _ => ep_tuple (el_map (fun x : Wd => x) (wk_seq (ep_var rfl (mono_sq w) ⟨a, us, rfl, h2, h3⟩)) (by omega) (fun _ => rfl) fun x hx v H1 e1 iv => ?_).sqn) fun hb => nomatch hb) fun v H3 e3 r => q v H3 e3 (by rw [List.map_id'] at r; exact r)
  exact ep_sp x (hw x hx) (ea_cons' (ep_vis rfl iv) (mono_is _) ea_nil') fun _ _ _ _ r => r
theorem call_tupled {σ : L2.St} {H : Hp} {ts : TA} {ws : Bs} (hl : ws.length < 40000) (hw : ∀ w ∈ ws, w.length < 40000) (h : EvAs ts σ H [sqP K ws]) : EvP (tCall (sptupled K) [] E0 ts) σ H (isP K ws) := ep_sp ws ⟨hl, hw⟩ h fun _ _ _ _ r => r
/-! ### base_of, does, either, then, times, is_inside, behind -/
/-- words short, bases few -/
def Sm (n : Nat) (ws : Bs) : Prop := ws.length < n ∧ ∀ w ∈ ws, w.length < 20000
theorem Sm.mono {m n : Nat} {ws : Bs} (h : Sm m ws) (hm : m ≤ n) : Sm n ws := ⟨by have := h.1; omega, h.2⟩
abbrev spbase_of (K : PySem.W.Frag) : Sp := spP (fun i : Bs => [sqP K i]) (fun i => Sm 4096 i) (fun i _ => isP K (Mo.leastOf leW i))
theorem pure_base_of (vs : List V) (H : Hp) (Q : VK) (E : XK) (h : spbase_of K vs H Q E) : trbase_of K nv av (sptupled K) (spleast_of K) { nx := fun _ H' => Q .non H', rt := Q } (L2.start Nbase_of vs) H := by
  obtain ⟨ws, h, ⟨hl, hw⟩, q⟩ := h
  obtain ⟨v1, rfl, h1⟩ := all1 h
  exact ms_ret (call_least_of hl (ea_cons' (call_tupled (by omega) (fun w hw' => by have := hw w hw'; omega) (ea_cons' (ep_var rfl (mono_sq ws) h1) (mono_sq _) ea_nil')) (mono_is _) ea_nil')) fun v H3 e3 r => q v H3 e3 r
theorem call_base_of {σ : L2.St} {H : Hp} {ts : TA} {ws : Bs} (hl : Sm 4096 ws) (h : EvAs ts σ H [sqP K ws]) : EvP (tCall (spbase_of K) [] E0 ts) σ H (isP K (Mo.leastOf leW ws)) := ep_sp ws hl h fun _ _ _ _ r => r
abbrev spdoes (K : PySem.W.Frag) : Sp := spP (fun i : Bs × Wd => [isP K i.1, isP K i.2]) (fun i => i.1.length < 40000) (fun i _ => isP K (Mo.does i.1 i.2))
theorem pure_does (vs : List V) (H : Hp) (Q : VK) (E : XK) (h : spdoes K vs H Q E) : trdoes K nv av (spis_part K) { nx := fun _ H' => Q .non H', rt := Q } (L2.start Ndoes vs) H := by
  obtain ⟨⟨b, l⟩, h, hl, q⟩ := h
  obtain ⟨v1, v2, rfl, h1, h2⟩ := all2 h
  replace h1 : Is K H v1 b := h1
  replace h2 : Is K H v2 l := h2
  refine ms_ret (ep_any (el_map (fun u : Wd => Mo.isPart u l) (wk_seq (ep_vis rfl h1).sq) (by have : b.length < 40000 := hl; omega) (fun _ => rfl) fun z hz w H1 e4 iw => ?_)) fun v H3 e3 r => q v H3 e3 (by rw [any_map] at r; exact r)
  exact call_is_part (ea_cons' (ep_vis rfl iw) (mono_is _) (ea_cons' (ep_vis rfl (h2.ex e4)) (mono_is _) ea_nil'))
theorem call_does {σ : L2.St} {H : Hp} {ts : TA} {b : Bs} {l : Wd} (hb : b.length < 40000) (h : EvAs ts σ H [isP K b, isP K l]) : EvP (tCall (spdoes K) [] E0 ts) σ H (isP K (Mo.does b l)) := ep_sp (b, l) hb h fun _ _ _ _ r => r
abbrev speither (K : PySem.W.Frag) : Sp := spP (fun i : Bs × Bs => [sqP K i.1, sqP K i.2]) (fun i => Sm 4096 (i.1 ++ i.2)) (fun i _ => isP K (Mo.leastOf leW (i.1 ++ i.2)))
theorem pure_either (vs : List V) (H : Hp) (Q : VK) (E : XK) (h : speither K vs H Q E) : treither K nv av (spbase_of K) { nx := fun _ H' => Q .non H', rt := Q } (L2.start Neither vs) H := by
  obtain ⟨⟨a, b⟩, h, hl, q⟩ := h
  obtain ⟨v1, v2, rfl, h1, h2⟩ := all2 h
  replace hl : Sm 4096 (a ++ b) := hl
  refine ms_ret (call_base_of hl (ea_cons' (ep_starL (ep_var (P := sqP K a) rfl (mono_sq a) h1) (ep_var (P := sqP K b) rfl (mono_sq b) h2) ?_).sqn (mono_sq _) ea_nil')) fun v H3 e3 r => q v H3 e3 r
  have := hl.1
  rw [List.length_append] at this
  omega
abbrev spthen (K : PySem.W.Frag) : Sp := spP (fun i : Bs × Bs => [sqP K i.1, sqP K i.2]) (fun i => Sm 4096 i.1 ∧ Sm 4096 i.2 ∧ i.1.length * i.2.length < 4096) (fun i _ => isP K (Mo.thenB leW i.1 i.2))
theorem sum_const {α : Type} (l : List α) (n : Nat) : (l.map fun _ => n).sum = l.length * n := by
  induction l with
  | nil => simp
  | cons x l ih => rw [List.map_cons, List.sum_cons, ih, List.length_cons, Nat.succ_mul, Nat.add_comm]
theorem pure_then (vs : List V) (H : Hp) (Q : VK) (E : XK) (h : spthen K vs H Q E) : trthen K nv av (sptupled K) (spin_order K) { nx := fun _ H' => Q .non H', rt := Q } (L2.start Nthen vs) H := by
  obtain ⟨⟨a, b⟩, h, ⟨ha, hb, hab⟩, q⟩ := h
  obtain ⟨v1, v2, rfl, h1, h2⟩ := all2 h
  replace h1 : sqP K a v1 H := h1
  replace h2 : sqP K b v2 H := h2
  replace ha : Sm 4096 a := ha
  replace hb : Sm 4096 b := hb
  replace hab : a.length * b.length < 4096 := hab
  have hlen : (a.flatMap fun w => b.map fun m => w ++ m).length = a.length * b.length := by
    rw [List.length_flatMap]
    rw [← sum_const a b.length]
    congr 1
    exact List.map_congr_left fun x _ => by rw [List.length_map]
  refine ms_ret (ep_tuple (call_in_order (ws := a.flatMap fun w => b.map fun m => w ++ m) (by rw [hlen]; exact hab) (ea_cons' (el_lc2 (fun _ => b) (fun w m => w ++ m) (wk_is (call_tupled (by have := ha.1; omega) (fun w hw => by have := ha.2 w hw; omega) (ea_cons' (ep_var rfl (mono_sq a) h1) (mono_sq _) ea_nil'))) ?_ (fun _ => rfl) (fun _ _ => rfl)
    (fun x hx v H1 W e1 _ iv => wk_is (call_tupled (by have := hb.1; omega) (fun w hw => by have := hb.2 w hw; omega) (ea_cons' (ep_var rfl (mono_sq b) (mono_sq b _ _ _ e1 h2)) (mono_sq _) ea_nil'))) fun x hx y hy v w H1 e1 iv iw => ?_).sqn (mono_sq _) ea_nil')).sqn) fun v H3 e3 r => q v H3 e3 r
  · rw [sum_const]; omega
  · exact ep_cat (ep_vis rfl iv) (ep_vis rfl iw) (by have := ha.2 x hx; have := hb.2 y hy; omega)
theorem call_then {σ : L2.St} {H : Hp} {ts : TA} {a b : Bs} (ha : Sm 4096 a) (hb : Sm 4096 b) (hab : a.length * b.length < 4096) (h : EvAs ts σ H [sqP K a, sqP K b]) : EvP (tCall (spthen K) [] E0 ts) σ H (isP K (Mo.thenB leW a b)) := ep_sp (a, b) ⟨ha, hb, hab⟩ h fun _ _ _ _ r => r
abbrev spis_inside (K : PySem.W.Frag) : Sp := spP (fun i : Bs × Bs => [isP K i.1, isP K i.2]) (fun i => i.1.length < 40000 ∧ i.2.length < 40000) (fun i _ => isP K (Mo.isInside i.1 i.2))
theorem pure_is_inside (vs : List V) (H : Hp) (Q : VK) (E : XK) (h : spis_inside K vs H Q E) : tris_inside K nv av (spdoes K) { nx := fun _ H' => Q .non H', rt := Q } (L2.start Nis_inside vs) H := by
  obtain ⟨⟨a, b⟩, h, ⟨ha, hb⟩, q⟩ := h
  obtain ⟨v1, v2, rfl, h1, h2⟩ := all2 h
  replace h1 : Is K H v1 a := h1
  replace h2 : Is K H v2 b := h2
  refine ms_ret (ep_all (el_map (fun u : Wd => Mo.does b u) (wk_seq (ep_vis rfl h1).sq) (by have : a.length < 40000 := ha; omega) (fun _ => rfl) fun z hz w H1 e4 iw => ?_)) fun v H3 e3 r => q v H3 e3 (by rw [all_map] at r; exact r)
  exact call_does hb (ea_cons' (ep_vis rfl (h2.ex e4)) (mono_is _) (ea_cons' (ep_vis rfl iw) (mono_is _) ea_nil'))
theorem call_is_inside {σ : L2.St} {H : Hp} {ts : TA} {a b : Bs} (ha : a.length < 40000) (hb : b.length < 40000) (h : EvAs ts σ H [isP K a, isP K b]) : EvP (tCall (spis_inside K) [] E0 ts) σ H (isP K (Mo.isInside a b)) := ep_sp (a, b) ⟨ha, hb⟩ h fun _ _ _ _ r => r
end MoD
set_option maxHeartbeats 4000000
/-! standings, parts, the hardest -/
namespace MoD
open PySem PySem.Spec PyProof.Rows L2 MoR PySem.W Evl
variable {K : PySem.W.Frag} {nv av : Addr}
/-- the two bases that the top has written -/
structure NA (K : PySem.W.Frag) (nv av : Addr) : Prop where
  nev : ∀ H, Is K H (.ref nv) ([] : Bs)
  alw : ∀ H, Is K H (.ref av) (Mo.ALW : Bs)
theorem Txt.na {mg : Str → Option Value} {ev : Addr} (T : Txt K mg nv av ev) : NA K nv av := ⟨fun H => Is.mk (T.tnever H) .nil, fun H => Is.mk (T.talways H) (.cons (Is.mk (xs := ([] : Wd)) (T.tev H) .nil) .nil)⟩
theorem ep_nev {σ : L2.St} {H : Hp} (N : NA K nv av) : EvP (tC (.ref nv)) σ H (isP K ([] : Bs)) := ep_c fun H' => N.nev H'
theorem ep_alw {σ : L2.St} {H : Hp} (N : NA K nv av) : EvP (tC (.ref av)) σ H (isP K (Mo.ALW : Bs)) := ep_c fun H' => N.alw H'
/-! ### standing, step -/
abbrev spstanding (K : PySem.W.Frag) : Sp := spP (fun i : Bs × Wd => [isP K i.1, isP K i.2]) (fun i => Sm 4096 i.1) (fun i _ => isP K (Mo.standing leW i.1 i.2))
theorem restW_len {α : Type} [DecidableEq α] : ∀ (l w : List α), (Mo.restW w l).length ≤ w.length
  | [], w => by cases w <;> exact Nat.le_refl _
  | n :: l, [] => by rw [Mo.restW_nil]; exact Nat.le_refl _
  | n :: l, a :: w => by
    rw [Mo.restW_cons]
    by_cases h : a = n
    · rw [if_pos h]; have := restW_len l w; rw [List.length_cons]; omega
    · rw [if_neg h]; exact restW_len l (a :: w)
theorem pure_standing (vs : List V) (H : Hp) (Q : VK) (E : XK) (h : spstanding K vs H Q E) : trstanding K nv av (sprest K) (spbase_of K) { nx := fun _ H' => Q .non H', rt := Q } (L2.start Nstanding vs) H := by
  obtain ⟨⟨b, l⟩, h, hs, q⟩ := h
  obtain ⟨v1, v2, rfl, h1, h2⟩ := all2 h
  replace h1 : Is K H v1 b := h1
  replace h2 : Is K H v2 l := h2
  replace hs : Sm 4096 b := hs
  refine ms_ret (call_base_of ?_ (ea_cons' (el_map (fun w : Wd => Mo.restW w l) (wk_seq (ep_vis rfl h1).sq) (by have := hs.1; omega) (fun _ => rfl) fun x hx v H1 e1 iv => ?_).sqn (mono_sq _) ea_nil')) fun v H3 e3 r => q v H3 e3 r
  · refine ⟨by rw [List.length_map]; exact hs.1, fun w hw => ?_⟩
    obtain ⟨x, hx, rfl⟩ := List.mem_map.mp hw
    have := hs.2 x hx
    have := restW_len l x
    omega
  · exact call_rest (ea_cons' (ep_vis rfl iv) (mono_is _) (ea_cons' (ep_vis rfl (h2.ex e1)) (mono_is _) ea_nil'))
theorem call_standing {σ : L2.St} {H : Hp} {ts : TA} {b : Bs} {l : Wd} (hb : Sm 4096 b) (h : EvAs ts σ H [isP K b, isP K l]) : EvP (tCall (spstanding K) [] E0 ts) σ H (isP K (Mo.standing leW b l)) := ep_sp (b, l) hb h fun _ _ _ _ r => r
abbrev spstep (K : PySem.W.Frag) : Sp := spP (fun i : Bs × Str => [isP K i.1, isP K i.2]) (fun i => Sm 4096 i.1) (fun i _ => isP K (Mo.step leW i.1 i.2))
theorem pure_step (vs : List V) (H : Hp) (Q : VK) (E : XK) (h : spstep K vs H Q E) : trstep K nv av (spbase_of K) { nx := fun _ H' => Q .non H', rt := Q } (L2.start Nstep vs) H := by
  obtain ⟨⟨b, n⟩, h, hs, q⟩ := h
  obtain ⟨v1, v2, rfl, h1, h2⟩ := all2 h
  replace h1 : Is K H v1 b := h1
  replace h2 : Is K H v2 n := h2
  replace hs : Sm 4096 b := hs
  refine ms_ret (call_base_of ?_ (ea_cons' (el_map (fun w : Wd => if w.take 1 = [n] then w.drop 1 else w) (wk_seq (ep_vis rfl h1).sq) (by have := hs.1; omega) (fun _ => rfl) fun x hx v H1 e1 iv => ?_).sqn (mono_sq _) ea_nil')) fun v H3 e3 r => q v H3 e3 r
  · refine ⟨by rw [List.length_map]; exact hs.1, fun w hw => ?_⟩
    obtain ⟨x, hx, rfl⟩ := List.mem_map.mp hw
    have := hs.2 x hx
    show (if x.take 1 = [n] then x.drop 1 else x).length < 20000
    split
    · rw [List.length_drop]; omega
    · exact this
  · refine ep_if (b := decide (x.take 1 = [n])) (et_T (ep_eq (ep_upto (ep_vis rfl iv) (ep_nat (K := K) 1)) (ep_tup1 (ep_vis (x := n) rfl (h2.ex e1))))) (fun hb => ?_) fun hb => ?_
    · rw [if_pos (of_decide_eq_true hb)]
      exact ep_from (ep_vis rfl iv) (ep_nat (K := K) 1)
    · rw [if_neg (of_decide_eq_false hb)]
      exact ep_vis rfl iv
theorem call_step {σ : L2.St} {H : Hp} {ts : TA} {b : Bs} {n : Str} (hb : Sm 4096 b) (h : EvAs ts σ H [isP K b, isP K n]) : EvP (tCall (spstep K) [] E0 ts) σ H (isP K (Mo.step leW b n)) := ep_sp (b, n) hb h fun _ _ _ _ r => r
abbrev names (s : Bs) : List Str := Mo.canon (leE Str) (Mo.heads s)
abbrev spfirst_names (K : PySem.W.Frag) : Sp := spP (fun i : Bs => [isP K i]) (fun i => i.length < 4096) (fun i H => nlP K H (names i))
theorem heads_eq (s : Bs) : Mo.heads s = ((s.filter fun w => decide (0 < w.length)).map fun w => w.headD default) := by
  unfold Mo.heads
  induction s with
  | nil => rfl
  | cons w s ih =>
    cases w with
    | nil => rw [List.filterMap_cons, List.filter_cons]; exact ih
    | cons a w => rw [List.filterMap_cons, List.filter_cons]; exact congrArg (a :: ·) ih
theorem pure_first_names (vs : List V) (H : Hp) (Q : VK) (E : XK) (h : spfirst_names K vs H Q E) : trfirst_names K nv av { nx := fun _ H' => Q .non H', rt := Q } (L2.start Nfirst_names vs) H := by
  obtain ⟨s, h, hs, q⟩ := h
  obtain ⟨v1, rfl, h1⟩ := all1 h
  have hl : (Mo.heads s).length < 4096 := by
    rw [heads_eq, List.length_map]
    exact Nat.lt_of_le_of_lt (List.length_filter_le _ _) hs
  refine ms_ret (ex_canonT (xs := Mo.heads s) (EvP.sqn (EvP.atL (el_lcN (fun w : Wd => decide (0 < w.length)) (fun w => w.headD default) (wk_seq (ep_vis rfl h1).sq) (by omega) (fun _ => rfl) (fun x hx v H1 e1 iv => ?_) fun x hx v H1 e1 iv hf => ?_) (heads_eq s).symm)) hl) fun v H3 e3 r => q v H3 e3 r
  · exact et_T (ep_gt (n := 0) (ep_len (ep_vis rfl iv).sq) (ep_nat (K := K) 0))
  · refine ep_ix (i := 0) (ep_vis rfl iv).sq (ep_nat (K := K) 0) ?_
    cases x with
    | nil => cases hf
    | cons a r => rfl
theorem call_first_names {σ : L2.St} {H : Hp} {ts : TA} {s : Bs} (hs : s.length < 4096) (h : EvAs ts σ H [isP K s]) : EvP (tCall (spfirst_names K) [] E0 ts) σ H (nlP K H (names s)) := ep_sp s hs h fun H1 v H2 e r => by
  obtain ⟨a, vs, h1, h2, h3, h4⟩ := r
  exact ⟨a, vs, h1, fresh_back e h2, h3, h4⟩
/-! ### hardest -/
abbrev leB : Bs → Bs → Bool := leE Bs
/-- states that can be sorted: none is never, or all are -/
def Srt (ss : List Bs) : Prop := (∀ s ∈ ss, s ≠ []) ∨ ∀ s ∈ ss, s = []
theorem Srt.ok {ss ys : List Bs} (h : Srt ss) (hn : ys.Nodup) (hm : ∀ y, y ∈ ys ↔ y ∈ ss) : SortOk (ys.map Ec.enc) := by
  rcases h with h | h
  · exact ok_rows fun y hy => h y ((hm y).mp hy)
  · refine ok_one ?_
    match ys, hn, hm with
    | [], _, _ => exact Nat.zero_le _
    | [_], _, _ => exact Nat.le_refl _
    | a :: b :: r, hn, hm =>
      have h1 := h a ((hm a).mp List.mem_cons_self)
      have h2 := h b ((hm b).mp (List.mem_cons_of_mem _ List.mem_cons_self))
      obtain ⟨q, _⟩ := List.nodup_cons.mp hn
      exact absurd (by rw [h1, h2]; exact List.mem_cons_self) q
abbrev sphardest (K : PySem.W.Frag) : Sp := spP (fun i : List Bs => [sqP K i]) (fun i => i.length < 4096 ∧ (∀ s ∈ i, s.length < 40000) ∧ Srt i) (fun i _ => isP K (Mo.hardest leB i))
theorem pure_hardest (vs : List V) (H : Hp) (Q : VK) (E : XK) (h : sphardest K vs H Q E) : trhardest K nv av (spis_inside K) { nx := fun _ H' => Q .non H', rt := Q } (L2.start Nhardest vs) H := by
  obtain ⟨ss, h, ⟨hl, hb, hk⟩, q⟩ := h
  obtain ⟨v1, rfl, h1⟩ := all1 h
  have hc : (Mo.canon leB ss).length ≤ 50000 := Nat.le_trans (Mo.canon_len (ordE Bs) ss) (by omega)
  have hm : ∀ s ∈ Mo.canon leB ss, s.length < 40000 := fun s hs => hb s (Mo.mem_canon.mp hs)
  unfold trhardest
  refine sq (ms_asg (ex_canon (ep_var rfl (mono_sq ss) h1) (fun x => ⟨_, rfl⟩) (by decide) hl fun ys hn hy => hk.ok hn hy) fun v H1 e1 p1 => ?_)
  refine ms_ret (ep_tuple (el_lcN (fun s : Bs => !((Mo.canon leB ss).filter fun r => decide (r ≠ s)).any fun r => Mo.isInside r s) (fun s => s) (wk_seq (ep_var rfl (mono_nl _) p1).sqn) hc (fun _ => rfl) (fun s hs w H2 e2 iw => ?_) fun s hs w H2 e2 iw _ => ep_vis rfl iw).sqn) fun v H3 e3 r => q v H3 (e1.trans e3) (by rw [List.map_id'] at r; exact r)
  refine et_not (EvT.at (et_V (ep_any (el_lcN (fun r : Bs => decide (r ≠ s)) (fun r => Mo.isInside r s) (wk_seq (ep_var rfl (mono_nl _) (mono_nl _ _ _ _ e2 p1)).sqn) hc (fun _ => rfl) (fun r hr u H3 e3 iu => ?_) fun r hr u H3 e3 iu _ => ?_))) (any_map _ _))
  · refine EvT.at (et_T (ep_ne (ep_vis rfl iu) (ep_vis rfl (iw.ex e3)))) ?_
    simp
  · exact call_is_inside (hm r hr) (hm s hs) (ea_cons' (ep_vis rfl iu) (mono_is _) (ea_cons' (ep_vis rfl (iw.ex e3)) (mono_is _) ea_nil'))
theorem call_hardest {σ : L2.St} {H : Hp} {ts : TA} {ss : List Bs} (hl : ss.length < 4096) (hb : ∀ s ∈ ss, s.length < 40000) (hk : Srt ss) (h : EvAs ts σ H [sqP K ss]) : EvP (tCall (sphardest K) [] E0 ts) σ H (isP K (Mo.hardest leB ss)) := ep_sp ss ⟨hl, hb, hk⟩ h fun _ _ _ _ r => r
/-! ### behind, parted -/
def Tiny (W : Bs) : Prop := W.length ≤ 20 ∧ ∀ w ∈ W, w.length ≤ 8
theorem Tiny.sm {W : Bs} (h : Tiny W) : Sm 4096 W := ⟨by have := h.1; omega, fun w hw => by have := h.2 w hw; omega⟩
abbrev spbehind (K : PySem.W.Frag) : Sp := spP (fun i : Bs × Wd => [isP K i.1, isP K i.2]) (fun i => Tiny i.1) (fun i _ => isP K (Mo.behind leW i.1 i.2))
theorem pure_behind (vs : List V) (H : Hp) (Q : VK) (E : XK) (h : spbehind K vs H Q E) : trbehind K nv av (spin_order K) { nx := fun _ H' => Q .non H', rt := Q } (L2.start Nbehind vs) H := by
  obtain ⟨⟨b, l⟩, h, hs, q⟩ := h
  obtain ⟨v1, v2, rfl, h1, h2⟩ := all2 h
  replace h1 : Is K H v1 b := h1
  replace h2 : Is K H v2 l := h2
  replace hs : Tiny b := hs
  refine ms_ret (ep_tuple (call_in_order (ws := (b.filter fun w => decide (w.take l.length = l)).map fun w => w.drop l.length) ?_ (ea_cons' (el_lcN (fun w : Wd => decide (w.take l.length = l)) (fun w => w.drop l.length) (wk_seq (ep_vis rfl h1).sq) (by have := hs.1; omega) (fun _ => rfl) (fun x hx v H1 e1 iv => ?_) fun x hx v H1 e1 iv _ => ?_).sqn (mono_sq _) ea_nil')).sqn) fun v H3 e3 r => q v H3 e3 (by exact r)
  · rw [List.length_map]
    exact Nat.lt_of_le_of_lt (List.length_filter_le _ _) (by have := hs.1; omega)
  · exact et_T (ep_eq (ep_upto (ep_vis rfl iv) (ep_len (ep_vis rfl (h2.ex e1)).sq)) (ep_vis rfl (h2.ex e1)))
  · exact ep_from (ep_vis rfl iv) (ep_len (ep_vis rfl (h2.ex e1)).sq)
theorem call_behind {σ : L2.St} {H : Hp} {ts : TA} {b : Bs} {l : Wd} (hb : Tiny b) (h : EvAs ts σ H [isP K b, isP K l]) : EvP (tCall (spbehind K) [] E0 ts) σ H (isP K (Mo.behind leW b l)) := ep_sp (b, l) hb h fun _ _ _ _ r => r
abbrev spparted (K : PySem.W.Frag) : Sp := spP (fun i : Bs × Wd => [isP K i.1, isP K i.2]) (fun i => Tiny i.1) (fun i _ => isP K (Mo.parted leW i.1 i.2))
theorem prefixes_len {W : Bs} (h : Tiny W) : (Mo.prefixes W).length ≤ 180 ∧ ∀ p ∈ Mo.prefixes W, p.length ≤ 8 := by
  refine ⟨?_, fun p hp => ?_⟩
  · have key : ∀ l : Bs, (∀ w ∈ l, w.length ≤ 8) → (Mo.prefixes l).length ≤ l.length * 9 := by
      intro l
      induction l with
      | nil => intro _; exact Nat.zero_le _
      | cons w l ih =>
        intro hw
        have := ih fun x hx => hw x (List.mem_cons_of_mem _ hx)
        have h2 := hw w List.mem_cons_self
        unfold Mo.prefixes at this ⊢
        rw [List.flatMap_cons, List.length_append, List.length_map, List.length_range, List.length_cons]
        omega
    have := key W h.2
    have := h.1
    omega
  · obtain ⟨x, hx⟩ := Mo.mem_prefixes.mp hp
    have := h.2 _ hx
    rw [List.length_append] at this
    omega
theorem pure_parted (vs : List V) (H : Hp) (Q : VK) (E : XK) (h : spparted K vs H Q E) : trparted K nv av (spin_order K) (spthen K) (spbehind K) { nx := fun _ H' => Q .non H', rt := Q } (L2.start Nparted vs) H := by
  obtain ⟨⟨b, l⟩, h, hs, q⟩ := h
  obtain ⟨v1, v2, rfl, h1, h2⟩ := all2 h
  replace h1 : Is K H v1 b := h1
  replace h2 : Is K H v2 l := h2
  replace hs : Tiny b := hs
  obtain ⟨hp1, hp2⟩ := prefixes_len hs
  have ba : (Mo.behind leW b l).length ≤ 20 ∧ ∀ w ∈ Mo.behind leW b l, w.length ≤ 8 := by
    refine ⟨?_, fun w hw => ?_⟩
    · refine Nat.le_trans (Mo.canon_len ordW.toTOrd _) ?_
      rw [List.length_map]
      exact Nat.le_trans (List.length_filter_le _ _) hs.1
    · have := hs.2 _ (Mo.mem_behind.mp hw)
      rw [List.length_append] at this
      omega
  have aa : (Mo.aheadOf leW b l).length ≤ 180 ∧ ∀ w ∈ Mo.aheadOf leW b l, w.length ≤ 8 := by
    refine ⟨?_, fun w hw => ?_⟩
    · refine Nat.le_trans (Mo.canon_len ordW.toTOrd _) ?_
      exact Nat.le_trans (List.length_filter_le _ _) hp1
    · exact hp2 w (List.mem_filter.mp (Mo.mem_canon.mp hw)).1
  unfold trparted
  refine sq (ms_asg (call_behind hs (ea_cons' (ep_vis rfl h1) (mono_is _) (ea_cons' (ep_vis rfl h2) (mono_is _) ea_nil'))) fun v3 H1 e1 i3 => ?_)
  refine sq (ms_asg (EvP.atL (el_lc2 (fun w : Wd => List.range (w.length + 1)) (fun w k => w.take k) (wk_seq (ep_vis rfl (h1.ex e1)).sq) ?_ (fun _ => rfl) (fun _ _ => rfl) (fun x hx v H2 W e2 _ iv => wk_rng1 (ep_add (ep_len (ep_vis rfl iv).sq) (ep_nat (K := K) 1)) (by have := hs.2 x hx; omega)) fun x hx y hy v w H2 e2 iv iw => ep_upto (ep_vis rfl iv) (ep_vis rfl iw)) (show _ = Mo.prefixes b from rfl)) fun v4 H2 e2 i4 => ?_)
  · have : (b.map fun w : Wd => (List.range (w.length + 1)).length).sum = (Mo.prefixes b).length := by
      unfold Mo.prefixes
      rw [List.length_flatMap]
      congr 1
      exact List.map_congr_left fun x _ => by rw [List.length_map]
    rw [this]; omega
  refine sq (ms_asg (ep_tuple (call_in_order (ws := (Mo.prefixes b).filter fun h => decide (Mo.behind leW b h = Mo.behind leW b l)) (Nat.lt_of_le_of_lt (List.length_filter_le _ _) (by omega)) (ea_cons' (EvP.sqn (EvP.atL (el_lcN (fun h : Wd => decide (Mo.behind leW b h = Mo.behind leW b l)) (fun h => h) (wk_seq (ep_var rfl (mono_nl _) i4).sqn) (by omega) (fun _ => rfl) (fun x hx v H3 e3 iv => ?_) fun x hx v H3 e3 iv _ => ep_vis rfl iv) (List.map_id' _))) (mono_sq _) ea_nil')).sqn) fun v5 H3 e3 i5 => ?_)
  · exact et_T (ep_eq (call_behind hs (ea_cons' (ep_vis rfl (h1.ex ((e1.trans e2).trans e3))) (mono_is _) (ea_cons' (ep_vis rfl iv) (mono_is _) ea_nil'))) (ep_vis rfl (Im.ex (e2.trans e3) i3)))
  have et := (e1.trans e2).trans e3
  refine ms_ret (P := isP K (Mo.parted leW b l)) (ep_if (b := decide (Mo.thenB leW (Mo.aheadOf leW b l) (Mo.behind leW b l) = b)) (et_T (ep_eq (call_then ⟨by have := aa.1; omega, fun w hw => by have := aa.2 w hw; omega⟩ ⟨by have := ba.1; omega, fun w hw => by have := ba.2 w hw; omega⟩ ?_ (ea_cons' (ep_vis rfl i5).sq (mono_sq _) (ea_cons' (ep_vis rfl (Im.ex (e2.trans e3) i3)).sq (mono_sq _) ea_nil'))) (ep_vis rfl (h1.ex et)))) (fun hb => ?_) fun hb => ?_) fun v H4 e4 r => q v H4 (et.trans e4) r
  · have h3 : (Mo.aheadOf leW b l).length * (Mo.behind leW b l).length ≤ 180 * 20 := Nat.mul_le_mul aa.1 ba.1
    exact Nat.lt_of_le_of_lt h3 (by decide)
  · have e : Mo.parted leW b l = some (Mo.aheadOf leW b l, Mo.behind leW b l) := if_pos (of_decide_eq_true hb)
    rw [e]
    exact ep_pair (ep_vis rfl i5) (ep_vis rfl (Im.ex (e2.trans e3) i3))
  · have e : Mo.parted leW b l = none := if_neg (of_decide_eq_false hb)
    rw [e]
    exact ep_c fun _ => .non
theorem call_parted {σ : L2.St} {H : Hp} {ts : TA} {b : Bs} {l : Wd} (hb : Tiny b) (h : EvAs ts σ H [isP K b, isP K l]) : EvP (tCall (spparted K) [] E0 ts) σ H (isP K (Mo.parted leW b l)) := ep_sp (b, l) hb h fun _ _ _ _ r => r
end MoD
set_option maxHeartbeats 4000000
/-! dicts whose keys are nested tuples -/
namespace MoR
open PySem PySem.Spec PyProof.Rows L2 PySem.W Evl
inductive RelD : List (NestedKey × Addr × V) → List (NestedKey × Addr × Value) → Prop
  | nil : RelD [] []
  | cons {k : NestedKey} {b : Addr} {v : V} {u : Value} {kvs : List (NestedKey × Addr × V)} {xs : List (NestedKey × Addr × Value)} : RelV v u → RelD kvs xs → RelD ((k, b, v) :: kvs) ((k, b, u) :: xs)
theorem RelD.length : ∀ {kvs : List (NestedKey × Addr × V)} {xs : List (NestedKey × Addr × Value)}, RelD kvs xs → kvs.length = xs.length
  | _, _, .nil => rfl
  | _, _, .cons _ t => by rw [List.length_cons, List.length_cons, t.length]
theorem RelD.snoc {k : NestedKey} {b : Addr} {v : V} {u : Value} (r : RelV v u) : ∀ {kvs : List (NestedKey × Addr × V)} {xs : List (NestedKey × Addr × Value)}, RelD kvs xs → RelD (kvs ++ [(k, b, v)]) (xs ++ [(k, b, u)])
  | _, _, .nil => .cons r .nil
  | _, _, .cons h t => .cons h (RelD.snoc r t)
def DRaw (P : Program) (w : World) (h : Heap) (a : Addr) (kvs : List (NestedKey × Addr × V)) : Prop := (a == sysModules) = false ∧ ∃ o es ep xs, h.get? a = some o ∧ o.ExactDict ∧ o.data = .dict es ep ∧ es.toList = xs.map (entryOfKey (nestedKind P w)) ∧ (xs.map (·.1)).Nodup ∧ RelD kvs xs
def DicO (P : Program) (w : World) (a : Addr) (kvs : List (NestedKey × Addr × V)) : HO := .ext fun h => DRaw P w h a kvs
theorem dicO_new {P : Program} {w : World} {H : Hp} {h : Heap} {a : Addr} {kvs : List (NestedKey × Addr × V)} (R : DRaw P w h a kvs) : ObjOk P w H h a (DicO P w a kvs) := by
  have ⟨_, o, es, ep, xs, ho, r⟩ := R
  refine ⟨R, ⟨o, ho⟩, fun h1 h2 p k => ?_⟩
  obtain ⟨z, o', es', ep', xs', ho', r'⟩ := p
  exact ⟨z, o', es', ep', xs', k o' ho', r'⟩
/-- entries, typed -/
inductive DicAll {α β : Type} [Ec α] [Ec β] (K : PySem.W.Frag) (H : Hp) : List (NestedKey × Addr × V) → List (α × β) → Prop
  | nil : DicAll K H [] []
  | cons {b : Addr} {v : V} {x : α} {y : β} {kvs : List (NestedKey × Addr × V)} {es : List (α × β)} : Is K H (.ref b) x → Is K H v y → DicAll K H kvs es → DicAll K H ((toKey (Ec.enc x), b, v) :: kvs) ((x, y) :: es)
section
variable {α β : Type} [Ec α] [Ec β] {K : PySem.W.Frag} {H H' : Hp}
theorem DicAll.tk (t : Tk K H H') : ∀ {kvs : List (NestedKey × Addr × V)} {es : List (α × β)}, DicAll K H kvs es → DicAll K H' kvs es
  | _, _, .nil => .nil
  | _, _, .cons a b c => .cons (a.tk t) (b.tk t) (DicAll.tk t c)
theorem DicAll.snoc {b : Addr} {v : V} {x : α} {y : β} (h1 : Is K H (.ref b) x) (h2 : Is K H v y) : ∀ {kvs : List (NestedKey × Addr × V)} {es : List (α × β)}, DicAll K H kvs es → DicAll K H (kvs ++ [(toKey (Ec.enc x), b, v)]) (es ++ [(x, y)])
  | _, _, .nil => .cons h1 h2 .nil
  | _, _, .cons a b c => .cons a b (DicAll.snoc h1 h2 c)
theorem DicAll.len : ∀ {kvs : List (NestedKey × Addr × V)} {es : List (α × β)}, DicAll K H kvs es → kvs.length = es.length
  | _, _, .nil => rfl
  | _, _, .cons _ _ c => by rw [List.length_cons, List.length_cons, c.len]
/-- the dict at a has these entries, in this order -/
def DicAt (P : Program) (w : World) (K : PySem.W.Frag) (H : Hp) (a : Addr) (es : List (α × β)) : Prop := ∃ kvs, H a = some (DicO P w a kvs) ∧ DicAll K H kvs es
theorem DicAt.ex {P : Program} {w : World} {a : Addr} {es : List (α × β)} (e : Ex H H') (h : DicAt P w K H a es) : DicAt P w K H' a es := by
  obtain ⟨kvs, h1, h2⟩ := h
  exact ⟨kvs, e _ _ h1, h2.tk (.ex e)⟩
end
section
variable {X : Cx} {pins : List (Addr × Obj)} {σ : L2.St} {H : Hp} {s : Shared} {α β : Type} [En α] [Ec β]
abbrev nk (X : Cx) := nestedKind X.prog X.w
theorem key_is (I : L2.Inv X pins σ H s) {b : Addr} {x : α} (h : Is X.K H (.ref b) x) (hd : En.dp α ≤ 8) : (nk X).is s.heap (toKey (Ec.enc x)) b := by
  obtain ⟨as, r⟩ := Dp.reads I _ _ (.ref b) h.dp rfl
  exact ⟨reads_key _ _ _ (En.imm x) r, Nat.le_trans (key_depth _ (En.imm x)) (Nat.le_trans (En.dpt x) hd)⟩
theorem dic_of (I : L2.Inv X pins σ H s) {a : Addr} {es : List (α × β)} (h : DicAt X.prog X.w X.K H a es) (hd : En.dp α ≤ 8) :
    ∃ kvs xs, H a = some (DicO X.prog X.w a kvs) ∧ DicAll X.K H kvs es ∧ RelD kvs xs ∧ (a == sysModules) = false ∧ s.heap.DictOfH (nk X) a xs := by
  obtain ⟨kvs, h1, h2⟩ := h
  obtain ⟨z, o, ds, ep, xs, ho, hx, hdt, he, hn, hr⟩ := (I.hok a _ h1).1
  refine ⟨kvs, xs, h1, h2, hr, z, o, ds, ep, ho, hx, hdt, he, ?_, hn⟩
  clear h1 he hn
  induction h2 generalizing xs with
  | nil => cases hr; intro x hx; cases hx
  | cons a1 a2 a3 ih =>
    cases hr with
    | cons r t =>
      intro x hx
      rcases List.mem_cons.mp hx with e | hx
      · rw [e]; exact key_is I a1 hd
      · exact ih _ t x hx
theorem at_find [DecidableEq α] (k0 : α) : ∀ {kvs : List (NestedKey × Addr × V)} {xs : List (NestedKey × Addr × Value)} {es : List (α × β)}, DicAll X.K H kvs es → RelD kvs xs →
    ((∀ p, atKey xs (toKey (Ec.enc k0)) = some p → ∃ y v, (es.find? fun e => decide (e.1 = k0)).map (·.2) = some y ∧ RelV v p.2 ∧ Is X.K H v y) ∧ (atKey xs (toKey (Ec.enc k0)) = none → (es.find? fun e => decide (e.1 = k0)) = none))
  | _, _, _, .nil, r => by
    cases r
    exact ⟨fun p h => (nomatch h), fun _ => rfl⟩
  | _, _, _, @DicAll.cons _ _ _ _ _ _ b v x y kvs es a1 a2 a3, r => by
    cases r with
    | @cons _ _ _ u _ xs r t =>
      obtain ⟨i1, i2⟩ := at_find k0 a3 t
      unfold atKey at i1 i2 ⊢
      by_cases e : x = k0
      · subst e
        rw [List.find?_cons, List.find?_cons]
        simp only [decide_true]
        exact ⟨fun p h => by cases h; exact ⟨y, v, rfl, r, a2⟩, fun h => (nomatch h)⟩
      · have e2 : ¬ toKey (Ec.enc x) = toKey (Ec.enc k0) := fun z => e (enc_key z)
        rw [List.find?_cons, List.find?_cons]
        simp only [e, e2, decide_false]
        exact ⟨i1, i2⟩
theorem find_mem [DecidableEq α] {es : List (α × β)} {k0 : α} : (es.find? fun e => decide (e.1 = k0)).isSome = decide (k0 ∈ es.map (·.1)) := by
  induction es with
  | nil => simp
  | cons e es ih =>
    rw [List.find?_cons, List.map_cons]
    by_cases h : e.1 = k0
    · simp [h]
    · have : ¬ k0 = e.1 := fun z => h z.symm
      simp [h, this, ih]
theorem at_some [DecidableEq α] {k0 : α} {kvs : List (NestedKey × Addr × V)} {xs : List (NestedKey × Addr × Value)} {es : List (α × β)} (a : DicAll X.K H kvs es) (r : RelD kvs xs) : (atKey xs (toKey (Ec.enc k0))).isSome = decide (k0 ∈ es.map (·.1)) := by
  obtain ⟨i1, i2⟩ := at_find k0 a r
  rw [← find_mem]
  cases h : atKey xs (toKey (Ec.enc k0)) with
  | none => rw [i2 h]; rfl
  | some p =>
    obtain ⟨y, v, h2, _⟩ := i1 p h
    cases h3 : es.find? fun e => decide (e.1 = k0) with
    | none => rw [h3] at h2; cases h2
    | some q => rfl
/-! ### in, not in -/
def rInDic (P : Program) (w : World) (K : PySem.W.Frag) : R2 := fun x y H Q => ∃ (α β : Type) (_ : En α) (_ : Ec β) (_ : DecidableEq α) (k0 : α) (b a : Addr) (es : List (α × β)), x = .ref b ∧ Is K H (.ref b) k0 ∧ y = .ref a ∧ DicAt P w K H a es ∧ En.dp α ≤ 8 ∧ Q (.bl (decide (k0 ∈ es.map (·.1)))) H
def rNotInDic (P : Program) (w : World) (K : PySem.W.Frag) : R2 := fun x y H Q => ∃ (α β : Type) (_ : En α) (_ : Ec β) (_ : DecidableEq α) (k0 : α) (b a : Addr) (es : List (α × β)), x = .ref b ∧ Is K H (.ref b) k0 ∧ y = .ref a ∧ DicAt P w K H a es ∧ En.dp α ≤ 8 ∧ Q (.bl (!decide (k0 ∈ es.map (·.1)))) H
theorem op_notInDic (hu : X.A.units + 64 < cLine) : OpR X (compareOp .NotIn) (rNotInDic X.prog X.w X.K) := by
  intro pins s σ H x y v u Q I rx ry h
  obtain ⟨α, β, _, _, _, k0, b, a, es, rfl, hk, rfl, hD, hd, q⟩ := h
  cases rx
  cases ry
  obtain ⟨kvs, xs, h1, h2, h3, hz, hm⟩ := dic_of I hD hd
  have e := at_some (X := X) (k0 := k0) h2 h3
  show wpAny _ _ (do return Value.bool (!(← contains (.ref a) (.ref b))) : Sem Value) _ _ s
  refine wpAny_bind (wpAny_contains_heap (knd := nk X) (show X.A.in1.units + 8 < cLine by simp only [Around.in1_units]; omega) (key_is I hk hd) hz hm (wpAny_pure ?_))
  rw [e]
  exact ⟨.bl _, H, I.tok _, rfl, q⟩
/-! ### d[k] -/
def tDicGet (P : Program) (w : World) (K : PySem.W.Frag) (td ty : TE) : TE := fun σ H Q => td σ H fun x H1 => ty σ H1 fun y H2 => ∃ (α β : Type) (_ : En α) (_ : Ec β) (_ : DecidableEq α) (k0 : α) (b a : Addr) (es : List (α × β)), x = .ref a ∧ y = .ref b ∧ Is K H2 (.ref b) k0 ∧ DicAt P w K H2 a es ∧ En.dp α ≤ 8 ∧ k0 ∈ es.map (·.1) ∧
  ∀ v y0, (es.find? fun e => decide (e.1 = k0)).map (·.2) = some y0 → Is K H2 v y0 → Q v H2
theorem pe_dicget {o i : Expr} {pos : Pos} {td ty : TE} (hu : X.A.units + 64 < cLine) (ho : PE X o td) (hi : PE X i ty) (hs : NoSl i) : PE X (.Subscript o i pos) (tDicGet X.prog X.w X.K td ty) := by
  refine ⟨fun pins s σ H Q I h => ?_⟩
  refine subD_of PySem.F.slot_dict_getitem.lookup hs (thn (ho.run pins s σ H _ I h) fun u s1 ⟨x, H1, I1, rx, q1⟩ => thn (hi.run pins s1 σ H1 _ I1 q1) fun iv s2 ⟨y, H2, I2, ry, q⟩ => ?_)
  obtain ⟨α, β, _, _, _, k0, b, a, es, rfl, rfl, hk, hD, hd, hin, q⟩ := q
  obtain rfl : u = Value.ref a := rx
  obtain rfl : iv = Value.ref b := ry
  obtain ⟨kvs, xs, h1, h2, h3, hz, hm⟩ := dic_of I2 hD hd
  refine ⟨hm.typeIs, ?_⟩
  have e := at_some (X := X) (k0 := k0) h2 h3
  rw [decide_eq_true hin] at e
  obtain ⟨p, hp⟩ := Option.isSome_iff_exists.mp e
  obtain ⟨y0, v, g1, g2, g3⟩ := (at_find (X := X) k0 h2 h3).1 p hp
  exact wpAny_getItem_heap (knd := nk X) (show X.A.in1.units + 8 < cLine by simp only [Around.in1_units]; omega) (key_is I2 hk hd) hm hp ⟨v, H2, I2.tok _, g2, q v y0 g1 g3⟩
/-! ### d[k] = v, k new -/
def sDicPut (P : Program) (w : World) (K : PySem.W.Frag) (td ty tv : TE) : TS := fun D σ H => tv σ H fun v H1 => td σ H1 fun x H2 => ty σ H2 fun y H3 => ∃ (α β : Type) (_ : En α) (_ : Ec β) (_ : DecidableEq α) (k0 : α) (y0 : β) (b a : Addr) (es : List (α × β)), x = .ref a ∧ y = .ref b ∧ Is K H3 (.ref b) k0 ∧ Is K H3 v y0 ∧ DicAt P w K H3 a es ∧ En.dp α ≤ 8 ∧
  k0 ∉ es.map (·.1) ∧ es.length < 100000 ∧ ∀ kvs, DicAll K H3 (kvs ++ [(toKey (Ec.enc k0), b, v)]) (es ++ [(k0, y0)]) → H3 a = some (DicO P w a kvs) → D.nx σ (upd H3 a (DicO P w a (kvs ++ [(toKey (Ec.enc k0), b, v)])))
theorem dic_put [DecidableEq α] {E : Value → Shared → Prop} {k0 : α} {y0 : β} {b a : Addr} {v : V} {r : Value} {es : List (α × β)} {kvs : List (NestedKey × Addr × V)} {xs : List (NestedKey × Addr × Value)} {h' : Heap} {tk : Nat} (I : L2.Inv X pins σ H s)
    (h1 : H a = some (DicO X.prog X.w a kvs)) (h2 : DicAll X.K H kvs es) (h3 : RelD kvs xs) (hz : (a == sysModules) = false) (rv : RelV v r) (hin : k0 ∉ es.map (·.1)) (hm' : h'.DictOfH (nk X) a (storedH xs (toKey (Ec.enc k0)) b r)) (hs : Heap.SameBut a s.heap h') :
    L2.Inv X pins σ (upd H a (DicO X.prog X.w a (kvs ++ [(toKey (Ec.enc k0), b, v)]))) { s with heap := h', toks := tk } := by
  have e := at_some (X := X) (k0 := k0) h2 h3
  rw [decide_eq_false hin] at e
  have en : atKey xs (toKey (Ec.enc k0)) = none := by
    cases q : atKey xs (toKey (Ec.enc k0)) with
    | none => rfl
    | some p => rw [q] at e; cases e
  rw [storedH_new en] at hm'
  obtain ⟨o, ds, ep, ho, hx, hdt, he, his, hn⟩ := hm'
  exact I.write (x := a) (e := a) (by rw [h1]; exact True.intro) (.inl rfl) (fun c u hc q => (hs.2 c hc).trans q) ⟨o, ho⟩ (dicO_new ⟨hz, o, ds, ep, _, ho, hx, hdt, he, hn, RelD.snoc rv h3⟩)
theorem ps_dicput {o i value : Expr} {pos' pos : Pos} {td ty tv : TE} (hu : X.A.units + 64 < cLine) (ho : PE X o td) (hi : PE X i ty) (hv : PE X value tv) (hs : swapsWith value (some (.Subscript o i pos')) pos.line X.env = pure false) :
    PS X (.Assign [.Subscript o i pos'] value pos) (sDicPut X.prog X.w X.K td ty tv) := by
  refine ⟨fun pins s σ H D I h => ?_⟩
  refine wpAny_Assign_Subscript (thn (hv.run pins s σ H _ I h) fun r s1 ⟨v, H1, I1, rv, q1⟩ => thn (ho.run pins s1 σ H1 _ I1 q1) fun u s2 ⟨x, H2, I2, rx, q2⟩ => thn (hi.run pins s2 σ H2 _ I2 q2) fun iv s3 ⟨y, H3, I3, ry, q⟩ => ?_) hs
  obtain ⟨α, β, _, _, _, k0, y0, b, a, es, rfl, rfl, hk, hy, hD, hd, hin, hl, q⟩ := q
  obtain rfl : u = Value.ref a := rx
  obtain rfl : iv = Value.ref b := ry
  obtain ⟨kvs, xs, h1, h2, h3, hz, hm⟩ := dic_of I3 hD hd
  have hxl : xs.length ≤ sizeLine := by rw [← h3.length, h2.len]; exact sz_of (by omega)
  refine wpAny_setItem_heap (hsz := hxl) (knd := nk X) (show X.A.in1.units + 8 < cLine by simp only [Around.in1_units]; omega) (key_is I3 hk hd) hm fun h' hm' hsb => ?_
  exact ⟨σ, _, dic_put (E := fun _ _ => True) (y0 := y0) I3 h1 h2 h3 hz rv hin hm' hsb, q kvs (h2.snoc hk hy) h1⟩
/-! ### {}, {k: v} -/
theorem dic_empty {P : Program} {w : World} {H : Hp} (h : Heap) (hb : sysModules < h.objs.size) : ObjOk P w H (h.push { cls := .type "dict", data := .dict #[] }) h.objs.size (DicO P w h.objs.size []) :=
  dicO_new ⟨beq_eq_false_iff_ne.mpr (Ne.symm (Nat.ne_of_lt hb)), _, #[], _, [], Heap.get?_push_size _ rfl, ⟨rfl, rfl, rfl⟩, rfl, rfl, List.nodup_nil, .nil⟩
def tDicNew (P : Program) (w : World) : TE := fun _ H Q => ∀ p, H p = none → Q (.ref p) (upd H p (DicO P w p []))
theorem pe_dicnew {pos : Pos} : PE X (.Dict [] [] pos) (tDicNew X.prog X.w) := ⟨fun pins s σ H Q I h =>
  wpAny_Dict_empty ⟨.ref s.heap.objs.size, _, I.laid (a := s.heap.objs.size) (o := DicO X.prog X.w s.heap.objs.size []) (t' := s.toks) (fun _ _ q => Heap.get?_push_of_some _ q) (Nat.le_refl _) (dic_empty s.heap I.big), rfl, h _ (I.hok.fresh (Nat.le_refl _))⟩⟩
end
end MoR
set_option maxHeartbeats 4000000
/-! dicts with nested keys: sorted, displays, values, update, comprehensions -/
namespace MoR
open PySem PySem.Spec PyProof.Rows L2 PySem.W Evl
theorem each_of {α β : Type} {R : α → β → Prop} : ∀ {vs : List α} {xs : List β}, vs.length = xs.length → (∀ (i : Nat) (v : α) (x : β), vs[i]? = some v → xs[i]? = some x → R v x) → EachIs R vs xs
  | [], [], _, _ => .nil
  | v :: vs, x :: xs, h, k => .cons (k 0 v x rfl rfl) (each_of (by simpa using h) fun i v x a b => k (i + 1) v x (by simpa using a) (by simpa using b))
  | [], _ :: _, h, _ => by simp at h
  | _ :: _, [], h, _ => by simp at h
theorem RelD.get : ∀ {kvs : List (NestedKey × Addr × V)} {xs : List (NestedKey × Addr × Value)} {i : Nat} {k : NestedKey} {b : Addr} {v : V}, RelD kvs xs → kvs[i]? = some (k, b, v) → ∃ u, xs[i]? = some (k, b, u) ∧ RelV v u
  | _, _, _, _, _, _, .nil, h => by simp at h
  | _, _, 0, _, _, _, .cons (u := u) r t, h => by
    simp at h
    obtain ⟨rfl, rfl, rfl⟩ := h
    exact ⟨u, rfl, r⟩
  | _, _, i + 1, _, _, _, .cons r t, h => by
    obtain ⟨u, e, r⟩ := RelD.get t (by simpa using h)
    exact ⟨u, by simpa using e, r⟩
theorem RelD.keys : ∀ {kvs : List (NestedKey × Addr × V)} {xs : List (NestedKey × Addr × Value)}, RelD kvs xs → kvs.map (·.1) = xs.map (·.1)
  | _, _, .nil => rfl
  | _, _, .cons r t => by rw [List.map_cons, List.map_cons, t.keys]
theorem RelD.app : ∀ {kvs lvs : List (NestedKey × Addr × V)} {xs ys : List (NestedKey × Addr × Value)}, RelD kvs xs → RelD lvs ys → RelD (kvs ++ lvs) (xs ++ ys)
  | _, _, _, _, .nil, h => h
  | _, _, _, _, .cons r t, h => .cons r (RelD.app t h)
section
variable {α β : Type} [Ec α] [Ec β] {K : PySem.W.Frag} {H H' : Hp}
theorem DicAll.get : ∀ {kvs : List (NestedKey × Addr × V)} {es : List (α × β)} {i : Nat} {e : α × β}, DicAll K H kvs es → es[i]? = some e → ∃ b v, kvs[i]? = some (toKey (Ec.enc e.1), b, v) ∧ Is K H (.ref b) e.1 ∧ Is K H v e.2
  | _, _, _, _, .nil, h => by simp at h
  | _, _, 0, _, .cons (b := b) (v := v) a1 a2 t, h => by
    simp at h
    subst h
    exact ⟨b, v, rfl, a1, a2⟩
  | _, _, i + 1, _, .cons a1 a2 t, h => by
    obtain ⟨b, v, e, r⟩ := DicAll.get t (by simpa using h)
    exact ⟨b, v, by simpa using e, r⟩
theorem DicAll.keys : ∀ {kvs : List (NestedKey × Addr × V)} {es : List (α × β)}, DicAll K H kvs es → kvs.map (·.1) = es.map fun e => toKey (Ec.enc e.1)
  | _, _, .nil => rfl
  | _, _, .cons _ _ t => by rw [List.map_cons, List.map_cons, t.keys]
theorem DicAll.app : ∀ {kvs lvs : List (NestedKey × Addr × V)} {es fs : List (α × β)}, DicAll K H kvs es → DicAll K H lvs fs → DicAll K H (kvs ++ lvs) (es ++ fs)
  | _, _, _, _, .nil, h => h
  | _, _, _, _, .cons a b t, h => .cons a b (DicAll.app t h)
end
section
variable {X : Cx}
/-! ### sorted(d) -/
def rSrtD (P : Program) (w : World) (K : PySem.W.Frag) : List V → Hp → VK → Prop := fun vs H Q => ∃ (α β : Type) (_ : En α) (_ : Ec β) (a : Addr) (es : List (α × β)), vs = [.ref a] ∧ DicAt P w K H a es ∧ SortOk ((es.map (·.1)).map Ec.enc) ∧ es.length ≤ 100000 ∧ En.dp α ≤ 8 ∧
  ∀ p us', H p = none → IsAll K H us' ((es.map (·.1)).mergeSort (leE α)) → Q (.ref p) (upd H p (.lst us'))
theorem cr_srtD (hc : X.calm = true) (hu : X.A.units + 64 < cLine) : CallR X (.builtin "sorted") (rSrtD X.prog X.w X.K) := by
  intro pins s σ H vs us Q I r h
  obtain ⟨α, β, _, _, a, es, rfl, hD, hk, hl, hd, q⟩ := h
  rw [Vals.ref1 r]
  obtain ⟨kvs, xs, h1, h2, h3, hz, hm⟩ := dic_of I hD hd
  obtain ⟨o, ds, ep, ho, hx, hdt, he, his, hn⟩ := hm
  have hlen : ds.size = es.length := by rw [size_of_entries he, ← h3.length, h2.len]
  refine sorted_by (Rl := Rk X.K H) (fun zs : List α => zs = es.map (·.1)) (fun R hR => ?_) (fun zs g => by subst g; exact ⟨hk, by simpa using hl⟩) (by omega) fun s' p out c zs k g os hp hg gd e => ?_
  · refine kdu_collect (A := X.A.in1) (KdlSrc.rawDict (es := ds) (ep := ep) hz) (I.ok.hd hc) ⟨o, ho, hx, hdt⟩ (by rw [hlen]; exact Nat.le_trans hl (by decide)) fun h' tk acc hk' hacc => ?_
    refine hR _ acc.toList _ hk' rfl rfl (rz_keep hk' (each_of ?_ fun i v x e1 e2 => ?_)) rfl
    · rw [Array.length_toList, hacc.1, hlen, List.length_map]
    · rw [List.getElem?_map] at e2
      obtain ⟨en, e0, rfl⟩ := Option.map_eq_some_iff.mp e2
      obtain ⟨hi, ev⟩ := hacc.2 i v (by rw [← Array.getElem?_toList]; exact e1)
      obtain ⟨b, u, e3, r1, r2⟩ := h2.get e0
      obtain ⟨u', e4, r3⟩ := h3.get e3
      have e5 : ds.toList[i]? = some (entryOfKey (nk X) (toKey (Ec.enc en.1), b, u')) := by rw [he, List.getElem?_map, e4]; rfl
      rw [Array.getElem?_toList, Array.getElem?_eq_getElem hi] at e5
      have e6 : v = .ref b := by rw [ev, Option.some.inj e5]; rfl
      subst e6
      exact ⟨⟨V.ref b, rfl, r1⟩, Dp.reads I _ _ _ r1.dp rfl⟩
  · subst gd
    obtain ⟨vs, hn, iv, J⟩ := new_list I k g os hp hg (by rw [List.length_mergeSort]; simpa using hl) e
    exact ⟨.ref p, _, J, rfl, q p vs hn iv⟩
/-! ### {k: v} -/
def tDic1 (P : Program) (w : World) (K : PySem.W.Frag) (tk tv : TE) : TE := fun σ H Q => ∀ p, H p = none → tk σ (upd H p (DicO P w p [])) fun x H1 => tv σ H1 fun y H2 => ∃ (α β : Type) (_ : En α) (_ : Ec β) (_ : DecidableEq α) (k0 : α) (y0 : β) (b : Addr), x = .ref b ∧ Is K H2 (.ref b) k0 ∧ Is K H2 y y0 ∧ En.dp α ≤ 8 ∧ H2 p = some (DicO P w p []) ∧
  Q (.ref p) (upd H2 p (DicO P w p [(toKey (Ec.enc k0), b, y)]))
theorem pe_dic1 {k v : Expr} {pos : Pos} {tk tv : TE} (hu : X.A.units + 64 < cLine) (hk : PE X k tk) (hv : PE X v tv) : PE X (.Dict [some k] [v] pos) (tDic1 X.prog X.w X.K tk tv) := by
  refine ⟨fun pins s σ H Q I q => ?_⟩
  have hn := I.hok.fresh (Nat.le_refl s.heap.objs.size)
  have I1 := I.laid (a := s.heap.objs.size) (o := DicO X.prog X.w s.heap.objs.size []) (h' := s.heap.push { cls := .type "dict", data := .dict #[] }) (t' := s.toks) (fun _ _ q => Heap.get?_push_of_some _ q) (Nat.le_refl _) (dic_empty s.heap I.big)
  rw [arm_eval_Dict, zip_pairTrees [some k] [v] X.env pos rfl rfl, dictDisplay_pairs (pairTrees [some k] [v] X.env pos) (fun z => by cases z) (show 1 < 17 by decide)]
  refine wpAny_bind (wpAny_standAt (wpAny_bind (wpAny_subDictH (knd := nk X) (show X.A.units + 8 < cLine by omega) (show 1 ≤ 15 by decide) (pairTrees_cons_walk (thn (hk.run pins _ σ _ _ I1 (q _ hn)) fun kv s1 ⟨x, H1, I1, rx, q1⟩ => thn (hv.run pins s1 σ H1 _ I1 q1) fun vv s2 ⟨y, H2, I2, ry, q2⟩ => pairTrees_nil_walk ?_)))))
  obtain ⟨α, β, _, _, _, k0, y0, b, rfl, i1, i2, hd, e, q3⟩ := q2
  obtain rfl : kv = Value.ref b := rx
  obtain ⟨kvs, xs, h1, h2, h3, hz, hm⟩ := dic_of (β := β) (es := ([] : List (α × β))) I2 ⟨_, e, .nil⟩ hd
  cases h2
  cases h3
  refine ⟨[(toKey (Ec.enc k0), b, vv)], ⟨rfl, rfl, key_is I2 i1 hd, True.intro⟩, hm, fun h' tk' hm' hsb => wpAny_pure ⟨.ref s.heap.objs.size, _, ?_, rfl, q3⟩⟩
  exact dic_put (E := fun _ _ => True) (es := ([] : List (α × β))) (y0 := y0) I2 e .nil .nil hz ry (by simp) hm' hsb
/-! ### d.update(d2), no key of d2 in d -/
def IsDic (P : Program) (w : World) (H : Hp) (a : Addr) : Prop := ∃ kvs, H a = some (DicO P w a kvs)
theorem isDic_at {pins : List (Addr × Obj)} {σ : L2.St} {H : Hp} {s : Shared} {a : Addr} (I : L2.Inv X pins σ H s) (d : IsDic X.prog X.w H a) :
    s.TypeIs (.ref a) "dict" ∧ (∀ b, Value.ref a = .ref b → ∃ ob, s.heap.get? b = some ob ∧ ob.dict = none) := by
  obtain ⟨kvs, h1⟩ := d
  obtain ⟨z, o, ds, ep, xs, ho, hx, hdt, he, hn, hr⟩ := (I.hok a _ h1).1
  exact ⟨⟨o, ho, hx.1⟩, fun b e => by cases e; exact ⟨o, ho, hx.2.1⟩⟩
def tDicUpd (P : Program) (w : World) (K : PySem.W.Frag) (td ty : TE) : TE := fun σ H Q => td σ H fun x H1 => ∃ a, x = .ref a ∧ IsDic P w H1 a ∧ ty σ H1 fun y H2 => ∃ (α β : Type) (_ : En α) (_ : Ec β) (_ : DecidableEq α) (b : Addr) (es more : List (α × β)), y = .ref b ∧ a ≠ b ∧ DicAt P w K H2 a es ∧ DicAt P w K H2 b more ∧ En.dp α ≤ 8 ∧ es ≠ [] ∧
  es.length + more.length ≤ 100000 ∧ (∀ e ∈ more, e.1 ∉ es.map (·.1)) ∧ ∀ kvs, DicAll K H2 kvs (es ++ more) → Q .non (upd H2 a (DicO P w a kvs))
theorem pe_dicupd {o e : Expr} {apos cpos : Pos} {td ty : TE} (hu : X.A.units + 64 < cLine) (ho : PE X o td) (he : PE X e ty) (m : M1 X o "update" apos e cpos) : PE X (.Call (.Attribute o "update" apos) [e] [] cpos) (tDicUpd X.prog X.w X.K td ty) := by
  refine ⟨fun pins s σ H Q I h => ?_⟩
  refine wpAny_Call_method m.base m.few m.line PySem.F.plainAttrs_dict PySem.F.slot_dict_update PySem.F.type_dict_update (thn (ho.run pins s σ H _ I h) fun u s1 ⟨x, H1, I1, rx, a, ex, d, q1⟩ => ?_)
  subst ex
  obtain rfl : u = Value.ref a := rx
  obtain ⟨t1, t2⟩ := isDic_at I1 d
  refine ⟨t1, t2, ?_⟩
  rw [m.trees]
  refine Calls.callWith_builtin rfl (Calls.evalArgs_plain (Calls.spliced_cons (thn (he.run pins s1 σ H1 _ I1 q1) fun iv s2 ⟨y, H2, I2, ry, q2⟩ => Calls.spliced_nil ?_)))
  obtain ⟨α, β, _, _, _, b, es, more, rfl, hab, hD, hM, hd, hne, hl, hfr, q2⟩ := q2
  obtain rfl : iv = Value.ref b := ry
  obtain ⟨kvs, xs, h1, h2, h3, hz, hm⟩ := dic_of I2 hD hd
  obtain ⟨lvs, ys, g1, g2, g3, gz, gm⟩ := dic_of I2 hM hd
  have lx : xs.length = es.length := by rw [← h3.length, h2.len]
  have ly : ys.length = more.length := by rw [← g3.length, g2.len]
  have nd : ((xs ++ ys).map (·.1)).Nodup := by
    rw [List.map_append, List.nodup_append]
    refine ⟨hm.nodup, gm.nodup, fun k hk j hj e => ?_⟩
    subst e
    rw [← h3.keys, h2.keys] at hk
    rw [← g3.keys, g2.keys] at hj
    obtain ⟨p, hp, rfl⟩ := List.mem_map.mp hk
    obtain ⟨r, hr, er⟩ := List.mem_map.mp hj
    exact hfr r hr (List.mem_map.mpr ⟨p, hp, (enc_key er).symm⟩)
  refine call_update_dictH (knd := nk X) (show X.A.in1.units + 8 < cLine by simp only [Around.in1_units]; omega) hab gz hm gm (.inl fun z => ?_) (by rw [lx, ly]; exact Nat.le_trans hl (by decide)) fun h' hm' gm' hsb => ?_
  · rw [z] at lx
    exact hne (List.eq_nil_of_length_eq_zero lx.symm)
  · rw [storedAllH_append_of_fresh _ _ nd] at hm'
    obtain ⟨o', ds, ep, ho', hx', hdt', he', his', hn'⟩ := hm'
    refine ⟨.non, _, ?_, rfl, q2 _ (h2.app g2)⟩
    exact I2.write (x := a) (e := a) (t' := s2.toks) (by rw [h1]; exact True.intro) (.inl rfl) (fun c u hc q => (hsb.2 c hc).trans q) ⟨o', ho'⟩ (dicO_new ⟨hz, o', ds, ep, _, ho', hx', hdt', he', hn', RelD.app h3 g3⟩)
/-! ### d.values(), d new: it is locked for good -/
def Itv (P : Program) (w : World) (d : Addr) (o : Obj) (kvs : List (NestedKey × Addr × V)) : It :=
  ⟨fun i H => H d = some (.frz o (DicO P w d kvs)) ∧ i < kvs.length, fun i H x H' => H' = H ∧ ∃ k b, kvs[i]? = some (k, b, x), fun i H => H d = some (.frz o (DicO P w d kvs)) ∧ kvs.length ≤ i⟩
theorem frzN {pins : List (Addr × Obj)} {σ : L2.St} {H : Hp} {s : Shared} {d : Addr} {o : Obj} {kvs : List (NestedKey × Addr × V)} (I : L2.Inv X pins σ H s) (h : H d = some (.frz o (DicO X.prog X.w d kvs))) :
    (d == sysModules) = false ∧ ∃ (es : Array DictEntry) (ep : Nat) (xs : List (NestedKey × Addr × Value)), o.data = .dict es ep ∧ es.size = kvs.length ∧ RelD kvs xs ∧ es.toList = xs.map (entryOfKey (nk X)) ∧ s.heap.DictRaw d es ep ∧ s.heap.get? d = some o ∧ o.ExactDict := by
  obtain ⟨hd, ⟨z, o', es, ep, xs, ho, hx, hdt, he, hn, hr⟩, _⟩ := I.hok d _ h
  rw [hd] at ho
  cases ho
  exact ⟨z, es, ep, xs, hdt, by rw [size_of_entries he, hr.length], hr, he, ⟨o, hd, hx, hdt⟩, hd, hx⟩
theorem turn_valsN {w : World} {K : PySem.W.Frag} {P : Program} {tg : Expr} {d : Addr} {o : Obj} {es : Array DictEntry} {ep : Nat} {kvs : List (NestedKey × Addr × V)} (it : Addr) (hod : o.data = .dict es ep) : Turn P w K tg (Itv P w d o kvs) [it] it (fun i h => h.IsValIter it d i kvs.length ep) where
  mem := by simp
  obj := fun i h st b hb => by
    have e : b = it := by simpa using hb
    subst e
    obtain ⟨oi, e, c, dd⟩ := st
    exact ⟨oi, e, fun v z => by rw [dd] at z; cases z⟩
  keep := fun i h h' st k => st.at fun oi e => k it (by simp) oi e
  item := by
    intro X hP hw hK hc i pins s σ H E I hf st hg
    subst hP hw hK
    obtain ⟨hd, hi⟩ := hg
    obtain ⟨f0, f1, f2, f3, f4, f5⟩ := hf it (by simp)
    obtain ⟨z, es', ep', xs, hdt, hsz, kv, he, hr, _, _⟩ := frzN I hd
    obtain ⟨rfl, rfl⟩ := dict_ep hod hdt
    obtain ⟨⟨k, b, v⟩, hkv⟩ : ∃ p, kvs[i]? = some p := ⟨kvs[i], List.getElem?_eq_getElem hi⟩
    obtain ⟨u, hu, ru⟩ := kv.get hkv
    rw [← hsz] at st
    have hlt : i < es'.size := by rw [hsz]; exact hi
    have ev : es'[i].val = u := by
      have e5 : es'.toList[i]? = some (entryOfKey (nk X) (k, b, u)) := by rw [he, List.getElem?_map, hu]; rfl
      rw [Array.getElem?_toList, Array.getElem?_eq_getElem hlt] at e5
      rw [Option.some.inj e5]
      rfl
    refine wpAny_pyNext_values_item_raw st hr hlt fun h' st' sb => ?_
    rw [ev]
    have I1 : L2.Inv X pins σ H { s with heap := h' } := I.turned (t' := s.toks) (fun b ob hb e => (sb.2 b hb).trans e) f0 f1 f3 f4 f5
    obtain ⟨oi, e, c, dd⟩ := id st'
    refine ⟨u, rfl, go_of (s := { s with heap := h' }) e c dd (by decide) ⟨v, H, I1, ru, ⟨rfl, k, b, hkv⟩, ?_, fun b hb => (hf b hb).1⟩⟩
    show h'.IsValIter it d (i + 1) kvs.length _
    rw [← hsz]
    exact st'
  done := by
    intro X hP hw hK hc i pins s σ H E I hf st hg
    subst hP hw hK
    obtain ⟨hd, hi⟩ := hg
    obtain ⟨f0, f1, f2, f3, f4, f5⟩ := hf it (by simp)
    obtain ⟨z, es', ep', xs, hdt, hsz, kv, he, hr, _, _⟩ := frzN I hd
    obtain ⟨rfl, rfl⟩ := dict_ep hod hdt
    rw [← hsz] at st
    exact wpAny_pyNext_values_end_raw (I.ok.hd hc) st hr (by omega) fun h' eb => ⟨rfl, I.turned (t' := s.toks) (fun b ob hb e => eb b ob hb e) f0 f1 f3 f4 f5⟩
  self := fun A i s Q E st h => wpAny_pyIter_valiter st h
def iVals (P : Program) (w : World) (td : TE) : TI := fun σ H R => td σ H fun x H1 => ∃ d kvs, x = .ref d ∧ H1 d = some (DicO P w d kvs) ∧ ∀ od, R (Itv P w d od kvs) (upd H1 d (.frz od (DicO P w d kvs)))
theorem pi_vals {tg e : Expr} {td : TE} {apos cpos : Pos} (he : PE X e td) (hbase : attributeBase e "values" X.env (eval e X.env) = eval e X.env := by rfl) (hline : (apos.endLine == cpos.line) = true := by rfl) : PI X tg (.Call (.Attribute e "values" apos) [] [] cpos) (iVals X.prog X.w td) := by
  refine ⟨fun pins s σ H R I h => ?_⟩
  refine wpAny_Call_method (T := "dict") (id := "dict.values") hbase rfl hline F.plainAttrs_dict F.slot_dict_values F.type_dict_values (thn (he.run pins s σ H _ I h) fun u s1 ⟨x, H1, I1, rx, d, kvs, ex, hd, q⟩ => ?_)
  subst ex
  obtain rfl : u = Value.ref d := rx
  obtain ⟨t1, t2⟩ := isDic_at I1 ⟨kvs, hd⟩
  refine ⟨t1, t2, ?_⟩
  obtain ⟨od, J⟩ := I1.lock hd True.intro
  obtain ⟨z, es, ep, xs, hdt, hsz, kv, hee, hr, _, _⟩ := frzN J upd_same
  have J2 : L2.Inv X pins σ _ { s1 with heap := s1.heap.push { cls := .type "dict_values", data := .fields #[.ref d] } } := J.kept (t' := s1.toks) fun b ob q => Heap.get?_push_of_some _ q
  have fin : wpAny (model X.prog X.w) X.A (pyIter (.ref s1.heap.objs.size)) (PIE X pins σ tg R) X.xe { s1 with heap := s1.heap.push { cls := .type "dict_values", data := .fields #[.ref d] } } := by
    refine wpAny_pyIter_values_raw (d := d) ⟨_, Heap.get?_push_size _ rfl, rfl, rfl⟩ (hr.push _) (pi_one (tk := s1.toks) J2 _ (turn_valsN _ hdt) ⟨_, Heap.get?_push_size _ rfl, rfl, ?_⟩ (q od))
    rw [hsz] <;> rfl
  show wpAny _ _ (callWith cpos (.builtin "dict.values") [.ref d] [] []) _ X.xe s1
  exact method_meetsIn F.slot_dict_values F.entry_dict_values rfl (PySem.evalArgs_none ⟨rfl, t1, F.args_dict_values_1 _, _, meets_dict_values_raw d z, ⟨es, ep, hr⟩, fin⟩)
end
end MoR
set_option maxHeartbeats 4000000
/-! {k: v for target in iter}, keys nested tuples, each new -/
namespace MoR
open PySem PySem.Spec PyProof.Rows L2 PySem.W Evl
section
variable {X : Cx}
/-- the pair is put into the dict at D: its key is new -/
def DPut (P : Program) (w : World) (K : PySem.W.Frag) (D : Addr) (y z : V) (H : Hp) (Nx : Hp → Prop) : Prop := ∃ (α β : Type) (_ : En α) (_ : Ec β) (_ : DecidableEq α) (k0 : α) (y0 : β) (b : Addr) (es : List (α × β)), y = .ref b ∧ Is K H (.ref b) k0 ∧ Is K H z y0 ∧ DicAt P w K H D es ∧ En.dp α ≤ 8 ∧
  k0 ∉ es.map (·.1) ∧ es.length < 100000 ∧ ∀ kvs, DicAll K H (kvs ++ [(toKey (Ec.enc k0), b, z)]) (es ++ [(k0, y0)]) → H D = some (DicO P w D kvs) → Nx (upd H D (DicO P w D (kvs ++ [(toKey (Ec.enc k0), b, z)])))
theorem dn_set {pins : List (Addr × Obj)} {σ : L2.St} {H : Hp} {s : Shared} {E : Value → Shared → Prop} {D : Addr} {y z : V} {u r : Value} {Nx : Hp → Prop} {Q : Unit → Shared → Prop} (hu : X.A.units + 64 < cLine) (I : L2.Inv X pins σ H s)
    (ry : RelV y u) (rv : RelV z r) (nx : DPut X.prog X.w X.K D y z H Nx) (h : ∀ s' H', L2.Inv X pins σ H' s' → Nx H' → Q () s') : wpAny (model X.prog X.w) X.A (dictSet D u r) Q E s := by
  obtain ⟨α, β, _, _, _, k0, y0, b, es, rfl, hk, hy, hD, hd, hin, hl, q⟩ := nx
  obtain rfl : u = Value.ref b := ry
  obtain ⟨kvs, xs, h1, h2, h3, hz, hm⟩ := dic_of I hD hd
  have hxl : xs.length ≤ sizeLine := by rw [← h3.length, h2.len]; exact sz_of (by omega)
  refine wpAny_dictSet_heap (hsz := hxl) (knd := nk X) (show X.A.units + 8 < cLine by omega) (key_is I hk hd) hm fun h' hm' hsb => ?_
  exact h _ _ (dic_put (E := fun _ _ => True) (y0 := y0) I h1 h2 h3 hz rv hin hm' hsb) (q kvs (h2.snoc hk hy) h1)
theorem Is.ref {K : PySem.W.Frag} {H : Hp} {α : Type} [Ec α] {v : V} {x : α} (hT : ∃ ds, Ec.enc x = .tuple ds) (h : Is K H v x) : ∃ b, v = .ref b := by
  obtain ⟨ds, e⟩ := hT
  unfold Is at h
  rw [e] at h
  cases h with
  | tup h1 h2 => exact ⟨_, rfl⟩
def tDcN (P : Program) (w : World) (K : PySem.W.Frag) (wi : TI) (g : TG) (tt : TT) (tk tv : TE) (vs : List Nat) : TE := fun σ H Q => wi σ H fun J H1 => ∀ D, H1 D = none → ∃ W : Nat → Nat → Hp → Prop, (∃ m, W 0 m (upd H1 D (DicO P w D []))) ∧ ∀ i m H, W i m H →
  (J.stop i H ∧ Q (.ref D) H) ∨ (J.go i H ∧ ∃ Nx : Hp → Prop, (∀ H', Nx H' → ∃ m', m' < m ∧ W (i + 1) m' H') ∧ ∀ x H', J.yld i H x H' → g x (wipe σ vs) H' fun σ2 H2 => wipe σ2 vs = wipe σ vs ∧ tt σ2 H2 fun b H3 =>
    if b = true then tk σ2 H3 fun y H4 => tv σ2 H4 fun z H5 => DPut P w K D y z H5 Nx else Nx H3)
theorem dn_core {pins : List (Addr × Obj)} {s : Shared} {σ : L2.St} {H : Hp} {Q : VK} {kx vx tg iter : Expr} {ifs : List Expr} {scope : Scope} {own : List (Str × Nat)} {pos pos' : Pos} {wi : TI} {g : TG} {tt : TT} {tk tv : TE} {use : Option (Value → Sem Unit)} {Qf : Value → Shared → Prop}
    (hc : X.calm = true) (hu : X.A.units + 64 < cLine) (hN : X.N.Nodup) (I : L2.Inv X pins σ H s) (hi : PI X tg iter wi) (ok : BlkOk X.N X.env.scope scope own)
    (hg : ∀ (s : Shared) (H : Hp) (C : Addr) (cl : List (Str × Addr)) (fp : List Addr), PG (X.blk s H scope (compEnvC scope cl C X.env) fp) tg g) (ht : ∀ (s : Shared) (H : Hp) (C : Addr) (cl : List (Str × Addr)) (fp : List Addr), PTs (X.blk s H scope (compEnvC scope cl C X.env) fp) ifs tt)
    (hk : ∀ (s : Shared) (H : Hp) (C : Addr) (cl : List (Str × Addr)) (fp : List Addr), PE (X.blk s H scope (compEnvC scope cl C X.env) fp) kx tk)
    (he : ∀ (s : Shared) (H : Hp) (C : Addr) (cl : List (Str × Addr)) (fp : List Addr), PE (X.blk s H scope (compEnvC scope cl C X.env) fp) vx tv) (hs : ∀ x, foldedSetIterable iter X.env x = pure x)
    (h : tDcN X.prog X.w X.K wi g tt tk tv (own.map (·.2)) σ H Q)
    (hRR : ∀ D C s' m H', L2.Inv X pins σ H' s' → Q (.ref D) H' → s'.heap.Ns C m → FpOk X pins H' C → compPost (model X.prog X.w) X.A X.xe use Qf (.ref D) C (.ok .next) s') :
    wpAny (model X.prog X.w) X.A (comprehension (.DictComp kx vx [⟨tg, iter, ifs, 0⟩] scope pos) scope X.env pos' newDict false (eval iter X.env) use) Qf X.xe s := by
  have hfree : ∀ y ∈ scope.names, y.2 = .free → ∃ c, X.env.cells.lookup y.1 = some c := fun y hy e => by
    rcases ok.free y hy e with k | k
    · exact I.ok.has _ (.inl k)
    · exact I.ok.has _ (.inr k)
  refine wpAny_comprehension_free (use := use) rfl hs (closure_ok hfree) ok.kind (fun y hy e => by rw [ok.uniq y hy, e])
    (thn (hi.run pins s σ H _ I h) fun xv s1 hx => thn hx fun itv s2 h2 => ?_)
  obtain ⟨it, fp, tn, J, H2, e, I2, T, st2, f2, q⟩ := h2
  subst e
  refine wpAny_newObj_type (newEnv_comp ?_)
  generalize hD : s2.heap.objs.size = D
  have hDn : H2 D = none := I2.hok.fresh (Nat.le_of_eq hD)
  obtain ⟨W, ⟨m0, w0⟩, turn⟩ := q D hDn
  -- the new list
  generalize hs3 : ({ s2 with heap := s2.heap.push { cls := .type "dict", data := .dict #[] } } : Shared) = s3
  have I3 : L2.Inv X pins σ (upd H2 D (DicO X.prog X.w D [])) s3 := by
    rw [← hs3]
    refine I2.laid (t' := s2.toks) (fun b o e => Heap.get?_push_of_some _ e) (Nat.le_of_eq hD) ?_
    rw [← hD]
    exact dic_empty s2.heap I2.big
  have h3 : s3.heap = s2.heap.push { cls := .type "dict", data := .dict #[] } := by rw [← hs3]
  have sz : ∀ b ∈ fp, b < s2.heap.objs.size := fun b hb => by
    obtain ⟨o, e, _⟩ := T.obj _ _ st2 b hb
    exact Heap.lt_size e
  have f3 : ∀ b ∈ fp, FpOk X pins (upd H2 D (DicO X.prog X.w D [])) b ∧ b < s3.heap.objs.size := fun b hb => by
    have hlt := sz b hb
    refine ⟨⟨?_, (f2 b hb).2⟩, by rw [h3, Heap.size_push]; exact Nat.lt_succ_of_lt hlt⟩
    rw [upd_ne (by rw [← hD]; exact Nat.ne_of_lt hlt)]
    exact (f2 b hb).1
  have st3 : tn 0 s3.heap := T.keep _ _ _ st2 fun b _ o e => by rw [h3]; exact Heap.get?_push_of_some _ e
  have I4 := block_start I3 ok hN f3
  have pg := hg s3 (upd H2 D (DicO X.prog X.w D [])) s3.heap.objs.size (cellsFrom (s3.heap.objs.size + 1) scope.names (cloFrom X.env.cells scope.names [])) fp
  have pt := ht s3 (upd H2 D (DicO X.prog X.w D [])) s3.heap.objs.size (cellsFrom (s3.heap.objs.size + 1) scope.names (cloFrom X.env.cells scope.names [])) fp
  have pk := hk s3 (upd H2 D (DicO X.prog X.w D [])) s3.heap.objs.size (cellsFrom (s3.heap.objs.size + 1) scope.names (cloFrom X.env.cells scope.names [])) fp
  have pe := he s3 (upd H2 D (DicO X.prog X.w D [])) s3.heap.objs.size (cellsFrom (s3.heap.objs.size + 1) scope.names (cloFrom X.env.cells scope.names [])) fp
  show codeAny _ _ (.compStart (.DictComp kx vx [⟨tg, iter, ifs, 0⟩] scope pos) 0 (.ref it) (.ref D) (compEnvC scope (cellsFrom (s3.heap.objs.size + 1) scope.names (cloFrom X.env.cells scope.names [])) s3.heap.objs.size X.env)) (compPost (model X.prog X.w) X.A X.xe use Qf (.ref D) s3.heap.objs.size) { s3 with heap := pushCells (s3.heap.push { cls := .type "dict", data := .dict #[] }) scope.names }
  have nfp : ∀ b ∈ fp, (upd H2 D (DicO X.prog X.w D [])) b = none := fun b hb => (f3 b hb).1.1
  generalize hce : compEnvC scope (cellsFrom (s3.heap.objs.size + 1) scope.names (cloFrom X.env.cells scope.names [])) s3.heap.objs.size X.env = ce at I4 pg pt pk pe ⊢
  have cL : ce.locals = s3.heap.objs.size := by subst hce; rfl
  generalize hH3 : upd H2 D (DicO X.prog X.w D []) = H3 at I3 I4 pg pt pk pe w0 nfp f3
  generalize hs4 : ({ s3 with heap := pushCells (s3.heap.push { cls := .type "dict", data := .dict #[] }) scope.names } : Shared) = s4 at I4 ⊢
  have st4 : tn 0 s4.heap := T.keep _ _ _ st3 fun b _ o e => by rw [← hs4]; exact pushCells_keeps _ _ _ _ (Heap.get?_push_of_some _ e)
  have stat : ∀ {σ' : L2.St} {H' : Hp} {s' : Shared}, L2.Inv (X.blk s3 H3 scope ce fp) [] σ' H' s' → (∀ b ∈ fp, H' b = none) → ∀ b ∈ fp, FpOk (X.blk s3 H3 scope ce fp) [] H' b := fun {σ' H' s'} I' hn b hb =>
    ⟨hn b hb, (I'.ok.exf b hb).1, I'.ok.exfs b hb, .inl hb, fun x c e => (I'.ok.exf b hb).2 x c e, fun p hp => absurd (show p ∈ ([] : List (Addr × Obj)) ++ [] from hp) (by simp)⟩
  have loop : codeAny (model X.prog X.w) X.A (.compLoop (.DictComp kx vx [⟨tg, iter, ifs, 0⟩] scope pos) 0 (.ref it) (.ref D) ce) (compPost (model X.prog X.w) X.A X.xe use Qf (.ref D) s3.heap.objs.size) s4 := by
    refine compLoop_anyD (fun n s' => ∃ i H', L2.Inv (X.blk s3 H3 scope ce fp) [] (wipe σ (own.map (·.2))) H' s' ∧ tn i s'.heap ∧ (∀ b ∈ fp, H' b = none) ∧ W i n H') ?_ m0 ⟨0, H3, I4, st4, nfp, w0⟩
    rintro n s5 ⟨i, H5, I5, st5, n5, w5⟩
    rcases turn i n H5 w5 with ⟨stop, qq⟩ | ⟨go, Nx, hNx, step⟩
    · have td := T.done (X.blk s3 H3 scope ce fp) rfl rfl rfl hc i [] s5 _ H5 (fun _ _ => False) I5 (stat I5 n5) st5 stop
      refine thnF td fun r s6 ⟨hr, I6⟩ => ?_
      subst hr
      -- back in the def's context
      have I7 : L2.Inv X pins σ H5 s6 := I3.call' (ch := fp) I6.os I6.base I6.hok I6.bare fun b hb => ⟨(f3 b hb).1.2.2.2.1, (f3 b hb).1.2.1, (f3 b hb).1.2.2.2.2.1, (f3 b hb).1.2.2.2.2.2⟩
      have nC : H5 s3.heap.objs.size = none := by
        have z : H5 ce.locals = none := I6.free
        rw [cL] at z
        exact z
      obtain ⟨m, hn, _⟩ := I6.loc
      have hn : s6.heap.Ns ce.locals m := hn
      rw [cL] at hn
      exact hRR D s3.heap.objs.size s6 m H5 I7 qq hn (I3.fpOk (Nat.le_refl _) nC)
    · have ti := T.item (X.blk s3 H3 scope ce fp) rfl rfl rfl hc i [] s5 _ H5 (fun _ _ => False) I5 (stat I5 n5) st5 go
      refine thnF ti fun r s6 ⟨u, hr, h6⟩ => ?_
      subst hr
      refine thnF h6 fun _ s7 ⟨x, H7, I7, r7, y7, st7, n7⟩ => ?_
      have I7' := I7.pinned (stat I7 n7) (T.obj _ _ st7)
      refine thnF (pg.run _ s7 _ H7 x u _ I7' r7 (step x H7 y7)) fun _ s8 ⟨σ8, H8, I8, hw8, q8⟩ => ?_
      refine thnF (pt.run _ s8 σ8 H8 _ I8 q8) fun b s9 ⟨H9, I9, q9⟩ => ?_
      -- the turn's end
      have fin : ∀ {s' : Shared} {H' : Hp}, L2.Inv (X.blk s3 H3 scope ce fp) ([] ++ pinsAt fp s7.heap) σ8 H' s' → Nx H' → ∃ m, m < n ∧ ∃ i H', L2.Inv (X.blk s3 H3 scope ce fp) [] (wipe σ (own.map (·.2))) H' s' ∧ tn i s'.heap ∧ (∀ b ∈ fp, H' b = none) ∧ W i m H' := fun {s' H'} I' nx => by
        obtain ⟨m', hm, w'⟩ := hNx H' nx
        have pin' : ∀ b ∈ fp, ∀ o, s7.heap.get? b = some o → s'.heap.get? b = some o ∧ H' b = none := fun b hb o e =>
          let z := I'.pin (b, o) (List.mem_append_right _ (List.mem_append_right _ (mem_pinsAt hb e)))
          ⟨z.1, z.2.1⟩
        have hl : (wipe σ (own.map (·.2))).length = σ8.length := by rw [← hw8, wipe_length]
        refine ⟨m', hm, i + 1, H', (I'.unpinned (pins := [])).weak hl (fun j v e => ?_), T.keep _ _ _ st7 fun b hb o e => (pin' b hb o e).1, fun b hb => ?_, w'⟩
        · rw [← hw8] at e
          exact (wipe_some e).1
        · obtain ⟨o, e, _⟩ := T.obj _ _ st7 b hb
          exact (pin' b hb o e).2
      cases b with
      | false =>
        simp only [Bool.false_eq_true, if_false] at q9 ⊢
        exact fin I9 q9
      | true =>
        simp only [if_true] at q9 ⊢
        refine thnF (pk.run _ s9 σ8 H9 _ I9 q9) fun z s10 ⟨yk, H10, I10, r10, q10⟩ => ?_
        refine thnF (pe.run _ s10 σ8 H10 _ I10 q10) fun z2 s11 ⟨yv, H11, I11, r11, nx⟩ => ?_
        exact dn_set (X := X.blk s3 H3 scope ce fp) hu I11 r10 r11 nx fun s12 H12 I12 nx => fin I12 nx
  exact codeAny_compStart_dict loop (T.self X.A 0 _ _ _ st4 loop)
/-- as a value -/
theorem pe_dcN {kx vx tg iter : Expr} {ifs : List Expr} {scope : Scope} {own : List (Str × Nat)} {pos : Pos} {wi : TI} {g : TG} {tt : TT} {tk tv : TE} (hc : X.calm = true) (hu : X.A.units + 64 < cLine) (hN : X.N.Nodup) (hi : PI X tg iter wi) (ok : BlkOk X.N X.env.scope scope own)
    (hg : ∀ (s : Shared) (H : Hp) (C : Addr) (cl : List (Str × Addr)) (fp : List Addr), PG (X.blk s H scope (compEnvC scope cl C X.env) fp) tg g) (ht : ∀ (s : Shared) (H : Hp) (C : Addr) (cl : List (Str × Addr)) (fp : List Addr), PTs (X.blk s H scope (compEnvC scope cl C X.env) fp) ifs tt)
    (hk : ∀ (s : Shared) (H : Hp) (C : Addr) (cl : List (Str × Addr)) (fp : List Addr), PE (X.blk s H scope (compEnvC scope cl C X.env) fp) kx tk)
    (he : ∀ (s : Shared) (H : Hp) (C : Addr) (cl : List (Str × Addr)) (fp : List Addr), PE (X.blk s H scope (compEnvC scope cl C X.env) fp) vx tv) (hs : ∀ x, foldedSetIterable iter X.env x = pure x := by intro _; rfl) :
    PE X (.DictComp kx vx [⟨tg, iter, ifs, 0⟩] scope pos) (tDcN X.prog X.w X.K wi g tt tk tv (own.map (·.2))) := by
  refine ⟨fun pins s σ H Q I h => ?_⟩
  rw [arm_eval_DictComp]
  refine dn_core hc hu hN I hi ok hg ht hk he hs h fun D C s' m H' I' q hn f => ⟨m, hn, fun h'' sb => ?_⟩
  obtain ⟨f0, f1, f2, f3, f4, f5⟩ := f
  exact ⟨.ref D, H', I'.turned (t' := s'.toks) (fun b o hb e => (sb.2 b hb).trans e) f0 f1 f3 f4 f5, rfl, q⟩

/-- {te: tv for x in xs}, the keys all new -/
theorem el_dc {P : Program} {w : World} {K : PySem.W.Frag} {σ : L2.St} {H : Hp} {α β γ : Type} [Ec γ] [En α] [Ec β] [DecidableEq α] {xs : List γ} {wi : TI} {te tv : TE} {vs : List Nat} {j : Nat} (gg : γ → α) (fv : γ → β) (h : Wk K wi σ H [] xs) (hz : xs.length ≤ 50000) (hn : (xs.map gg).Nodup) (hd : En.dp α ≤ 8) (hT : ∀ x : α, ∃ ds, Ec.enc x = .tuple ds)
    (hw : ∀ x, wipe ((wipe σ vs).set j (some x)) vs = wipe σ vs)
    (he : ∀ x ∈ xs, ∀ v H1, Ex H H1 → Is K H1 v x → EvP te ((wipe σ vs).set j (some v)) H1 (isP K (gg x)))
    (hv : ∀ x ∈ xs, ∀ v H1, Ex H H1 → Is K H1 v x → EvP tv ((wipe σ vs).set j (some v)) H1 (isP K (fv x))) :
    EvP (tDcN P w K wi (gName j) tYes te tv vs) σ H (fun v H' => ∃ D, v = .ref D ∧ H D = none ∧ DicAt P w K H' D (xs.map fun x => (gg x, fv x))) := fun H0 e Q q =>
  h H0 e _ fun J H1 e1 hJ => fun Dl hD => by
    have hD0 : H Dl = none := fresh_back (e.trans e1) hD
    refine ⟨fun i m H' => m = xs.length - i ∧ i ≤ xs.length ∧ Ex H1 H' ∧ DicAt P w K H' Dl ((xs.take i).map fun x => (gg x, fv x)), ⟨xs.length, by simp, Nat.zero_le _, Ex.new hD, [], upd_same, .nil⟩, ?_⟩
    rintro i m H' ⟨rfl, hi, c1, c2⟩
    obtain ⟨jg, js⟩ := hJ H' (.of c1)
    by_cases hlt : i < xs.length
    · have hx : xs[i]? = some xs[i] := List.getElem?_eq_getElem hlt
      have hm : xs[i] ∈ xs := List.getElem_mem hlt
      have hin : gg xs[i] ∉ (xs.take i).map gg := by
        intro z
        rw [← List.take_append_drop i xs, List.map_append, List.nodup_append] at hn
        refine hn.2.2 _ z (gg xs[i]) (List.mem_map.mpr ⟨_, ?_, rfl⟩) rfl
        rw [List.drop_eq_getElem_cons hlt]
        exact List.mem_cons_self
      generalize xs[i] = x at hx hm hin
      obtain ⟨j1, j2⟩ := jg i x hx
      refine .inr ⟨j1, fun H'' => Ex H1 H'' ∧ DicAt P w K H'' Dl ((xs.take (i + 1)).map fun x => (gg x, fv x)), fun H'' c => ⟨xs.length - (i + 1), by omega, rfl, hlt, c⟩, fun v H'' y => ?_⟩
      obtain ⟨e2, iv⟩ := j2 v H'' y
      have eb : Ex H H'' := ((e.trans e1).trans c1).trans e2
      refine ⟨hw _, ?_⟩
      show te ((wipe σ vs).set j (some v)) H'' _
      refine he x hm v H'' eb iv H'' (Ex.refl _) _ fun u H4 e4 iu => ?_
      refine hv x hm v H'' eb iv H4 e4 _ fun r H5 e5 ir => ?_
      have ea : Ex H' H5 := (e2.trans e4).trans e5
      obtain ⟨b, rfl⟩ := Is.ref (hT _) iu
      refine ⟨α, β, inferInstance, inferInstance, inferInstance, gg x, fv x, b, _, rfl, Im.ex e5 iu, ir, c2.ex ea, hd, by rw [List.map_map]; exact hin, by rw [List.length_map, List.length_take]; omega, fun kvs hk hD2 => ⟨?_, ?_⟩⟩
      · exact Ex.mut (c1.trans ea) hD
      · rw [take_one hx, List.map_append]
        exact ⟨_, upd_same, hk.tk (.ext hD2)⟩
    · have hii : i = xs.length := by omega
      subst hii
      rw [List.take_length] at c2
      exact .inl ⟨js, q _ H' (e1.trans c1) ⟨Dl, rfl, hD0, c2⟩⟩
end
end MoR
set_option maxHeartbeats 8000000
/-! the defs of the text: slots, readings, derivations; printed by emit.py -/
namespace MoD
open PySem PySem.Spec PyProof.Rows L2 MoR
abbrev Nleast_into : List Str := ["states", "ends", "known", "rows", "name", "later", "state", "end", "log"]
theorem scleast_into : FnScope Nleast_into ["states", "ends", "known"] (defScope sleast_into) := ⟨rfl, rfl, rfl, by decide +kernel, rfl, by decide +kernel, by decide +kernel⟩
def trleast_into (P : Program) (w : World) (K : PySem.W.Frag) (nv av : Addr) (spbase_of spdoes spstep spfirst_names sphardest spleast_into : Sp) : TS :=
  tSeq (tIfS (tB (tCB (rAll K) (tCons (tLc2 (iSeq K (tVar 0)) (gName 6) tYes (iSeq K (tVar 1)) (gName 7) tYes (tCall spdoes [] E0 (tCons (tVar 6) (tCons (tVar 7) (tNil)))) [6, 7] [7]) (tNil)))) (tRet (tC (.ref av))) (tNext)) (tSeq (tIfS (tTest (tOp (rNotInDic P w K) (tVar 0) (tVar 2))) (tSeq (tAsg (tLst tNil) (gName 3)) (tSeq (tFor (iSeq K (tSSt K (tLc2 (iSeq K (tVar 0)) (gName 6) tYes (iSeq K (tCall spfirst_names [] E0 (tCons (tVar 6) (tNil)))) (gName 4) tYes (tVar 4) [6, 4] [4]))) (gName 4) (tSeq (tAsg (tCall sphardest [] E0 (tCons (tLc (iSeq K (tVar 0)) (gName 6) tYes (tCall spstep [] E0 (tCons (tVar 6) (tCons (tVar 4) (tNil)))) [6]) (tNil))) (gName 5)) (tIfS (tTest (tOp (rNeG K) (tVar 5) (tVar 0))) (tDrop (tBM K "list" rExtend (tVar 3) (tCons (tLc (iSeq K (tCall spleast_into [] E0 (tCons (tVar 5) (tCons (tVar 1) (tCons (tVar 2) (tNil)))))) (gName 8) tYes (tTup (tCons (tVar 4) (StX.tStar K (tVar 8) (tNil)))) [8]) (tNil)))) (tNext)))) (sDicPut P w K (tVar 2) (tVar 0) (tCall spbase_of [] E0 (tCons (tVar 3) (tNil)))))) (tNext)) (tRet (tDicGet P w K (tVar 2) (tVar 0))))
theorem okleast_into {P : Program} {w : World} {K : PySem.W.Frag} {mg : Str → Option Value} {base : Heap} {nv av ev : Addr} {k : Nat} {f : Addr} {fd : FuncData} {spbase_of spdoes spstep spfirst_names sphardest spleast_into : Sp} (F : FnP K "least_into" sleast_into f fd) (T : Txt K mg nv av ev) (Cbase_of : Cal P w K mg base "base_of" k ["logs"] spbase_of) (Cdoes : Cal P w K mg base "does" k ["base", "log"] spdoes) (Cstep : Cal P w K mg base "step" k ["state", "name"] spstep) (Cfirst_names : Cal P w K mg base "first_names" k ["state"] spfirst_names) (Chardest : Cal P w K mg base "hardest" k ["states"] sphardest) (Cleast_into : Cal P w K mg base "least_into" k ["states", "ends", "known"] spleast_into)
    {sp : Sp} (len : ∀ vs H Q E, sp vs H Q E → vs.length = 3) (pure : ∀ vs H Q E, sp vs H Q E → trleast_into P w K nv av spbase_of spdoes spstep spfirst_names sphardest spleast_into { nx := fun _ H' => Q .non H', rt := Q } (start Nleast_into vs) H) : FnOk P w K mg base CX0 (k + 1) f fd ["states", "ends", "known"] sp := by
  refine F.ok scleast_into len (fun cdv A outer s H vs Q E hr h => ⟨trleast_into P w K nv av spbase_of spdoes spstep spfirst_names sphardest spleast_into, PSs.nox ?_, pure vs H Q E h⟩)
  have nd := scleast_into.nd
  exact pss_cons (ps_if (pt_val (pe_callB (cr_all rfl) rfl T.b_all (by decide +kernel) (pa_cons (pe_lc2 (own := [("state", 6), ("end", 7)]) (vs1 := [7]) (g := gName 6) (g1 := gName 7) rfl nd (pi_seq (pv 0)) (blkOk_by (own := [("state", 6), ("end", 7)]) (N := Nleast_into) (sc := defScope sleast_into) (by decide +kernel)) (by decide) (fun _ _ _ _ _ => pg_name (i := 6) nd rfl (by first | exact Or.inl rfl | exact Or.inr rfl)) (fun _ _ _ _ _ => pts_nil) (fun _ _ _ _ _ => pi_seq (pv 1)) (fun _ _ _ _ _ => pg_name (i := 7) nd rfl (by first | exact Or.inl rfl | exact Or.inr rfl)) (fun _ _ _ _ _ => pts_nil) (fun _ _ _ _ _ => pe_cal Cdoes hr (Nat.le_refl _) rfl (pa_cons (pv 6) (pa_cons (pv 7) (pa_nil))))) (pa_nil)))) (pss_one (ps_ret (pe_glob rfl T.always rfl))) (pss_nil)) (pss_cons (ps_if (pt_cmpR (op_notInDic hr.units) (pv 0) (pv 2) rfl) (pss_cons (ps_set (i := 3) nd rfl (by first | exact Or.inl rfl | exact Or.inr rfl) (pe_lst (pa_nil))) (pss_cons (ps_for PassesOwn.never rfl (pi_seq (pe_sst rfl hr.units rfl T.b_sorted rfl T.b_set (pe_lc2 (own := [("state", 6), ("name", 4)]) (vs1 := [4]) (g := gName 6) (g1 := gName 4) rfl nd (pi_seq (pv 0)) (blkOk_by (own := [("state", 6), ("name", 4)]) (N := Nleast_into) (sc := defScope sleast_into) (by decide +kernel)) (by decide) (fun _ _ _ _ _ => pg_name (i := 6) nd rfl (by first | exact Or.inl rfl | exact Or.inr rfl)) (fun _ _ _ _ _ => pts_nil) (fun _ _ _ _ _ => pi_seq (pe_cal Cfirst_names hr (Nat.le_refl _) rfl (pa_cons (pv 6) (pa_nil)))) (fun _ _ _ _ _ => pg_name (i := 4) nd rfl (by first | exact Or.inl rfl | exact Or.inr rfl)) (fun _ _ _ _ _ => pts_nil) (fun _ _ _ _ _ => pv 4)))) (pg_name (i := 4) nd rfl (by first | exact Or.inl rfl | exact Or.inr rfl)) (pss_cons (ps_set (i := 5) nd rfl (by first | exact Or.inl rfl | exact Or.inr rfl) (pe_cal Chardest hr (Nat.le_refl _) rfl (pa_cons (pe_lc (own := [("state", 6)]) (g := gName 6) rfl nd (pi_seq (pv 0)) (blkOk_by (own := [("state", 6)]) (N := Nleast_into) (sc := defScope sleast_into) (by decide +kernel)) (fun _ _ _ _ _ => pg_name (i := 6) nd rfl (by first | exact Or.inl rfl | exact Or.inr rfl)) (fun _ _ _ _ _ => pts_nil) (fun _ _ _ _ _ => pe_cal Cstep hr (Nat.le_refl _) rfl (pa_cons (pv 6) (pa_cons (pv 4) (pa_nil))))) (pa_nil)))) (pss_one (ps_if (pt_cmpR (op_neG hr.units) (pv 5) (pv 0) (nomark _)) (pss_one (ps_expr (pe_bm PySem.F.plainAttrs_list PySem.F.slot_list_extend PySem.F.type_list_extend mt_extend (pv 3) (pa_cons (pe_lc (own := [("log", 8)]) (g := gName 8) rfl nd (pi_seq (pe_cal Cleast_into hr (Nat.le_refl _) rfl (pa_cons (pv 5) (pa_cons (pv 1) (pa_cons (pv 2) (pa_nil)))))) (blkOk_by (own := [("log", 8)]) (N := Nleast_into) (sc := defScope sleast_into) (by decide +kernel)) (fun _ _ _ _ _ => pg_name (i := 8) nd rfl (by first | exact Or.inl rfl | exact Or.inr rfl)) (fun _ _ _ _ _ => pts_nil) (fun _ _ _ _ _ => pe_tup (pa_cons (pv 4) (StX.pa_star (pv 8) (pa_nil))))) (pa_nil))))) (pss_nil))))) (pss_one (ps_dicput hr.units (pv 2) (pv 0) (pe_cal Cbase_of hr (Nat.le_refl _) rfl (pa_cons (pv 3) (pa_nil))) rfl)))) (pss_nil)) (pss_one (ps_ret (pe_dicget hr.units (pv 2) (pv 0) (fun _ _ => rfl)))))
theorem bnleast_into {K : PySem.W.Frag} {f : Addr} {fd : FuncData} (F : FnP K "least_into" sleast_into f fd) : Binds K fd ["states", "ends", "known"] [] := F.bindsN fun _ _ _ _ _ _ us hl => match us, hl with | [_, _, _], _ => rfl
abbrev Namid : List Str := ["base", "one", "other", "word"]
theorem scamid : FnScope Namid ["base", "one", "other"] (defScope samid) := ⟨rfl, rfl, rfl, by decide +kernel, rfl, by decide +kernel, by decide +kernel⟩
def tramid (P : Program) (w : World) (K : PySem.W.Frag) (nv av : Addr) (sptupled spstanding sphardest spleast_into : Sp) : TS :=
  tRet (tCall spleast_into [] E0 (tCons (tCall sphardest [] E0 (tCons (tLc (iSeq K (tCall sptupled [] E0 (tCons (tVar 1) (tNil)))) (gName 3) tYes (tCall spstanding [] E0 (tCons (tVar 0) (tCons (tVar 3) (tNil)))) [3]) (tNil))) (tCons (tCall sptupled [] E0 (tCons (tVar 2) (tNil))) (tCons (tDicNew P w) (tNil)))))
theorem okamid {P : Program} {w : World} {K : PySem.W.Frag} {mg : Str → Option Value} {base : Heap} {nv av ev : Addr} {k : Nat} {f : Addr} {fd : FuncData} {sptupled spstanding sphardest spleast_into : Sp} (F : FnP K "amid" samid f fd) (T : Txt K mg nv av ev) (Ctupled : Cal P w K mg base "tupled" k ["value"] sptupled) (Cstanding : Cal P w K mg base "standing" k ["base", "log"] spstanding) (Chardest : Cal P w K mg base "hardest" k ["states"] sphardest) (Cleast_into : Cal P w K mg base "least_into" k ["states", "ends", "known"] spleast_into)
    {sp : Sp} (len : ∀ vs H Q E, sp vs H Q E → vs.length = 3) (pure : ∀ vs H Q E, sp vs H Q E → tramid P w K nv av sptupled spstanding sphardest spleast_into { nx := fun _ H' => Q .non H', rt := Q } (start Namid vs) H) : FnOk P w K mg base CX0 (k + 1) f fd ["base", "one", "other"] sp := by
  refine F.ok scamid len (fun cdv A outer s H vs Q E hr h => ⟨tramid P w K nv av sptupled spstanding sphardest spleast_into, PSs.nox ?_, pure vs H Q E h⟩)
  have nd := scamid.nd
  exact pss_one (ps_ret (pe_cal Cleast_into hr (Nat.le_refl _) rfl (pa_cons (pe_cal Chardest hr (Nat.le_refl _) rfl (pa_cons (pe_lc (own := [("word", 3)]) (g := gName 3) rfl nd (pi_seq (pe_cal Ctupled hr (Nat.le_refl _) rfl (pa_cons (pv 1) (pa_nil)))) (blkOk_by (own := [("word", 3)]) (N := Namid) (sc := defScope samid) (by decide +kernel)) (fun _ _ _ _ _ => pg_name (i := 3) nd rfl (by first | exact Or.inl rfl | exact Or.inr rfl)) (fun _ _ _ _ _ => pts_nil) (fun _ _ _ _ _ => pe_cal Cstanding hr (Nat.le_refl _) rfl (pa_cons (pv 0) (pa_cons (pv 3) (pa_nil))))) (pa_nil))) (pa_cons (pe_cal Ctupled hr (Nat.le_refl _) rfl (pa_cons (pv 2) (pa_nil))) (pa_cons (pe_dicnew) (pa_nil))))))
theorem bnamid {K : PySem.W.Frag} {f : Addr} {fd : FuncData} (F : FnP K "amid" samid f fd) : Binds K fd ["base", "one", "other"] [] := F.bindsN fun _ _ _ _ _ _ us hl => match us, hl with | [_, _, _], _ => rfl
abbrev Nlogs_to : List Str := ["base", "found", "fresh", "later", "state", "name"]
theorem sclogs_to : FnScope Nlogs_to ["base"] (defScope slogs_to) := ⟨rfl, rfl, rfl, by decide +kernel, rfl, by decide +kernel, by decide +kernel⟩
def trlogs_to (P : Program) (w : World) (K : PySem.W.Frag) (nv av : Addr) (spstep spfirst_names : Sp) : TS :=
  tSeq (tPar 1 2 (tCons (tDic1 P w K (tVar 0) (tTup tNil)) (tCons (tLst (tCons (tVar 0) (tNil))) (tNil)))) (tSeq (tWhile (tTest (tOp rGt' (tCB (rLen' K) (tCons (tVar 2) (tNil))) (tC (.int 0)))) (tSeq (tAsg (tLst tNil) (gName 3)) (tSeq (tFor (iSeq K (tVar 2)) (gName 4) (tFor (iSeq K (tCall spfirst_names [] E0 (tCons (tVar 4) (tNil)))) (gName 5) (tIfS (tTest (tOp (rNotInDic P w K) (tCall spstep [] E0 (tCons (tVar 4) (tCons (tVar 5) (tNil)))) (tVar 1))) (tSeq (sDicPut P w K (tVar 1) (tCall spstep [] E0 (tCons (tVar 4) (tCons (tVar 5) (tNil)))) (tTup (StX.tStar K (tDicGet P w K (tVar 1) (tVar 4)) (tCons (tVar 5) (tNil))))) (tDrop (tBM K "list" rAppend (tVar 3) (tCons (tCall spstep [] E0 (tCons (tVar 4) (tCons (tVar 5) (tNil)))) (tNil))))) (tNext)))) (tAsg (tVar 3) (gName 2))))) (tRet (tVar 1)))
theorem oklogs_to {P : Program} {w : World} {K : PySem.W.Frag} {mg : Str → Option Value} {base : Heap} {nv av ev : Addr} {k : Nat} {f : Addr} {fd : FuncData} {spstep spfirst_names : Sp} (F : FnP K "logs_to" slogs_to f fd) (T : Txt K mg nv av ev) (Cstep : Cal P w K mg base "step" k ["state", "name"] spstep) (Cfirst_names : Cal P w K mg base "first_names" k ["state"] spfirst_names)
    {sp : Sp} (len : ∀ vs H Q E, sp vs H Q E → vs.length = 1) (pure : ∀ vs H Q E, sp vs H Q E → trlogs_to P w K nv av spstep spfirst_names { nx := fun _ H' => Q .non H', rt := Q } (start Nlogs_to vs) H) : FnOk P w K mg base CX0 (k + 1) f fd ["base"] sp := by
  refine F.ok sclogs_to len (fun cdv A outer s H vs Q E hr h => ⟨trlogs_to P w K nv av spstep spfirst_names, PSs.nox ?_, pure vs H Q E h⟩)
  have nd := sclogs_to.nd
  exact pss_cons (ps_par (i := 1) (j := 2) rfl nd rfl rfl (by decide) rfl rfl (pa_cons (pe_dic1 hr.units (pv 0) (pe_tup (pa_nil))) (pa_cons (pe_lst (pa_cons (pv 0) (pa_nil))) (pa_nil))) rfl) (pss_cons (ps_while PassesOwn.never (pt_cmpR op_gt (pe_callB call_len rfl T.b_len (by decide +kernel) (pa_cons (pv 2) (pa_nil))) (pe_int) (nomark _)) (pss_cons (ps_set (i := 3) nd rfl (by first | exact Or.inl rfl | exact Or.inr rfl) (pe_lst (pa_nil))) (pss_cons (ps_for PassesOwn.never rfl (pi_seq (pv 2)) (pg_name (i := 4) nd rfl (by first | exact Or.inl rfl | exact Or.inr rfl)) (pss_one (ps_for PassesOwn.never rfl (pi_seq (pe_cal Cfirst_names hr (Nat.le_refl _) rfl (pa_cons (pv 4) (pa_nil)))) (pg_name (i := 5) nd rfl (by first | exact Or.inl rfl | exact Or.inr rfl)) (pss_one (ps_if (pt_cmpR (op_notInDic hr.units) (pe_cal Cstep hr (Nat.le_refl _) rfl (pa_cons (pv 4) (pa_cons (pv 5) (pa_nil)))) (pv 1) rfl) (pss_cons (ps_dicput hr.units (pv 1) (pe_cal Cstep hr (Nat.le_refl _) rfl (pa_cons (pv 4) (pa_cons (pv 5) (pa_nil)))) (pe_tup (StX.pa_star (pe_dicget hr.units (pv 1) (pv 4) (fun _ _ => rfl)) (pa_cons (pv 5) (pa_nil)))) rfl) (pss_one (ps_expr (pe_bm PySem.F.plainAttrs_list PySem.F.slot_list_append PySem.F.type_list_append mt_append (pv 3) (pa_cons (pe_cal Cstep hr (Nat.le_refl _) rfl (pa_cons (pv 4) (pa_cons (pv 5) (pa_nil)))) (pa_nil)))))) (pss_nil)))))) (pss_one (ps_set (i := 2) nd rfl (by first | exact Or.inl rfl | exact Or.inr rfl) (pv 3)))))) (pss_one (ps_ret (pv 1))))
theorem bnlogs_to {K : PySem.W.Frag} {f : Addr} {fd : FuncData} (F : FnP K "logs_to" slogs_to f fd) : Binds K fd ["base"] [] := F.bindsN fun _ _ _ _ _ _ us hl => match us, hl with | [_], _ => rfl
abbrev Nends_of : List Str := ["base", "log", "word"]
theorem scends_of : FnScope Nends_of ["base"] (defScope sends_of) := ⟨rfl, rfl, rfl, by decide +kernel, rfl, by decide +kernel, by decide +kernel⟩
def trends_of (P : Program) (w : World) (K : PySem.W.Frag) (nv av : Addr) (spbase_of splogs_to : Sp) : TS :=
  tRet (tLc (iVals P w (tCall splogs_to [] E0 (tCons (tCall spbase_of [] E0 (tCons (tLc (iSeq K (tVar 0)) (gName 2) tYes (tRevT K (tVar 2)) [2]) (tNil))) (tNil)))) (gName 1) tYes (tRevT K (tVar 1)) [1])
theorem okends_of {P : Program} {w : World} {K : PySem.W.Frag} {mg : Str → Option Value} {base : Heap} {nv av ev : Addr} {k : Nat} {f : Addr} {fd : FuncData} {spbase_of splogs_to : Sp} (F : FnP K "ends_of" sends_of f fd) (T : Txt K mg nv av ev) (Cbase_of : Cal P w K mg base "base_of" k ["logs"] spbase_of) (Clogs_to : Cal P w K mg base "logs_to" k ["base"] splogs_to)
    {sp : Sp} (len : ∀ vs H Q E, sp vs H Q E → vs.length = 1) (pure : ∀ vs H Q E, sp vs H Q E → trends_of P w K nv av spbase_of splogs_to { nx := fun _ H' => Q .non H', rt := Q } (start Nends_of vs) H) : FnOk P w K mg base CX0 (k + 1) f fd ["base"] sp := by
  refine F.ok scends_of len (fun cdv A outer s H vs Q E hr h => ⟨trends_of P w K nv av spbase_of splogs_to, PSs.nox ?_, pure vs H Q E h⟩)
  have nd := scends_of.nd
  exact pss_one (ps_ret (pe_lc (own := [("log", 1)]) (g := gName 1) rfl nd (pi_vals (pe_cal Clogs_to hr (Nat.le_refl _) rfl (pa_cons (pe_cal Cbase_of hr (Nat.le_refl _) rfl (pa_cons (pe_lc (own := [("word", 2)]) (g := gName 2) rfl nd (pi_seq (pv 0)) (blkOk_by (own := [("word", 2)]) (N := Nends_of) (sc := defScope sends_of) (by decide +kernel)) (fun _ _ _ _ _ => pg_name (i := 2) nd rfl (by first | exact Or.inl rfl | exact Or.inr rfl)) (fun _ _ _ _ _ => pts_nil) (fun _ _ _ _ _ => pe_revT (pv 2))) (pa_nil))) (pa_nil)))) (blkOk_by (own := [("log", 1)]) (N := Nends_of) (sc := defScope sends_of) (by decide +kernel)) (fun _ _ _ _ _ => pg_name (i := 1) nd rfl (by first | exact Or.inl rfl | exact Or.inr rfl)) (fun _ _ _ _ _ => pts_nil) (fun _ _ _ _ _ => pe_revT (pv 1))))
theorem bnends_of {K : PySem.W.Frag} {f : Addr} {fd : FuncData} (F : FnP K "ends_of" sends_of f fd) : Binds K fd ["base"] [] := F.bindsN fun _ _ _ _ _ _ us hl => match us, hl with | [_], _ => rfl
abbrev Ncommon_parts_of : List Str := ["columns", "whole", "known", "fresh", "rows", "row", "column", "state"]
theorem sccommon_parts_of : FnScope Ncommon_parts_of ["columns", "whole"] (defScope scommon_parts_of) := ⟨rfl, rfl, rfl, by decide +kernel, rfl, by decide +kernel, by decide +kernel⟩
def trcommon_parts_of (P : Program) (w : World) (K : PySem.W.Frag) (nv av : Addr) : TS :=
  tSeq (tAsg (tTup (tCons (tDic1 P w K (tVar 1) (tC (.bl true))) (tCons (tLst (tCons (tVar 1) (tNil))) (tNil)))) (g2 K 2 3)) (tSeq (tWhile (tTest (tOp rGt' (tCB (rLen' K) (tCons (tVar 3) (tNil))) (tC (.int 0)))) (tSeq (tAsg (tLc2 (iSeq K (tVar 3)) (gName 5) tYes (iSeq K (tVar 0)) (gName 6) tYes (tCB (rTupOf K) (tCons (tLc (iSeq K (tVar 5)) (gName 7) (tTest (tOp (rInG K) (tVar 7) (tVar 6))) (tVar 7) [7]) (tNil))) [5, 6] [6]) (gName 4)) (tSeq (tAsg (tSS K (tLc (iSeq K (tVar 4)) (gName 5) (tTest (tOp (rNotInDic P w K) (tVar 5) (tVar 2))) (tVar 5) [5])) (gName 3)) (tDrop (tDicUpd P w K (tVar 2) (tDcN P w K (iSeq K (tVar 3)) (gName 5) tYes (tVar 5) (tC (.bl true)) [5])))))) (tRet (tCB (rSrtD P w K) (tCons (tVar 2) (tNil)))))
theorem okcommon_parts_of {P : Program} {w : World} {K : PySem.W.Frag} {mg : Str → Option Value} {base : Heap} {nv av ev : Addr} {k : Nat} {f : Addr} {fd : FuncData} (F : FnP K "common_parts_of" scommon_parts_of f fd) (T : Txt K mg nv av ev)
    {sp : Sp} (len : ∀ vs H Q E, sp vs H Q E → vs.length = 2) (pure : ∀ vs H Q E, sp vs H Q E → trcommon_parts_of P w K nv av  { nx := fun _ H' => Q .non H', rt := Q } (start Ncommon_parts_of vs) H) : FnOk P w K mg base CX0 (k + 1) f fd ["columns", "whole"] sp := by
  refine F.ok sccommon_parts_of len (fun cdv A outer s H vs Q E hr h => ⟨trcommon_parts_of P w K nv av , PSs.nox ?_, pure vs H Q E h⟩)
  have nd := sccommon_parts_of.nd
  exact pss_cons (ps_asg (pe_tup (pa_cons (pe_dic1 hr.units (pv 1) (pe_bl)) (pa_cons (pe_lst (pa_cons (pv 1) (pa_nil))) (pa_nil)))) (pg_tup rfl (pgs_cons (pg_name (i := 2) nd rfl (by first | exact Or.inl rfl | exact Or.inr rfl)) (pgs_cons (pg_name (i := 3) nd rfl (by first | exact Or.inl rfl | exact Or.inr rfl)) (pgs_nil))))) (pss_cons (ps_while PassesOwn.never (pt_cmpR op_gt (pe_callB call_len rfl T.b_len (by decide +kernel) (pa_cons (pv 3) (pa_nil))) (pe_int) (nomark _)) (pss_cons (ps_setLc2 (i := 4) (own := [("row", 5), ("column", 6)]) (vs1 := [6]) (g := gName 5) (g1 := gName 6) rfl nd rfl rfl (sw_true rfl rfl rfl (by decide +kernel)) (pi_seq (pv 3)) (blkOk_by (own := [("row", 5), ("column", 6)]) (N := Ncommon_parts_of) (sc := defScope scommon_parts_of) (by decide +kernel)) (by decide) (fun _ _ _ _ _ => pg_name (i := 5) nd rfl (by first | exact Or.inl rfl | exact Or.inr rfl)) (fun _ _ _ _ _ => pts_nil) (fun _ _ _ _ _ => pi_seq (pv 0)) (fun _ _ _ _ _ => pg_name (i := 6) nd rfl (by first | exact Or.inl rfl | exact Or.inr rfl)) (fun _ _ _ _ _ => pts_nil) (fun _ _ _ _ _ => pe_callTy call_tuple_of rfl T.b_tuple (by decide +kernel) (pa_cons (pe_lc (own := [("state", 7)]) (g := gName 7) rfl nd (pi_seq (pv 5)) (blkOk_by (own := [("state", 7)]) (by kernel_rfl)) (fun _ _ _ _ _ => pg_name (i := 7) nd rfl (by first | exact Or.inl rfl | exact Or.inr rfl)) (fun _ _ _ _ _ => pts_one (pt_cmpR (op_inG hr.units) (pv 7) (pv 6) rfl)) (fun _ _ _ _ _ => pv 7)) (pa_nil)))) (pss_cons (ps_set (i := 3) nd rfl (by first | exact Or.inl rfl | exact Or.inr rfl) (pe_ss rfl hr.units rfl T.b_sorted rfl T.b_set (pe_lc (own := [("row", 5)]) (g := gName 5) rfl nd (pi_seq (pv 4)) (blkOk_by (own := [("row", 5)]) (N := Ncommon_parts_of) (sc := defScope scommon_parts_of) (by decide +kernel)) (fun _ _ _ _ _ => pg_name (i := 5) nd rfl (by first | exact Or.inl rfl | exact Or.inr rfl)) (fun _ _ _ _ _ => pts_one (pt_cmpR (op_notInDic hr.units) (pv 5) (pv 2) rfl)) (fun _ _ _ _ _ => pv 5)))) (pss_one (ps_expr (pe_dicupd hr.units (pv 2) (pe_dcN (own := [("row", 5)]) (g := gName 5) rfl hr.units nd (pi_seq (pv 3)) (blkOk_by (own := [("row", 5)]) (N := Ncommon_parts_of) (sc := defScope scommon_parts_of) (by decide +kernel)) (fun _ _ _ _ _ => pg_name (i := 5) nd rfl (by first | exact Or.inl rfl | exact Or.inr rfl)) (fun _ _ _ _ _ => pts_nil) (fun _ _ _ _ _ => pv 5) (fun _ _ _ _ _ => pe_bl)) ⟨rfl, rfl, rfl, rfl⟩)))))) (pss_one (ps_ret (pe_callB (cr_srtD rfl hr.units) rfl T.b_sorted (by decide +kernel) (pa_cons (pv 2) (pa_nil))))))
theorem bncommon_parts_of {K : PySem.W.Frag} {f : Addr} {fd : FuncData} (F : FnP K "common_parts_of" scommon_parts_of f fd) : Binds K fd ["columns", "whole"] [] := F.bindsN fun _ _ _ _ _ _ us hl => match us, hl with | [_, _], _ => rfl
abbrev Npairs : List Str := ["base", "own", "found", "states", "ends", "columns", "row", "fitting", "one", "end", "column", "state"]
theorem scpairs : FnScope Npairs ["base"] (defScope spairs) := ⟨rfl, rfl, rfl, by decide +kernel, rfl, by decide +kernel, by decide +kernel⟩
def trpairs (P : Program) (w : World) (K : PySem.W.Frag) (nv av : Addr) (sptupled spdoes splead sprest_of splogs_to spends_of spcommon_parts_of : Sp) : TS :=
  tSeq (tPar 1 2 (tCons (tCall sptupled [] E0 (tCons (tVar 0) (tNil))) (tCons (tLst tNil) (tNil)))) (tSeq (tAsg (tTup (tCons (tCB (rTupOf K) (tCons (tCB (rSrtD P w K) (tCons (tCall splogs_to [] E0 (tCons (tVar 1) (tNil))) (tNil))) (tNil))) (tCons (tCall spends_of [] E0 (tCons (tVar 1) (tNil))) (tNil)))) (g2 K 3 4)) (tSeq (tAsg (tLc (iSeq K (tVar 4)) (gName 9) tYes (tCB (rTupOf K) (tCons (tLc (iSeq K (tVar 3)) (gName 11) (tB (tCall spdoes [] E0 (tCons (tVar 11) (tCons (tVar 9) (tNil))))) (tVar 11) [11]) (tNil))) [9]) (gName 5)) (tSeq (tFor (iSeq K (tCall spcommon_parts_of [] E0 (tCons (tVar 5) (tCons (tVar 3) (tNil))))) (gName 6) (tSeq (tAsg (tLc (RZ.iZipA K (tCons (tVar 4) (tCons (tVar 5) (tNil)))) (g2 K 9 10) (tB (tCB (rAll K) (tCons (tLc (iSeq K (tVar 6)) (gName 11) tYes (tOp (rInG K) (tVar 11) (tVar 10)) [11]) (tNil)))) (tVar 9) [9, 10]) (gName 7)) (tSeq (tAsg (tCall splead [] E0 (tCons (tVar 1) (tCons (tVar 7) (tNil)))) (gName 8)) (tDrop (tBM K "list" rAppend (tVar 2) (tCons (tTup (tCons (tVar 8) (tCons (tCall sprest_of [] E0 (tCons (tVar 1) (tCons (tVar 8) (tNil)))) (tNil)))) (tNil))))))) (tRet (tCB (rSrt K) (tCons (tVar 2) (tNil)))))))
theorem okpairs {P : Program} {w : World} {K : PySem.W.Frag} {mg : Str → Option Value} {base : Heap} {nv av ev : Addr} {k : Nat} {f : Addr} {fd : FuncData} {sptupled spdoes splead sprest_of splogs_to spends_of spcommon_parts_of : Sp} (F : FnP K "pairs" spairs f fd) (T : Txt K mg nv av ev) (Ctupled : Cal P w K mg base "tupled" k ["value"] sptupled) (Cdoes : Cal P w K mg base "does" k ["base", "log"] spdoes) (Clead : Cal P w K mg base "lead" k ["base", "other"] splead) (Crest_of : Cal P w K mg base "rest_of" k ["base", "other"] sprest_of) (Clogs_to : Cal P w K mg base "logs_to" k ["base"] splogs_to) (Cends_of : Cal P w K mg base "ends_of" k ["base"] spends_of) (Ccommon_parts_of : Cal P w K mg base "common_parts_of" k ["columns", "whole"] spcommon_parts_of)
    {sp : Sp} (len : ∀ vs H Q E, sp vs H Q E → vs.length = 1) (pure : ∀ vs H Q E, sp vs H Q E → trpairs P w K nv av sptupled spdoes splead sprest_of splogs_to spends_of spcommon_parts_of { nx := fun _ H' => Q .non H', rt := Q } (start Npairs vs) H) : FnOk P w K mg base CX0 (k + 1) f fd ["base"] sp := by
  refine F.ok scpairs len (fun cdv A outer s H vs Q E hr h => ⟨trpairs P w K nv av sptupled spdoes splead sprest_of splogs_to spends_of spcommon_parts_of, PSs.nox ?_, pure vs H Q E h⟩)
  have nd := scpairs.nd
  exact pss_cons (ps_par (i := 1) (j := 2) rfl nd rfl rfl (by decide) rfl rfl (pa_cons (pe_cal Ctupled hr (Nat.le_refl _) rfl (pa_cons (pv 0) (pa_nil))) (pa_cons (pe_lst (pa_nil)) (pa_nil))) rfl) (pss_cons (ps_asg (pe_tup (pa_cons (pe_callTy call_tuple_of rfl T.b_tuple (by decide +kernel) (pa_cons (pe_callB (cr_srtD rfl hr.units) rfl T.b_sorted (by decide +kernel) (pa_cons (pe_cal Clogs_to hr (Nat.le_refl _) rfl (pa_cons (pv 1) (pa_nil))) (pa_nil))) (pa_nil))) (pa_cons (pe_cal Cends_of hr (Nat.le_refl _) rfl (pa_cons (pv 1) (pa_nil))) (pa_nil)))) (pg_tup rfl (pgs_cons (pg_name (i := 3) nd rfl (by first | exact Or.inl rfl | exact Or.inr rfl)) (pgs_cons (pg_name (i := 4) nd rfl (by first | exact Or.inl rfl | exact Or.inr rfl)) (pgs_nil))))) (pss_cons (ps_setLc (i := 5) (own := [("end", 9)]) (g := gName 9) rfl nd rfl rfl (sw_true rfl rfl rfl (by decide +kernel)) (pi_seq (pv 4)) (blkOk_by (own := [("end", 9)]) (N := Npairs) (sc := defScope spairs) (by decide +kernel)) (fun _ _ _ _ _ => pg_name (i := 9) nd rfl (by first | exact Or.inl rfl | exact Or.inr rfl)) (fun _ _ _ _ _ => pts_nil) (fun _ _ _ _ _ => pe_callTy call_tuple_of rfl T.b_tuple (by decide +kernel) (pa_cons (pe_lc (own := [("state", 11)]) (g := gName 11) rfl nd (pi_seq (pv 3)) (blkOk_by (own := [("state", 11)]) (by kernel_rfl)) (fun _ _ _ _ _ => pg_name (i := 11) nd rfl (by first | exact Or.inl rfl | exact Or.inr rfl)) (fun _ _ _ _ _ => pts_one (pt_val (pe_cal Cdoes hr (Nat.le_refl _) rfl (pa_cons (pv 11) (pa_cons (pv 9) (pa_nil)))))) (fun _ _ _ _ _ => pv 11)) (pa_nil)))) (pss_cons (ps_for PassesOwn.never rfl (pi_seq (pe_cal Ccommon_parts_of hr (Nat.le_refl _) rfl (pa_cons (pv 5) (pa_cons (pv 3) (pa_nil))))) (pg_name (i := 6) nd rfl (by first | exact Or.inl rfl | exact Or.inr rfl)) (pss_cons (ps_setLc (i := 7) (own := [("end", 9), ("column", 10)]) (g := g2 K 9 10) rfl nd rfl rfl (sw_true rfl rfl rfl (by decide +kernel)) (RZ.pi_zipA rfl T.b_zip (pa_cons (pv 4) (pa_cons (pv 5) (pa_nil)))) (blkOk_by (own := [("end", 9), ("column", 10)]) (N := Npairs) (sc := defScope spairs) (by decide +kernel)) (fun _ _ _ _ _ => pg_tup rfl (pgs_cons (pg_name (i := 9) nd rfl (by first | exact Or.inl rfl | exact Or.inr rfl)) (pgs_cons (pg_name (i := 10) nd rfl (by first | exact Or.inl rfl | exact Or.inr rfl)) (pgs_nil)))) (fun _ _ _ _ _ => pts_one (pt_val (pe_callB (cr_all rfl) rfl T.b_all (by decide +kernel) (pa_cons (pe_lc (own := [("state", 11)]) (g := gName 11) rfl nd (pi_seq (pv 6)) (blkOk_by (own := [("state", 11)]) (by kernel_rfl)) (fun _ _ _ _ _ => pg_name (i := 11) nd rfl (by first | exact Or.inl rfl | exact Or.inr rfl)) (fun _ _ _ _ _ => pts_nil) (fun _ _ _ _ _ => pe_cmpR (op_inG hr.units) (pv 11) (pv 10) rfl)) (pa_nil))))) (fun _ _ _ _ _ => pv 9)) (pss_cons (ps_set (i := 8) nd rfl (by first | exact Or.inl rfl | exact Or.inr rfl) (pe_cal Clead hr (Nat.le_refl _) rfl (pa_cons (pv 1) (pa_cons (pv 7) (pa_nil))))) (pss_one (ps_expr (pe_bm PySem.F.plainAttrs_list PySem.F.slot_list_append PySem.F.type_list_append mt_append (pv 2) (pa_cons (pe_tup (pa_cons (pv 8) (pa_cons (pe_cal Crest_of hr (Nat.le_refl _) rfl (pa_cons (pv 1) (pa_cons (pv 8) (pa_nil)))) (pa_nil)))) (pa_nil)))))))) (pss_one (ps_ret (pe_callB (cr_srt hr.units) rfl T.b_sorted (by decide +kernel) (pa_cons (pv 2) (pa_nil))))))))
theorem bnpairs {K : PySem.W.Frag} {f : Addr} {fd : FuncData} (F : FnP K "pairs" spairs f fd) : Binds K fd ["base"] [] := F.bindsN fun _ _ _ _ _ _ us hl => match us, hl with | [_], _ => rfl
end MoD
set_option maxHeartbeats 4000000
/-! how long and how many: the words of leads, rests and amids -/
namespace Mo
section
variable {α : Type} [DecidableEq α] {le : List α → List α → Bool} {leB : List (List α) → List (List α) → Bool}
/-- y is a shortest row of U -/
def Min (U : List α → Prop) (y : List α) : Prop := U y ∧ ∀ z, U z → z.Sublist y → z = y
theorem IsBase.mem {b : List (List α)} {U : List α → Prop} (h : IsBase le b U) {x : List α} : x ∈ b ↔ Min U x := h.min
theorem Min.congr {U V : List α → Prop} (h : ∀ z, U z ↔ V z) {y : List α} (m : Min U y) : Min V y := ⟨(h y).mp m.1, fun z hz s => m.2 z ((h z).mpr hz) s⟩
/-- what stands between a and e -/
def Am (W A E : List (List α)) (y : List α) : Prop := ∀ a ∈ A, ∀ e ∈ E, Done W (a ++ (y ++ e))
/-! ### letters -/
theorem sub_filter {v y : List α} (f : α → Bool) (s : v.Sublist y) (h : ∀ c ∈ v, f c = true) : v.Sublist (y.filter f) := by
  have q := s.filter f
  rwa [List.filter_eq_self.mpr h] at q
/-- the part of a word that y brings -/
theorem mid_part {w a y e : List α} (h : w.Sublist (a ++ (y ++ e))) : ∃ u v r, w = u ++ (v ++ r) ∧ v.Sublist y ∧ ∀ z, v.Sublist z → w.Sublist (a ++ (z ++ e)) := by
  rw [sub_append, sub_append] at h
  obtain ⟨u, hu, su⟩ := rest_suffix a w
  obtain ⟨v, hv, sv⟩ := rest_suffix y (restW w a)
  refine ⟨u, v, restW (restW w a) y, by rw [hv, hu], sv, fun z hz => ?_⟩
  have q : (u ++ (v ++ restW (restW w a) y)).Sublist (a ++ (z ++ e)) := su.append (hz.append h)
  rwa [hv, hu] at q
theorem am_part {W A E : List (List α)} {y a e : List α} (h : Am W A E y) (ha : a ∈ A) (he : e ∈ E) : ∃ w ∈ W, ∃ u v r, w = u ++ (v ++ r) ∧ v.Sublist y ∧ ∀ z, v.Sublist z → Done W (a ++ (z ++ e)) := by
  obtain ⟨w, hw, s⟩ := h a ha e he
  obtain ⟨u, v, r, h1, h2, h3⟩ := mid_part s
  exact ⟨w, hw, u, v, r, h1, h2, fun z hz => ⟨w, hw, h3 z hz⟩⟩
theorem min_letters {W A E : List (List α)} {y : List α} (h : Min (Am W A E) y) : ∀ c ∈ y, ∃ w ∈ W, c ∈ w := by
  have q : Am W A E (y.filter fun c => decide (c ∈ W.flatten)) := fun a ha e he => by
    obtain ⟨w, hw, u, v, r, h0, h1, h4⟩ := am_part h.1 ha he
    refine h4 _ (sub_filter _ h1 fun c hc => ?_)
    exact decide_eq_true (List.mem_flatten.mpr ⟨w, hw, by rw [h0]; simp [hc]⟩)
  have e := h.2 _ q List.filter_sublist
  intro c hc
  rw [← e] at hc
  have := (List.mem_filter.mp hc).2
  obtain ⟨w, hw, hcw⟩ := List.mem_flatten.mp (of_decide_eq_true this)
  exact ⟨w, hw, hcw⟩
/-! ### lengths, by pairs -/
theorem gather : ∀ (y : List α) (vs : List (List α)), (∀ v ∈ vs, v.Sublist y) → ∃ z, z.Sublist y ∧ (∀ v ∈ vs, v.Sublist z) ∧ z.length ≤ (vs.map List.length).sum
  | [], vs, h => ⟨[], List.Sublist.refl _, h, Nat.zero_le _⟩
  | n :: r, vs, h => by
    have hs : ∀ v : List α, v.Sublist (n :: r) ↔ (restW v [n]).Sublist r := fun v => sub_append [n] v r
    obtain ⟨z, z1, z2, z3⟩ := gather r (vs.map fun v => restW v [n]) fun v hv => by
      obtain ⟨u, hu, rfl⟩ := List.mem_map.mp hv
      exact (hs u).mp (h u hu)
    by_cases c : ∃ v ∈ vs, restW v [n] ≠ v
    · refine ⟨n :: z, z1.cons_cons n, fun v hv => (sub_append [n] v z).mpr (z2 _ (List.mem_map.mpr ⟨v, hv, rfl⟩)), ?_⟩
      obtain ⟨v, hv, hne⟩ := c
      have key : ∀ l : List (List α), v ∈ l → ((l.map fun v => restW v [n]).map List.length).sum + 1 ≤ (l.map List.length).sum := by
        have le1 : ∀ u : List α, (restW u [n]).length ≤ u.length := fun u => rest_len u [n]
        have leS : ∀ l : List (List α), ((l.map fun v => restW v [n]).map List.length).sum ≤ (l.map List.length).sum := by
          intro l
          induction l with
          | nil => exact Nat.le_refl _
          | cons u l ih =>
            simp only [List.map_cons, List.sum_cons]
            have := le1 u
            omega
        have lt1 : (restW v [n]).length < v.length := by
          obtain ⟨p, hp, _⟩ := rest_suffix [n] v
          have e1 : p.length + (restW v [n]).length = v.length := by rw [← List.length_append, hp]
          cases p with
          | nil => exact absurd hp hne
          | cons x p => rw [List.length_cons] at e1; omega
        intro l
        induction l with
        | nil => intro hl; cases hl
        | cons u l ih =>
          intro hl
          simp only [List.map_cons, List.sum_cons]
          rcases List.mem_cons.mp hl with e | hl
          · subst e; have := leS l; omega
          · have := ih hl; have := le1 u; omega
      have := key vs hv
      rw [List.length_cons]
      omega
    · have e : (vs.map fun v => restW v [n]) = vs := by
        have : ∀ v ∈ vs, restW v [n] = v := fun v hv => Classical.byContradiction fun z => c ⟨v, hv, z⟩
        conv => rhs; rw [← List.map_id vs]
        exact List.map_congr_left this
      rw [e] at z2 z3
      exact ⟨z, z1.cons n, z2, z3⟩
theorem choose_list {β γ : Type} {P : β → γ → Prop} : ∀ {l : List β}, (∀ x ∈ l, ∃ v, P x v) → ∃ vs : List γ, vs.length = l.length ∧ (∀ v ∈ vs, ∃ x ∈ l, P x v) ∧ ∀ x ∈ l, ∃ v ∈ vs, P x v
  | [], _ => ⟨[], rfl, fun v h => (by cases h), fun x h => (by cases h)⟩
  | x :: l, h => by
    obtain ⟨v, hv⟩ := h x List.mem_cons_self
    obtain ⟨vs, h1, h2, h3⟩ := choose_list fun y hy => h y (List.mem_cons_of_mem _ hy)
    refine ⟨v :: vs, by rw [List.length_cons, List.length_cons, h1], fun u hu => ?_, fun y hy => ?_⟩
    · rcases List.mem_cons.mp hu with e | hu
      · subst e; exact ⟨x, List.mem_cons_self, hv⟩
      · obtain ⟨y, hy, p⟩ := h2 u hu; exact ⟨y, List.mem_cons_of_mem _ hy, p⟩
    · rcases List.mem_cons.mp hy with e | hy
      · subst e; exact ⟨v, List.mem_cons_self, hv⟩
      · obtain ⟨u, hu, p⟩ := h3 y hy; exact ⟨u, List.mem_cons_of_mem _ hu, p⟩
theorem sum_le_len {l : List Nat} {m : Nat} (h : ∀ x ∈ l, x ≤ m) : l.sum ≤ l.length * m := by
  induction l with
  | nil => simp
  | cons x l ih =>
    have h1 := h x List.mem_cons_self
    have h2 := ih fun y hy => h y (List.mem_cons_of_mem _ hy)
    rw [List.sum_cons, List.length_cons, Nat.succ_mul]
    omega
theorem pair_len {W A E : List (List α)} {y : List α} {m : Nat} (h : Min (Am W A E) y) (hv : ∀ a ∈ A, ∀ e ∈ E, ∃ v : List α, v.Sublist y ∧ v.length ≤ m ∧ ∀ z, v.Sublist z → Done W (a ++ (z ++ e))) : y.length ≤ A.length * E.length * m := by
  obtain ⟨vs, h1, h2, h3⟩ := choose_list (l := A.flatMap fun a => E.map fun e => (a, e)) (P := fun p (v : List α) => v.Sublist y ∧ v.length ≤ m ∧ ∀ z, v.Sublist z → Done W (p.1 ++ (z ++ p.2))) fun p hp => by
    obtain ⟨a, ha, hp⟩ := List.mem_flatMap.mp hp
    obtain ⟨e, he, rfl⟩ := List.mem_map.mp hp
    exact hv a ha e he
  obtain ⟨z, z1, z2, z3⟩ := gather y vs fun v hv => by
    obtain ⟨p, _, q, _⟩ := h2 v hv
    exact q
  have e := h.2 z (fun a ha e he => by
    obtain ⟨v, hv, _, _, q⟩ := h3 (a, e) (List.mem_flatMap.mpr ⟨a, ha, List.mem_map.mpr ⟨e, he, rfl⟩⟩)
    exact q z (z2 v hv)) z1
  rw [e] at z3
  have h4 := sum_le_len (l := vs.map List.length) (m := m) fun x hx => by
    obtain ⟨v, hv, rfl⟩ := List.mem_map.mp hx
    obtain ⟨p, _, _, q, _⟩ := h2 v hv
    exact q
  have h5 : (A.flatMap fun a => E.map fun e => (a, e)).length = A.length * E.length := by
    clear h1 h2 h3 z2 z3 h4 h hv
    induction A with
    | nil => simp
    | cons a A ih => rw [List.flatMap_cons, List.length_append, ih, List.length_map, List.length_cons, Nat.succ_mul, Nat.add_comm]
  rw [List.length_map, h1, h5] at h4
  omega
/-- short words, few pairs -/
theorem amid_len {W A E : List (List α)} {y : List α} {m : Nat} (hW : ∀ w ∈ W, w.length ≤ m + 1) (h : Min (Am W A E) y) : y.length ≤ m + 1 ∨ y.length ≤ A.length * E.length * m := by
  by_cases d : Done W y
  · obtain ⟨w, hw, s⟩ := d
    have e := h.2 w (fun a ha e he => ⟨w, hw, (List.sublist_append_left w e).trans (List.sublist_append_right a _)⟩) s
    rw [← e]
    exact .inl (hW w hw)
  · refine .inr (pair_len h fun a ha e he => ?_)
    obtain ⟨w, hw, u, v, r, h0, h1, h4⟩ := am_part h.1 ha he
    refine ⟨v, h1, ?_, h4⟩
    have hl := hW w hw
    have h2 : w.length = u.length + (v.length + r.length) := by rw [h0, List.length_append, List.length_append]
    by_cases e1 : v.length = w.length
    · have e2 : u = [] := List.eq_nil_of_length_eq_zero (by omega)
      have e3 : r = [] := List.eq_nil_of_length_eq_zero (by omega)
      rw [e2, e3, List.nil_append, List.append_nil] at h0
      exact absurd ⟨w, hw, by rw [h0]; exact h1⟩ d
    · omega
/-- W = x ahead of each word of E -/
theorem amid_len2 {W A E : List (List α)} {x : α} {y : List α} {m : Nat} (hW : ∀ w, w ∈ W ↔ ∃ t ∈ E, w = x :: t) (hE : ∀ t ∈ E, t.length ≤ m + 1) (h : Min (Am W A E) y) : y.length ≤ m + 1 ∨ y.length ≤ A.length * E.length * m := by
  by_cases hx : x ∈ y
  · have e := h.2 [x] (fun a ha e he => ⟨x :: e, (hW _).mpr ⟨e, he, rfl⟩, (List.sublist_append_right a ([x] ++ e))⟩) (List.singleton_sublist.mpr hx)
    rw [← e]
    exact .inl (by simp)
  · by_cases d : Done E y
    · obtain ⟨t, ht, s⟩ := d
      have e := h.2 t (fun a ha e he => by
        obtain ⟨w, hw, s2⟩ := h.1 a ha e he
        obtain ⟨t', ht', rfl⟩ := (hW w).mp hw
        by_cases ha2 : x ∈ a
        · refine ⟨x :: t, (hW _).mpr ⟨t, ht, rfl⟩, ?_⟩
          exact (List.singleton_sublist.mpr ha2).append (List.sublist_append_left t e)
        · refine ⟨x :: t', hw, ?_⟩
          have key : ∀ l : List α, x ∉ l → ∀ r : List α, (x :: t').Sublist (l ++ r) → (x :: t').Sublist r := by
            intro l
            induction l with
            | nil => intro _ r s; exact s
            | cons c l ih =>
              intro hl r s
              cases s with
              | cons _ s => exact ih (fun z => hl (List.mem_cons_of_mem _ z)) r s
              | cons_cons _ s => exact absurd List.mem_cons_self hl
          have s3 := key y hx e (key a ha2 (y ++ e) s2)
          exact (s3.trans (List.sublist_append_right t e)).trans (List.sublist_append_right a _)) s
      rw [← e]
      exact .inl (hE t ht)
    · refine .inr (pair_len h fun a ha e he => ?_)
      obtain ⟨w, hw, u, v, r, h0, h1, h4⟩ := am_part h.1 ha he
      refine ⟨v, h1, ?_, h4⟩
      obtain ⟨t, ht, rfl⟩ := (hW w).mp hw
      have hl := hE t ht
      cases u with
      | nil =>
        rw [List.nil_append] at h0
        cases v with
        | nil => exact Nat.zero_le _
        | cons c v =>
          rw [List.cons_append] at h0
          injection h0 with h0 _
          subst h0
          exact absurd (h1.subset List.mem_cons_self) hx
      | cons c u =>
        rw [List.cons_append] at h0
        injection h0 with _ h0
        have h2 : t.length = u.length + (v.length + r.length) := by rw [h0, List.length_append, List.length_append]
        by_cases e1 : v.length = t.length
        · have e2 : u = [] := List.eq_nil_of_length_eq_zero (by omega)
          have e3 : r = [] := List.eq_nil_of_length_eq_zero (by omega)
          rw [e2, e3, List.nil_append, List.append_nil] at h0
          exact absurd ⟨t, ht, by rw [h0]; exact h1⟩ d
        · omega
end
end Mo
set_option maxHeartbeats 4000000
/-! chains of standings; counts -/
namespace Mo
section
variable {α : Type} [DecidableEq α] {le : List α → List α → Bool} {leB : List (List α) → List (List α) → Bool} (o : WOrd le)
/-! ### chains -/
/-- each name of y changes what stands behind p -/
def Strict (le : List α → List α → Bool) (W : List (List α)) (p : List α) (y : List α) : Prop := ∀ q n r, y = q ++ n :: r → standing le W (p ++ (q ++ [n])) ≠ standing le W (p ++ q)
theorem Strict.tail {W : List (List α)} {p : List α} {n : α} {y : List α} (h : Strict le W p (n :: y)) : Strict le W (p ++ [n]) y := fun q m r e => by
  have := h (n :: q) m r (by rw [e]; rfl)
  simpa using this
theorem Strict.head {W : List (List α)} {p : List α} {n : α} {y : List α} (h : Strict le W p (n :: y)) : standing le W (p ++ [n]) ≠ standing le W p := by
  have := h [] n y rfl
  simpa using this
/-- what a row of ends asks behind p -/
def Ld (W E : List (List α)) (p : List α) (y : List α) : Prop := ∀ e ∈ E, Done W (p ++ (y ++ e))
include o in
theorem min_strict {W E : List (List α)} {p y : List α} (h : Min (Ld W E p) y) : Strict le W p y := fun q n r e z => by
  have u : Ld W E p (q ++ r) := fun e' he => by
    have h1 := h.1 e' he
    rw [e] at h1
    have h2 : Done W ((p ++ (q ++ [n])) ++ (r ++ e')) := by simpa using h1
    rw [← done_standing o, z, done_standing o] at h2
    simpa using h2
  have s : (q ++ r).Sublist y := by rw [e]; exact (List.Sublist.refl q).append (List.sublist_cons_self n r)
  have := h.2 _ u s
  rw [e] at this
  have hl := congrArg List.length this
  simp at hl
/-- no chain that stays open has more than h names -/
def Ch (le : List α → List α → Bool) (W : List (List α)) (h : Nat) : Prop := ∀ p y, Strict le W p y → ¬ Done W (p ++ y) → y.length ≤ h
include o in
theorem lead_len {W E : List (List α)} {p y : List α} {h m : Nat} (c : Ch le W h) (hm : ∀ w ∈ W, w.length ≤ m) (hy : Min (Ld W E p) y) : y.length ≤ h ∨ y.length ≤ m := by
  by_cases d : Done W (p ++ y)
  · obtain ⟨w, hw, s⟩ := d
    have u : Ld W E p (restW w p) := fun e he => ⟨w, hw, (sub_append _ _ _).mpr (List.sublist_append_left _ _)⟩
    have e := hy.2 _ u ((sub_append _ _ _).mp s)
    rw [← e]
    exact .inr (Nat.le_trans (rest_len w p) (hm w hw))
  · exact .inl (c p y (min_strict o hy) d)
/-- by the words' lengths -/
def begS (W : List (List α)) (x : List α) : Nat := (W.map fun w => begun w x).sum
theorem beg_mono (w x : List α) (n : α) : begun w x ≤ begun w (x ++ [n]) := by
  rw [begun_snoc]; split <;> omega
theorem begS_step {W : List (List α)} {x : List α} {n : α} : begS W x ≤ begS W (x ++ [n]) ∧ (begS W x = begS W (x ++ [n]) → (W.map fun w => restW w (x ++ [n])) = W.map fun w => restW w x) := by
  induction W with
  | nil => exact ⟨Nat.le_refl _, fun _ => rfl⟩
  | cons w W ih =>
    have e1 : ∀ x, begS (w :: W) x = begun w x + begS W x := fun x => by unfold begS; rw [List.map_cons, List.sum_cons]
    rw [e1, e1]
    have := beg_mono w x n
    refine ⟨by omega, fun e => ?_⟩
    rw [List.map_cons, List.map_cons, ih.2 (by omega), rest_drop w (x ++ [n]), rest_drop w x, show begun w (x ++ [n]) = begun w x by omega]
theorem begS_strict {W : List (List α)} : ∀ {y p : List α}, Strict le W p y → begS W p + y.length ≤ begS W (p ++ y)
  | [], p, _ => by rw [List.append_nil]; exact Nat.le_refl _
  | n :: y, p, h => by
    have i := begS_strict h.tail
    have j := begS_step (W := W) (x := p) (n := n)
    have hne : begS W p ≠ begS W (p ++ [n]) := fun z => h.head (by unfold standing; rw [j.2 z])
    rw [List.append_assoc] at i
    rw [List.length_cons]
    show _ ≤ begS W (p ++ ([n] ++ y))
    omega
theorem begS_open {W : List (List α)} {x : List α} (h : ¬ Done W x) : begS W x ≤ (W.map fun w => w.length - 1).sum := by
  unfold begS
  have : ∀ w ∈ W, begun w x ≤ w.length - 1 := fun w hw => by
    have h1 := begun_le w x
    by_cases e : begun w x = w.length
    · exact absurd ⟨w, hw, isPart_iff.mp (by unfold isPart; rw [e]; exact beq_self_eq_true _)⟩ h
    · omega
  clear h
  induction W with
  | nil => exact Nat.le_refl _
  | cons w W ih =>
    rw [List.map_cons, List.map_cons, List.sum_cons, List.sum_cons]
    have h1 := this w List.mem_cons_self
    have h2 := ih fun u hu => this u (List.mem_cons_of_mem _ hu)
    omega
theorem ch_words (W : List (List α)) : Ch le W ((W.map fun w => w.length - 1).sum) := fun p y h d => by
  have h1 := begS_strict h
  have h2 := begS_open d
  omega
/-! ### how many stand -/
def FewSt (le : List α → List α → Bool) (W : List (List α)) (n : Nat) : Prop := ∀ l : List (List (List α)), l.Nodup → (∀ s ∈ l, s ≠ ALW ∧ ∃ x, s = standing le W x) → l.length ≤ n
def vecs : List (List α) → List (List (List α))
  | [] => [[]]
  | w :: W => (List.range w.length).flatMap fun k => (vecs W).map fun v => w.drop k :: v
theorem vecs_len : ∀ W : List (List α), (vecs W).length = W.foldr (fun w n => w.length * n) 1
  | [] => rfl
  | w :: W => by
    have key : ∀ n : Nat, ((List.range n).flatMap fun k => (vecs W).map fun v => w.drop k :: v).length = n * (vecs W).length := by
      intro n
      induction n with
      | zero => simp
      | succ n ih => rw [List.range_succ, List.flatMap_append, List.length_append, ih, List.flatMap_cons, List.flatMap_nil, List.append_nil, List.length_map, Nat.succ_mul]
    show (((List.range w.length).flatMap fun k => (vecs W).map fun v => w.drop k :: v)).length = w.length * _
    rw [key, vecs_len W]
theorem vecs_mem {x : List α} : ∀ {W : List (List α)}, (¬ Done W x) → (W.map fun w => restW w x) ∈ vecs W
  | [], _ => List.mem_singleton.mpr rfl
  | w :: W, h => by
    have h1 : begun w x < w.length := by
      have h1 := begun_le w x
      by_cases e : begun w x = w.length
      · exact absurd ⟨w, List.mem_cons_self, isPart_iff.mp (by unfold isPart; rw [e]; exact beq_self_eq_true _)⟩ h
      · omega
    have h2 := vecs_mem (x := x) (W := W) fun ⟨u, hu, s⟩ => h ⟨u, List.mem_cons_of_mem _ hu, s⟩
    refine List.mem_flatMap.mpr ⟨begun w x, List.mem_range.mpr h1, List.mem_map.mpr ⟨_, h2, ?_⟩⟩
    rw [List.map_cons, rest_drop w x]
include o in
theorem standing_done {W : List (List α)} {x : List α} (h : Done W x) : standing le W x = ALW := by
  have d : Done (standing le W x) [] := (done_standing o).mpr (by rw [List.append_nil]; exact h)
  obtain ⟨w, hw, s⟩ := d
  exact cb_always (cb_standing o W x) (by rw [← List.sublist_nil.mp s]; exact hw)
include o in
theorem few_words (W : List (List α)) : FewSt le W (W.foldr (fun w n => w.length * n) 1) := fun l hn h => by
  rw [← vecs_len, show (vecs W).length = ((vecs W).map (leastOf le)).length from (List.length_map _).symm]
  refine nodup_le hn fun s hs => ?_
  obtain ⟨hne, x, rfl⟩ := h s hs
  exact List.mem_map.mpr ⟨_, vecs_mem fun d => hne (standing_done o d), rfl⟩
include o in
/-- all that stands is in a list that is closed -/
theorem few_list {W : List (List α)} {Q : List (List (List α))} (hW : CB le W) (h0 : W ∈ Q) (hs : ∀ s ∈ Q, CB le s) (hc : ∀ s ∈ Q, ∀ n ∈ heads s, step le s n ∈ Q) : ∀ x, standing le W x ∈ Q := by
  have key : ∀ (x : List α) (s : List (List α)), s ∈ Q → standing le s x ∈ Q := by
    intro x
    induction x with
    | nil => intro s h; rw [standing_nil o (hs s h)]; exact h
    | cons n x ih =>
      intro s h
      have e : standing le s (n :: x) = standing le (step le s n) x := by rw [step_standing, standing_standing o]; rfl
      rw [e]
      refine ih _ ?_
      by_cases hn : n ∈ heads s
      · exact hc s h n hn
      · rw [step_same o (hs s h) hn]; exact h
  exact fun x => key x W h0
include o in
theorem step_lt {s : List (List α)} (hs : CB le s) {n : α} (h : step le s n ≠ s) : bsize (step le s n) < bsize s := by
  by_cases hn : n ∈ heads s
  · exact bsize_step_lt o hn
  · exact absurd (step_same o hs hn) h
include o in
theorem strict_chain {W : List (List α)} : ∀ {y p : List α}, Strict le W p y → ∃ l : List (List (List α)), l.length = y.length ∧ l.Nodup ∧ (∀ s ∈ l, bsize s < bsize (standing le W p)) ∧ ∀ s ∈ l, ∃ q r, y = q ++ r ∧ s = standing le W (p ++ q)
  | [], p, _ => ⟨[], rfl, List.nodup_nil, fun s h => (by cases h), fun s h => (by cases h)⟩
  | n :: y, p, h => by
    obtain ⟨l, h1, h2, h3, h4⟩ := strict_chain h.tail
    have e : standing le W (p ++ [n]) = step le (standing le W p) n := by rw [step_standing, standing_standing o]
    have lt : bsize (standing le W (p ++ [n])) < bsize (standing le W p) := by
      rw [e]
      exact step_lt o (cb_standing o W p) fun z => h.head (by rw [e, z])
    refine ⟨standing le W (p ++ [n]) :: l, by rw [List.length_cons, List.length_cons, h1], List.nodup_cons.mpr ⟨fun z => Nat.lt_irrefl _ (h3 _ z), h2⟩, fun s hs => ?_, fun s hs => ?_⟩
    · rcases List.mem_cons.mp hs with e2 | hs
      · rw [e2]; exact lt
      · exact Nat.lt_trans (h3 s hs) lt
    · rcases List.mem_cons.mp hs with e2 | hs
      · exact ⟨[n], y, rfl, e2⟩
      · obtain ⟨q, r, e3, e4⟩ := h4 s hs
        exact ⟨n :: q, r, by rw [e3]; rfl, by rw [e4, List.append_assoc]; rfl⟩
include o in
theorem ch_few {W : List (List α)} {n : Nat} (h : FewSt le W (n + 1)) : Ch le W n := fun p y hs hd => by
  obtain ⟨l, h1, h2, h3, h4⟩ := strict_chain o hs
  have hop : ∀ q r, y = q ++ r → ¬ standing le W (p ++ q) = ALW := fun q r e z => hd (by
    have d : Done (standing le W (p ++ q)) r := by rw [z]; exact done_always r
    rw [done_standing o] at d
    rw [e, ← List.append_assoc]; exact d)
  have := h (standing le W p :: l) (List.nodup_cons.mpr ⟨fun z => Nat.lt_irrefl _ (h3 _ z), h2⟩) fun s hs => by
    rcases List.mem_cons.mp hs with e | hs
    · subst e; exact ⟨by simpa using hop [] y rfl, p, rfl⟩
    · obtain ⟨q, r, e3, e4⟩ := h4 s hs
      rw [e4]
      exact ⟨hop q r e3, _, rfl⟩
  rw [List.length_cons, h1] at this
  omega
/-! ### how many words -/
def undup : List α → List α
  | [] => []
  | x :: l => if x ∈ undup l then undup l else x :: undup l
theorem mem_undup {x : α} : ∀ {l : List α}, x ∈ undup l ↔ x ∈ l
  | [] => Iff.rfl
  | y :: l => by
    unfold undup
    by_cases h : y ∈ undup l
    · rw [if_pos h, mem_undup (l := l), List.mem_cons]
      exact ⟨.inr, fun z => z.elim (fun e => by rw [e]; exact mem_undup.mp h) id⟩
    · rw [if_neg h, List.mem_cons, List.mem_cons, mem_undup (l := l)]
theorem undup_nodup : ∀ l : List α, (undup l).Nodup
  | [] => List.nodup_nil
  | y :: l => by
    unfold undup
    by_cases h : y ∈ undup l
    · rw [if_pos h]; exact undup_nodup l
    · rw [if_neg h]; exact List.nodup_cons.mpr ⟨h, undup_nodup l⟩
/-- at most n names are next, wherever W stands -/
def Wide (le : List α → List α → Bool) (W : List (List α)) (n : Nat) : Prop := ∀ x, (undup (heads (standing le W x))).length ≤ n
theorem heads_len (s : List (List α)) : (heads s).length ≤ s.length := by unfold heads; exact List.length_filterMap_le _ _
include o in
theorem standing_len (W : List (List α)) (x : List α) : (standing le W x).length ≤ W.length := by
  refine Nat.le_trans (nodup_le (cb_leastOf o _).rise.nodup fun y hy => leastOf_sub o hy) ?_
  rw [List.length_map]; exact Nat.le_refl _
include o in
theorem wide_words (W : List (List α)) : Wide le W W.length := fun x =>
  Nat.le_trans (nodup_le (undup_nodup _) fun y hy => mem_undup.mp hy) (Nat.le_trans (heads_len _) (standing_len o W x))
include o in
theorem wide_letters {W : List (List α)} {Ls : List α} (h : ∀ w ∈ W, ∀ c ∈ w, c ∈ Ls) : Wide le W Ls.length := fun x =>
  nodup_le (undup_nodup _) fun c hc => by
    obtain ⟨w, hw⟩ := mem_heads.mp (mem_undup.mp hc)
    obtain ⟨u, hu, e⟩ := List.mem_map.mp (leastOf_sub o hw)
    obtain ⟨p, hp, _⟩ := rest_suffix x u
    exact h u hu c (by rw [← hp, e]; simp)
def tree (le : List α → List α → Bool) : Nat → List (List α) → List (List α)
  | 0, _ => [[]]
  | d + 1, s => [] :: (undup (heads s)).flatMap fun n => (tree le d (step le s n)).map (n :: ·)
def cnt (k : Nat) : Nat → Nat
  | 0 => 1
  | d + 1 => 1 + k * cnt k d
include o in
theorem tree_len {W : List (List α)} {k : Nat} (hk : Wide le W k) : ∀ (d : Nat) (p : List α), (tree le d (standing le W p)).length ≤ cnt k d
  | 0, p => Nat.le_refl _
  | d + 1, p => by
    show ([] :: (undup (heads (standing le W p))).flatMap fun n => (tree le d (step le (standing le W p) n)).map (n :: ·)).length ≤ 1 + k * cnt k d
    have key : ∀ l : List α, (l.flatMap fun n => (tree le d (step le (standing le W p) n)).map (n :: ·)).length ≤ l.length * cnt k d := by
      intro l
      induction l with
      | nil => simp
      | cons n l ih =>
        have := tree_len hk d (p ++ [n])
        rw [← standing_standing o, ← step_standing] at this
        rw [List.flatMap_cons, List.length_append, List.length_map, List.length_cons, Nat.succ_mul]
        omega
    have h1 := key (undup (heads (standing le W p)))
    have h2 := Nat.mul_le_mul_right (cnt k d) (hk p)
    rw [List.length_cons]
    omega
include o in
theorem strict_tree {W : List (List α)} : ∀ (d : Nat) (p y : List α), Strict le W p y → y.length ≤ d → y ∈ tree le d (standing le W p)
  | 0, p, y, _, h => by rw [List.eq_nil_of_length_eq_zero (Nat.le_zero.mp h)]; exact List.mem_singleton.mpr rfl
  | d + 1, p, [], _, _ => List.mem_cons_self
  | d + 1, p, n :: y, hs, h => by
    have e : standing le W (p ++ [n]) = step le (standing le W p) n := by rw [step_standing, standing_standing o]
    have i := strict_tree d (p ++ [n]) y hs.tail (by rw [List.length_cons] at h; omega)
    rw [e] at i
    have hn : n ∈ heads (standing le W p) := Classical.byContradiction fun z => hs.head (by rw [e]; exact step_same o (cb_standing o W p) z)
    exact List.mem_cons_of_mem _ (List.mem_flatMap.mpr ⟨n, mem_undup.mpr hn, List.mem_map.mpr ⟨y, i, rfl⟩⟩)
include o in
/-- how many words a lead has -/
theorem lead_cnt {W E b : List (List α)} {h m k d : Nat} (c : Ch le W h) (hm : ∀ w ∈ W, w.length ≤ m) (hk : Wide le W k) (h1 : h ≤ d) (h2 : m ≤ d) (hb : IsBase le b (fun x => ∀ e ∈ E, Done W (x ++ e))) : b.length ≤ cnt k d := by
  refine Nat.le_trans (nodup_le hb.cb.rise.nodup (m := tree le d (standing le W [])) fun y hy => ?_) (tree_len o hk d [])
  have hy' : Min (Ld W E []) y := hb.mem.mp hy
  exact strict_tree o d [] y (min_strict o hy') (by rcases lead_len o c hm hy' with q | q <;> omega)
/-! ### words over few letters -/
def allW (Ls : List α) : Nat → List (List α)
  | 0 => [[]]
  | d + 1 => [] :: Ls.flatMap fun n => (allW Ls d).map (n :: ·)
theorem allW_mem {Ls : List α} : ∀ {d : Nat} {y : List α}, y.length ≤ d → (∀ c ∈ y, c ∈ Ls) → y ∈ allW Ls d
  | 0, y, h, _ => by rw [List.eq_nil_of_length_eq_zero (Nat.le_zero.mp h)]; exact List.mem_singleton.mpr rfl
  | d + 1, [], _, _ => List.mem_cons_self
  | d + 1, n :: y, h, hc => List.mem_cons_of_mem _ (List.mem_flatMap.mpr ⟨n, hc n List.mem_cons_self, List.mem_map.mpr ⟨y, allW_mem (by rw [List.length_cons] at h; omega) fun c h => hc c (List.mem_cons_of_mem _ h), rfl⟩⟩)
theorem allW_len {Ls : List α} : ∀ d, (allW Ls d).length = cnt Ls.length d
  | 0 => rfl
  | d + 1 => by
    have key : ∀ l : List α, (l.flatMap fun n => (allW Ls d).map (n :: ·)).length = l.length * cnt Ls.length d := by
      intro l
      induction l with
      | nil => simp
      | cons n l ih => rw [List.flatMap_cons, List.length_append, List.length_map, ih, allW_len d, List.length_cons, Nat.succ_mul, Nat.add_comm]
    show ([] :: Ls.flatMap fun n => (allW Ls d).map (n :: ·)).length = 1 + Ls.length * cnt Ls.length d
    rw [List.length_cons, key, Nat.add_comm]
theorem words_cnt {b : List (List α)} {Ls : List α} {d : Nat} (hn : b.Nodup) (hl : ∀ y ∈ b, y.length ≤ d) (hc : ∀ y ∈ b, ∀ c ∈ y, c ∈ Ls) : b.length ≤ cnt Ls.length d := by
  rw [← allW_len]
  exact nodup_le hn fun y hy => allW_mem (hl y hy) (hc y hy)
/-! ### parts of a list -/
def powr {β : Type} : List β → List (List β)
  | [] => [[]]
  | x :: l => powr l ++ (powr l).map (x :: ·)
theorem powr_len {β : Type} : ∀ l : List β, (powr l).length = 2 ^ l.length
  | [] => rfl
  | x :: l => by
    show (powr l ++ (powr l).map (x :: ·)).length = _
    rw [List.length_append, List.length_map, powr_len l, List.length_cons, Nat.pow_succ]; omega
theorem powr_filter {β : Type} (f : β → Bool) : ∀ l : List β, l.filter f ∈ powr l
  | [] => List.mem_singleton.mpr rfl
  | x :: l => by
    show _ ∈ powr l ++ (powr l).map (x :: ·)
    rw [List.filter_cons]
    by_cases h : f x = true
    · rw [if_pos h]; exact List.mem_append_right _ (List.mem_map.mpr ⟨_, powr_filter f l, rfl⟩)
    · rw [if_neg h]; exact List.mem_append_left _ (powr_filter f l)
theorem parts_cnt {β : Type} [DecidableEq β] {l : List (List β)} {Q : List β} (hn : l.Nodup) (h : ∀ r ∈ l, ∃ f : β → Bool, r = Q.filter f) : l.length ≤ 2 ^ Q.length := by
  rw [← powr_len]
  exact nodup_le hn fun r hr => by
    obtain ⟨f, rfl⟩ := h r hr
    exact powr_filter f Q
end
end Mo
set_option maxHeartbeats 4000000
/-! bases that stay small; the states on the way -/
namespace Mo
section
variable {α : Type} [DecidableEq α] {le : List α → List α → Bool} {leB : List (List α) → List (List α) → Bool}
/-- one side: seen from the front -/
structure Nice1 (le : List α → List α → Bool) (W : List (List α)) : Prop where
  cb : CB le W
  few : W.length ≤ 8
  size : bsize W ≤ 24
  st : FewSt le W 9
  ls : ∃ Ls : List α, Ls.length ≤ 3 ∧ ∀ w ∈ W, ∀ c ∈ w, c ∈ Ls
  wide : ∃ k d, d ≤ 4 ∧ Wide le W k ∧ Ch le W d ∧ (∀ w ∈ W, w.length ≤ d) ∧ cnt k d ≤ 40
  tot : ∀ l : List (List (List α)), l.Nodup → (∀ s ∈ l, ∃ x, s = standing le W x) → (l.map bsize).sum ≤ 60
structure Nice (le : List α → List α → Bool) (W : List (List α)) : Prop where
  one : Nice1 le W
  two : Nice1 le (rev le W)
theorem Nice1.short {W : List (List α)} (h : Nice1 le W) : ∀ w ∈ W, w.length ≤ 4 := fun w hw => by
  obtain ⟨k, d, h1, _, _, h2, _⟩ := h.wide
  exact Nat.le_trans (h2 w hw) h1
section
variable (o : WOrd le) (oB : TOrd leB)
include o
theorem Nice.rev {W : List (List α)} (h : Nice le W) : Nice le (rev le W) := ⟨h.two, by rw [rev_rev o h.one.cb]; exact h.one⟩
theorem rev_len {W : List (List α)} : (Mo.rev le W).length ≤ W.length := by
  refine Nat.le_trans (nodup_le (cb_leastOf o _).rise.nodup fun y hy => leastOf_sub o hy) ?_
  rw [List.length_map]; exact Nat.le_refl _
theorem rev_words {W : List (List α)} {x : List α} (h : x ∈ Mo.rev le W) : x.reverse ∈ W := by
  obtain ⟨w, hw, rfl⟩ := List.mem_map.mp (leastOf_sub o h)
  rw [List.reverse_reverse]; exact hw
omit o in
theorem fold_le {W : List (List α)} {m n : Nat} (h : ∀ w ∈ W, w.length ≤ m) (hn : W.length ≤ n) (hm : 1 ≤ m) : W.foldr (fun w n => w.length * n) 1 ≤ m ^ n := by
  have key : W.foldr (fun w n => w.length * n) 1 ≤ m ^ W.length := by
    clear hn
    induction W with
    | nil => exact Nat.le_refl _
    | cons w W ih =>
      have h1 := h w List.mem_cons_self
      have h2 := ih fun u hu => h u (List.mem_cons_of_mem _ hu)
      show w.length * _ ≤ m ^ (W.length + 1)
      rw [Nat.pow_succ, Nat.mul_comm]
      exact Nat.mul_le_mul h2 h1
  exact Nat.le_trans key (Nat.pow_le_pow_right hm hn)
omit o in
theorem ch_mono {W : List (List α)} {h k : Nat} (c : Ch le W h) (hk : h ≤ k) : Ch le W k := fun p y s d => Nat.le_trans (c p y s d) hk
omit o in
theorem few_mono {W : List (List α)} {h k : Nat} (c : FewSt le W h) (hk : h ≤ k) : FewSt le W k := fun l hn s => Nat.le_trans (c l hn s) hk
theorem standing_bsize (W : List (List α)) (x : List α) : bsize (standing le W x) ≤ bsize W := by
  have h1 := nodup_sum_le List.length (cb_leastOf o (W.map fun w => restW w x)).rise.nodup fun y hy => leastOf_sub o hy
  refine Nat.le_trans h1 ?_
  unfold bsize
  clear h1
  induction W with
  | nil => exact Nat.le_refl _
  | cons w W ih =>
    rw [List.map_cons, List.map_cons, List.map_cons, List.sum_cons, List.sum_cons]
    have := rest_len w x
    omega
theorem few_ten {W : List (List α)} (hst : FewSt le W 9) {l : List (List (List α))} (hn : l.Nodup) (hs : ∀ s ∈ l, ∃ x, s = standing le W x) : l.length ≤ 10 := by
  by_cases c : ALW ∈ l
  · have h1 := hst (l.erase ALW) (hn.erase _) fun s h' => ⟨fun z => by rw [z] at h'; exact (List.Nodup.not_mem_erase hn) h', hs s (List.mem_of_mem_erase h')⟩
    rw [List.length_erase_of_mem c] at h1
    omega
  · have h1 := hst l hn fun s h' => ⟨fun z => c (by rw [← z]; exact h'), hs s h'⟩
    omega
theorem nice1_short {W : List (List α)} {m n d : Nat} (hW : CB le W) (hn : W.length ≤ n) (hm : ∀ w ∈ W, w.length ≤ m) (hls : ∃ Ls : List α, Ls.length ≤ 3 ∧ ∀ w ∈ W, ∀ c ∈ w, c ∈ Ls)
    (h1 : m ^ n ≤ 9) (h2 : n * (m - 1) ≤ d) (h3 : m ≤ d) (h4 : d ≤ 4) (h5 : cnt n d ≤ 40) (h6 : n * m ≤ 6) (h7 : n ≤ 8) (h8 : 1 ≤ m) : Nice1 le W := by
  have hbs : bsize W ≤ 6 := by
    have := sum_le_len (l := W.map List.length) (m := m) fun x hx => by
      obtain ⟨w, hw, rfl⟩ := List.mem_map.mp hx
      exact hm w hw
    rw [List.length_map] at this
    have h9 := Nat.mul_le_mul_right m hn
    show (W.map List.length).sum ≤ 6
    omega
  have hfew := few_mono (few_words o W) (Nat.le_trans (fold_le hm hn h8) h1)
  refine ⟨hW, by omega, by omega, hfew, hls, ⟨n, d, h4, fun x => Nat.le_trans (wide_words o W x) hn, ch_mono (ch_words W) ?_, fun w hw => Nat.le_trans (hm w hw) h3, h5⟩, fun l hn hs => ?_⟩
  · have := sum_le_len (l := W.map fun w => w.length - 1) (m := m - 1) fun x hx => by
      obtain ⟨w, hw, rfl⟩ := List.mem_map.mp hx
      have := hm w hw
      omega
    rw [List.length_map] at this
    have h9 := Nat.mul_le_mul_right (m - 1) hn
    omega
  · have := sum_le_len (l := l.map bsize) (m := 6) fun x hx => by
      obtain ⟨s, hs', rfl⟩ := List.mem_map.mp hx
      obtain ⟨x, rfl⟩ := hs s hs'
      exact Nat.le_trans (standing_bsize o W x) hbs
    rw [List.length_map] at this
    have h2 := few_ten o hfew hn hs
    omega
theorem nice_short {W : List (List α)} {m n d : Nat} (hW : CB le W) (hn : W.length ≤ n) (hm : ∀ w ∈ W, w.length ≤ m) (hls : ∃ Ls : List α, Ls.length ≤ 3 ∧ ∀ w ∈ W, ∀ c ∈ w, c ∈ Ls)
    (h1 : m ^ n ≤ 9) (h2 : n * (m - 1) ≤ d) (h3 : m ≤ d) (h4 : d ≤ 4) (h5 : cnt n d ≤ 40) (h6 : n * m ≤ 6) (h7 : n ≤ 8) (h8 : 1 ≤ m) : Nice le W :=
  ⟨nice1_short o hW hn hm hls h1 h2 h3 h4 h5 h6 h7 h8, nice1_short o (cb_rev o W) (Nat.le_trans (rev_len o) hn) (fun w hw => by rw [← List.length_reverse]; exact hm _ (rev_words o hw)) (by
    obtain ⟨Ls, a, b⟩ := hls
    exact ⟨Ls, a, fun w hw c hc => b _ (rev_words o hw) c (List.mem_reverse.mpr hc)⟩) h1 h2 h3 h4 h5 h6 h7 h8⟩
/-- what the law draws -/
theorem nice_drawn {W : List (List α)} (hW : CB le W) (hls : ∃ Ls : List α, Ls.length ≤ 3 ∧ ∀ w ∈ W, ∀ c ∈ w, c ∈ Ls) (h : (W.length ≤ 3 ∧ ∀ w ∈ W, w.length ≤ 2) ∨ (W.length ≤ 2 ∧ ∀ w ∈ W, w.length ≤ 3)) : Nice le W := by
  rcases h with ⟨h1, h2⟩ | ⟨h1, h2⟩
  · exact nice_short (d := 3) o hW h1 h2 hls (by decide) (by decide) (by decide) (by decide) (by decide) (by decide) (by decide) (by decide)
  · exact nice_short (d := 4) o hW h1 h2 hls (by decide) (by decide) (by decide) (by decide) (by decide) (by decide) (by decide) (by decide)
/-- a base with few states, given -/
theorem nice1_list {W : List (List α)} {Q : List (List (List α))} (hW : CB le W) (hf : W.length ≤ 8) (hm : ∀ w ∈ W, w.length ≤ 3) (hz : bsize W ≤ 24) (hls : ∃ Ls : List α, Ls.length ≤ 2 ∧ ∀ w ∈ W, ∀ c ∈ w, c ∈ Ls)
    (h0 : W ∈ ALW :: Q) (hs : ∀ s ∈ ALW :: Q, CB le s) (hc : ∀ s ∈ ALW :: Q, ∀ n ∈ heads s, step le s n ∈ ALW :: Q) (hq : Q.length ≤ 4) (hT : ((ALW :: Q).map bsize).sum ≤ 60) : Nice1 le W := by
  have hst : FewSt le W (3 + 1) := fun l hn h => Nat.le_trans (nodup_le hn fun s hs' => by
    obtain ⟨h1, x, h2⟩ := h s hs'
    have h3 := few_list o hW h0 hs hc x
    rw [← h2] at h3
    rcases List.mem_cons.mp h3 with e | h3
    · exact absurd e h1
    · exact h3) hq
  obtain ⟨Ls, hl, hls⟩ := hls
  exact ⟨hW, hf, hz, few_mono hst (by decide), ⟨Ls, by omega, hls⟩, ⟨2, 3, by decide, fun x => Nat.le_trans (wide_letters o hls x) hl, ch_few o hst, hm, by decide⟩, fun l hn h => Nat.le_trans (nodup_sum_le bsize hn fun s hs' => by
    obtain ⟨x, rfl⟩ := h s hs'
    exact few_list o hW h0 hs hc x) hT⟩
/-! ### leads, rests -/
include oB
theorem nice_lead {W E : List (List α)} (h : Nice le W) : (lead le leB W E).length ≤ 40 ∧ ∀ w ∈ lead le leB W E, w.length ≤ 4 := by
  obtain ⟨k, d, h1, h2, h3, h4, h5⟩ := h.one.wide
  refine ⟨Nat.le_trans (lead_cnt o h3 h4 h2 (Nat.le_refl _) (Nat.le_refl _) (isBase_lead o oB W E)) h5, fun w hw => ?_⟩
  have hy : Min (Ld W E []) w := (isBase_lead o oB W E).mem.mp hw
  rcases lead_len o h3 h4 hy with q | q <;> omega
theorem nice_rest {W A : List (List α)} (h : Nice le W) : (restOf le leB W A).length ≤ 40 ∧ ∀ w ∈ restOf le leB W A, w.length ≤ 4 := by
  have e := rev_rest (leB := leB) o oB W A
  have q := nice_lead o oB (W := Mo.rev le W) (E := Mo.rev le A) (Nice.rev o h)
  have cb : CB le (restOf le leB W A) := (isBase_restOf o oB W A).cb
  refine ⟨?_, fun w hw => ?_⟩
  · have := rev_len o (W := Mo.rev le (restOf le leB W A))
    rw [rev_rev o cb, e] at this
    omega
  · have : w.reverse ∈ Mo.rev le (restOf le leB W A) := (mem_rev o cb).mpr (by rw [List.reverse_reverse]; exact hw)
    rw [e] at this
    have := q.2 _ this
    rwa [List.length_reverse] at this
omit oB
theorem st_ten {W : List (List α)} (h : Nice1 le W) {l : List (List (List α))} (hn : l.Nodup) (hs : ∀ s ∈ l, ∃ x, s = standing le W x) : l.length ≤ 10 := by
  by_cases c : ALW ∈ l
  · have h1 := h.st (l.erase ALW) (hn.erase _) fun s h' => ⟨fun z => by rw [z] at h'; exact (List.Nodup.not_mem_erase hn) h', hs s (List.mem_of_mem_erase h')⟩
    rw [List.length_erase_of_mem c] at h1
    omega
  · have h1 := h.st l hn fun s h' => ⟨fun z => c (by rw [← z]; exact h'), hs s h'⟩
    omega
/-! ### the states on the way -/
/-- what is shortest behind any p is short, over few letters -/
def Deep (states : List (List (List α))) (ends : List (List α)) : Prop := ∃ Ls : List α, Ls.length ≤ 3 ∧ ∀ p y, Min (fun z => UU states ends (p ++ z)) y → y.length ≤ 4 ∧ ∀ c ∈ y, c ∈ Ls
structure Node (le : List α → List α → Bool) (leB : List (List α) → List (List α) → Bool) (W : List (List α)) (states : List (List (List α))) : Prop where
  st : ∀ s ∈ states, ∃ x, s = standing le W x
  rise : Rise leB states
theorem Node.cb {W : List (List α)} {states : List (List (List α))} (h : Node le leB W states) : ∀ s ∈ states, CB le s := fun s hs => by
  obtain ⟨x, rfl⟩ := h.st s hs
  exact cb_standing o _ _
theorem deep_step {states : List (List (List α))} {ends : List (List α)} (n : α) (h : Deep states ends) : Deep (stepsH le leB states n) ends := by
  obtain ⟨Ls, h1, h2⟩ := h
  exact ⟨Ls, h1, fun p y hy => h2 (n :: p) y (hy.congr fun z => uu_step o)⟩
include oB
theorem deep_into {states : List (List (List α))} {ends : List (List α)} (hc : ∀ s ∈ states, CB le s) (h : Deep states ends) : (into le states ends).length ≤ 121 ∧ ∀ w ∈ into le states ends, w.length ≤ 4 := by
  obtain ⟨Ls, h1, h2⟩ := h
  have b := isBase_into o oB (ends := ends) hc
  have q : ∀ w ∈ into le states ends, w.length ≤ 4 ∧ ∀ c ∈ w, c ∈ Ls := fun w hw => h2 [] w (b.mem.mp hw)
  refine ⟨Nat.le_trans (words_cnt b.cb.rise.nodup (fun y hy => (q y hy).1) fun y hy => (q y hy).2) ?_, fun w hw => (q w hw).1⟩
  have : ∀ k, k ≤ 3 → cnt k 4 ≤ 121 := fun k hk => by
    have : k = 0 ∨ k = 1 ∨ k = 2 ∨ k = 3 := by omega
    rcases this with e | e | e | e <;> subst e <;> decide
  exact this _ h1
theorem node_hard {W : List (List α)} {l : List (List (List α))} (h : ∀ s ∈ l, ∃ x, s = standing le W x) : Node le leB W (hardest leB l) :=
  ⟨fun s hs => h s (hardest_sub hs), (rise_canon oB l).sublist List.filter_sublist⟩
theorem node_step {W : List (List α)} {states : List (List (List α))} (n : α) (h : Node le leB W states) : Node le leB W (stepsH le leB states n) := node_hard o oB fun s hs => by
  obtain ⟨t, ht, rfl⟩ := List.mem_map.mp hs
  obtain ⟨x, rfl⟩ := h.st t ht
  exact ⟨x ++ [n], by rw [step_standing, standing_standing o]⟩
omit oB in
theorem node_len {W : List (List α)} {states : List (List (List α))} (hW : Nice1 le W) (h : Node le leB W states) : states.length ≤ 10 := st_ten o hW h.rise.nodup h.st
omit oB in
omit oB in
theorem node_size {W : List (List α)} {states : List (List (List α))} (hW : Nice1 le W) (h : Node le leB W states) : ssize states ≤ 60 := hW.tot states h.rise.nodup h.st
omit oB in
theorem uu_am {W A E : List (List α)} {y : List α} : UU (hardest leB (A.map fun a => standing le W a)) E y ↔ Am W A E y := by
  have hc : ∀ s ∈ A.map (fun a => standing le W a), CB le s := fun s hs => by
    obtain ⟨a, _, rfl⟩ := List.mem_map.mp hs
    exact cb_standing o _ _
  rw [uu_hardest o hc]
  constructor
  · intro h a ha e he
    exact (done_standing o).mp (h _ (List.mem_map.mpr ⟨a, ha, rfl⟩) e he)
  · intro h s hs e he
    obtain ⟨a, ha, rfl⟩ := List.mem_map.mp hs
    exact (done_standing o).mpr (h a ha e he)
omit oB o in
theorem am_path {W A E : List (List α)} {p y : List α} : Am W A E (p ++ y) ↔ Am W (A.map (· ++ p)) E y := by
  constructor
  · intro h a ha e he
    obtain ⟨b, hb, rfl⟩ := List.mem_map.mp ha
    have := h b hb e he
    simpa using this
  · intro h a ha e he
    have := h _ (List.mem_map.mpr ⟨a, ha, rfl⟩) e he
    simpa using this
omit oB in
theorem deep_of {W A E : List (List α)} (hls : ∃ Ls : List α, Ls.length ≤ 3 ∧ ∀ w ∈ W, ∀ c ∈ w, c ∈ Ls) (h : ∀ p y, Min (Am W (A.map (· ++ p)) E) y → y.length ≤ 4) : Deep (hardest leB (A.map fun a => standing le W a)) E := by
  obtain ⟨Ls, h1, h2⟩ := hls
  refine ⟨Ls, h1, fun p y hy => ?_⟩
  have hy' : Min (Am W (A.map (· ++ p)) E) y := hy.congr fun z => (uu_am o).trans am_path
  refine ⟨h p y hy', fun c hc => ?_⟩
  obtain ⟨w, hw, hcw⟩ := min_letters hy' c hc
  exact h2 w hw c hcw
omit oB in
theorem deep_lead {W E : List (List α)} (h : Nice1 le W) : Deep (hardest leB (ALW.map fun a => standing le W a)) E := deep_of o h.ls fun p y hy => by
  obtain ⟨k, d, h1, h2, h3, h4, h5⟩ := h.wide
  have hy' : Min (Ld W E p) y := hy.congr fun z => ⟨fun h e he => h p (by simp) e he, fun h a ha e he => by
    have : a = p := by simpa using ha
    rw [this]; exact h e he⟩
  rcases lead_len o h3 h4 hy' with q | q <;> omega
omit oB in
theorem deep_rest {W A : List (List α)} (h : Nice le W) : Deep (hardest leB (A.map fun a => standing le W a)) ALW := deep_of o h.one.ls fun p y hy => by
  obtain ⟨k, d, h1, h2, h3, h4, h5⟩ := h.two.wide
  have key : ∀ z : List α, Am W (A.map (· ++ p)) ALW z.reverse ↔ Ld (Mo.rev le W) ((A.map (· ++ p)).map List.reverse) [] z := fun z => by
    constructor
    · intro h e he
      obtain ⟨a, ha, rfl⟩ := List.mem_map.mp he
      have := h a ha [] (List.mem_singleton.mpr rfl)
      rw [List.nil_append, done_rev o]
      simpa using this
    · intro h a ha e he
      rw [List.mem_singleton.mp he]
      have := h _ (List.mem_map.mpr ⟨a, ha, rfl⟩)
      rw [List.nil_append, done_rev o] at this
      simpa using this
  have hy' : Min (Ld (Mo.rev le W) ((A.map (· ++ p)).map List.reverse) []) y.reverse := ⟨(key _).mp (by rw [List.reverse_reverse]; exact hy.1), fun z hz s => by
    have e := hy.2 z.reverse ((key z).mpr hz) (by
      have := s.reverse
      rwa [List.reverse_reverse] at this)
    rw [← e, List.reverse_reverse]⟩
  rw [← List.length_reverse]
  rcases lead_len o h3 h4 hy' with q | q <;> omega
omit oB in
/-- few, short: one, two of two words at most -/
theorem deep_amid {W A E : List (List α)} (hls : ∃ Ls : List α, Ls.length ≤ 3 ∧ ∀ w ∈ W, ∀ c ∈ w, c ∈ Ls) (hW : ∀ w ∈ W, w.length ≤ 2) (hAE : A.length * E.length ≤ 4) : Deep (hardest leB (A.map fun a => standing le W a)) E := deep_of o hls fun p y hy => by
  rcases amid_len (m := 1) hW hy with q | q
  · omega
  · rw [List.length_map, Nat.mul_one] at q; omega
omit oB in
theorem deep_amid1 {W A E : List (List α)} (hls : ∃ Ls : List α, Ls.length ≤ 3 ∧ ∀ w ∈ W, ∀ c ∈ w, c ∈ Ls) (hW : ∀ w ∈ W, w.length ≤ 3) (hAE : A.length * E.length ≤ 2) : Deep (hardest leB (A.map fun a => standing le W a)) E := deep_of o hls fun p y hy => by
  rcases amid_len (m := 2) hW hy with q | q
  · omega
  · rw [List.length_map] at q; omega
omit oB in
theorem deep_amid2 {W A E : List (List α)} {x : α} (hls : ∃ Ls : List α, Ls.length ≤ 3 ∧ ∀ w ∈ W, ∀ c ∈ w, c ∈ Ls) (hW : ∀ w, w ∈ W ↔ ∃ t ∈ E, w = x :: t) (hE : ∀ t ∈ E, t.length ≤ 2) (hAE : A.length * E.length ≤ 4) : Deep (hardest leB (A.map fun a => standing le W a)) E := deep_of o hls fun p y hy => by
  rcases amid_len2 (m := 1) hW hE hy with q | q
  · omega
  · rw [List.length_map, Nat.mul_one] at q; omega
end
end
end Mo
set_option maxHeartbeats 4000000
/-! the law's least_into: the states on the way, a memo -/
namespace MoD
open PySem PySem.Spec PyProof.Rows L2 MoR PySem.W Evl
variable {P : Program} {w : World} {K : PySem.W.Frag} {nv av : Addr}
/-! ### dicts -/
def dicP {α β : Type} [Ec α] [Ec β] (P : Program) (w : World) (K : PySem.W.Frag) (es : List (α × β)) : VP := fun v H => ∃ a, v = .ref a ∧ DicAt P w K H a es
theorem mono_dic {α β : Type} [Ec α] [Ec β] (es : List (α × β)) : MonoP (dicP P w K es) := fun _ _ _ e ⟨a, h1, h2⟩ => ⟨a, h1, h2.ex e⟩
theorem ep_notInDic {σ : L2.St} {H : Hp} {ta tb : TE} {α β : Type} [En α] [Ec β] [DecidableEq α] {k0 : α} {es : List (α × β)} (hT : ∃ ds, Ec.enc k0 = .tuple ds) (ha : EvP ta σ H (isP K k0)) (hb : EvP tb σ H (dicP P w K es)) (hd : En.dp α ≤ 8 := by decide) : EvP (tOp (rNotInDic P w K) ta tb) σ H (isP K (!decide (k0 ∈ es.map (·.1)))) :=
  ep_op ha (mono_is _) hb fun x y H1 e p p2 Q q => by
    obtain ⟨a, rfl, h2⟩ := p2
    obtain ⟨b, rfl⟩ := Is.ref hT p
    exact ⟨α, β, inferInstance, inferInstance, inferInstance, k0, b, a, es, rfl, p, rfl, h2, hd, q _ _ (Ex.refl _) (.bl _)⟩
theorem ep_dicget {σ : L2.St} {H : Hp} {ta tb : TE} {α β : Type} [En α] [Ec β] [DecidableEq α] {k0 : α} {y0 : β} {es : List (α × β)} (hT : ∃ ds, Ec.enc k0 = .tuple ds) (ha : EvP ta σ H (dicP P w K es)) (hb : EvP tb σ H (isP K k0)) (hy : (es.find? fun e => decide (e.1 = k0)).map (·.2) = some y0) (hd : En.dp α ≤ 8 := by decide) : EvP (tDicGet P w K ta tb) σ H (isP K y0) := fun H1 e Q q =>
  ha H1 e _ fun x H2 e2 p => hb H2 (e.trans e2) _ fun y H3 e3 p2 => by
    obtain ⟨a, rfl, h2⟩ := p
    obtain ⟨b, rfl⟩ := Is.ref hT p2
    have hin : k0 ∈ es.map (·.1) := by
      have := find_mem (es := es) (k0 := k0)
      rw [show (es.find? fun e => decide (e.1 = k0)).isSome = true by
        cases z : es.find? fun e => decide (e.1 = k0) with
        | none => rw [z] at hy; cases hy
        | some r => rfl] at this
      exact of_decide_eq_true this.symm
    exact ⟨α, β, inferInstance, inferInstance, inferInstance, k0, b, a, es, rfl, rfl, p2, h2.ex e3, hd, hin, fun v y1 h3 h4 => q v H3 (e2.trans e3) (by rw [hy] at h3; cases h3; exact h4)⟩
theorem ep_k {σ : L2.St} {H : Hp} {R : VP} {v : V} (m : MonoP R) (h : R v H) : EvP (tC v) σ H R := fun H1 e Q q => q v H1 (Ex.refl H1) (m _ _ _ e h)
theorem exl_sub {W W' : List Addr} {H H' : Hp} (h : ∀ a ∈ W, a ∈ W') (e : ExL K W H H') : ExL K W' H H' := ⟨fun a o ha q => e.ob a o (fun z => ha (h a z)) q, e.tk⟩
theorem exl_ext {W : List Addr} {H H' : Hp} {a : Addr} {φ : Heap → Prop} {o : HO} (e : ExL K W H H') (ha : a ∈ W) (h : H' a = some (.ext φ)) : ExL K W H (upd H' a o) :=
  ⟨fun b u hb q => by rw [upd_ne (fun z => hb (by rw [z]; exact ha))]; exact e.ob b u hb q, e.tk.trans (.ext h)⟩
/-- a dict that another write leaves alone -/
theorem dic_at' {α β : Type} [Ec α] [Ec β] {H H' : Hp} {a : Addr} {es : List (α × β)} (h : DicAt P w K H a es) (t : Tk K H H') (e : ∀ o, H a = some o → H' a = some o) : DicAt P w K H' a es := by
  obtain ⟨kvs, h1, h2⟩ := h
  exact ⟨kvs, e _ h1, h2.tk t⟩
/-- a list comprehension over what a def gives, whatever that def changes -/
theorem lc_call {σ : L2.St} {H : Hp} {sp : Sp} {ts : TA} {g : TG} {t : TT} {te : TE} {vs : List Nat} {Ps : List VP} {R : List V → Hp → Prop} (ea : EvAs ts σ H Ps) (h : ∀ ws H2, Ex H H2 → AllP Ps ws H2 → sp (ws ++ []) H2 (fun v H3 => tLc (iSeq K (tC v)) g t te vs σ H3 (fun x H4 => R [x] H4)) E0) :
    tCons (tLc (iSeq K (tCall sp [] E0 ts)) g t te vs) tNil σ H R := by
  show ts σ H fun ws H2 => sp (ws ++ []) H2 (fun v H3 => tLc (iSeq K (tC v)) g t te vs σ H3 (fun x H4 => R [x] H4)) E0
  exact ea H (Ex.refl H) _ h
/-! ### the memo -/
abbrev MD := List (List Bs × Bs)
structure Memo (W ends : Bs) (es : MD) : Prop where
  nd : (es.map (·.1)).Nodup
  at_ : ∀ e ∈ es, Mo.Node leW leB W e.1 ∧ e.2 = Mo.into leW e.1 ends
abbrev oB : Mo.TOrd leB := ordE Bs
theorem memo_len {W ends : Bs} {es : MD} (hW : Mo.Nice1 leW W) (h : Memo W ends es) : es.length ≤ 1024 := by
  have hQ : (Mo.canon leB ((es.map (·.1)).flatMap id)).length ≤ 10 := Mo.st_ten ordW hW (Mo.rise_canon oB _).nodup fun s hs => by
    obtain ⟨k, hk, hs⟩ := List.mem_flatMap.mp (Mo.mem_canon.mp hs)
    obtain ⟨e, he, rfl⟩ := List.mem_map.mp hk
    exact (h.at_ e he).1.st s hs
  have := Mo.parts_cnt (Q := Mo.canon leB ((es.map (·.1)).flatMap id)) h.nd fun k hk => by
    refine ⟨fun s => decide (s ∈ k), ?_⟩
    obtain ⟨e, he, rfl⟩ := List.mem_map.mp hk
    refine Mo.rise_unique oB (h.at_ e he).1.rise ((Mo.rise_canon oB _).sublist List.filter_sublist) fun s => ?_
    rw [List.mem_filter, Mo.mem_canon, decide_eq_true_eq]
    exact ⟨fun hs => ⟨List.mem_flatMap.mpr ⟨e.1, List.mem_map.mpr ⟨e, he, rfl⟩, hs⟩, hs⟩, fun z => z.2⟩
  rw [List.length_map] at this
  exact Nat.le_trans this (Nat.le_trans (Nat.pow_le_pow_right (by decide) hQ) (by decide))
theorem memo_find {W ends : Bs} {es : MD} (h : Memo W ends es) {k : List Bs} (hk : k ∈ es.map (·.1)) : (es.find? fun e => decide (e.1 = k)).map (·.2) = some (Mo.into leW k ends) := by
  cases z : es.find? fun e => decide (e.1 = k) with
  | none =>
    obtain ⟨e, he, hek⟩ := List.mem_map.mp hk
    have := List.find?_eq_none.mp z e he
    simp [hek] at this
  | some e =>
    have h1 := List.find?_some z
    have h2 := List.mem_of_find?_eq_some z
    rw [decide_eq_true_eq] at h1
    show some e.2 = _
    rw [(h.at_ e h2).2, h1]
theorem node_srt {W : Bs} {states : List Bs} (h : ∀ s ∈ states, ∃ x, s = Mo.standing leW W x) : Srt states := by
  by_cases hW : W = []
  · right
    intro s hs
    obtain ⟨x, rfl⟩ := h s hs
    rw [hW]; rfl
  · left
    intro s hs z
    obtain ⟨x, rfl⟩ := h s hs
    cases W with
    | nil => exact hW rfl
    | cons u W =>
      have : Mo.Done (Mo.standing leW (u :: W) x) u := (Mo.done_standing ordW).mpr ⟨u, List.mem_cons_self, List.sublist_append_right _ _⟩
      rw [z] at this
      exact Mo.done_nil _ this
theorem nice_sm {W : Bs} (hW : Mo.Nice1 leW W) (x : Wd) : (Mo.standing leW W x).length ≤ 8 ∧ ∀ u ∈ Mo.standing leW W x, u.length ≤ 4 := by
  refine ⟨Nat.le_trans (Mo.standing_len ordW W x) hW.few, fun u hu => ?_⟩
  obtain ⟨v, hv, rfl⟩ := List.mem_map.mp (Mo.leastOf_sub ordW hu)
  exact Nat.le_trans (Mo.rest_len v x) (hW.short v hv)
/-- the names that come next -/
def nexts (states : List Bs) : List Str := Mo.canon (leE Str) (states.flatMap names)
theorem mem_nexts {states : List Bs} {n : Str} : n ∈ nexts states ↔ ∃ s ∈ states, n ∈ Mo.heads s := by
  unfold nexts names
  rw [Mo.mem_canon, List.mem_flatMap]
  constructor
  · rintro ⟨s, hs, h⟩; exact ⟨s, hs, Mo.mem_canon.mp h⟩
  · rintro ⟨s, hs, h⟩; exact ⟨s, hs, Mo.mem_canon.mpr h⟩
theorem nexts_len {W : Bs} {states : List Bs} (hW : Mo.Nice1 leW W) (h : Mo.Node leW leB W states) : (nexts states).length ≤ 3 := by
  obtain ⟨Ls, h1, h2⟩ := hW.ls
  refine Nat.le_trans (Mo.nodup_le (Mo.rise_canon (ordE Str) _).nodup fun n hn => ?_) h1
  obtain ⟨s, hs, hn⟩ := mem_nexts.mp hn
  obtain ⟨x, rfl⟩ := h.st s hs
  obtain ⟨u, hu⟩ := Mo.mem_heads.mp hn
  obtain ⟨v, hv, e⟩ := List.mem_map.mp (Mo.leastOf_sub ordW hu)
  obtain ⟨p, hp, _⟩ := Mo.rest_suffix x v
  exact h2 v hv n (by rw [← hp, e]; simp)
/-- the rows that least_into gathers -/
noncomputable def gath (states : List Bs) (ends : Bs) (ns : List Str) : Bs := (ns.filter fun n => decide (Mo.stepsH leW leB states n ≠ states)).flatMap fun n => (Mo.into leW (Mo.stepsH leW leB states n) ends).map fun y => n :: y
theorem gath_into {W : Bs} {states : List Bs} {ends : Bs} (h : Mo.Node leW leB W states) (hn : ¬ ∀ s ∈ states, ∀ e ∈ ends, Mo.Done s e) : Mo.leastOf leW (gath states ends (nexts states)) = Mo.into leW states ends := by
  have hb := Mo.into_step ordW (leB := leB) (L := fun n => Mo.into leW (Mo.stepsH leW leB states n) ends) (h.cb ordW) hn (names := nexts states) (fun n => mem_nexts) fun n _ _ => Mo.isBase_into ordW oB ((Mo.node_step ordW oB n h).cb ordW)
  exact (Mo.theBase_eq ordW hb).symm
theorem gath_len {W : Bs} {states : List Bs} {ends : Bs} (hd : Mo.Deep states ends) (h : Mo.Node leW leB W states) : ∀ ns : List Str, (gath states ends ns).length ≤ ns.length * 121 ∧ ∀ y ∈ gath states ends ns, y.length ≤ 5 := by
  have key : ∀ n, (Mo.into leW (Mo.stepsH leW leB states n) ends).length ≤ 121 ∧ ∀ y ∈ Mo.into leW (Mo.stepsH leW leB states n) ends, y.length ≤ 4 := fun n =>
    Mo.deep_into ordW oB ((Mo.node_step ordW oB n h).cb ordW) (Mo.deep_step ordW n hd)
  intro ns
  induction ns with
  | nil => exact ⟨Nat.zero_le _, fun y hy => (by cases hy)⟩
  | cons n ns ih =>
    unfold gath at ih ⊢
    rw [List.filter_cons]
    by_cases c : decide (Mo.stepsH leW leB states n ≠ states) = true
    · rw [if_pos c, List.flatMap_cons]
      refine ⟨?_, fun y hy => ?_⟩
      · rw [List.length_append, List.length_map, List.length_cons, Nat.succ_mul]
        have := (key n).1
        have := ih.1
        omega
      · rcases List.mem_append.mp hy with hy | hy
        · obtain ⟨u, hu, rfl⟩ := List.mem_map.mp hy
          have := (key n).2 u hu
          rw [List.length_cons]; omega
        · exact ih.2 y hy
    · rw [if_neg c]
      refine ⟨?_, ih.2⟩
      rw [List.length_cons, Nat.succ_mul]
      have := ih.1
      omega
theorem gath_snoc {states : List Bs} {ends : Bs} {ns : List Str} {n : Str} : gath states ends (ns ++ [n]) = gath states ends ns ++ if Mo.stepsH leW leB states n ≠ states then (Mo.into leW (Mo.stepsH leW leB states n) ends).map fun y => n :: y else [] := by
  unfold gath
  rw [List.filter_append, List.flatMap_append, List.filter_cons, List.filter_nil]
  by_cases c : Mo.stepsH leW leB states n ≠ states
  · rw [if_pos (decide_eq_true c), if_pos c]; simp
  · rw [if_neg (by simpa using c), if_neg c]; simp
/-! ### least_into -/
abbrev spinto (P : Program) (w : World) (K : PySem.W.Frag) (n : Nat) : Sp := fun vs H Q _ => ∃ (W : Bs) (states : List Bs) (ends : Bs) (v1 v2 : V) (d : Addr) (es : MD), vs = [v1, v2, .ref d] ∧ Is K H v1 states ∧ Is K H v2 ends ∧ DicAt P w K H d es ∧
  Mo.Nice1 leW W ∧ Mo.Node leW leB W states ∧ Mo.Deep states ends ∧ Memo W ends es ∧ Mo.ssize states < n ∧ ends.length < 4096 ∧
  ∀ v H' es', ExL K [d] H H' → Is K H' v (Mo.into leW states ends) → DicAt P w K H' d es' → Memo W ends es' → (∀ k ∈ es'.map (·.1), k ∈ es.map (·.1) ∨ Mo.ssize k ≤ Mo.ssize states) → Q v H'
theorem len_into (n : Nat) (vs : List V) (H : Hp) (Q : VK) (E : XK) (h : spinto P w K n vs H Q E) : vs.length = 3 := by
  obtain ⟨W, states, ends, v1, v2, d, es, rfl, _⟩ := h
  rfl
theorem pure_into (N : NA K nv av) (n : Nat) (vs : List V) (H : Hp) (Q : VK) (E : XK) (h : spinto P w K (n + 1) vs H Q E) :
    trleast_into P w K nv av (spbase_of K) (spdoes K) (spstep K) (spfirst_names K) (sphardest K) (spinto P w K n) { nx := fun _ H' => Q .non H', rt := Q } (L2.start Nleast_into vs) H := by
  obtain ⟨W, states, ends, v1, v2, d, es, rfl, i1, i2, hD, hW, hN, hdp, hM, hz, he, q⟩ := h
  have hs10 : states.length ≤ 10 := Mo.node_len ordW hW hN
  have hst : ∀ s ∈ states, s.length ≤ 8 ∧ ∀ u ∈ s, u.length ≤ 4 := fun s hs => by
    obtain ⟨x, rfl⟩ := hN.st s hs
    exact nice_sm hW x
  have hsm : ∀ s ∈ states, Sm 4096 s := fun s hs => ⟨by have := (hst s hs).1; omega, fun u hu => by have := (hst s hs).2 u hu; omega⟩
  have hT : ∃ ds, Ec.enc (α := List Bs) states = .tuple ds := ⟨_, rfl⟩
  unfold trleast_into
  refine sq (ms_if (b := states.all fun s => ends.all fun e => Mo.does s e) (EvT.at (et_V (ep_all (el_lc2 (fun _ => ends) (fun s e => Mo.does s e) (wk_seq (ep_vis rfl i1).sq) ?_ (fun _ => rfl) (fun _ _ => rfl) (fun x hx v H1 W e1 _ iv => wk_is (ep_vis rfl (i2.ex e1))) fun x hx y hy v w H1 e1 iv iw => call_does (by have := (hst x hx).1; omega) (ea_cons' (ep_vis rfl iv) (mono_is _) (ea_cons' (ep_vis rfl iw) (mono_is _) ea_nil'))))) ?_) (fun hb H1 e1 => ?_) fun hb H1 e1 => ?_)
  · rw [sum_const]
    have := Nat.mul_le_mul hs10 (Nat.le_of_lt he)
    omega
  · rw [List.all_flatMap]
    congr 1
    funext x
    rw [List.all_map]; rfl
  · have hall : ∀ s ∈ states, ∀ e ∈ ends, Mo.Done s e := fun s hs e he' => Mo.does_iff.mp (List.all_eq_true.mp (List.all_eq_true.mp hb s hs) e he')
    have e2 : Mo.into leW states ends = Mo.ALW := Mo.theBase_eq ordW (Mo.uu_always hall)
    refine ms_ret (ep_alw N) fun v H2 e3 r => q v H2 es (.of (e1.trans e3)) (by rw [e2]; exact r) (hD.ex (e1.trans e3)) hM fun k hk => .inl hk
  have hnd : ¬ ∀ s ∈ states, ∀ e ∈ ends, Mo.Done s e := fun z => by
    have : (states.all fun s => ends.all fun e => Mo.does s e) = true := List.all_eq_true.mpr fun s hs => List.all_eq_true.mpr fun e he' => Mo.does_iff.mpr (z s hs e he')
    rw [this] at hb; cases hb
  obtain ⟨b1, rfl⟩ := Is.ref hT i1
  unfold tNext
  dsimp only
  refine sq (ms_if (et_T (ep_notInDic hT (ep_vis rfl (i1.ex e1)) (ep_var rfl (mono_dic es) ⟨d, rfl, hD.ex e1⟩))) (fun hb2 H2 e2 => ?_) fun hb2 H2 e2 => ?_)
  case refine_2 =>
    have hin : states ∈ es.map (·.1) := by simpa using hb2
    refine ms_ret (ep_dicget hT (ep_var rfl (mono_dic es) ⟨d, rfl, hD.ex (e1.trans e2)⟩) (ep_vis rfl (i1.ex (e1.trans e2))) (memo_find hM hin)) fun v H3 e3 r => ?_
    have et := (e1.trans e2).trans e3
    exact q v H3 es (.of et) r (hD.ex et) hM fun k hk => .inl hk
  have hin : states ∉ es.map (·.1) := by simpa using hb2
  refine sq (ms_asg (ep_lst0 (K := K) (α := Wd)) fun v H3 e3 p3 => ?_)
  obtain ⟨r, us0, rfl, hr0, hr, hu0⟩ := p3
  have e123 : Ex H H3 := (e1.trans e2).trans e3
  have hrH : H r = none := fresh_back (e1.trans e2) hr0
  have hdr : d ≠ r := fun z => by
    obtain ⟨kvs, h1, _⟩ := hD
    rw [z, hrH] at h1
    cases h1
  have hdk : ∀ {H' : Hp} {es' : MD}, DicAt P w K H' d es' → H' d ≠ none := fun {H' es'} h z => by
    obtain ⟨kvs, h1, _⟩ := h
    rw [h1] at z
    cases z
  have hnx := nexts_len hW hN
  refine sq (s_for (W := [r, d]) (xs := nexts states) (wk_new (ex_canonT (xs := states.flatMap names) (EvP.sqn (EvP.atL (el_lc2 (fun s => names s) (fun s n => n) (wk_seq (ep_vis rfl (i1.ex e123)).sq) ?_ (fun _ => rfl) (fun _ _ => rfl) (fun x hx v H4 WW e4 hWW iv => wk_new (call_first_names (by have := (hst x hx).1; omega) (ea_cons' (ep_vis rfl iv) (mono_is _) ea_nil')) fun a ha => (hWW a ha).2) fun x hx y hy v w H4 e4 iv iw => ep_vis rfl iw) ?_)) ?_) fun a ha => ?_)
    (fun H4 i σ' H' => ∃ us rs es' x4 x5, ExL K [r, d] H4 H' ∧ H' r = some (.lst us) ∧ IsAll K H' us rs ∧ rs = gath states ends ((nexts states).take i) ∧ DicAt P w K H' d es' ∧ Memo W ends es' ∧ (∀ k ∈ es'.map (·.1), k ∈ es.map (·.1) ∨ Mo.ssize k < Mo.ssize states) ∧ σ' = [some (.ref b1), some v2, some (.ref d), some (.ref r), x4, x5, none, none, none])
    (fun H4 e4 => ⟨us0, [], es, none, none, .refl, e4 _ _ hr, ImAll.ex e4 hu0, by rw [List.take_zero]; rfl, hD.ex (e123.trans e4), hM, fun k hk => .inl hk, rfl⟩) (fun H4 i σ' H' _ p => by obtain ⟨us, rs, es', x4, x5, p, _⟩ := p; exact p) (fun H4 i x v σ' H' H'' e4 hx p e5 iv => ?_) fun H4 σ' H' e4 p => ?_)
  · have : ∀ l : List Bs, (∀ s ∈ l, s.length ≤ 8) → (l.map fun s => (names s).length).sum ≤ l.length * 8 := fun l hl => by
      induction l with
      | nil => exact Nat.zero_le _
      | cons s l ih =>
        have h1 := hl s List.mem_cons_self
        have h2 := ih fun t ht => hl t (List.mem_cons_of_mem _ ht)
        have h3 : (names s).length ≤ (Mo.heads s).length := Mo.canon_len (ordE Str) _
        have h4 := Mo.heads_len s
        rw [List.map_cons, List.sum_cons, List.length_cons]
        omega
    have := this states fun s hs => (hst s hs).1
    omega
  · congr 1
    funext s
    rw [List.map_id']
  · have : ∀ l : List Bs, (∀ s ∈ l, s.length ≤ 8) → (l.flatMap names).length ≤ l.length * 8 := fun l hl => by
      induction l with
      | nil => exact Nat.zero_le _
      | cons s l ih =>
        have h1 := hl s List.mem_cons_self
        have h2 := ih fun t ht => hl t (List.mem_cons_of_mem _ ht)
        have h3 : (names s).length ≤ (Mo.heads s).length := Mo.canon_len (ordE Str) _
        have h4 := Mo.heads_len s
        rw [List.flatMap_cons, List.length_append, List.length_cons]
        omega
    have := this states fun s hs => (hst s hs).1
    omega
  · rcases List.mem_cons.mp ha with z | z
    · rw [z, hr]; exact fun z => nomatch z
    · rw [List.mem_singleton.mp z]; exact hdk (hD.ex e123)
  · obtain ⟨us, rs, es', x4, x5, p1, p2, p3, p4, p5, p6, p7, rfl⟩ := p
    have a1 : Is K H'' (.ref b1) states := Im.tk ((Tk.ex (e123.trans e4)).trans (p1.tk.trans (.ex e5))) i1
    have a2 : Is K H'' v2 ends := Im.tk ((Tk.ex (e123.trans e4)).trans (p1.tk.trans (.ex e5))) i2
    have hi : i < (nexts states).length := (List.getElem?_eq_some_iff.mp hx).1
    have hxm : ∃ s ∈ states, x ∈ Mo.heads s := mem_nexts.mp (List.mem_of_getElem? hx)
    have hlen : rs.length ≤ 3 * 121 := by
      have := (gath_len hdp hN ((nexts states).take i)).1
      rw [← p4, List.length_take] at this
      have h3 : min i (nexts states).length * 121 ≤ 3 * 121 := Nat.mul_le_mul_right _ (by omega)
      omega
    have hgs : gath states ends ((nexts states).take (i + 1)) = rs ++ if Mo.stepsH leW leB states x ≠ states then (Mo.into leW (Mo.stepsH leW leB states x) ends).map fun y => x :: y else [] := by
      rw [take_one hx, gath_snoc, p4]
    have hst2 : ∀ t ∈ states.map (fun s => Mo.step leW s x), ∃ z, t = Mo.standing leW W z := fun t ht => by
      obtain ⟨s, hs, rfl⟩ := List.mem_map.mp ht
      obtain ⟨z, rfl⟩ := hN.st s hs
      exact ⟨z ++ [x], by rw [Mo.step_standing, Mo.standing_standing ordW]⟩
    refine sq (ms_asg (call_hardest (ss := states.map fun s => Mo.step leW s x) (by rw [List.length_map]; omega) (fun t ht => ?_) (node_srt hst2) (ea_cons' (el_map (fun s => Mo.step leW s x) (wk_seq (ep_vis rfl a1).sq) (by omega) (fun _ => rfl) fun s hs u H5 e6 iu => call_step (hsm s hs) (ea_cons' (ep_vis rfl iu) (mono_is _) (ea_cons' (ep_vis rfl (iv.ex e6)) (mono_is _) ea_nil'))).sqn (mono_sq _) ea_nil')) fun u H5 e6 iu => ?_)
    · obtain ⟨z, rfl⟩ := hst2 t ht
      have := (nice_sm hW z).1
      omega
    refine ms_if (et_T (ep_ne (x := Mo.stepsH leW leB states x) (y := states) (ep_vis rfl iu) (ep_vis rfl (a1.ex e6)))) (fun hb3 H6 e7 => ?_) fun hb3 H6 e7 => ?_
    · have hne : Mo.stepsH leW leB states x ≠ states := by simpa using hb3
      rw [if_pos hne] at hgs
      have ez := e5.trans (e6.trans e7)
      have r6 : H6 r = some (.lst us) := ez _ _ p2
      refine ⟨_, rfl, .inl ⟨rfl, us, sq_of r6⟩, ?_⟩
      have ea : EvAs (tCons (tVar 5) (tCons (tVar 1) (tCons (tVar 2) tNil))) [some (.ref b1), some v2, some (.ref d), some (.ref r), some v, some u, none, none, none] H6 [isP K (Mo.stepsH leW leB states x), isP K ends, fun v H => v = .ref d ∧ DicAt P w K H d es'] :=
        ea_cons' (ep_vis rfl (iu.ex e7)) (mono_is _) (ea_cons' (ep_vis rfl (a2.ex (e6.trans e7))) (mono_is _) (ea_cons' (ep_var rfl (fun _ _ _ e h => ⟨h.1, h.2.ex e⟩) ⟨rfl, p5.ex ez⟩) (fun _ _ _ e h => ⟨h.1, h.2.ex e⟩) ea_nil'))
      refine lc_call ea fun vs7 H7 e8 ps => ?_
      obtain ⟨u1, u2, u3, rfl, j1, j2, rfl, j3⟩ := all3 ps
      have n1 := Mo.node_step ordW oB x hN
      have hlt : Mo.ssize (Mo.stepsH leW leB states x) < Mo.ssize states := Mo.ssize_steps oB ordW hxm
      refine ⟨W, Mo.stepsH leW leB states x, ends, u1, u2, d, es', rfl, j1, j2, j3, hW, n1, Mo.deep_step ordW x hdp, p6, by omega, he, fun v8 H8 es8 x8 i8 D8 M8 k8 => ?_⟩
      have et := ez.trans e8
      have r8 : H8 r = some (.lst us) := x8.ob r _ (by simpa using fun z => hdr z.symm) (et _ _ p2)
      have iv8 : Is K H8 v x := Im.tk ((Tk.ex ((e6.trans e7).trans e8)).trans x8.tk) iv
      have hil : (Mo.into leW (Mo.stepsH leW leB states x) ends).length ≤ 121 ∧ ∀ y ∈ Mo.into leW (Mo.stepsH leW leB states x) ends, y.length ≤ 4 := Mo.deep_into ordW oB (n1.cb ordW) (Mo.deep_step ordW x hdp)
      refine (el_map (te := tTup (tCons (tVar 4) (StX.tStar K (tVar 8) tNil))) (vs := [8]) (j := 8) (σ := [some (.ref b1), some v2, some (.ref d), some (.ref r), some v, some u, none, none, none]) (fun y : Wd => x :: y) (wk_is (ep_k (mono_is _) i8)) (by omega) (fun _ => rfl) fun y hy v9 H9 e9 i9 => ep_consT (ep_vis rfl (iv8.ex e9)) (ep_vis rfl i9).sq (by have := hil.2 y hy; omega)) H8 (Ex.refl _) _ fun v9 H9 e9 ⟨b9, us9, h91, _, h92, h93⟩ => ?_
      refine ⟨r, b9, us, us9, rfl, by rw [h91], e9 _ _ r8, h92, sz_of ?_, ?_⟩
      · have h1 := IsAll.len h93
        have h2 := IsAll.len p3
        rw [List.length_map] at h1
        omega
      · have hf : IsAll K H9 us rs := ImAll.tk ((Tk.ex et).trans (x8.tk.trans (.ex e9))) p3
        refine ⟨us ++ us9, rs ++ (Mo.into leW (Mo.stepsH leW leB states x) ends).map (fun y => x :: y), es8, some v, some u, ?_, upd_same, ?_, hgs.symm, ?_, M8, fun k hk => ?_, rfl⟩
        · exact ((((p1.then et).trans (exl_sub (fun a ha => by rw [List.mem_singleton.mp ha]; simp) x8)).then e9)).lst List.mem_cons_self (e9 _ _ r8)
        · exact ImAll.tk (.lst (e9 _ _ r8)) (IsAll.app hf h93)
        · exact dic_at' (D8.ex e9) (.lst (e9 _ _ r8)) fun o q => by rw [upd_ne hdr]; exact q
        · rcases k8 k hk with z | z
          · exact p7 k z
          · exact .inr (Nat.lt_of_le_of_lt z hlt)
    · have hee : Mo.stepsH leW leB states x = states := by simpa using hb3
      rw [if_neg (fun z => z hee), List.append_nil] at hgs
      have ez := e5.trans (e6.trans e7)
      exact ⟨us, rs, es', some v, some u, p1.then ez, ez _ _ p2, ImAll.ex ez p3, hgs.symm, p5.ex ez, p6, p7, rfl⟩
  · obtain ⟨us, rs, es', x4, x5, p1, p2, p3, p4, p5, p6, p7, rfl⟩ := p
    rw [List.take_length] at p4
    have hg := gath_len hdp hN (nexts states)
    have a1 : Is K H' (.ref b1) states := Im.tk ((Tk.ex (e123.trans e4)).trans p1.tk) i1
    have hmax : (nexts states).length * 121 ≤ 3 * 121 := Nat.mul_le_mul_right _ hnx
    refine (call_base_of (ws := rs) ⟨by rw [p4]; omega, fun y hy => by have := hg.2 y (by rw [← p4]; exact hy); omega⟩ (ea_cons' (ep_var rfl (mono_sq rs) ⟨r, us, rfl, .inl p2, p3⟩) (mono_sq _) ea_nil')) H' (Ex.refl _) _ fun v5 H5 e5 i5 => ?_
    refine ⟨_, rfl, _, rfl, List Bs, Bs, inferInstance, inferInstance, inferInstance, states, Mo.into leW states ends, b1, d, es', rfl, rfl, a1.ex e5, ?_, p5.ex e5, by decide, ?_, by have := memo_len hW p6; omega, fun kvs hk hd5 => ?_⟩
    · rw [p4, gath_into hN hnd] at i5; exact i5
    · intro z
      rcases p7 states z with z | z
      · exact hin z
      · exact Nat.lt_irrefl _ z
    · have hD' : DicAt P w K (upd H5 d (DicO P w d (kvs ++ [(toKey (Ec.enc states), b1, v5)]))) d (es' ++ [(states, Mo.into leW states ends)]) := ⟨_, upd_same, hk.tk (.ext hd5)⟩
      have hni : states ∉ es'.map (·.1) := fun z => by
        rcases p7 states z with z | z
        · exact hin z
        · exact Nat.lt_irrefl _ z
      have hM' : Memo W ends (es' ++ [(states, Mo.into leW states ends)]) := by
        refine ⟨?_, fun e h => ?_⟩
        · rw [List.map_append, List.nodup_append]
          refine ⟨p6.nd, by simp, fun k hk j hj e => ?_⟩
          have : j = states := by simpa using hj
          rw [e, this] at hk
          exact hni hk
        · rcases List.mem_append.mp h with h | h
          · exact p6.at_ e h
          · rw [List.mem_singleton.mp h]; exact ⟨hN, rfl⟩
      have x5 : ExL K [r, d] H4 (upd H5 d (DicO P w d (kvs ++ [(toKey (Ec.enc states), b1, v5)]))) := exl_ext (p1.then e5) (by simp) hd5
      refine ms_ret (ep_dicget hT (ep_var rfl (mono_dic _) ⟨d, rfl, hD'⟩) (ep_vis rfl (Im.tk (.ext hd5) (a1.ex e5))) (memo_find hM' (by simp))) fun v6 H6 e6 i6 => ?_
      refine q v6 H6 _ ⟨fun b o hb hq => ?_, ((Tk.ex (e123.trans e4)).trans x5.tk).trans (.ex e6)⟩ i6 (hD'.ex e6) hM' fun k hk => ?_
      · refine e6 _ _ (x5.ob b o (fun z => ?_) ((e123.trans e4) _ _ hq))
        rcases List.mem_cons.mp z with z | z
        · rw [z, hrH] at hq; cases hq
        · exact hb z
      · rw [List.map_append] at hk
        rcases List.mem_append.mp hk with hk | hk
        · exact (p7 k hk).imp id Nat.le_of_lt
        · have : k = states := by simpa using hk
          rw [this]; exact .inr (Nat.le_refl _)
end MoD
set_option maxHeartbeats 4000000
/-! amid, lead, rest_of, times; names, bases, splits told -/
namespace MoD
open PySem PySem.Spec PyProof.Rows L2 MoR PySem.W Evl
variable {P : Program} {w : World} {K : PySem.W.Frag} {nv av : Addr}
theorem ret_call {σ : L2.St} {H : Hp} {sp : Sp} {ts : TA} {Ps : List VP} {D : Ends} (ea : EvAs ts σ H Ps) (h : ∀ ws H2, Ex H H2 → AllP Ps ws H2 → sp (ws ++ []) H2 D.rt E0) : tRet (tCall sp [] E0 ts) D σ H := ea H (Ex.refl H) _ h
/-- few, short -/
def Ok (b : Bs) : Prop := b.length < 4096 ∧ ∀ u ∈ b, u.length < 20000
theorem Ok.sm {b : Bs} (h : Ok b) : Sm 4096 b := h
abbrev spamid (K : PySem.W.Frag) : Sp := spP (fun i : Bs × Bs × Bs => [isP K i.1, sqP K i.2.1, sqP K i.2.2]) (fun i => Mo.Nice1 leW i.1 ∧ Mo.Deep (Mo.hardest leB (i.2.1.map fun a => Mo.standing leW i.1 a)) i.2.2 ∧ Ok i.2.1 ∧ Ok i.2.2) (fun i _ => isP K (Mo.amid leW leB i.1 i.2.1 i.2.2))
theorem pure_amid (vs : List V) (H : Hp) (Q : VK) (E : XK) (h : spamid K vs H Q E) : tramid P w K nv av (sptupled K) (spstanding K) (sphardest K) (spinto P w K 61) { nx := fun _ H' => Q .non H', rt := Q } (L2.start Namid vs) H := by
  obtain ⟨⟨W, A, E0'⟩, h, ⟨hW, hD, hA, hE⟩, q⟩ := h
  obtain ⟨v1, v2, v3, rfl, h1, h2, h3⟩ := all3 h
  replace h1 : Is K H v1 W := h1
  replace h2 : sqP K A v2 H := h2
  replace h3 : sqP K E0' v3 H := h3
  replace hW : Mo.Nice1 leW W := hW
  replace hA : Ok A := hA
  replace hE : Ok E0' := hE
  have hWs : Sm 4096 W := ⟨by have := hW.few; omega, fun u hu => by have := hW.short u hu; omega⟩
  have hst : ∀ t ∈ A.map (fun a => Mo.standing leW W a), ∃ z, t = Mo.standing leW W z := fun t ht => by
    obtain ⟨a, _, rfl⟩ := List.mem_map.mp ht
    exact ⟨a, rfl⟩
  have hN : Mo.Node leW leB W (Mo.hardest leB (A.map fun a => Mo.standing leW W a)) := Mo.node_hard ordW oB hst
  have ea : EvAs (tCons (tCall (sphardest K) [] E0 (tCons (tLc (iSeq K (tCall (sptupled K) [] E0 (tCons (tVar 1) (tNil)))) (gName 3) tYes (tCall (spstanding K) [] E0 (tCons (tVar 0) (tCons (tVar 3) (tNil)))) [3]) (tNil))) (tCons (tCall (sptupled K) [] E0 (tCons (tVar 2) (tNil))) (tCons (tDicNew P w) (tNil)))) [some v1, some v2, some v3, none] H
      [isP K (Mo.hardest leB (A.map fun a => Mo.standing leW W a)), isP K E0', fun v H' => ∃ d, v = .ref d ∧ H d = none ∧ DicAt P w K H' d ([] : MD)] := by
    refine ea_cons' (call_hardest (ss := A.map fun a => Mo.standing leW W a) (by rw [List.length_map]; exact hA.1) (fun t ht => ?_) (node_srt hst) (ea_cons' (el_map (fun a => Mo.standing leW W a) (wk_is (call_tupled (by have := hA.1; omega) (fun u hu => by have := hA.2 u hu; omega) (ea_cons' (ep_var rfl (mono_sq A) h2) (mono_sq _) ea_nil'))) (by have := hA.1; omega) (fun _ => rfl) fun x hx v H1 e1 iv => ?_).sqn (mono_sq _) ea_nil')) (mono_is _) (ea_cons' (call_tupled (by have := hE.1; omega) (fun u hu => by have := hE.2 u hu; omega) (ea_cons' (ep_var rfl (mono_sq E0') h3) (mono_sq _) ea_nil')) (mono_is _) (ea_cons' (fun H1 e Q q => fun p hp => ?_) ?_ ea_nil'))
    · obtain ⟨z, rfl⟩ := hst t ht
      have := (nice_sm hW z).1
      omega
    · exact call_standing hWs (ea_cons' (ep_vis rfl (h1.ex e1)) (mono_is _) (ea_cons' (ep_vis rfl iv) (mono_is _) ea_nil'))
    · exact q _ _ (Ex.new hp) ⟨p, rfl, fresh_back e hp, [], upd_same, .nil⟩
    · exact fun _ _ _ e ⟨d, h1, h2, h3⟩ => ⟨d, h1, h2, h3.ex e⟩
  unfold tramid
  refine ret_call ea fun ws H2 e2 ps => ?_
  obtain ⟨u1, u2, u3, rfl, j1, j2, d, rfl, j3, j4⟩ := all3 ps
  have hz := Mo.node_size ordW hW hN
  refine ⟨W, _, E0', u1, u2, d, [], rfl, j1, j2, j4, hW, hN, hD, ⟨List.nodup_nil, fun e he => (by cases he)⟩, by omega, hE.1, fun v H' es' x i _ _ _ => ?_⟩
  refine q v H' (fun b o hb => x.ob b o (fun z => ?_) (e2 _ _ hb)) i
  rw [List.mem_singleton.mp z, j3] at hb
  cases hb
theorem call_amid {σ : L2.St} {H : Hp} {ts : TA} {W A E : Bs} (hW : Mo.Nice1 leW W) (hD : Mo.Deep (Mo.hardest leB (A.map fun a => Mo.standing leW W a)) E) (hA : Ok A) (hE : Ok E) (h : EvAs ts σ H [isP K W, sqP K A, sqP K E]) : EvP (tCall (spamid K) [] E0 ts) σ H (isP K (Mo.amid leW leB W A E)) :=
  ep_sp (W, A, E) ⟨hW, hD, hA, hE⟩ h fun _ _ _ _ r => r
theorem ok_alw : Ok Mo.ALW := ⟨by decide, fun u hu => by rw [List.mem_singleton.mp hu]; decide⟩
abbrev splead (K : PySem.W.Frag) : Sp := spP (fun i : Bs × Bs => [isP K i.1, sqP K i.2]) (fun i => Mo.Nice leW i.1 ∧ Ok i.2) (fun i _ => isP K (Mo.lead leW leB i.1 i.2))
theorem pure_lead (N : NA K nv av) (vs : List V) (H : Hp) (Q : VK) (E : XK) (h : splead K vs H Q E) : trlead K nv av (spamid K) { nx := fun _ H' => Q .non H', rt := Q } (L2.start Nlead vs) H := by
  obtain ⟨⟨W, E0'⟩, h, ⟨hW, hE⟩, q⟩ := h
  obtain ⟨v1, v2, rfl, h1, h2⟩ := all2 h
  replace hW : Mo.Nice leW W := hW
  exact ms_ret (call_amid hW.one (Mo.deep_lead ordW hW.one) ok_alw hE (ea_cons' (ep_vis rfl h1) (mono_is _) (ea_cons' (ep_alw N).sq (mono_sq _) (ea_cons' (ep_var rfl (mono_sq E0') h2) (mono_sq _) ea_nil')))) fun v H3 e3 r => q v H3 e3 r
theorem call_lead {σ : L2.St} {H : Hp} {ts : TA} {W E : Bs} (hW : Mo.Nice leW W) (hE : Ok E) (h : EvAs ts σ H [isP K W, sqP K E]) : EvP (tCall (splead K) [] E0 ts) σ H (isP K (Mo.lead leW leB W E)) := ep_sp (W, E) ⟨hW, hE⟩ h fun _ _ _ _ r => r
abbrev sprest_of (K : PySem.W.Frag) : Sp := spP (fun i : Bs × Bs => [isP K i.1, sqP K i.2]) (fun i => Mo.Nice leW i.1 ∧ Ok i.2) (fun i _ => isP K (Mo.restOf leW leB i.1 i.2))
theorem pure_rest_of (N : NA K nv av) (vs : List V) (H : Hp) (Q : VK) (E : XK) (h : sprest_of K vs H Q E) : trrest_of K nv av (spamid K) { nx := fun _ H' => Q .non H', rt := Q } (L2.start Nrest_of vs) H := by
  obtain ⟨⟨W, A⟩, h, ⟨hW, hA⟩, q⟩ := h
  obtain ⟨v1, v2, rfl, h1, h2⟩ := all2 h
  replace hW : Mo.Nice leW W := hW
  exact ms_ret (call_amid hW.one (Mo.deep_rest ordW hW) hA ok_alw (ea_cons' (ep_vis rfl h1) (mono_is _) (ea_cons' (ep_var rfl (mono_sq A) h2) (mono_sq _) (ea_cons' (ep_alw N).sq (mono_sq _) ea_nil')))) fun v H3 e3 r => q v H3 e3 r
theorem call_rest_of {σ : L2.St} {H : Hp} {ts : TA} {W A : Bs} (hW : Mo.Nice leW W) (hA : Ok A) (h : EvAs ts σ H [isP K W, sqP K A]) : EvP (tCall (sprest_of K) [] E0 ts) σ H (isP K (Mo.restOf leW leB W A)) := ep_sp (W, A) ⟨hW, hA⟩ h fun _ _ _ _ r => r
/-! ### times -/
def powB (b : Bs) : Nat → Bs
  | 0 => Mo.ALW
  | n + 1 => Mo.thenB leW (powB b n) b
abbrev sptimes (K : PySem.W.Frag) : Sp := spP (fun i : Bs × Nat => [isP K i.1, isP K i.2]) (fun i => i.2 ≤ 100 ∧ Sm 4096 i.1 ∧ ∀ j, j < i.2 → Sm 4096 (powB i.1 j) ∧ (powB i.1 j).length * i.1.length < 4096) (fun i _ => isP K (powB i.1 i.2))
theorem pure_times (N : NA K nv av) (vs : List V) (H : Hp) (Q : VK) (E : XK) (h : sptimes K vs H Q E) : trtimes K nv av (spthen K) { nx := fun _ H' => Q .non H', rt := Q } (L2.start Ntimes vs) H := by
  obtain ⟨⟨b, n⟩, h, ⟨hn, hb, hp⟩, q⟩ := h
  obtain ⟨v1, v2, rfl, h1, h2⟩ := all2 h
  replace h1 : Is K H v1 b := h1
  replace h2 : Is K H v2 n := h2
  replace hn : n ≤ 100 := hn
  replace hb : Sm 4096 b := hb
  unfold trtimes
  refine sq (ms_asg (ep_alw N) fun v H1 e1 p1 => ?_)
  refine sq (s_for (W := []) (xs := List.range n) (wk_rng1 (ep_vis rfl (h2.ex e1)) (by omega)) (fun H2 i σ' H' => Ex H2 H' ∧ ∃ u x, Is K H' u (powB b i) ∧ σ' = [some v1, some v2, some u, x]) (fun H2 e2 => ⟨Ex.refl _, v, none, p1.ex e2, rfl⟩) (fun H2 i σ' H' _ p => .of p.1)
    (fun H2 i x u0 σ' H' H'' e2 hx p e3 iv => ?_) fun H2 σ' H' e2 p => ?_)
  · obtain ⟨p1', u, y, p2, rfl⟩ := p
    have hi : i < n := by
      have := (List.getElem?_eq_some_iff.mp hx).1
      rwa [List.length_range] at this
    obtain ⟨g1, g2⟩ := hp i hi
    have et := ((e1.trans e2).trans p1').trans e3
    exact ms_asg (call_then g1 hb g2 (ea_cons' (ep_vis rfl (p2.ex e3)).sq (mono_sq _) (ea_cons' (ep_vis rfl (h1.ex et)).sq (mono_sq _) ea_nil'))) fun v5 H5 e5 i5 => ⟨(p1'.trans e3).trans e5, v5, some u0, i5, rfl⟩
  · obtain ⟨p1', u, y, p2, rfl⟩ := p
    rw [List.length_range] at p2
    exact ms_ret (ep_vis rfl p2) fun v5 H5 e5 i5 => q v5 H5 (((e1.trans e2).trans p1').trans e5) i5
theorem call_times {σ : L2.St} {H : Hp} {ts : TA} {b : Bs} {n : Nat} (hn : n ≤ 100) (hb : Sm 4096 b) (hp : ∀ j, j < n → Sm 4096 (powB b j) ∧ (powB b j).length * b.length < 4096) (h : EvAs ts σ H [isP K b, isP K n]) : EvP (tCall (sptimes K) [] E0 ts) σ H (isP K (powB b n)) := ep_sp (b, n) ⟨hn, hb, hp⟩ h fun _ _ _ _ r => r
end MoD
set_option maxHeartbeats 4000000
/-! names, logs, bases, splits told; stages -/
namespace MoD
open PySem PySem.Spec PyProof.Rows L2 MoR PySem.W Evl
variable {P : Program} {w : World} {K : PySem.W.Frag} {nv av : Addr}
theorem ep_isi {σ : L2.St} {H : Hp} {v : V} {i : Nat} {b : Bool} {c : String} (hs : σ[i]? = some (some v)) (hv : ∀ H', Ex H H' → ∃ t, TyX K H' v t ∧ PySem.W.kitOne K t (.type c) = some b) :
    EvP (tCB (rIsi K) (tCons (tVar i) (tCons (tC (.ty c)) tNil))) σ H (isP K b) := fun H1 e Q q => by
  obtain ⟨t, ht, hb⟩ := hv H1 e
  exact ⟨v, hs, v, .ty c, t, _, b, rfl, .ty _, ht, hb, q _ H1 (Ex.refl _) (.bl _)⟩
theorem ep_chainLe {σ : L2.St} {H : Hp} {ta tb tc : TE} {a b c : Nat} (ha : EvP ta σ H (isP K a)) (hb : EvP tb σ H (isP K b)) (hc : EvP tc σ H (isP K c)) (h1 : a ≤ b) (h2 : b ≤ c) : EvP (tChain rLe' rLe' ta tb tc) σ H (isP K true) := fun H1 e Q q =>
  ha H1 e _ fun x H2 e2 p => hb H2 (e.trans e2) _ fun y H3 e3 p2 => ⟨a, b, Is.nat p, Is.nat p2, true, by show V.bl (decide ((a : Int) ≤ (b : Int))) = _; rw [decide_eq_true (by omega : (a : Int) ≤ b)], hc H3 ((e.trans e2).trans e3) _ fun z H4 e4 p3 =>
    ⟨b, c, Is.nat p2, Is.nat p3, by
      show Q (V.bl (decide ((b : Int) ≤ (c : Int)))) H4
      rw [decide_eq_true (by omega : (b : Int) ≤ c)]
      exact q _ H4 ((e2.trans e3).trans e4) (.bl _)⟩⟩
theorem isi_tup {σ : L2.St} {H : Hp} {v : V} {i : Nat} {α : Type} [Ec α] {x : α} (hT : ∃ ds, Ec.enc x = .tuple ds) (hs : σ[i]? = some (some v)) (h : Is K H v x) : EvP (tCB (rIsi K) (tCons (tVar i) (tCons (tC (.ty "tuple")) tNil))) σ H (isP K true) :=
  ep_isi hs fun H' e => by
    obtain ⟨ds, e2⟩ := hT
    have h' : Im K H' v (Ec.enc x) := Im.ex e h
    rw [e2] at h'
    cases h' with
    | tup h1 h2 => exact ⟨_, tyx_tup h1, kit_ty (by decide +kernel)⟩
/-! ### is_name, is_log, is_base -/
def NameOk (x : Str) : Prop := 1 ≤ x.length ∧ x.length ≤ 8 ∧ ∀ c ∈ x.cps.toList, c ∈ letters.cps.toList
def LogOk (l : Wd) : Prop := l.length < 40000 ∧ ∀ x ∈ l, NameOk x
def BaseOk (b : Bs) : Prop := Mo.CB leW b ∧ Ok b ∧ ∀ l ∈ b, LogOk l
abbrev spis_name (K : PySem.W.Frag) : Sp := spP (fun i : Str => [isP K i]) NameOk (fun _ _ => isP K true)
theorem all_true {α : Type} (l : List α) : (l.map fun _ => true).all id = true := by rw [List.all_map]; exact List.all_eq_true.mpr fun _ _ => rfl
theorem pure_is_name (vs : List V) (H : Hp) (Q : VK) (E : XK) (h : spis_name K vs H Q E) : tris_name K nv av { nx := fun _ H' => Q .non H', rt := Q } (L2.start Nis_name vs) H := by
  obtain ⟨x, h, ⟨h1, h2, h3⟩, q⟩ := h
  obtain ⟨v1, rfl, i1⟩ := all1 h
  have ht := Is.text i1
  subst ht
  refine ms_ret (P := isP K true) (ep_and (a := true) (b := true) (ep_isi rfl fun H' _ => ⟨_, .base (.str x), kit_ty (by decide +kernel)⟩) fun _ => ep_and (a := true) (b := true) (ep_chainLe (ep_nat (K := K) 1) (ep_lenS (ep_vis rfl i1) (by omega)) (ep_nat (K := K) 8) h1 h2) fun _ => EvP.at (ep_all (el_map (fun _ : Str => true) (wk_str (ep_vis rfl i1)) ?_ (fun _ => rfl) fun y hy v H1 e1 iv => ?_)) (all_true _)) fun v H3 e3 r => q v H3 e3 r
  · unfold MoR.signs
    rw [List.length_map, Array.length_toList]
    have : x.cps.size = x.length := rfl
    omega
  · unfold MoR.signs at hy
    obtain ⟨c, hc, rfl⟩ := List.mem_map.mp hy
    have hv := Is.text iv
    subst hv
    refine ep_op (P := isP K (⟨#[c]⟩ : Str)) (P' := isP K letters) (ep_vis rfl iv) (mono_is _) (ep_c fun _ => .str _) fun a b H2 e2 p p2 Q q => ⟨c, letters, Is.text p, Is.text p2, ?_⟩
    rw [decide_eq_true (h3 c hc)]
    exact q _ H2 (Ex.refl _) (.bl _)
theorem call_is_name {σ : L2.St} {H : Hp} {ts : TA} {x : Str} (hx : NameOk x) (h : EvAs ts σ H [isP K x]) : EvP (tCall (spis_name K) [] E0 ts) σ H (isP K true) := ep_sp x hx h fun _ _ _ _ r => r
abbrev spis_log (K : PySem.W.Frag) : Sp := spP (fun i : Wd => [isP K i]) LogOk (fun _ _ => isP K true)
theorem pure_is_log (vs : List V) (H : Hp) (Q : VK) (E : XK) (h : spis_log K vs H Q E) : tris_log K nv av (spis_name K) { nx := fun _ H' => Q .non H', rt := Q } (L2.start Nis_log vs) H := by
  obtain ⟨l, h, ⟨h1, h2⟩, q⟩ := h
  obtain ⟨v1, rfl, i1⟩ := all1 h
  exact ms_ret (P := isP K true) (ep_and (a := true) (b := true) (isi_tup (x := l) ⟨_, rfl⟩ rfl i1) fun _ => EvP.at (ep_all (el_map (fun _ : Str => true) (wk_seq (ep_vis (x := l) rfl i1).sq) (by omega) (fun _ => rfl) fun x hx v H1 e1 iv => call_is_name (h2 x hx) (ea_cons' (ep_vis rfl iv) (mono_is _) ea_nil'))) (all_true _)) fun v H3 e3 r => q v H3 e3 r
theorem call_is_log {σ : L2.St} {H : Hp} {ts : TA} {x : Wd} (hx : LogOk x) (h : EvAs ts σ H [isP K x]) : EvP (tCall (spis_log K) [] E0 ts) σ H (isP K true) := ep_sp x hx h fun _ _ _ _ r => r
abbrev spis_base (K : PySem.W.Frag) : Sp := spP (fun i : Bs => [isP K i]) BaseOk (fun _ _ => isP K true)
theorem pure_is_base (vs : List V) (H : Hp) (Q : VK) (E : XK) (h : spis_base K vs H Q E) : tris_base K nv av (spis_log K) (spbase_of K) { nx := fun _ H' => Q .non H', rt := Q } (L2.start Nis_base vs) H := by
  obtain ⟨b, h, ⟨h1, h2, h3⟩, q⟩ := h
  obtain ⟨v1, rfl, i1⟩ := all1 h
  refine ms_ret (P := isP K true) (ep_and (a := true) (b := true) (isi_tup (x := b) ⟨_, rfl⟩ rfl i1) fun _ => ep_and (a := true) (b := true) (EvP.at (ep_all (el_map (fun _ : Wd => true) (wk_seq (ep_vis (x := b) rfl i1).sq) (by have := h2.1; omega) (fun _ => rfl) fun x hx v H1 e1 iv => call_is_log (h3 x hx) (ea_cons' (ep_vis rfl iv) (mono_is _) ea_nil'))) (all_true _)) fun _ => EvP.at (ep_eq (call_base_of h2 (ea_cons' (ep_vis (x := b) rfl i1).sq (mono_sq _) ea_nil')) (ep_vis (x := b) rfl i1)) ?_) fun v H3 e3 r => q v H3 e3 r
  exact decide_eq_true (Mo.leastOf_cb ordW h1)
theorem call_is_base {σ : L2.St} {H : Hp} {ts : TA} {x : Bs} (hx : BaseOk x) (h : EvAs ts σ H [isP K x]) : EvP (tCall (spis_base K) [] E0 ts) σ H (isP K true) := ep_sp x hx h fun _ _ _ _ r => r
/-! ### is_split -/
abbrev PB := Bs × Bs
theorem is_two {H : Hp} {v : V} {p : PB} : Is K H v p ↔ Is K H v [p.1, p.2] := Iff.rfl
abbrev spis_split (K : PySem.W.Frag) : Sp := spP (fun i : Bs × PB => [isP K i.1, isP K i.2]) (fun i => Ok i.1 ∧ BaseOk i.2.1 ∧ BaseOk i.2.2 ∧ i.2.1.length * i.2.2.length < 4096) (fun i _ => isP K (Mo.isSplit leW i.1 i.2))
theorem pure_is_split (N : NA K nv av) (vs : List V) (H : Hp) (Q : VK) (E : XK) (h : spis_split K vs H Q E) : tris_split K nv av (sptupled K) (spis_base K) (spthen K) { nx := fun _ H' => Q .non H', rt := Q } (L2.start Nis_split vs) H := by
  obtain ⟨⟨W, A, B⟩, h, ⟨hW, hA, hB, hAB⟩, q⟩ := h
  obtain ⟨v1, v2, rfl, i1, i2⟩ := all2 h
  replace i1 : Is K H v1 W := i1
  replace i2 : Is K H v2 (A, B) := i2
  replace hW : Ok W := hW
  replace hA : BaseOk A := hA
  replace hB : BaseOk B := hB
  replace hAB : A.length * B.length < 4096 := hAB
  have i2' : Is K H v2 [A, B] := i2
  unfold tris_split
  refine sq (ms_if (b := false) (et_or (a := false) (b := false) (et_not (a := true) (et_V (isi_tup (x := (A, B)) ⟨_, rfl⟩ rfl i2))) fun _ => et_or (a := false) (b := false) (EvT.at (et_T (ep_ne (x := [A, B].length) (y := 2) (ep_len (ep_vis rfl i2').sq) (ep_nat (K := K) 2))) (by simp)) fun _ => et_not (a := true) (EvT.at (et_V (ep_all (el_map (fun _ : Bs => true) (wk_seq (ep_vis rfl i2').sq) (by show 2 ≤ 50000; decide) (fun _ => rfl) fun x hx v H1 e1 iv => ?_))) (all_true _))) (fun hb => nomatch hb) fun _ H1 e1 => ?_)
  · refine call_is_base ?_ (ea_cons' (ep_vis rfl iv) (mono_is _) ea_nil')
    rcases List.mem_cons.mp hx with e | hx
    · rw [e]; exact hA
    · rw [List.mem_singleton.mp hx]; exact hB
  · unfold tNext
    dsimp only
    have e : Mo.isSplit leW W (A, B) = ((!decide (Mo.ALW ∈ [A, B])) && decide (Mo.thenB leW A B = W)) := by
      unfold Mo.isSplit
      rw [← Bool.and_assoc]
      congr 1
      by_cases a1 : A = Mo.ALW
      · simp [a1]
      · by_cases a2 : B = Mo.ALW
        · simp [a1, a2]
        · have h1 : ¬ Mo.ALW = A := fun z => a1 z.symm
          have h2 : ¬ Mo.ALW = B := fun z => a2 z.symm
          simp [a1, a2, h1, h2]
    refine ms_ret (P := isP K (Mo.isSplit leW W (A, B))) ?_ fun v H3 e3 r => q v H3 (e1.trans e3) r
    rw [e]
    refine ep_and (EvP.at (ep_notIn (ep_alw N) (ep_vis rfl (i2'.ex e1)).sq) (congrArg _ (decide_eq_decide.mpr Iff.rfl))) fun _ => ep_eq (call_then hA.2.1 hB.2.1 hAB (ea_cons' (ep_fst (x := A) (y := B) (ep_vis rfl (i2.ex e1))).sq (mono_sq _) (ea_cons' (ep_snd (x := A) (y := B) (ep_vis rfl (i2.ex e1))).sq (mono_sq _) ea_nil'))) (call_tupled (by have := hW.1; omega) (fun u hu => by have := hW.2 u hu; omega) (ea_cons' (ep_vis rfl (i1.ex e1)).sq (mono_sq _) ea_nil'))
theorem call_is_split {σ : L2.St} {H : Hp} {ts : TA} {W : Bs} {p : PB} (hW : Ok W) (hA : BaseOk p.1) (hB : BaseOk p.2) (hAB : p.1.length * p.2.length < 4096) (h : EvAs ts σ H [isP K W, isP K p]) : EvP (tCall (spis_split K) [] E0 ts) σ H (isP K (Mo.isSplit leW W p)) := ep_sp (W, p) ⟨hW, hA, hB, hAB⟩ h fun _ _ _ _ r => r
end MoD
set_option maxHeartbeats 4000000
/-! stages -/
namespace MoD
open PySem PySem.Spec PyProof.Rows L2 MoR PySem.W Evl
variable {P : Program} {w : World} {K : PySem.W.Frag} {nv av : Addr}
theorem ms_parG {σ : L2.St} {H : Hp} {D : Ends} {R R' : VP} {i j : Nat} {ta tb : TE} (h : EvP ta σ H R) (m : MonoP R) (h2 : EvP tb σ H R') (m2 : MonoP R') (k : ∀ v w H1, Ex H H1 → R v H1 → R' w H1 → D.nx ((σ.set i (some v)).set j (some w)) H1) :
    tAsg (tTup (tCons ta (tCons tb tNil))) (g2 K i j) D σ H := h H (Ex.refl H) _ fun v H1 e p => h2 H1 e _ fun w H2 e2 p2 => ⟨by show 2 ≤ sizeLine; decide, fun l hl =>
  ⟨l, _, rfl, st_of upd_same, rfl, v, _, rfl, w, _, rfl, rfl, k v w _ ((e.trans e2).trans (Ex.new hl)) (m _ _ _ (e2.trans (Ex.new hl)) p) (m2 _ _ _ (Ex.new hl) p2)⟩⟩
def StRes (W : Bs) (K : PySem.W.Frag) : VP := fun v H => (W = [] ∧ v = .non) ∨ (W ≠ [] ∧ ∃ ps : List Bs, (∀ p ∈ ps, Mo.Stage (le := leW) p) ∧ Mo.prodB leW ps = W ∧ ps.length ≤ 8 ∧ Is K H v ps)
abbrev spstages (K : PySem.W.Frag) : Sp := spP (fun i : Bs => [isP K i]) (fun i => Tiny i ∧ Mo.CB leW i) (fun i _ => StRes i K)
theorem tiny_right {W A B : Bs} (hA : A ≠ []) (hB : Mo.CB leW B) (e : Mo.thenB leW A B = W) (h : Tiny W) : Tiny B := by
  cases A with
  | nil => exact absurd rfl hA
  | cons a A =>
    have key : ∀ b ∈ B, a ++ b ∈ W := fun b hb => by rw [← e]; exact Mo.mem_thenB.mpr ⟨a, List.mem_cons_self, b, hb, rfl⟩
    refine ⟨?_, fun b hb => ?_⟩
    · have hn : (B.map (a ++ ·)).Nodup := List.pairwise_map.mpr (hB.rise.nodup.imp fun hne he => hne (List.append_cancel_left he))
      have := Mo.nodup_le hn fun x hx => by
        obtain ⟨b, hb, rfl⟩ := List.mem_map.mp hx
        exact key b hb
      rw [List.length_map] at this
      exact Nat.le_trans this h.1
    · have := h.2 _ (key b hb)
      rw [List.length_append] at this
      omega
theorem tries_eq (L : Bs) (w0 : Wd) : (((List.range (w0.length + 1 - 1)).map (1 + ·)).map fun k => Mo.parted leW L (w0.take k)) = Mo.tries leW L w0 := by
  unfold Mo.tries
  rw [List.map_map, Nat.add_sub_cancel]
  refine List.map_congr_left fun k _ => ?_
  show Mo.parted leW L (w0.take (1 + k)) = _
  rw [Nat.add_comm]
theorem somes_eq {α : Type} (d : α) (l : List (Option α)) : ((l.filter fun o => o.isSome).map fun o => o.getD d) = l.filterMap id := by
  induction l with
  | nil => rfl
  | cons o l ih =>
    cases o with
    | none => rw [List.filter_cons, List.filterMap_cons]; exact ih
    | some x => rw [List.filter_cons, List.filterMap_cons]; exact congrArg (x :: ·) ih
theorem et_notNone {σ : L2.St} {H : Hp} {te : TE} {α : Type} [Ec α] {o : Option α} (hne : ∀ x : α, Ec.enc x ≠ .none) (h : EvP te σ H (isP K o)) : EvT (tTest (tOp rNotN te (tC .non))) σ H o.isSome := et_T (K := K) (ep_op (R := isP K o.isSome) h (mono_is _) (ep_c (P := fun v _ => v = .non) fun _ => rfl) fun x y H1 e p p2 Q q => ⟨p2, by
  refine q _ _ (Ex.refl _) ?_
  cases o with
  | none =>
    have : x = .non := by
      have p' : Im K H1 x .none := p
      cases p'; rfl
    rw [decide_eq_true this]
    exact .bl _
  | some z =>
    have : ¬ x = .non := fun hx => by
      subst hx
      have p' : Im K H1 .non (Ec.enc z) := p
      generalize hz : Ec.enc z = d at p'
      cases p'
      exact hne z hz
    rw [decide_eq_false this]
    exact .bl _⟩)
theorem pure_stages (N : NA K nv av) (vs : List V) (H : Hp) (Q : VK) (E : XK) (h : spstages K vs H Q E) : trstages K nv av (sptupled K) (spparted K) { nx := fun _ H' => Q .non H', rt := Q } (L2.start Nstages vs) H := by
  obtain ⟨W, h, ⟨hT, hC⟩, q⟩ := h
  obtain ⟨v1, rfl, i1⟩ := all1 h
  unfold trstages
  refine sq (ms_parG (ep_lst0 (K := K) (α := Bs)) (mono_nl _) (call_tupled (ws := W) (by have := hT.1; omega) (fun u hu => by have := hT.2 u hu; omega) (ea_cons' (ep_vis (x := W) rfl i1).sq (mono_sq _) ea_nil')) (mono_is _) fun v u H1 e1 p1 p2 => ?_)
  obtain ⟨f, us0, rfl, hf0, hf, hu0⟩ := p1
  refine sq (ms_if (et_T (ep_eq (x := W) (y := ([] : Bs)) (ep_vis rfl p2) (ep_nev N))) (fun hb H2 e2 => ?_) fun hb H2 e2 => ?_)
  · have hW : W = [] := by simpa using hb
    exact ms_ret (P := fun v _ => v = .non) (ep_c fun _ => rfl) fun v3 H3 e3 r => q v3 H3 ((e1.trans e2).trans e3) (.inl ⟨hW, r⟩)
  have hW : W ≠ [] := by simpa using hb
  unfold tNext
  dsimp only
  refine sq (s_while (fun m σ' H' => ∃ us ps L u x3 x4, ExL K [f] H2 H' ∧ H' f = some (.lst us) ∧ IsAll K H' us ps ∧ Is K H' u L ∧ Mo.CB leW L ∧ L ≠ [] ∧ Tiny L ∧ (∀ p ∈ ps, Mo.Stage (le := leW) p) ∧ Mo.thenB leW (Mo.prodB leW ps) L = W ∧ (∀ w0, L.head? = some w0 → w0.length = m) ∧ ps.length + m ≤ 8 ∧ σ' = [some v1, some (.ref f), some u, x3, x4, none, none])
    ((W.head?.map List.length).getD 0) ⟨us0, [], W, u, none, none, .refl, e2 _ _ hf, ImAll.ex e2 hu0, p2.ex e2, hC, hW, hT, fun p hp => (by cases hp), Mo.alw_thenB ordW hC, fun w0 hw => by rw [hw]; rfl, ?_, rfl⟩ fun m σ' H' p => ?_)
  · cases W with
    | nil => exact absurd rfl hW
    | cons w0 W =>
      have := hT.2 w0 List.mem_cons_self
      show 0 + w0.length ≤ 8
      omega
  obtain ⟨us, ps, L, u3, x3, x4, x, a1, a2, a3, cL, nL, tL, stp, ep, hm, hl8, rfl⟩ := p
  refine ⟨_, et_T (ep_ne (x := L) (y := Mo.ALW) (ep_vis rfl a3) (ep_alw N)), fun hb H3 e3 => ?_, fun hb H3 e3 => ?_⟩
  · have hA : L ≠ Mo.ALW := by simpa using hb
    obtain ⟨w0, hw0⟩ : ∃ w0, L.head? = some w0 := by
      cases L with
      | nil => exact absurd rfl nL
      | cons w0 L => exact ⟨w0, rfl⟩
    have hi0 : L[0]? = some w0 := by rw [← List.head?_eq_getElem?]; exact hw0
    have hw0m : w0 ∈ L := List.mem_of_mem_head? (by rw [hw0]; rfl)
    have hw8 := tL.2 w0 hw0m
    obtain ⟨A, B, t1, t2, t3, t4, t5, t6⟩ := Mo.stage_turn ordW cL hA hw0
    refine ⟨fun σ' H' => ∃ us ps L u x3 x4, ExL K [f] H2 H' ∧ H' f = some (.lst us) ∧ IsAll K H' us ps ∧ Is K H' u L ∧ Mo.CB leW L ∧ L ≠ [] ∧ Tiny L ∧ (∀ p ∈ ps, Mo.Stage (le := leW) p) ∧ Mo.thenB leW (Mo.prodB leW ps) L = W ∧ (∀ w0', L.head? = some w0' → w0'.length < m) ∧ ps.length + (m - 1) ≤ 8 ∧ 1 ≤ m ∧ σ' = [some v1, some (.ref f), some u, x3, x4, none, none], ?_, ?_⟩
    · rintro σ' H' ⟨us, ps, L, u, x3, x4, y1, y2, y3, y4, y5, y6, y7, y8, y9, y10, y11, y12, rfl⟩
      obtain ⟨z0, hz0⟩ : ∃ z0, L.head? = some z0 := by
        cases L with
        | nil => exact absurd rfl y6
        | cons w0 L => exact ⟨w0, rfl⟩
      have hz := y10 z0 hz0
      exact ⟨z0.length, hz, us, ps, L, u, x3, x4, y1, y2, y3, y4, y5, y6, y7, y8, y9, fun w1 h1 => by rw [hz0] at h1; cases h1; rfl, by omega, rfl⟩
    · have a3' := a3.ex e3
      have hr1 : m = w0.length := (hm w0 hw0).symm
      refine sq (ms_asg (el_map (fun k => Mo.parted leW L (w0.take k)) (wk_rng2 (m := 1) (n := w0.length + 1) (ep_nat (K := K) 1) (ep_add (ep_len (ep_ix (ep_vis rfl a3').sq (ep_nat (K := K) 0) hi0).sq) (ep_nat (K := K) 1)) (by decide) (by omega)) ?_ (fun _ => rfl) fun k hk v5 H5 e5 i5 => call_parted tL (ea_cons' (ep_vis rfl (a3'.ex e5)) (mono_is _) (ea_cons' (ep_upto (ep_ix (ep_vis rfl (a3'.ex e5)).sq (ep_nat (K := K) 0) hi0) (ep_vis rfl i5)) (mono_is _) ea_nil'))) fun v6 H6 e6 i6 => ?_)
      · rw [List.length_map, List.length_range]; omega
      rw [tries_eq] at i6
      refine sq (ms_asg2 (x := A) (y := B) (ep_ix (xs := (Mo.tries leW L w0).filterMap id) (i := 0) (EvP.sqn (EvP.atL (el_lcN (fun o : Option PB => o.isSome) (fun o => o.getD ([], [])) (wk_seq (ep_var rfl (mono_nl _) i6).sqn) ?_ (fun _ => rfl) (fun o ho v7 H7 e7 i7 => et_notNone (fun x => by intro h; cases h) (ep_vis rfl i7)) fun o ho v7 H7 e7 i7 hs => ?_) (somes_eq _ _))) (ep_nat (K := K) 0) (by rw [← List.head?_eq_getElem?]; exact t1)) fun v8 v9 H8 e8 i8 i9 => ?_)
      · unfold Mo.tries
        rw [List.length_map, List.length_range]; omega
      · cases o with
        | none => cases hs
        | some z => exact ep_vis (x := z) rfl i7
      · have et := (e3.trans e6).trans e8
        refine ms_app rfl (et _ _ a1) (ep_vis rfl i8) (by have h1 := IsAll.len a2; omega) fun v10 H10 e10 i10 => ?_
        have et2 := et.trans e10
        have hpos : 1 ≤ m := by
          rw [hr1]
          cases hz : w0 with
          | nil => rw [hz] at hw0m; exact absurd (Mo.cb_always cL hw0m) hA
          | cons c w0 => rw [List.length_cons]; omega
        refine ⟨us ++ [v10], ps ++ [A], B, v9, some v6, some v8, (x.then et2).lst List.mem_cons_self (et2 _ _ a1), upd_same, IsAll.snoc (ImAll.tk (.lst (et2 _ _ a1)) (ImAll.ex et2 a2)) (Im.tk (.lst (et2 _ _ a1)) i10), Im.tk (.lst (et2 _ _ a1)) (i9.ex e10), t3, t4, tiny_right t2.ne t3 t5 tL, fun p hp => ?_, ?_, fun w1 h1 => by rw [hr1]; exact t6 w1 h1, ?_, hpos, rfl⟩
        · rcases List.mem_append.mp hp with hp | hp
          · exact stp p hp
          · rw [List.mem_singleton.mp hp]; exact t2
        · have h1 : Mo.prodB leW [A] = A := Mo.thenB_alw ordW t2.cb
          rw [Mo.prod_append ordW (fun p hp => by rw [List.mem_singleton.mp hp]; exact t2), h1, Mo.thenB_assoc ordW, t5]
          exact ep
        · rw [List.length_append]
          show ps.length + 1 + (m - 1) ≤ 8
          omega
  · have hA : L = Mo.ALW := by simpa using hb
    refine ms_ret (ep_tuple (ep_var rfl (mono_sq ps) ⟨f, us, rfl, .inl (e3 _ _ a1), ImAll.ex e3 a2⟩)) fun v4 H4 e4 r => q v4 H4 (fun b o hb => ?_) (.inr ⟨hW, ps, stp, ?_, by omega, r⟩)
    · refine e4 _ _ (e3 _ _ (x.ob b o (fun z => ?_) (e2 _ _ (e1 _ _ hb))))
      rw [List.mem_singleton.mp z, hf0] at hb
      cases hb
    · rw [hA] at ep
      rw [← ep]
      exact (Mo.thenB_alw ordW (Mo.cb_prod ordW stp)).symm
end MoD
set_option maxHeartbeats 4000000
/-! logs_to, ends_of -/
namespace MoD
open PySem PySem.Spec PyProof.Rows L2 MoR PySem.W Evl
variable {P : Program} {w : World} {K : PySem.W.Frag} {nv av : Addr}
abbrev LD := List (Bs × Wd)
structure LW (W : Bs) (es : LD) (op : List Bs) : Prop where
  nd : (es.map (·.1)).Nodup
  at_ : ∀ p ∈ es, p.1 = Mo.standing leW W p.2
  first : W ∈ es.map (·.1)
  cl : ∀ p ∈ es, p.1 ∉ op → ∀ n ∈ Mo.heads p.1, Mo.step leW p.1 n ∈ es.map (·.1)
  len : ∀ p ∈ es, p.2.length < es.length
theorem LW.ten {W : Bs} {es : LD} {op : List Bs} (hW : Mo.Nice1 leW W) (h : LW W es op) : es.length ≤ 10 := by
  have := Mo.st_ten ordW hW h.nd fun s hs => by
    obtain ⟨p, hp, rfl⟩ := List.mem_map.mp hs
    exact ⟨p.2, h.at_ p hp⟩
  rwa [List.length_map] at this
theorem LW.put {W : Bs} {es : LD} {op : List Bs} {s : Bs} {l : Wd} {n : Str} (h : LW W es op) (hs : (s, l) ∈ es) (hn : Mo.step leW s n ∉ es.map (·.1)) : LW W (es ++ [(Mo.step leW s n, l ++ [n])]) (op ++ [Mo.step leW s n]) := by
  refine ⟨?_, fun p hp => ?_, ?_, fun p hp hop m hm => ?_, fun p hp => ?_⟩
  · rw [List.map_append, List.nodup_append]
    refine ⟨h.nd, by simp, fun k hk j hj e => ?_⟩
    have : j = Mo.step leW s n := by simpa using hj
    rw [e, this] at hk
    exact hn hk
  · rcases List.mem_append.mp hp with hp | hp
    · exact h.at_ p hp
    · rw [List.mem_singleton.mp hp]
      have e : s = Mo.standing leW W l := h.at_ _ hs
      show Mo.step leW s n = Mo.standing leW W (l ++ [n])
      rw [e, Mo.step_standing, Mo.standing_standing ordW]
  · rw [List.map_append]; exact List.mem_append_left _ h.first
  · rw [List.map_append]
    rcases List.mem_append.mp hp with hp | hp
    · exact List.mem_append_left _ (h.cl p hp (fun z => hop (List.mem_append_left _ z)) m hm)
    · rw [List.mem_singleton.mp hp] at hop
      exact absurd (List.mem_append_right _ (List.mem_singleton.mpr rfl)) hop
  · rw [List.length_append]
    rcases List.mem_append.mp hp with hp | hp
    · exact Nat.lt_succ_of_lt (h.len p hp)
    · rw [List.mem_singleton.mp hp]
      have := h.len _ hs
      show (l ++ [n]).length < es.length + 1
      rw [List.length_append]
      exact Nat.succ_lt_succ this
theorem LW.shut {W : Bs} {es : LD} {op op' : List Bs} {s : Bs} (h : LW W es op) (hs : ∀ n ∈ Mo.heads s, Mo.step leW s n ∈ es.map (·.1)) (ho : ∀ t, t ∈ op → t = s ∨ t ∈ op') : LW W es op' :=
  ⟨h.nd, h.at_, h.first, fun p hp hop m hm => by
    by_cases e : p.1 = s
    · rw [e] at hm ⊢; exact hs m hm
    · exact h.cl p hp (fun z => (ho _ z).elim e hop) m hm, h.len⟩
theorem find_get {es : LD} {s : Bs} (h : s ∈ es.map (·.1)) : ∃ l, (es.find? fun e => decide (e.1 = s)).map (·.2) = some l ∧ (s, l) ∈ es := by
  cases z : es.find? fun e => decide (e.1 = s) with
  | none =>
    obtain ⟨e, he, hek⟩ := List.mem_map.mp h
    have := List.find?_eq_none.mp z e he
    simp [hek] at this
  | some e =>
    have h1 := List.find?_some z
    rw [decide_eq_true_eq] at h1
    exact ⟨e.2, rfl, by rw [← h1]; exact List.mem_of_find?_eq_some z⟩
/-- a new dict -/
def DN (P : Program) (w : World) (K : PySem.W.Frag) (W : Bs) (H : Hp) : VP := fun v H' => ∃ a es, v = .ref a ∧ H a = none ∧ DicAt P w K H' a es ∧ LW W es []
abbrev splogs_to (P : Program) (w : World) (K : PySem.W.Frag) : Sp := spP (fun i : Bs => [isP K i]) (fun i => Mo.Nice1 leW i) (fun i H => DN P w K i H)
/-- how logs_to stands: lt the later list, d the dict -/
structure LS (P : Program) (w : World) (K : PySem.W.Frag) (W : Bs) (H : Hp) (lt d : Addr) (fr : List Bs) (es : LD) (H3 H' : Hp) (op : List Bs) (us' : List V) (lts : List Bs) (es' : LD) : Prop where
  x : ExL K [lt, d] H3 H'
  e : Ex H H'
  l : H' lt = some (.lst us')
  i : IsAll K H' us' lts
  dd : DicAt P w K H' d es'
  lw : LW W es' op
  n : es'.length = es.length + lts.length
  sub : ∀ s ∈ lts, s ∈ es'.map (·.1)
  fsub : ∀ s ∈ fr, s ∈ es'.map (·.1)
theorem LS.ex {W : Bs} {H : Hp} {lt d : Addr} {fr : List Bs} {es : LD} {H3 H' H'' : Hp} {op : List Bs} {us' : List V} {lts : List Bs} {es' : LD} (h : LS P w K W H lt d fr es H3 H' op us' lts es') (e : Ex H' H'') : LS P w K W H lt d fr es H3 H'' op us' lts es' :=
  ⟨h.x.then e, h.e.trans e, e _ _ h.l, ImAll.ex e h.i, h.dd.ex e, h.lw, h.n, h.sub, h.fsub⟩
theorem bsT (s : Bs) : ∃ ds, Ec.enc s = .tuple ds := ⟨_, rfl⟩
theorem pure_logs_to (vs : List V) (H : Hp) (Q : VK) (E : XK) (h : splogs_to P w K vs H Q E) : trlogs_to P w K nv av (spstep K) (spfirst_names K) { nx := fun _ H' => Q .non H', rt := Q } (L2.start Nlogs_to vs) H := by
  obtain ⟨W, h, hW, q⟩ := h
  obtain ⟨v1, rfl, i1⟩ := all1 h
  replace hW : Mo.Nice1 leW W := hW
  obtain ⟨b1, rfl⟩ := Is.ref (bsT W) i1
  have mN : MonoP (fun v H' => ∃ a, v = V.ref a ∧ H a = none ∧ DicAt P w K H' a [(W, ([] : Wd))]) := fun _ _ _ e ⟨a, h1, h2, h3⟩ => ⟨a, h1, h2, h3.ex e⟩
  unfold trlogs_to
  refine sq (ms_par (P := fun v H' => ∃ a, v = V.ref a ∧ H a = none ∧ DicAt P w K H' a [(W, ([] : Wd))]) (fun H1 e Q q => fun p hp => ⟨_, rfl, ?_⟩) mN (ep_lst1 (K := K) (ep_vis (x := W) rfl i1)) fun v u H1 e1 p1 p2 => ?_)
  · refine ep_tup0 (K := K) (α := Str) (σ := L2.start Nlogs_to [V.ref b1]) (H := upd H1 p (DicO P w p [])) _ (Ex.refl _) _ fun v H2 e2 i2 => ?_
    have e3 : Ex H1 H2 := (Ex.new hp).trans e2
    refine ⟨Bs, Wd, inferInstance, inferInstance, inferInstance, W, [], b1, rfl, i1.ex (e.trans e3), i2, by decide, e2 _ _ upd_same, ?_⟩
    refine q _ _ (Ex.mut e3 hp) ⟨p, rfl, fresh_back e hp, _, upd_same, ?_⟩
    have hd2 : H2 p = some (DicO P w p []) := e2 _ _ upd_same
    exact .cons (Im.tk (.ext hd2) (i1.ex (e.trans e3))) (Im.tk (.ext hd2) i2) .nil
  obtain ⟨d, rfl, hd0, D1⟩ := p1
  obtain ⟨f0, fs0, rfl, hf0, hf1, hfi⟩ := p2
  have hdf : d ≠ f0 := fun z => by
    obtain ⟨kvs, h1, _⟩ := D1
    rw [z, hf1] at h1
    cases h1
  have lw0 : LW W [(W, ([] : Wd))] [W] := ⟨by simp, fun p hp => by rw [List.mem_singleton.mp hp]; exact (Mo.standing_nil ordW hW.cb).symm, by simp, fun p hp hop => by
    rw [List.mem_singleton.mp hp] at hop
    exact absurd (List.mem_singleton.mpr rfl) hop, fun p hp => by rw [List.mem_singleton.mp hp]; show 0 < 1; decide⟩
  refine sq (s_while (fun m σ' H' => ∃ fa us fr es x3 x4 x5, Ex H H' ∧ H fa = none ∧ H' fa = some (.lst us) ∧ IsAll K H' us fr ∧ DicAt P w K H' d es ∧ LW W es fr ∧ fr.length ≤ 10 ∧ (∀ s ∈ fr, s ∈ es.map (·.1)) ∧ m = 2 * (10 - es.length) + (if fr = [] then 0 else 1) ∧ σ' = [some (.ref b1), some (.ref d), some (.ref fa), x3, x4, x5])
    _ ⟨f0, fs0, [W], [(W, [])], none, none, none, e1, hf0, hf1, hfi, D1, lw0, (show 1 ≤ 10 by decide), fun s hs => by simpa using hs, rfl, rfl⟩ fun m σ' H' p => ?_)
  obtain ⟨fa, us, fr, es, x3, x4, x5, ex, hfa, h1, h2, hD, lw, hf10, hsub, rfl, rfl⟩ := p
  refine ⟨_, et_T (ep_gt (n := 0) (ep_len (ep_var (P := sqP K fr) rfl (mono_sq fr) ⟨fa, us, rfl, .inl h1, h2⟩)) (ep_nat (K := K) 0)), fun hb H1 e2 => ?_, fun hb H1 e2 => ?_⟩
  · have hne : fr ≠ [] := fun z => by rw [z] at hb; cases hb
    have hk10 := lw.ten hW
    refine ⟨fun σ' H' => ∃ fa us fr' es' x3 x4 x5, Ex H H' ∧ H fa = none ∧ H' fa = some (.lst us) ∧ IsAll K H' us fr' ∧ DicAt P w K H' d es' ∧ LW W es' fr' ∧ fr'.length ≤ 10 ∧ (∀ s ∈ fr', s ∈ es'.map (·.1)) ∧ 2 * (10 - es'.length) + (if fr' = [] then 0 else 1) < 2 * (10 - es.length) + (if fr = [] then 0 else 1) ∧ σ' = [some (.ref b1), some (.ref d), some (.ref fa), x3, x4, x5], fun σ' H' ⟨fa, us, fr', es', x3, x4, x5, y1, y2, y3, y4, y5, y6, y7, y8, y9, y10⟩ => ⟨_, y9, fa, us, fr', es', x3, x4, x5, y1, y2, y3, y4, y5, y6, y7, y8, rfl, y10⟩, ?_⟩
    refine sq (ms_asg (ep_lst0 (K := K) (α := Bs)) fun v3 H2 e3 p3 => ?_)
    obtain ⟨lt, ls0, rfl, hlt0, hlt1, hli⟩ := p3
    have hltH : H lt = none := fresh_back (ex.trans e2) hlt0
    have hfal : fa ≠ lt := fun z => by
      have := e2 _ _ h1
      rw [z, hlt0] at this
      cases this
    have hdl : d ≠ lt := fun z => by
      obtain ⟨kvs, h3, _⟩ := hD
      have := e2 _ _ h3
      rw [z, hlt0] at this
      cases this
    have hfad : fa ≠ d := fun z => by
      obtain ⟨kvs, h3, _⟩ := hD
      rw [z, h3] at h1
      cases h1
    have e23 := e2.trans e3
    refine sq (s_for (W := [lt, d]) (xs := fr) (wk_seqP (P := fun v H => v = .ref fa ∧ H fa = some (.lst us) ∧ IsAll K H us fr) (ep_var rfl (fun _ _ _ e h => ⟨h.1, e _ _ h.2.1, ImAll.ex e h.2.2⟩) ⟨rfl, e23 _ _ h1, ImAll.ex e23 h2⟩) fun v H3 _ p => ⟨fa, us, p.1, p.2.2, .inr ⟨sq_of p.2.1, by simp [hfal, hfad]⟩⟩)
      (fun H3 i σ' H' => ∃ us' lts es' x4 x5, LS P w K W H lt d fr es H3 H' (fr.drop i ++ lts) us' lts es' ∧ σ' = [some (.ref b1), some (.ref d), some (.ref fa), some (.ref lt), x4, x5])
      (fun H3 e4 => ⟨ls0, [], es, x4, x5, ⟨.refl, ex.trans (e23.trans e4), e4 _ _ hlt1, ImAll.ex e4 hli, hD.ex (e23.trans e4), by rw [List.drop_zero, List.append_nil]; exact lw, rfl, fun s hs => (by cases hs), hsub⟩, rfl⟩) (fun H3 i σ' H' _ p => by obtain ⟨_, _, _, _, _, p, _⟩ := p; exact p.x) (fun H3 i s v σ' H' H'' e4 hx p e5 iv => ?_) fun H3 σ' H' e4 p => ?_)
    · obtain ⟨us', lts, es', x4, x5, L, rfl⟩ := p
      replace L := L.ex e5
      have hdr : fr.drop i = s :: fr.drop (i + 1) := drop_get hx
      have hsm : s ∈ fr := List.mem_of_getElem? hx
      have hst : ∃ x, s = Mo.standing leW W x := by
        obtain ⟨p, hp, e⟩ := List.mem_map.mp (L.fsub s hsm)
        exact ⟨p.2, by rw [← e]; exact L.lw.at_ p hp⟩
      have hs8 : s.length ≤ 8 ∧ ∀ u ∈ s, u.length ≤ 4 := by
        obtain ⟨x, rfl⟩ := hst
        exact nice_sm hW x
      have hsS : Sm 4096 s := ⟨by have := hs8.1; omega, fun u hu => by have := hs8.2 u hu; omega⟩
      show tFor _ _ _ _ [some (.ref b1), some (.ref d), some (.ref fa), some (.ref lt), some v, x5] H''
      refine s_for (W := [lt, d]) (xs := names s) (wk_new (call_first_names (by have := hs8.1; omega) (ea_cons' (ep_vis rfl iv) (mono_is _) ea_nil')) fun a ha => ?_)
        (fun H4 j σ' H' => ∃ us' lts es' x5, ExL K [lt, d] H4 H' ∧ LS P w K W H lt d fr es H3 H' (fr.drop i ++ lts) us' lts es' ∧ (∀ n ∈ (names s).take j, Mo.step leW s n ∈ es'.map (·.1)) ∧ Is K H' v s ∧ σ' = [some (.ref b1), some (.ref d), some (.ref fa), some (.ref lt), some v, x5])
        (fun H4 e6 => ⟨us', lts, es', x5, .refl, L.ex e6, fun n hn => (by cases hn), iv.ex e6, rfl⟩) (fun H4 j σ' H' _ p => by obtain ⟨_, _, _, _, p, _⟩ := p; exact p) (fun H4 j n u σ' H' H5 e6 hn p e7 iu => ?_) fun H4 σ' H' e6 p => ?_
      · rcases List.mem_cons.mp ha with z | z
        · rw [z, L.l]; exact fun z => nomatch z
        · rw [List.mem_singleton.mp z]
          obtain ⟨kvs, h3, _⟩ := L.dd
          rw [h3]; exact fun z => nomatch z
      · obtain ⟨us', lts, es', x5, xx, L, hdone, ivs, rfl⟩ := p
        replace L := L.ex e7
        replace ivs := ivs.ex e7
        have hkeep : ∀ {t : Bs} {es2 : LD}, (∀ k, k ∈ es'.map (·.1) → k ∈ es2.map (·.1)) → Mo.step leW s n ∈ es2.map (·.1) → ∀ m ∈ (names s).take (j + 1), Mo.step leW s m ∈ es2.map (·.1) := fun {t es2} hg hn' m hm => by
          rw [take_one hn] at hm
          rcases List.mem_append.mp hm with hm | hm
          · exact hg _ (hdone m hm)
          · rw [List.mem_singleton.mp hm]; exact hn'
        refine ms_if (et_T (ep_notInDic (bsT _) (call_step hsS (ea_cons' (ep_vis rfl ivs) (mono_is _) (ea_cons' (ep_vis rfl iu) (mono_is _) ea_nil'))) (ep_var rfl (mono_dic es') ⟨d, rfl, L.dd⟩))) (fun hb3 H6 e8 => ?_) fun hb3 H6 e8 => ?_
        · have hni : Mo.step leW s n ∉ es'.map (·.1) := by simpa using hb3
          obtain ⟨l, hl1, hl2⟩ := find_get (L.fsub s hsm)
          replace L := L.ex e8
          replace ivs := ivs.ex e8
          replace iu := iu.ex e8
          have k10 := L.lw.ten hW
          have hll := L.lw.len _ hl2
          refine sq (?_ : sDicPut P w K _ _ _ _ _ _)
          refine (ep_snocT (ep_dicget (bsT s) (ep_var rfl (mono_dic es') ⟨d, rfl, L.dd⟩) (ep_vis rfl ivs) hl1).sq (ep_vis rfl iu) (by have : l.length < es'.length := hll; omega)) H6 (Ex.refl _) _ fun v7 H7 e9 i7 => ⟨_, rfl, ?_⟩
          refine (call_step hsS (ea_cons' (ep_vis rfl (ivs.ex e9)) (mono_is _) (ea_cons' (ep_vis rfl (iu.ex e9)) (mono_is _) ea_nil'))) H7 (Ex.refl _) _ fun v8 H8 e10 i8 => ?_
          obtain ⟨b8, rfl⟩ := Is.ref (bsT _) i8
          have e910 := e9.trans e10
          replace L := L.ex e910
          refine ⟨Bs, Wd, inferInstance, inferInstance, inferInstance, Mo.step leW s n, l ++ [n], b8, d, es', rfl, rfl, i8, i7.ex e10, L.dd, by decide, hni, by omega, fun kvs hk hd8 => ?_⟩
          have tk8 : Tk K H8 (upd H8 d (DicO P w d (kvs ++ [(toKey (Ec.enc (Mo.step leW s n)), b8, v7)]))) := .ext hd8
          have D9 : DicAt P w K (upd H8 d (DicO P w d (kvs ++ [(toKey (Ec.enc (Mo.step leW s n)), b8, v7)]))) d (es' ++ [(Mo.step leW s n, l ++ [n])]) := ⟨_, upd_same, hk.tk tk8⟩
          have x9 : ExL K [lt, d] H4 (upd H8 d (DicO P w d (kvs ++ [(toKey (Ec.enc (Mo.step leW s n)), b8, v7)]))) := exl_ext (xx.then (e7.trans (e8.trans e910))) (by simp) hd8
          have x93 : ExL K [lt, d] H3 (upd H8 d (DicO P w d (kvs ++ [(toKey (Ec.enc (Mo.step leW s n)), b8, v7)]))) := exl_ext L.x (by simp) hd8
          have ex9 : Ex H (upd H8 d (DicO P w d (kvs ++ [(toKey (Ec.enc (Mo.step leW s n)), b8, v7)]))) := Ex.mut L.e hd0
          have l9 : upd H8 d (DicO P w d (kvs ++ [(toKey (Ec.enc (Mo.step leW s n)), b8, v7)])) lt = some (.lst us') := by rw [upd_ne hdl.symm]; exact L.l
          have lw9 := L.lw.put hl2 hni
          have n9 := lw9.ten hW
          have c9 := L.n
          rw [List.length_append] at n9
          generalize hH9 : upd H8 d (DicO P w d (kvs ++ [(toKey (Ec.enc (Mo.step leW s n)), b8, v7)])) = H9 at tk8 D9 x9 x93 ex9 l9
          have iv9 : Is K H9 v s := Im.tk tk8 (ivs.ex e910)
          have iu9 : Is K H9 u n := Im.tk tk8 (iu.ex e910)
          refine ms_app rfl l9 (call_step hsS (ea_cons' (ep_vis rfl iv9) (mono_is _) (ea_cons' (ep_vis rfl iu9) (mono_is _) ea_nil'))) (by have h9 := IsAll.len L.i; simp only [List.length_singleton] at n9; omega) fun v10 H10 e11 i10 => ?_
          have l10 := e11 _ _ l9
          refine ⟨us' ++ [v10], lts ++ [Mo.step leW s n], es' ++ [(Mo.step leW s n, l ++ [n])], some u, (x9.then e11).lst List.mem_cons_self l10, ⟨(x93.then e11).lst List.mem_cons_self l10, Ex.mut (ex9.trans e11) hltH, upd_same, IsAll.snoc (ImAll.tk (tk8.trans ((Tk.ex e11).trans (.lst l10))) L.i) (Im.tk (.lst l10) i10), dic_at' (D9.ex e11) (.lst l10) fun o q => by rw [upd_ne hdl]; exact q, by rw [← List.append_assoc]; exact lw9, by rw [List.length_append, List.length_append, c9]; simp only [List.length_singleton]; omega, fun t ht => ?_, fun t ht => ?_⟩, hkeep (t := s) (fun k hk => by rw [List.map_append]; exact List.mem_append_left _ hk) (by simp), Im.tk ((Tk.ex e11).trans (.lst l10)) iv9, rfl⟩
          · rw [List.map_append]
            rcases List.mem_append.mp ht with ht | ht
            · exact List.mem_append_left _ (L.sub t ht)
            · rw [List.mem_singleton.mp ht]; exact List.mem_append_right _ (by simp)
          · rw [List.map_append]
            exact List.mem_append_left _ (L.fsub t ht)
        · have hin : Mo.step leW s n ∈ es'.map (·.1) := by simpa using hb3
          exact ⟨us', lts, es', some u, xx.then (e7.trans e8), L.ex e8, hkeep (t := s) (fun k hk => hk) hin, ivs.ex e8, rfl⟩
      · obtain ⟨us', lts, es', x5, xx, L, hdone, ivs, rfl⟩ := p
        rw [List.take_length] at hdone
        exact ⟨us', lts, es', some v, x5, ⟨L.x, L.e, L.l, L.i, L.dd, L.lw.shut (s := s) (fun n hn => hdone n (Mo.mem_canon.mpr hn)) (fun t ht => by
          rw [hdr, List.cons_append] at ht
          exact (List.mem_cons.mp ht)), L.n, L.sub, L.fsub⟩, rfl⟩
    · obtain ⟨us', lts, es', x4, x5, L, rfl⟩ := p
      have k10 := L.lw.ten hW
      have c9 := L.n
      have lw9 := L.lw
      rw [List.drop_length, List.nil_append] at lw9
      refine ms_asg (P := fun v H' => v = .ref lt ∧ H' lt = some (.lst us') ∧ IsAll K H' us' lts) (ep_var rfl (fun _ _ _ e h => ⟨h.1, e _ _ h.2.1, ImAll.ex e h.2.2⟩) ⟨rfl, L.l, L.i⟩) fun v9 H9 e9 ⟨hv, a1, a2⟩ => ?_
      subst hv
      refine ⟨lt, us', lts, es', some (.ref lt), x4, x5, L.e.trans e9, hltH, a1, a2, L.dd.ex e9, lw9, by omega, L.sub, ?_, rfl⟩
      rw [if_neg hne]
      cases lts with
      | nil => rw [List.length_nil] at c9; rw [if_pos rfl]; omega
      | cons t r => rw [List.length_cons] at c9; rw [if_neg (fun z => nomatch z)]; omega
  · have hnil : fr = [] := by
      cases fr with
      | nil => rfl
      | cons s r => simp at hb
    subst hnil
    exact ms_ret (P := fun v H => v = .ref d ∧ DicAt P w K H d es) (ep_var rfl (fun _ _ _ e h => ⟨h.1, h.2.ex e⟩) ⟨rfl, hD.ex e2⟩) fun v H2 e3 h34 => q v H2 ((ex.trans e2).trans e3) ⟨d, es, h34.1, hd0, h34.2, lw⟩
end MoD
set_option maxHeartbeats 4000000
/-! how many rows -/
namespace Mo
section
variable {α : Type} [DecidableEq α] {le : List α → List α → Bool} (o : WOrd le)
include o
theorem row_alw {Q : List (List (List α))} {E : List (List α)} {row : List (List (List α))} (h : IsRow Q E row) (ha : ALW ∈ Q) : ALW ∈ row := by
  obtain ⟨F, _, rfl⟩ := h
  exact List.mem_filter.mpr ⟨ha, List.all_eq_true.mpr fun e _ => does_iff.mpr (done_always e)⟩
theorem row_base {W : List (List α)} {Q : List (List (List α))} {E : List (List α)} {row : List (List (List α))} (hQ : ∀ s ∈ Q, ∃ l, s = standing le W l) (h : IsRow Q E row) (hw : W ∈ row) : row = Q := by
  obtain ⟨F, _, rfl⟩ := h
  have hF := (List.mem_filter.mp hw).2
  refine List.filter_eq_self.mpr fun s hs => List.all_eq_true.mpr fun e he => ?_
  obtain ⟨l, rfl⟩ := hQ s hs
  exact does_iff.mpr (inside_iff.mp (standing_inside o l) e (does_iff.mp (List.all_eq_true.mp hF e he)))
theorem rows_cnt {W : List (List α)} {Q : List (List (List α))} {E : List (List α)} {R : List (List (List (List α)))} (hW : Nice1 le W) (hQ : ∀ s ∈ Q, ∃ l, s = standing le W l) (hn : Q.Nodup) (hR : R.Nodup) (hr : ∀ row ∈ R, IsRow Q E row) : R.length ≤ 257 := by
  have h8 : (Q.filter fun s => decide (s ≠ ALW) && decide (s ≠ W)).length ≤ 8 := by
    have hnd := hn.sublist (List.filter_sublist (p := fun s => decide (s ≠ ALW) && decide (s ≠ W)))
    have hm : ∀ s ∈ Q.filter fun s => decide (s ≠ ALW) && decide (s ≠ W), s ≠ ALW ∧ s ≠ W ∧ ∃ x, s = standing le W x := fun s hs => by
      obtain ⟨h1, h2⟩ := List.mem_filter.mp hs
      rw [Bool.and_eq_true, decide_eq_true_eq, decide_eq_true_eq] at h2
      exact ⟨h2.1, h2.2, hQ s h1⟩
    by_cases c : W = ALW
    · cases hz : Q.filter fun s => decide (s ≠ ALW) && decide (s ≠ W) with
      | nil => exact Nat.zero_le _
      | cons s r =>
        obtain ⟨h1, _, x, h3⟩ := hm s (by rw [hz]; exact List.mem_cons_self)
        exact absurd (h3.trans (standing_done o (by rw [c]; exact done_always x))) h1
    · have := hW.st (W :: Q.filter fun s => decide (s ≠ ALW) && decide (s ≠ W)) (List.nodup_cons.mpr ⟨fun z => (hm W z).2.1 rfl, hnd⟩) fun s hs => by
        rcases List.mem_cons.mp hs with e | hs
        · rw [e]; exact ⟨c, [], (standing_nil o hW.cb).symm⟩
        · exact ⟨(hm s hs).1, (hm s hs).2.2⟩
      rw [List.length_cons] at this
      omega
  have key : ∀ row ∈ R.erase Q, row ≠ Q ∧ IsRow Q E row := fun row h => ⟨fun z => by rw [z] at h; exact (List.Nodup.not_mem_erase hR) h, hr row (List.mem_of_mem_erase h)⟩
  have hinj : ((R.erase Q).map fun row => row.filter fun s => decide (s ≠ ALW)).Nodup := by
    refine List.pairwise_map.mpr (List.Pairwise.imp_of_mem (fun {a b} ha hb hne e => hne ?_) (hR.erase Q))
    have ra := (key a ha).2
    have rb := (key b hb).2
    have mem : ∀ s, s ∈ a ↔ s ∈ b := fun s => by
      by_cases hs : s = ALW
      · have sub : ∀ r, IsRow Q E r → ALW ∈ r → ALW ∈ Q := fun r ⟨F, _, e⟩ h => by rw [e] at h; exact (List.mem_filter.mp h).1
        rw [hs]
        exact ⟨fun h => row_alw o rb (sub a ra h), fun h => row_alw o ra (sub b rb h)⟩
      · have h1 : ∀ r : List (List (List α)), s ∈ r ↔ s ∈ r.filter fun s => decide (s ≠ ALW) := fun r => by
          rw [List.mem_filter, decide_eq_true_eq]
          exact ⟨fun h => ⟨h, hs⟩, fun h => h.1⟩
        rw [h1 a, h1 b, e]
    obtain ⟨F, _, ea⟩ := ra
    obtain ⟨G, _, eb⟩ := rb
    rw [ea, eb]
    refine List.filter_congr fun s hs => ?_
    have := mem s
    rw [ea, eb, List.mem_filter, List.mem_filter] at this
    exact Bool.eq_iff_iff.mpr ⟨fun h => (this.mp ⟨hs, h⟩).2, fun h => (this.mpr ⟨hs, h⟩).2⟩
  have := parts_cnt (Q := Q.filter fun s => decide (s ≠ ALW) && decide (s ≠ W)) hinj fun r hr' => by
    obtain ⟨row, hrow, rfl⟩ := List.mem_map.mp hr'
    obtain ⟨hne, F, hF, e⟩ := key row hrow
    have hnw : W ∉ row := fun z => hne (row_base o hQ ⟨F, hF, e⟩ z)
    refine ⟨fun s => decide (s ∈ row), ?_⟩
    have e2 : row.filter (fun s => decide (s ≠ ALW)) = Q.filter fun s => decide (s ∈ row) && decide (s ≠ ALW) := by
      conv => lhs; rw [e]
      rw [List.filter_filter]
      refine List.filter_congr fun s hs => ?_
      rw [Bool.and_comm]
      congr 1
      rw [Bool.eq_iff_iff, decide_eq_true_eq, e, List.mem_filter]
      exact ⟨fun h => ⟨hs, h⟩, fun h => h.2⟩
    rw [e2, List.filter_filter]
    refine List.filter_congr fun s hs => ?_
    by_cases h1 : s ∈ row
    · have h2 : s ≠ W := fun z => hnw (by rw [← z]; exact h1)
      simp [h1, h2]
    · simp [h1]
  rw [List.length_map] at this
  have h3 : R.length ≤ (R.erase Q).length + 1 := by
    rw [List.length_erase]
    split <;> omega
  have h4 : 2 ^ (Q.filter fun s => decide (s ≠ ALW) && decide (s ≠ W)).length ≤ 2 ^ 8 := Nat.pow_le_pow_right (by decide) h8
  have h5 : (2 : Nat) ^ 8 = 256 := by decide
  omega
end
end Mo
set_option maxHeartbeats 4000000
/-! ends_of, common_parts_of -/
namespace MoD
open PySem PySem.Spec PyProof.Rows L2 MoR PySem.W Evl
variable {P : Program} {w : World} {K : PySem.W.Frag} {nv av : Addr}
theorem mono_dn {W : Bs} {H : Hp} : MonoP (DN P w K W H) := fun _ _ _ e ⟨a, es, h1, h2, h3, h4⟩ => ⟨a, es, h1, h2, h3.ex e, h4⟩
theorem call_logs_to {σ : L2.St} {H : Hp} {ts : TA} {W : Bs} (hW : Mo.Nice1 leW W) (h : EvAs ts σ H [isP K W]) : EvP (tCall (splogs_to P w K) [] E0 ts) σ H (DN P w K W H) := ep_sp W hW h fun H1 v H2 e r => by
  obtain ⟨a, es, h1, h2, h3⟩ := r
  exact ⟨a, es, h1, fresh_back e h2, h3⟩
/-! ### ends_of -/
/-- the comprehension over the values of what a def gives -/
theorem lcv_call {σ : L2.St} {H : Hp} {sp : Sp} {ts : TA} {g : TG} {t : TT} {te : TE} {vs : List Nat} {Ps : List VP} {D : Ends} (ea : EvAs ts σ H Ps) (h : ∀ ws H2, Ex H H2 → AllP Ps ws H2 → sp (ws ++ []) H2 (fun v H3 => tLc (iVals P w (tC v)) g t te vs σ H3 D.rt) E0) :
    tRet (tLc (iVals P w (tCall sp [] E0 ts)) g t te vs) D σ H := by
  show ts σ H fun ws H2 => sp (ws ++ []) H2 (fun v H3 => tLc (iVals P w (tC v)) g t te vs σ H3 D.rt) E0
  exact ea H (Ex.refl H) _ h
/-- the dict is locked: then its values are walked -/
theorem lcv_lock {σ : L2.St} {H : Hp} {g : TG} {t : TT} {te : TE} {vs : List Nat} {Q : VK} {d : Addr} {kvs : List (NestedKey × Addr × V)} (hd : H d = some (DicO P w d kvs)) (h : ∀ od, tLc (fun _ H R => R (Itv P w d od kvs) H) g t te vs σ (upd H d (.frz od (DicO P w d kvs))) Q) : tLc (iVals P w (tC (.ref d))) g t te vs σ H Q :=
  ⟨d, kvs, rfl, hd, h⟩
/-- its values -/
theorem wk_vals {α β : Type} [Ec α] [Ec β] {σ : L2.St} {H : Hp} {d : Addr} {od : Obj} {kvs : List (NestedKey × Addr × V)} {es : List (α × β)} (hd : H d = some (.frz od (DicO P w d kvs))) (h : DicAll K H kvs es) : Wk K (fun _ H R => R (Itv P w d od kvs) H) σ H [] (es.map (·.2)) := fun H0 e R q => q _ H0 (Ex.refl _) fun H' x => by
  have e' := e.trans x.nil
  refine ⟨fun i y hy => ?_, ⟨e' _ _ hd, by rw [List.length_map, h.len]; exact Nat.le_refl _⟩⟩
  rw [List.getElem?_map] at hy
  obtain ⟨p, hp, rfl⟩ := Option.map_eq_some_iff.mp hy
  obtain ⟨b, v, h1, h2, h3⟩ := (h.tk (.ex e')).get hp
  refine ⟨⟨e' _ _ hd, (List.getElem?_eq_some_iff.mp h1).1⟩, fun u H'' ⟨e2, k, c, h4⟩ => ?_⟩
  subst e2
  rw [h1] at h4
  cases h4
  exact ⟨Ex.refl _, h3⟩
def EndR (K : PySem.W.Frag) (W : Bs) (H : Hp) : VP := fun v H' => ∃ es : LD, LW (Mo.rev leW W) es [] ∧ nlP K H (es.map fun p => p.2.reverse) v H'
abbrev spends_of (P : Program) (w : World) (K : PySem.W.Frag) : Sp := spP (fun i : Bs => [isP K i]) (fun i => Mo.Nice leW i) (fun i H => EndR K i H)
theorem pure_ends_of (vs : List V) (H : Hp) (Q : VK) (E : XK) (h : spends_of P w K vs H Q E) : trends_of P w K nv av (spbase_of K) (splogs_to P w K) { nx := fun _ H' => Q .non H', rt := Q } (L2.start Nends_of vs) H := by
  obtain ⟨W, h, hW, q⟩ := h
  obtain ⟨v1, rfl, i1⟩ := all1 h
  replace hW : Mo.Nice leW W := hW
  unfold trends_of
  have hs : Sm 4096 (W.map List.reverse) := ⟨by rw [List.length_map]; have := hW.one.few; omega, fun u hu => by
    obtain ⟨x, hx, rfl⟩ := List.mem_map.mp hu
    have := hW.one.short x hx
    rw [List.length_reverse]; omega⟩
  refine lcv_call (Ps := [isP K (Mo.rev leW W)]) (ea_cons' (call_base_of hs (ea_cons' (el_map (fun u : Wd => u.reverse) (wk_seq (ep_vis (x := W) rfl i1).sq) (by have := hW.one.few; omega) (fun _ => rfl) fun x hx v H1 e1 iv => ep_rev (ep_vis rfl iv)).sqn (mono_sq _) ea_nil')) (mono_is _) ea_nil') fun ws H2 e2 ps => ?_
  obtain ⟨u, rfl, j1⟩ := all1 ps
  refine ⟨Mo.rev leW W, .cons j1 .nil, hW.two, fun v H3 e3 p => ?_⟩
  obtain ⟨d, es, rfl, hd0, ⟨kvs, hd, ha⟩, lw⟩ := p
  refine lcv_lock hd fun od => ?_
  have hdH : H d = none := fresh_back e2 hd0
  have ex : Ex H (upd H3 d (.frz od (DicO P w d kvs))) := Ex.mut (e2.trans e3) hdH
  have tk : Tk K H3 (upd H3 d (.frz od (DicO P w d kvs))) := .ext hd
  have l10 := lw.ten hW.two
  refine el_map (te := tRevT K (tVar 1)) (vs := [1]) (j := 1) (σ := [some v1, none, none]) (fun l : Wd => l.reverse) (wk_vals (od := od) upd_same (ha.tk tk)) (by rw [List.length_map]; omega) (fun _ => rfl) (fun x hx v H1 e1 iv => ep_rev (ep_vis rfl iv)) _ (Ex.refl _) _ fun v H4 e4 r => q v H4 (ex.trans e4) ⟨es, lw, ?_⟩
  obtain ⟨a, us, h1, h2, h3, h4⟩ := r
  rw [List.map_map] at h4
  exact ⟨a, us, h1, fresh_back ex h2, h3, h4⟩
theorem call_ends_of {σ : L2.St} {H : Hp} {ts : TA} {W : Bs} (hW : Mo.Nice leW W) (h : EvAs ts σ H [isP K W]) : EvP (tCall (spends_of P w K) [] E0 ts) σ H (EndR K W H) := ep_sp W hW h fun H1 v H2 e r => by
  obtain ⟨es, h1, a, us, h2, h3, h4⟩ := r
  exact ⟨es, h1, a, us, h2, fresh_back e h3, h4⟩
theorem mono_end {W : Bs} {H : Hp} : MonoP (EndR K W H) := fun _ _ _ e ⟨es, h1, h2⟩ => ⟨es, h1, mono_nl _ _ _ _ e h2⟩
/-! ### common_parts_of -/
abbrev Row := List Bs
abbrev RD := List (Row × Bool)
abbrev col (Q : Row) (e : Wd) : Row := Q.filter fun t => Mo.does t e
abbrev leR : Row → Row → Bool := leE Row
structure RW (Q : Row) (E : Bs) (es : RD) (op : List Row) : Prop where
  nd : (es.map (·.1)).Nodup
  fst : ∃ r, es.map (·.1) = Q :: r
  row : ∀ k ∈ es.map (·.1), Mo.IsRow Q E k
  cl : ∀ k ∈ es.map (·.1), k ∉ op → ∀ e ∈ E, (k.filter fun s => decide (s ∈ col Q e)) ∈ es.map (·.1)
/-- rows can be sorted -/
theorem row_ok {W : Bs} {Q : Row} {E : Bs} (hQ : Mo.AllSt (le := leW) W Q) (hn : Q.Nodup) {ys : List Row} (hy : ys.Nodup) (hr : ∀ r ∈ ys, Mo.IsRow Q E r) (hq : Q ∉ ys ∨ ∃ r, ys = Q :: r) : SortOk (ys.map Ec.enc) := by
  by_cases hW : W = []
  · have h1 : ∀ s ∈ Q, s = [] := fun s hs => by
      obtain ⟨l, rfl⟩ := (hQ s).mp hs
      rw [hW]; rfl
    have h0 : ([] : Bs) ∈ Q := (hQ []).mpr ⟨[], by rw [hW]; rfl⟩
    have hQ1 : Q = [[]] := by
      cases Q with
      | nil => cases h0
      | cons s r =>
        have e1 := h1 s List.mem_cons_self
        cases r with
        | nil => rw [e1]
        | cons t r =>
          have e2 := h1 t (List.mem_cons_of_mem _ List.mem_cons_self)
          rw [e1, e2] at hn
          exact absurd List.mem_cons_self (List.nodup_cons.mp hn).1
    have two : ∀ r, Mo.IsRow Q E r → r = Q ∨ r = [] := fun r ⟨F, _, e⟩ => by
      rw [hQ1] at e ⊢
      rw [e, List.filter_cons]
      split
      · exact .inl rfl
      · exact .inr rfl
    have rest : ∀ l : List Row, l.Nodup → (∀ r ∈ l, Mo.IsRow Q E r) → Q ∉ l → l = [] ∨ l = [[]] := fun l hl hm hql => by
      have he : ∀ r ∈ l, r = [] := fun r h => (two r (hm r h)).resolve_left fun z => hql (by rw [← z]; exact h)
      cases l with
      | nil => exact .inl rfl
      | cons a l =>
        have e1 := he a List.mem_cons_self
        cases l with
        | nil => rw [e1]; exact .inr rfl
        | cons b l =>
          have e2 := he b (List.mem_cons_of_mem _ List.mem_cons_self)
          rw [e1, e2] at hl
          exact absurd List.mem_cons_self (List.nodup_cons.mp hl).1
    rcases hq with hq | ⟨r, rfl⟩
    · rcases rest ys hy hr hq with e | e
      · rw [e]; exact ok_one (α := Bs) (xs := []) (Nat.zero_le _)
      · rw [e]; exact ok_one (α := Bs) (xs := [[]]) (Nat.le_refl _)
    · obtain ⟨g1, g2⟩ := List.nodup_cons.mp hy
      rcases rest r g2 (fun x hx => hr x (List.mem_cons_of_mem _ hx)) g1 with e | e
      · rw [e]; exact ok_one (α := Bs) (xs := [Q]) (Nat.le_refl _)
      · rw [e]; exact ok_two (α := Bs) (x := Q) (by rw [hQ1]; exact fun z => nomatch z)
  · refine ok_rows (α := Bs) fun r hr' z => ?_
    cases W with
    | nil => exact hW rfl
    | cons u W =>
      have ha : Mo.ALW ∈ Q := (hQ _).mpr ⟨u, (Mo.standing_done ordW ⟨u, List.mem_cons_self, List.Sublist.refl _⟩).symm⟩
      have := Mo.row_alw ordW (hr r hr') ha
      rw [z] at this
      cases this
abbrev CI := Bs × Bs × Row
def CRes (K : PySem.W.Frag) (i : CI) (H : Hp) : VP := fun v H' => ∃ R : List Row, R.Nodup ∧ (∀ row, row ∈ R ↔ Mo.IsRow i.2.2 i.2.1 row) ∧ nlP K H R v H'
abbrev spcommon_parts_of (K : PySem.W.Frag) : Sp := spP (fun i : CI => [sqP K (i.2.1.map fun e => col i.2.2 e), isP K i.2.2]) (fun i => Mo.Nice1 leW i.1 ∧ Mo.AllSt (le := leW) i.1 i.2.2 ∧ i.2.2.Nodup ∧ i.2.1.length ≤ 10) (fun i H => CRes K i H)
/-- a sequence that stood before -/
theorem wk_old {α : Type} [Ec α] {σ : L2.St} {Hb H1 : Hp} {WW : List Addr} {xs : List α} {v : V} {i : Nat} (hi : σ[i]? = some (some v)) (h : sqP K xs v Hb) (e : Ex Hb H1) (hw : ∀ b ∈ WW, Hb b = none) : Wk K (iSeq K (tVar i)) σ H1 WW xs := by
  obtain ⟨a, us, rfl, h2, h3⟩ := h
  refine wk_seqP (P := fun u H => u = .ref a ∧ SqE K H a us ∧ IsAll K H us xs) (ep_var hi (fun _ _ _ e h => ⟨h.1, sqe_ex e h.2.1, ImAll.ex e h.2.2⟩) ⟨rfl, sqe_ex e h2, ImAll.ex e h3⟩) fun u H2 e2 p => ⟨a, us, p.1, p.2.2, ?_⟩
  rcases h2 with h2 | h2
  · refine .inr ⟨sq_of ((e.trans e2) _ _ h2), fun z => ?_⟩
    rw [hw a z] at h2
    cases h2
  · exact .inl (ex_t (e.trans e2) h2)
theorem pure_common (vs : List V) (H : Hp) (Q : VK) (E : XK) (h : spcommon_parts_of K vs H Q E) : trcommon_parts_of P w K nv av { nx := fun _ H' => Q .non H', rt := Q } (L2.start Ncommon_parts_of vs) H := by
  obtain ⟨⟨W, Es, Qs⟩, h, ⟨hW, hQ, hn, hE⟩, q⟩ := h
  obtain ⟨v1, v2, rfl, i1, i2⟩ := all2 h
  replace i1 : sqP K (Es.map fun e => col Qs e) v1 H := i1
  replace i2 : Is K H v2 Qs := i2
  replace hW : Mo.Nice1 leW W := hW
  replace hQ : Mo.AllSt (le := leW) W Qs := hQ
  replace hn : Qs.Nodup := hn
  replace hE : Es.length ≤ 10 := hE
  have hQ10 : Qs.length ≤ 10 := Mo.st_ten ordW hW hn fun s hs => (hQ s).mp hs
  have rT : ∀ r : Row, ∃ ds, Ec.enc r = .tuple ds := fun r => ⟨_, rfl⟩
  obtain ⟨b2, rfl⟩ := Is.ref (rT Qs) i2
  have cnt : ∀ {es : RD} {op : List Row}, RW Qs Es es op → es.length ≤ 257 := fun {es op} h => by
    have := Mo.rows_cnt ordW hW (fun s hs => (hQ s).mp hs) hn h.nd h.row
    rwa [List.length_map] at this
  have mN : MonoP (fun v H' => ∃ a, v = V.ref a ∧ H a = none ∧ DicAt P w K H' a [(Qs, true)]) := fun _ _ _ e ⟨a, h1, h2, h3⟩ => ⟨a, h1, h2, h3.ex e⟩
  unfold trcommon_parts_of
  refine sq (ms_parG (R := fun v H' => ∃ a, v = V.ref a ∧ H a = none ∧ DicAt P w K H' a [(Qs, true)]) (fun H1 e Q q => fun p hp => ⟨_, rfl, ?_⟩) mN (ep_lst1 (K := K) (ep_vis (x := Qs) rfl i2)) (mono_nl _) fun v u H1 e1 p1 p2 => ?_)
  · refine ⟨Row, Bool, inferInstance, inferInstance, inferInstance, Qs, true, b2, rfl, i2.ex (e.trans (Ex.new hp)), .bl true, by decide, upd_same, ?_⟩
    refine q _ _ (Ex.mut (Ex.new hp) hp) ⟨p, rfl, fresh_back e hp, _, upd_same, ?_⟩
    exact .cons (Im.tk (.ext upd_same) (i2.ex (e.trans (Ex.new hp)))) (.bl true) .nil
  obtain ⟨d, rfl, hd0, D1⟩ := p1
  obtain ⟨f0, fs0, rfl, hf0, hf1, hfi⟩ := p2
  have rw0 : RW Qs Es [(Qs, true)] [Qs] := ⟨by simp, ⟨[], rfl⟩, fun k hk => by
    have : k = Qs := by simpa using hk
    rw [this]; exact Mo.row_whole Qs Es, fun k hk ho => by
    have : k = Qs := by simpa using hk
    exact absurd (by rw [this]; simp) ho⟩
  refine sq (s_while (fun m σ' H' => ∃ fa us fr es x4, Ex H H' ∧ H' fa = some (.lst us) ∧ IsAll K H' us fr ∧ DicAt P w K H' d es ∧ RW Qs Es es fr ∧ fr.Nodup ∧ (∀ r ∈ fr, r ∈ es.map (·.1)) ∧ m = 2 * (257 - es.length) + (if fr = [] then 0 else 1) ∧ σ' = [some v1, some (.ref b2), some (.ref d), some (.ref fa), x4, none, none, none])
    _ ⟨f0, fs0, [Qs], [(Qs, true)], none, e1, hf1, hfi, D1, rw0, by simp, fun r hr => by simpa using hr, rfl, rfl⟩ fun m σ' H' p => ?_)
  obtain ⟨fa, us, fr, es, x4, ex, h1, h2, hD, rw, hfn, hsub, rfl, rfl⟩ := p
  have hc := cnt rw
  have hfl : fr.length ≤ 257 := by
    have := Mo.nodup_le hfn hsub
    rw [List.length_map] at this
    omega
  refine ⟨_, et_T (ep_gt (n := 0) (ep_len (ep_var (P := sqP K fr) rfl (mono_sq fr) ⟨fa, us, rfl, .inl h1, h2⟩)) (ep_nat (K := K) 0)), fun hb H2 e2 => ?_, fun hb H2 e2 => ?_⟩
  · have hne : fr ≠ [] := fun z => by rw [z] at hb; cases hb
    refine ⟨fun σ' H' => ∃ fa us fr' es' x4, Ex H H' ∧ H' fa = some (.lst us) ∧ IsAll K H' us fr' ∧ DicAt P w K H' d es' ∧ RW Qs Es es' fr' ∧ fr'.Nodup ∧ (∀ r ∈ fr', r ∈ es'.map (·.1)) ∧ 2 * (257 - es'.length) + (if fr' = [] then 0 else 1) < 2 * (257 - es.length) + (if fr = [] then 0 else 1) ∧ σ' = [some v1, some (.ref b2), some (.ref d), some (.ref fa), x4, none, none, none], fun σ' H' ⟨fa, us, fr', es', x4, y1, y3, y4, y5, y6, y7, y8, y9, y10⟩ => ⟨_, y9, fa, us, fr', es', x4, y1, y3, y4, y5, y6, y7, y8, rfl, y10⟩, ?_⟩
    have hm10 : fr.length * Es.length ≤ 257 * 10 := Nat.mul_le_mul hfl hE
    refine sq (ms_asg (el_lc2 (fun _ => Es.map fun e => col Qs e) (fun row c => row.filter fun s => decide (s ∈ c)) (wk_seq (ep_var (P := sqP K fr) rfl (mono_sq fr) ⟨fa, us, rfl, .inl (e2 _ _ h1), ImAll.ex e2 h2⟩)) ?_ (fun _ => rfl) (fun _ _ => rfl) (fun x hx v H3 WW e3 hWW iv => wk_old rfl (mono_sq _ _ _ _ (ex.trans e2) i1) e3 fun b hb => (hWW b hb).1) fun x hx y hy v u H3 e3 iv iu => ep_tuple (EvP.sqn (EvP.atL (el_lcN (fun s => decide (s ∈ y)) (fun s => s) (wk_seq (ep_vis rfl iv).sq) ?_ (fun _ => rfl) (fun s hs v5 H5 e5 i5 => EvT.at (et_T (ep_in (ep_vis rfl i5) (ep_vis rfl (iu.ex e5)).sq)) (decide_eq_decide.mpr Iff.rfl)) fun s hs v5 H5 e5 i5 _ => ep_vis rfl i5) (List.map_id' _)))) fun v3 H3 e3 i3 => ?_)
    · rw [sum_const, List.length_map]; omega
    · obtain ⟨F, _, e⟩ := rw.row x (hsub x hx)
      have h9 : x.length ≤ Qs.length := by
        rw [e]; exact List.length_filter_le _ _
      omega
    have hrl : (fr.flatMap fun row => (Es.map fun e => col Qs e).map fun c => row.filter fun s => decide (s ∈ c)).length = fr.length * Es.length := by
      rw [List.length_flatMap, ← sum_const fr Es.length]
      congr 1
      exact List.map_congr_left fun x _ => by rw [List.length_map, List.length_map]
    generalize hrows : (fr.flatMap fun row => (Es.map fun e => col Qs e).map fun c => row.filter fun s => decide (s ∈ c)) = rows at i3 hrl
    have hrm : ∀ r, r ∈ rows ↔ ∃ row ∈ fr, ∃ e ∈ Es, r = row.filter fun s => decide (s ∈ col Qs e) := fun r => by
      rw [← hrows, List.mem_flatMap]
      constructor
      · rintro ⟨row, hr, h⟩
        obtain ⟨c, hc, rfl⟩ := List.mem_map.mp h
        obtain ⟨e, he, rfl⟩ := List.mem_map.mp hc
        exact ⟨row, hr, e, he, rfl⟩
      · rintro ⟨row, hr, e, he, rfl⟩
        exact ⟨row, hr, List.mem_map.mpr ⟨_, List.mem_map.mpr ⟨e, he, rfl⟩, rfl⟩⟩
    have e123 := e2.trans e3
    have hnr : ∀ r, r ∈ rows.filter (fun r => !decide (r ∈ es.map (·.1))) ↔ r ∈ rows ∧ r ∉ es.map (·.1) := fun r => by
      rw [List.mem_filter, Bool.not_eq_true', decide_eq_false_iff_not]
    have hnrow : ∀ r, r ∈ rows → Mo.IsRow Qs Es r := fun r hr => by
      obtain ⟨row, hr1, e, he, rfl⟩ := (hrm r).mp hr
      exact Mo.row_step (rw.row row (hsub row hr1)) he
    obtain ⟨rk, hrk⟩ := rw.fst
    have hQk : Qs ∈ es.map (·.1) := by rw [hrk]; exact List.mem_cons_self
    refine sq (ms_asg (ex_canon (α := Row) (xs := rows.filter fun r => !decide (r ∈ es.map (·.1))) (EvP.sqn (EvP.atL (el_lcN (fun r => !decide (r ∈ es.map (·.1))) (fun r => r) (wk_seq (ep_var rfl (mono_nl _) i3).sqn) (by omega) (fun _ => rfl) (fun r hr v5 H5 e5 i5 => EvT.at (et_T (ep_notInDic (rT r) (ep_vis rfl i5) (ep_var rfl (mono_dic es) ⟨d, rfl, hD.ex (e123.trans e5)⟩))) (congrArg _ (decide_eq_decide.mpr Iff.rfl))) fun r hr v5 H5 e5 i5 _ => ep_vis rfl i5) (List.map_id' _))) rT (by decide) (Nat.lt_of_le_of_lt (List.length_filter_le _ _) (by omega)) fun ys hy hm => ?_) fun v4 H4 e4 i4 => ?_)
    · exact row_ok hQ hn hy (fun r hr => hnrow r ((hnr r).mp ((hm r).mp hr)).1) (.inl fun z => ((hnr Qs).mp ((hm Qs).mp z)).2 hQk)
    obtain ⟨fb, us4, rfl, hb0, hb1, hb2⟩ := i4
    have e1234 := e123.trans e4
    generalize hnew : Mo.canon (leE Row) (rows.filter fun r => !decide (r ∈ es.map (·.1))) = new at hb2
    have hmem : ∀ r, r ∈ new ↔ r ∈ rows ∧ r ∉ es.map (·.1) := fun r => by rw [← hnew, Mo.mem_canon, hnr]
    have hnn : new.Nodup := by rw [← hnew]; exact (Mo.rise_canon (ordE Row) _).nodup
    have rw' : RW Qs Es (es ++ new.map fun r => (r, true)) new := by
      have hkeys : (es ++ new.map fun r => (r, true)).map (·.1) = es.map (·.1) ++ new := by
        rw [List.map_append, List.map_map]
        congr 1
        exact List.map_id' _
      refine ⟨?_, ?_, fun k hk => ?_, fun k hk ho e he => ?_⟩
      · rw [hkeys, List.nodup_append]
        exact ⟨rw.nd, hnn, fun k hk j hj e => by rw [e] at hk; exact ((hmem j).mp hj).2 hk⟩
      · rw [hkeys, hrk]; exact ⟨rk ++ new, rfl⟩
      · rw [hkeys] at hk
        rcases List.mem_append.mp hk with hk | hk
        · exact rw.row k hk
        · exact hnrow k ((hmem k).mp hk).1
      · rw [hkeys] at hk ⊢
        rcases List.mem_append.mp hk with hk | hk
        · by_cases hkf : k ∈ fr
          · by_cases hin : (k.filter fun s => decide (s ∈ col Qs e)) ∈ es.map (·.1)
            · exact List.mem_append_left _ hin
            · exact List.mem_append_right _ ((hmem _).mpr ⟨(hrm _).mpr ⟨k, hkf, e, he, rfl⟩, hin⟩)
          · exact List.mem_append_left _ (rw.cl k hk hkf e he)
        · exact absurd hk ho
    have hc' := cnt rw'
    rw [List.length_append, List.length_map] at hc'
    refine ⟨_, rfl, d, rfl, ?_, ?_⟩
    · obtain ⟨kvs, g1, _⟩ := hD
      exact ⟨kvs, e1234 _ _ g1⟩
    · refine el_dc (P := P) (w := w) (te := tVar 5) (tv := tC (.bl true)) (vs := [5]) (j := 5) (σ := [some v1, some (.ref b2), some (.ref d), some (.ref fb), some v3, none, none, none]) (fun r : Row => r) (fun _ : Row => true) (wk_seq (ep_var (P := sqP K new) rfl (mono_sq new) ⟨fb, us4, rfl, .inl hb1, hb2⟩)) (by omega) (by rw [List.map_id']; exact hnn) (by decide) rT (fun _ => rfl) (fun r hr v5 H5 e5 i5 => ep_vis rfl i5) (fun r hr v5 H5 e5 i5 => ep_bl true) H4 (Ex.refl _) _ fun v5 H5 e5 ⟨D, hv, hD0, D5⟩ => ?_
      subst hv
      have hDd := hD.ex (e1234.trans e5)
      refine ⟨Row, Bool, inferInstance, inferInstance, inferInstance, D, es, new.map fun r => (r, true), rfl, fun z => ?_, hDd, D5, by decide, fun z => ?_, by rw [List.length_map]; omega, fun e he => ?_, fun kvs hk => ?_⟩
      · obtain ⟨kvs, g1, _⟩ := hD
        have := e1234 _ _ g1
        rw [z, hD0] at this
        cases this
      · rw [z] at hQk; cases hQk
      · obtain ⟨r, hr, rfl⟩ := List.mem_map.mp he
        exact ((hmem r).mp hr).2
      · obtain ⟨kv0, g1, _⟩ := hDd
        have tk : Tk K H5 (upd H5 d (DicO P w d kvs)) := .ext g1
        have hdb : fb ≠ d := fun z => by
          have := e5 _ _ hb1
          rw [z, g1] at this
          cases this
        refine ⟨fb, us4, new, es ++ new.map (fun r => (r, true)), some v3, Ex.mut (ex.trans (e1234.trans e5)) hd0, by rw [upd_ne hdb]; exact e5 _ _ hb1, ImAll.tk tk (ImAll.ex e5 hb2), ⟨kvs, upd_same, hk.tk tk⟩, rw', hnn, fun r hr => ?_, ?_, rfl⟩
        · rw [List.map_append, List.map_map]
          exact List.mem_append_right _ (List.mem_map.mpr ⟨r, hr, rfl⟩)
        · rw [if_neg hne, List.length_append, List.length_map]
          cases new with
          | nil => rw [if_pos rfl, List.length_nil]; omega
          | cons r r' => rw [if_neg (fun z => nomatch z)]; rw [List.length_cons] at hc' ⊢; omega
  · have hnil : fr = [] := by
      cases fr with
      | nil => rfl
      | cons s r => simp at hb
    subst hnil
    refine ⟨_, rfl, Row, Bool, inferInstance, inferInstance, d, es, rfl, hD.ex e2, row_ok hQ hn rw.nd rw.row (.inr rw.fst), by omega, by decide, fun p us' hp hu => ?_⟩
    refine q _ _ ((ex.trans e2).trans (Ex.new hp)) ⟨(es.map (·.1)).mergeSort (leE Row), (List.mergeSort_perm _ _).nodup_iff.mpr rw.nd, fun row => ?_, p, us', rfl, fresh_back (ex.trans e2) hp, upd_same, ImAll.ex (Ex.new hp) hu⟩
    rw [(List.mergeSort_perm _ _).mem_iff]
    obtain ⟨rk, hrk⟩ := rw.fst
    exact Mo.rows_all (by rw [hrk]; exact List.mem_cons_self) rw.row (fun r hr e he => rw.cl r hr (fun z => nomatch z) e he) row
end MoD
set_option maxHeartbeats 4000000
/-! pairs, splits -/
namespace MoD
open PySem PySem.Spec PyProof.Rows L2 MoR PySem.W Evl
variable {P : Program} {w : World} {K : PySem.W.Frag} {nv av : Addr}
theorem LW.walked {W : Bs} {es : LD} (h : LW W es []) : Mo.Walked leW W es := ⟨h.nd, h.at_, h.first, fun p hp n hn => h.cl p hp (fun z => nomatch z) n hn⟩
def StP (K : PySem.W.Frag) (W : Bs) : VP := fun v H => ∃ es : LD, LW W es [] ∧ Is K H v ((es.map (·.1)).mergeSort leB)
theorem mono_st {W : Bs} : MonoP (StP K W) := fun _ _ _ e ⟨es, h1, h2⟩ => ⟨es, h1, h2.ex e⟩
theorem ep_states {σ : L2.St} {H : Hp} {tl : TE} {W : Bs} {H0 : Hp} (hW : Mo.Nice1 leW W) (h : EvP tl σ H (DN P w K W H0)) : EvP (tCB (rTupOf K) (tCons (tCB (rSrtD P w K) (tCons tl tNil)) tNil)) σ H (StP K W) := fun H1 e Q q =>
  h H1 e _ fun v H2 e2 ⟨a, es, hv, _, hD, lw⟩ => by
    subst hv
    have h10 := lw.ten hW
    refine ⟨Bs, Wd, inferInstance, inferInstance, a, es, rfl, hD, (node_srt (W := W) fun s hs => ?_).ok (ss := es.map (·.1)) lw.nd (fun _ => Iff.rfl), by omega, by decide, fun p us hp hu => ⟨p, us, rfl, .inl ⟨sq_of upd_same, fun l hl => ?_⟩⟩⟩
    · obtain ⟨p, hp, rfl⟩ := List.mem_map.mp hs
      exact ⟨p.2, lw.at_ p hp⟩
    · exact q _ _ ((e2.trans (Ex.new hp)).trans (Ex.new hl)) ⟨es, lw, Is.mk (st_of upd_same) (ImAll.ex ((Ex.new hp).trans (Ex.new hl)) hu)⟩
theorem for_call {σ : L2.St} {H : Hp} {sp : Sp} {ts : TA} {g : TG} {tb : TS} {Ps : List VP} {D : Ends} (ea : EvAs ts σ H Ps) (h : ∀ ws H2, Ex H H2 → AllP Ps ws H2 → sp (ws ++ []) H2 (fun v H3 => tFor (iSeq K (tC v)) g tb D σ H3) E0) : tFor (iSeq K (tCall sp [] E0 ts)) g tb D σ H := by
  show ts σ H fun ws H2 => sp (ws ++ []) H2 (fun v H3 => tFor (iSeq K (tC v)) g tb D σ H3) E0
  exact ea H (Ex.refl H) _ h
theorem ret_lc {σ : L2.St} {H : Hp} {sp : Sp} {ts : TA} {g : TG} {t : TT} {te : TE} {vs : List Nat} {Ps : List VP} {D : Ends} (ea : EvAs ts σ H Ps) (h : ∀ ws H2, Ex H H2 → AllP Ps ws H2 → sp (ws ++ []) H2 (fun v H3 => tLc (iSeq K (tC v)) g t te vs σ H3 D.rt) E0) : tRet (tLc (iSeq K (tCall sp [] E0 ts)) g t te vs) D σ H := by
  show ts σ H fun ws H2 => sp (ws ++ []) H2 (fun v H3 => tLc (iSeq K (tC v)) g t te vs σ H3 D.rt) E0
  exact ea H (Ex.refl H) _ h
abbrev leP : PB → PB → Bool := leE PB
abbrev oP : Mo.TOrd leP := ordE PB
noncomputable def pairOf (W E : Bs) (row : Row) : PB := (Mo.lead leW leB W (Mo.fitting E row), Mo.restOf leW leB W (Mo.lead leW leB W (Mo.fitting E row)))
theorem zip_fit {Q : Row} {E : Bs} {row : Row} (h : ∀ s ∈ row, s ∈ Q) : (((E.zip (E.map fun e => col Q e)).filter fun p => row.all fun s => decide (s ∈ p.2)).map fun p => p.1) = Mo.fitting E row := by
  unfold Mo.fitting
  induction E with
  | nil => rfl
  | cons e E ih =>
    rw [List.map_cons, List.zip_cons_cons, List.filter_cons, List.filter_cons]
    have e1 : (row.all fun s => decide (s ∈ col Q e)) = row.all fun s => Mo.does s e := by
      rw [Bool.eq_iff_iff, List.all_eq_true, List.all_eq_true]
      exact ⟨fun z s hs => (List.mem_filter.mp (of_decide_eq_true (z s hs))).2, fun z s hs => decide_eq_true (List.mem_filter.mpr ⟨h s hs, z s hs⟩)⟩
    show ((if (row.all fun s => decide (s ∈ col Q e)) = true then _ else _ : List (Wd × Row)).map fun p => p.1) = _
    rw [e1]
    split
    · rw [List.map_cons, ih]
    · exact ih
def PRes (K : PySem.W.Frag) (W : Bs) (H : Hp) : VP := fun v H' => ∃ L : List PB, Mo.Rise leP L ∧ (∀ A B, (A, B) ∈ L ↔ Mo.Pair (le := leW) (leB := leB) W A B) ∧ L.length ≤ 257 ∧ nlP K H L v H'
abbrev sppairs (K : PySem.W.Frag) : Sp := spP (fun i : Bs => [isP K i]) (fun i => Mo.Nice leW i) (fun i H => PRes K i H)
theorem pure_pairs (vs : List V) (H : Hp) (Q : VK) (E : XK) (h : sppairs K vs H Q E) : trpairs P w K nv av (sptupled K) (spdoes K) (splead K) (sprest_of K) (splogs_to P w K) (spends_of P w K) (spcommon_parts_of K) { nx := fun _ H' => Q .non H', rt := Q } (L2.start Npairs vs) H := by
  obtain ⟨W, h, hW, q⟩ := h
  obtain ⟨v1, rfl, i1⟩ := all1 h
  replace hW : Mo.Nice leW W := hW
  unfold trpairs
  refine sq (ms_par (call_tupled (ws := W) (by have := hW.one.few; omega) (fun u hu => by have := hW.one.short u hu; omega) (ea_cons' (ep_vis (x := W) rfl i1).sq (mono_sq _) ea_nil')) (mono_is _) (ep_lst0 (K := K) (α := PB)) fun v2 u H1 e1 i2 p2 => ?_)
  obtain ⟨fd, us0, rfl, hf0, hf1, hfi⟩ := p2
  refine sq (ms_parG (ep_states hW.one (call_logs_to hW.one (ea_cons' (ep_vis (x := W) rfl i2) (mono_is _) ea_nil'))) mono_st (call_ends_of hW (ea_cons' (ep_vis (x := W) rfl i2) (mono_is _) ea_nil')) mono_end fun v3 v4 H2 e2 p3 p4 => ?_)
  obtain ⟨es, lw, i3⟩ := p3
  obtain ⟨es2, lw2, ea, ue, rfl, he0, he1, hei⟩ := p4
  have h10 := lw.ten hW.one
  have h10' := lw2.ten hW.two
  have hQn : ((es.map (·.1)).mergeSort leB).Nodup := (List.mergeSort_perm _ _).nodup_iff.mpr lw.nd
  have hQm : ∀ s, s ∈ (es.map (·.1)).mergeSort leB ↔ s ∈ es.map (·.1) := fun s => (List.mergeSort_perm _ _).mem_iff
  have hQ : Mo.AllSt (le := leW) W ((es.map (·.1)).mergeSort leB) := fun s => (hQm s).trans (lw.walked.all ordW hW.one.cb s)
  have hQl : ((es.map (·.1)).mergeSort leB).length ≤ 10 := by rw [List.length_mergeSort, List.length_map]; exact h10
  have hEn : Mo.AllEnds W (es2.map fun p => p.2.reverse) := lw2.walked.ends ordW hW.one.cb
  have hEl : (es2.map fun p => p.2.reverse).length ≤ 10 := by rw [List.length_map]; exact h10'
  have hEw : ∀ e ∈ es2.map (fun p => p.2.reverse), e.length ≤ 10 := fun e he => by
    obtain ⟨p, hp, rfl⟩ := List.mem_map.mp he
    have := lw2.len p hp
    rw [List.length_reverse]; omega
  generalize hqs : (es.map (·.1)).mergeSort leB = Qs at i3 hQn hQ hQl
  generalize hee : (es2.map fun p => p.2.reverse) = Es at hei hEn hEl hEw
  have hQb : ∀ s ∈ Qs, s.length ≤ 8 := fun s hs => by
    obtain ⟨x, rfl⟩ := (hQ s).mp hs
    exact (nice_sm hW.one x).1
  have hfe : fd ≠ ea := fun z => by rw [z, he0] at hf1; cases hf1
  refine sq (ms_asg (el_map (fun e : Wd => col Qs e) (wk_seq (ep_var (P := sqP K Es) rfl (mono_sq Es) ⟨ea, ue, rfl, .inl he1, hei⟩)) (by omega) (fun _ => rfl) fun e he v5 H5 e5 i5 => ep_tuple (EvP.sqn (EvP.atL (el_lcN (fun s => Mo.does s e) (fun s => s) (wk_is (ep_vis rfl (i3.ex e5))) (by omega) (fun _ => rfl) (fun s hs v6 H6 e6 i6 => et_V (call_does (by have := hQb s hs; omega) (ea_cons' (ep_vis rfl i6) (mono_is _) (ea_cons' (ep_vis rfl (i5.ex e6)) (mono_is _) ea_nil')))) fun s hs v6 H6 e6 i6 _ => ep_vis rfl i6) (List.map_id' _)))) fun v5 H5 e5 p5 => ?_)
  obtain ⟨ec, uc, rfl, hc0, hc1, hci⟩ := p5
  have hfc : fd ≠ ec := fun z => by
    have := e2 _ _ hf1
    rw [z, hc0] at this
    cases this
  have e25 := e2.trans e5
  have ex5 := (e1.trans e2).trans e5
  refine sq (for_call (Ps := [sqP K (Es.map fun e => col Qs e), isP K Qs]) (ea_cons' (ep_var rfl (mono_sq _) ⟨ec, uc, rfl, .inl hc1, hci⟩) (mono_sq _) (ea_cons' (ep_vis rfl (i3.ex e5)) (mono_is _) ea_nil')) fun ws H6 e6 ps => ?_)
  obtain ⟨u1, u2, rfl, j1, j2⟩ := all2 ps
  refine ⟨(W, Es, Qs), .cons j1 (.cons j2 .nil), ⟨hW.one, hQ, hQn, hEl⟩, fun v7 H7 e7 p7 => ?_⟩
  obtain ⟨R, hRn, hRm, i7⟩ := p7
  have hRl : R.length ≤ 257 := Mo.rows_cnt ordW hW.one (fun s hs => (hQ s).mp hs) hQn hRn fun r hr => (hRm r).mp hr
  have e67 := e6.trans e7
  have f7 : H7 fd = some (.lst us0) := e67 _ _ (e25 _ _ hf1)
  obtain ⟨hpn, hpm⟩ := Mo.pairs_found (le := leW) (leB := leB) ordW oB hQ hEn hRn hRm
  refine s_for (W := [fd]) (xs := R) (wk_new (H0 := H6) (ep_k (mono_nl R) i7) fun a ha => by rw [List.mem_singleton.mp ha, e6 _ _ (e25 _ _ hf1)]; exact fun z => nomatch z)
    (fun H8 i σ' H' => ∃ us fs x6 x7 x8, ExL K [fd] H8 H' ∧ Ex H H' ∧ H' fd = some (.lst us) ∧ IsAll K H' us fs ∧ fs = (R.take i).map (pairOf W Es) ∧ σ' = [some v1, some v2, some (.ref fd), some v3, some (.ref ea), some (.ref ec), x6, x7, x8, none, none, none])
    (fun H8 e8 => ⟨us0, [], none, none, none, .refl, (ex5.trans e67).trans e8, e8 _ _ f7, ImAll.ex ((e25.trans e67).trans e8) hfi, rfl, rfl⟩) (fun H8 i σ' H' _ p => by obtain ⟨_, _, _, _, _, p, _⟩ := p; exact p) (fun H8 i row v σ' H' H9 e8 hx p e9 iv => ?_) fun H8 σ' H' e8 p => ?_
  · obtain ⟨us, fs, x6, x7, x8, x, ex, a1, a2, a3, rfl⟩ := p
    have x9 : ExL K [fd] H8 H9 := x.then e9
    have et : Ex H5 H8 := e67.trans e8
    have c9 : H9 ec = some (.lst uc) := x9.ob ec _ (by simpa using fun z => hfc z.symm) (et _ _ hc1)
    have n9 : H9 ea = some (.lst ue) := x9.ob ea _ (by simpa using fun z => hfe z.symm) ((e5.trans et) _ _ he1)
    have tk : Tk K H2 H9 := (Tk.ex (e5.trans et)).trans x9.tk
    have k2 : Is K H9 v2 W := Im.tk ((Tk.ex e2).trans tk) i2
    have ke : IsAll K H9 ue Es := ImAll.tk tk hei
    have kc : IsAll K H9 uc (Es.map fun e => col Qs e) := ImAll.tk ((Tk.ex et).trans x9.tk) hci
    have hrow : Mo.IsRow Qs Es row := (hRm row).mp (List.mem_of_getElem? hx)
    have hsub : ∀ s ∈ row, s ∈ Qs := fun s hs => by
      obtain ⟨F, _, e⟩ := hrow
      rw [e] at hs
      exact (List.mem_filter.mp hs).1
    have hr10 : row.length ≤ 10 := by
      obtain ⟨F, _, e⟩ := hrow
      rw [e]
      exact Nat.le_trans (List.length_filter_le _ _) hQl
    have hfl : fs.length ≤ 257 := by
      rw [a3, List.length_map, List.length_take]; omega
    show tSeq _ _ _ [some v1, some v2, some (.ref fd), some v3, some (.ref ea), some (.ref ec), some v, x7, x8, none, none, none] H9
    refine sq (ms_asg (EvP.atL (el_lc2n (i := 9) (j := 10) (ps := Es.zip (Es.map fun e => col Qs e)) (fun p => row.all fun s => decide (s ∈ p.2)) (fun p => p.1) (wk_zipL (P := fun v H => v = .ref ea ∧ H ea = some (.lst ue) ∧ IsAll K H ue Es) (P' := fun v H => v = .ref ec ∧ H ec = some (.lst uc) ∧ IsAll K H uc (Es.map fun e => col Qs e)) (ep_var rfl (fun _ _ _ e h => ⟨h.1, e _ _ h.2.1, ImAll.ex e h.2.2⟩) ⟨rfl, n9, ke⟩) (ep_var rfl (fun _ _ _ e h => ⟨h.1, e _ _ h.2.1, ImAll.ex e h.2.2⟩) ⟨rfl, c9, kc⟩) (fun _ _ _ p => ⟨ea, ue, p.1, sq_of p.2.1, p.2.2⟩) fun _ _ _ p => ⟨ec, uc, p.1, sq_of p.2.1, p.2.2⟩) ?_ (fun _ _ => rfl) (fun p hp u w H10 e10 iu iw => EvT.at (et_V (ep_all (el_map (fun s => decide (s ∈ p.2)) (wk_seq (ep_vis rfl (iv.ex e10)).sq) (by omega) (fun _ => rfl) fun s hs v11 H11 e11 i11 => EvP.at (ep_in (ep_vis rfl i11) (ep_vis rfl (iw.ex e11)).sq) (decide_eq_decide.mpr Iff.rfl)))) (all_map _ _)) fun p hp u w H10 e10 iu iw _ => ep_vis rfl iu) (zip_fit hsub)) fun v10 H10 e10 p10 => ?_)
    · rw [List.length_zip]; omega
    have hfok : Ok (Mo.fitting Es row) := by
      refine ⟨Nat.lt_of_le_of_lt (List.length_filter_le _ _) (by omega), fun u hu => ?_⟩
      have := hEw u (List.mem_filter.mp hu).1
      omega
    refine sq (ms_asg (call_lead hW hfok (ea_cons' (ep_vis rfl (k2.ex e10)) (mono_is _) (ea_cons' (ep_var (P := sqP K (Mo.fitting Es row)) rfl (mono_sq _) (sq_of_nl p10)) (mono_sq _) ea_nil'))) fun v11 H11 e11 i11 => ?_)
    have hl := Mo.nice_lead ordW oB (E := Mo.fitting Es row) hW
    have e911 := (e9.trans e10).trans e11
    refine ms_app (P := isP K (pairOf W Es row)) rfl (e911 _ _ a1) (ep_pair (ep_vis rfl i11) (call_rest_of hW ⟨by have := hl.1; omega, fun u hu => by have := hl.2 u hu; omega⟩ (ea_cons' (ep_vis rfl (k2.ex (e10.trans e11))) (mono_is _) (ea_cons' (ep_vis rfl i11).sq (mono_sq _) ea_nil')))) (by have := IsAll.len a2; omega) fun v12 H12 e12 i12 => ?_
    have e912 := e911.trans e12
    refine ⟨us ++ [v12], fs ++ [pairOf W Es row], some v, some v10, some v11, (x.then e912).lst List.mem_cons_self (e912 _ _ a1), Ex.mut (ex.trans e912) hf0, upd_same, IsAll.snoc (ImAll.tk (.lst (e912 _ _ a1)) (ImAll.ex e912 a2)) (Im.tk (.lst (e912 _ _ a1)) i12), ?_, rfl⟩
    rw [take_one hx, List.map_append, a3]
    rfl
  · obtain ⟨us, fs, x6, x7, x8, x, ex, a1, a2, a3, rfl⟩ := p
    rw [List.take_length] at a3
    have hfl : fs.length ≤ 257 := by
      rw [a3, List.length_map]; exact hRl
    refine ⟨_, rfl, PB, inferInstance, fd, us, fs, rfl, sq_of a1, a2, ok_pairs fs, by omega, by decide, fun p us' hp hu => ?_⟩
    have hsc : fs.mergeSort (leE PB) = Mo.canon (leE PB) fs := sort_canon (by rw [a3]; exact hpn) fun _ => Iff.rfl
    refine q _ _ (ex.trans (Ex.new hp)) ⟨fs.mergeSort (leE PB), ?_, fun A B => ?_, by rw [List.length_mergeSort]; exact hfl, p, us', rfl, fresh_back ex hp, upd_same, ImAll.ex (Ex.new hp) hu⟩
    · rw [hsc]; exact Mo.rise_canon oP fs
    · rw [(List.mergeSort_perm _ _).mem_iff, a3]
      exact hpm A B
theorem call_pairs {σ : L2.St} {H : Hp} {ts : TA} {W : Bs} (hW : Mo.Nice leW W) (h : EvAs ts σ H [isP K W]) : EvP (tCall (sppairs K) [] E0 ts) σ H (PRes K W H) := ep_sp W hW h fun H1 v H2 e r => by
  obtain ⟨L, h1, h2, h3, a, us, h4, h5, h6⟩ := r
  exact ⟨L, h1, h2, h3, a, us, h4, fresh_back e h5, h6⟩
/-! ### splits -/
def Named (W : Bs) : Prop := ∀ l ∈ W, ∀ x ∈ l, NameOk x
theorem pair_ok {W : Bs} (hW : Mo.Nice leW W) (hn : Named W) {A B : Bs} (hp : Mo.Pair (le := leW) (leB := leB) W A B) : BaseOk A ∧ BaseOk B ∧ A.length ≤ 40 ∧ B.length ≤ 40 := by
  obtain ⟨c1, c2⟩ := Mo.pair_cb ordW oB hp
  have l1 := Mo.nice_lead ordW oB (E := B) hW
  have l2 := Mo.nice_rest ordW oB (A := A) hW
  rw [← hp.one] at l1
  rw [← hp.two] at l2
  have m1 : ∀ l ∈ A, ∀ x ∈ l, NameOk x := fun l hl x hx => by
    rw [hp.one] at hl
    have hb := (Mo.isBase_amid ordW oB W Mo.ALW B).mem.mp (show l ∈ Mo.amid leW leB W Mo.ALW B from hl)
    obtain ⟨u, hu, hxu⟩ := Mo.min_letters (W := W) (A := Mo.ALW) (E := B) hb x hx
    exact hn u hu x hxu
  have m2 : ∀ l ∈ B, ∀ x ∈ l, NameOk x := fun l hl x hx => by
    rw [hp.two] at hl
    have hb := (Mo.isBase_amid ordW oB W A Mo.ALW).mem.mp (show l ∈ Mo.amid leW leB W A Mo.ALW from hl)
    obtain ⟨u, hu, hxu⟩ := Mo.min_letters (W := W) (A := A) (E := Mo.ALW) hb x hx
    exact hn u hu x hxu
  exact ⟨⟨c1, ⟨by omega, fun u hu => by have := l1.2 u hu; omega⟩, fun l hl => ⟨by have := l1.2 l hl; omega, m1 l hl⟩⟩, ⟨c2, ⟨by omega, fun u hu => by have := l2.2 u hu; omega⟩, fun l hl => ⟨by have := l2.2 l hl; omega, m2 l hl⟩⟩, l1.1, l2.1⟩
def SRes (K : PySem.W.Frag) (W : Bs) (H : Hp) : VP := fun v H' => ∃ L : List PB, Mo.Rise leP L ∧ (∀ A B, (A, B) ∈ L ↔ Mo.Pair (le := leW) (leB := leB) W A B) ∧ L.length ≤ 257 ∧ nlP K H (L.filter (Mo.isSplit leW W)) v H'
abbrev spsplits (K : PySem.W.Frag) : Sp := spP (fun i : Bs => [isP K i]) (fun i => Mo.Nice leW i ∧ Named i) (fun i H => SRes K i H)
theorem pure_splits (vs : List V) (H : Hp) (Q : VK) (E : XK) (h : spsplits K vs H Q E) : trsplits K nv av (sppairs K) (spis_split K) { nx := fun _ H' => Q .non H', rt := Q } (L2.start Nsplits vs) H := by
  obtain ⟨W, h, ⟨hW, hn⟩, q⟩ := h
  obtain ⟨v1, rfl, i1⟩ := all1 h
  replace i1 : Is K H v1 W := i1
  unfold trsplits
  refine ret_lc (Ps := [isP K W]) (ea_cons' (ep_vis rfl i1) (mono_is _) ea_nil') fun ws H2 e2 ps => ?_
  obtain ⟨u, rfl, j1⟩ := all1 ps
  refine ⟨W, .cons j1 .nil, hW, fun v H3 e3 p => ?_⟩
  obtain ⟨L, h1, h2, h3, i3⟩ := p
  have i13 := i1.ex (e2.trans e3)
  refine (EvP.atL (el_lcN (te := tVar 1) (vs := [1]) (j := 1) (σ := [some v1, none]) (Mo.isSplit leW W) (fun p : PB => p) (wk_seq (ep_k (mono_nl L) i3).sqn) (by omega) (fun _ => rfl) (fun p hp v4 H4 e4 i4 => ?_) fun p hp v4 H4 e4 i4 _ => ep_vis rfl i4) (List.map_id' _)) H3 (Ex.refl _) _ fun v4 H4 e4 r => ?_
  · obtain ⟨A, B⟩ := p
    obtain ⟨g1, g2, g3, g4⟩ := pair_ok hW hn ((h2 A B).mp hp)
    have hm : A.length * B.length ≤ 40 * 40 := Nat.mul_le_mul g3 g4
    exact et_V (call_is_split (p := (A, B)) ⟨by have := hW.one.few; omega, fun u hu => by have := hW.one.short u hu; omega⟩ g1 g2 (Nat.lt_of_le_of_lt hm (by decide)) (ea_cons' (ep_vis rfl (i13.ex e4)) (mono_is _) (ea_cons' (ep_vis rfl i4) (mono_is _) ea_nil')))
  · obtain ⟨a, us, h4, h5, h6, h7⟩ := r
    exact q v4 H4 ((e2.trans e3).trans e4) ⟨L, h1, h2, h3, a, us, h4, fresh_back (e2.trans e3) h5, h6, h7⟩
theorem call_splits {σ : L2.St} {H : Hp} {ts : TA} {W : Bs} (hW : Mo.Nice leW W) (hn : Named W) (h : EvAs ts σ H [isP K W]) : EvP (tCall (spsplits K) [] E0 ts) σ H (SRes K W H) := ep_sp W ⟨hW, hn⟩ h fun H1 v H2 e r => by
  obtain ⟨L, h1, h2, h3, a, us, h4, h5, h6⟩ := r
  exact ⟨L, h1, h2, h3, a, us, h4, fresh_back e h5, h6⟩
end MoD
set_option maxHeartbeats 4000000
/-! enumerate(tuple) -/
namespace MoR
open PySem PySem.Spec PyProof.Rows L2 PySem.W Evl PySem.Calls
theorem meets_enumB {v : Value} {o : Obj} {H : Heap → Prop} (B : Begins v o H) :
    Meets (Builtin.«enumerate.__new__» ⟨[.type "enumerate", v], []⟩) (fun _ R s => H s.heap ∧
      R (.ok (.ret (.ref (s.heap.push o).objs.size))) { s with heap := (s.heap.push o).push { cls := .type "enumerate", data := .fields #[.none, .bool false, .ref s.heap.objs.size, rawInt 0, .none, .none] } }) :=
  .of_wp fun prog w A R s h => by
    obtain ⟨hp, g, d, tk, os⟩ := s; obtain ⟨h1, h⟩ := h
    have hsub := sub_enumerate
    have q1 : ∀ {A' : Around} {E : Value → Shared → Prop} {Q : Value → Shared → Prop}, Q (.ref hp.objs.size) ⟨hp.push o, g, d, tk, os⟩ → wpAny (model prog w) A' (pyIter v) Q E ⟨hp, g, d, tk, os⟩ :=
      fun q => B.iter prog w _ _ ⟨hp, g, d, tk, os⟩ _ h1 q
    wp_walk using q1
    refine wpAny_stack_any fun st => wpAny_pure ?_
    split
    · rename_i c _ _ _ _ _
      cases (c == Value.type "enumerate")
      · wp_walk using q1
        exact ⟨_, rfl, h⟩
      · wp_walk using q1
        exact ⟨_, rfl, h⟩
    · wp_walk using q1
      exact ⟨_, rfl, h⟩
theorem call_enumB {prog : Program} {w : World} {A : Around} {E : Value → Shared → Prop} {s : Shared} {v : Value} {o : Obj} {H : Heap → Prop} {Q : Value → Shared → Prop} (B : Begins v o H) (h1 : H s.heap)
    (h : ∀ h', IsEnum h' (s.heap.objs.size + 1) s.heap.objs.size 0 .none → h'.get? s.heap.objs.size = some o → (∀ b o, s.heap.get? b = some o → h'.get? b = some o) → Q (.ref (s.heap.objs.size + 1)) { s with heap := h' }) :
    wpAny (model prog w) A (call (.type "enumerate") [v]) Q E s := by
  refine callType_new F.called_enumerate (by decide) (F.typeCall_enumerate_1 _) (F.newCall_enumerate_1 _) (fun obj => F.args_object_init_2 obj _) F.entry_enumerate_new (meets_enumB B) ⟨h1, ?_⟩
  have hz : (s.heap.push o).objs.size = s.heap.objs.size + 1 := Heap.size_push ..
  show _ ∧ _
  rw [hz]
  have he : IsEnum ((s.heap.push o).push { cls := .type "enumerate", data := .fields #[.none, .bool false, .ref s.heap.objs.size, rawInt 0, .none, .none] }) (s.heap.objs.size + 1) s.heap.objs.size 0 .none := by
    have := Heap.get?_push_size (s.heap.push o) (o := { cls := .type "enumerate", data := .fields #[.none, .bool false, .ref s.heap.objs.size, rawInt 0, .none, .none] }) rfl
    rw [hz] at this; exact this
  exact ⟨⟨_, he, rfl⟩, h _ he (Heap.get?_push_of_some _ (Heap.get?_push_size _ B.free)) fun b o x => Heap.get?_push_of_some _ (Heap.get?_push_of_some _ x)⟩
/-- the tuple at a, each item in a new pair -/
def IteT (K : PySem.W.Frag) (a : Addr) : It :=
  ⟨fun i H => ∃ (xs : List V) (x : V), SqT K H a xs ∧ xs[i]? = some x, fun i H v H' => ∃ T x, v = .ref T ∧ H T = none ∧ H' = upd H T (.tup [.int (i : Nat), x]) ∧ ∀ xs, SqT K H a xs → xs[i]? = some x, fun i H => ∃ xs : List V, SqT K H a xs ∧ xs.length = i⟩
theorem turn_enumT {P : Program} {w : World} {K : PySem.W.Frag} {elts : List Expr} {kk : Nat} {tpos : Pos} (a e it : Addr) :
    Turn P w K (.Tuple elts kk tpos) (IteT K a) [e, it] e (fun i h => (∃ old, IsEnum h e it ((i : Nat) : Int) old) ∧ h.IsTupleIter it a i ∧ e ≠ it) where
  mem := by simp
  obj := fun i h st b hb => by
    obtain ⟨⟨old, he⟩, ⟨o, ho, hc, hd⟩, _⟩ := st
    have e' : b = e ∨ b = it := by simpa using hb
    rcases e' with z | z
    · rw [z]; exact ⟨_, he, fun v q => nomatch q⟩
    · rw [z]; exact ⟨o, ho, fun v q => by rw [hd] at q; cases q⟩
  keep := fun i h h' st k => let ⟨⟨old, he⟩, hi, hne⟩ := st; ⟨⟨old, k e (by simp) _ he⟩, hi.at fun o q => k it (by simp) o q, hne⟩
  item := by
    intro X hP hw hK hc i pins s σ H E I hf st hg
    subst hP hw hK
    obtain ⟨⟨old, he⟩, hit, hne⟩ := st
    obtain ⟨xs, x, hq, hx⟩ := hg
    obtain ⟨its, rv, p, hz⟩ := I.tuple hq
    obtain ⟨u, hu, ru⟩ := rv.get hx
    have hel : e < s.heap.objs.size := Heap.lt_size he
    have hil : it < s.heap.objs.size := by obtain ⟨_, q, _⟩ := hit; exact Heap.lt_size q
    have hta : (s.heap.IsTuple a its.toArray) := p
    have hai : a ≠ it := fun z => by
      obtain ⟨o1, q1, c1, _⟩ := hit
      obtain ⟨o2, q2, c2, _⟩ := hta
      rw [z, q1] at q2; cases q2
      rw [c1] at c2
      exact absurd (Value.type.inj c2) (by decide)
    have hae : e ≠ a := fun z => by
      obtain ⟨o2, q2, c2, _⟩ := hta
      have he' := he
      unfold IsEnum at he'
      rw [z, q2] at he'; cases he'
      exact absurd (Value.type.inj c2) (by decide)
    have hui : i < its.toArray.size := by
      have := (List.getElem?_eq_some_iff.mp hu).1
      simpa using this
    refine wpAny_pyNext_enum_itemD (Draws.tuple (by exact I.ok.hd hc) it a hai its.toArray) he ⟨hit, hta⟩ hui hne (by simp [hne, hae]) fun y h' tk hP ho st' hT hsz hk => ?_
    have hy : y = u := by
      have hP' : its.toArray[i]? = some y := hP
      rw [List.getElem?_toArray, hu] at hP'
      exact (Option.some.inj hP').symm
    subst hy
    have hit' := st'.1
    refine ⟨_, rfl, wpAny_letOwnedTupleGo_enum (s := { s with heap := h', toks := tk + 1 }) ho fun h'' he' sb => ?_⟩
    have hT2 : h''.get? s.heap.objs.size = some { cls := .type "tuple", data := .seq #[.int i tk, y] } := (sb.2 _ (Nat.ne_of_gt hel)).trans hT
    have new : ObjOk X.prog X.w (upd H s.heap.objs.size (.tup [.int (i : Nat), x])) h'' s.heap.objs.size (.tup [.int (i : Nat), x]) :=
      ⟨by show 2 ≤ sizeLine; decide, [.int i tk, y], .cons ⟨_, rfl⟩ (.cons ru .nil), ⟨_, hT2, rfl, _, rfl⟩⟩
    have I1 : L2.Inv X pins σ (upd H s.heap.objs.size (.tup [.int (i : Nat), x])) { s with heap := h'', toks := tk + 1 } :=
      I.turnedNew (ch := [e, it]) (fun b ob hb q => (sb.2 b (fun z => hb (by simp [z]))).trans (hk b ob (fun z => hb (by simp [z])) (fun z => hb (by simp [z])) q)) hf (Nat.le_refl _) new
    refine ⟨.ref s.heap.objs.size, _, I1, rfl, ⟨_, x, rfl, I.hok.fresh (Nat.le_refl _), rfl, fun ys hy => by rw [I.tuple_inj hy hq]; exact hx⟩, ⟨⟨y, ?_⟩, hit'.at fun o q => (sb.2 it (Ne.symm hne)).trans q, hne⟩, fun b hb => ?_⟩
    · have e1 : ((i + 1 : Nat) : Int) = (i : Int) + 1 := by omega
      rw [e1]; exact he'
    · have hb' : b < s.heap.objs.size := by
        have e' : b = e ∨ b = it := by simpa using hb
        rcases e' with z | z
        · rw [z]; exact hel
        · rw [z]; exact hil
      rw [upd_ne (Nat.ne_of_lt hb')]
      exact (hf b hb).1
  done := by
    intro X hP hw hK hc i pins s σ H E I hf st hg
    subst hP hw hK
    obtain ⟨⟨old, he⟩, hit, hne⟩ := st
    obtain ⟨xs, hq, rfl⟩ := hg
    obtain ⟨its, rv, p, hz⟩ := I.tuple hq
    obtain ⟨f0, f1, f2, f3, f4, f5⟩ := hf it (by simp)
    have hta : (s.heap.IsTuple a its.toArray) := p
    have hai : a ≠ it := fun z => by
      obtain ⟨o1, q1, c1, _⟩ := hit
      obtain ⟨o2, q2, c2, _⟩ := hta
      rw [z, q1] at q2; cases q2
      rw [c1] at c2
      exact absurd (Value.type.inj c2) (by decide)
    have hl : xs.length = its.toArray.size := by simpa using rv.length
    rw [hl] at he hit
    exact wpAny_pyNext_enum_endD (Draws.tuple (by exact I.ok.hd hc) it a hai its.toArray) he ⟨hit, hta⟩ fun h' eb => ⟨rfl, I.turned (t' := s.toks) (fun b o hb q => eb b o hb q) f0 f1 f3 f4 f5⟩
  self := fun A i s Q E st h => let ⟨⟨_, he⟩, _⟩ := st; wpAny_pyIter_enum he h
/-- enumerate of a tuple -/
def iEnumT (K : PySem.W.Frag) (ta : TA) : TI := fun σ H R => ta σ H fun vs H1 => ∃ a xs, vs = [.ref a] ∧ SqT K H1 a xs ∧ R (IteT K a) H1
theorem pi_enumT {X : Cx} {e : Expr} {ta : TA} {p pos tpos : Pos} {elts : List Expr} {kk : Nat} (hg : Gl X "enumerate") (hm : X.mg "enumerate" = none) (ha : PA X [e] ta) (hs : starEach [e] X.env = [(false, eval e X.env)] := by rfl) :
    PI X (.Tuple elts kk tpos) (.Call (.Name "enumerate" p) [e] [] pos) (iEnumT X.K ta) := by
  refine ⟨fun pins s σ H R I h => ?_⟩
  refine Call_ (ld_blt I hg hm boot_enumerate (PyProof.Rows.callWith_type1 (thn (ha.run pos pins s σ H _ I h) fun us s1 ⟨vs, H1, I1, r1, q1⟩ => ?_) hs rfl))
  obtain ⟨a, xs, ex, hq, q⟩ := q1
  subst ex
  cases r1 with
  | cons r rr =>
    cases rr
    cases r
    obtain ⟨its, rv, p', hz⟩ := I1.tuple hq
    refine call_enumB (begins_tuple a its.toArray) p' fun h' he hit hk => wpAny_pyIter_enum he ?_
    have I2 : L2.Inv X pins σ H1 { s1 with heap := h' } := I1.kept (t' := s1.toks) hk
    refine ⟨s1.heap.objs.size + 1, [s1.heap.objs.size + 1, s1.heap.objs.size], _, _, H1, rfl, I2, turn_enumT a (s1.heap.objs.size + 1) s1.heap.objs.size, ⟨⟨.none, he⟩, ⟨_, hit, rfl, rfl⟩, Nat.succ_ne_self _⟩, fun b hb => ?_, q⟩
    have e' : b = s1.heap.objs.size + 1 ∨ b = s1.heap.objs.size := by simpa using hb
    have hle : s1.heap.objs.size ≤ b := by
      rcases e' with z | z
      · rw [z]; exact Nat.le_add_right _ _
      · rw [z]; exact Nat.le_refl _
    exact I1.fpOk hle (I1.hok.fresh hle)
/-- enumerate of a tuple, typed -/
theorem wk_enumT {K : PySem.W.Frag} {σ : L2.St} {H : Hp} {W : List Addr} {α : Type} [Ec α] {te : TE} {xs : List α} (h : EvP te σ H (isP K xs)) : Wk K (iEnumT K (tCons te tNil)) σ H W ((List.range xs.length).zip xs) := fun H0 e R q =>
  h H0 e _ fun v H1 e1 p => by
    obtain ⟨a, vs, rfl, hs, hi⟩ := Is.list p
    have hl := IsAll.len hi
    refine ⟨a, vs, rfl, hs, q _ H1 e1 fun H' x => ?_⟩
    have hs' := x.tk _ _ hs
    have hi' := ImAll.tk x.tk hi
    refine ⟨fun i y hy => ?_, ⟨vs, hs', by rw [List.length_zip, List.length_range]; omega⟩⟩
    obtain ⟨g1, g2⟩ := zip_get hy
    have hy1 : y.1 = i := by
      have := List.getElem?_eq_some_iff.mp g1
      simp at this
      exact this.2.symm
    obtain ⟨u, hu, iu⟩ := IsAll.item hi' g2
    refine ⟨⟨vs, u, hs', hu⟩, fun w H'' z => ?_⟩
    obtain ⟨T, x', rfl, hT, rfl, z1⟩ := z
    have q1 := z1 vs hs'
    rw [hu] at q1; cases q1
    refine ⟨Ex.new hT, Is.mkPair (st_of upd_same) ?_ (Im.ex (Ex.new hT) iu)⟩
    rw [hy1]
    exact .int _
end MoR
set_option maxHeartbeats 8000000
/-! the defs of the text: slots, readings, derivations; printed by emit.py -/
namespace MoD
open PySem PySem.Spec PyProof.Rows L2 MoR
abbrev N_law_box : List Str := ["_law_script", "_law_k", "_law_cell"]
theorem sc_law_box : FnScope N_law_box ["_law_script", "_law_k"] (defScope s_law_box) := ⟨rfl, rfl, rfl, by decide +kernel, rfl, by decide +kernel, by decide +kernel⟩
def tr_law_box (K : PySem.W.Frag) (nv av : Addr) : TS :=
  tSeq (tAsg (tIf (tTest (tOp rLt (tVar 1) (tCB (rLen' K) (tCons (tVar 0) (tNil))))) (tOp (rIx K) (tVar 0) (tVar 1)) (tC (.int 0))) (gName 2)) (tRet (tLst (tCons (tOp rMul0 (tCB rAbs (tCons (tVar 2) (tNil))) (tCB rInt1 (tCons (tOp rGe' (tCB rAbs (tCons (tVar 2) (tNil))) (tOp rPow0 (tC (.int 10)) (tC (.int 18)))) (tNil)))) (tCons (tOp rAdd' (tOp rAdd' (tOp rMod0 (tCB rInt1 (tCons (tVar 2) (tNil))) (tC (.int 2305843009213693951))) (tOp rMul0 (tC (.int 39373)) (tVar 1))) (tC (.int 59565))) (tCons (tC (.int 0)) (tNil))))))
theorem ok_law_box {P : Program} {w : World} {K : PySem.W.Frag} {mg : Str → Option Value} {base : Heap} {nv av ev : Addr} {k : Nat} {f : Addr} {fd : FuncData} (F : FnP K "_law_box" s_law_box f fd) (T : Txt K mg nv av ev)
    {sp : Sp} (len : ∀ vs H Q E, sp vs H Q E → vs.length = 2) (pure : ∀ vs H Q E, sp vs H Q E → tr_law_box K nv av  { nx := fun _ H' => Q .non H', rt := Q } (start N_law_box vs) H) : FnOk P w K mg base CX0 (k + 1) f fd ["_law_script", "_law_k"] sp := by
  refine F.ok sc_law_box len (fun cdv A outer s H vs Q E hr h => ⟨tr_law_box K nv av , PSs.nox ?_, pure vs H Q E h⟩)
  have nd := sc_law_box.nd
  exact pss_cons (ps_set (i := 2) nd rfl (by first | exact Or.inl rfl | exact Or.inr rfl) (pe_ifExp (pt_cmpR op_lt (pv 1) (pe_callB call_len rfl T.b_len (by decide +kernel) (pa_cons (pv 0) (pa_nil))) (nomark _)) (pe_ix ix_seq (pv 0) (pv 1) (fun _ _ => rfl)) (pe_int))) (pss_one (ps_ret (pe_lst (pa_cons (pe_op op_mul (pe_callB call_abs rfl T.b_abs (by decide +kernel) (pa_cons (pv 2) (pa_nil))) (pe_callTy call_int1 rfl T.b_int (by decide +kernel) (pa_cons (pe_cmpR op_ge (pe_callB call_abs rfl T.b_abs (by decide +kernel) (pa_cons (pv 2) (pa_nil))) (pe_op op_pow (pe_int) (pe_int)) (nomark _)) (pa_nil)))) (pa_cons (pe_op op_add (pe_op op_add (pe_op op_mod (pe_callTy call_int1 rfl T.b_int (by decide +kernel) (pa_cons (pv 2) (pa_nil))) (pe_int)) (pe_op op_mul (pe_int) (pv 1))) (pe_int)) (pa_cons (pe_int) (pa_nil)))))))
theorem bn_law_box {K : PySem.W.Frag} {f : Addr} {fd : FuncData} (F : FnP K "_law_box" s_law_box f fd) : Binds K fd ["_law_script", "_law_k"] [] := F.bindsN fun _ _ _ _ _ _ us hl => match us, hl with | [_, _], _ => rfl
abbrev N_law_take : List Str := ["_law_box_here", "_law_size_so", "_law_some", "_law_once", "_law_far", "_law_again"]
theorem sc_law_take : FnScope N_law_take ["_law_box_here", "_law_size_so"] (defScope s_law_take) := ⟨rfl, rfl, rfl, by decide +kernel, rfl, by decide +kernel, by decide +kernel⟩
def tr_law_take (K : PySem.W.Frag) (nv av : Addr) : TS :=
  tSeq (tIfS (tTest (tOp rGt' (tOp (rIx K) (tVar 0) (tC (.int 0))) (tC (.int 0)))) (tSeq (tAsg (tOp rMod0 (tCB rInt1 (tCons (tOp (rIx K) (tVar 0) (tC (.int 0))) (tNil))) (tVar 1)) (gName 2)) (tSeq (tAsg (tOp rDiv0 (tOp (rIx K) (tVar 0) (tC (.int 0))) (tVar 1)) (gSub (tVar 0) (tC (.int 0)) rSetL)) (tRet (tVar 2)))) (tNext)) (tSeq (tAsg (tOp rAdd' (tOp (rIx K) (tVar 0) (tC (.int 2))) (tC (.int 1))) (gSub (tVar 0) (tC (.int 2)) rSetL)) (tSeq (tAsg (tOp rMod0 (tCB rInt1 (tCons (tOp rMul0 (tOp rAdd' (tOp (rIx K) (tVar 0) (tC (.int 1))) (tOp rMul0 (tC (.int 48271)) (tOp (rIx K) (tVar 0) (tC (.int 2))))) (tOp rAdd' (tC (.int 39373)) (tOp (rIx K) (tVar 0) (tC (.int 2))))) (tNil))) (tC (.int 2147483647))) (gName 3)) (tSeq (tAsg (tOp rAdd' (tOp rMod0 (tCB rInt1 (tCons (tVar 3) (tNil))) (tC (.int 40009))) (tC (.int 7))) (gName 4)) (tSeq (tAsg (tOp rMod0 (tCB rInt1 (tCons (tOp rMul0 (tOp rAdd' (tOp rAdd' (tVar 3) (tOp (rIx K) (tVar 0) (tC (.int 2)))) (tOp rDiv0 (tOp (rIx K) (tVar 0) (tC (.int 1))) (tC (.int 1000003)))) (tVar 4)) (tNil))) (tC (.int 2147483629))) (gName 5)) (tRet (tOp rMod0 (tCB rInt1 (tCons (tOp rDiv0 (tOp rMod0 (tCB rInt1 (tCons (tOp rAdd' (tOp rMul0 (tVar 5) (tC (.int 48271))) (tVar 3)) (tNil))) (tC (.int 2147483587))) (tC (.int 64))) (tNil))) (tVar 1)))))))
theorem ok_law_take {P : Program} {w : World} {K : PySem.W.Frag} {mg : Str → Option Value} {base : Heap} {nv av ev : Addr} {k : Nat} {f : Addr} {fd : FuncData} (F : FnP K "_law_take" s_law_take f fd) (T : Txt K mg nv av ev)
    {sp : Sp} (len : ∀ vs H Q E, sp vs H Q E → vs.length = 2) (pure : ∀ vs H Q E, sp vs H Q E → tr_law_take K nv av  { nx := fun _ H' => Q .non H', rt := Q } (start N_law_take vs) H) : FnOk P w K mg base CX0 (k + 1) f fd ["_law_box_here", "_law_size_so"] sp := by
  refine F.ok sc_law_take len (fun cdv A outer s H vs Q E hr h => ⟨tr_law_take K nv av , PSs.nox ?_, pure vs H Q E h⟩)
  have nd := sc_law_take.nd
  exact pss_cons (ps_if (pt_cmpR op_gt (pe_ix ix_seq (pv 0) (pe_int) (fun _ _ => rfl)) (pe_int) (nomark _)) (pss_cons (ps_set (i := 2) nd rfl (by first | exact Or.inl rfl | exact Or.inr rfl) (pe_op op_mod (pe_callTy call_int1 rfl T.b_int (by decide +kernel) (pa_cons (pe_ix ix_seq (pv 0) (pe_int) (fun _ _ => rfl)) (pa_nil))) (pv 1))) (pss_cons (ps_asg (pe_op op_fdiv (pe_ix ix_seq (pv 0) (pe_int) (fun _ _ => rfl)) (pv 1)) (pg_sub (pv 0) (pe_int) set_list)) (pss_one (ps_ret (pv 2))))) (pss_nil)) (pss_cons (ps_asg (pe_op op_add (pe_ix ix_seq (pv 0) (pe_int) (fun _ _ => rfl)) (pe_int)) (pg_sub (pv 0) (pe_int) set_list)) (pss_cons (ps_set (i := 3) nd rfl (by first | exact Or.inl rfl | exact Or.inr rfl) (pe_op op_mod (pe_callTy call_int1 rfl T.b_int (by decide +kernel) (pa_cons (pe_op op_mul (pe_op op_add (pe_ix ix_seq (pv 0) (pe_int) (fun _ _ => rfl)) (pe_op op_mul (pe_int) (pe_ix ix_seq (pv 0) (pe_int) (fun _ _ => rfl)))) (pe_op op_add (pe_int) (pe_ix ix_seq (pv 0) (pe_int) (fun _ _ => rfl)))) (pa_nil))) (pe_int))) (pss_cons (ps_set (i := 4) nd rfl (by first | exact Or.inl rfl | exact Or.inr rfl) (pe_op op_add (pe_op op_mod (pe_callTy call_int1 rfl T.b_int (by decide +kernel) (pa_cons (pv 3) (pa_nil))) (pe_int)) (pe_int))) (pss_cons (ps_set (i := 5) nd rfl (by first | exact Or.inl rfl | exact Or.inr rfl) (pe_op op_mod (pe_callTy call_int1 rfl T.b_int (by decide +kernel) (pa_cons (pe_op op_mul (pe_op op_add (pe_op op_add (pv 3) (pe_ix ix_seq (pv 0) (pe_int) (fun _ _ => rfl))) (pe_op op_fdiv (pe_ix ix_seq (pv 0) (pe_int) (fun _ _ => rfl)) (pe_int))) (pv 4)) (pa_nil))) (pe_int))) (pss_one (ps_ret (pe_op op_mod (pe_callTy call_int1 rfl T.b_int (by decide +kernel) (pa_cons (pe_op op_fdiv (pe_op op_mod (pe_callTy call_int1 rfl T.b_int (by decide +kernel) (pa_cons (pe_op op_add (pe_op op_mul (pv 5) (pe_int)) (pv 3)) (pa_nil))) (pe_int)) (pe_int)) (pa_nil))) (pv 1))))))))
theorem bn_law_take {K : PySem.W.Frag} {f : Addr} {fd : FuncData} (F : FnP K "_law_take" s_law_take f fd) : Binds K fd ["_law_box_here", "_law_size_so"] [] := F.bindsN fun _ _ _ _ _ _ us hl => match us, hl with | [_, _], _ => rfl
abbrev N_law_cells : List Str := ["_law_script", "_law_top_so", "_law_cells_so", "_law_k", "_law_cell", "_law_at_so"]
theorem sc_law_cells : FnScope N_law_cells ["_law_script", "_law_top_so"] (defScope s_law_cells) := ⟨rfl, rfl, rfl, by decide +kernel, rfl, by decide +kernel, by decide +kernel⟩
def tr_law_cells (K : PySem.W.Frag) (nv av : Addr) : TS :=
  tSeq (tAsg (tOrT K (tCB (rListOf K) (tCons (tSl (rSlL K) (tVar 0) tNoPart (tPart (tVar 1))) (tNil))) (tLst (tCons (tC (.int 0)) (tNil)))) (gName 2)) (tSeq (tFor (iEnum K (tCons (tSl (rSlL K) (tVar 0) (tPart (tVar 1)) (tPart (tC (.int 63)))) (tNil))) (g2 K 3 4) (tSeq (tAsg (tOp rMod0 (tCB rInt1 (tCons (tVar 3) (tNil))) (tVar 1)) (gName 5)) (tAsg (tOp rAdd' (tOp (rIx K) (tVar 2) (tVar 5)) (tOp rMul0 (tVar 4) (tOp rAdd' (tVar 3) (tC (.int 2))))) (gSub (tVar 2) (tVar 5) rSetL)))) (tRet (tVar 2)))
theorem ok_law_cells {P : Program} {w : World} {K : PySem.W.Frag} {mg : Str → Option Value} {base : Heap} {nv av ev : Addr} {k : Nat} {f : Addr} {fd : FuncData} (F : FnP K "_law_cells" s_law_cells f fd) (T : Txt K mg nv av ev)
    {sp : Sp} (len : ∀ vs H Q E, sp vs H Q E → vs.length = 2) (pure : ∀ vs H Q E, sp vs H Q E → tr_law_cells K nv av  { nx := fun _ H' => Q .non H', rt := Q } (start N_law_cells vs) H) : FnOk P w K mg base CX0 (k + 1) f fd ["_law_script", "_law_top_so"] sp := by
  refine F.ok sc_law_cells len (fun cdv A outer s H vs Q E hr h => ⟨tr_law_cells K nv av , PSs.nox ?_, pure vs H Q E h⟩)
  have nd := sc_law_cells.nd
  exact pss_cons (ps_set (i := 2) nd rfl (by first | exact Or.inl rfl | exact Or.inr rfl) (pe_orT (pe_callTy call_list_of rfl T.b_list (by decide +kernel) (pa_cons (pe_slice sl_list (pv 0) po_none (po_some (pv 1))) (pa_nil))) (pe_one (pe_lst (pa_cons (pe_int) (pa_nil)))))) (pss_cons (ps_for PassesOwn.never rfl (pi_enum rfl T.b_enumerate (pa_cons (pe_slice sl_list (pv 0) (po_some (pv 1)) (po_some (pe_int))) (pa_nil))) (pg_tup rfl (pgs_cons (pg_name (i := 3) nd rfl (by first | exact Or.inl rfl | exact Or.inr rfl)) (pgs_cons (pg_name (i := 4) nd rfl (by first | exact Or.inl rfl | exact Or.inr rfl)) (pgs_nil)))) (pss_cons (ps_set (i := 5) nd rfl (by first | exact Or.inl rfl | exact Or.inr rfl) (pe_op op_mod (pe_callTy call_int1 rfl T.b_int (by decide +kernel) (pa_cons (pv 3) (pa_nil))) (pv 1))) (pss_one (ps_asg (pe_op op_add (pe_ix ix_seq (pv 2) (pv 5) (fun _ _ => rfl)) (pe_op op_mul (pv 4) (pe_op op_add (pv 3) (pe_int)))) (pg_sub (pv 2) (pv 5) set_list))))) (pss_one (ps_ret (pv 2))))
theorem bn_law_cells {K : PySem.W.Frag} {f : Addr} {fd : FuncData} (F : FnP K "_law_cells" s_law_cells f fd) : Binds K fd ["_law_script", "_law_top_so"] [] := F.bindsN fun _ _ _ _ _ _ us hl => match us, hl with | [_, _], _ => rfl
abbrev N_law_of : List Str := ["_law_box_here", "_law_goods_so"]
theorem sc_law_of : FnScope N_law_of ["_law_box_here", "_law_goods_so"] (defScope s_law_of) := ⟨rfl, rfl, rfl, by decide +kernel, rfl, by decide +kernel, by decide +kernel⟩
def tr_law_of (K : PySem.W.Frag) (nv av : Addr) (sp_law_take : Sp) : TS :=
  tRet (tOp (rIx K) (tVar 1) (tCall sp_law_take [] E0 (tCons (tVar 0) (tCons (tCB (rLen' K) (tCons (tVar 1) (tNil))) (tNil)))))
theorem ok_law_of {P : Program} {w : World} {K : PySem.W.Frag} {mg : Str → Option Value} {base : Heap} {nv av ev : Addr} {k : Nat} {f : Addr} {fd : FuncData} {sp_law_take : Sp} (F : FnP K "_law_of" s_law_of f fd) (T : Txt K mg nv av ev) (C_law_take : Cal P w K mg base "_law_take" k ["_law_box_here", "_law_size_so"] sp_law_take)
    {sp : Sp} (len : ∀ vs H Q E, sp vs H Q E → vs.length = 2) (pure : ∀ vs H Q E, sp vs H Q E → tr_law_of K nv av sp_law_take { nx := fun _ H' => Q .non H', rt := Q } (start N_law_of vs) H) : FnOk P w K mg base CX0 (k + 1) f fd ["_law_box_here", "_law_goods_so"] sp := by
  refine F.ok sc_law_of len (fun cdv A outer s H vs Q E hr h => ⟨tr_law_of K nv av sp_law_take, PSs.nox ?_, pure vs H Q E h⟩)
  have nd := sc_law_of.nd
  exact pss_one (ps_ret (pe_ix ix_seq (pv 1) (pe_cal C_law_take hr (Nat.le_refl _) rfl (pa_cons (pv 0) (pa_cons (pe_callB call_len rfl T.b_len (by decide +kernel) (pa_cons (pv 1) (pa_nil))) (pa_nil)))) (fun _ _ => rfl)))
theorem bn_law_of {K : PySem.W.Frag} {f : Addr} {fd : FuncData} (F : FnP K "_law_of" s_law_of f fd) : Binds K fd ["_law_box_here", "_law_goods_so"] [] := F.bindsN fun _ _ _ _ _ _ us hl => match us, hl with | [_, _], _ => rfl
abbrev N_law_pick : List Str := ["_law_box_here", "_law_goods_so", "_law_count_so", "_law_pool_so", "_law_found", "_law_turn"]
theorem sc_law_pick : FnScope N_law_pick ["_law_box_here", "_law_goods_so", "_law_count_so"] (defScope s_law_pick) := ⟨rfl, rfl, rfl, by decide +kernel, rfl, by decide +kernel, by decide +kernel⟩
def tr_law_pick (K : PySem.W.Frag) (nv av : Addr) (sp_law_take : Sp) : TS :=
  tSeq (tPar 3 4 (tCons (tCB rListStr (tCons (tVar 1) (tNil))) (tCons (tLst tNil) (tNil)))) (tSeq (tFor (iRng1 (tCons (tCB rMin2 (tCons (tCB rInt1 (tCons (tVar 2) (tNil))) (tCons (tCB (rLen' K) (tCons (tVar 3) (tNil))) (tNil)))) (tNil))) (gName 5) (tDrop (tBM K "list" rAppend (tVar 4) (tCons (tBM K "list" rPopAt (tVar 3) (tCons (tCall sp_law_take [] E0 (tCons (tVar 0) (tCons (tCB (rLen' K) (tCons (tVar 3) (tNil))) (tNil)))) (tNil))) (tNil))))) (tRet (tVar 4)))
theorem ok_law_pick {P : Program} {w : World} {K : PySem.W.Frag} {mg : Str → Option Value} {base : Heap} {nv av ev : Addr} {k : Nat} {f : Addr} {fd : FuncData} {sp_law_take : Sp} (F : FnP K "_law_pick" s_law_pick f fd) (T : Txt K mg nv av ev) (C_law_take : Cal P w K mg base "_law_take" k ["_law_box_here", "_law_size_so"] sp_law_take)
    {sp : Sp} (len : ∀ vs H Q E, sp vs H Q E → vs.length = 3) (pure : ∀ vs H Q E, sp vs H Q E → tr_law_pick K nv av sp_law_take { nx := fun _ H' => Q .non H', rt := Q } (start N_law_pick vs) H) : FnOk P w K mg base CX0 (k + 1) f fd ["_law_box_here", "_law_goods_so", "_law_count_so"] sp := by
  refine F.ok sc_law_pick len (fun cdv A outer s H vs Q E hr h => ⟨tr_law_pick K nv av sp_law_take, PSs.nox ?_, pure vs H Q E h⟩)
  have nd := sc_law_pick.nd
  exact pss_cons (ps_par (i := 3) (j := 4) rfl nd rfl rfl (by decide) rfl rfl (pa_cons (pe_callTy (cr_listStr rfl) rfl T.b_list (by decide +kernel) (pa_cons (pv 1) (pa_nil))) (pa_cons (pe_lst (pa_nil)) (pa_nil))) rfl) (pss_cons (ps_for PassesOwn.never rfl (pi_range1 rfl T.b_range (pa_cons (pe_callB (call_min2 rfl) rfl T.b_min (by decide +kernel) (pa_cons (pe_callTy call_int1 rfl T.b_int (by decide +kernel) (pa_cons (pv 2) (pa_nil))) (pa_cons (pe_callB call_len rfl T.b_len (by decide +kernel) (pa_cons (pv 3) (pa_nil))) (pa_nil)))) (pa_nil))) (pg_name (i := 5) nd rfl (by first | exact Or.inl rfl | exact Or.inr rfl)) (pss_one (ps_expr (pe_bm PySem.F.plainAttrs_list PySem.F.slot_list_append PySem.F.type_list_append mt_append (pv 4) (pa_cons (pe_bm PySem.F.plainAttrs_list PySem.F.slot_list_pop PySem.F.type_list_pop mt_popAt (pv 3) (pa_cons (pe_cal C_law_take hr (Nat.le_refl _) rfl (pa_cons (pv 0) (pa_cons (pe_callB call_len rfl T.b_len (by decide +kernel) (pa_cons (pv 3) (pa_nil))) (pa_nil)))) (pa_nil))) (pa_nil)))))) (pss_one (ps_ret (pv 4))))
theorem bn_law_pick {K : PySem.W.Frag} {f : Addr} {fd : FuncData} (F : FnP K "_law_pick" s_law_pick f fd) : Binds K fd ["_law_box_here", "_law_goods_so", "_law_count_so"] [] := F.bindsN fun _ _ _ _ _ _ us hl => match us, hl with | [_, _, _], _ => rfl
abbrev N_law_same : List Str := ["_law_got", "_law_due", "_law_mine", "_law_its"]
theorem sc_law_same : FnScope N_law_same ["_law_got", "_law_due"] (defScope s_law_same) := ⟨rfl, rfl, rfl, by decide +kernel, rfl, by decide +kernel, by decide +kernel⟩
def tr_law_same (K : PySem.W.Frag) (nv av : Addr) (sp_law_same : Sp) : TS :=
  tSeq (tIfS (tB (tCB (rIsiT K) (tCons (tVar 1) (tCons (tTup (tCons (tC (.ty "list")) (tCons (tC (.ty "tuple")) (tNil)))) (tNil))))) (tSeq (tIfS (tTest (tOp (rNeG K) (tCB (rIsi K) (tCons (tVar 0) (tCons (tC (.ty "list")) (tNil)))) (tCB (rIsi K) (tCons (tVar 1) (tCons (tC (.ty "list")) (tNil)))))) (tRet (tC (.bl false))) (tNext)) (tSeq (tIfS (tTest (tOp (rNeG K) (tCB (rIsi K) (tCons (tVar 0) (tCons (tC (.ty "tuple")) (tNil)))) (tCB (rIsi K) (tCons (tVar 1) (tCons (tC (.ty "tuple")) (tNil)))))) (tRet (tC (.bl false))) (tNext)) (tRet (tAndV (tOp (rEqG K) (tCB (rLen' K) (tCons (tVar 0) (tNil))) (tCB (rLen' K) (tCons (tVar 1) (tNil)))) (tCB (rAll K) (tCons (tLc (RZ.iZipA K (tCons (tVar 0) (tCons (tVar 1) (tNil)))) (g2 K 2 3) tYes (tCall sp_law_same [] E0 (tCons (tVar 2) (tCons (tVar 3) (tNil)))) [2, 3]) (tNil))))))) (tNext)) (tSeq (tIfS (tOr (tTest (tOp rIsN (tVar 1) (tC .non))) (tB (tCB (rIsiT K) (tCons (tVar 1) (tCons (tTup (tCons (tC (.ty "bool")) (tCons (tC (.ty "str")) (tNil)))) (tNil)))))) (tRet (tAndV (tOp (rEqG K) (tVar 0) (tVar 1)) (tAndV (tOp (rEqG K) (tCB (rIsi K) (tCons (tVar 0) (tCons (tC (.ty "bool")) (tNil)))) (tCB (rIsi K) (tCons (tVar 1) (tCons (tC (.ty "bool")) (tNil))))) (tOp (rEqG K) (tOp rIsN (tVar 0) (tC .non)) (tOp rIsN (tVar 1) (tC .non)))))) (tNext)) (tRet (tAndV (tCB (rIsi K) (tCons (tVar 0) (tCons (tC (.ty "int")) (tNil)))) (tAndV (tNotV (tCB (rIsi K) (tCons (tVar 0) (tCons (tC (.ty "bool")) (tNil))))) (tOp (rEqG K) (tVar 0) (tVar 1))))))
theorem ok_law_same {P : Program} {w : World} {K : PySem.W.Frag} {mg : Str → Option Value} {base : Heap} {nv av ev : Addr} {k : Nat} {f : Addr} {fd : FuncData} {sp_law_same : Sp} (F : FnP K "_law_same" s_law_same f fd) (T : Txt K mg nv av ev) (C_law_same : Cal P w K mg base "_law_same" k ["_law_got", "_law_due"] sp_law_same)
    {sp : Sp} (len : ∀ vs H Q E, sp vs H Q E → vs.length = 2) (pure : ∀ vs H Q E, sp vs H Q E → tr_law_same K nv av sp_law_same { nx := fun _ H' => Q .non H', rt := Q } (start N_law_same vs) H) : FnOk P w K mg base CX0 (k + 1) f fd ["_law_got", "_law_due"] sp := by
  refine F.ok sc_law_same len (fun cdv A outer s H vs Q E hr h => ⟨tr_law_same K nv av sp_law_same, PSs.nox ?_, pure vs H Q E h⟩)
  have nd := sc_law_same.nd
  exact pss_cons (ps_if (pt_val (pe_callB call_isiT rfl T.b_isinstance (by decide +kernel) (pa_cons (pv 1) (pa_cons (pe_tup (pa_cons (pe_bltn rfl T.b_list (by decide +kernel) rfl) (pa_cons (pe_bltn rfl T.b_tuple (by decide +kernel) rfl) (pa_nil)))) (pa_nil))))) (pss_cons (ps_if (pt_cmpR (op_neG hr.units) (pe_callB call_isi rfl T.b_isinstance (by decide +kernel) (pa_cons (pv 0) (pa_cons (pe_bltn rfl T.b_list (by decide +kernel) rfl) (pa_nil)))) (pe_callB call_isi rfl T.b_isinstance (by decide +kernel) (pa_cons (pv 1) (pa_cons (pe_bltn rfl T.b_list (by decide +kernel) rfl) (pa_nil)))) (nomark _)) (pss_one (ps_ret (pe_bl))) (pss_nil)) (pss_cons (ps_if (pt_cmpR (op_neG hr.units) (pe_callB call_isi rfl T.b_isinstance (by decide +kernel) (pa_cons (pv 0) (pa_cons (pe_bltn rfl T.b_tuple (by decide +kernel) rfl) (pa_nil)))) (pe_callB call_isi rfl T.b_isinstance (by decide +kernel) (pa_cons (pv 1) (pa_cons (pe_bltn rfl T.b_tuple (by decide +kernel) rfl) (pa_nil)))) (nomark _)) (pss_one (ps_ret (pe_bl))) (pss_nil)) (pss_one (ps_ret (pe_and (pe_cmpR (op_eqG hr.units) (pe_callB call_len rfl T.b_len (by decide +kernel) (pa_cons (pv 0) (pa_nil))) (pe_callB call_len rfl T.b_len (by decide +kernel) (pa_cons (pv 1) (pa_nil))) (nomark _)) (pe_one (pe_callB (cr_all rfl) rfl T.b_all (by decide +kernel) (pa_cons (pe_lc (own := [("_law_mine", 2), ("_law_its", 3)]) (g := g2 K 2 3) rfl nd (RZ.pi_zipA rfl T.b_zip (pa_cons (pv 0) (pa_cons (pv 1) (pa_nil)))) (blkOk_by (own := [("_law_mine", 2), ("_law_its", 3)]) (N := N_law_same) (sc := defScope s_law_same) (by decide +kernel)) (fun _ _ _ _ _ => pg_tup rfl (pgs_cons (pg_name (i := 2) nd rfl (by first | exact Or.inl rfl | exact Or.inr rfl)) (pgs_cons (pg_name (i := 3) nd rfl (by first | exact Or.inl rfl | exact Or.inr rfl)) (pgs_nil)))) (fun _ _ _ _ _ => pts_nil) (fun _ _ _ _ _ => pe_cal C_law_same hr (Nat.le_refl _) rfl (pa_cons (pv 2) (pa_cons (pv 3) (pa_nil))))) (pa_nil))))))))) (pss_nil)) (pss_cons (ps_if (PW.pt (pw_or (pt_cmpR op_isN1 (pv 1) (pe_non) (nomark _)) (pw_or1 (pt_val (pe_callB call_isiT rfl T.b_isinstance (by decide +kernel) (pa_cons (pv 1) (pa_cons (pe_tup (pa_cons (pe_bltn rfl T.b_bool (by decide +kernel) rfl) (pa_cons (pe_bltn rfl T.b_str (by decide +kernel) rfl) (pa_nil)))) (pa_nil)))))))) (pss_one (ps_ret (pe_and (pe_cmpR (op_eqG hr.units) (pv 0) (pv 1) (nomark _)) (pe_and (pe_cmpR (op_eqG hr.units) (pe_callB call_isi rfl T.b_isinstance (by decide +kernel) (pa_cons (pv 0) (pa_cons (pe_bltn rfl T.b_bool (by decide +kernel) rfl) (pa_nil)))) (pe_callB call_isi rfl T.b_isinstance (by decide +kernel) (pa_cons (pv 1) (pa_cons (pe_bltn rfl T.b_bool (by decide +kernel) rfl) (pa_nil)))) (nomark _)) (pe_one (pe_cmpR (op_eqG hr.units) (pe_cmpR op_isN1 (pv 0) (pe_non) (nomark _)) (pe_cmpR op_isN1 (pv 1) (pe_non) (nomark _)) (nomark _))))))) (pss_nil)) (pss_one (ps_ret (pe_and (pe_callB call_isi rfl T.b_isinstance (by decide +kernel) (pa_cons (pv 0) (pa_cons (pe_bltn rfl T.b_int (by decide +kernel) rfl) (pa_nil)))) (pe_and (pe_not (pe_callB call_isi rfl T.b_isinstance (by decide +kernel) (pa_cons (pv 0) (pa_cons (pe_bltn rfl T.b_bool (by decide +kernel) rfl) (pa_nil))))) (pe_one (pe_cmpR (op_eqG hr.units) (pv 0) (pv 1) (nomark _))))))))
theorem bn_law_same {K : PySem.W.Frag} {f : Addr} {fd : FuncData} (F : FnP K "_law_same" s_law_same f fd) : Binds K fd ["_law_got", "_law_due"] [] := F.bindsN fun _ _ _ _ _ _ us hl => match us, hl with | [_, _], _ => rfl
abbrev N_law_names : List Str := ["_law_box_here", "_law_much_so", "_law_letters_so", "_law_long", "_law_some", "_law_sort_so", "_law_spot_so", "_law_found", "_law_sign", "_law_turn"]
theorem sc_law_names : FnScope N_law_names ["_law_box_here", "_law_much_so"] (defScope s_law_names) := ⟨rfl, rfl, rfl, by decide +kernel, rfl, by decide +kernel, by decide +kernel⟩
def tr_law_names (K : PySem.W.Frag) (nv av : Addr) (sp_law_take sp_law_of sp_law_pick : Sp) : TS :=
  tSeq (tAsg (tC (.str "abcdefghijklmnopqrstuvwxyz")) (gName 2)) (tSeq (tAsg (tOp rAdd' (tC (.int 1)) (tCall sp_law_take [] E0 (tCons (tVar 0) (tCons (tC (.int 8)) (tNil))))) (gName 3)) (tSeq (tAsg (tLc (iRng1 (tCons (tVar 3) (tNil))) (gName 9) tYes (tCall sp_law_of [] E0 (tCons (tVar 0) (tCons (tVar 2) (tNil)))) [9]) (gName 4)) (tSeq (tPar3 5 6 7 (tCons (tCall sp_law_take [] E0 (tCons (tVar 0) (tCons (tC (.int 4)) (tNil)))) (tCons (tCall sp_law_take [] E0 (tCons (tVar 0) (tCons (tVar 3) (tNil)))) (tCons (tLst tNil) (tNil))))) (tSeq (tFor (iSeq K (tCall sp_law_pick [] E0 (tCons (tVar 0) (tCons (tVar 2) (tCons (tVar 1) (tNil)))))) (gName 8) (tIfS (tTest (tOp (rEqG K) (tVar 5) (tC (.int 0)))) (tDrop (tBM K "list" rAppend (tVar 7) (tCons (tVar 8) (tNil)))) (tIfS (tTest (tOp rLt (tVar 5) (tC (.int 3)))) (tDrop (tBM K "list" rAppend (tVar 7) (tCons (tM1 (rJoin K) (tC (.str "")) (tOp rCat (tOp rCat (tSl (rSlL K) (tVar 4) tNoPart (tPart (tVar 6))) (tLst (tCons (tVar 8) (tNil)))) (tSl (rSlL K) (tVar 4) (tPart (tOp rAdd' (tVar 6) (tC (.int 1)))) tNoPart))) (tNil)))) (tDrop (tBM K "list" rAppend (tVar 7) (tCons (tOp rCatS' (tVar 8) (tM1 (rJoin K) (tC (.str "")) (tLc (iRng1 (tCons (tCall sp_law_take [] E0 (tCons (tVar 0) (tCons (tC (.int 8)) (tNil)))) (tNil))) (gName 9) tYes (tCall sp_law_of [] E0 (tCons (tVar 0) (tCons (tVar 2) (tNil)))) [9]))) (tNil))))))) (tRet (tVar 7))))))
theorem ok_law_names {P : Program} {w : World} {K : PySem.W.Frag} {mg : Str → Option Value} {base : Heap} {nv av ev : Addr} {k : Nat} {f : Addr} {fd : FuncData} {sp_law_take sp_law_of sp_law_pick : Sp} (F : FnP K "_law_names" s_law_names f fd) (T : Txt K mg nv av ev) (C_law_take : Cal P w K mg base "_law_take" k ["_law_box_here", "_law_size_so"] sp_law_take) (C_law_of : Cal P w K mg base "_law_of" k ["_law_box_here", "_law_goods_so"] sp_law_of) (C_law_pick : Cal P w K mg base "_law_pick" k ["_law_box_here", "_law_goods_so", "_law_count_so"] sp_law_pick)
    {sp : Sp} (len : ∀ vs H Q E, sp vs H Q E → vs.length = 2) (pure : ∀ vs H Q E, sp vs H Q E → tr_law_names K nv av sp_law_take sp_law_of sp_law_pick { nx := fun _ H' => Q .non H', rt := Q } (start N_law_names vs) H) : FnOk P w K mg base CX0 (k + 1) f fd ["_law_box_here", "_law_much_so"] sp := by
  refine F.ok sc_law_names len (fun cdv A outer s H vs Q E hr h => ⟨tr_law_names K nv av sp_law_take sp_law_of sp_law_pick, PSs.nox ?_, pure vs H Q E h⟩)
  have nd := sc_law_names.nd
  exact pss_cons (ps_set (i := 2) nd rfl (by first | exact Or.inl rfl | exact Or.inr rfl) (pe_str)) (pss_cons (ps_set (i := 3) nd rfl (by first | exact Or.inl rfl | exact Or.inr rfl) (pe_op op_add (pe_int) (pe_cal C_law_take hr (Nat.le_refl _) rfl (pa_cons (pv 0) (pa_cons (pe_int) (pa_nil)))))) (pss_cons (ps_setLc (i := 4) (own := [("_law_turn", 9)]) (g := gName 9) rfl nd rfl rfl (sw_true rfl rfl rfl (by decide +kernel)) (pi_range1 rfl T.b_range (pa_cons (pv 3) (pa_nil))) (blkOk_by (own := [("_law_turn", 9)]) (N := N_law_names) (sc := defScope s_law_names) (by decide +kernel)) (fun _ _ _ _ _ => pg_name (i := 9) nd rfl (by first | exact Or.inl rfl | exact Or.inr rfl)) (fun _ _ _ _ _ => pts_nil) (fun _ _ _ _ _ => pe_cal C_law_of hr (Nat.le_refl _) rfl (pa_cons (pv 0) (pa_cons (pv 2) (pa_nil))))) (pss_cons (ps_par3 (i := 5) (j := 6) (l := 7) rfl nd rfl rfl rfl (by decide) (by decide) (by decide) rfl rfl rfl (pa_cons (pe_cal C_law_take hr (Nat.le_refl _) rfl (pa_cons (pv 0) (pa_cons (pe_int) (pa_nil)))) (pa_cons (pe_cal C_law_take hr (Nat.le_refl _) rfl (pa_cons (pv 0) (pa_cons (pv 3) (pa_nil)))) (pa_cons (pe_lst (pa_nil)) (pa_nil)))) rfl) (pss_cons (ps_for PassesOwn.never rfl (pi_seq (pe_cal C_law_pick hr (Nat.le_refl _) rfl (pa_cons (pv 0) (pa_cons (pv 2) (pa_cons (pv 1) (pa_nil)))))) (pg_name (i := 8) nd rfl (by first | exact Or.inl rfl | exact Or.inr rfl)) (pss_one (ps_if (pt_cmpR (op_eqG hr.units) (pv 5) (pe_int) (nomark _)) (pss_one (ps_expr (pe_bm PySem.F.plainAttrs_list PySem.F.slot_list_append PySem.F.type_list_append mt_append (pv 7) (pa_cons (pv 8) (pa_nil))))) (pss_one (ps_if (pt_cmpR op_lt (pv 5) (pe_int) (nomark _)) (pss_one (ps_expr (pe_bm PySem.F.plainAttrs_list PySem.F.slot_list_append PySem.F.type_list_append mt_append (pv 7) (pa_cons (pe_join (pe_str) (pe_op op_cat (pe_op op_cat (pe_slice sl_list (pv 4) po_none (po_some (pv 6))) (pe_lst (pa_cons (pv 8) (pa_nil)))) (pe_slice sl_list (pv 4) (po_some (pe_op op_add (pv 6) (pe_int))) po_none))) (pa_nil))))) (pss_one (ps_expr (pe_bm PySem.F.plainAttrs_list PySem.F.slot_list_append PySem.F.type_list_append mt_append (pv 7) (pa_cons (pe_op op_add_str (pv 8) (pe_join (pe_str) (pe_lc (own := [("_law_turn", 9)]) (g := gName 9) rfl nd (pi_range1 rfl T.b_range (pa_cons (pe_cal C_law_take hr (Nat.le_refl _) rfl (pa_cons (pv 0) (pa_cons (pe_int) (pa_nil)))) (pa_nil))) (blkOk_by (own := [("_law_turn", 9)]) (N := N_law_names) (sc := defScope s_law_names) (by decide +kernel)) (fun _ _ _ _ _ => pg_name (i := 9) nd rfl (by first | exact Or.inl rfl | exact Or.inr rfl)) (fun _ _ _ _ _ => pts_nil) (fun _ _ _ _ _ => pe_cal C_law_of hr (Nat.le_refl _) rfl (pa_cons (pv 0) (pa_cons (pv 2) (pa_nil))))))) (pa_nil)))))))))) (pss_one (ps_ret (pv 7)))))))
theorem bn_law_names {K : PySem.W.Frag} {f : Addr} {fd : FuncData} (F : FnP K "_law_names" s_law_names f fd) : Binds K fd ["_law_box_here", "_law_much_so"] [] := F.bindsN fun _ _ _ _ _ _ us hl => match us, hl with | [_, _], _ => rfl
abbrev N_law_lies : List Str := ["_law_verse", "_law_row", "_law_at_so", "_law_own"]
theorem sc_law_lies : FnScope N_law_lies ["_law_verse", "_law_row"] (defScope s_law_lies) := ⟨rfl, rfl, rfl, by decide +kernel, rfl, by decide +kernel, by decide +kernel⟩
def tr_law_lies (K : PySem.W.Frag) (nv av : Addr) : TS :=
  tSeq (tAsg (tC (.int 0)) (gName 2)) (tSeq (tFor (iSeq K (tVar 1)) (gName 3) (tAsg (tOp rAdd' (tVar 2) (tCB rInt1 (tCons (tAndV (tOp rLt (tVar 2) (tCB (rLen' K) (tCons (tVar 0) (tNil)))) (tOp (rEqG K) (tOp (rIx K) (tVar 0) (tVar 2)) (tVar 3))) (tNil)))) (gName 2))) (tRet (tOp (rEqG K) (tVar 2) (tCB (rLen' K) (tCons (tVar 0) (tNil))))))
theorem ok_law_lies {P : Program} {w : World} {K : PySem.W.Frag} {mg : Str → Option Value} {base : Heap} {nv av ev : Addr} {k : Nat} {f : Addr} {fd : FuncData} (F : FnP K "_law_lies" s_law_lies f fd) (T : Txt K mg nv av ev)
    {sp : Sp} (len : ∀ vs H Q E, sp vs H Q E → vs.length = 2) (pure : ∀ vs H Q E, sp vs H Q E → tr_law_lies K nv av  { nx := fun _ H' => Q .non H', rt := Q } (start N_law_lies vs) H) : FnOk P w K mg base CX0 (k + 1) f fd ["_law_verse", "_law_row"] sp := by
  refine F.ok sc_law_lies len (fun cdv A outer s H vs Q E hr h => ⟨tr_law_lies K nv av , PSs.nox ?_, pure vs H Q E h⟩)
  have nd := sc_law_lies.nd
  exact pss_cons (ps_set (i := 2) nd rfl (by first | exact Or.inl rfl | exact Or.inr rfl) (pe_int)) (pss_cons (ps_for PassesOwn.never rfl (pi_seq (pv 1)) (pg_name (i := 3) nd rfl (by first | exact Or.inl rfl | exact Or.inr rfl)) (pss_one (ps_set (i := 2) nd rfl (by first | exact Or.inl rfl | exact Or.inr rfl) (pe_op op_add (pv 2) (pe_callTy call_int1 rfl T.b_int (by decide +kernel) (pa_cons (pe_and (pe_cmpR op_lt (pv 2) (pe_callB call_len rfl T.b_len (by decide +kernel) (pa_cons (pv 0) (pa_nil))) (nomark _)) (pe_one (pe_cmpR (op_eqG hr.units) (pe_ix ix_seq (pv 0) (pv 2) (fun _ _ => rfl)) (pv 3) (nomark _)))) (pa_nil))))))) (pss_one (ps_ret (pe_cmpR (op_eqG hr.units) (pv 2) (pe_callB call_len rfl T.b_len (by decide +kernel) (pa_cons (pv 0) (pa_nil))) (nomark _)))))
theorem bn_law_lies {K : PySem.W.Frag} {f : Addr} {fd : FuncData} (F : FnP K "_law_lies" s_law_lies f fd) : Binds K fd ["_law_verse", "_law_row"] [] := F.bindsN fun _ _ _ _ _ _ us hl => match us, hl with | [_, _], _ => rfl
abbrev N_law_sorted : List Str := ["_law_rows", "_law_size_so", "_law_own", "_law_row"]
theorem sc_law_sorted : FnScope N_law_sorted ["_law_rows"] (defScope s_law_sorted) := ⟨rfl, rfl, rfl, by decide +kernel, rfl, by decide +kernel, by decide +kernel⟩
def tr_law_sorted (K : PySem.W.Frag) (nv av : Addr) : TS :=
  tRet (tCB (rTupOf K) (tCons (tLc (iSeq K (tSS K (tLc (iSeq K (tVar 0)) (gName 3) tYes (tTup (tCons (tCB (rLen' K) (tCons (tVar 3) (tNil))) (tCons (tVar 3) (tNil)))) [3]))) (g2 K 1 2) tYes (tVar 2) [1, 2]) (tNil)))
theorem ok_law_sorted {P : Program} {w : World} {K : PySem.W.Frag} {mg : Str → Option Value} {base : Heap} {nv av ev : Addr} {k : Nat} {f : Addr} {fd : FuncData} (F : FnP K "_law_sorted" s_law_sorted f fd) (T : Txt K mg nv av ev)
    {sp : Sp} (len : ∀ vs H Q E, sp vs H Q E → vs.length = 1) (pure : ∀ vs H Q E, sp vs H Q E → tr_law_sorted K nv av  { nx := fun _ H' => Q .non H', rt := Q } (start N_law_sorted vs) H) : FnOk P w K mg base CX0 (k + 1) f fd ["_law_rows"] sp := by
  refine F.ok sc_law_sorted len (fun cdv A outer s H vs Q E hr h => ⟨tr_law_sorted K nv av , PSs.nox ?_, pure vs H Q E h⟩)
  have nd := sc_law_sorted.nd
  exact pss_one (ps_ret (pe_callTy call_tuple_of rfl T.b_tuple (by decide +kernel) (pa_cons (pe_lc (own := [("_law_size_so", 1), ("_law_own", 2)]) (g := g2 K 1 2) rfl nd (pi_seq (pe_ss rfl hr.units rfl T.b_sorted rfl T.b_set (pe_lc (own := [("_law_row", 3)]) (g := gName 3) rfl nd (pi_seq (pv 0)) (blkOk_by (own := [("_law_row", 3)]) (N := N_law_sorted) (sc := defScope s_law_sorted) (by decide +kernel)) (fun _ _ _ _ _ => pg_name (i := 3) nd rfl (by first | exact Or.inl rfl | exact Or.inr rfl)) (fun _ _ _ _ _ => pts_nil) (fun _ _ _ _ _ => pe_tup (pa_cons (pe_callB call_len rfl T.b_len (by decide +kernel) (pa_cons (pv 3) (pa_nil))) (pa_cons (pv 3) (pa_nil))))))) (blkOk_by (own := [("_law_size_so", 1), ("_law_own", 2)]) (N := N_law_sorted) (sc := defScope s_law_sorted) (by decide +kernel)) (fun _ _ _ _ _ => pg_tup rfl (pgs_cons (pg_name (i := 1) nd rfl (by first | exact Or.inl rfl | exact Or.inr rfl)) (pgs_cons (pg_name (i := 2) nd rfl (by first | exact Or.inl rfl | exact Or.inr rfl)) (pgs_nil)))) (fun _ _ _ _ _ => pts_nil) (fun _ _ _ _ _ => pv 2)) (pa_nil))))
theorem bn_law_sorted {K : PySem.W.Frag} {f : Addr} {fd : FuncData} (F : FnP K "_law_sorted" s_law_sorted f fd) : Binds K fd ["_law_rows"] [] := F.bindsN fun _ _ _ _ _ _ us hl => match us, hl with | [_], _ => rfl
abbrev N_law_least : List Str := ["_law_rows", "_law_row", "_law_own"]
theorem sc_law_least : FnScope N_law_least ["_law_rows"] (defScope s_law_least) := ⟨rfl, rfl, rfl, by decide +kernel, rfl, by decide +kernel, by decide +kernel⟩
def tr_law_least (K : PySem.W.Frag) (nv av : Addr) (sp_law_lies sp_law_sorted : Sp) : TS :=
  tSeq (tAsg (tCall sp_law_sorted [] E0 (tCons (tVar 0) (tNil))) (gName 0)) (tRet (tCB (rTupOf K) (tCons (tLc (iSeq K (tVar 0)) (gName 1) (tTest (tOp (rEqG K) (tLc (iSeq K (tVar 0)) (gName 2) (tAnd (tTest (tOp (rNeG K) (tVar 2) (tVar 1))) (tB (tCall sp_law_lies [] E0 (tCons (tVar 2) (tCons (tVar 1) (tNil)))))) (tVar 2) [2]) (tLst tNil))) (tVar 1) [1]) (tNil))))
theorem ok_law_least {P : Program} {w : World} {K : PySem.W.Frag} {mg : Str → Option Value} {base : Heap} {nv av ev : Addr} {k : Nat} {f : Addr} {fd : FuncData} {sp_law_lies sp_law_sorted : Sp} (F : FnP K "_law_least" s_law_least f fd) (T : Txt K mg nv av ev) (C_law_lies : Cal P w K mg base "_law_lies" k ["_law_verse", "_law_row"] sp_law_lies) (C_law_sorted : Cal P w K mg base "_law_sorted" k ["_law_rows"] sp_law_sorted)
    {sp : Sp} (len : ∀ vs H Q E, sp vs H Q E → vs.length = 1) (pure : ∀ vs H Q E, sp vs H Q E → tr_law_least K nv av sp_law_lies sp_law_sorted { nx := fun _ H' => Q .non H', rt := Q } (start N_law_least vs) H) : FnOk P w K mg base CX0 (k + 1) f fd ["_law_rows"] sp := by
  refine F.ok sc_law_least len (fun cdv A outer s H vs Q E hr h => ⟨tr_law_least K nv av sp_law_lies sp_law_sorted, PSs.nox ?_, pure vs H Q E h⟩)
  have nd := sc_law_least.nd
  exact pss_cons (ps_set (i := 0) nd rfl (by first | exact Or.inl rfl | exact Or.inr rfl) (pe_cal C_law_sorted hr (Nat.le_refl _) rfl (pa_cons (pv 0) (pa_nil)))) (pss_one (ps_ret (pe_callTy call_tuple_of rfl T.b_tuple (by decide +kernel) (pa_cons (pe_lc (own := [("_law_row", 1)]) (g := gName 1) rfl nd (pi_seq (pv 0)) (blkOk_by (own := [("_law_row", 1)]) (N := N_law_least) (sc := defScope s_law_least) (by decide +kernel)) (fun _ _ _ _ _ => pg_name (i := 1) nd rfl (by first | exact Or.inl rfl | exact Or.inr rfl)) (fun _ _ _ _ _ => pts_one (pt_cmpR (op_eqG hr.units) (pe_lc (own := [("_law_own", 2)]) (g := gName 2) rfl nd (pi_seq (pv 0)) (blkOk_by (own := [("_law_own", 2)]) (by kernel_rfl)) (fun _ _ _ _ _ => pg_name (i := 2) nd rfl (by first | exact Or.inl rfl | exact Or.inr rfl)) (fun _ _ _ _ _ => pts_one (PW.pt (pw_and (pt_cmpR (op_neG hr.units) (pv 2) (pv 1) (nomark _)) (pw_and1 (pt_val (pe_cal C_law_lies hr (Nat.le_refl _) rfl (pa_cons (pv 2) (pa_cons (pv 1) (pa_nil))))))))) (fun _ _ _ _ _ => pv 2)) (pe_lst (pa_nil)) (nomark _))) (fun _ _ _ _ _ => pv 1)) (pa_nil)))))
theorem bn_law_least {K : PySem.W.Frag} {f : Addr} {fd : FuncData} (F : FnP K "_law_least" s_law_least f fd) : Binds K fd ["_law_rows"] [] := F.bindsN fun _ _ _ _ _ _ us hl => match us, hl with | [_], _ => rfl
abbrev N_law_every : List Str := ["_law_tags", "_law_most", "_law_found", "_law_edge", "_law_turn", "_law_wide_so", "_law_row", "_law_own"]
theorem sc_law_every : FnScope N_law_every ["_law_tags", "_law_most"] (defScope s_law_every) := ⟨rfl, rfl, rfl, by decide +kernel, rfl, by decide +kernel, by decide +kernel⟩
def tr_law_every (K : PySem.W.Frag) (nv av : Addr) : TS :=
  tSeq (tPar 2 3 (tCons (tLst (tCons (tTup tNil) (tNil))) (tCons (tLst (tCons (tTup tNil) (tNil))) (tNil)))) (tSeq (tFor (iRng1 (tCons (tVar 1) (tNil))) (gName 4) (tSeq (tAsg (tLst tNil) (gName 5)) (tSeq (tFor (iSeq K (tVar 3)) (gName 6) (tAsg (tOp rCat (tVar 5) (tLc (iSeq K (tVar 0)) (gName 7) tYes (tOp (rCatA K) (tVar 6) (tTup (tCons (tVar 7) (tNil)))) [7])) (gName 5))) (tPar 3 2 (tCons (tVar 5) (tCons (tOp rCat (tVar 2) (tVar 5)) (tNil))))))) (tRet (tVar 2)))
theorem ok_law_every {P : Program} {w : World} {K : PySem.W.Frag} {mg : Str → Option Value} {base : Heap} {nv av ev : Addr} {k : Nat} {f : Addr} {fd : FuncData} (F : FnP K "_law_every" s_law_every f fd) (T : Txt K mg nv av ev)
    {sp : Sp} (len : ∀ vs H Q E, sp vs H Q E → vs.length = 2) (pure : ∀ vs H Q E, sp vs H Q E → tr_law_every K nv av  { nx := fun _ H' => Q .non H', rt := Q } (start N_law_every vs) H) : FnOk P w K mg base CX0 (k + 1) f fd ["_law_tags", "_law_most"] sp := by
  refine F.ok sc_law_every len (fun cdv A outer s H vs Q E hr h => ⟨tr_law_every K nv av , PSs.nox ?_, pure vs H Q E h⟩)
  have nd := sc_law_every.nd
  exact pss_cons (ps_par (i := 2) (j := 3) rfl nd rfl rfl (by decide) rfl rfl (pa_cons (pe_lst (pa_cons (pe_tup (pa_nil)) (pa_nil))) (pa_cons (pe_lst (pa_cons (pe_tup (pa_nil)) (pa_nil))) (pa_nil))) rfl) (pss_cons (ps_for PassesOwn.never rfl (pi_range1 rfl T.b_range (pa_cons (pv 1) (pa_nil))) (pg_name (i := 4) nd rfl (by first | exact Or.inl rfl | exact Or.inr rfl)) (pss_cons (ps_set (i := 5) nd rfl (by first | exact Or.inl rfl | exact Or.inr rfl) (pe_lst (pa_nil))) (pss_cons (ps_for PassesOwn.never rfl (pi_seq (pv 3)) (pg_name (i := 6) nd rfl (by first | exact Or.inl rfl | exact Or.inr rfl)) (pss_one (ps_set (i := 5) nd rfl (by first | exact Or.inl rfl | exact Or.inr rfl) (pe_op op_cat (pv 5) (pe_lc (own := [("_law_own", 7)]) (g := gName 7) rfl nd (pi_seq (pv 0)) (blkOk_by (own := [("_law_own", 7)]) (N := N_law_every) (sc := defScope s_law_every) (by decide +kernel)) (fun _ _ _ _ _ => pg_name (i := 7) nd rfl (by first | exact Or.inl rfl | exact Or.inr rfl)) (fun _ _ _ _ _ => pts_nil) (fun _ _ _ _ _ => pe_op op_catA (pv 6) (pe_tup (pa_cons (pv 7) (pa_nil))))))))) (pss_one (ps_par (i := 3) (j := 2) rfl nd rfl rfl (by decide) rfl rfl (pa_cons (pv 5) (pa_cons (pe_op op_cat (pv 2) (pv 5)) (pa_nil))) rfl))))) (pss_one (ps_ret (pv 2))))
theorem bn_law_every {K : PySem.W.Frag} {f : Addr} {fd : FuncData} (F : FnP K "_law_every" s_law_every f fd) : Binds K fd ["_law_tags", "_law_most"] [] := F.bindsN fun _ _ _ _ _ _ us hl => match us, hl with | [_, _], _ => rfl
abbrev N_law_event_row : List Str := ["_law_box_here", "_law_tags", "_law_most", "_law_turn"]
theorem sc_law_event_row : FnScope N_law_event_row ["_law_box_here", "_law_tags", "_law_most"] (defScope s_law_event_row) := ⟨rfl, rfl, rfl, by decide +kernel, rfl, by decide +kernel, by decide +kernel⟩
def tr_law_event_row (K : PySem.W.Frag) (nv av : Addr) (sp_law_take sp_law_of : Sp) : TS :=
  tRet (tCB (rTupOf K) (tCons (tLc (iRng1 (tCons (tCall sp_law_take [] E0 (tCons (tVar 0) (tCons (tOp rAdd' (tVar 2) (tC (.int 1))) (tNil)))) (tNil))) (gName 3) tYes (tCall sp_law_of [] E0 (tCons (tVar 0) (tCons (tVar 1) (tNil)))) [3]) (tNil)))
theorem ok_law_event_row {P : Program} {w : World} {K : PySem.W.Frag} {mg : Str → Option Value} {base : Heap} {nv av ev : Addr} {k : Nat} {f : Addr} {fd : FuncData} {sp_law_take sp_law_of : Sp} (F : FnP K "_law_event_row" s_law_event_row f fd) (T : Txt K mg nv av ev) (C_law_take : Cal P w K mg base "_law_take" k ["_law_box_here", "_law_size_so"] sp_law_take) (C_law_of : Cal P w K mg base "_law_of" k ["_law_box_here", "_law_goods_so"] sp_law_of)
    {sp : Sp} (len : ∀ vs H Q E, sp vs H Q E → vs.length = 3) (pure : ∀ vs H Q E, sp vs H Q E → tr_law_event_row K nv av sp_law_take sp_law_of { nx := fun _ H' => Q .non H', rt := Q } (start N_law_event_row vs) H) : FnOk P w K mg base CX0 (k + 1) f fd ["_law_box_here", "_law_tags", "_law_most"] sp := by
  refine F.ok sc_law_event_row len (fun cdv A outer s H vs Q E hr h => ⟨tr_law_event_row K nv av sp_law_take sp_law_of, PSs.nox ?_, pure vs H Q E h⟩)
  have nd := sc_law_event_row.nd
  exact pss_one (ps_ret (pe_callTy call_tuple_of rfl T.b_tuple (by decide +kernel) (pa_cons (pe_lc (own := [("_law_turn", 3)]) (g := gName 3) rfl nd (pi_range1 rfl T.b_range (pa_cons (pe_cal C_law_take hr (Nat.le_refl _) rfl (pa_cons (pv 0) (pa_cons (pe_op op_add (pv 2) (pe_int)) (pa_nil)))) (pa_nil))) (blkOk_by (own := [("_law_turn", 3)]) (N := N_law_event_row) (sc := defScope s_law_event_row) (by decide +kernel)) (fun _ _ _ _ _ => pg_name (i := 3) nd rfl (by first | exact Or.inl rfl | exact Or.inr rfl)) (fun _ _ _ _ _ => pts_nil) (fun _ _ _ _ _ => pe_cal C_law_of hr (Nat.le_refl _) rfl (pa_cons (pv 0) (pa_cons (pv 1) (pa_nil))))) (pa_nil))))
theorem bn_law_event_row {K : PySem.W.Frag} {f : Addr} {fd : FuncData} (F : FnP K "_law_event_row" s_law_event_row f fd) : Binds K fd ["_law_box_here", "_law_tags", "_law_most"] [] := F.bindsN fun _ _ _ _ _ _ us hl => match us, hl with | [_, _, _], _ => rfl
abbrev N_law_some_rows : List Str := ["_law_box_here", "_law_tags", "_law_many", "_law_most", "_law_turn"]
theorem sc_law_some_rows : FnScope N_law_some_rows ["_law_box_here", "_law_tags", "_law_many", "_law_most"] (defScope s_law_some_rows) := ⟨rfl, rfl, rfl, by decide +kernel, rfl, by decide +kernel, by decide +kernel⟩
def tr_law_some_rows (K : PySem.W.Frag) (nv av : Addr) (sp_law_take sp_law_event_row : Sp) : TS :=
  tRet (tLc (iRng1 (tCons (tCall sp_law_take [] E0 (tCons (tVar 0) (tCons (tOp rAdd' (tVar 2) (tC (.int 1))) (tNil)))) (tNil))) (gName 4) tYes (tCall sp_law_event_row [] E0 (tCons (tVar 0) (tCons (tVar 1) (tCons (tVar 3) (tNil))))) [4])
theorem ok_law_some_rows {P : Program} {w : World} {K : PySem.W.Frag} {mg : Str → Option Value} {base : Heap} {nv av ev : Addr} {k : Nat} {f : Addr} {fd : FuncData} {sp_law_take sp_law_event_row : Sp} (F : FnP K "_law_some_rows" s_law_some_rows f fd) (T : Txt K mg nv av ev) (C_law_take : Cal P w K mg base "_law_take" k ["_law_box_here", "_law_size_so"] sp_law_take) (C_law_event_row : Cal P w K mg base "_law_event_row" k ["_law_box_here", "_law_tags", "_law_most"] sp_law_event_row)
    {sp : Sp} (len : ∀ vs H Q E, sp vs H Q E → vs.length = 4) (pure : ∀ vs H Q E, sp vs H Q E → tr_law_some_rows K nv av sp_law_take sp_law_event_row { nx := fun _ H' => Q .non H', rt := Q } (start N_law_some_rows vs) H) : FnOk P w K mg base CX0 (k + 1) f fd ["_law_box_here", "_law_tags", "_law_many", "_law_most"] sp := by
  refine F.ok sc_law_some_rows len (fun cdv A outer s H vs Q E hr h => ⟨tr_law_some_rows K nv av sp_law_take sp_law_event_row, PSs.nox ?_, pure vs H Q E h⟩)
  have nd := sc_law_some_rows.nd
  exact pss_one (ps_ret (pe_lc (own := [("_law_turn", 4)]) (g := gName 4) rfl nd (pi_range1 rfl T.b_range (pa_cons (pe_cal C_law_take hr (Nat.le_refl _) rfl (pa_cons (pv 0) (pa_cons (pe_op op_add (pv 2) (pe_int)) (pa_nil)))) (pa_nil))) (blkOk_by (own := [("_law_turn", 4)]) (N := N_law_some_rows) (sc := defScope s_law_some_rows) (by decide +kernel)) (fun _ _ _ _ _ => pg_name (i := 4) nd rfl (by first | exact Or.inl rfl | exact Or.inr rfl)) (fun _ _ _ _ _ => pts_nil) (fun _ _ _ _ _ => pe_cal C_law_event_row hr (Nat.le_refl _) rfl (pa_cons (pv 0) (pa_cons (pv 1) (pa_cons (pv 3) (pa_nil)))))))
theorem bn_law_some_rows {K : PySem.W.Frag} {f : Addr} {fd : FuncData} (F : FnP K "_law_some_rows" s_law_some_rows f fd) : Binds K fd ["_law_box_here", "_law_tags", "_law_many", "_law_most"] [] := F.bindsN fun _ _ _ _ _ _ us hl => match us, hl with | [_, _, _, _], _ => rfl
abbrev N_law_drawn_base : List Str := ["_law_box_here", "_law_tags", "_law_many", "_law_most", "_law_rows", "_law_row"]
theorem sc_law_drawn_base : FnScope N_law_drawn_base ["_law_box_here", "_law_tags", "_law_many", "_law_most"] (defScope s_law_drawn_base) := ⟨rfl, rfl, rfl, by decide +kernel, rfl, by decide +kernel, by decide +kernel⟩
def tr_law_drawn_base (K : PySem.W.Frag) (nv av : Addr) (sp_law_take sp_law_least sp_law_some_rows : Sp) : TS :=
  tSeq (tAsg (tLc (iSeq K (tCall sp_law_some_rows [] E0 (tCons (tVar 0) (tCons (tVar 1) (tCons (tVar 2) (tCons (tVar 3) (tNil))))))) (gName 5) (tOr (tTest (tOp (rNeG K) (tVar 5) (tTup tNil))) (tTest (tOp (rEqG K) (tCall sp_law_take [] E0 (tCons (tVar 0) (tCons (tC (.int 8)) (tNil)))) (tC (.int 0))))) (tVar 5) [5]) (gName 4)) (tRet (tCall sp_law_least [] E0 (tCons (tVar 4) (tNil))))
theorem ok_law_drawn_base {P : Program} {w : World} {K : PySem.W.Frag} {mg : Str → Option Value} {base : Heap} {nv av ev : Addr} {k : Nat} {f : Addr} {fd : FuncData} {sp_law_take sp_law_least sp_law_some_rows : Sp} (F : FnP K "_law_drawn_base" s_law_drawn_base f fd) (T : Txt K mg nv av ev) (C_law_take : Cal P w K mg base "_law_take" k ["_law_box_here", "_law_size_so"] sp_law_take) (C_law_least : Cal P w K mg base "_law_least" k ["_law_rows"] sp_law_least) (C_law_some_rows : Cal P w K mg base "_law_some_rows" k ["_law_box_here", "_law_tags", "_law_many", "_law_most"] sp_law_some_rows)
    {sp : Sp} (len : ∀ vs H Q E, sp vs H Q E → vs.length = 4) (pure : ∀ vs H Q E, sp vs H Q E → tr_law_drawn_base K nv av sp_law_take sp_law_least sp_law_some_rows { nx := fun _ H' => Q .non H', rt := Q } (start N_law_drawn_base vs) H) : FnOk P w K mg base CX0 (k + 1) f fd ["_law_box_here", "_law_tags", "_law_many", "_law_most"] sp := by
  refine F.ok sc_law_drawn_base len (fun cdv A outer s H vs Q E hr h => ⟨tr_law_drawn_base K nv av sp_law_take sp_law_least sp_law_some_rows, PSs.nox ?_, pure vs H Q E h⟩)
  have nd := sc_law_drawn_base.nd
  exact pss_cons (ps_setLc (i := 4) (own := [("_law_row", 5)]) (g := gName 5) rfl nd rfl rfl (sw_true rfl rfl rfl (by decide +kernel)) (pi_seq (pe_cal C_law_some_rows hr (Nat.le_refl _) rfl (pa_cons (pv 0) (pa_cons (pv 1) (pa_cons (pv 2) (pa_cons (pv 3) (pa_nil))))))) (blkOk_by (own := [("_law_row", 5)]) (N := N_law_drawn_base) (sc := defScope s_law_drawn_base) (by decide +kernel)) (fun _ _ _ _ _ => pg_name (i := 5) nd rfl (by first | exact Or.inl rfl | exact Or.inr rfl)) (fun _ _ _ _ _ => pts_one (PW.pt (pw_or (pt_cmpR (op_neG hr.units) (pv 5) (pe_tup (pa_nil)) (nomark _)) (pw_or1 (pt_cmpR (op_eqG hr.units) (pe_cal C_law_take hr (Nat.le_refl _) rfl (pa_cons (pv 0) (pa_cons (pe_int) (pa_nil)))) (pe_int) (nomark _)))))) (fun _ _ _ _ _ => pv 5)) (pss_one (ps_ret (pe_cal C_law_least hr (Nat.le_refl _) rfl (pa_cons (pv 4) (pa_nil)))))
theorem bn_law_drawn_base {K : PySem.W.Frag} {f : Addr} {fd : FuncData} (F : FnP K "_law_drawn_base" s_law_drawn_base f fd) : Binds K fd ["_law_box_here", "_law_tags", "_law_many", "_law_most"] [] := F.bindsN fun _ _ _ _ _ _ us hl => match us, hl with | [_, _, _, _], _ => rfl
abbrev N_law_done : List Str := ["_law_words_so", "_law_row", "_law_own"]
theorem sc_law_done : FnScope N_law_done ["_law_words_so", "_law_row"] (defScope s_law_done) := ⟨rfl, rfl, rfl, by decide +kernel, rfl, by decide +kernel, by decide +kernel⟩
def tr_law_done (K : PySem.W.Frag) (nv av : Addr) (sp_law_lies : Sp) : TS :=
  tRet (tOp (rNeG K) (tLc (iSeq K (tVar 0)) (gName 2) (tB (tCall sp_law_lies [] E0 (tCons (tVar 2) (tCons (tVar 1) (tNil))))) (tVar 2) [2]) (tLst tNil))
theorem ok_law_done {P : Program} {w : World} {K : PySem.W.Frag} {mg : Str → Option Value} {base : Heap} {nv av ev : Addr} {k : Nat} {f : Addr} {fd : FuncData} {sp_law_lies : Sp} (F : FnP K "_law_done" s_law_done f fd) (T : Txt K mg nv av ev) (C_law_lies : Cal P w K mg base "_law_lies" k ["_law_verse", "_law_row"] sp_law_lies)
    {sp : Sp} (len : ∀ vs H Q E, sp vs H Q E → vs.length = 2) (pure : ∀ vs H Q E, sp vs H Q E → tr_law_done K nv av sp_law_lies { nx := fun _ H' => Q .non H', rt := Q } (start N_law_done vs) H) : FnOk P w K mg base CX0 (k + 1) f fd ["_law_words_so", "_law_row"] sp := by
  refine F.ok sc_law_done len (fun cdv A outer s H vs Q E hr h => ⟨tr_law_done K nv av sp_law_lies, PSs.nox ?_, pure vs H Q E h⟩)
  have nd := sc_law_done.nd
  exact pss_one (ps_ret (pe_cmpR (op_neG hr.units) (pe_lc (own := [("_law_own", 2)]) (g := gName 2) rfl nd (pi_seq (pv 0)) (blkOk_by (own := [("_law_own", 2)]) (N := N_law_done) (sc := defScope s_law_done) (by decide +kernel)) (fun _ _ _ _ _ => pg_name (i := 2) nd rfl (by first | exact Or.inl rfl | exact Or.inr rfl)) (fun _ _ _ _ _ => pts_one (pt_val (pe_cal C_law_lies hr (Nat.le_refl _) rfl (pa_cons (pv 2) (pa_cons (pv 1) (pa_nil)))))) (fun _ _ _ _ _ => pv 2)) (pe_lst (pa_nil)) (nomark _)))
theorem bn_law_done {K : PySem.W.Frag} {f : Addr} {fd : FuncData} (F : FnP K "_law_done" s_law_done f fd) : Binds K fd ["_law_words_so", "_law_row"] [] := F.bindsN fun _ _ _ _ _ _ us hl => match us, hl with | [_, _], _ => rfl
abbrev N_law_joined : List Str := ["_law_here_so", "_law_there_so", "_law_found", "_law_one_so", "_law_two_so"]
theorem sc_law_joined : FnScope N_law_joined ["_law_here_so", "_law_there_so"] (defScope s_law_joined) := ⟨rfl, rfl, rfl, by decide +kernel, rfl, by decide +kernel, by decide +kernel⟩
def tr_law_joined (K : PySem.W.Frag) (nv av : Addr) (sp_law_least : Sp) : TS :=
  tSeq (tAsg (tLst tNil) (gName 2)) (tSeq (tFor (iSeq K (tVar 0)) (gName 3) (tAsg (tOp rCat (tVar 2) (tLc (iSeq K (tVar 1)) (gName 4) tYes (tOp (rCatA K) (tVar 3) (tVar 4)) [4])) (gName 2))) (tRet (tCall sp_law_least [] E0 (tCons (tVar 2) (tNil)))))
theorem ok_law_joined {P : Program} {w : World} {K : PySem.W.Frag} {mg : Str → Option Value} {base : Heap} {nv av ev : Addr} {k : Nat} {f : Addr} {fd : FuncData} {sp_law_least : Sp} (F : FnP K "_law_joined" s_law_joined f fd) (T : Txt K mg nv av ev) (C_law_least : Cal P w K mg base "_law_least" k ["_law_rows"] sp_law_least)
    {sp : Sp} (len : ∀ vs H Q E, sp vs H Q E → vs.length = 2) (pure : ∀ vs H Q E, sp vs H Q E → tr_law_joined K nv av sp_law_least { nx := fun _ H' => Q .non H', rt := Q } (start N_law_joined vs) H) : FnOk P w K mg base CX0 (k + 1) f fd ["_law_here_so", "_law_there_so"] sp := by
  refine F.ok sc_law_joined len (fun cdv A outer s H vs Q E hr h => ⟨tr_law_joined K nv av sp_law_least, PSs.nox ?_, pure vs H Q E h⟩)
  have nd := sc_law_joined.nd
  exact pss_cons (ps_set (i := 2) nd rfl (by first | exact Or.inl rfl | exact Or.inr rfl) (pe_lst (pa_nil))) (pss_cons (ps_for PassesOwn.never rfl (pi_seq (pv 0)) (pg_name (i := 3) nd rfl (by first | exact Or.inl rfl | exact Or.inr rfl)) (pss_one (ps_set (i := 2) nd rfl (by first | exact Or.inl rfl | exact Or.inr rfl) (pe_op op_cat (pv 2) (pe_lc (own := [("_law_two_so", 4)]) (g := gName 4) rfl nd (pi_seq (pv 1)) (blkOk_by (own := [("_law_two_so", 4)]) (N := N_law_joined) (sc := defScope s_law_joined) (by decide +kernel)) (fun _ _ _ _ _ => pg_name (i := 4) nd rfl (by first | exact Or.inl rfl | exact Or.inr rfl)) (fun _ _ _ _ _ => pts_nil) (fun _ _ _ _ _ => pe_op op_catA (pv 3) (pv 4))))))) (pss_one (ps_ret (pe_cal C_law_least hr (Nat.le_refl _) rfl (pa_cons (pv 2) (pa_nil))))))
theorem bn_law_joined {K : PySem.W.Frag} {f : Addr} {fd : FuncData} (F : FnP K "_law_joined" s_law_joined f fd) : Binds K fd ["_law_here_so", "_law_there_so"] [] := F.bindsN fun _ _ _ _ _ _ us hl => match us, hl with | [_, _], _ => rfl
abbrev N_law_behind : List Str := ["_law_words_so", "_law_word"]
theorem sc_law_behind : FnScope N_law_behind ["_law_words_so"] (defScope s_law_behind) := ⟨rfl, rfl, rfl, by decide +kernel, rfl, by decide +kernel, by decide +kernel⟩
def tr_law_behind (K : PySem.W.Frag) (nv av : Addr) (sp_law_least : Sp) : TS :=
  tRet (tCall sp_law_least [] E0 (tCons (tLc (iSeq K (tVar 0)) (gName 1) tYes (tRevT K (tVar 1)) [1]) (tNil)))
theorem ok_law_behind {P : Program} {w : World} {K : PySem.W.Frag} {mg : Str → Option Value} {base : Heap} {nv av ev : Addr} {k : Nat} {f : Addr} {fd : FuncData} {sp_law_least : Sp} (F : FnP K "_law_behind" s_law_behind f fd) (T : Txt K mg nv av ev) (C_law_least : Cal P w K mg base "_law_least" k ["_law_rows"] sp_law_least)
    {sp : Sp} (len : ∀ vs H Q E, sp vs H Q E → vs.length = 1) (pure : ∀ vs H Q E, sp vs H Q E → tr_law_behind K nv av sp_law_least { nx := fun _ H' => Q .non H', rt := Q } (start N_law_behind vs) H) : FnOk P w K mg base CX0 (k + 1) f fd ["_law_words_so"] sp := by
  refine F.ok sc_law_behind len (fun cdv A outer s H vs Q E hr h => ⟨tr_law_behind K nv av sp_law_least, PSs.nox ?_, pure vs H Q E h⟩)
  have nd := sc_law_behind.nd
  exact pss_one (ps_ret (pe_cal C_law_least hr (Nat.le_refl _) rfl (pa_cons (pe_lc (own := [("_law_word", 1)]) (g := gName 1) rfl nd (pi_seq (pv 0)) (blkOk_by (own := [("_law_word", 1)]) (N := N_law_behind) (sc := defScope s_law_behind) (by decide +kernel)) (fun _ _ _ _ _ => pg_name (i := 1) nd rfl (by first | exact Or.inl rfl | exact Or.inr rfl)) (fun _ _ _ _ _ => pts_nil) (fun _ _ _ _ _ => pe_revT (pv 1))) (pa_nil))))
theorem bn_law_behind {K : PySem.W.Frag} {f : Addr} {fd : FuncData} (F : FnP K "_law_behind" s_law_behind f fd) : Binds K fd ["_law_words_so"] [] := F.bindsN fun _ _ _ _ _ _ us hl => match us, hl with | [_], _ => rfl
abbrev N_law_inside : List Str := ["_law_here_so", "_law_there_so", "_law_word"]
theorem sc_law_inside : FnScope N_law_inside ["_law_here_so", "_law_there_so"] (defScope s_law_inside) := ⟨rfl, rfl, rfl, by decide +kernel, rfl, by decide +kernel, by decide +kernel⟩
def tr_law_inside (K : PySem.W.Frag) (nv av : Addr) (sp_law_done : Sp) : TS :=
  tRet (tCB (rAll K) (tCons (tLc (iSeq K (tVar 0)) (gName 2) tYes (tCall sp_law_done [] E0 (tCons (tVar 1) (tCons (tVar 2) (tNil)))) [2]) (tNil)))
theorem ok_law_inside {P : Program} {w : World} {K : PySem.W.Frag} {mg : Str → Option Value} {base : Heap} {nv av ev : Addr} {k : Nat} {f : Addr} {fd : FuncData} {sp_law_done : Sp} (F : FnP K "_law_inside" s_law_inside f fd) (T : Txt K mg nv av ev) (C_law_done : Cal P w K mg base "_law_done" k ["_law_words_so", "_law_row"] sp_law_done)
    {sp : Sp} (len : ∀ vs H Q E, sp vs H Q E → vs.length = 2) (pure : ∀ vs H Q E, sp vs H Q E → tr_law_inside K nv av sp_law_done { nx := fun _ H' => Q .non H', rt := Q } (start N_law_inside vs) H) : FnOk P w K mg base CX0 (k + 1) f fd ["_law_here_so", "_law_there_so"] sp := by
  refine F.ok sc_law_inside len (fun cdv A outer s H vs Q E hr h => ⟨tr_law_inside K nv av sp_law_done, PSs.nox ?_, pure vs H Q E h⟩)
  have nd := sc_law_inside.nd
  exact pss_one (ps_ret (pe_callB (cr_all rfl) rfl T.b_all (by decide +kernel) (pa_cons (pe_lc (own := [("_law_word", 2)]) (g := gName 2) rfl nd (pi_seq (pv 0)) (blkOk_by (own := [("_law_word", 2)]) (N := N_law_inside) (sc := defScope s_law_inside) (by decide +kernel)) (fun _ _ _ _ _ => pg_name (i := 2) nd rfl (by first | exact Or.inl rfl | exact Or.inr rfl)) (fun _ _ _ _ _ => pts_nil) (fun _ _ _ _ _ => pe_cal C_law_done hr (Nat.le_refl _) rfl (pa_cons (pv 1) (pa_cons (pv 2) (pa_nil))))) (pa_nil))))
theorem bn_law_inside {K : PySem.W.Frag} {f : Addr} {fd : FuncData} (F : FnP K "_law_inside" s_law_inside f fd) : Binds K fd ["_law_here_so", "_law_there_so"] [] := F.bindsN fun _ _ _ _ _ _ us hl => match us, hl with | [_, _], _ => rfl
abbrev N_law_leads_right : List Str := ["_law_words_so", "_law_one_so", "_law_two_so", "_law_row", "_law_ahead_so", "_law_after_so", "_law_fits", "_law_mid_so", "_law_some", "_law_late", "_law_own"]
theorem sc_law_leads_right : FnScope N_law_leads_right ["_law_words_so", "_law_one_so", "_law_two_so", "_law_row"] (defScope s_law_leads_right) := ⟨rfl, rfl, rfl, by decide +kernel, rfl, by decide +kernel, by decide +kernel⟩
def tr_law_leads_right (K : PySem.W.Frag) (nv av : Addr) (spthen spis_inside spstanding spamid splead sprest_of sp_law_joined sp_law_behind sp_law_inside : Sp) : TS :=
  tSeq (tPar 4 5 (tCons (tCall splead [] E0 (tCons (tVar 0) (tCons (tVar 2) (tNil)))) (tCons (tCall sprest_of [] E0 (tCons (tVar 0) (tCons (tVar 1) (tNil)))) (tNil)))) (tSeq (tAsg (tCall spis_inside [] E0 (tCons (tCall spthen [] E0 (tCons (tVar 1) (tCons (tVar 2) (tNil)))) (tCons (tVar 0) (tNil)))) (gName 6)) (tSeq (tIfS (tOr (tTest (tOp (rNeG K) (tVar 6) (tCall sp_law_inside [] E0 (tCons (tVar 1) (tCons (tVar 4) (tNil)))))) (tTest (tOp (rNeG K) (tVar 6) (tCall sp_law_inside [] E0 (tCons (tVar 2) (tCons (tVar 5) (tNil))))))) (tRet (tC (.bl false))) (tNext)) (tSeq (tAsg (tCall spamid [] E0 (tCons (tVar 0) (tCons (tVar 1) (tCons (tVar 2) (tNil))))) (gName 7)) (tSeq (tAsg (tLst (tCons (tCall sp_law_joined [] E0 (tCons (tVar 4) (tCons (tVar 2) (tNil)))) (tCons (tCall sp_law_joined [] E0 (tCons (tVar 1) (tCons (tVar 5) (tNil)))) (tNil)))) (gName 8)) (tSeq (tDrop (tBM K "list" rAppend (tVar 8) (tCons (tCall sp_law_joined [] E0 (tCons (tVar 1) (tCons (tCall sp_law_joined [] E0 (tCons (tVar 7) (tCons (tVar 2) (tNil)))) (tNil)))) (tNil)))) (tSeq (tIfS (tOr (tNot (tB (tCB (rAll K) (tCons (tLc (iSeq K (tVar 8)) (gName 10) tYes (tCall sp_law_inside [] E0 (tCons (tVar 10) (tCons (tVar 0) (tNil)))) [10]) (tNil))))) (tNot (tB (tCall sp_law_inside [] E0 (tCons (tVar 0) (tCons (tVar 4) (tNil))))))) (tRet (tC (.bl false))) (tNext)) (tSeq (tAsg (tCall sp_law_behind [] E0 (tCons (tCall spstanding [] E0 (tCons (tCall sp_law_behind [] E0 (tCons (tVar 0) (tNil))) (tCons (tVar 3) (tNil)))) (tNil))) (gName 9)) (tSeq (tIfS (tOr (tTest (tOp (rNeG K) (tCall sprest_of [] E0 (tCons (tVar 0) (tCons (tTup (tCons (tVar 3) (tNil))) (tNil)))) (tCall spstanding [] E0 (tCons (tVar 0) (tCons (tVar 3) (tNil)))))) (tTest (tOp (rNeG K) (tCall splead [] E0 (tCons (tVar 0) (tCons (tTup (tCons (tRevT K (tVar 3)) (tNil))) (tNil)))) (tVar 9)))) (tRet (tC (.bl false))) (tNext)) (tRet (tOp (rEqG K) (tCall sp_law_behind [] E0 (tCons (tVar 5) (tNil))) (tCall splead [] E0 (tCons (tCall sp_law_behind [] E0 (tCons (tVar 0) (tNil))) (tCons (tCall sp_law_behind [] E0 (tCons (tVar 1) (tNil))) (tNil))))))))))))))
theorem ok_law_leads_right {P : Program} {w : World} {K : PySem.W.Frag} {mg : Str → Option Value} {base : Heap} {nv av ev : Addr} {k : Nat} {f : Addr} {fd : FuncData} {spthen spis_inside spstanding spamid splead sprest_of sp_law_joined sp_law_behind sp_law_inside : Sp} (F : FnP K "_law_leads_right" s_law_leads_right f fd) (T : Txt K mg nv av ev) (Cthen : Cal P w K mg base "then" k ["one", "other"] spthen) (Cis_inside : Cal P w K mg base "is_inside" k ["one", "other"] spis_inside) (Cstanding : Cal P w K mg base "standing" k ["base", "log"] spstanding) (Camid : Cal P w K mg base "amid" k ["base", "one", "other"] spamid) (Clead : Cal P w K mg base "lead" k ["base", "other"] splead) (Crest_of : Cal P w K mg base "rest_of" k ["base", "other"] sprest_of) (C_law_joined : Cal P w K mg base "_law_joined" k ["_law_here_so", "_law_there_so"] sp_law_joined) (C_law_behind : Cal P w K mg base "_law_behind" k ["_law_words_so"] sp_law_behind) (C_law_inside : Cal P w K mg base "_law_inside" k ["_law_here_so", "_law_there_so"] sp_law_inside)
    {sp : Sp} (len : ∀ vs H Q E, sp vs H Q E → vs.length = 4) (pure : ∀ vs H Q E, sp vs H Q E → tr_law_leads_right K nv av spthen spis_inside spstanding spamid splead sprest_of sp_law_joined sp_law_behind sp_law_inside { nx := fun _ H' => Q .non H', rt := Q } (start N_law_leads_right vs) H) : FnOk P w K mg base CX0 (k + 1) f fd ["_law_words_so", "_law_one_so", "_law_two_so", "_law_row"] sp := by
  refine F.ok sc_law_leads_right len (fun cdv A outer s H vs Q E hr h => ⟨tr_law_leads_right K nv av spthen spis_inside spstanding spamid splead sprest_of sp_law_joined sp_law_behind sp_law_inside, PSs.nox ?_, pure vs H Q E h⟩)
  have nd := sc_law_leads_right.nd
  exact pss_cons (ps_par (i := 4) (j := 5) rfl nd rfl rfl (by decide) rfl rfl (pa_cons (pe_cal Clead hr (Nat.le_refl _) rfl (pa_cons (pv 0) (pa_cons (pv 2) (pa_nil)))) (pa_cons (pe_cal Crest_of hr (Nat.le_refl _) rfl (pa_cons (pv 0) (pa_cons (pv 1) (pa_nil)))) (pa_nil))) rfl) (pss_cons (ps_set (i := 6) nd rfl (by first | exact Or.inl rfl | exact Or.inr rfl) (pe_cal Cis_inside hr (Nat.le_refl _) rfl (pa_cons (pe_cal Cthen hr (Nat.le_refl _) rfl (pa_cons (pv 1) (pa_cons (pv 2) (pa_nil)))) (pa_cons (pv 0) (pa_nil))))) (pss_cons (ps_if (PW.pt (pw_or (pt_cmpR (op_neG hr.units) (pv 6) (pe_cal C_law_inside hr (Nat.le_refl _) rfl (pa_cons (pv 1) (pa_cons (pv 4) (pa_nil)))) (nomark _)) (pw_or1 (pt_cmpR (op_neG hr.units) (pv 6) (pe_cal C_law_inside hr (Nat.le_refl _) rfl (pa_cons (pv 2) (pa_cons (pv 5) (pa_nil)))) (nomark _))))) (pss_one (ps_ret (pe_bl))) (pss_nil)) (pss_cons (ps_set (i := 7) nd rfl (by first | exact Or.inl rfl | exact Or.inr rfl) (pe_cal Camid hr (Nat.le_refl _) rfl (pa_cons (pv 0) (pa_cons (pv 1) (pa_cons (pv 2) (pa_nil)))))) (pss_cons (ps_set (i := 8) nd rfl (by first | exact Or.inl rfl | exact Or.inr rfl) (pe_lst (pa_cons (pe_cal C_law_joined hr (Nat.le_refl _) rfl (pa_cons (pv 4) (pa_cons (pv 2) (pa_nil)))) (pa_cons (pe_cal C_law_joined hr (Nat.le_refl _) rfl (pa_cons (pv 1) (pa_cons (pv 5) (pa_nil)))) (pa_nil))))) (pss_cons (ps_expr (pe_bm PySem.F.plainAttrs_list PySem.F.slot_list_append PySem.F.type_list_append mt_append (pv 8) (pa_cons (pe_cal C_law_joined hr (Nat.le_refl _) rfl (pa_cons (pv 1) (pa_cons (pe_cal C_law_joined hr (Nat.le_refl _) rfl (pa_cons (pv 7) (pa_cons (pv 2) (pa_nil)))) (pa_nil)))) (pa_nil)))) (pss_cons (ps_if (PW.pt (pw_or (pt_not (pt_val (pe_callB (cr_all rfl) rfl T.b_all (by decide +kernel) (pa_cons (pe_lc (own := [("_law_own", 10)]) (g := gName 10) rfl nd (pi_seq (pv 8)) (blkOk_by (own := [("_law_own", 10)]) (N := N_law_leads_right) (sc := defScope s_law_leads_right) (by decide +kernel)) (fun _ _ _ _ _ => pg_name (i := 10) nd rfl (by first | exact Or.inl rfl | exact Or.inr rfl)) (fun _ _ _ _ _ => pts_nil) (fun _ _ _ _ _ => pe_cal C_law_inside hr (Nat.le_refl _) rfl (pa_cons (pv 10) (pa_cons (pv 0) (pa_nil))))) (pa_nil))))) (pw_or1 (pt_not (pt_val (pe_cal C_law_inside hr (Nat.le_refl _) rfl (pa_cons (pv 0) (pa_cons (pv 4) (pa_nil))))))))) (pss_one (ps_ret (pe_bl))) (pss_nil)) (pss_cons (ps_set (i := 9) nd rfl (by first | exact Or.inl rfl | exact Or.inr rfl) (pe_cal C_law_behind hr (Nat.le_refl _) rfl (pa_cons (pe_cal Cstanding hr (Nat.le_refl _) rfl (pa_cons (pe_cal C_law_behind hr (Nat.le_refl _) rfl (pa_cons (pv 0) (pa_nil))) (pa_cons (pv 3) (pa_nil)))) (pa_nil)))) (pss_cons (ps_if (PW.pt (pw_or (pt_cmpR (op_neG hr.units) (pe_cal Crest_of hr (Nat.le_refl _) rfl (pa_cons (pv 0) (pa_cons (pe_tup (pa_cons (pv 3) (pa_nil))) (pa_nil)))) (pe_cal Cstanding hr (Nat.le_refl _) rfl (pa_cons (pv 0) (pa_cons (pv 3) (pa_nil)))) (nomark _)) (pw_or1 (pt_cmpR (op_neG hr.units) (pe_cal Clead hr (Nat.le_refl _) rfl (pa_cons (pv 0) (pa_cons (pe_tup (pa_cons (pe_revT (pv 3)) (pa_nil))) (pa_nil)))) (pv 9) (nomark _))))) (pss_one (ps_ret (pe_bl))) (pss_nil)) (pss_one (ps_ret (pe_cmpR (op_eqG hr.units) (pe_cal C_law_behind hr (Nat.le_refl _) rfl (pa_cons (pv 5) (pa_nil))) (pe_cal Clead hr (Nat.le_refl _) rfl (pa_cons (pe_cal C_law_behind hr (Nat.le_refl _) rfl (pa_cons (pv 0) (pa_nil))) (pa_cons (pe_cal C_law_behind hr (Nat.le_refl _) rfl (pa_cons (pv 1) (pa_nil))) (pa_nil)))) (nomark _))))))))))))
theorem bn_law_leads_right {K : PySem.W.Frag} {f : Addr} {fd : FuncData} (F : FnP K "_law_leads_right" s_law_leads_right f fd) : Binds K fd ["_law_words_so", "_law_one_so", "_law_two_so", "_law_row"] [] := F.bindsN fun _ _ _ _ _ _ us hl => match us, hl with | [_, _, _, _], _ => rfl
abbrev N_law_sides_right : List Str := ["_law_words_so", "_law_one_so", "_law_two_so", "_law_rows", "_law_mid_so", "_law_more", "_law_wide", "_law_mine", "_law_its", "_law_own", "_law_due", "_law_end_so", "_law_far"]
theorem sc_law_sides_right : FnScope N_law_sides_right ["_law_words_so", "_law_one_so", "_law_two_so", "_law_rows"] (defScope s_law_sides_right) := ⟨rfl, rfl, rfl, by decide +kernel, rfl, by decide +kernel, by decide +kernel⟩
def tr_law_sides_right (K : PySem.W.Frag) (nv av : Addr) (speither spamid splead sp_law_done : Sp) : TS :=
  tSeq (tPar 4 5 (tCons (tCall spamid [] E0 (tCons (tVar 0) (tCons (tVar 1) (tCons (tVar 2) (tNil))))) (tCons (tCall speither [] E0 (tCons (tVar 1) (tCons (tVar 2) (tNil)))) (tNil)))) (tSeq (tPar3 6 7 8 (tCons (tCall splead [] E0 (tCons (tVar 0) (tCons (tVar 5) (tNil)))) (tCons (tCall splead [] E0 (tCons (tVar 0) (tCons (tVar 1) (tNil)))) (tCons (tCall splead [] E0 (tCons (tVar 0) (tCons (tVar 2) (tNil)))) (tNil))))) (tSeq (tFor (iSeq K (tVar 3)) (gName 9) (tSeq (tAsg (tC (.bl true)) (gName 10)) (tSeq (tFor (iSeq K (tVar 2)) (gName 11) (tAsg (tAndV (tVar 10) (tCB (rAll K) (tCons (tLc (iSeq K (tVar 1)) (gName 12) tYes (tCall sp_law_done [] E0 (tCons (tVar 0) (tCons (tOp (rCatA K) (tOp (rCatA K) (tVar 12) (tVar 9)) (tVar 11)) (tNil)))) [12]) (tNil)))) (gName 10))) (tSeq (tIfS (tTest (tOp (rNeG K) (tCall sp_law_done [] E0 (tCons (tVar 4) (tCons (tVar 9) (tNil)))) (tVar 10))) (tRet (tC (.bl false))) (tNext)) (tIfS (tTest (tOp (rNeG K) (tCall sp_law_done [] E0 (tCons (tVar 6) (tCons (tVar 9) (tNil)))) (tAndV (tCall sp_law_done [] E0 (tCons (tVar 7) (tCons (tVar 9) (tNil)))) (tCall sp_law_done [] E0 (tCons (tVar 8) (tCons (tVar 9) (tNil))))))) (tRet (tC (.bl false))) (tNext)))))) (tRet (tC (.bl true)))))
theorem ok_law_sides_right {P : Program} {w : World} {K : PySem.W.Frag} {mg : Str → Option Value} {base : Heap} {nv av ev : Addr} {k : Nat} {f : Addr} {fd : FuncData} {speither spamid splead sp_law_done : Sp} (F : FnP K "_law_sides_right" s_law_sides_right f fd) (T : Txt K mg nv av ev) (Ceither : Cal P w K mg base "either" k ["one", "other"] speither) (Camid : Cal P w K mg base "amid" k ["base", "one", "other"] spamid) (Clead : Cal P w K mg base "lead" k ["base", "other"] splead) (C_law_done : Cal P w K mg base "_law_done" k ["_law_words_so", "_law_row"] sp_law_done)
    {sp : Sp} (len : ∀ vs H Q E, sp vs H Q E → vs.length = 4) (pure : ∀ vs H Q E, sp vs H Q E → tr_law_sides_right K nv av speither spamid splead sp_law_done { nx := fun _ H' => Q .non H', rt := Q } (start N_law_sides_right vs) H) : FnOk P w K mg base CX0 (k + 1) f fd ["_law_words_so", "_law_one_so", "_law_two_so", "_law_rows"] sp := by
  refine F.ok sc_law_sides_right len (fun cdv A outer s H vs Q E hr h => ⟨tr_law_sides_right K nv av speither spamid splead sp_law_done, PSs.nox ?_, pure vs H Q E h⟩)
  have nd := sc_law_sides_right.nd
  exact pss_cons (ps_par (i := 4) (j := 5) rfl nd rfl rfl (by decide) rfl rfl (pa_cons (pe_cal Camid hr (Nat.le_refl _) rfl (pa_cons (pv 0) (pa_cons (pv 1) (pa_cons (pv 2) (pa_nil))))) (pa_cons (pe_cal Ceither hr (Nat.le_refl _) rfl (pa_cons (pv 1) (pa_cons (pv 2) (pa_nil)))) (pa_nil))) rfl) (pss_cons (ps_par3 (i := 6) (j := 7) (l := 8) rfl nd rfl rfl rfl (by decide) (by decide) (by decide) rfl rfl rfl (pa_cons (pe_cal Clead hr (Nat.le_refl _) rfl (pa_cons (pv 0) (pa_cons (pv 5) (pa_nil)))) (pa_cons (pe_cal Clead hr (Nat.le_refl _) rfl (pa_cons (pv 0) (pa_cons (pv 1) (pa_nil)))) (pa_cons (pe_cal Clead hr (Nat.le_refl _) rfl (pa_cons (pv 0) (pa_cons (pv 2) (pa_nil)))) (pa_nil)))) rfl) (pss_cons (ps_for PassesOwn.never rfl (pi_seq (pv 3)) (pg_name (i := 9) nd rfl (by first | exact Or.inl rfl | exact Or.inr rfl)) (pss_cons (ps_set (i := 10) nd rfl (by first | exact Or.inl rfl | exact Or.inr rfl) (pe_bl)) (pss_cons (ps_for PassesOwn.never rfl (pi_seq (pv 2)) (pg_name (i := 11) nd rfl (by first | exact Or.inl rfl | exact Or.inr rfl)) (pss_one (ps_set (i := 10) nd rfl (by first | exact Or.inl rfl | exact Or.inr rfl) (pe_and (pv 10) (pe_one (pe_callB (cr_all rfl) rfl T.b_all (by decide +kernel) (pa_cons (pe_lc (own := [("_law_far", 12)]) (g := gName 12) rfl nd (pi_seq (pv 1)) (blkOk_by (own := [("_law_far", 12)]) (N := N_law_sides_right) (sc := defScope s_law_sides_right) (by decide +kernel)) (fun _ _ _ _ _ => pg_name (i := 12) nd rfl (by first | exact Or.inl rfl | exact Or.inr rfl)) (fun _ _ _ _ _ => pts_nil) (fun _ _ _ _ _ => pe_cal C_law_done hr (Nat.le_refl _) rfl (pa_cons (pv 0) (pa_cons (pe_op op_catA (pe_op op_catA (pv 12) (pv 9)) (pv 11)) (pa_nil))))) (pa_nil)))))))) (pss_cons (ps_if (pt_cmpR (op_neG hr.units) (pe_cal C_law_done hr (Nat.le_refl _) rfl (pa_cons (pv 4) (pa_cons (pv 9) (pa_nil)))) (pv 10) (nomark _)) (pss_one (ps_ret (pe_bl))) (pss_nil)) (pss_one (ps_if (pt_cmpR (op_neG hr.units) (pe_cal C_law_done hr (Nat.le_refl _) rfl (pa_cons (pv 6) (pa_cons (pv 9) (pa_nil)))) (pe_and (pe_cal C_law_done hr (Nat.le_refl _) rfl (pa_cons (pv 7) (pa_cons (pv 9) (pa_nil)))) (pe_one (pe_cal C_law_done hr (Nat.le_refl _) rfl (pa_cons (pv 8) (pa_cons (pv 9) (pa_nil)))))) (nomark _)) (pss_one (ps_ret (pe_bl))) (pss_nil))))))) (pss_one (ps_ret (pe_bl)))))
theorem bn_law_sides_right {K : PySem.W.Frag} {f : Addr} {fd : FuncData} (F : FnP K "_law_sides_right" s_law_sides_right f fd) : Binds K fd ["_law_words_so", "_law_one_so", "_law_two_so", "_law_rows"] [] := F.bindsN fun _ _ _ _ _ _ us hl => match us, hl with | [_, _, _, _], _ => rfl
abbrev N_law_pairs_right : List Str := ["_law_words_so", "_law_one_so", "_law_two_so", "_law_rows", "_law_mat", "_law_found", "_law_word"]
theorem sc_law_pairs_right : FnScope N_law_pairs_right ["_law_words_so", "_law_one_so", "_law_two_so"] (defScope s_law_pairs_right) := ⟨rfl, rfl, rfl, by decide +kernel, rfl, by decide +kernel, by decide +kernel⟩
def tr_law_pairs_right (K : PySem.W.Frag) (nv av : Addr) (spthen spis_inside splead sprest_of sppairs sp_law_joined sp_law_inside : Sp) : TS :=
  tSeq (tAsg (tCall sppairs [] E0 (tCons (tVar 0) (tNil))) (gName 3)) (tSeq (tFor (iSeq K (tVar 3)) (gName 4) (tSeq (tIfS (tNot (tB (tCall sp_law_inside [] E0 (tCons (tCall sp_law_joined [] E0 (tCons (tOp (rIx K) (tVar 4) (tC (.int 0))) (tCons (tOp (rIx K) (tVar 4) (tC (.int 1))) (tNil)))) (tCons (tVar 0) (tNil)))))) (tRet (tC (.bl false))) (tNext)) (tSeq (tIfS (tAnd (tTest (tOp rLt (tCB (rSum K) (tCons (tLc (iSeq K (tOp (rIx K) (tVar 4) (tC (.int 1)))) (gName 6) tYes (tCB (rLen' K) (tCons (tVar 6) (tNil))) [6]) (tNil))) (tC (.int 10)))) (tAnd (tTest (tOp rLt (tCB (rLen' K) (tCons (tOp (rIx K) (tVar 4) (tC (.int 1))) (tNil))) (tC (.int 5)))) (tTest (tOp (rNeG K) (tCall splead [] E0 (tCons (tVar 0) (tCons (tOp (rIx K) (tVar 4) (tC (.int 1))) (tNil)))) (tOp (rIx K) (tVar 4) (tC (.int 0))))))) (tRet (tC (.bl false))) (tNext)) (tIfS (tAnd (tTest (tOp rLt (tCB (rSum K) (tCons (tLc (iSeq K (tOp (rIx K) (tVar 4) (tC (.int 0)))) (gName 6) tYes (tCB (rLen' K) (tCons (tVar 6) (tNil))) [6]) (tNil))) (tC (.int 10)))) (tAnd (tTest (tOp rLt (tCB (rLen' K) (tCons (tOp (rIx K) (tVar 4) (tC (.int 0))) (tNil))) (tC (.int 5)))) (tTest (tOp (rNeG K) (tCall sprest_of [] E0 (tCons (tVar 0) (tCons (tOp (rIx K) (tVar 4) (tC (.int 0))) (tNil)))) (tOp (rIx K) (tVar 4) (tC (.int 1))))))) (tRet (tC (.bl false))) (tNext))))) (tSeq (tAsg (tLc (iSeq K (tVar 3)) (gName 4) (tAnd (tB (tCall sp_law_inside [] E0 (tCons (tVar 1) (tCons (tOp (rIx K) (tVar 4) (tC (.int 0))) (tNil))))) (tB (tCall sp_law_inside [] E0 (tCons (tVar 2) (tCons (tOp (rIx K) (tVar 4) (tC (.int 1))) (tNil)))))) (tVar 4) [4]) (gName 5)) (tRet (tOp (rEqG K) (tOp (rNeG K) (tVar 5) (tLst tNil)) (tCall spis_inside [] E0 (tCons (tCall spthen [] E0 (tCons (tVar 1) (tCons (tVar 2) (tNil)))) (tCons (tVar 0) (tNil))))))))
theorem ok_law_pairs_right {P : Program} {w : World} {K : PySem.W.Frag} {mg : Str → Option Value} {base : Heap} {nv av ev : Addr} {k : Nat} {f : Addr} {fd : FuncData} {spthen spis_inside splead sprest_of sppairs sp_law_joined sp_law_inside : Sp} (F : FnP K "_law_pairs_right" s_law_pairs_right f fd) (T : Txt K mg nv av ev) (Cthen : Cal P w K mg base "then" k ["one", "other"] spthen) (Cis_inside : Cal P w K mg base "is_inside" k ["one", "other"] spis_inside) (Clead : Cal P w K mg base "lead" k ["base", "other"] splead) (Crest_of : Cal P w K mg base "rest_of" k ["base", "other"] sprest_of) (Cpairs : Cal P w K mg base "pairs" k ["base"] sppairs) (C_law_joined : Cal P w K mg base "_law_joined" k ["_law_here_so", "_law_there_so"] sp_law_joined) (C_law_inside : Cal P w K mg base "_law_inside" k ["_law_here_so", "_law_there_so"] sp_law_inside)
    {sp : Sp} (len : ∀ vs H Q E, sp vs H Q E → vs.length = 3) (pure : ∀ vs H Q E, sp vs H Q E → tr_law_pairs_right K nv av spthen spis_inside splead sprest_of sppairs sp_law_joined sp_law_inside { nx := fun _ H' => Q .non H', rt := Q } (start N_law_pairs_right vs) H) : FnOk P w K mg base CX0 (k + 1) f fd ["_law_words_so", "_law_one_so", "_law_two_so"] sp := by
  refine F.ok sc_law_pairs_right len (fun cdv A outer s H vs Q E hr h => ⟨tr_law_pairs_right K nv av spthen spis_inside splead sprest_of sppairs sp_law_joined sp_law_inside, PSs.nox ?_, pure vs H Q E h⟩)
  have nd := sc_law_pairs_right.nd
  exact pss_cons (ps_set (i := 3) nd rfl (by first | exact Or.inl rfl | exact Or.inr rfl) (pe_cal Cpairs hr (Nat.le_refl _) rfl (pa_cons (pv 0) (pa_nil)))) (pss_cons (ps_for PassesOwn.never rfl (pi_seq (pv 3)) (pg_name (i := 4) nd rfl (by first | exact Or.inl rfl | exact Or.inr rfl)) (pss_cons (ps_if (pt_not (pt_val (pe_cal C_law_inside hr (Nat.le_refl _) rfl (pa_cons (pe_cal C_law_joined hr (Nat.le_refl _) rfl (pa_cons (pe_ix ix_seq (pv 4) (pe_int) (fun _ _ => rfl)) (pa_cons (pe_ix ix_seq (pv 4) (pe_int) (fun _ _ => rfl)) (pa_nil)))) (pa_cons (pv 0) (pa_nil)))))) (pss_one (ps_ret (pe_bl))) (pss_nil)) (pss_cons (ps_if (PW.pt (pw_and (pt_cmpR op_lt (pe_callB (cr_sum rfl) rfl T.b_sum (by decide +kernel) (pa_cons (pe_lc (own := [("_law_word", 6)]) (g := gName 6) rfl nd (pi_seq (pe_ix ix_seq (pv 4) (pe_int) (fun _ _ => rfl))) (blkOk_by (own := [("_law_word", 6)]) (N := N_law_pairs_right) (sc := defScope s_law_pairs_right) (by decide +kernel)) (fun _ _ _ _ _ => pg_name (i := 6) nd rfl (by first | exact Or.inl rfl | exact Or.inr rfl)) (fun _ _ _ _ _ => pts_nil) (fun _ _ _ _ _ => pe_callB call_len rfl T.b_len (by decide +kernel) (pa_cons (pv 6) (pa_nil)))) (pa_nil))) (pe_int) (nomark _)) (pw_and (pt_cmpR op_lt (pe_callB call_len rfl T.b_len (by decide +kernel) (pa_cons (pe_ix ix_seq (pv 4) (pe_int) (fun _ _ => rfl)) (pa_nil))) (pe_int) (nomark _)) (pw_and1 (pt_cmpR (op_neG hr.units) (pe_cal Clead hr (Nat.le_refl _) rfl (pa_cons (pv 0) (pa_cons (pe_ix ix_seq (pv 4) (pe_int) (fun _ _ => rfl)) (pa_nil)))) (pe_ix ix_seq (pv 4) (pe_int) (fun _ _ => rfl)) (nomark _)))))) (pss_one (ps_ret (pe_bl))) (pss_nil)) (pss_one (ps_if (PW.pt (pw_and (pt_cmpR op_lt (pe_callB (cr_sum rfl) rfl T.b_sum (by decide +kernel) (pa_cons (pe_lc (own := [("_law_word", 6)]) (g := gName 6) rfl nd (pi_seq (pe_ix ix_seq (pv 4) (pe_int) (fun _ _ => rfl))) (blkOk_by (own := [("_law_word", 6)]) (N := N_law_pairs_right) (sc := defScope s_law_pairs_right) (by decide +kernel)) (fun _ _ _ _ _ => pg_name (i := 6) nd rfl (by first | exact Or.inl rfl | exact Or.inr rfl)) (fun _ _ _ _ _ => pts_nil) (fun _ _ _ _ _ => pe_callB call_len rfl T.b_len (by decide +kernel) (pa_cons (pv 6) (pa_nil)))) (pa_nil))) (pe_int) (nomark _)) (pw_and (pt_cmpR op_lt (pe_callB call_len rfl T.b_len (by decide +kernel) (pa_cons (pe_ix ix_seq (pv 4) (pe_int) (fun _ _ => rfl)) (pa_nil))) (pe_int) (nomark _)) (pw_and1 (pt_cmpR (op_neG hr.units) (pe_cal Crest_of hr (Nat.le_refl _) rfl (pa_cons (pv 0) (pa_cons (pe_ix ix_seq (pv 4) (pe_int) (fun _ _ => rfl)) (pa_nil)))) (pe_ix ix_seq (pv 4) (pe_int) (fun _ _ => rfl)) (nomark _)))))) (pss_one (ps_ret (pe_bl))) (pss_nil)))))) (pss_cons (ps_setLc (i := 5) (own := [("_law_mat", 4)]) (g := gName 4) rfl nd rfl rfl (sw_true rfl rfl rfl (by decide +kernel)) (pi_seq (pv 3)) (blkOk_by (own := [("_law_mat", 4)]) (N := N_law_pairs_right) (sc := defScope s_law_pairs_right) (by decide +kernel)) (fun _ _ _ _ _ => pg_name (i := 4) nd rfl (by first | exact Or.inl rfl | exact Or.inr rfl)) (fun _ _ _ _ _ => pts_one (PW.pt (pw_and (pt_val (pe_cal C_law_inside hr (Nat.le_refl _) rfl (pa_cons (pv 1) (pa_cons (pe_ix ix_seq (pv 4) (pe_int) (fun _ _ => rfl)) (pa_nil))))) (pw_and1 (pt_val (pe_cal C_law_inside hr (Nat.le_refl _) rfl (pa_cons (pv 2) (pa_cons (pe_ix ix_seq (pv 4) (pe_int) (fun _ _ => rfl)) (pa_nil))))))))) (fun _ _ _ _ _ => pv 4)) (pss_one (ps_ret (pe_cmpR (op_eqG hr.units) (pe_cmpR (op_neG hr.units) (pv 5) (pe_lst (pa_nil)) (nomark _)) (pe_cal Cis_inside hr (Nat.le_refl _) rfl (pa_cons (pe_cal Cthen hr (Nat.le_refl _) rfl (pa_cons (pv 1) (pa_cons (pv 2) (pa_nil)))) (pa_cons (pv 0) (pa_nil)))) (nomark _))))))
theorem bn_law_pairs_right {K : PySem.W.Frag} {f : Addr} {fd : FuncData} (F : FnP K "_law_pairs_right" s_law_pairs_right f fd) : Binds K fd ["_law_words_so", "_law_one_so", "_law_two_so"] [] := F.bindsN fun _ _ _ _ _ _ us hl => match us, hl with | [_, _, _], _ => rfl
abbrev N_law_cuts_right : List Str := ["_law_words_so", "_law_parts_so", "_law_got", "_law_due", "_law_k", "_law_sides_so", "_law_j", "_law_part_so", "_law_mat"]
theorem sc_law_cuts_right : FnScope N_law_cuts_right ["_law_words_so"] (defScope s_law_cuts_right) := ⟨rfl, rfl, rfl, by decide +kernel, rfl, by decide +kernel, by decide +kernel⟩
def tr_law_cuts_right (K : PySem.W.Frag) (nv av : Addr) (spthen spstages spis_split spsplits : Sp) : TS :=
  tSeq (tPar 1 2 (tCons (tCall spstages [] E0 (tCons (tVar 0) (tNil))) (tCons (tCall spsplits [] E0 (tCons (tVar 0) (tNil))) (tNil)))) (tSeq (tIfS (tOr (tTest (tOp rIsN (tVar 1) (tC .non))) (tTest (tOp (rEqG K) (tVar 1) (tTup tNil)))) (tRet (tOp (rEqG K) (tVar 2) (tLst tNil))) (tNext)) (tSeq (tAsg (tLst tNil) (gName 3)) (tSeq (tFor (iRng2 (tCons (tC (.int 1)) (tCons (tCB (rLen' K) (tCons (tVar 1) (tNil))) (tNil)))) (gName 4) (tSeq (tAsg (tLst (tCons (tTup (tCons (tTup tNil) (tNil))) (tCons (tTup (tCons (tTup tNil) (tNil))) (tNil)))) (gName 5)) (tSeq (tFor (iEnumT K (tCons (tVar 1) (tNil))) (g2 K 6 7) (tAsg (tCall spthen [] E0 (tCons (tOp (rIx K) (tVar 5) (tCB rInt1 (tCons (tOp rGe' (tVar 6) (tVar 4)) (tNil)))) (tCons (tVar 7) (tNil)))) (gSub (tVar 5) (tCB rInt1 (tCons (tOp rGe' (tVar 6) (tVar 4)) (tNil))) rSetL))) (tDrop (tBM K "list" rAppend (tVar 3) (tCons (tTup (tCons (tOp (rIx K) (tVar 5) (tC (.int 0))) (tCons (tOp (rIx K) (tVar 5) (tC (.int 1))) (tNil)))) (tNil))))))) (tRet (tAndV (tOp (rEqG K) (tVar 2) (tCB (rSrt K) (tCons (tVar 3) (tNil)))) (tCB (rAll K) (tCons (tLc (iSeq K (tVar 3)) (gName 8) tYes (tCall spis_split [] E0 (tCons (tVar 0) (tCons (tVar 8) (tNil)))) [8]) (tNil))))))))
theorem ok_law_cuts_right {P : Program} {w : World} {K : PySem.W.Frag} {mg : Str → Option Value} {base : Heap} {nv av ev : Addr} {k : Nat} {f : Addr} {fd : FuncData} {spthen spstages spis_split spsplits : Sp} (F : FnP K "_law_cuts_right" s_law_cuts_right f fd) (T : Txt K mg nv av ev) (Cthen : Cal P w K mg base "then" k ["one", "other"] spthen) (Cstages : Cal P w K mg base "stages" k ["base"] spstages) (Cis_split : Cal P w K mg base "is_split" k ["base", "thing"] spis_split) (Csplits : Cal P w K mg base "splits" k ["base"] spsplits)
    {sp : Sp} (len : ∀ vs H Q E, sp vs H Q E → vs.length = 1) (pure : ∀ vs H Q E, sp vs H Q E → tr_law_cuts_right K nv av spthen spstages spis_split spsplits { nx := fun _ H' => Q .non H', rt := Q } (start N_law_cuts_right vs) H) : FnOk P w K mg base CX0 (k + 1) f fd ["_law_words_so"] sp := by
  refine F.ok sc_law_cuts_right len (fun cdv A outer s H vs Q E hr h => ⟨tr_law_cuts_right K nv av spthen spstages spis_split spsplits, PSs.nox ?_, pure vs H Q E h⟩)
  have nd := sc_law_cuts_right.nd
  exact pss_cons (ps_par (i := 1) (j := 2) rfl nd rfl rfl (by decide) rfl rfl (pa_cons (pe_cal Cstages hr (Nat.le_refl _) rfl (pa_cons (pv 0) (pa_nil))) (pa_cons (pe_cal Csplits hr (Nat.le_refl _) rfl (pa_cons (pv 0) (pa_nil))) (pa_nil))) rfl) (pss_cons (ps_if (PW.pt (pw_or (pt_cmpR op_isN1 (pv 1) (pe_non) (nomark _)) (pw_or1 (pt_cmpR (op_eqG hr.units) (pv 1) (pe_tup (pa_nil)) (nomark _))))) (pss_one (ps_ret (pe_cmpR (op_eqG hr.units) (pv 2) (pe_lst (pa_nil)) (nomark _)))) (pss_nil)) (pss_cons (ps_set (i := 3) nd rfl (by first | exact Or.inl rfl | exact Or.inr rfl) (pe_lst (pa_nil))) (pss_cons (ps_for PassesOwn.never rfl (pi_range2 rfl T.b_range (pa_cons (pe_int) (pa_cons (pe_callB call_len rfl T.b_len (by decide +kernel) (pa_cons (pv 1) (pa_nil))) (pa_nil)))) (pg_name (i := 4) nd rfl (by first | exact Or.inl rfl | exact Or.inr rfl)) (pss_cons (ps_set (i := 5) nd rfl (by first | exact Or.inl rfl | exact Or.inr rfl) (pe_lst (pa_cons (pe_tup (pa_cons (pe_tup (pa_nil)) (pa_nil))) (pa_cons (pe_tup (pa_cons (pe_tup (pa_nil)) (pa_nil))) (pa_nil))))) (pss_cons (ps_for PassesOwn.never rfl (pi_enumT rfl T.b_enumerate (pa_cons (pv 1) (pa_nil))) (pg_tup rfl (pgs_cons (pg_name (i := 6) nd rfl (by first | exact Or.inl rfl | exact Or.inr rfl)) (pgs_cons (pg_name (i := 7) nd rfl (by first | exact Or.inl rfl | exact Or.inr rfl)) (pgs_nil)))) (pss_one (ps_asg (pe_cal Cthen hr (Nat.le_refl _) rfl (pa_cons (pe_ix ix_seq (pv 5) (pe_callTy call_int1 rfl T.b_int (by decide +kernel) (pa_cons (pe_cmpR op_ge (pv 6) (pv 4) (nomark _)) (pa_nil))) (fun _ _ => rfl)) (pa_cons (pv 7) (pa_nil)))) (pg_sub (pv 5) (pe_callTy call_int1 rfl T.b_int (by decide +kernel) (pa_cons (pe_cmpR op_ge (pv 6) (pv 4) (nomark _)) (pa_nil))) set_list)))) (pss_one (ps_expr (pe_bm PySem.F.plainAttrs_list PySem.F.slot_list_append PySem.F.type_list_append mt_append (pv 3) (pa_cons (pe_tup (pa_cons (pe_ix ix_seq (pv 5) (pe_int) (fun _ _ => rfl)) (pa_cons (pe_ix ix_seq (pv 5) (pe_int) (fun _ _ => rfl)) (pa_nil)))) (pa_nil)))))))) (pss_one (ps_ret (pe_and (pe_cmpR (op_eqG hr.units) (pv 2) (pe_callB (cr_srt hr.units) rfl T.b_sorted (by decide +kernel) (pa_cons (pv 3) (pa_nil))) (nomark _)) (pe_one (pe_callB (cr_all rfl) rfl T.b_all (by decide +kernel) (pa_cons (pe_lc (own := [("_law_mat", 8)]) (g := gName 8) rfl nd (pi_seq (pv 3)) (blkOk_by (own := [("_law_mat", 8)]) (N := N_law_cuts_right) (sc := defScope s_law_cuts_right) (by decide +kernel)) (fun _ _ _ _ _ => pg_name (i := 8) nd rfl (by first | exact Or.inl rfl | exact Or.inr rfl)) (fun _ _ _ _ _ => pts_nil) (fun _ _ _ _ _ => pe_cal Cis_split hr (Nat.le_refl _) rfl (pa_cons (pv 0) (pa_cons (pv 8) (pa_nil))))) (pa_nil))))))))))
theorem bn_law_cuts_right {K : PySem.W.Frag} {f : Addr} {fd : FuncData} (F : FnP K "_law_cuts_right" s_law_cuts_right f fd) : Binds K fd ["_law_words_so"] [] := F.bindsN fun _ _ _ _ _ _ us hl => match us, hl with | [_], _ => rfl
abbrev N_law_right : List Str := ["_law_box_here", "_law_tags", "_law_turn", "_law_words_so", "_law_one_so", "_law_two_so"]
theorem sc_law_right : FnScope N_law_right ["_law_box_here"] (defScope s_law_right) := ⟨rfl, rfl, rfl, by decide +kernel, rfl, by decide +kernel, by decide +kernel⟩
def tr_law_right (K : PySem.W.Frag) (nv av : Addr) (spthen sp_law_take sp_law_names sp_law_every sp_law_event_row sp_law_drawn_base sp_law_leads_right sp_law_sides_right sp_law_pairs_right sp_law_cuts_right sp_law_by_hand_right : Sp) : TS :=
  tSeq (tIfS (tNot (tB (tCall sp_law_by_hand_right [] E0 tNil))) (tRet (tC (.bl false))) (tNext)) (tSeq (tAsg (tCall sp_law_names [] E0 (tCons (tVar 0) (tCons (tOp rAdd' (tC (.int 1)) (tCall sp_law_take [] E0 (tCons (tVar 0) (tCons (tC (.int 3)) (tNil))))) (tNil)))) (gName 1)) (tSeq (tFor (iRng1 (tCons (tC (.int 5)) (tNil))) (gName 2) (tSeq (tAsg (tCall sp_law_drawn_base [] E0 (tCons (tVar 0) (tCons (tVar 1) (tCons (tC (.int 3)) (tCons (tC (.int 2)) (tNil)))))) (gName 3)) (tSeq (tPar 4 5 (tCons (tCall sp_law_drawn_base [] E0 (tCons (tVar 0) (tCons (tVar 1) (tCons (tC (.int 2)) (tCons (tC (.int 2)) (tNil)))))) (tCons (tCall sp_law_drawn_base [] E0 (tCons (tVar 0) (tCons (tVar 1) (tCons (tC (.int 2)) (tCons (tC (.int 2)) (tNil)))))) (tNil)))) (tSeq (tIfS (tTest (tOp (rEqG K) (tCall sp_law_take [] E0 (tCons (tVar 0) (tCons (tC (.int 3)) (tNil)))) (tC (.int 0)))) (tAsg (tCall spthen [] E0 (tCons (tCall sp_law_drawn_base [] E0 (tCons (tVar 0) (tCons (tVar 1) (tCons (tC (.int 1)) (tCons (tC (.int 1)) (tNil)))))) (tCons (tVar 5) (tNil)))) (gName 3)) (tNext)) (tSeq (tIfS (tNot (tB (tCall sp_law_sides_right [] E0 (tCons (tVar 3) (tCons (tVar 4) (tCons (tVar 5) (tCons (tCall sp_law_every [] E0 (tCons (tVar 1) (tCons (tC (.int 2)) (tNil)))) (tNil)))))))) (tRet (tC (.bl false))) (tNext)) (tSeq (tIfS (tNot (tB (tCall sp_law_leads_right [] E0 (tCons (tVar 3) (tCons (tVar 4) (tCons (tVar 5) (tCons (tCall sp_law_event_row [] E0 (tCons (tVar 0) (tCons (tVar 1) (tCons (tC (.int 5)) (tNil))))) (tNil)))))))) (tRet (tC (.bl false))) (tNext)) (tIfS (tOr (tNot (tB (tCall sp_law_pairs_right [] E0 (tCons (tVar 3) (tCons (tVar 4) (tCons (tVar 5) (tNil))))))) (tNot (tB (tCall sp_law_cuts_right [] E0 (tCons (tVar 3) (tNil)))))) (tRet (tC (.bl false))) (tNext)))))))) (tRet (tC (.bl true)))))
theorem ok_law_right {P : Program} {w : World} {K : PySem.W.Frag} {mg : Str → Option Value} {base : Heap} {nv av ev : Addr} {k : Nat} {f : Addr} {fd : FuncData} {spthen sp_law_take sp_law_names sp_law_every sp_law_event_row sp_law_drawn_base sp_law_leads_right sp_law_sides_right sp_law_pairs_right sp_law_cuts_right sp_law_by_hand_right : Sp} (F : FnP K "_law_right" s_law_right f fd) (T : Txt K mg nv av ev) (Cthen : Cal P w K mg base "then" k ["one", "other"] spthen) (C_law_take : Cal P w K mg base "_law_take" k ["_law_box_here", "_law_size_so"] sp_law_take) (C_law_names : Cal P w K mg base "_law_names" k ["_law_box_here", "_law_much_so"] sp_law_names) (C_law_every : Cal P w K mg base "_law_every" k ["_law_tags", "_law_most"] sp_law_every) (C_law_event_row : Cal P w K mg base "_law_event_row" k ["_law_box_here", "_law_tags", "_law_most"] sp_law_event_row) (C_law_drawn_base : Cal P w K mg base "_law_drawn_base" k ["_law_box_here", "_law_tags", "_law_many", "_law_most"] sp_law_drawn_base) (C_law_leads_right : Cal P w K mg base "_law_leads_right" k ["_law_words_so", "_law_one_so", "_law_two_so", "_law_row"] sp_law_leads_right) (C_law_sides_right : Cal P w K mg base "_law_sides_right" k ["_law_words_so", "_law_one_so", "_law_two_so", "_law_rows"] sp_law_sides_right) (C_law_pairs_right : Cal P w K mg base "_law_pairs_right" k ["_law_words_so", "_law_one_so", "_law_two_so"] sp_law_pairs_right) (C_law_cuts_right : Cal P w K mg base "_law_cuts_right" k ["_law_words_so"] sp_law_cuts_right) (C_law_by_hand_right : Cal P w K mg base "_law_by_hand_right" k [] sp_law_by_hand_right)
    {sp : Sp} (len : ∀ vs H Q E, sp vs H Q E → vs.length = 1) (pure : ∀ vs H Q E, sp vs H Q E → tr_law_right K nv av spthen sp_law_take sp_law_names sp_law_every sp_law_event_row sp_law_drawn_base sp_law_leads_right sp_law_sides_right sp_law_pairs_right sp_law_cuts_right sp_law_by_hand_right { nx := fun _ H' => Q .non H', rt := Q } (start N_law_right vs) H) : FnOk P w K mg base CX0 (k + 1) f fd ["_law_box_here"] sp := by
  refine F.ok sc_law_right len (fun cdv A outer s H vs Q E hr h => ⟨tr_law_right K nv av spthen sp_law_take sp_law_names sp_law_every sp_law_event_row sp_law_drawn_base sp_law_leads_right sp_law_sides_right sp_law_pairs_right sp_law_cuts_right sp_law_by_hand_right, PSs.nox ?_, pure vs H Q E h⟩)
  have nd := sc_law_right.nd
  exact pss_cons (ps_if (pt_not (pt_val (pe_cal0 C_law_by_hand_right hr (Nat.le_refl _) rfl))) (pss_one (ps_ret (pe_bl))) (pss_nil)) (pss_cons (ps_set (i := 1) nd rfl (by first | exact Or.inl rfl | exact Or.inr rfl) (pe_cal C_law_names hr (Nat.le_refl _) rfl (pa_cons (pv 0) (pa_cons (pe_op op_add (pe_int) (pe_cal C_law_take hr (Nat.le_refl _) rfl (pa_cons (pv 0) (pa_cons (pe_int) (pa_nil))))) (pa_nil))))) (pss_cons (ps_for PassesOwn.never rfl (pi_range1 rfl T.b_range (pa_cons (pe_int) (pa_nil))) (pg_name (i := 2) nd rfl (by first | exact Or.inl rfl | exact Or.inr rfl)) (pss_cons (ps_set (i := 3) nd rfl (by first | exact Or.inl rfl | exact Or.inr rfl) (pe_cal C_law_drawn_base hr (Nat.le_refl _) rfl (pa_cons (pv 0) (pa_cons (pv 1) (pa_cons (pe_int) (pa_cons (pe_int) (pa_nil))))))) (pss_cons (ps_par (i := 4) (j := 5) rfl nd rfl rfl (by decide) rfl rfl (pa_cons (pe_cal C_law_drawn_base hr (Nat.le_refl _) rfl (pa_cons (pv 0) (pa_cons (pv 1) (pa_cons (pe_int) (pa_cons (pe_int) (pa_nil)))))) (pa_cons (pe_cal C_law_drawn_base hr (Nat.le_refl _) rfl (pa_cons (pv 0) (pa_cons (pv 1) (pa_cons (pe_int) (pa_cons (pe_int) (pa_nil)))))) (pa_nil))) rfl) (pss_cons (ps_if (pt_cmpR (op_eqG hr.units) (pe_cal C_law_take hr (Nat.le_refl _) rfl (pa_cons (pv 0) (pa_cons (pe_int) (pa_nil)))) (pe_int) (nomark _)) (pss_one (ps_set (i := 3) nd rfl (by first | exact Or.inl rfl | exact Or.inr rfl) (pe_cal Cthen hr (Nat.le_refl _) rfl (pa_cons (pe_cal C_law_drawn_base hr (Nat.le_refl _) rfl (pa_cons (pv 0) (pa_cons (pv 1) (pa_cons (pe_int) (pa_cons (pe_int) (pa_nil)))))) (pa_cons (pv 5) (pa_nil)))))) (pss_nil)) (pss_cons (ps_if (pt_not (pt_val (pe_cal C_law_sides_right hr (Nat.le_refl _) rfl (pa_cons (pv 3) (pa_cons (pv 4) (pa_cons (pv 5) (pa_cons (pe_cal C_law_every hr (Nat.le_refl _) rfl (pa_cons (pv 1) (pa_cons (pe_int) (pa_nil)))) (pa_nil)))))))) (pss_one (ps_ret (pe_bl))) (pss_nil)) (pss_cons (ps_if (pt_not (pt_val (pe_cal C_law_leads_right hr (Nat.le_refl _) rfl (pa_cons (pv 3) (pa_cons (pv 4) (pa_cons (pv 5) (pa_cons (pe_cal C_law_event_row hr (Nat.le_refl _) rfl (pa_cons (pv 0) (pa_cons (pv 1) (pa_cons (pe_int) (pa_nil))))) (pa_nil)))))))) (pss_one (ps_ret (pe_bl))) (pss_nil)) (pss_one (ps_if (PW.pt (pw_or (pt_not (pt_val (pe_cal C_law_pairs_right hr (Nat.le_refl _) rfl (pa_cons (pv 3) (pa_cons (pv 4) (pa_cons (pv 5) (pa_nil))))))) (pw_or1 (pt_not (pt_val (pe_cal C_law_cuts_right hr (Nat.le_refl _) rfl (pa_cons (pv 3) (pa_nil)))))))) (pss_one (ps_ret (pe_bl))) (pss_nil))))))))) (pss_one (ps_ret (pe_bl)))))
theorem bn_law_right {K : PySem.W.Frag} {f : Addr} {fd : FuncData} (F : FnP K "_law_right" s_law_right f fd) : Binds K fd ["_law_box_here"] [] := F.bindsN fun _ _ _ _ _ _ us hl => match us, hl with | [_], _ => rfl
abbrev Nlaw : List Str := ["_law_script", "_law_cells_here", "_law_k"]
theorem sclaw : FnScope Nlaw ["_law_script"] (defScope slaw) := ⟨rfl, rfl, rfl, by decide +kernel, rfl, by decide +kernel, by decide +kernel⟩
def trlaw (K : PySem.W.Frag) (nv av : Addr) (sp_law_box sp_law_cells sp_law_right : Sp) : TS :=
  tSeq (tAsg (tCall sp_law_cells [] E0 (tCons (tVar 0) (tCons (tC (.int 2)) (tNil)))) (gName 1)) (tRet (tCB (rAll K) (tCons (tLc (iRng1 (tCons (tCB (rLen' K) (tCons (tVar 1) (tNil))) (tNil))) (gName 2) tYes (tCall sp_law_right [] E0 (tCons (tCall sp_law_box [] E0 (tCons (tVar 1) (tCons (tVar 2) (tNil)))) (tNil))) [2]) (tNil))))
theorem oklaw {P : Program} {w : World} {K : PySem.W.Frag} {mg : Str → Option Value} {base : Heap} {nv av ev : Addr} {k : Nat} {f : Addr} {fd : FuncData} {sp_law_box sp_law_cells sp_law_right : Sp} (F : FnP K "law" slaw f fd) (T : Txt K mg nv av ev) (C_law_box : Cal P w K mg base "_law_box" k ["_law_script", "_law_k"] sp_law_box) (C_law_cells : Cal P w K mg base "_law_cells" k ["_law_script", "_law_top_so"] sp_law_cells) (C_law_right : Cal P w K mg base "_law_right" k ["_law_box_here"] sp_law_right)
    {sp : Sp} (len : ∀ vs H Q E, sp vs H Q E → vs.length = 1) (pure : ∀ vs H Q E, sp vs H Q E → trlaw K nv av sp_law_box sp_law_cells sp_law_right { nx := fun _ H' => Q .non H', rt := Q } (start Nlaw vs) H) : FnOk P w K mg base CX0 (k + 1) f fd ["_law_script"] sp := by
  refine F.ok sclaw len (fun cdv A outer s H vs Q E hr h => ⟨trlaw K nv av sp_law_box sp_law_cells sp_law_right, PSs.nox ?_, pure vs H Q E h⟩)
  have nd := sclaw.nd
  exact pss_cons (ps_set (i := 1) nd rfl (by first | exact Or.inl rfl | exact Or.inr rfl) (pe_cal C_law_cells hr (Nat.le_refl _) rfl (pa_cons (pv 0) (pa_cons (pe_int) (pa_nil))))) (pss_one (ps_ret (pe_callB (cr_all rfl) rfl T.b_all (by decide +kernel) (pa_cons (pe_lc (own := [("_law_k", 2)]) (g := gName 2) rfl nd (pi_range1 rfl T.b_range (pa_cons (pe_callB call_len rfl T.b_len (by decide +kernel) (pa_cons (pv 1) (pa_nil))) (pa_nil))) (blkOk_by (own := [("_law_k", 2)]) (N := Nlaw) (sc := defScope slaw) (by decide +kernel)) (fun _ _ _ _ _ => pg_name (i := 2) nd rfl (by first | exact Or.inl rfl | exact Or.inr rfl)) (fun _ _ _ _ _ => pts_nil) (fun _ _ _ _ _ => pe_cal C_law_right hr (Nat.le_refl _) rfl (pa_cons (pe_cal C_law_box hr (Nat.le_refl _) rfl (pa_cons (pv 1) (pa_cons (pv 2) (pa_nil)))) (pa_nil)))) (pa_nil)))))
theorem bnlaw {K : PySem.W.Frag} {f : Addr} {fd : FuncData} (F : FnP K "law" slaw f fd) : Binds K fd ["_law_script"] [] := F.bindsN fun _ _ _ _ _ _ us hl => match us, hl with | [_], _ => rfl
end MoD
set_option maxHeartbeats 4000000
/-! the law's own plain defs -/
namespace MoD
open PySem PySem.Spec PyProof.Rows L2 MoR PySem.W Evl
variable {P : Program} {w : World} {K : PySem.W.Frag} {nv av : Addr}
theorem ep_int1 {σ : L2.St} {H : Hp} {te : TE} {b : Bool} (h : EvP te σ H (isP K b)) : EvP (tCB rInt1 (tCons te tNil)) σ H (isP K (if b = true then 1 else 0 : Nat)) := fun H1 e Q q =>
  h H1 e _ fun v H2 e2 p => .inr ⟨b, by cases p; rfl, by
    cases b with
    | true => exact q _ _ e2 (.int _)
    | false => exact q _ _ e2 (.int _)⟩
/-- a list, old or new -/
abbrev ltP (K : PySem.W.Frag) {α : Type} [Ec α] (xs : List α) : VP := nlP K (fun _ => none) xs
theorem lt_of {H0 : Hp} {α : Type} [Ec α] {xs : List α} {v : V} {H : Hp} (h : nlP K H0 xs v H) : ltP K xs v H := by
  obtain ⟨a, vs, h1, _, h2, h3⟩ := h
  exact ⟨a, vs, h1, rfl, h2, h3⟩
theorem ep_catL {σ : L2.St} {H : Hp} {ta tb : TE} {H0 H0' : Hp} {α : Type} [Ec α] {xs ys : List α} (ha : EvP ta σ H (nlP K H0 xs)) (hb : EvP tb σ H (nlP K H0' ys)) (hz : xs.length + ys.length ≤ 100000) : EvP (tOp rCat ta tb) σ H (nlP K H (xs ++ ys)) :=
  ep_op ha (mono_nl _) hb fun x y H1 e p p2 Q q => by
    obtain ⟨a, us, rfl, _, h1, h2⟩ := p
    obtain ⟨b, vs, rfl, _, h3, h4⟩ := p2
    exact ⟨a, b, us, vs, rfl, rfl, h1, h3, sz_of (by rw [IsAll.len h2, IsAll.len h4]; exact hz), fun r hr => q _ _ (Ex.new hr) ⟨r, us ++ vs, rfl, fresh_back e hr, upd_same, ImAll.ex (Ex.new hr) (IsAll.app h2 h4)⟩⟩
/-! ### lies -/
abbrev sp_law_lies (K : PySem.W.Frag) : Sp := spP (fun i : Wd × Wd => [isP K i.1, isP K i.2]) (fun _ => True) (fun i _ => isP K (Mo.isPart i.1 i.2))
theorem pure_lies (vs : List V) (H : Hp) (Q : VK) (E : XK) (h : sp_law_lies K vs H Q E) : tr_law_lies K nv av { nx := fun _ H' => Q .non H', rt := Q } (L2.start N_law_lies vs) H := by
  obtain ⟨⟨w, l⟩, h, _, q⟩ := h
  obtain ⟨v1, v2, rfl, h1, h2⟩ := all2 h
  replace h1 : Is K H v1 w := h1
  replace h2 : Is K H v2 l := h2
  unfold tr_law_lies
  refine sq (ms_asg (ep_nat (K := K) 0) fun v H1 e1 p1 => ?_)
  cases Is.nat p1
  refine sq (s_for (xs := l) (W := []) (wk_seq (ep_vis rfl (h2.ex e1)).sq) (fun H2 i σ' H' => Ex H2 H' ∧ ∃ x, σ' = [some v1, some v2, some (.int (Mo.begun w (l.take i) : Nat)), x])
    (fun H2 e2 => ⟨Ex.refl _, none, ?_⟩) (fun H2 i σ' H' _ p => .of p.1) (fun H2 i x v σ' H' H'' e2 hx p e3 iv => ?_) fun H2 σ' H' e2 p => ?_)
  · show _ = [some v1, some v2, some (.int (Mo.begun w [] : Nat)), none]
    rw [Mo.begun_nil]; rfl
  · obtain ⟨p1, y, rfl⟩ := p
    have ew : Is K H'' v1 w := h1.ex (((e1.trans e2).trans p1).trans e3)
    have hs : Mo.begun w (l.take (i + 1)) = if w[Mo.begun w (l.take i)]? = some x then Mo.begun w (l.take i) + 1 else Mo.begun w (l.take i) := by
      rw [take_one hx, Mo.begun_snoc]
    generalize Mo.begun w (l.take i) = m at hs ⊢
    refine ms_asg (ep_add (K := K) (m := m) (ep_vis rfl (.int _)) (ep_int1 (b := decide (m < w.length) && decide (w[m]? = some x)) (ep_and (ep_lt (K := K) (ep_vis rfl (.int _)) (ep_len (ep_vis rfl ew).sq)) fun hb => ?_))) fun u H4 e4 iu => ⟨(p1.trans e3).trans e4, some v, ?_⟩
    · have hm : m < w.length := of_decide_eq_true hb
      have hw : w[m]? = some w[m] := List.getElem?_eq_getElem hm
      refine EvP.at (ep_eq (ep_ix (ep_vis rfl ew).sq (ep_vis rfl (.int _)) hw) (ep_vis rfl iv)) ?_
      rw [hw]
      simp
    · have hu := Is.nat iu
      rw [hs, hu]
      by_cases c : w[m]? = some x
      · have hm : m < w.length := (List.getElem?_eq_some_iff.mp c).1
        rw [if_pos c, if_pos (by rw [Bool.and_eq_true]; exact ⟨decide_eq_true hm, decide_eq_true c⟩)]
        rfl
      · rw [if_neg c, if_neg (by rw [Bool.and_eq_true]; exact fun z => c (of_decide_eq_true z.2))]
        rfl
  · obtain ⟨p1, y, rfl⟩ := p
    rw [List.take_length]
    refine ms_ret (P := isP K (Mo.isPart w l)) (EvP.at (ep_eq (x := Mo.begun w l) (y := w.length) (ep_vis rfl (.int _)) (ep_len (ep_vis rfl (h1.ex ((e1.trans e2).trans p1))).sq)) ?_) fun v H3 e3 r => q v H3 (((e1.trans e2).trans p1).trans e3) r
    unfold Mo.isPart
    rw [Bool.eq_iff_iff, beq_iff_eq, decide_eq_true_eq]
theorem call_lies {σ : L2.St} {H : Hp} {ts : TA} {w l : Wd} (h : EvAs ts σ H [isP K w, isP K l]) : EvP (tCall (sp_law_lies K) [] E0 ts) σ H (isP K (Mo.isPart w l)) := ep_sp (w, l) trivial h fun _ _ _ _ r => r
/-! ### sorted, least -/
abbrev sp_law_sorted (K : PySem.W.Frag) : Sp := spP (fun i : Bs => [sqP K i]) (fun i => i.length < 4096) (fun i _ => isP K (Mo.inOrder leW i))
theorem pure_lsorted (vs : List V) (H : Hp) (Q : VK) (E : XK) (h : sp_law_sorted K vs H Q E) : tr_law_sorted K nv av { nx := fun _ H' => Q .non H', rt := Q } (L2.start N_law_sorted vs) H := by
  obtain ⟨ws, h, hl, q⟩ := h
  obtain ⟨v1, rfl, h1⟩ := all1 h
  have hcl : (Mo.canon (leE (Nat × Wd)) (ws.map fun w => (w.length, w))).length ≤ 50000 := by
    have h1 := Mo.canon_len (ordE (Nat × Wd)) (ws.map fun w => (w.length, w))
    rw [List.length_map] at h1
    omega
  refine ms_ret (ep_tuple (EvP.sqn (EvP.atL (el_lc2n (fun _ => true) (fun p : Nat × Wd => p.2) (wk_seq (ex_canon (el_map (fun w : Wd => (w.length, w)) (wk_seq (ep_var rfl (mono_sq ws) h1)) (by omega) (fun _ => rfl) fun x hx v H1 e1 iv => ep_pair (ep_len (ep_vis rfl iv).sq) (ep_vis rfl iv)).sqn (fun x => ⟨_, rfl⟩) (by decide) (by rw [List.length_map]; exact hl) fun ys _ _ => ok_pairs ys).sqn) hcl (fun _ _ => rfl)
    (fun _ _ _ _ _ _ _ _ => et_yes) fun p hp u w H1 e1 iu iw _ => ep_vis rfl iw) ?_))) fun v H3 e3 r => q v H3 e3 r
  rw [List.filter_eq_self.mpr (fun _ _ => rfl)]
  exact canon_words ws
theorem call_lsorted {σ : L2.St} {H : Hp} {ts : TA} {ws : Bs} (hl : ws.length < 4096) (h : EvAs ts σ H [sqP K ws]) : EvP (tCall (sp_law_sorted K) [] E0 ts) σ H (isP K (Mo.inOrder leW ws)) := ep_sp ws hl h fun _ _ _ _ r => r
abbrev sp_law_least (K : PySem.W.Frag) : Sp := spP (fun i : Bs => [sqP K i]) (fun i => i.length < 4096) (fun i _ => isP K (Mo.leastOf leW i))
theorem pure_least (vs : List V) (H : Hp) (Q : VK) (E : XK) (h : sp_law_least K vs H Q E) : tr_law_least K nv av (sp_law_lies K) (sp_law_sorted K) { nx := fun _ H' => Q .non H', rt := Q } (L2.start N_law_least vs) H := by
  obtain ⟨ws, h, hl, q⟩ := h
  obtain ⟨v1, rfl, h1⟩ := all1 h
  have hcl : (Mo.inOrder leW ws).length ≤ 50000 := by
    have := Mo.canon_len ordW.toTOrd ws
    exact Nat.le_trans this (by have : ws.length < 4096 := hl; omega)
  unfold tr_law_least
  refine sq (ms_asg (call_lsorted hl (ea_cons' (ep_var rfl (mono_sq ws) h1) (mono_sq _) ea_nil')) fun v H1 e1 i1 => ?_)
  refine ms_ret (ep_tuple (EvP.sqn (EvP.atL (el_lcN (fun w : Wd => ((Mo.inOrder leW ws).filter fun u => decide (u ≠ w) && Mo.isPart u w).isEmpty) (fun w => w) (wk_seq (ep_vis rfl i1).sq) hcl (fun _ => rfl) (fun x hx u H2 e2 iu => ?_) fun x hx u H2 e2 iu _ => ep_vis rfl iu) ?_))) fun v H3 e3 r => q v H3 (e1.trans e3) r
  · refine EvT.at (et_T (ep_eqL (ys := ([] : Bs)) (EvP.atL (el_lcN (fun u : Wd => decide (u ≠ x) && Mo.isPart u x) (fun u => u) (wk_seq (ep_vis rfl (i1.ex e2)).sq) hcl (fun _ => rfl) (fun y hy r H3 e3 ir => et_and (EvT.at (et_T (ep_ne (ep_vis rfl ir) (ep_vis rfl (iu.ex e3)))) (by simp)) fun _ => et_V (call_lies (ea_cons' (ep_vis rfl ir) (mono_is _) (ea_cons' (ep_vis rfl (iu.ex e3)) (mono_is _) ea_nil')))) fun y hy r H3 e3 ir _ => ep_vis rfl ir) (List.map_id' _)) ep_lst0)) ?_
    rw [Bool.eq_iff_iff, decide_eq_true_eq, List.isEmpty_iff]
  · rw [List.map_id']
    exact (Mo.leastOf_filter ordW ws).symm
theorem call_least {σ : L2.St} {H : Hp} {ts : TA} {ws : Bs} (hl : ws.length < 4096) (h : EvAs ts σ H [sqP K ws]) : EvP (tCall (sp_law_least K) [] E0 ts) σ H (isP K (Mo.leastOf leW ws)) := ep_sp ws hl h fun _ _ _ _ r => r
/-! ### done, joined, behind, inside -/
abbrev sp_law_done (K : PySem.W.Frag) : Sp := spP (fun i : Bs × Wd => [isP K i.1, isP K i.2]) (fun i => i.1.length < 40000) (fun i _ => isP K (Mo.does i.1 i.2))
theorem pure_done (vs : List V) (H : Hp) (Q : VK) (E : XK) (h : sp_law_done K vs H Q E) : tr_law_done K nv av (sp_law_lies K) { nx := fun _ H' => Q .non H', rt := Q } (L2.start N_law_done vs) H := by
  obtain ⟨⟨b, l⟩, h, hl, q⟩ := h
  obtain ⟨v1, v2, rfl, h1, h2⟩ := all2 h
  replace h1 : Is K H v1 b := h1
  replace h2 : Is K H v2 l := h2
  replace hl : b.length < 40000 := hl
  refine ms_ret (P := isP K (Mo.does b l)) (EvP.at (ep_neL (ys := ([] : Bs)) (EvP.atL (el_lcN (fun u : Wd => Mo.isPart u l) (fun u => u) (wk_seq (ep_vis rfl h1).sq) (by omega) (fun _ => rfl) (fun y hy r H3 e3 ir => et_V (call_lies (ea_cons' (ep_vis rfl ir) (mono_is _) (ea_cons' (ep_vis rfl (h2.ex e3)) (mono_is _) ea_nil')))) fun y hy r H3 e3 ir _ => ep_vis rfl ir) (List.map_id' _)) ep_lst0) ?_) fun v H3 e3 r => q v H3 e3 r
  unfold Mo.does
  rw [Bool.eq_iff_iff, Bool.not_eq_true', decide_eq_false_iff_not, List.any_eq_true]
  constructor
  · intro h
    cases z : b.filter fun u => Mo.isPart u l with
    | nil => exact absurd z h
    | cons u r =>
      have : u ∈ b.filter fun u => Mo.isPart u l := by rw [z]; exact List.mem_cons_self
      exact ⟨u, List.mem_filter.mp this⟩
  · rintro ⟨u, hu, hp⟩ z
    have : u ∈ b.filter fun u => Mo.isPart u l := List.mem_filter.mpr ⟨hu, hp⟩
    rw [z] at this
    cases this
theorem call_done {σ : L2.St} {H : Hp} {ts : TA} {b : Bs} {l : Wd} (hb : b.length < 40000) (h : EvAs ts σ H [isP K b, isP K l]) : EvP (tCall (sp_law_done K) [] E0 ts) σ H (isP K (Mo.does b l)) := ep_sp (b, l) hb h fun _ _ _ _ r => r
abbrev sp_law_joined (K : PySem.W.Frag) : Sp := spP (fun i : Bs × Bs => [isP K i.1, isP K i.2]) (fun i => Sm 4096 i.1 ∧ Sm 4096 i.2 ∧ i.1.length * i.2.length < 4096) (fun i _ => isP K (Mo.joined leW i.1 i.2))
theorem pure_joined (vs : List V) (H : Hp) (Q : VK) (E : XK) (h : sp_law_joined K vs H Q E) : tr_law_joined K nv av (sp_law_least K) { nx := fun _ H' => Q .non H', rt := Q } (L2.start N_law_joined vs) H := by
  obtain ⟨⟨a, b⟩, h, ⟨ha, hb, hab⟩, q⟩ := h
  obtain ⟨v1, v2, rfl, h1, h2⟩ := all2 h
  replace h1 : Is K H v1 a := h1
  replace h2 : Is K H v2 b := h2
  replace ha : Sm 4096 a := ha
  replace hb : Sm 4096 b := hb
  replace hab : a.length * b.length < 4096 := hab
  have hlen : ∀ l : Bs, (l.flatMap fun w => b.map fun m => w ++ m).length = l.length * b.length := fun l => by
    rw [List.length_flatMap, ← sum_const l b.length]
    congr 1
    exact List.map_congr_left fun x _ => by rw [List.length_map]
  unfold tr_law_joined
  refine sq (ms_asg (ep_lst0 (K := K) (α := Wd)) fun v H1 e1 p1 => ?_)
  refine sq (s_for (W := []) (xs := a) (wk_is (ep_vis rfl (h1.ex e1))) (fun H2 i σ' H' => Ex H2 H' ∧ ∃ u x, ltP K ((a.take i).flatMap fun w => b.map fun m => w ++ m) u H' ∧ σ' = [some v1, some v2, some u, x, none])
    (fun H2 e2 => ⟨Ex.refl _, v, none, lt_of (mono_nl _ _ _ _ e2 p1), rfl⟩) (fun H2 i σ' H' _ p => .of p.1) (fun H2 i x v3 σ' H' H'' e2 hx p e3 iv => ?_) fun H2 σ' H' e2 p => ?_)
  · obtain ⟨p1, u, y, p2, rfl⟩ := p
    have et := ((e1.trans e2).trans p1).trans e3
    have hi : i + 1 ≤ a.length := (List.getElem?_eq_some_iff.mp hx).1
    have hxa := List.mem_of_getElem? hx
    refine ms_asg (ep_catL (ep_var rfl (mono_nl _) (mono_nl _ _ _ _ e3 p2)) (el_map (fun m : Wd => x ++ m) (wk_is (ep_vis rfl (h2.ex et))) (by have := hb.1; omega) (fun _ => rfl) fun m hm v5 H5 e5 i5 => ep_cat (ep_vis rfl (iv.ex e5)) (ep_vis rfl i5) (by have := ha.2 x hxa; have := hb.2 m hm; omega)) ?_) fun v6 H6 e6 p6 => ⟨(p1.trans e3).trans e6, v6, some v3, ?_, rfl⟩
    · rw [hlen, List.length_map, List.length_take]
      have h3 : (min i a.length + 1) * b.length ≤ a.length * b.length := Nat.mul_le_mul_right _ (by omega)
      rw [Nat.succ_mul] at h3
      omega
    · rw [take_one hx, List.flatMap_append, List.flatMap_cons, List.flatMap_nil, List.append_nil]
      exact lt_of p6
  · obtain ⟨p1, u, y, p2, rfl⟩ := p
    rw [List.take_length] at p2
    exact ms_ret (call_least (ws := a.flatMap fun w => b.map fun m => w ++ m) (by rw [hlen]; exact hab) (ea_cons' (ep_var (P := sqP K _) rfl (mono_sq _) (sq_of_nl p2)) (mono_sq _) ea_nil')) fun v H3 e3 r => q v H3 (((e1.trans e2).trans p1).trans e3) r
theorem call_joined {σ : L2.St} {H : Hp} {ts : TA} {a b : Bs} (ha : Sm 4096 a) (hb : Sm 4096 b) (hab : a.length * b.length < 4096) (h : EvAs ts σ H [isP K a, isP K b]) : EvP (tCall (sp_law_joined K) [] E0 ts) σ H (isP K (Mo.joined leW a b)) := ep_sp (a, b) ⟨ha, hb, hab⟩ h fun _ _ _ _ r => r
abbrev sp_law_behind (K : PySem.W.Frag) : Sp := spP (fun i : Bs => [isP K i]) (fun i => i.length < 4096) (fun i _ => isP K (Mo.rev leW i))
theorem pure_lbehind (vs : List V) (H : Hp) (Q : VK) (E : XK) (h : sp_law_behind K vs H Q E) : tr_law_behind K nv av (sp_law_least K) { nx := fun _ H' => Q .non H', rt := Q } (L2.start N_law_behind vs) H := by
  obtain ⟨b, h, hl, q⟩ := h
  obtain ⟨v1, rfl, h1⟩ := all1 h
  exact ms_ret (call_least (ws := b.map List.reverse) (by rw [List.length_map]; exact hl) (ea_cons' (el_map (fun u : Wd => u.reverse) (wk_seq (ep_vis (x := b) rfl h1).sq) (by have : b.length < 4096 := hl; omega) (fun _ => rfl) fun x hx v H1 e1 iv => ep_rev (ep_vis rfl iv)).sqn (mono_sq _) ea_nil')) fun v H3 e3 r => q v H3 e3 r
theorem call_lbehind {σ : L2.St} {H : Hp} {ts : TA} {b : Bs} (hb : b.length < 4096) (h : EvAs ts σ H [isP K b]) : EvP (tCall (sp_law_behind K) [] E0 ts) σ H (isP K (Mo.rev leW b)) := ep_sp b hb h fun _ _ _ _ r => r
abbrev sp_law_inside (K : PySem.W.Frag) : Sp := spP (fun i : Bs × Bs => [isP K i.1, isP K i.2]) (fun i => i.1.length < 40000 ∧ i.2.length < 40000) (fun i _ => isP K (Mo.isInside i.1 i.2))
theorem pure_linside (vs : List V) (H : Hp) (Q : VK) (E : XK) (h : sp_law_inside K vs H Q E) : tr_law_inside K nv av (sp_law_done K) { nx := fun _ H' => Q .non H', rt := Q } (L2.start N_law_inside vs) H := by
  obtain ⟨⟨a, b⟩, h, ⟨ha, hb⟩, q⟩ := h
  obtain ⟨v1, v2, rfl, h1, h2⟩ := all2 h
  replace h1 : Is K H v1 a := h1
  replace h2 : Is K H v2 b := h2
  refine ms_ret (ep_all (el_map (fun u : Wd => Mo.does b u) (wk_seq (ep_vis rfl h1).sq) (by have : a.length < 40000 := ha; omega) (fun _ => rfl) fun z hz w H1 e4 iw => ?_)) fun v H3 e3 r => q v H3 e3 (by rw [all_map] at r; exact r)
  exact call_done hb (ea_cons' (ep_vis rfl (h2.ex e4)) (mono_is _) (ea_cons' (ep_vis rfl iw) (mono_is _) ea_nil'))
theorem call_linside {σ : L2.St} {H : Hp} {ts : TA} {a b : Bs} (ha : a.length < 40000) (hb : b.length < 40000) (h : EvAs ts σ H [isP K a, isP K b]) : EvP (tCall (sp_law_inside K) [] E0 ts) σ H (isP K (Mo.isInside a b)) := ep_sp (a, b) ⟨ha, hb⟩ h fun _ _ _ _ r => r
end MoD
set_option maxHeartbeats 4000000
/-! leads_right, sides_right: they hold -/
namespace MoD
open PySem PySem.Spec PyProof.Rows L2 MoR PySem.W Evl
variable {P : Program} {w : World} {K : PySem.W.Frag} {nv av : Addr}
theorem ep_lst2 {σ : L2.St} {H : Hp} {ta tb : TE} {α : Type} [Ec α] {x y : α} (ha : EvP ta σ H (isP K x)) (hb : EvP tb σ H (isP K y)) : EvP (tLst (tCons ta (tCons tb tNil))) σ H (nlP K H [x, y]) := fun H1 e Q q =>
  ha H1 e _ fun u H2 e2 p => hb H2 (e.trans e2) _ fun v H3 e3 p2 => ⟨by show 2 ≤ sizeLine; decide, fun r hr => q _ _ ((e2.trans e3).trans (Ex.new hr)) ⟨r, [u, v], rfl, fresh_back ((e.trans e2).trans e3) hr, upd_same, .cons (Im.ex (e3.trans (Ex.new hr)) p) (.cons (Im.ex (Ex.new hr) p2) .nil)⟩⟩
/-- what the law asks about: a base, two small ones beside it -/
structure Trio (W one two : Bs) : Prop where
  nice : Mo.Nice leW W
  deep : Mo.Deep (Mo.hardest leB (one.map fun a => Mo.standing leW W a)) two
  n1 : one.length ≤ 2
  n2 : two.length ≤ 2
  w1 : ∀ u ∈ one, u.length ≤ 8
  w2 : ∀ u ∈ two, u.length ≤ 8
theorem Trio.ok1 {W one two : Bs} (h : Trio W one two) : Ok one := ⟨by have := h.n1; omega, fun u hu => by have := h.w1 u hu; omega⟩
theorem Trio.ok2 {W one two : Bs} (h : Trio W one two) : Ok two := ⟨by have := h.n2; omega, fun u hu => by have := h.w2 u hu; omega⟩
theorem Trio.okW {W one two : Bs} (h : Trio W one two) : Ok W := ⟨by have := h.nice.one.few; omega, fun u hu => by have := h.nice.one.short u hu; omega⟩
theorem Trio.mid {W one two : Bs} (h : Trio W one two) : (Mo.amid leW leB W one two).length ≤ 121 ∧ ∀ u ∈ Mo.amid leW leB W one two, u.length ≤ 4 :=
  Mo.deep_into ordW oB (fun s hs => by
    obtain ⟨a, _, rfl⟩ := List.mem_map.mp (Mo.hardest_sub hs)
    exact Mo.cb_standing ordW W a) h.deep
theorem joined_len (A B : Bs) : (Mo.joined leW A B).length ≤ A.length * B.length ∧ ∀ u ∈ Mo.joined leW A B, ∃ a ∈ A, ∃ b ∈ B, u = a ++ b := by
  refine ⟨?_, fun u hu => ?_⟩
  · refine Nat.le_trans (Mo.nodup_le (Mo.cb_leastOf ordW _).rise.nodup fun y hy => Mo.leastOf_sub ordW hy) ?_
    rw [List.length_flatMap, ← sum_const A B.length]
    exact Nat.le_of_eq (by congr 1; exact List.map_congr_left fun x _ => by rw [List.length_map])
  · obtain ⟨a, ha, hm⟩ := List.mem_flatMap.mp (Mo.leastOf_sub ordW hu)
    obtain ⟨b, hb, rfl⟩ := List.mem_map.mp hm
    exact ⟨a, ha, b, hb, rfl⟩
abbrev Q4 := Bs × Bs × Bs × Wd
abbrev sp_law_leads_right (K : PySem.W.Frag) : Sp := spP (fun i : Q4 => [isP K i.1, isP K i.2.1, isP K i.2.2.1, isP K i.2.2.2]) (fun i => Trio i.1 i.2.1 i.2.2.1 ∧ i.2.2.2.length ≤ 100) (fun _ _ => isP K true)
theorem all4 {P1 P2 P3 P4 : VP} {vs : List V} {H : Hp} (h : MoR.AllP [P1, P2, P3, P4] vs H) : ∃ v w x y, vs = [v, w, x, y] ∧ P1 v H ∧ P2 w H ∧ P3 x H ∧ P4 y H := by
  cases h with
  | cons a b =>
    obtain ⟨w, x, y, rfl, c, d, e⟩ := all3 b
    exact ⟨_, w, x, y, rfl, a, c, d, e⟩
theorem pure_leads_right (vs : List V) (H : Hp) (Q : VK) (E : XK) (h : sp_law_leads_right K vs H Q E) :
    tr_law_leads_right K nv av (spthen K) (spis_inside K) (spstanding K) (spamid K) (splead K) (sprest_of K) (sp_law_joined K) (sp_law_behind K) (sp_law_inside K) { nx := fun _ H' => Q .non H', rt := Q } (L2.start N_law_leads_right vs) H := by
  obtain ⟨⟨W, A, B, row⟩, h, ⟨hT, hrow⟩, q⟩ := h
  obtain ⟨v1, v2, v3, v4, rfl, i1, i2, i3, i4⟩ := all4 h
  replace i1 : Is K H v1 W := i1
  replace i2 : Is K H v2 A := i2
  replace i3 : Is K H v3 B := i3
  replace i4 : Is K H v4 row := i4
  replace hT : Trio W A B := hT
  replace hrow : row.length ≤ 100 := hrow
  have l1 := Mo.nice_lead ordW oB (E := B) hT.nice
  have l2 := Mo.nice_rest ordW oB (A := A) hT.nice
  have l3 := hT.mid
  have n1 := hT.n1
  have n2 := hT.n2
  have nW := hT.nice.one.few
  have nR := hT.nice.two.few
  have okL : Ok (Mo.lead leW leB W B) := ⟨by omega, fun u hu => by have := l1.2 u hu; omega⟩
  have okR : Ok (Mo.restOf leW leB W A) := ⟨by omega, fun u hu => by have := l2.2 u hu; omega⟩
  have okM : Ok (Mo.amid leW leB W A B) := ⟨by omega, fun u hu => by have := l3.2 u hu; omega⟩
  have mul : ∀ {m n k l : Nat}, m ≤ k → n ≤ l → m * n ≤ k * l := fun a b => Nat.mul_le_mul a b
  have s12 : A.length * B.length ≤ 2 * 2 := mul n1 n2
  have sL : (Mo.lead leW leB W B).length * B.length ≤ 40 * 2 := mul l1.1 n2
  have sR : A.length * (Mo.restOf leW leB W A).length ≤ 2 * 40 := mul n1 l2.1
  have sM : (Mo.amid leW leB W A B).length * B.length ≤ 121 * 2 := mul l3.1 n2
  have jM := joined_len (Mo.amid leW leB W A B) B
  have okJ : Ok (Mo.joined leW (Mo.amid leW leB W A B) B) := ⟨by have := jM.1; omega, fun u hu => by
    obtain ⟨a, ha, b, hb, rfl⟩ := jM.2 u hu
    have := l3.2 a ha
    have := hT.w2 b hb
    rw [List.length_append]; omega⟩
  have sJ : A.length * (Mo.joined leW (Mo.amid leW leB W A B) B).length ≤ 2 * (121 * 2) := mul n1 (Nat.le_trans jM.1 sM)
  have jl : ∀ X Y : Bs, X.length * Y.length < 4096 → (Mo.joined leW X Y).length < 40000 := fun X Y hXY => by have := (joined_len X Y).1; omega
  have thl : (Mo.thenB leW A B).length < 40000 := by
    have := Mo.canon_len ordW.toTOrd (A.flatMap fun w => B.map fun m => w ++ m)
    have h2 : (A.flatMap fun w => B.map fun m => w ++ m).length = A.length * B.length := by
      rw [List.length_flatMap, ← sum_const A B.length]
      congr 1
      exact List.map_congr_left fun x _ => by rw [List.length_map]
    have h3 : (Mo.thenB leW A B).length ≤ A.length * B.length := Nat.le_trans this (Nat.le_of_eq h2)
    omega
  unfold tr_law_leads_right
  refine sq (ms_par (call_lead hT.nice hT.ok2 (ea_cons' (ep_vis rfl i1) (mono_is _) (ea_cons' (ep_vis rfl i3).sq (mono_sq _) ea_nil'))) (mono_is _) (call_rest_of hT.nice hT.ok1 (ea_cons' (ep_vis rfl i1) (mono_is _) (ea_cons' (ep_vis rfl i2).sq (mono_sq _) ea_nil'))) fun v5 v6 H1 e1 i5 i6 => ?_)
  refine sq (ms_asg (call_is_inside thl (by have := hT.okW.1; omega) (ea_cons' (call_then hT.ok1 hT.ok2 (by omega) (ea_cons' (ep_vis rfl (i2.ex e1)).sq (mono_sq _) (ea_cons' (ep_vis rfl (i3.ex e1)).sq (mono_sq _) ea_nil'))) (mono_is _) (ea_cons' (ep_vis rfl (i1.ex e1)) (mono_is _) ea_nil'))) fun v7 H2 e2 i7 => ?_)
  have e12 := e1.trans e2
  refine sq (ms_if (b := false) (et_or (a := false) (b := false) (EvT.at (et_T (ep_ne (ep_vis rfl i7) (call_linside (by omega) (by have := okL.1; omega) (ea_cons' (ep_vis rfl (i2.ex e12)) (mono_is _) (ea_cons' (ep_vis rfl (i5.ex e2)) (mono_is _) ea_nil'))))) ?_) fun _ => EvT.at (et_T (ep_ne (ep_vis rfl i7) (call_linside (by omega) (by have := okR.1; omega) (ea_cons' (ep_vis rfl (i3.ex e12)) (mono_is _) (ea_cons' (ep_vis rfl (i6.ex e2)) (mono_is _) ea_nil'))))) ?_) (fun hb => nomatch hb) fun _ H3 e3 => ?_)
  · rw [Mo.fits_lead (leB := leB) ordW oB]; simp
  · rw [Mo.fits_rest (leB := leB) ordW oB]; simp
  try unfold tNext
  dsimp only
  have e13 := e12.trans e3
  refine sq (ms_asg (call_amid hT.nice.one hT.deep hT.ok1 hT.ok2 (ea_cons' (ep_vis rfl (i1.ex e13)) (mono_is _) (ea_cons' (ep_vis rfl (i2.ex e13)).sq (mono_sq _) (ea_cons' (ep_vis rfl (i3.ex e13)).sq (mono_sq _) ea_nil')))) fun v8 H4 e4 i8 => ?_)
  have e14 := e13.trans e4
  have e24 := (e2.trans e3).trans e4
  refine sq (ms_asg (ep_lst2 (call_joined okL hT.ok2 (by omega) (ea_cons' (ep_vis rfl (i5.ex e24)) (mono_is _) (ea_cons' (ep_vis rfl (i3.ex e14)) (mono_is _) ea_nil'))) (call_joined hT.ok1 okR (by omega) (ea_cons' (ep_vis rfl (i2.ex e14)) (mono_is _) (ea_cons' (ep_vis rfl (i6.ex e24)) (mono_is _) ea_nil')))) fun v9 H5 e5 p9 => ?_)
  obtain ⟨l, us, rfl, hl0, hl1, hl2⟩ := p9
  have e15 := e14.trans e5
  have hlH : H l = none := fresh_back e14 hl0
  refine sq (ms_app rfl hl1 (call_joined hT.ok1 okJ (by omega) (ea_cons' (ep_vis rfl (i2.ex e15)) (mono_is _) (ea_cons' (call_joined okM hT.ok2 (by omega) (ea_cons' (ep_vis rfl (i8.ex e5)) (mono_is _) (ea_cons' (ep_vis rfl (i3.ex e15)) (mono_is _) ea_nil'))) (mono_is _) ea_nil'))) (by have := IsAll.len hl2; simp at this; omega) fun v10 H6 e6 i10 => ?_)
  have hl6 := e6 _ _ hl1
  have hs7 : IsAll K (upd H6 l (.lst (us ++ [v10]))) (us ++ [v10]) [Mo.joined leW (Mo.lead leW leB W B) B, Mo.joined leW A (Mo.restOf leW leB W A), Mo.joined leW A (Mo.joined leW (Mo.amid leW leB W A B) B)] := IsAll.snoc (ImAll.tk (.lst hl6) (ImAll.ex e6 hl2)) (Im.tk (.lst hl6) i10)
  have tk7 : Tk K H5 (upd H6 l (.lst (us ++ [v10]))) := (Tk.ex e6).trans (.lst hl6)
  have e17 : Ex H (upd H6 l (.lst (us ++ [v10]))) := Ex.mut (e15.trans e6) hlH
  have i57 := Im.tk tk7 (i5.ex (e24.trans e5))
  have i67 := Im.tk tk7 (i6.ex (e24.trans e5))
  have hl7 : (upd H6 l (.lst (us ++ [v10]))) l = some (.lst (us ++ [v10])) := upd_same
  generalize upd H6 l (.lst (us ++ [v10])) = H7 at hs7 e17 i57 i67 hl7
  refine sq (ms_if (b := false) (et_or (a := false) (b := false) (et_not (a := true) (EvT.at (et_V (ep_all (el_map (fun u : Bs => Mo.isInside u W) (wk_seq (ep_var (P := sqP K _) rfl (mono_sq _) ⟨l, _, rfl, .inl hl7, hs7⟩)) (by show 3 ≤ 50000; decide) (fun _ => rfl) fun x hx u H8 e8 iu => call_linside ?_ (by have := hT.okW.1; omega) (ea_cons' (ep_vis rfl iu) (mono_is _) (ea_cons' (ep_vis rfl (i1.ex (e17.trans e8))) (mono_is _) ea_nil'))))) ?_)) fun _ => et_not (a := true) (EvT.at (et_V (call_linside (by have := hT.okW.1; omega) (by have := okL.1; omega) (ea_cons' (ep_vis rfl (i1.ex e17)) (mono_is _) (ea_cons' (ep_vis rfl i57) (mono_is _) ea_nil')))) (Mo.inside_lead ordW oB W B))) (fun hb => nomatch hb) fun _ H8 e8 => ?_)
  · simp only [List.mem_cons, List.not_mem_nil, or_false] at hx
    rcases hx with rfl | rfl | rfl
    · exact jl _ _ (by omega)
    · exact jl _ _ (by omega)
    · exact jl _ _ (by omega)
  · simp [Mo.joined_lead ordW oB W B, Mo.joined_rest ordW oB W A, Mo.joined_amid ordW oB W A B]
  try unfold tNext
  dsimp only
  have e18 := e17.trans e8
  refine sq (ms_asg (call_lbehind (Nat.lt_of_le_of_lt (Mo.standing_len ordW _ _) (by omega)) (ea_cons' (call_standing ⟨by omega, fun u hu => by have := hT.nice.two.short u hu; omega⟩ (ea_cons' (call_lbehind hT.okW.1 (ea_cons' (ep_vis rfl (i1.ex e18)) (mono_is _) ea_nil')) (mono_is _) (ea_cons' (ep_vis rfl (i4.ex e18)) (mono_is _) ea_nil'))) (mono_is _) ea_nil')) fun v11 H9 e9 i11 => ?_)
  have e19 := e18.trans e9
  refine sq (ms_if (b := false) (et_or (a := false) (b := false) (EvT.at (et_T (ep_ne (call_rest_of hT.nice (A := [row]) ⟨(show 1 < 4096 by decide), fun u hu => by rw [List.mem_singleton.mp hu]; omega⟩ (ea_cons' (ep_vis rfl (i1.ex e19)) (mono_is _) (ea_cons' (ep_tup1 (ep_vis rfl (i4.ex e19))).sq (mono_sq _) ea_nil'))) (call_standing hT.okW (ea_cons' (ep_vis rfl (i1.ex e19)) (mono_is _) (ea_cons' (ep_vis rfl (i4.ex e19)) (mono_is _) ea_nil'))))) ?_) fun _ => EvT.at (et_T (ep_ne (call_lead hT.nice (E := [row.reverse]) ⟨(show 1 < 4096 by decide), fun u hu => by rw [List.mem_singleton.mp hu, List.length_reverse]; omega⟩ (ea_cons' (ep_vis rfl (i1.ex e19)) (mono_is _) (ea_cons' (ep_tup1 (ep_rev (ep_vis rfl (i4.ex e19)))).sq (mono_sq _) ea_nil'))) (ep_vis rfl i11))) ?_) (fun hb => nomatch hb) fun _ H10 e10 => ?_)
  · rw [Mo.rest_row ordW oB]; simp
  · rw [Mo.lead_row ordW oB]; simp
  try unfold tNext
  dsimp only
  have e110 := e19.trans e10
  have revS : ∀ X : Bs, X.length < 4096 → (∀ u ∈ X, u.length < 20000) → Ok (Mo.rev leW X) := fun X h1 h2 => ⟨Nat.lt_of_le_of_lt (Mo.rev_len ordW) h1, fun u hu => by
    have := h2 _ (Mo.rev_words ordW hu)
    rwa [List.length_reverse] at this⟩
  refine ms_ret (P := isP K true) (EvP.at (ep_eq (call_lbehind okR.1 (ea_cons' (ep_vis rfl (i67.ex ((e8.trans e9).trans e10))) (mono_is _) ea_nil')) (call_lead (Mo.Nice.rev ordW hT.nice) (revS A hT.ok1.1 hT.ok1.2) (ea_cons' (call_lbehind hT.okW.1 (ea_cons' (ep_vis rfl (i1.ex e110)) (mono_is _) ea_nil')) (mono_is _) (ea_cons' (call_lbehind hT.ok1.1 (ea_cons' (ep_vis rfl (i2.ex e110)) (mono_is _) ea_nil')).sq (mono_sq _) ea_nil')))) ?_) fun v H11 e11 r => q v H11 (e110.trans e11) r
  exact decide_eq_true (Mo.rev_rest ordW oB W A)
theorem call_leads_right {σ : L2.St} {H : Hp} {ts : TA} {W A B : Bs} {row : Wd} (hT : Trio W A B) (hr : row.length ≤ 100) (h : EvAs ts σ H [isP K W, isP K A, isP K B, isP K row]) : EvP (tCall (sp_law_leads_right K) [] E0 ts) σ H (isP K true) := ep_sp (W, A, B, row) ⟨hT, hr⟩ h fun _ _ _ _ r => r
end MoD
set_option maxHeartbeats 4000000
/-! sides_right, pairs_right: they hold -/
namespace MoD
open PySem PySem.Spec PyProof.Rows L2 MoR PySem.W Evl
variable {P : Program} {w : World} {K : PySem.W.Frag} {nv av : Addr}
theorem call_either {σ : L2.St} {H : Hp} {ts : TA} {a b : Bs} (hab : Sm 4096 (a ++ b)) (h : EvAs ts σ H [sqP K a, sqP K b]) : EvP (tCall (speither K) [] E0 ts) σ H (isP K (Mo.either leW a b)) := ep_sp (a, b) hab h fun _ _ _ _ r => r
theorem ms_par3 {σ : L2.St} {H : Hp} {D : Ends} {R1 R2 R3 : VP} {i j l : Nat} {ta tb tc : TE} (h1 : EvP ta σ H R1) (m1 : MonoP R1) (h2 : EvP tb σ H R2) (m2 : MonoP R2) (h3 : EvP tc σ H R3) (k : ∀ u v x H1, Ex H H1 → R1 u H1 → R2 v H1 → R3 x H1 → D.nx (((σ.set i (some u)).set j (some v)).set l (some x)) H1) :
    tPar3 i j l (tCons ta (tCons tb (tCons tc tNil))) D σ H := h1 H (Ex.refl H) _ fun u H1 e1 p1 => h2 H1 e1 _ fun v H2 e2 p2 => h3 H2 (e1.trans e2) _ fun x H3 e3 p3 => ⟨u, v, x, rfl, k u v x H3 ((e1.trans e2).trans e3) (m1 _ _ _ (e2.trans e3) p1) (m2 _ _ _ e3 p2) p3⟩
abbrev sp_law_sides_right (K : PySem.W.Frag) : Sp := spP (fun i : Bs × Bs × Bs × Bs => [isP K i.1, isP K i.2.1, isP K i.2.2.1, sqP K i.2.2.2]) (fun i => Trio i.1 i.2.1 i.2.2.1 ∧ i.2.2.2.length ≤ 1000 ∧ ∀ u ∈ i.2.2.2, u.length ≤ 100) (fun _ _ => isP K true)
theorem pure_sides_right (vs : List V) (H : Hp) (Q : VK) (E : XK) (h : sp_law_sides_right K vs H Q E) :
    tr_law_sides_right K nv av (speither K) (spamid K) (splead K) (sp_law_done K) { nx := fun _ H' => Q .non H', rt := Q } (L2.start N_law_sides_right vs) H := by
  obtain ⟨⟨W, A, B, rows⟩, h, ⟨hT, hr, hrw⟩, q⟩ := h
  obtain ⟨v1, v2, v3, v4, rfl, i1, i2, i3, i4⟩ := all4 h
  replace i1 : Is K H v1 W := i1
  replace i2 : Is K H v2 A := i2
  replace i3 : Is K H v3 B := i3
  replace i4 : sqP K rows v4 H := i4
  replace hT : Trio W A B := hT
  replace hr : rows.length ≤ 1000 := hr
  replace hrw : ∀ u ∈ rows, u.length ≤ 100 := hrw
  have n1 := hT.n1
  have n2 := hT.n2
  have nW := hT.nice.one.few
  have hAB : Ok (A ++ B) := ⟨by rw [List.length_append]; omega, fun u hu => by
    rcases List.mem_append.mp hu with h | h
    · have := hT.w1 u h; omega
    · have := hT.w2 u h; omega⟩
  have hE : Ok (Mo.either leW A B) := ⟨Nat.lt_of_le_of_lt (Mo.nodup_le (Mo.cb_leastOf ordW _).rise.nodup fun y hy => Mo.leastOf_sub ordW hy) hAB.1, fun u hu => hAB.2 u (Mo.leastOf_sub ordW hu)⟩
  have lm := hT.mid
  have l1 := Mo.nice_lead ordW oB (E := Mo.either leW A B) hT.nice
  have l2 := Mo.nice_lead ordW oB (E := A) hT.nice
  have l3 := Mo.nice_lead ordW oB (E := B) hT.nice
  unfold tr_law_sides_right
  refine sq (ms_par (call_amid hT.nice.one hT.deep hT.ok1 hT.ok2 (ea_cons' (ep_vis rfl i1) (mono_is _) (ea_cons' (ep_vis rfl i2).sq (mono_sq _) (ea_cons' (ep_vis rfl i3).sq (mono_sq _) ea_nil')))) (mono_is _) (call_either hAB (ea_cons' (ep_vis rfl i2).sq (mono_sq _) (ea_cons' (ep_vis rfl i3).sq (mono_sq _) ea_nil'))) fun v5 v6 H1 e1 i5 i6 => ?_)
  refine sq (ms_par3 (call_lead hT.nice hE (ea_cons' (ep_vis rfl (i1.ex e1)) (mono_is _) (ea_cons' (ep_vis rfl i6).sq (mono_sq _) ea_nil'))) (mono_is _) (call_lead hT.nice hT.ok1 (ea_cons' (ep_vis rfl (i1.ex e1)) (mono_is _) (ea_cons' (ep_vis rfl (i2.ex e1)).sq (mono_sq _) ea_nil'))) (mono_is _) (call_lead hT.nice hT.ok2 (ea_cons' (ep_vis rfl (i1.ex e1)) (mono_is _) (ea_cons' (ep_vis rfl (i3.ex e1)).sq (mono_sq _) ea_nil'))) fun v7 v8 v9 H2 e2 i7 i8 i9 => ?_)
  have e12 := e1.trans e2
  refine sq (s_for (W := []) (xs := rows) (wk_old rfl i4 e12 fun b hb => (by cases hb)) (fun H3 i σ' H' => Ex H3 H' ∧ ∃ x9 x10 x11, σ' = [some v1, some v2, some v3, some v4, some v5, some v6, some v7, some v8, some v9, x9, x10, x11, none])
    (fun H3 e3 => ⟨Ex.refl _, none, none, none, rfl⟩) (fun H3 i σ' H' _ p => .of p.1) (fun H3 i own v σ' H' H'' e3 hx p e4 iv => ?_) fun H3 σ' H' e3 p => ?_)
  · obtain ⟨p1, x9, x10, x11, rfl⟩ := p
    have eH := ((e12.trans e3).trans p1).trans e4
    have e2H := (e3.trans p1).trans e4
    have how := hrw own (List.mem_of_getElem? hx)
    show tSeq _ _ _ [some v1, some v2, some v3, some v4, some v5, some v6, some v7, some v8, some v9, some v, x10, x11, none] H''
    refine sq (ms_asg (ep_bl (K := K) true) fun v10 H4 e5 i10 => ?_)
    have eH4 := eH.trans e5
    refine sq (s_for (W := []) (xs := B) (wk_is (ep_vis rfl (i3.ex eH4))) (fun H5 j σ' H' => Ex H5 H' ∧ ∃ u x, Is K H' u ((B.take j).all fun e => A.all fun a => Mo.does W (a ++ own ++ e)) ∧ σ' = [some v1, some v2, some v3, some v4, some v5, some v6, some v7, some v8, some v9, some v, some u, x, none])
      (fun H5 e6 => ⟨Ex.refl _, v10, x11, i10.ex e6, rfl⟩) (fun H5 j σ' H' _ p => .of p.1) (fun H5 j en u σ' H' H6 e6 hy p e7 iu => ?_) fun H5 σ' H' e6 p => ?_)
    · obtain ⟨p2, d, x, p3, rfl⟩ := p
      have eH6 := ((eH4.trans e6).trans p2).trans e7
      have e2H6 := (((e2H.trans e5).trans e6).trans p2).trans e7
      have hB := hT.w2 en (List.mem_of_getElem? hy)
      refine ms_asg (ep_and (ep_vis rfl (p3.ex e7)) fun _ => EvP.at (ep_all (el_map (fun a : Wd => Mo.does W (a ++ own ++ en)) (wk_is (ep_vis rfl (i2.ex eH6))) (by omega) (fun _ => rfl) fun a ha r H7 e8 ir => ?_)) (all_map _ _)) fun v11 H7 e8 i11 => ⟨(p2.trans e7).trans e8, v11, some u, ?_, rfl⟩
      · have hA := hT.w1 a ha
        exact call_done (by omega) (ea_cons' (ep_vis rfl (i1.ex (eH6.trans e8))) (mono_is _) (ea_cons' (ep_cat (ep_cat (ep_vis rfl ir) (ep_vis rfl (iv.ex ((((e5.trans e6).trans p2).trans e7).trans e8))) (by omega)) (ep_vis rfl (iu.ex e8)) (by rw [List.length_append]; omega)) (mono_is _) ea_nil'))
      · rw [take_one hy, List.all_append]
        have : ([en].all fun e => A.all fun a => Mo.does W (a ++ own ++ e)) = A.all fun a => Mo.does W (a ++ own ++ en) := by simp
        rw [this]
        exact i11
    · obtain ⟨p2, d, x, p3, rfl⟩ := p
      rw [List.take_length] at p3
      have eH5 := ((eH4.trans e6)).trans p2
      have e2H5 := ((e2H.trans e5).trans e6).trans p2
      have e4H5 := (e5.trans e6).trans p2
      refine sq (ms_if (b := false) (EvT.at (et_T (ep_ne (call_done (by omega) (ea_cons' (ep_vis rfl (i5.ex (e2.trans e2H5))) (mono_is _) (ea_cons' (ep_vis rfl (iv.ex e4H5)) (mono_is _) ea_nil'))) (ep_vis rfl p3))) ?_) (fun hb => nomatch hb) fun _ H7 e7 => ?_)
      · rw [Mo.amid_sides ordW oB]; simp
      try unfold tNext
      dsimp only
      refine ms_if (b := false) (EvT.at (et_T (ep_ne (call_done (by omega) (ea_cons' (ep_vis rfl (i7.ex (e2H5.trans e7))) (mono_is _) (ea_cons' (ep_vis rfl (iv.ex (e4H5.trans e7))) (mono_is _) ea_nil'))) (ep_and (call_done (by omega) (ea_cons' (ep_vis rfl (i8.ex (e2H5.trans e7))) (mono_is _) (ea_cons' (ep_vis rfl (iv.ex (e4H5.trans e7))) (mono_is _) ea_nil'))) fun _ => call_done (by omega) (ea_cons' (ep_vis rfl (i9.ex (e2H5.trans e7))) (mono_is _) (ea_cons' (ep_vis rfl (iv.ex (e4H5.trans e7))) (mono_is _) ea_nil'))))) ?_) (fun hb => nomatch hb) fun _ H8 e8 => ?_
      · rw [Mo.lead_either ordW oB]; simp
      · exact ⟨(((p1.trans e4).trans e4H5).trans e7).trans e8, some v, some d, x, rfl⟩
  · obtain ⟨p1, x9, x10, x11, rfl⟩ := p
    dsimp only
    refine ms_ret (P := isP K true) (ep_bl true) fun v H5 e5 r => ?_
    exact q v H5 (((e12.trans e3).trans p1).trans e5) r
theorem call_sides_right {σ : L2.St} {H : Hp} {ts : TA} {W A B rows : Bs} (hT : Trio W A B) (hr : rows.length ≤ 1000) (hw : ∀ u ∈ rows, u.length ≤ 100) (h : EvAs ts σ H [isP K W, isP K A, isP K B, sqP K rows]) : EvP (tCall (sp_law_sides_right K) [] E0 ts) σ H (isP K true) := ep_sp (W, A, B, rows) ⟨hT, hr, hw⟩ h fun _ _ _ _ r => r
/-! ### pairs_right -/
abbrev Q3 := Bs × Bs × Bs
structure PairIn (W one two : Bs) : Prop where
  nice : Mo.Nice leW W
  ok1 : Ok one
  ok2 : Ok two
  mul : one.length * two.length < 4096
theorem Trio.pin {W one two : Bs} (h : Trio W one two) : PairIn W one two := ⟨h.nice, h.ok1, h.ok2, Nat.lt_of_le_of_lt (Nat.mul_le_mul h.n1 h.n2) (by decide)⟩
theorem then_len (A B : Bs) : (Mo.thenB leW A B).length ≤ A.length * B.length := by
  have h1 := Mo.canon_len ordW.toTOrd (A.flatMap fun w => B.map fun m => w ++ m)
  refine Nat.le_trans h1 (Nat.le_of_eq ?_)
  rw [List.length_flatMap, ← sum_const A B.length]
  congr 1
  exact List.map_congr_left fun x _ => by rw [List.length_map]
abbrev sp_law_pairs_right (K : PySem.W.Frag) : Sp := spP (fun i : Q3 => [isP K i.1, isP K i.2.1, isP K i.2.2]) (fun i => PairIn i.1 i.2.1 i.2.2) (fun _ _ => isP K true)
theorem ep_sumLen {σ : L2.St} {H : Hp} {tl : TE} {xs : Bs} {j : Nat} (h : EvP tl σ H (isP K xs)) (hl : xs.length ≤ 50000) (hj : σ.length > j) (hw : ∀ x, wipe ((wipe σ [j]).set j (some x)) [j] = wipe σ [j]) : EvP (tCB (rSum K) (tCons (tLc (iSeq K tl) (gName j) tYes (tCB (rLen' K) (tCons (tVar j) tNil)) [j]) tNil)) σ H (isP K (xs.map List.length).sum) :=
  ep_sum (el_map (fun u : Wd => u.length) (wk_is h) hl hw fun x hx v H1 e1 iv => ep_len (ep_vis (by rw [List.getElem?_set_self (by rw [wipe_length]; exact hj)]) iv).sq)
theorem pure_pairs_right (vs : List V) (H : Hp) (Q : VK) (E : XK) (h : sp_law_pairs_right K vs H Q E) :
    tr_law_pairs_right K nv av (spthen K) (spis_inside K) (splead K) (sprest_of K) (sppairs K) (sp_law_joined K) (sp_law_inside K) { nx := fun _ H' => Q .non H', rt := Q } (L2.start N_law_pairs_right vs) H := by
  obtain ⟨⟨W, A, B⟩, h, hT, q⟩ := h
  obtain ⟨v1, v2, v3, rfl, i1, i2, i3⟩ := all3 h
  replace i1 : Is K H v1 W := i1
  replace i2 : Is K H v2 A := i2
  replace i3 : Is K H v3 B := i3
  replace hT : PairIn W A B := hT
  have nW := hT.nice.one.few
  unfold tr_law_pairs_right
  refine sq (ms_asg (call_pairs hT.nice (ea_cons' (ep_vis rfl i1) (mono_is _) ea_nil')) fun v4 H1 e1 p4 => ?_)
  obtain ⟨L, hL1, hL2, hL3, p4⟩ := p4
  have small : ∀ p ∈ L, Ok p.1 ∧ Ok p.2 ∧ p.1.length ≤ 40 ∧ p.2.length ≤ 40 ∧ Mo.Pair (le := leW) (leB := leB) W p.1 p.2 := fun p hp => by
    have hp' := (hL2 p.1 p.2).mp hp
    have l1 := Mo.nice_lead ordW oB (E := p.2) hT.nice
    have l2 := Mo.nice_rest ordW oB (A := p.1) hT.nice
    rw [← hp'.one] at l1
    rw [← hp'.two] at l2
    exact ⟨⟨by omega, fun u hu => by have := l1.2 u hu; omega⟩, ⟨by omega, fun u hu => by have := l2.2 u hu; omega⟩, l1.1, l2.1, hp'⟩
  refine sq (s_for (W := []) (xs := L) (wk_seqP (P := ltP K L) (ep_var rfl (mono_nl _) (lt_of p4)) fun v H2 _ ⟨a, us, h1, _, h2, h3⟩ => ⟨a, us, h1, h3, .inr ⟨sq_of h2, by simp⟩⟩) (fun H3 i σ' H' => Ex H3 H' ∧ ∃ x4, σ' = [some v1, some v2, some v3, some v4, x4, none, none])
    (fun H3 e3 => ⟨Ex.refl _, none, rfl⟩) (fun H3 i σ' H' _ p => .of p.1) (fun H3 i p v σ' H' H'' e3 hx pp e4 iv => ?_) fun H3 σ' H' e3 pp => ?_)
  · obtain ⟨p1, x4, rfl⟩ := pp
    obtain ⟨o1, o2, c1, c2, hp⟩ := small p (List.mem_of_getElem? hx)
    have eH := ((e1.trans e3).trans p1).trans e4
    have hmul : p.1.length * p.2.length ≤ 40 * 40 := Nat.mul_le_mul c1 c2
    have hj := joined_len p.1 p.2
    show tSeq _ _ _ [some v1, some v2, some v3, some v4, some v, none, none] H''
    have hin : Mo.isInside (Mo.joined leW p.1 p.2) W = true := by
      have := Mo.joined_lead ordW oB W p.2
      rwa [← hp.one] at this
    refine sq (ms_if (b := false) (et_not (a := true) (EvT.at (et_V (call_linside (by omega) (by omega) (ea_cons' (call_joined o1 o2 (by omega) (ea_cons' (ep_fst (x := p.1) (y := p.2) (ep_vis rfl iv)) (mono_is _) (ea_cons' (ep_snd (x := p.1) (y := p.2) (ep_vis rfl iv)) (mono_is _) ea_nil'))) (mono_is _) (ea_cons' (ep_vis rfl (i1.ex eH)) (mono_is _) ea_nil')))) hin)) (fun hb => nomatch hb) fun _ H5 e5 => ?_)
    try unfold tNext
    dsimp only
    have iv5 := iv.ex e5
    refine sq (ms_if (b := false) (EvT.at (et_and (et_T (ep_lt (ep_sumLen (ep_snd (x := p.1) (y := p.2) (ep_vis rfl iv5)) (by omega) (by show 6 < 7; decide) (fun _ => rfl)) (ep_nat (K := K) 10))) fun _ => et_and (et_T (ep_lt (ep_len (ep_snd (x := p.1) (y := p.2) (ep_vis rfl iv5)).sq) (ep_nat (K := K) 5))) fun _ => EvT.at (et_T (ep_ne (call_lead hT.nice o2 (ea_cons' (ep_vis rfl (i1.ex (eH.trans e5))) (mono_is _) (ea_cons' (ep_snd (x := p.1) (y := p.2) (ep_vis rfl iv5)).sq (mono_sq _) ea_nil'))) (ep_fst (x := p.1) (y := p.2) (ep_vis rfl iv5)))) (c := false) ?_) ?_) (fun hb => nomatch hb) fun _ H6 e6 => ?_)
    · rw [← hp.one]; simp
    · simp
    try unfold tNext
    dsimp only
    have iv6 := iv5.ex e6
    refine ms_if (b := false) (EvT.at (et_and (et_T (ep_lt (ep_sumLen (ep_fst (x := p.1) (y := p.2) (ep_vis rfl iv6)) (by omega) (by show 6 < 7; decide) (fun _ => rfl)) (ep_nat (K := K) 10))) fun _ => et_and (et_T (ep_lt (ep_len (ep_fst (x := p.1) (y := p.2) (ep_vis rfl iv6)).sq) (ep_nat (K := K) 5))) fun _ => EvT.at (et_T (ep_ne (call_rest_of hT.nice o1 (ea_cons' (ep_vis rfl (i1.ex ((eH.trans e5).trans e6))) (mono_is _) (ea_cons' (ep_fst (x := p.1) (y := p.2) (ep_vis rfl iv6)).sq (mono_sq _) ea_nil'))) (ep_snd (x := p.1) (y := p.2) (ep_vis rfl iv6)))) (c := false) ?_) ?_) (fun hb => nomatch hb) fun _ H7 e7 => ?_
    · rw [← hp.two]; simp
    · simp
    · exact ⟨(((p1.trans e4).trans e5).trans e6).trans e7, some v, rfl⟩
  · obtain ⟨p1, x4, rfl⟩ := pp
    have eH := (e1.trans e3).trans p1
    have e1H := e3.trans p1
    try unfold tNext
    dsimp only
    have thl := then_len A B
    have hAl := hT.ok1.1
    have hBl := hT.ok2.1
    have hm := hT.mul
    refine sq (ms_asg (EvP.atL (el_lcN (fun p : PB => Mo.isInside A p.1 && Mo.isInside B p.2) (fun p => p) (wk_seq (ep_var rfl (mono_nl _) (mono_nl _ _ _ _ e1H p4)).sqn) (by omega) (fun _ => rfl) (fun p hp u H4 e4 iu => ?_) fun p hp u H4 e4 iu _ => ep_vis rfl iu) (List.map_id' _)) fun v5 H4 e4 p5 => ?_)
    · obtain ⟨o1, o2, c1, c2, _⟩ := small p hp
      exact et_and (et_V (call_linside (by omega) (by omega) (ea_cons' (ep_vis rfl (i2.ex (eH.trans e4))) (mono_is _) (ea_cons' (ep_fst (x := p.1) (y := p.2) (ep_vis rfl iu)) (mono_is _) ea_nil')))) fun _ => et_V (call_linside (by omega) (by omega) (ea_cons' (ep_vis rfl (i3.ex (eH.trans e4))) (mono_is _) (ea_cons' (ep_snd (x := p.1) (y := p.2) (ep_vis rfl iu)) (mono_is _) ea_nil')))
    · have eH4 := eH.trans e4
      refine ms_ret (P := isP K true) (EvP.at (ep_eq (ep_neL (ys := ([] : List PB)) (ep_var rfl (mono_nl _) p5) ep_lst0) (call_is_inside (by omega) (by omega) (ea_cons' (call_then hT.ok1 hT.ok2 hT.mul (ea_cons' (ep_vis rfl (i2.ex eH4)).sq (mono_sq _) (ea_cons' (ep_vis rfl (i3.ex eH4)).sq (mono_sq _) ea_nil'))) (mono_is _) (ea_cons' (ep_vis rfl (i1.ex eH4)) (mono_is _) ea_nil')))) ?_) fun v6 H5 e5 r => ?_
      · refine decide_eq_true ?_
        rw [Bool.eq_iff_iff, Bool.not_eq_true', decide_eq_false_iff_not]
        constructor
        · intro hne
          cases z : L.filter fun p : PB => Mo.isInside A p.1 && Mo.isInside B p.2 with
          | nil => exact absurd z hne
          | cons p r =>
            have hp : p ∈ L.filter fun p : PB => Mo.isInside A p.1 && Mo.isInside B p.2 := by rw [z]; exact List.mem_cons_self
            obtain ⟨g1, g2⟩ := List.mem_filter.mp hp
            rw [Bool.and_eq_true] at g2
            exact Mo.pair_fits ordW oB ((hL2 p.1 p.2).mp g1) g2.1 g2.2
        · intro hin z
          obtain ⟨C, D, g1, g2, g3⟩ := Mo.pair_above (leB := leB) ordW oB hin
          have hp : (C, D) ∈ L.filter fun p : PB => Mo.isInside A p.1 && Mo.isInside B p.2 := List.mem_filter.mpr ⟨(hL2 C D).mpr g1, by rw [Bool.and_eq_true]; exact ⟨g2, g3⟩⟩
          rw [z] at hp
          cases hp
      · exact q v6 H5 (eH4.trans e5) r
theorem call_pairs_right {σ : L2.St} {H : Hp} {ts : TA} {W A B : Bs} (hT : PairIn W A B) (h : EvAs ts σ H [isP K W, isP K A, isP K B]) : EvP (tCall (sp_law_pairs_right K) [] E0 ts) σ H (isP K true) := ep_sp (W, A, B) hT h fun _ _ _ _ r => r
end MoD
set_option maxHeartbeats 4000000
/-! cuts_right: it holds -/
namespace MoD
open PySem PySem.Spec PyProof.Rows L2 MoR PySem.W Evl
variable {P : Program} {w : World} {K : PySem.W.Frag} {nv av : Addr}
theorem mono_stres {W : Bs} : MonoP (StRes W K) := fun v H H' e h => by
  rcases h with h | ⟨h1, ps, h2, h3, h4, h5⟩
  · exact .inl h
  · exact .inr ⟨h1, ps, h2, h3, h4, h5.ex e⟩
theorem call_stages {σ : L2.St} {H : Hp} {ts : TA} {W : Bs} (hT : Tiny W) (hC : Mo.CB leW W) (h : EvAs ts σ H [isP K W]) : EvP (tCall (spstages K) [] E0 ts) σ H (StRes W K) := ep_sp W ⟨hT, hC⟩ h fun _ _ _ _ r => r
theorem nice_tiny {W : Bs} (h : Mo.Nice leW W) : Tiny W := ⟨by have := h.one.few; omega, fun u hu => by have := h.one.short u hu; omega⟩
theorem ep_isN {σ : L2.St} {H : Hp} {te : TE} {R : VP} {b : Bool} (h : EvP te σ H R) (hb : ∀ v H1, R v H1 → decide (v = .non) = b) : EvP (tOp rIsN te (tC .non)) σ H (isP K b) := fun H1 e Q q => h H1 e _ fun v H2 e2 p => ⟨rfl, by rw [hb v H2 p]; exact q _ _ e2 (.bl _)⟩
theorem ep_srt {σ : L2.St} {H : Hp} {te : TE} {α : Type} [En α] {xs : List α} {H0 : Hp} (h : EvP te σ H (nlP K H0 xs)) (hk : SortOk (xs.map Ec.enc)) (hl : xs.length ≤ 100000) (hd : En.dp α ≤ 8 := by decide) : EvP (tCB (rSrt K) (tCons te tNil)) σ H (nlP K H (xs.mergeSort (leE α))) := fun H1 e Q q =>
  h H1 e _ fun v H2 e2 p => by
    obtain ⟨a, us, rfl, _, h2, h3⟩ := p
    exact ⟨α, inferInstance, a, us, xs, rfl, sq_of h2, h3, hk, hl, hd, fun p us' hp hu => q _ _ (e2.trans (Ex.new hp)) ⟨p, us', rfl, fresh_back (e.trans e2) hp, upd_same, ImAll.ex (Ex.new hp) hu⟩⟩
/-- a middle part of the stages is small -/
theorem seg_small {W : Bs} (hW : Mo.Nice leW W) {a m b : List Bs} (h : ∀ p ∈ a ++ (m ++ b), Mo.Stage (le := leW) p) (e : Mo.prodB leW (a ++ (m ++ b)) = W) : Ok (Mo.prodB leW m) ∧ (Mo.prodB leW m).length ≤ 8 := by
  have ha : ∀ p ∈ a, Mo.Stage (le := leW) p := fun p hp => h p (List.mem_append_left _ hp)
  have hm : ∀ p ∈ m, Mo.Stage (le := leW) p := fun p hp => h p (List.mem_append_right _ (List.mem_append_left _ hp))
  have hb : ∀ p ∈ b, Mo.Stage (le := leW) p := fun p hp => h p (List.mem_append_right _ (List.mem_append_right _ hp))
  rw [Mo.prod_append ordW (fun p hp => h p (List.mem_append_right _ hp)), Mo.prod_append ordW hb] at e
  obtain ⟨x, hx⟩ := List.exists_mem_of_ne_nil _ (Mo.prod_ne ha)
  obtain ⟨z, hz⟩ := List.exists_mem_of_ne_nil _ (Mo.prod_ne hb)
  have key : ∀ y ∈ Mo.prodB leW m, x ++ (y ++ z) ∈ W := fun y hy => by
    rw [← e]
    exact Mo.mem_thenB.mpr ⟨x, hx, y ++ z, Mo.mem_thenB.mpr ⟨y, hy, z, hz, rfl⟩, rfl⟩
  have hl : (Mo.prodB leW m).length ≤ 8 := by
    have hn : ((Mo.prodB leW m).map fun y => x ++ (y ++ z)).Nodup := List.pairwise_map.mpr ((Mo.cb_prod ordW hm).rise.nodup.imp fun hne he => hne (List.append_cancel_right (List.append_cancel_left he)))
    have := Mo.nodup_le hn fun y hy => by
      obtain ⟨u, hu, rfl⟩ := List.mem_map.mp hy
      exact key u hu
    rw [List.length_map] at this
    exact Nat.le_trans this hW.one.few
  refine ⟨⟨by omega, fun y hy => ?_⟩, hl⟩
  have := hW.one.short _ (key y hy)
  rw [List.length_append, List.length_append] at this
  omega
theorem ixN_nat {n i : Nat} (h : i < n) : ixN n (i : Int) = some i := by
  unfold ixN
  split <;> simp_all <;> omega
theorem all_set {H : Hp} {α : Type} [Ec α] : ∀ {us : List V} {xs : List α} (i : Nat) {v : V} {y : α}, IsAll K H us xs → Is K H v y → IsAll K H (us.set i v) (xs.set i y)
  | [], [], i, v, y, h, _ => by simpa using h
  | u :: us, [], i, v, y, h, _ => by cases h
  | [], x :: xs, i, v, y, h, _ => by cases h
  | u :: us, x :: xs, 0, v, y, h, hv => by
    cases h with
    | cons a b => exact .cons hv b
  | u :: us, x :: xs, i + 1, v, y, h, hv => by
    cases h with
    | cons a b => exact .cons a (all_set i b hv)
/-- xs[i] = then(xs[i], y) -/
theorem set_turn {σ : L2.St} {H : Hp} {D : Ends} {a c idx : Nat} {ls : Addr} {su : List V} {xs : List Bs} {x p : Bs} {ti : TE} {vp : V} (ha : σ[a]? = some (some (.ref ls))) (hc : σ[c]? = some (some vp)) (hl : H ls = some (.lst su)) (hs : IsAll K H su xs) (hx : xs[idx]? = some x) (hp : Is K H vp p) (ht : EvP ti σ H (isP K idx))
    (o1 : Ok x) (o2 : Ok p) (om : x.length * p.length < 4096) (k : ∀ v8 H9, Ex H H9 → Is K H9 v8 (Mo.thenB leW x p) → H9 ls = some (.lst su) → D.nx σ (upd H9 ls (.lst (su.set idx v8)))) :
    tAsg (tCall (spthen K) [] E0 (tCons (tOp (rIx K) (tVar a) ti) (tCons (tVar c) tNil))) (gSub (tVar a) ti rSetL) D σ H := by
  refine (call_then o1 o2 om (ea_cons' (ep_ix (ep_var (P := sqP K xs) ha (mono_sq _) ⟨ls, su, rfl, .inl hl, hs⟩) ht hx).sq (mono_sq _) (ea_cons' (ep_vis hc hp).sq (mono_sq _) ea_nil'))) H (Ex.refl _) _ fun v8 H8 e8 i8 => ⟨_, ha, ?_⟩
  refine ht H8 e8 _ fun v9 H9 e9 i9 => ⟨ls, su, (idx : Int), idx, rfl, Is.nat i9, (e8.trans e9) _ _ hl, ixN_nat ?_, k v8 H9 (e8.trans e9) (Im.ex e9 i8) ((e8.trans e9) _ _ hl)⟩
  rw [IsAll.len hs]
  exact (List.getElem?_eq_some_iff.mp hx).1
theorem prodL_snoc (l : List Bs) (p : Bs) : Mo.prodL leW (l ++ [p]) = Mo.thenB leW (Mo.prodL leW l) p := by
  unfold Mo.prodL
  rw [List.foldl_append]
  rfl
abbrev sp_law_cuts_right (K : PySem.W.Frag) : Sp := spP (fun i : Bs => [isP K i]) (fun i => Mo.Nice leW i ∧ Named i) (fun _ _ => isP K true)
theorem pure_cuts_right (vs : List V) (H : Hp) (Q : VK) (E : XK) (h : sp_law_cuts_right K vs H Q E) :
    tr_law_cuts_right K nv av (spthen K) (spstages K) (spis_split K) (spsplits K) { nx := fun _ H' => Q .non H', rt := Q } (L2.start N_law_cuts_right vs) H := by
  obtain ⟨W, h, ⟨hW, hNm⟩, q⟩ := h
  obtain ⟨v0, rfl, i0⟩ := all1 h
  replace i0 : Is K H v0 W := i0
  replace hW : Mo.Nice leW W := hW
  have hOk : Ok W := ⟨by have := hW.one.few; omega, fun u hu => by have := hW.one.short u hu; omega⟩
  unfold tr_law_cuts_right
  refine sq (ms_par (call_stages (nice_tiny hW) hW.one.cb (ea_cons' (ep_vis rfl i0) (mono_is _) ea_nil')) mono_stres (call_splits hW hNm (ea_cons' (ep_vis rfl i0) (mono_is _) ea_nil')) fun v1 v2 H1 e1 p1 p2 => ?_)
  obtain ⟨L, hL1, hL2, hL3, p2⟩ := p2
  have done : ∀ H2, Ex H1 H2 → W = [] ∨ W = Mo.ALW → tRet (tOp (rEqG K) (tVar 2) (tLst tNil)) { nx := fun _ H' => Q .non H', rt := Q } [some v0, some v1, some v2, none, none, none, none, none, none] H2 := fun H2 e2 hw => by
    refine ms_ret (P := isP K true) (EvP.at (ep_eqL (ys := ([] : List PB)) (ep_var rfl (mono_nl _) (mono_nl _ _ _ _ e2 p2)) ep_lst0) ?_) fun v H3 e3 r => q v H3 ((e1.trans e2).trans e3) r
    exact decide_eq_true (Mo.splits_none (leB := leB) ordW oB hw hL2)
  rcases p1 with ⟨hw, rfl⟩ | ⟨hne, ps, hps, hpr, hp8, ip⟩
  · refine sq (ms_if (b := true) (et_or (a := true) (b := true) (et_T (K := K) (ep_isN (K := K) (R := fun v _ => v = .non) (ep_var rfl mono_eq rfl) fun v H1 h => by rw [h]; rfl)) fun hb => nomatch hb) (fun _ H2 e2 => done H2 e2 (.inl hw)) fun hb => nomatch hb)
  · refine sq (ms_if (b := false || decide (ps = [])) (et_or (a := false) (et_T (K := K) (ep_isN (K := K) (R := isP K ps) (ep_vis rfl ip) fun v H1 h => by
      obtain ⟨a, us, rfl, _⟩ := Is.list h
      rfl)) fun _ => et_T (ep_eq (y := ([] : List Bs)) (ep_vis rfl ip) ep_tup0)) (fun hb H2 e2 => ?_) fun hb H2 e2 => ?_)
    · have hz : ps = [] := by simpa using hb
      exact done H2 e2 (.inr (by rw [← hpr, hz]; rfl))
    have hpne : ps ≠ [] := by simpa using hb
    try unfold tNext
    dsimp only
    have e12 := e1.trans e2
    refine sq (ms_asg (ep_lst0 (K := K) (α := PB)) fun v3 H3 e3 p3 => ?_)
    obtain ⟨ld, us0, rfl, hl0, hl1, hl2⟩ := p3
    have hlH : H ld = none := fresh_back e12 hl0
    have ip3 := ip.ex (e2.trans e3)
    have e13 := e12.trans e3
    have hmono : ∀ k, k ≤ ps.length → ∀ j, j ≤ ps.length → Mo.prodL leW ((ps.take j).take k) = Mo.prodB leW ((ps.take j).take k) ∧ (Ok (Mo.prodL leW ((ps.take j).take k)) ∧ (Mo.prodL leW ((ps.take j).take k)).length ≤ 8) ∧ (Ok (Mo.prodL leW ((ps.take j).drop k)) ∧ (Mo.prodL leW ((ps.take j).drop k)).length ≤ 8) := fun k hk j hj => by
      have s1 : ∀ p ∈ (ps.take j).take k, Mo.Stage (le := leW) p := fun p hp => hps p (List.mem_of_mem_take (List.mem_of_mem_take hp))
      have s2 : ∀ p ∈ (ps.take j).drop k, Mo.Stage (le := leW) p := fun p hp => hps p (List.mem_of_mem_take (List.mem_of_mem_drop hp))
      rw [Mo.prodL_eq ordW s1, Mo.prodL_eq ordW s2]
      have d1 : ps = [] ++ ((ps.take j).take k ++ ((ps.take j).drop k ++ ps.drop j)) := by
        rw [List.nil_append, ← List.append_assoc, List.take_append_drop, List.take_append_drop]
      have d2 : ps = (ps.take j).take k ++ ((ps.take j).drop k ++ ps.drop j) := by
        rw [← List.append_assoc, List.take_append_drop, List.take_append_drop]
      refine ⟨rfl, ?_, ?_⟩
      · exact seg_small hW (a := []) (b := (ps.take j).drop k ++ ps.drop j) (by rw [← d1]; exact hps) (by rw [← d1]; exact hpr)
      · exact seg_small hW (a := (ps.take j).take k) (b := ps.drop j) (by rw [← d2]; exact hps) (by rw [← d2]; exact hpr)
    have hdue : (Mo.due leW ps).length = ps.length - 1 := by unfold Mo.due; rw [List.length_map, List.length_range]
    refine sq (s_for (W := [ld]) (xs := (List.range (ps.length - 1)).map (1 + ·)) (wk_rng2 (m := 1) (n := ps.length) (ep_nat (K := K) 1) (ep_len (ep_vis rfl ip3).sq) (by decide) (by omega)) (fun H4 i σ' H' => ∃ us ds x4 x5 x6 x7, ExL K [ld] H4 H' ∧ Ex H H' ∧ H' ld = some (.lst us) ∧ IsAll K H' us ds ∧ ds = (Mo.due leW ps).take i ∧ σ' = [some v0, some v1, some v2, some (.ref ld), x4, x5, x6, x7, none])
      (fun H4 e4 => ⟨us0, [], none, none, none, none, .refl, e13.trans e4, e4 _ _ hl1, ImAll.ex e4 hl2, by simp, rfl⟩) (fun H4 i σ' H' _ p => by obtain ⟨_, _, _, _, _, _, p, _⟩ := p; exact p) (fun H4 i k v σ' H' H5 e4 hx p e5 iv => ?_) fun H4 σ' H' e4 p => ?_)
    · obtain ⟨us, ds, x4, x5, x6, x7, x, ex, a1, a2, a3, rfl⟩ := p
      have hk : k = 1 + i ∧ i < ps.length - 1 := by
        rw [List.getElem?_map] at hx
        obtain ⟨y, hy, rfl⟩ := Option.map_eq_some_iff.mp hx
        have := List.getElem?_eq_some_iff.mp hy
        simp at this
        exact ⟨by rw [this.2], this.1⟩
      obtain ⟨rfl, hi⟩ := hk
      have ip5 : Is K H5 v1 ps := Im.tk (((Tk.ex e4).trans x.tk).trans (.ex e5)) ip3
      show tSeq _ _ _ [some v0, some v1, some v2, some (.ref ld), some v, x5, x6, x7, none] H5
      refine sq (ms_asg (ep_lst2 (ep_tup1 (K := K) (x := ([] : Wd)) ep_tup0) (ep_tup1 (K := K) (x := ([] : Wd)) ep_tup0)) fun v5 H6 e6 p6 => ?_)
      obtain ⟨ls, su, rfl, hs0, hs1, hs2⟩ := p6
      have h5l : H5 ld = some (.lst us) := e5 _ _ a1
      have hsl : ls ≠ ld := fun z => by rw [z, h5l] at hs0; cases hs0
      refine sq (s_for (W := [ls]) (xs := (List.range ps.length).zip ps) (wk_enumT (ep_vis rfl (ip5.ex e6))) (fun H7 j σ' H' => ∃ su y6 y7, ExL K [ls] H7 H' ∧ Ex H5 H' ∧ H' ls = some (.lst su) ∧ IsAll K H' su [Mo.prodL leW ((ps.take j).take (1 + i)), Mo.prodL leW ((ps.take j).drop (1 + i))] ∧ Is K H' v (1 + i) ∧ σ' = [some v0, some v1, some v2, some (.ref ld), some v, some (.ref ls), y6, y7, none])
        (fun H7 e7 => ⟨su, x6, x7, .refl, e6.trans e7, e7 _ _ hs1, ?_, iv.ex (e6.trans e7), rfl⟩) (fun H7 j σ' H' _ p => by obtain ⟨_, _, _, p, _⟩ := p; exact p) (fun H7 j jp u σ' H' H8 e7 hy p e8 iu => ?_) fun H7 σ' H' e7 p => ?_)
      · have := ImAll.ex e7 hs2
        rw [List.take_zero, List.take_nil, List.drop_nil]
        exact this
      · obtain ⟨su, y6, y7, z1, z2, z3, z4, z5, rfl⟩ := p
        obtain ⟨j', p⟩ := jp
        obtain ⟨g1, g2⟩ := MoR.zip_get hy
        have hjj : j' = j ∧ j < ps.length := by
          have := List.getElem?_eq_some_iff.mp g1
          simp at this
          exact ⟨this.2.symm, this.1⟩
        obtain ⟨rfl, hjl⟩ := hjj
        replace g2 : ps[j']? = some p := g2
        have hsp : Mo.Stage (le := leW) p := hps p (List.mem_of_getElem? g2)
        have hpO : Ok p ∧ p.length ≤ 8 := by
          have d1 : ps = ps.take j' ++ ([p] ++ ps.drop (j' + 1)) := by
            rw [List.singleton_append, ← drop_get g2, List.take_append_drop]
          have := seg_small hW (a := ps.take j') (m := [p]) (b := ps.drop (j' + 1)) (by rw [← d1]; exact hps) (by rw [← d1]; exact hpr)
          have e : Mo.prodB leW [p] = p := Mo.thenB_alw ordW hsp.cb
          rwa [e] at this
        obtain ⟨_, ⟨q1, q2⟩, q3, q4⟩ := hmono (1 + i) (by omega) j' (by omega)
        refine g2_run iu fun u6 u7 iu6 iu7 => ?_
        have z48 : IsAll K H8 su _ := ImAll.ex e8 z4
        have l8 : H8 ls = some (.lst su) := e8 _ _ z3
        have iv8 := z5.ex e8
        have ht : EvP (tCB rInt1 (tCons (tOp rGe' (tVar 6) (tVar 4)) tNil)) [some v0, some v1, some v2, some (.ref ld), some v, some (.ref ls), some u6, some u7, none] H8 (isP K (if decide (1 + i ≤ j') = true then 1 else 0 : Nat)) := ep_int1 (ep_ge (K := K) (m := j') (n := 1 + i) (ep_vis rfl iu6) (ep_vis rfl iv8))
        by_cases hkj : 1 + i ≤ j'
        · rw [if_pos (decide_eq_true hkj)] at ht
          refine set_turn (x := Mo.prodL leW ((ps.take j').drop (1 + i))) rfl rfl l8 z48 rfl iu7 ht q3 hpO.1 (Nat.lt_of_le_of_lt (Nat.mul_le_mul q4 hpO.2) (by decide)) fun v8 H9 e9 i9 l9 => ?_
          have tk9 : Tk K H9 (upd H9 ls (.lst (su.set 1 v8))) := .lst l9
          have s9 := all_set 1 (ImAll.tk tk9 (ImAll.ex e9 z48)) (Im.tk tk9 i9)
          refine ⟨su.set 1 v8, some u6, some u7, (z1.then (e8.trans e9)).lst List.mem_cons_self l9, Ex.mut ((z2.trans e8).trans e9) hs0, upd_same, ?_, Im.tk tk9 (iv8.ex e9), rfl⟩
          have t1 : (ps.take (j' + 1)).take (1 + i) = (ps.take j').take (1 + i) := by
            rw [List.take_take, List.take_take, Nat.min_eq_left (by omega), Nat.min_eq_left (by omega)]
          have t2 : (ps.take (j' + 1)).drop (1 + i) = (ps.take j').drop (1 + i) ++ [p] := by
            rw [take_one g2, List.drop_append_of_le_length (by rw [List.length_take]; omega)]
          rw [t1, t2, prodL_snoc]
          exact s9
        · rw [if_neg (by simpa using hkj)] at ht
          refine set_turn (x := Mo.prodL leW ((ps.take j').take (1 + i))) rfl rfl l8 z48 rfl iu7 ht q1 hpO.1 (Nat.lt_of_le_of_lt (Nat.mul_le_mul q2 hpO.2) (by decide)) fun v8 H9 e9 i9 l9 => ?_
          have tk9 : Tk K H9 (upd H9 ls (.lst (su.set 0 v8))) := .lst l9
          have s9 := all_set 0 (ImAll.tk tk9 (ImAll.ex e9 z48)) (Im.tk tk9 i9)
          refine ⟨su.set 0 v8, some u6, some u7, (z1.then (e8.trans e9)).lst List.mem_cons_self l9, Ex.mut ((z2.trans e8).trans e9) hs0, upd_same, ?_, Im.tk tk9 (iv8.ex e9), rfl⟩
          have t1 : (ps.take (j' + 1)).take (1 + i) = (ps.take j').take (1 + i) ++ [p] := by
            have ha : (ps.take (j' + 1)).take (1 + i) = ps.take (j' + 1) := List.take_of_length_le (by rw [List.length_take]; omega)
            have hb : (ps.take j').take (1 + i) = ps.take j' := List.take_of_length_le (by rw [List.length_take]; omega)
            rw [ha, hb, take_one g2]
          have t2 : (ps.take (j' + 1)).drop (1 + i) = (ps.take j').drop (1 + i) := by
            rw [List.drop_eq_nil_of_le (by rw [List.length_take]; omega), List.drop_eq_nil_of_le (by rw [List.length_take]; omega)]
          rw [t1, t2, prodL_snoc]
          exact s9
      · obtain ⟨su, y6, y7, z1, z2, z3, z4, z5, rfl⟩ := p
        rw [List.length_zip, List.length_range, Nat.min_self, List.take_length] at z4
        have hda : (Mo.due leW ps).take (i + 1) = (Mo.due leW ps).take i ++ [(Mo.prodL leW (ps.take (1 + i)), Mo.prodL leW (ps.drop (1 + i)))] := by
          refine take_one ?_
          unfold Mo.due
          rw [List.getElem?_map, List.getElem?_range hi]
          rw [Nat.add_comm 1 i]
          rfl
        have l7 : H' ld = some (.lst us) := z2 _ _ h5l
        refine ms_app (P := isP K ((Mo.prodL leW (ps.take (1 + i)), Mo.prodL leW (ps.drop (1 + i))) : PB)) rfl l7 (ep_pair (ep_ix (i := 0) (ep_var (P := sqP K _) rfl (mono_sq _) ⟨ls, su, rfl, .inl z3, z4⟩) (ep_nat (K := K) 0) rfl) (ep_ix (i := 1) (ep_var (P := sqP K _) rfl (mono_sq _) ⟨ls, su, rfl, .inl z3, z4⟩) (ep_nat (K := K) 1) rfl)) (by have := IsAll.len a2; rw [a3, List.length_take] at this; omega) fun v9 H9 e9 i9 => ?_
        have e59 := z2.trans e9
        have l9 := e9 _ _ l7
        refine ⟨us ++ [v9], ds ++ [(Mo.prodL leW (ps.take (1 + i)), Mo.prodL leW (ps.drop (1 + i)))], some v, some (.ref ls), y6, y7, (x.then (e5.trans e59)).lst List.mem_cons_self l9, Ex.mut ((ex.trans e5).trans e59) hlH, upd_same, IsAll.snoc (ImAll.tk (.lst l9) (ImAll.ex (e5.trans e59) a2)) (Im.tk (.lst l9) i9), by rw [hda, a3], rfl⟩
    · obtain ⟨us, ds, x4, x5, x6, x7, x, ex, a1, a2, a3, rfl⟩ := p
      rw [List.length_map, List.length_range, ← hdue, List.take_length] at a3
      subst a3
      have tk : Tk K H1 H' := (Tk.ex ((e2.trans e3).trans e4)).trans x.tk
      obtain ⟨a2', u2, rfl, b1, b2, b3⟩ := p2
      have hla : a2' ≠ ld := fun z => by
        have := (e2) _ _ b2
        rw [z, hl0] at this
        cases this
      have g2 : H' a2' = some (.lst u2) := x.ob a2' _ (by simpa using hla) (((e2.trans e3).trans e4) _ _ b2)
      have hsp := Mo.splits_due ordW oB oP hps hpr hL1 hL2
      have hsc : (Mo.due leW ps).mergeSort (leE PB) = Mo.canon (leE PB) (Mo.due leW ps) := sort_canon (Mo.due_nodup ordW hps) fun _ => Iff.rfl
      refine ms_ret (P := isP K true) (EvP.at (ep_and (a := true) (b := true) (EvP.at (ep_eqL (xs := L.filter (Mo.isSplit leW W)) (ep_var (P := ltP K _) rfl (mono_nl _) ⟨a2', u2, rfl, rfl, g2, ImAll.tk tk b3⟩) (ep_srt (ep_var (P := ltP K (Mo.due leW ps)) rfl (mono_nl _) ⟨ld, us, rfl, rfl, a1, a2⟩) (ok_pairs _) (by rw [hdue]; omega))) ?_) fun _ => EvP.at (ep_all (el_map (Mo.isSplit leW W) (wk_seq (ep_var (P := sqP K (Mo.due leW ps)) rfl (mono_sq _) ⟨ld, us, rfl, .inl a1, a2⟩)) (by rw [hdue]; omega) (fun _ => rfl) fun p hp u H5 e5 iu => ?_)) ?_) rfl) fun v H5 e5 r => ?_
      · refine decide_eq_true ?_
        rw [hsp, hsc]
      · obtain ⟨d1, d2, d3⟩ := Mo.due_split ordW hps hpr hp
        have d1' := d1
        unfold Mo.isSplit at d1'
        rw [Bool.and_eq_true, Bool.and_eq_true, decide_eq_true_eq, decide_eq_true_eq, decide_eq_true_eq] at d1'
        obtain ⟨nA, nB⟩ := Mo.ne_of_thenB (le := leW) (A := p.1) (B := p.2) (by rw [d1'.2.2]; exact hne)
        have pr := Mo.cut_pair (leB := leB) ordW oB d2 d3 nA nB
        rw [d1'.2.2] at pr
        obtain ⟨g1, g2, g3, g4⟩ := pair_ok hW hNm pr
        have hm : p.1.length * p.2.length ≤ 40 * 40 := Nat.mul_le_mul g3 g4
        exact call_is_split hOk g1 g2 (by omega) (ea_cons' (ep_vis rfl (i0.ex (ex.trans e5))) (mono_is _) (ea_cons' (ep_vis rfl iu) (mono_is _) ea_nil'))
      · rw [all_map]
        exact List.all_eq_true.mpr fun p hp => (Mo.due_split ordW hps hpr hp).1
      · exact q v H5 (ex.trans e5) r
theorem call_cuts_right {σ : L2.St} {H : Hp} {ts : TA} {W : Bs} (hW : Mo.Nice leW W) (hN : Named W) (h : EvAs ts σ H [isP K W]) : EvP (tCall (sp_law_cuts_right K) [] E0 ts) σ H (isP K true) := ep_sp W ⟨hW, hN⟩ h fun _ _ _ _ r => r
end MoD
set_option maxHeartbeats 8000000
/-! the defs of the text: slots, readings, derivations; printed by emit.py -/
namespace MoD
open PySem PySem.Spec PyProof.Rows L2 MoR
abbrev N_law_by_hand_right : List Str := ["_law_ab", "_law_a_so", "_law_b_so", "_law_either_so", "_law_some", "_law_words_so", "_law_one_so", "_law_two_so", "_law_row", "_law_got"]
theorem sc_law_by_hand_right : FnScope N_law_by_hand_right [] (defScope s_law_by_hand_right) := ⟨rfl, rfl, rfl, by decide +kernel, rfl, by decide +kernel, by decide +kernel⟩
def tr_law_by_hand_right (K : PySem.W.Frag) (nv av : Addr) (spthen sptimes sppairs spsplits sp_law_same sp_law_leads_right sp_law_sides_right sp_law_pairs_right sp_law_cuts_right : Sp) : TS :=
  tSeq (tAsg (tTup (tCons (tTup (tCons (tTup (tCons (tC (.str "a")) (tCons (tC (.str "b")) (tNil)))) (tNil))) (tCons (tTup (tCons (tTup (tCons (tC (.str "a")) (tNil))) (tNil))) (tCons (tTup (tCons (tTup (tCons (tC (.str "b")) (tNil))) (tNil))) (tNil))))) (gTup K 3 (gCons (gName 0) (gCons (gName 1) (gCons (gName 2) (gNil)))))) (tSeq (tAsg (tTup (tCons (tTup (tCons (tC (.str "a")) (tNil))) (tCons (tTup (tCons (tC (.str "b")) (tNil))) (tNil)))) (gName 3)) (tSeq (tAsg (tLst (tCons (tTup (tCons (tVar 0) (tCons (tVar 1) (tCons (tVar 2) (tCons (tTup (tCons (tC (.str "a")) (tNil))) (tNil)))))) (tCons (tTup (tCons (tVar 0) (tCons (tVar 2) (tCons (tVar 1) (tCons (tTup (tCons (tC (.str "b")) (tCons (tC (.str "a")) (tNil)))) (tNil)))))) (tCons (tTup (tCons (tTup tNil) (tCons (tVar 0) (tCons (tTup tNil) (tCons (tTup tNil) (tNil)))))) (tCons (tTup (tCons (tTup (tCons (tTup tNil) (tNil))) (tCons (tTup tNil) (tCons (tVar 0) (tCons (tTup (tCons (tC (.str "a")) (tNil))) (tNil)))))) (tNil)))))) (gName 4)) (tSeq (tAsg (tOp rCat (tVar 4) (tLst (tCons (tTup (tCons (tTup (tCons (tTup (tCons (tC (.str "a")) (tCons (tC (.str "b")) (tNil)))) (tCons (tTup (tCons (tC (.str "b")) (tCons (tC (.str "a")) (tNil)))) (tNil)))) (tCons (tVar 3) (tCons (tVar 0) (tCons (tTup (tCons (tC (.str "a")) (tCons (tC (.str "a")) (tCons (tC (.str "b")) (tNil))))) (tNil)))))) (tCons (tTup (tCons (tVar 0) (tCons (tTup (tCons (tTup tNil) (tNil))) (tCons (tTup (tCons (tTup tNil) (tNil))) (tCons (tTup tNil) (tNil)))))) (tNil))))) (gName 4)) (tSeq (tDrop (tBM K "list" rAppend (tVar 4) (tCons (tTup (tCons (tCall spthen [] E0 (tCons (tVar 3) (tCons (tVar 3) (tNil)))) (tCons (tVar 3) (tCons (tVar 1) (tCons (tTup (tCons (tC (.str "b")) (tNil))) (tNil)))))) (tNil)))) (tSeq (tDrop (tBM K "list" rAppend (tVar 4) (tCons (tTup (tCons (tTup (tCons (tTup (tCons (tC (.str "a")) (tCons (tC (.str "b")) (tCons (tC (.str "a")) (tNil))))) (tNil))) (tCons (tVar 0) (tCons (tVar 1) (tCons (tTup (tCons (tC (.str "b")) (tCons (tC (.str "a")) (tCons (tC (.str "b")) (tNil))))) (tNil)))))) (tNil)))) (tSeq (tFor (iSeq K (tVar 4)) (gTup K 4 (gCons (gName 5) (gCons (gName 6) (gCons (gName 7) (gCons (gName 8) (gNil)))))) (tSeq (tIfS (tOr (tNot (tB (tCall sp_law_leads_right [] E0 (tCons (tVar 5) (tCons (tVar 6) (tCons (tVar 7) (tCons (tVar 8) (tNil)))))))) (tNot (tB (tCall sp_law_pairs_right [] E0 (tCons (tVar 5) (tCons (tVar 6) (tCons (tVar 7) (tNil)))))))) (tRet (tC (.bl false))) (tNext)) (tIfS (tOr (tNot (tB (tCall sp_law_cuts_right [] E0 (tCons (tVar 5) (tNil))))) (tNot (tB (tCall sp_law_sides_right [] E0 (tCons (tVar 5) (tCons (tVar 6) (tCons (tVar 7) (tCons (tLst (tCons (tTup tNil) (tCons (tTup (tCons (tC (.str "a")) (tNil))) (tCons (tTup (tCons (tC (.str "b")) (tCons (tC (.str "a")) (tNil)))) (tNil))))) (tNil))))))))) (tRet (tC (.bl false))) (tNext)))) (tSeq (tAsg (tLst (tCons (tCB (rLen' K) (tCons (tCall spsplits [] E0 (tCons (tCall spthen [] E0 (tCons (tVar 0) (tCons (tVar 3) (tNil)))) (tNil))) (tNil))) (tCons (tCB (rLen' K) (tCons (tCall spsplits [] E0 (tCons (tCall sptimes [] E0 (tCons (tVar 3) (tCons (tC (.int 3)) (tNil)))) (tNil))) (tNil))) (tCons (tCB (rLen' K) (tCons (tCall sppairs [] E0 (tCons (tCall sptimes [] E0 (tCons (tVar 3) (tCons (tC (.int 3)) (tNil)))) (tNil))) (tNil))) (tNil))))) (gName 9)) (tRet (tCall sp_law_same [] E0 (tCons (tVar 9) (tCons (tLst (tCons (tC (.int 2)) (tCons (tC (.int 2)) (tCons (tC (.int 4)) (tNil))))) (tNil))))))))))))
theorem ok_law_by_hand_right {P : Program} {w : World} {K : PySem.W.Frag} {mg : Str → Option Value} {base : Heap} {nv av ev : Addr} {k : Nat} {f : Addr} {fd : FuncData} {spthen sptimes sppairs spsplits sp_law_same sp_law_leads_right sp_law_sides_right sp_law_pairs_right sp_law_cuts_right : Sp} (F : FnP K "_law_by_hand_right" s_law_by_hand_right f fd) (T : Txt K mg nv av ev) (Cthen : Cal P w K mg base "then" k ["one", "other"] spthen) (Ctimes : Cal P w K mg base "times" k ["base", "number"] sptimes) (Cpairs : Cal P w K mg base "pairs" k ["base"] sppairs) (Csplits : Cal P w K mg base "splits" k ["base"] spsplits) (C_law_same : Cal P w K mg base "_law_same" k ["_law_got", "_law_due"] sp_law_same) (C_law_leads_right : Cal P w K mg base "_law_leads_right" k ["_law_words_so", "_law_one_so", "_law_two_so", "_law_row"] sp_law_leads_right) (C_law_sides_right : Cal P w K mg base "_law_sides_right" k ["_law_words_so", "_law_one_so", "_law_two_so", "_law_rows"] sp_law_sides_right) (C_law_pairs_right : Cal P w K mg base "_law_pairs_right" k ["_law_words_so", "_law_one_so", "_law_two_so"] sp_law_pairs_right) (C_law_cuts_right : Cal P w K mg base "_law_cuts_right" k ["_law_words_so"] sp_law_cuts_right)
    {sp : Sp} (len : ∀ vs H Q E, sp vs H Q E → vs.length = 0) (pure : ∀ vs H Q E, sp vs H Q E → tr_law_by_hand_right K nv av spthen sptimes sppairs spsplits sp_law_same sp_law_leads_right sp_law_sides_right sp_law_pairs_right sp_law_cuts_right { nx := fun _ H' => Q .non H', rt := Q } (start N_law_by_hand_right vs) H) : FnOk P w K mg base CX0 (k + 1) f fd [] sp := by
  refine F.ok sc_law_by_hand_right len (fun cdv A outer s H vs Q E hr h => ⟨tr_law_by_hand_right K nv av spthen sptimes sppairs spsplits sp_law_same sp_law_leads_right sp_law_sides_right sp_law_pairs_right sp_law_cuts_right, PSs.nox ?_, pure vs H Q E h⟩)
  have nd := sc_law_by_hand_right.nd
  exact pss_cons (ps_asg (pe_tup (pa_cons (pe_tup (pa_cons (pe_tup (pa_cons (pe_str) (pa_cons (pe_str) (pa_nil)))) (pa_nil))) (pa_cons (pe_tup (pa_cons (pe_tup (pa_cons (pe_str) (pa_nil))) (pa_nil))) (pa_cons (pe_tup (pa_cons (pe_tup (pa_cons (pe_str) (pa_nil))) (pa_nil))) (pa_nil))))) (pg_tup rfl (pgs_cons (pg_name (i := 0) nd rfl (by first | exact Or.inl rfl | exact Or.inr rfl)) (pgs_cons (pg_name (i := 1) nd rfl (by first | exact Or.inl rfl | exact Or.inr rfl)) (pgs_cons (pg_name (i := 2) nd rfl (by first | exact Or.inl rfl | exact Or.inr rfl)) (pgs_nil)))))) (pss_cons (ps_set (i := 3) nd rfl (by first | exact Or.inl rfl | exact Or.inr rfl) (pe_tup (pa_cons (pe_tup (pa_cons (pe_str) (pa_nil))) (pa_cons (pe_tup (pa_cons (pe_str) (pa_nil))) (pa_nil))))) (pss_cons (ps_set (i := 4) nd rfl (by first | exact Or.inl rfl | exact Or.inr rfl) (pe_lst (pa_cons (pe_tup (pa_cons (pv 0) (pa_cons (pv 1) (pa_cons (pv 2) (pa_cons (pe_tup (pa_cons (pe_str) (pa_nil))) (pa_nil)))))) (pa_cons (pe_tup (pa_cons (pv 0) (pa_cons (pv 2) (pa_cons (pv 1) (pa_cons (pe_tup (pa_cons (pe_str) (pa_cons (pe_str) (pa_nil)))) (pa_nil)))))) (pa_cons (pe_tup (pa_cons (pe_tup (pa_nil)) (pa_cons (pv 0) (pa_cons (pe_tup (pa_nil)) (pa_cons (pe_tup (pa_nil)) (pa_nil)))))) (pa_cons (pe_tup (pa_cons (pe_tup (pa_cons (pe_tup (pa_nil)) (pa_nil))) (pa_cons (pe_tup (pa_nil)) (pa_cons (pv 0) (pa_cons (pe_tup (pa_cons (pe_str) (pa_nil))) (pa_nil)))))) (pa_nil))))))) (pss_cons (ps_set (i := 4) nd rfl (by first | exact Or.inl rfl | exact Or.inr rfl) (pe_op op_cat (pv 4) (pe_lst (pa_cons (pe_tup (pa_cons (pe_tup (pa_cons (pe_tup (pa_cons (pe_str) (pa_cons (pe_str) (pa_nil)))) (pa_cons (pe_tup (pa_cons (pe_str) (pa_cons (pe_str) (pa_nil)))) (pa_nil)))) (pa_cons (pv 3) (pa_cons (pv 0) (pa_cons (pe_tup (pa_cons (pe_str) (pa_cons (pe_str) (pa_cons (pe_str) (pa_nil))))) (pa_nil)))))) (pa_cons (pe_tup (pa_cons (pv 0) (pa_cons (pe_tup (pa_cons (pe_tup (pa_nil)) (pa_nil))) (pa_cons (pe_tup (pa_cons (pe_tup (pa_nil)) (pa_nil))) (pa_cons (pe_tup (pa_nil)) (pa_nil)))))) (pa_nil)))))) (pss_cons (ps_expr (pe_bm PySem.F.plainAttrs_list PySem.F.slot_list_append PySem.F.type_list_append mt_append (pv 4) (pa_cons (pe_tup (pa_cons (pe_cal Cthen hr (Nat.le_refl _) rfl (pa_cons (pv 3) (pa_cons (pv 3) (pa_nil)))) (pa_cons (pv 3) (pa_cons (pv 1) (pa_cons (pe_tup (pa_cons (pe_str) (pa_nil))) (pa_nil)))))) (pa_nil)))) (pss_cons (ps_expr (pe_bm PySem.F.plainAttrs_list PySem.F.slot_list_append PySem.F.type_list_append mt_append (pv 4) (pa_cons (pe_tup (pa_cons (pe_tup (pa_cons (pe_tup (pa_cons (pe_str) (pa_cons (pe_str) (pa_cons (pe_str) (pa_nil))))) (pa_nil))) (pa_cons (pv 0) (pa_cons (pv 1) (pa_cons (pe_tup (pa_cons (pe_str) (pa_cons (pe_str) (pa_cons (pe_str) (pa_nil))))) (pa_nil)))))) (pa_nil)))) (pss_cons (ps_for PassesOwn.never rfl (pi_seq (pv 4)) (pg_tup rfl (pgs_cons (pg_name (i := 5) nd rfl (by first | exact Or.inl rfl | exact Or.inr rfl)) (pgs_cons (pg_name (i := 6) nd rfl (by first | exact Or.inl rfl | exact Or.inr rfl)) (pgs_cons (pg_name (i := 7) nd rfl (by first | exact Or.inl rfl | exact Or.inr rfl)) (pgs_cons (pg_name (i := 8) nd rfl (by first | exact Or.inl rfl | exact Or.inr rfl)) (pgs_nil)))))) (pss_cons (ps_if (PW.pt (pw_or (pt_not (pt_val (pe_cal C_law_leads_right hr (Nat.le_refl _) rfl (pa_cons (pv 5) (pa_cons (pv 6) (pa_cons (pv 7) (pa_cons (pv 8) (pa_nil)))))))) (pw_or1 (pt_not (pt_val (pe_cal C_law_pairs_right hr (Nat.le_refl _) rfl (pa_cons (pv 5) (pa_cons (pv 6) (pa_cons (pv 7) (pa_nil)))))))))) (pss_one (ps_ret (pe_bl))) (pss_nil)) (pss_one (ps_if (PW.pt (pw_or (pt_not (pt_val (pe_cal C_law_cuts_right hr (Nat.le_refl _) rfl (pa_cons (pv 5) (pa_nil))))) (pw_or1 (pt_not (pt_val (pe_cal C_law_sides_right hr (Nat.le_refl _) rfl (pa_cons (pv 5) (pa_cons (pv 6) (pa_cons (pv 7) (pa_cons (pe_lst (pa_cons (pe_tup (pa_nil)) (pa_cons (pe_tup (pa_cons (pe_str) (pa_nil))) (pa_cons (pe_tup (pa_cons (pe_str) (pa_cons (pe_str) (pa_nil)))) (pa_nil))))) (pa_nil))))))))))) (pss_one (ps_ret (pe_bl))) (pss_nil))))) (pss_cons (ps_set (i := 9) nd rfl (by first | exact Or.inl rfl | exact Or.inr rfl) (pe_lst (pa_cons (pe_callB call_len rfl T.b_len (by decide +kernel) (pa_cons (pe_cal Csplits hr (Nat.le_refl _) rfl (pa_cons (pe_cal Cthen hr (Nat.le_refl _) rfl (pa_cons (pv 0) (pa_cons (pv 3) (pa_nil)))) (pa_nil))) (pa_nil))) (pa_cons (pe_callB call_len rfl T.b_len (by decide +kernel) (pa_cons (pe_cal Csplits hr (Nat.le_refl _) rfl (pa_cons (pe_cal Ctimes hr (Nat.le_refl _) rfl (pa_cons (pv 3) (pa_cons (pe_int) (pa_nil)))) (pa_nil))) (pa_nil))) (pa_cons (pe_callB call_len rfl T.b_len (by decide +kernel) (pa_cons (pe_cal Cpairs hr (Nat.le_refl _) rfl (pa_cons (pe_cal Ctimes hr (Nat.le_refl _) rfl (pa_cons (pv 3) (pa_cons (pe_int) (pa_nil)))) (pa_nil))) (pa_nil))) (pa_nil)))))) (pss_one (ps_ret (pe_cal C_law_same hr (Nat.le_refl _) rfl (pa_cons (pv 9) (pa_cons (pe_lst (pa_cons (pe_int) (pa_cons (pe_int) (pa_cons (pe_int) (pa_nil))))) (pa_nil)))))))))))))
theorem bn_law_by_hand_right {K : PySem.W.Frag} {f : Addr} {fd : FuncData} (F : FnP K "_law_by_hand_right" s_law_by_hand_right f fd) : Binds K fd [] [] := F.bindsN fun _ _ _ _ _ _ us hl => match us, hl with | [], _ => rfl
end MoD
set_option maxHeartbeats 4000000
/-! the bases written by hand -/
namespace MoD
open PySem PySem.Spec PyProof.Rows L2 MoR PySem.W
def bAB : Bs := [["a", "b"]]
def bA : Bs := [["a"]]
def bB : Bs := [["b"]]
def bE : Bs := [["a"], ["b"]]
def bT2 : Bs := [["a", "a"], ["a", "b"], ["b", "a"], ["b", "b"]]
def bT3 : Bs := [["a", "a", "a"], ["a", "a", "b"], ["a", "b", "a"], ["a", "b", "b"], ["b", "a", "a"], ["b", "a", "b"], ["b", "b", "a"], ["b", "b", "b"]]
theorem t2_eq : Mo.thenB leW bE bE = bT2 := by decide +kernel
theorem t3_eq : Mo.thenB leW bT2 bE = bT3 := by decide +kernel
theorem bE_cb : Mo.CB leW bE := by
  have : Mo.leastOf leW bE = bE := by decide +kernel
  rw [← this]; exact Mo.cb_leastOf ordW _
theorem rev_t3 : Mo.rev leW bT3 = bT3 := by decide +kernel
theorem steps_t3 : ∀ s ∈ Mo.ALW :: [bT3, bT2, bE], ∀ n ∈ Mo.heads s, Mo.step leW s n ∈ Mo.ALW :: [bT3, bT2, bE] := by decide +kernel
theorem t2_cb : Mo.CB leW bT2 := by rw [← t2_eq]; exact Mo.cb_thenB ordW bE_cb bE_cb
theorem t3_cb : Mo.CB leW bT3 := by rw [← t3_eq]; exact Mo.cb_thenB ordW t2_cb bE_cb
theorem rev_t2 : Mo.rev leW bT2 = bT2 := by decide +kernel
theorem rev_e : Mo.rev leW bE = bE := by decide +kernel
theorem cbs_t3 : ∀ s ∈ Mo.ALW :: [bT3, bT2, bE], Mo.CB leW s := fun s hs => by
  simp only [List.mem_cons, List.not_mem_nil, or_false] at hs
  rcases hs with rfl | rfl | rfl | rfl
  · exact Mo.cb_one _
  · exact t3_cb
  · exact t2_cb
  · exact bE_cb
theorem n1_t3 : Mo.Nice1 leW bT3 := Mo.nice1_list (Q := [bT3, bT2, bE]) ordW t3_cb (by decide +kernel) (by decide +kernel) (by decide +kernel) ⟨["a", "b"], by decide, by decide +kernel⟩ (by decide +kernel) cbs_t3 steps_t3 (by decide) (by decide +kernel)
theorem n1_t2 : Mo.Nice1 leW bT2 := Mo.nice1_list (Q := [bT3, bT2, bE]) ordW t2_cb (by decide +kernel) (by decide +kernel) (by decide +kernel) ⟨["a", "b"], by decide, by decide +kernel⟩ (by decide +kernel) cbs_t3 steps_t3 (by decide) (by decide +kernel)
theorem nice_t3 : Mo.Nice leW bT3 := ⟨n1_t3, by rw [rev_t3]; exact n1_t3⟩
theorem nice_t2 : Mo.Nice leW bT2 := ⟨n1_t2, by rw [rev_t2]; exact n1_t2⟩
theorem cb_least {W : Bs} (h : Mo.leastOf leW W = W) : Mo.CB leW W := by rw [← h]; exact Mo.cb_leastOf ordW _
theorem nice_ab : Mo.Nice leW bAB := Mo.nice_drawn ordW (Mo.cb_one _) ⟨["a", "b"], by decide, by decide +kernel⟩ (.inl ⟨by decide, by decide +kernel⟩)
theorem nice_nev : Mo.Nice leW ([] : Bs) := Mo.nice_drawn ordW Mo.cb_nil ⟨[], by decide, fun w h => (by cases h)⟩ (.inl ⟨by decide, fun w h => (by cases h)⟩)
theorem nice_alw : Mo.Nice leW (Mo.ALW : Bs) := Mo.nice_drawn ordW (Mo.cb_one _) ⟨[], by decide, by decide +kernel⟩ (.inl ⟨by decide, by decide +kernel⟩)
def bAbBa : Bs := [["a", "b"], ["b", "a"]]
def bABA : Bs := [["a", "b", "a"]]
def bS3 : Bs := [["a", "b", "a"], ["a", "b", "b"]]
theorem nice_abba : Mo.Nice leW bAbBa := Mo.nice_drawn ordW (cb_least (by decide +kernel)) ⟨["a", "b"], by decide, by decide +kernel⟩ (.inl ⟨by decide, by decide +kernel⟩)
theorem nice_aba : Mo.Nice leW bABA := Mo.nice_drawn ordW (Mo.cb_one _) ⟨["a", "b"], by decide, by decide +kernel⟩ (.inr ⟨by decide, by decide +kernel⟩)
theorem s3_eq : Mo.thenB leW bAB bE = bS3 := by decide +kernel
theorem s3_cb : Mo.CB leW bS3 := by rw [← s3_eq]; exact Mo.cb_thenB ordW (Mo.cb_one _) bE_cb
theorem nice_s3 : Mo.Nice leW bS3 := Mo.nice_drawn ordW s3_cb ⟨["a", "b"], by decide, by decide +kernel⟩ (.inr ⟨by decide, by decide +kernel⟩)
/-! ### stages of one sign each -/
theorem stage_one {p : Bs} (hc : Mo.CB leW p) (hne : p ≠ []) (h1 : ∀ w ∈ p, w.length = 1) : Mo.Stage (le := leW) p := by
  refine ⟨hc, hne, fun z => ?_, fun A B hA hB e => ?_⟩
  · have := h1 [] (by rw [z]; exact List.mem_cons_self)
    cases this
  · obtain ⟨nA, nB⟩ := Mo.ne_of_thenB (le := leW) (A := A) (B := B) (by rw [← e]; exact hne)
    obtain ⟨a, ha⟩ := List.exists_mem_of_ne_nil _ nA
    obtain ⟨b, hb⟩ := List.exists_mem_of_ne_nil _ nB
    have hl := h1 (a ++ b) (by rw [e]; exact Mo.mem_thenB.mpr ⟨a, ha, b, hb, rfl⟩)
    rw [List.length_append] at hl
    by_cases c : a.length = 0
    · left
      rw [List.eq_nil_of_length_eq_zero c] at ha
      exact Mo.cb_always hA ha
    · right
      rw [List.eq_nil_of_length_eq_zero (by omega : b.length = 0)] at hb
      exact Mo.cb_always hB hb
theorem canon_len_nodup {β : Type} [DecidableEq β] {le : β → β → Bool} (o : Mo.TOrd le) {l : List β} (h : l.Nodup) : (Mo.canon le l).length = l.length :=
  Nat.le_antisymm (Mo.canon_len o l) (Mo.nodup_le h fun x hx => Mo.mem_canon.mpr hx)
abbrev leBB : Bs → Bs → Bool := leE Bs
abbrev PBB := Bs × Bs
theorem splits_len {W : Bs} {ps : List Bs} (h : ∀ p ∈ ps, Mo.Stage (le := leW) p) (e : Mo.prodB leW ps = W) {L : List PBB} (hL : Mo.Rise (leE PBB) L) (hm : ∀ A B, (A, B) ∈ L ↔ Mo.Pair (le := leW) (leB := leBB) W A B) : (L.filter (Mo.isSplit leW W)).length = ps.length - 1 := by
  rw [Mo.splits_due ordW (ordE Bs) (ordE PBB) h e hL hm, canon_len_nodup (ordE PBB) (Mo.due_nodup ordW h)]
  unfold Mo.due
  rw [List.length_map, List.length_range]
theorem st_a : Mo.Stage (le := leW) bA := stage_one (Mo.cb_one _) (by decide) (by decide +kernel)
theorem st_b : Mo.Stage (le := leW) bB := stage_one (Mo.cb_one _) (by decide) (by decide +kernel)
theorem st_e : Mo.Stage (le := leW) bE := stage_one bE_cb (by decide) (by decide +kernel)
theorem sp_s3 {L : List PBB} (hL : Mo.Rise (leE PBB) L) (hm : ∀ A B, (A, B) ∈ L ↔ Mo.Pair (le := leW) (leB := leBB) bS3 A B) : (L.filter (Mo.isSplit leW bS3)).length = 2 :=
  splits_len (ps := [bA, bB, bE]) (fun p hp => by
    simp only [List.mem_cons, List.not_mem_nil, or_false] at hp
    rcases hp with rfl | rfl | rfl
    · exact st_a
    · exact st_b
    · exact st_e) (by decide +kernel) hL hm
theorem sp_t3 {L : List PBB} (hL : Mo.Rise (leE PBB) L) (hm : ∀ A B, (A, B) ∈ L ↔ Mo.Pair (le := leW) (leB := leBB) bT3 A B) : (L.filter (Mo.isSplit leW bT3)).length = 2 :=
  splits_len (ps := [bE, bE, bE]) (fun p hp => by
    simp only [List.mem_cons, List.not_mem_nil, or_false] at hp
    rcases hp with rfl | rfl | rfl <;> exact st_e) (by decide +kernel) hL hm
/-! ### the pairs of the third power -/
def ab (c : Str) : Bool := decide (c ∈ (["a", "b"] : List Str))
def cn (x : Wd) : Nat := (x.filter ab).length
theorem cn_app (x y : Wd) : cn (x ++ y) = cn x + cn y := by unfold cn; rw [List.filter_append, List.length_append]
theorem cn_cons (c : Str) (x : Wd) : cn (c :: x) = (if ab c = true then 1 else 0) + cn x := by
  unfold cn
  rw [List.filter_cons]
  split
  · rw [List.length_cons]; omega
  · omega
def pw : Nat → Bs
  | 0 => Mo.ALW
  | k + 1 => Mo.thenB leW (pw k) bE
theorem done_e {x : Wd} : Mo.Done bE x ↔ 1 ≤ cn x := by
  constructor
  · rintro ⟨w, hw, s⟩
    have hc : ∃ c, w = [c] ∧ ab c = true := by
      simp only [bE, List.mem_cons, List.not_mem_nil, or_false] at hw
      rcases hw with rfl | rfl
      · exact ⟨_, rfl, by decide +kernel⟩
      · exact ⟨_, rfl, by decide +kernel⟩
    obtain ⟨c, rfl, h⟩ := hc
    have hm : c ∈ x.filter ab := List.mem_filter.mpr ⟨List.singleton_sublist.mp s, h⟩
    exact List.length_pos_of_mem hm
  · intro h
    obtain ⟨c, hc⟩ := List.exists_mem_of_length_pos h
    obtain ⟨h1, h2⟩ := List.mem_filter.mp hc
    have h3 : c ∈ (["a", "b"] : List Str) := of_decide_eq_true h2
    refine ⟨[c], ?_, List.singleton_sublist.mpr h1⟩
    simp only [List.mem_cons, List.not_mem_nil, or_false] at h3
    rcases h3 with rfl | rfl
    · exact List.mem_cons_self
    · exact List.mem_cons_of_mem _ List.mem_cons_self
theorem cn_split : ∀ (x : Wd) (k : Nat), k + 1 ≤ cn x → ∃ l1 l2, x = l1 ++ l2 ∧ k ≤ cn l1 ∧ 1 ≤ cn l2
  | [], k, h => by simp [cn] at h
  | c :: r, k, h => by
    rw [cn_cons] at h
    by_cases h1 : k + 1 ≤ cn r
    · obtain ⟨l1, l2, e, a, b⟩ := cn_split r k h1
      exact ⟨c :: l1, l2, by rw [e]; rfl, by rw [cn_cons]; omega, b⟩
    · have hc : ab c = true := by
        by_cases z : ab c = true
        · exact z
        · rw [if_neg z] at h; omega
      rw [if_pos hc] at h
      cases k with
      | zero => exact ⟨[], c :: r, rfl, Nat.zero_le _, by rw [cn_cons, if_pos hc]; omega⟩
      | succ k =>
        obtain ⟨l1, l2, e, a, b⟩ := cn_split r k (by omega)
        exact ⟨c :: l1, l2, by rw [e]; rfl, by rw [cn_cons, if_pos hc]; omega, b⟩
theorem done_pw : ∀ (k : Nat) (x : Wd), Mo.Done (pw k) x ↔ k ≤ cn x
  | 0, x => ⟨fun _ => Nat.zero_le _, fun _ => Mo.done_always x⟩
  | k + 1, x => by
    show Mo.Done (Mo.thenB leW (pw k) bE) x ↔ _
    rw [Mo.done_thenB]
    constructor
    · rintro ⟨l1, l2, rfl, h1, h2⟩
      have := (done_pw k l1).mp h1
      have := done_e.mp h2
      rw [cn_app]; omega
    · intro h
      obtain ⟨l1, l2, e, a, b⟩ := cn_split x k h
      exact ⟨l1, l2, e, (done_pw k l1).mpr a, done_e.mpr b⟩
theorem cb_pw : ∀ k, Mo.CB leW (pw k)
  | 0 => Mo.cb_one _
  | k + 1 => Mo.cb_thenB ordW (cb_pw k) bE_cb
theorem pw3 : pw 3 = bT3 := by decide +kernel
theorem pairs_t3 {L : List PBB} (hL : Mo.Rise (leE PBB) L) (hm : ∀ A B, (A, B) ∈ L ↔ Mo.Pair (le := leW) (leB := leBB) bT3 A B) : L.length = 4 := by
  have cut : ∀ k, k ≤ 3 → Mo.Pair (le := leW) (leB := leBB) bT3 (pw k) (pw (3 - k)) := fun k hk => by
    have e : Mo.thenB leW (pw k) (pw (3 - k)) = bT3 := by
      have : k = 0 ∨ k = 1 ∨ k = 2 ∨ k = 3 := by omega
      rcases this with rfl | rfl | rfl | rfl <;> decide +kernel
    have ne : ∀ j, pw j ≠ [] := fun j z => by
      have h := (done_pw j (List.replicate j "a")).mpr (by
        unfold cn
        rw [List.filter_eq_self.mpr (fun c hc => by rw [List.eq_of_mem_replicate hc]; decide +kernel), List.length_replicate]
        exact Nat.le_refl _)
      rw [z] at h
      exact Mo.done_nil _ h
    have := Mo.cut_pair (leB := leBB) ordW (ordE Bs) (cb_pw k) (cb_pw (3 - k)) (ne k) (ne (3 - k))
    rwa [e] at this
  have up : ∀ B : Bs, ∃ k, k ≤ 3 ∧ ∀ x : Wd, (∀ e ∈ B, 3 ≤ cn x + cn e) ↔ k ≤ cn x := fun B => by
    induction B with
    | nil => exact ⟨0, by decide, fun x => ⟨fun _ => Nat.zero_le _, fun _ e he => (by cases he)⟩⟩
    | cons e B ih =>
      obtain ⟨k, hk, h⟩ := ih
      refine ⟨max (3 - cn e) k, by omega, fun x => ?_⟩
      rw [List.forall_mem_cons, h x]
      omega
  have all : ∀ p ∈ L, p ∈ [(pw 0, pw 3), (pw 1, pw 2), (pw 2, pw 1), (pw 3, pw 0)] := fun p hp => by
    obtain ⟨A, B⟩ := p
    have hp' := (hm A B).mp hp
    obtain ⟨k, hk, hu⟩ := up B
    have hA : A = pw k := by
      rw [hp'.one]
      refine (Mo.isBase_lead (leB := leBB) ordW (ordE Bs) bT3 B).unique ordW (⟨cb_pw k, fun x => ?_⟩ : Mo.IsBase leW (pw k) _)
      rw [done_pw, ← hu x]
      refine ⟨fun h e he => ?_, fun h e he => ?_⟩
      · rw [← pw3, done_pw, cn_app]; exact h e he
      · have := h e he
        rwa [← pw3, done_pw, cn_app] at this
    have hB : B = pw (3 - k) := by
      rw [hp'.two, hA, ← (cut k hk).two]
    rw [hA, hB]
    have : k = 0 ∨ k = 1 ∨ k = 2 ∨ k = 3 := by omega
    rcases this with rfl | rfl | rfl | rfl <;> simp
  have back : ∀ p ∈ [(pw 0, pw 3), (pw 1, pw 2), (pw 2, pw 1), (pw 3, pw 0)], p ∈ L := fun p hp => by
    simp only [List.mem_cons, List.not_mem_nil, or_false] at hp
    rcases hp with rfl | rfl | rfl | rfl
    · exact (hm _ _).mpr (cut 0 (by decide))
    · exact (hm _ _).mpr (cut 1 (by decide))
    · exact (hm _ _).mpr (cut 2 (by decide))
    · exact (hm _ _).mpr (cut 3 (by decide))
  have nd : [(pw 0, pw 3), (pw 1, pw 2), (pw 2, pw 1), (pw 3, pw 0)].Nodup := by decide +kernel
  exact Nat.le_antisymm (Mo.nodup_le hL.nodup all) (Mo.nodup_le nd back)
end MoD
set_option maxHeartbeats 4000000
/-! same; the law by hand: it holds -/
namespace MoD
open PySem PySem.Spec PyProof.Rows L2 MoR PySem.W Evl
variable {P : Program} {w : World} {K : PySem.W.Frag} {nv av : Addr}
/-! ### same -/
abbrev spsame0 (K : PySem.W.Frag) : Sp := spP (fun i : Nat => [isP K i, isP K i]) (fun _ => True) (fun _ _ => isP K true)
abbrev spsame1 (K : PySem.W.Frag) : Sp := spP (fun i : List Nat => [ltP K i, ltP K i]) (fun i => i.length ≤ 1000) (fun _ _ => isP K true)
theorem et_isT2 {σ : L2.St} {H : Hp} {v : V} {i : Nat} {b : Bool} {n1 n2 : String} (hs : σ[i]? = some (some v)) (hv : ∀ H', Ex H H' → ∃ t, TyX K H' v t ∧ PySem.W.kitAny K t [.type n1, .type n2] = some b) :
    EvT (tB (tCB (rIsiT K) (tCons (tVar i) (tCons (tTup (tCons (tC (.ty n1)) (tCons (tC (.ty n2)) tNil))) tNil)))) σ H b := fun H1 e Q q =>
  ⟨v, hs, by show 2 ≤ sizeLine; decide, fun p hp => by
    obtain ⟨t, ht, hb⟩ := hv _ (e.trans (Ex.new hp))
    exact ⟨v, p, [.ty n1, .ty n2], t, [.type n1, .type n2], b, rfl, upd_same, .cons (.ty _) (.cons (.ty _) .nil), ht, hb, b, rfl, q _ (Ex.new hp)⟩⟩
theorem kit2 {a n1 n2 : String} (h1 : kitB a n1 = some false) (h2 : kitB a n2 = some false) : PySem.W.kitAny K (.type a) [.type n1, .type n2] = some false :=
  kitAny_cons (b := false) (kit_ty h1) (fun _ => kitAny_cons (b := false) (kit_ty h2) (fun _ => rfl) fun h => nomatch h) fun h => nomatch h
theorem kit2t {a n1 n2 : String} (h1 : kitB a n1 = some true) : PySem.W.kitAny K (.type a) [.type n1, .type n2] = some true :=
  kitAny_cons (b := true) (kit_ty h1) (fun h => nomatch h) fun _ => rfl
theorem tyx_int {H : Hp} {v : V} {n : Nat} (h : Is K H v n) : TyX K H v (.type "int") := by
  rw [Is.nat h]; exact .base (.int _)
theorem pure_same0 (vs : List V) (H : Hp) (Q : VK) (E : XK) (h : spsame0 K vs H Q E) {sp : Sp} : tr_law_same K nv av sp { nx := fun _ H' => Q .non H', rt := Q } (L2.start N_law_same vs) H := by
  obtain ⟨n, h, _, q⟩ := h
  obtain ⟨v1, v2, rfl, i1, i2⟩ := all2 h
  unfold tr_law_same
  refine sq (ms_if (b := false) (et_isT2 rfl fun H' e => ⟨_, tyx_int (i2.ex e), kit2 (by decide +kernel) (by decide +kernel)⟩) (fun hb => nomatch hb) fun _ H1 e1 => ?_)
  try unfold tNext
  dsimp only
  refine sq (ms_if (b := false) (et_or (a := false) (b := false) (et_T (K := K) (ep_isN (K := K) (R := isP K n) (ep_vis rfl (i2.ex e1)) fun v H1 h => by rw [Is.nat h]; rfl)) fun _ => et_isT2 rfl fun H' e => ⟨_, tyx_int (i2.ex (e1.trans e)), kit2 (by decide +kernel) (by decide +kernel)⟩) (fun hb => nomatch hb) fun _ H2 e2 => ?_)
  try unfold tNext
  dsimp only
  have e12 := e1.trans e2
  refine ms_ret (P := isP K true) (ep_and (a := true) (b := true) (ep_isi rfl fun H' e => ⟨_, tyx_int (i1.ex (e12.trans e)), kit_ty (by decide +kernel)⟩) fun _ => ep_and (a := true) (b := true) (ep_not (b := false) (ep_isi rfl fun H' e => ⟨_, tyx_int (i1.ex (e12.trans e)), kit_ty (by decide +kernel)⟩)) fun _ => EvP.at (ep_eq (x := n) (y := n) (ep_vis rfl (i1.ex e12)) (ep_vis rfl (i2.ex e12))) (by simp)) fun v H3 e3 r => q v H3 (e12.trans e3) r
theorem tyx_lst {H : Hp} {a : Addr} {vs : List V} (h : H a = some (.lst vs)) : TyX K H (.ref a) (.type "list") := .base (.lst h)
theorem pure_same1 (vs : List V) (H : Hp) (Q : VK) (E : XK) (h : spsame1 K vs H Q E) : tr_law_same K nv av (spsame0 K) { nx := fun _ H' => Q .non H', rt := Q } (L2.start N_law_same vs) H := by
  obtain ⟨n, h, hn, q⟩ := h
  obtain ⟨v1, v2, rfl, i1, i2⟩ := all2 h
  replace hn : n.length ≤ 1000 := hn
  obtain ⟨a, us, rfl, _, a1, a2⟩ := i1
  obtain ⟨b, ws, rfl, _, b1, b2⟩ := i2
  unfold tr_law_same
  have la : ∀ {H' : Hp}, Ex H H' → ∀ H'', Ex H' H'' → ∀ {c : String} {r : Bool}, kitB "list" c = some r → ∃ t, TyX K H'' (.ref a) t ∧ PySem.W.kitOne K t (.type c) = some r := fun e H'' e2 c r hk => ⟨_, tyx_lst ((e.trans e2) _ _ a1), kit_ty hk⟩
  have lb : ∀ {H' : Hp}, Ex H H' → ∀ H'', Ex H' H'' → ∀ {c : String} {r : Bool}, kitB "list" c = some r → ∃ t, TyX K H'' (.ref b) t ∧ PySem.W.kitOne K t (.type c) = some r := fun e H'' e2 c r hk => ⟨_, tyx_lst ((e.trans e2) _ _ b1), kit_ty hk⟩
  refine sq (ms_if (b := true) (et_isT2 rfl fun H' e => ⟨_, tyx_lst (e _ _ b1), kit2t (by decide +kernel)⟩) (fun _ H1 e1 => ?_) fun hb => nomatch hb)
  refine sq (ms_if (b := false) (EvT.at (et_T (ep_ne (x := true) (y := true) (ep_isi rfl fun H' e => la e1 H' e (by decide +kernel)) (ep_isi rfl fun H' e => lb e1 H' e (by decide +kernel)))) (by simp)) (fun hb => nomatch hb) fun _ H2 e2 => ?_)
  try unfold tNext
  dsimp only
  have e12 := e1.trans e2
  refine sq (ms_if (b := false) (EvT.at (et_T (ep_ne (x := false) (y := false) (ep_isi rfl fun H' e => la e12 H' e (by decide +kernel)) (ep_isi rfl fun H' e => lb e12 H' e (by decide +kernel)))) (by simp)) (fun hb => nomatch hb) fun _ H3 e3 => ?_)
  try unfold tNext
  dsimp only
  have e13 := e12.trans e3
  have va : EvP (tVar 0) [some (.ref a), some (.ref b), none, none] H3 (ltP K n) := ep_var rfl (mono_nl _) ⟨a, us, rfl, rfl, e13 _ _ a1, ImAll.ex e13 a2⟩
  have vb : EvP (tVar 1) [some (.ref a), some (.ref b), none, none] H3 (ltP K n) := ep_var rfl (mono_nl _) ⟨b, ws, rfl, rfl, e13 _ _ b1, ImAll.ex e13 b2⟩
  refine ms_ret (P := isP K true) (ep_and (a := true) (b := true) (EvP.at (ep_eq (x := n.length) (y := n.length) (ep_len va.sqn) (ep_len vb.sqn)) (by simp)) fun _ => EvP.at (ep_all (el_lc2n (fun _ => true) (fun _ : Nat × Nat => true) (wk_zipL va vb (fun _ _ _ p => by obtain ⟨a, us, h1, _, h2, h3⟩ := p; exact ⟨a, us, h1, sq_of h2, h3⟩) fun _ _ _ p => by obtain ⟨a, us, h1, _, h2, h3⟩ := p; exact ⟨a, us, h1, sq_of h2, h3⟩) (by rw [List.length_zip]; omega) (fun _ _ => rfl) (fun _ _ _ _ _ _ _ _ => et_yes) fun p hp u w H4 e4 iu iw _ => ?_)) ?_) fun v H4 e4 r => q v H4 (e13.trans e4) r
  · have hpp : p.1 = p.2 := by
      obtain ⟨i, hi⟩ := List.getElem?_of_mem hp
      obtain ⟨g1, g2⟩ := MoR.zip_get hi
      rw [g1] at g2
      exact Option.some.inj g2
    rw [← hpp] at iw
    exact ep_sp p.1 trivial (ea_cons' (ep_vis rfl iu) (mono_is _) (ea_cons' (ep_vis rfl iw) (mono_is _) ea_nil')) fun _ _ _ _ r => r
  · rw [List.filter_eq_self.mpr (fun _ _ => rfl)]
    exact all_true _
theorem call_same1 {σ : L2.St} {H : Hp} {ts : TA} {n : List Nat} (hn : n.length ≤ 1000) (h : EvAs ts σ H [ltP K n, ltP K n]) : EvP (tCall (spsame1 K) [] E0 ts) σ H (isP K true) := ep_sp n hn h fun _ _ _ _ r => r
end MoD
set_option maxHeartbeats 4000000
/-! by hand -/
namespace MoD
open PySem PySem.Spec PyProof.Rows L2 MoR PySem.W Evl
variable {P : Program} {w : World} {K : PySem.W.Frag} {nv av : Addr}
/-- a case: a base, one, two, a row -/
structure C4 where
  w : Bs
  a : Bs
  b : Bs
  r : Wd
instance : Ec C4 := ⟨fun c => .tuple [Ec.enc c.w, Ec.enc c.a, Ec.enc c.b, Ec.enc c.r]⟩
theorem ep_c4 {σ : L2.St} {H : Hp} {ta tb tc td : TE} {c : C4} (ha : EvP ta σ H (isP K c.w)) (hb : EvP tb σ H (isP K c.a)) (hc : EvP tc σ H (isP K c.b)) (hd : EvP td σ H (isP K c.r)) : EvP (tTup (tCons ta (tCons tb (tCons tc (tCons td tNil))))) σ H (isP K c) := fun H1 e Q q =>
  ha H1 e _ fun u1 H2 e2 p1 => hb H2 (e.trans e2) _ fun u2 H3 e3 p2 => hc H3 ((e.trans e2).trans e3) _ fun u3 H4 e4 p3 => hd H4 (((e.trans e2).trans e3).trans e4) _ fun u4 H5 e5 p4 => ⟨by show 4 ≤ sizeLine; decide, fun r hr => q _ _ ((((e2.trans e3).trans e4).trans e5).trans (Ex.new hr))
    (.tup (st_of upd_same) (.cons (Im.ex (((e3.trans e4).trans e5).trans (Ex.new hr)) p1) (.cons (Im.ex ((e4.trans e5).trans (Ex.new hr)) p2) (.cons (Im.ex (e5.trans (Ex.new hr)) p3) (.cons (Im.ex (Ex.new hr) p4) .nil)))))⟩
theorem g4_run {σ : L2.St} {H : Hp} {i j k l : Nat} {c : C4} {v : V} {Q : L2.St → Hp → Prop} (h : Is K H v c) (q : ∀ u1 u2 u3 u4, Is K H u1 c.w → Is K H u2 c.a → Is K H u3 c.b → Is K H u4 c.r → Q ((((σ.set i (some u1)).set j (some u2)).set k (some u3)).set l (some u4)) H) :
    gTup K 4 (gCons (gName i) (gCons (gName j) (gCons (gName k) (gCons (gName l) gNil)))) v σ H Q := by
  cases h with
  | tup h1 h2 =>
    cases h2 with
    | cons a1 t =>
      cases t with
      | cons a2 t =>
        cases t with
        | cons a3 t =>
          cases t with
          | cons a4 t =>
            cases t
            exact ⟨_, _, rfl, h1, rfl, _, _, rfl, _, _, rfl, _, _, rfl, _, _, rfl, rfl, q _ _ _ _ a1 a2 a3 a4⟩
theorem ms_tup3 {σ : L2.St} {H : Hp} {D : Ends} {R1 R2 R3 : VP} {i j k : Nat} {ta tb tc : TE} (h1 : EvP ta σ H R1) (m1 : MonoP R1) (h2 : EvP tb σ H R2) (m2 : MonoP R2) (h3 : EvP tc σ H R3) (m3 : MonoP R3) (kk : ∀ u v x H1, Ex H H1 → R1 u H1 → R2 v H1 → R3 x H1 → D.nx (((σ.set i (some u)).set j (some v)).set k (some x)) H1) :
    tAsg (tTup (tCons ta (tCons tb (tCons tc tNil)))) (gTup K 3 (gCons (gName i) (gCons (gName j) (gCons (gName k) gNil)))) D σ H :=
  h1 H (Ex.refl H) _ fun u H1 e1 p1 => h2 H1 e1 _ fun v H2 e2 p2 => h3 H2 (e1.trans e2) _ fun x H3 e3 p3 => ⟨by show 3 ≤ sizeLine; decide, fun l hl =>
    ⟨l, _, rfl, st_of upd_same, rfl, u, _, rfl, v, _, rfl, x, _, rfl, rfl, kk u v x _ (((e1.trans e2).trans e3).trans (Ex.new hl)) (m1 _ _ _ ((e2.trans e3).trans (Ex.new hl)) p1) (m2 _ _ _ (e3.trans (Ex.new hl)) p2) (m3 _ _ _ (Ex.new hl) p3)⟩⟩
theorem ep_tup3 {σ : L2.St} {H : Hp} {ta tb tc : TE} {α : Type} [Ec α] {x y z : α} (ha : EvP ta σ H (isP K x)) (hb : EvP tb σ H (isP K y)) (hc : EvP tc σ H (isP K z)) : EvP (tTup (tCons ta (tCons tb (tCons tc tNil)))) σ H (isP K [x, y, z]) := fun H1 e Q q =>
  ha H1 e _ fun u1 H2 e2 p1 => hb H2 (e.trans e2) _ fun u2 H3 e3 p2 => hc H3 ((e.trans e2).trans e3) _ fun u3 H4 e4 p3 => ⟨by show 3 ≤ sizeLine; decide, fun r hr => q _ _ (((e2.trans e3).trans e4).trans (Ex.new hr))
    (Is.mk (st_of upd_same) (.cons (Im.ex ((e3.trans e4).trans (Ex.new hr)) p1) (.cons (Im.ex (e4.trans (Ex.new hr)) p2) (.cons (Im.ex (Ex.new hr) p3) .nil))))⟩
theorem ep_lst3 {σ : L2.St} {H : Hp} {ta tb tc : TE} {α : Type} [Ec α] {x y z : α} (ha : EvP ta σ H (isP K x)) (hb : EvP tb σ H (isP K y)) (hc : EvP tc σ H (isP K z)) : EvP (tLst (tCons ta (tCons tb (tCons tc tNil)))) σ H (nlP K H [x, y, z]) := fun H1 e Q q =>
  ha H1 e _ fun u1 H2 e2 p1 => hb H2 (e.trans e2) _ fun u2 H3 e3 p2 => hc H3 ((e.trans e2).trans e3) _ fun u3 H4 e4 p3 => ⟨by show 3 ≤ sizeLine; decide, fun r hr => q _ _ (((e2.trans e3).trans e4).trans (Ex.new hr))
    ⟨r, _, rfl, fresh_back (((e.trans e2).trans e3).trans e4) hr, upd_same, .cons (Im.ex ((e3.trans e4).trans (Ex.new hr)) p1) (.cons (Im.ex (e4.trans (Ex.new hr)) p2) (.cons (Im.ex (Ex.new hr) p3) .nil))⟩⟩
theorem ep_lst4 {σ : L2.St} {H : Hp} {ta tb tc td : TE} {α : Type} [Ec α] {x y z z2 : α} (ha : EvP ta σ H (isP K x)) (hb : EvP tb σ H (isP K y)) (hc : EvP tc σ H (isP K z)) (hd : EvP td σ H (isP K z2)) : EvP (tLst (tCons ta (tCons tb (tCons tc (tCons td tNil))))) σ H (nlP K H [x, y, z, z2]) := fun H1 e Q q =>
  ha H1 e _ fun u1 H2 e2 p1 => hb H2 (e.trans e2) _ fun u2 H3 e3 p2 => hc H3 ((e.trans e2).trans e3) _ fun u3 H4 e4 p3 => hd H4 (((e.trans e2).trans e3).trans e4) _ fun u4 H5 e5 p4 => ⟨by show 4 ≤ sizeLine; decide, fun r hr => q _ _ ((((e2.trans e3).trans e4).trans e5).trans (Ex.new hr))
    ⟨r, _, rfl, fresh_back ((((e.trans e2).trans e3).trans e4).trans e5) hr, upd_same, .cons (Im.ex (((e3.trans e4).trans e5).trans (Ex.new hr)) p1) (.cons (Im.ex ((e4.trans e5).trans (Ex.new hr)) p2) (.cons (Im.ex (e5.trans (Ex.new hr)) p3) (.cons (Im.ex (Ex.new hr) p4) .nil)))⟩⟩
/-- what is asked of a case -/
structure COk (c : C4) : Prop where
  t : Trio c.w c.a c.b
  n : Named c.w
  r : c.r.length ≤ 100
theorem named_ab {W : Bs} (h : ∀ l ∈ W, ∀ x ∈ l, x ∈ (["a", "b"] : List Str)) : Named W := fun l hl x hx => by
  have := h l hl x hx
  simp only [List.mem_cons, List.not_mem_nil, or_false] at this
  rcases this with rfl | rfl <;> exact ⟨by decide +kernel, by decide +kernel, by decide +kernel⟩
theorem two_of {W A B : Bs} (h : Mo.Nice leW W) (hl : ∀ w ∈ W, w.length ≤ 2) (n1 : A.length ≤ 2) (n2 : B.length ≤ 2) (w1 : ∀ u ∈ A, u.length ≤ 8) (w2 : ∀ u ∈ B, u.length ≤ 8) : Trio W A B := ⟨h, Mo.deep_amid ordW h.one.ls hl (Nat.mul_le_mul n1 n2), n1, n2, w1, w2⟩
def cases8 : List C4 := [⟨bAB, bA, bB, ["a"]⟩, ⟨bAB, bB, bA, ["b", "a"]⟩, ⟨[], bAB, [], []⟩, ⟨Mo.ALW, [], bAB, ["a"]⟩, ⟨bAbBa, bE, bAB, ["a", "a", "b"]⟩, ⟨bAB, Mo.ALW, Mo.ALW, []⟩, ⟨bT2, bE, bA, ["b"]⟩, ⟨bABA, bAB, bA, ["b", "a", "b"]⟩]
theorem cases_ok : ∀ c ∈ cases8, COk c := fun c hc => by
  simp only [cases8, List.mem_cons, List.not_mem_nil, or_false] at hc
  rcases hc with rfl | rfl | rfl | rfl | rfl | rfl | rfl | rfl
  · exact ⟨two_of nice_ab (by decide +kernel) (by decide) (by decide) (by decide +kernel) (by decide +kernel), named_ab (by decide +kernel), by decide⟩
  · exact ⟨two_of nice_ab (by decide +kernel) (by decide) (by decide) (by decide +kernel) (by decide +kernel), named_ab (by decide +kernel), by decide⟩
  · exact ⟨two_of nice_nev (by decide +kernel) (by decide) (by decide) (by decide +kernel) (by decide +kernel), named_ab (by decide +kernel), by decide⟩
  · exact ⟨two_of nice_alw (by decide +kernel) (by decide) (by decide) (by decide +kernel) (by decide +kernel), named_ab (by decide +kernel), by decide⟩
  · exact ⟨two_of nice_abba (by decide +kernel) (by decide) (by decide) (by decide +kernel) (by decide +kernel), named_ab (by decide +kernel), by decide⟩
  · exact ⟨two_of nice_ab (by decide +kernel) (by decide) (by decide) (by decide +kernel) (by decide +kernel), named_ab (by decide +kernel), by decide⟩
  · exact ⟨two_of nice_t2 (by decide +kernel) (by decide) (by decide) (by decide +kernel) (by decide +kernel), named_ab (by decide +kernel), by decide⟩
  · exact ⟨⟨nice_aba, Mo.deep_amid1 ordW nice_aba.one.ls (by decide +kernel) (by decide), by decide, by decide, by decide +kernel, by decide +kernel⟩, named_ab (by decide +kernel), by decide⟩
end MoD
set_option maxHeartbeats 4000000
/-! by_hand_right -/
namespace MoD
open PySem PySem.Spec PyProof.Rows L2 MoR PySem.W Evl
variable {P : Program} {w : World} {K : PySem.W.Frag} {nv av : Addr}
abbrev sp_law_by_hand_right (K : PySem.W.Frag) : Sp := spP (fun _ : Unit => []) (fun _ => True) (fun _ _ => isP K true)
theorem okB {b : Bs} (h : b.length ≤ 8) (hw : ∀ u ∈ b, u.length ≤ 8) : Ok b := ⟨by omega, fun u hu => by have := hw u hu; omega⟩
theorem pow3 : powB bE 3 = bT3 := by decide +kernel
theorem pure_by_hand (vs : List V) (H : Hp) (Q : VK) (E : XK) (h : sp_law_by_hand_right K vs H Q E) :
    tr_law_by_hand_right K nv av (spthen K) (sptimes K) (sppairs K) (spsplits K) (spsame1 K) (sp_law_leads_right K) (sp_law_sides_right K) (sp_law_pairs_right K) (sp_law_cuts_right K) { nx := fun _ H' => Q .non H', rt := Q } (L2.start N_law_by_hand_right vs) H := by
  obtain ⟨_, h, _, q⟩ := h
  cases h
  have wA : ∀ {σ : L2.St} {H : Hp}, EvP (tTup (tCons (tC (.str "a")) tNil)) σ H (isP K (["a"] : Wd)) := ep_tup1 (ep_str "a")
  have wB : ∀ {σ : L2.St} {H : Hp}, EvP (tTup (tCons (tC (.str "b")) tNil)) σ H (isP K (["b"] : Wd)) := ep_tup1 (ep_str "b")
  have wAB : ∀ {σ : L2.St} {H : Hp}, EvP (tTup (tCons (tC (.str "a")) (tCons (tC (.str "b")) tNil))) σ H (isP K (["a", "b"] : Wd)) := ep_tup2 (ep_str "a") (ep_str "b")
  have wBA : ∀ {σ : L2.St} {H : Hp}, EvP (tTup (tCons (tC (.str "b")) (tCons (tC (.str "a")) tNil))) σ H (isP K (["b", "a"] : Wd)) := ep_tup2 (ep_str "b") (ep_str "a")
  have wN : ∀ {σ : L2.St} {H : Hp}, EvP (tTup tNil) σ H (isP K ([] : Wd)) := ep_tup0
  have bN : ∀ {σ : L2.St} {H : Hp}, EvP (tTup tNil) σ H (isP K ([] : Bs)) := ep_tup0
  have oE : Ok bE := okB (by decide) (by decide +kernel)
  have oAB : Ok bAB := okB (by decide) (by decide +kernel)
  unfold tr_law_by_hand_right
  refine sq (ms_tup3 (R1 := isP K bAB) (R2 := isP K bA) (R3 := isP K bB) (ep_tup1 wAB) (mono_is _) (ep_tup1 wA) (mono_is _) (ep_tup1 wB) (mono_is _) fun v0 v1 v2 H1 e1 i0 i1 i2 => ?_)
  refine sq (ms_asg (P := isP K bE) (ep_tup2 wA wB) fun v3 H2 e2 i3 => ?_)
  have f0 := i0.ex e2
  have f1 := i1.ex e2
  have f2 := i2.ex e2
  refine sq (ms_asg (ep_lst4 (x := (⟨bAB, bA, bB, ["a"]⟩ : C4)) (y := ⟨bAB, bB, bA, ["b", "a"]⟩) (z := ⟨[], bAB, [], []⟩) (z2 := ⟨Mo.ALW, [], bAB, ["a"]⟩) (ep_c4 (ep_vis rfl f0) (ep_vis rfl f1) (ep_vis rfl f2) wA) (ep_c4 (ep_vis rfl f0) (ep_vis rfl f2) (ep_vis rfl f1) wBA) (ep_c4 bN (ep_vis rfl f0) bN wN) (ep_c4 (ep_tup1 wN) bN (ep_vis rfl f0) wA)) fun v4 H3 e3 p4 => ?_)
  have g0 := f0.ex e3
  have g1 := f1.ex e3
  have g3 := i3.ex e3
  refine sq (ms_asg (ep_catL (ep_var rfl (mono_nl _) p4) (ep_lst2 (x := (⟨bAbBa, bE, bAB, ["a", "a", "b"]⟩ : C4)) (y := ⟨bAB, Mo.ALW, Mo.ALW, []⟩) (ep_c4 (ep_tup2 wAB wBA) (ep_vis rfl g3) (ep_vis rfl g0) (ep_tup3 (ep_str "a") (ep_str "a") (ep_str "b"))) (ep_c4 (ep_vis rfl g0) (ep_tup1 wN) (ep_tup1 wN) wN)) (by decide)) fun v5 H4 e4 p5 => ?_)
  obtain ⟨l, us, rfl, hl0, hl1, hl2⟩ := p5
  have e14 := ((e1.trans e2).trans e3).trans e4
  have hlH : H l = none := fresh_back ((e1.trans e2).trans e3) hl0
  have k0 := g0.ex e4
  have k1 := g1.ex e4
  have k3 := g3.ex e4
  refine sq (ms_app (P := isP K (⟨bT2, bE, bA, ["b"]⟩ : C4)) rfl hl1 (ep_c4 (c := ⟨bT2, bE, bA, ["b"]⟩) (EvP.at (call_then oE oE (by decide) (ea_cons' (ep_vis rfl k3).sq (mono_sq _) (ea_cons' (ep_vis rfl k3).sq (mono_sq _) ea_nil'))) t2_eq) (ep_vis rfl k3) (ep_vis rfl k1) wB) (by have := IsAll.len hl2; simp at this; omega) fun v6 H5 e5 i6 => ?_)
  have l5 := e5 _ _ hl1
  have s6 : IsAll K (upd H5 l (.lst (us ++ [v6]))) (us ++ [v6]) _ := IsAll.snoc (ImAll.tk (.lst l5) (ImAll.ex e5 hl2)) (Im.tk (.lst l5) i6)
  have e16 : Ex H (upd H5 l (.lst (us ++ [v6]))) := Ex.mut (e14.trans e5) hlH
  have tk6 : Tk K H4 (upd H5 l (.lst (us ++ [v6]))) := (Tk.ex e5).trans (.lst l5)
  have m0 := Im.tk tk6 k0
  have m1 := Im.tk tk6 k1
  have m3 := Im.tk tk6 k3
  have l6 : (upd H5 l (.lst (us ++ [v6]))) l = some (.lst (us ++ [v6])) := upd_same
  generalize upd H5 l (.lst (us ++ [v6])) = H6 at s6 e16 m0 m1 m3 l6
  refine sq (ms_app (P := isP K (⟨bABA, bAB, bA, ["b", "a", "b"]⟩ : C4)) rfl l6 (ep_c4 (c := ⟨bABA, bAB, bA, ["b", "a", "b"]⟩) (ep_tup1 (ep_tup3 (ep_str "a") (ep_str "b") (ep_str "a"))) (ep_vis rfl m0) (ep_vis rfl m1) (ep_tup3 (ep_str "b") (ep_str "a") (ep_str "b"))) (by rw [IsAll.len s6]; exact (show 7 < 100000 by decide)) fun v7 H7 e7 i7 => ?_)
  have l7 := e7 _ _ l6
  have s8 : IsAll K (upd H7 l (.lst ((us ++ [v6]) ++ [v7]))) ((us ++ [v6]) ++ [v7]) cases8 := IsAll.snoc (ImAll.tk (.lst l7) (ImAll.ex e7 s6)) (Im.tk (.lst l7) i7)
  have e18 : Ex H (upd H7 l (.lst ((us ++ [v6]) ++ [v7]))) := Ex.mut (e16.trans e7) hlH
  have tk8 : Tk K H6 (upd H7 l (.lst ((us ++ [v6]) ++ [v7]))) := (Tk.ex e7).trans (.lst l7)
  have n0 := Im.tk tk8 m0
  have n3 := Im.tk tk8 m3
  have l8 : (upd H7 l (.lst ((us ++ [v6]) ++ [v7]))) l = some (.lst ((us ++ [v6]) ++ [v7])) := upd_same
  generalize upd H7 l (.lst ((us ++ [v6]) ++ [v7])) = H8 at s8 e18 n0 n3 l8
  refine sq (s_for (W := []) (xs := cases8) (wk_seq (ep_var (P := sqP K cases8) rfl (mono_sq _) ⟨l, _, rfl, .inl l8, s8⟩)) (fun H9 i σ' H' => Ex H9 H' ∧ ∃ x5 x6 x7 x8, σ' = [some v0, some v1, some v2, some v3, some (.ref l), x5, x6, x7, x8, none])
    (fun H9 e9 => ⟨Ex.refl _, none, none, none, none, rfl⟩) (fun H9 i σ' H' _ p => .of p.1) (fun H9 i c v σ' H' H10 e9 hx p e10 iv => ?_) fun H9 σ' H' e9 p => ?_)
  · obtain ⟨p1, x5, x6, x7, x8, rfl⟩ := p
    obtain ⟨hT, hN, hr⟩ := cases_ok c (List.mem_of_getElem? hx)
    refine g4_run iv fun u1 u2 u3 u4 j1 j2 j3 j4 => ?_
    show tSeq _ _ _ [some v0, some v1, some v2, some v3, some (.ref l), some u1, some u2, some u3, some u4, none] H10
    refine sq (ms_if (b := false) (et_or (a := false) (b := false) (et_not (a := true) (et_V (call_leads_right hT hr (ea_cons' (ep_vis rfl j1) (mono_is _) (ea_cons' (ep_vis rfl j2) (mono_is _) (ea_cons' (ep_vis rfl j3) (mono_is _) (ea_cons' (ep_vis rfl j4) (mono_is _) ea_nil'))))))) fun _ => et_not (a := true) (et_V (call_pairs_right hT.pin (ea_cons' (ep_vis rfl j1) (mono_is _) (ea_cons' (ep_vis rfl j2) (mono_is _) (ea_cons' (ep_vis rfl j3) (mono_is _) ea_nil')))))) (fun hb => nomatch hb) fun _ H11 e11 => ?_)
    try unfold tNext
    dsimp only
    refine ms_if (b := false) (et_or (a := false) (b := false) (et_not (a := true) (et_V (call_cuts_right hT.nice hN (ea_cons' (ep_vis rfl (j1.ex e11)) (mono_is _) ea_nil')))) fun _ => et_not (a := true) (et_V (call_sides_right (rows := [[], ["a"], ["b", "a"]]) hT (by decide) (by decide +kernel) (ea_cons' (ep_vis rfl (j1.ex e11)) (mono_is _) (ea_cons' (ep_vis rfl (j2.ex e11)) (mono_is _) (ea_cons' (ep_vis rfl (j3.ex e11)) (mono_is _) (ea_cons' (ep_lst3 wN wA wBA).sqn (mono_sq _) ea_nil'))))))) (fun hb => nomatch hb) fun _ H12 e12 => ?_
    exact ⟨((p1.trans e10).trans e11).trans e12, some u1, some u2, some u3, some u4, rfl⟩
  · obtain ⟨p1, x5, x6, x7, x8, rfl⟩ := p
    try unfold tNext
    dsimp only
    have eH := e9.trans p1
    have q0 := n0.ex eH
    have q3 := n3.ex eH
    have sp1 : ∀ {σ : L2.St} {H0 : Hp} {te : TE} {W : Bs} {m : Nat}, Mo.Nice leW W → Named W → (∀ L : List PB, Mo.Rise leP L → (∀ A B, (A, B) ∈ L ↔ Mo.Pair (le := leW) (leB := leB) W A B) → (L.filter (Mo.isSplit leW W)).length = m) → EvP te σ H0 (isP K W) → EvP (tCB (rLen' K) (tCons (tCall (spsplits K) [] E0 (tCons te tNil)) tNil)) σ H0 (isP K m) := fun {σ H0 te W m} hW hN hm ht H1 e Q q => by
      refine (call_splits hW hN (ea_cons' ht (mono_is _) ea_nil')) H1 e _ fun v H2 e2 ⟨L, h1, h2, h3, h4⟩ => ?_
      have := ep_len (K := K) (σ := []) (H := H2) (ta := tC v) (ep_k (mono_nl _) h4).sqn H2 (Ex.refl _) Q fun v3 H3 e3 i3 => q v3 H3 (e2.trans e3) (by rw [hm L h1 h2] at i3; exact i3)
      exact this
    have pr1 : ∀ {σ : L2.St} {H0 : Hp} {te : TE} {W : Bs} {m : Nat}, Mo.Nice leW W → (∀ L : List PB, Mo.Rise leP L → (∀ A B, (A, B) ∈ L ↔ Mo.Pair (le := leW) (leB := leB) W A B) → L.length = m) → EvP te σ H0 (isP K W) → EvP (tCB (rLen' K) (tCons (tCall (sppairs K) [] E0 (tCons te tNil)) tNil)) σ H0 (isP K m) := fun {σ H0 te W m} hW hm ht H1 e Q q => by
      refine (call_pairs hW (ea_cons' ht (mono_is _) ea_nil')) H1 e _ fun v H2 e2 ⟨L, h1, h2, h3, h4⟩ => ?_
      have := ep_len (K := K) (σ := []) (H := H2) (ta := tC v) (ep_k (mono_nl _) h4).sqn H2 (Ex.refl _) Q fun v3 H3 e3 i3 => q v3 H3 (e2.trans e3) (by rw [hm L h1 h2] at i3; exact i3)
      exact this
    have t3 : ∀ {H0 : Hp} {te tn : TE} {σ : L2.St}, EvP te σ H0 (isP K bE) → EvP tn σ H0 (isP K 3) → EvP (tCall (sptimes K) [] E0 (tCons te (tCons tn tNil))) σ H0 (isP K bT3) := fun {H0 te tn σ} h1 h2 => EvP.at (call_times (b := bE) (n := 3) (by decide) oE (fun j hj => by
      have : j = 0 ∨ j = 1 ∨ j = 2 := by omega
      rcases this with rfl | rfl | rfl
      · exact ⟨okB (by decide +kernel) (by decide +kernel), by decide +kernel⟩
      · exact ⟨okB (by decide +kernel) (by decide +kernel), by decide +kernel⟩
      · exact ⟨okB (by decide +kernel) (by decide +kernel), by decide +kernel⟩) (ea_cons' h1 (mono_is _) (ea_cons' h2 (mono_is _) ea_nil'))) pow3
    refine sq (ms_asg (ep_lst3 (x := 2) (y := 2) (z := 4) (sp1 nice_s3 (named_ab (by decide +kernel)) (fun L => sp_s3) (EvP.at (call_then oAB oE (by decide) (ea_cons' (ep_vis rfl q0).sq (mono_sq _) (ea_cons' (ep_vis rfl q3).sq (mono_sq _) ea_nil'))) s3_eq)) (sp1 nice_t3 (named_ab (by decide +kernel)) (fun L => sp_t3) (t3 (ep_vis rfl q3) (ep_nat 3))) (pr1 nice_t3 (fun L => pairs_t3) (t3 (ep_vis rfl q3) (ep_nat 3)))) fun v9 H10 e10 p10 => ?_)
    refine ms_ret (P := isP K true) (call_same1 (n := [2, 2, 4]) (by decide) (ea_cons' (ep_var rfl (mono_nl _) (lt_of p10)) (mono_nl _) (ea_cons' ((ep_lst3 (x := 2) (y := 2) (z := 4) (ep_nat 2) (ep_nat 2) (ep_nat 4)).weak fun _ _ _ p => lt_of p) (mono_nl _) ea_nil'))) fun v H11 e11 r => q v H11 ((e18.trans eH).trans (e10.trans e11)) r
theorem call_by_hand {σ : L2.St} {H : Hp} : EvP (tCall (sp_law_by_hand_right K) [] E0 tNil) σ H (isP K true) := ep_sp () trivial ea_nil' fun _ _ _ _ r => r
end MoD
set_option maxHeartbeats 4000000
/-! drawing: the box, take -/
namespace MoD
open PySem PySem.Spec PyProof.Rows L2 MoR PySem.W Evl
variable {P : Program} {w : World} {K : PySem.W.Frag} {nv av : Addr}
instance : Ec Int := ⟨fun i => .int i⟩
theorem Is.int {H : Hp} {v : V} {i : Int} (h : Is K H v i) : v = .int i := by
  have h' : Im K H v (.int i) := h
  cases h'; rfl
theorem ep_int {σ : L2.St} {H : Hp} (i : Int) : EvP (tC (.int i)) σ H (isP K i) := ep_c fun _ => .int _
theorem ep_rI {σ : L2.St} {H : Hp} {ta tb : TE} {C : Int → Int → Prop} {g : Int → Int → V} {i j k : Int} (ha : EvP ta σ H (isP K i)) (hb : EvP tb σ H (isP K j)) (hC : C i j) (hg : g i j = .int k) : EvP (tOp (rI C g) ta tb) σ H (isP K k) :=
  ep_op ha (mono_is _) hb fun x y H1 e p p2 Q q => ⟨i, j, Is.int p, Is.int p2, hC, by rw [hg]; exact q _ _ (Ex.refl _) (.int _)⟩
theorem ep_rI0 {σ : L2.St} {H : Hp} {ta tb : TE} {g : Int → Int → V} {i j k : Int} (ha : EvP ta σ H (isP K i)) (hb : EvP tb σ H (isP K j)) (hg : g i j = .int k) : EvP (tOp (rI0 g) ta tb) σ H (isP K k) :=
  ep_op ha (mono_is _) hb fun x y H1 e p p2 Q q => ⟨i, j, Is.int p, Is.int p2, by rw [hg]; exact q _ _ (Ex.refl _) (.int _)⟩
theorem ep_cmI {σ : L2.St} {H : Hp} {ta tb : TE} {g : Int → Int → V} {i j : Int} {b : Bool} (ha : EvP ta σ H (isP K i)) (hb : EvP tb σ H (isP K j)) (hg : g i j = .bl b) : EvP (tOp (rI0 g) ta tb) σ H (isP K b) :=
  ep_op ha (mono_is _) hb fun x y H1 e p p2 Q q => ⟨i, j, Is.int p, Is.int p2, by rw [hg]; exact q _ _ (Ex.refl _) (.bl _)⟩
theorem ep_int1I {σ : L2.St} {H : Hp} {te : TE} {i : Int} (h : EvP te σ H (isP K i)) : EvP (tCB rInt1 (tCons te tNil)) σ H (isP K i) := fun H1 e Q q => h H1 e _ fun v H2 e2 p => .inl ⟨i, by rw [Is.int p], q _ _ e2 (.int _)⟩
theorem ep_natI {σ : L2.St} {H : Hp} {te : TE} {n : Nat} (h : EvP te σ H (isP K n)) : EvP te σ H (isP K (n : Int)) := h
/-- xs[n] = e -/
theorem box_set {σ : L2.St} {H : Hp} {D : Ends} {R : VP} {a n : Nat} {l : Addr} {us : List V} {te : TE} (ha : σ[a]? = some (some (.ref l))) (hl : H l = some (.lst us)) (hn : n < us.length) (h : EvP te σ H R) (k : ∀ v H1, Ex H H1 → R v H1 → H1 l = some (.lst us) → D.nx σ (upd H1 l (.lst (us.set n v)))) :
    tAsg te (gSub (tVar a) (tC (.int (n : Int))) rSetL) D σ H := h H (Ex.refl H) _ fun v H1 e p => ⟨_, ha, l, us, (n : Int), n, rfl, rfl, e _ _ hl, ixN_nat hn, k v H1 e p (e _ _ hl)⟩
/-- the box: how often it was asked, at most -/
def Box (H : Hp) (a : Addr) (k : Nat) : Prop := ∃ x y z : Int, H a = some (.lst [.int x, .int y, .int z]) ∧ 0 ≤ z ∧ z ≤ k
theorem Box.ex {H H' : Hp} {a : Addr} {k : Nat} (h : Box H a k) (e : Ex H H') : Box H' a k := by
  obtain ⟨x, y, z, h1, h2⟩ := h
  exact ⟨x, y, z, e _ _ h1, h2⟩
theorem Box.mono {H : Hp} {a : Addr} {k j : Nat} (h : Box H a k) (hk : k ≤ j) : Box H a j := by
  obtain ⟨x, y, z, h1, h2, h3⟩ := h
  exact ⟨x, y, z, h1, h2, by omega⟩
abbrev lim : Nat := 1000000
abbrev sp_law_take (K : PySem.W.Frag) : Sp := fun vs H Q _ => ∃ (a : Addr) (k size : Nat), vs = [.ref a, .int (size : Int)] ∧ Box H a k ∧ k < lim ∧ 0 < size ∧ size < 1000000 ∧ ∀ (n : Nat) H', n < size → ExL K [a] H H' → Box H' a (k + 1) → Q (.int (n : Int)) H'
theorem len_take (vs : List V) (H : Hp) (Q : VK) (E : XK) (h : sp_law_take K vs H Q E) : vs.length = 2 := by
  obtain ⟨a, k, size, rfl, _⟩ := h
  rfl
theorem mod_nat {x : Int} {m : Nat} (hm : 0 < m) : ∃ n : Nat, n < m ∧ x % (m : Int) = (n : Int) := by
  have h1 := Int.emod_nonneg x (show (m : Int) ≠ 0 by omega)
  have h2 := Int.emod_lt_of_pos x (show (0 : Int) < m by omega)
  exact ⟨(x % (m : Int)).toNat, by omega, by omega⟩
theorem pure_take (vs : List V) (H : Hp) (Q : VK) (E : XK) (h : sp_law_take K vs H Q E) : tr_law_take K nv av { nx := fun _ H' => Q .non H', rt := Q } (L2.start N_law_take vs) H := by
  obtain ⟨a, k, size, rfl, ⟨x, y, z, hb, hz0, hzk⟩, hk, hs, hs2, q⟩ := h
  have bx : ∀ {H1 : Hp} {x y z : Int} {σ : L2.St} {i : Nat} {t : Int}, H1 a = some (.lst [.int x, .int y, .int z]) → σ[0]? = some (some (.ref a)) → [x, y, z][i]? = some t → EvP (tOp (rIx K) (tVar 0) (tC (.int (i : Int)))) σ H1 (isP K t) := fun {H1 x y z σ i t} h h0 ht => ep_ix (ep_var (P := sqP K [x, y, z]) h0 (mono_sq _) ⟨a, _, rfl, .inl h, .cons (.int _) (.cons (.int _) (.cons (.int _) .nil))⟩) (ep_nat (K := K) i) ht
  have sz : ∀ {H1 : Hp} {σ : L2.St}, σ[1]? = some (some (.int (size : Int))) → EvP (tVar 1) σ H1 (isP K (size : Int)) := fun {H1 σ} h => ep_vis h (.int _)
  unfold tr_law_take
  refine sq (ms_if (b := decide (0 < x)) (et_T (K := K) (ep_cmI (i := x) (j := 0) (bx (i := 0) hb rfl rfl) (ep_int 0) rfl)) (fun hb1 H1 e1 => ?_) fun hb1 H1 e1 => ?_)
  · have h1 := e1 _ _ hb
    obtain ⟨n, hn, hmod⟩ := mod_nat (x := x) hs
    refine sq (ms_asg (P := isP K (n : Int)) (ep_rI (i := x) (j := (size : Int)) (ep_int1I (bx (i := 0) h1 rfl rfl)) (sz rfl) (by show (0 : Int) < size; omega) (by rw [← hmod])) fun v H2 e2 i2 => ?_)
    refine sq (box_set (n := 0) rfl (e2 _ _ h1) (by show 0 < 3; decide) (ep_rI (i := x) (j := (size : Int)) (k := x / (size : Int)) (bx (i := 0) (e2 _ _ h1) rfl rfl) (sz rfl) ⟨by omega, by omega⟩ rfl) fun v3 H3 e3 i3 h3 => ?_)
    have hv := Is.int i2
    have hv3 := Is.int i3
    subst hv hv3
    refine ms_ret (P := fun v _ => v = .int (n : Int)) (ep_var rfl mono_eq rfl) fun v H4 e4 r => ?_
    rw [r]
    exact q n H4 hn (((ExL.of ((e1.trans e2).trans e3)).lst (by simp) h3).then e4) ⟨_, _, _, e4 _ _ upd_same, hz0, by omega⟩
  · try unfold tNext
    dsimp only
    have h1 := e1 _ _ hb
    refine sq (box_set (n := 2) rfl h1 (by show 2 < 3; decide) (ep_rI0 (i := z) (j := 1) (k := z + 1) (bx (i := 2) h1 rfl rfl) (ep_int 1) rfl) fun v3 H3 e3 i3 h3 => ?_)
    have hv3 := Is.int i3
    subst hv3
    have x3 : ExL K [a] H (upd H3 a (.lst ([V.int x, .int y, .int z].set 2 (.int (z + 1))))) := (ExL.of (e1.trans e3)).lst (by simp) h3
    have b3 : (upd H3 a (.lst ([V.int x, .int y, .int z].set 2 (.int (z + 1))))) a = some (.lst [.int x, .int y, .int (z + 1)]) := upd_same
    generalize upd H3 a (.lst ([V.int x, .int y, .int z].set 2 (.int (z + 1)))) = H4 at x3 b3
    have k9 : k < 1000000 := hk
    obtain ⟨n1, hn1, m1⟩ := mod_nat (x := (y + 48271 * (z + 1)) * (39373 + (z + 1))) (m := 2147483647) (by decide)
    refine sq (ms_asg (P := isP K (n1 : Int)) (ep_rI (i := (y + 48271 * (z + 1)) * (39373 + (z + 1))) (j := 2147483647) (ep_int1I (ep_rI (i := y + 48271 * (z + 1)) (j := 39373 + (z + 1)) (ep_rI0 (i := y) (j := 48271 * (z + 1)) (bx (i := 1) b3 rfl rfl) (ep_rI (i := 48271) (j := z + 1) (ep_int _) (bx (i := 2) b3 rfl rfl) (.inl ⟨by decide, by decide⟩) rfl) rfl) (ep_rI0 (i := 39373) (j := z + 1) (ep_int _) (bx (i := 2) b3 rfl rfl) rfl) (.inr ⟨by omega, by omega⟩) rfl)) (ep_int _) (by decide) (by rw [← m1]; rfl)) fun v5 H5 e5 i5 => ?_)
    have hv5 := Is.int i5
    subst hv5
    obtain ⟨n2, hn2, m2⟩ := mod_nat (x := (n1 : Int)) (m := 40009) (by decide)
    refine sq (ms_asg (P := isP K ((n2 : Int) + 7)) (ep_rI0 (i := (n2 : Int)) (j := 7) (ep_rI (i := (n1 : Int)) (j := 40009) (ep_int1I (ep_vis rfl (.int _))) (ep_int _) (by decide) (by rw [← m2]; rfl)) (ep_int _) rfl) fun v6 H6 e6 i6 => ?_)
    have hv6 := Is.int i6
    subst hv6
    have b6 := (e5.trans e6) _ _ b3
    obtain ⟨n3, hn3, m3⟩ := mod_nat (x := (((n1 : Int) + (z + 1)) + y / 1000003) * ((n2 : Int) + 7)) (m := 2147483629) (by decide)
    refine sq (ms_asg (P := isP K (n3 : Int)) (ep_rI (i := (((n1 : Int) + (z + 1)) + y / 1000003) * ((n2 : Int) + 7)) (j := 2147483629) (ep_int1I (ep_rI (i := ((n1 : Int) + (z + 1)) + y / 1000003) (j := (n2 : Int) + 7) (ep_rI0 (i := (n1 : Int) + (z + 1)) (j := y / 1000003) (ep_rI0 (i := (n1 : Int)) (j := z + 1) (ep_vis rfl (.int _)) (bx (i := 2) b6 rfl rfl) rfl) (ep_rI (i := y) (j := 1000003) (bx (i := 1) b6 rfl rfl) (ep_int _) ⟨by decide, by decide⟩ rfl) rfl) (ep_vis rfl (.int _)) (.inr ⟨by omega, by omega⟩) rfl)) (ep_int _) (by decide) (by rw [← m3]; rfl)) fun v7 H7 e7 i7 => ?_)
    have hv7 := Is.int i7
    subst hv7
    obtain ⟨n4, hn4, m4⟩ := mod_nat (x := ((n3 : Int) * 48271 + (n1 : Int)) % 2147483587 / 64) hs
    refine ms_ret (P := isP K (n4 : Int)) (ep_rI (i := ((n3 : Int) * 48271 + (n1 : Int)) % 2147483587 / 64) (j := (size : Int)) (ep_int1I (ep_rI (i := ((n3 : Int) * 48271 + (n1 : Int)) % 2147483587) (j := 64) (ep_rI (i := (n3 : Int) * 48271 + (n1 : Int)) (j := 2147483587) (ep_int1I (ep_rI0 (i := (n3 : Int) * 48271) (j := (n1 : Int)) (ep_rI (i := (n3 : Int)) (j := 48271) (ep_vis rfl (.int _)) (ep_int _) (.inr ⟨by decide, by decide⟩) rfl) (ep_vis rfl (.int _)) rfl)) (ep_int _) (by decide) rfl) (ep_int _) ⟨by decide, by decide⟩ rfl)) (sz rfl) (by show (0 : Int) < size; omega) (by rw [← m4])) fun v H8 e8 r => ?_
    rw [Is.int r]
    exact q n4 H8 hn4 (x3.then (((e5.trans e6).trans e7).trans e8)) ⟨_, _, _, (((e5.trans e6).trans e7).trans e8) _ _ b3, by omega, by omega⟩
end MoD
set_option maxHeartbeats 4000000
/-! what draws from the box -/
namespace MoD
open PySem PySem.Spec PyProof.Rows L2 MoR PySem.W Evl
variable {P : Program} {w : World} {K : PySem.W.Frag} {nv av : Addr}
/-- te, that asks the box at a at most c times -/
def EvD (K : PySem.W.Frag) (a : Addr) (c : Nat) (te : TE) (σ : L2.St) (H : Hp) (R : VP) : Prop := ∀ H1, ExL K [a] H H1 → ∀ k, Box H1 a k → k + c ≤ lim → ∀ Q : VK, (∀ v H2, ExL K [a] H1 H2 → Box H2 a (k + c) → R v H2 → Q v H2) → te σ H1 Q
def EvTD (K : PySem.W.Frag) (a : Addr) (c : Nat) (t : TT) (σ : L2.St) (H : Hp) : Prop := ∀ H1, ExL K [a] H H1 → ∀ k, Box H1 a k → k + c ≤ lim → ∀ Q : Bool → Hp → Prop, (∀ b H2, ExL K [a] H1 H2 → Box H2 a (k + c) → Q b H2) → t σ H1 Q
section
variable {a : Addr} {σ : L2.St} {H : Hp}
theorem ed_p {c : Nat} {te : TE} {R : VP} (h : ∀ H1, ExL K [a] H H1 → EvP te σ H1 R) : EvD K a c te σ H R := fun H1 x k b hk Q q => h H1 x H1 (Ex.refl _) Q fun v H2 e p => q v H2 (.of e) ((b.ex e).mono (by omega)) p
theorem ed_mono {c d : Nat} {te : TE} {R : VP} (h : EvD K a c te σ H R) (hc : c ≤ d) : EvD K a d te σ H R := fun H1 x k b hk Q q => h H1 x k b (by omega) Q fun v H2 e b2 p => q v H2 e (b2.mono (by omega)) p
theorem ed_at {c : Nat} {te : TE} {R : VP} {H' : Hp} (h : EvD K a c te σ H R) (x : ExL K [a] H H') : EvD K a c te σ H' R := fun H1 y => h H1 (x.trans y)
theorem ed_take {i size : Nat} {ts : TE} (hi : σ[i]? = some (some (.ref a))) (hs : ∀ H1, ExL K [a] H H1 → EvP ts σ H1 (isP K size)) (h0 : 0 < size) (h1 : size < 1000000) : EvD K a 1 (tCall (sp_law_take K) [] E0 (tCons (tVar i) (tCons ts tNil))) σ H (fun v _ => ∃ n : Nat, n < size ∧ v = .int (n : Int)) := fun H1 x k b hk Q q =>
  ⟨_, hi, hs H1 x H1 (Ex.refl _) _ fun v H2 e p => ⟨a, k, size, by rw [Is.nat p]; rfl, b.ex e, by omega, h0, h1, fun n H' hn x' b' => q _ _ ((ExL.of e).trans x') b' ⟨n, hn, rfl⟩⟩⟩
/-- a list of things, not the box -/
def ltA (K : PySem.W.Frag) (a : Addr) {α : Type} [Ec α] (xs : List α) : VP := fun v H => ∃ l vs, v = .ref l ∧ l ≠ a ∧ H l = some (.lst vs) ∧ IsAll K H vs xs
theorem ltA_x {α : Type} [Ec α] {xs : List α} {v : V} {H H' : Hp} (h : ltA K a xs v H) (x : ExL K [a] H H') : ltA K a xs v H' := by
  obtain ⟨l, vs, h1, h2, h3, h4⟩ := h
  exact ⟨l, vs, h1, h2, x.ob l _ (by simpa using h2) h3, ImAll.tk x.tk h4⟩
theorem ltA_mono {α : Type} [Ec α] (xs : List α) : MonoP (ltA K a xs) := fun _ _ _ e h => ltA_x h (.of e)
theorem ltA_lt {α : Type} [Ec α] {xs : List α} {v : V} {H : Hp} (h : ltA K a xs v H) : ltP K xs v H := by
  obtain ⟨l, vs, h1, h2, h3, h4⟩ := h
  exact ⟨l, vs, h1, rfl, h3, h4⟩
/-- a walk, whatever the box becomes -/
abbrev Wd1 {α : Type} [Ec α] (K : PySem.W.Frag) (a : Addr) (wi : TI) (σ : L2.St) (H : Hp) (xs : List α) : Prop := Wk K wi σ H [a] xs
/-- [te for j in wi if t], drawing -/
theorem ed_lc {α β : Type} [Ec α] [Ec β] {wi : TI} {t : TT} {te : TE} {vs : List Nat} {j ct c : Nat} {xs : List α} (Pr : β → Prop) (h : Wk K wi σ H [a] xs) (hz : xs.length ≤ 50000) (ha : H a ≠ none) (hw : ∀ x, wipe ((wipe σ vs).set j (some x)) vs = wipe σ vs)
    (ht : ∀ x ∈ xs, ∀ v H1, ExL K [a] H H1 → Is K H1 v x → EvTD K a ct t ((wipe σ vs).set j (some v)) H1)
    (he : ∀ x ∈ xs, ∀ v H1, ExL K [a] H H1 → Is K H1 v x → EvD K a c te ((wipe σ vs).set j (some v)) H1 (fun u H2 => ∃ y : β, Pr y ∧ Is K H2 u y)) :
    ∀ k, Box H a k → k + xs.length * (ct + c) ≤ lim → ∀ Q : VK, (∀ v H2, ExL K [a] H H2 → Box H2 a (k + xs.length * (ct + c)) → (∃ ys : List β, (∀ y ∈ ys, Pr y) ∧ ys.length ≤ xs.length ∧ ∃ l us, v = .ref l ∧ H l = none ∧ H2 l = some (.lst us) ∧ IsAll K H2 us ys) → Q v H2) → tLc wi (gName j) t te vs σ H Q := fun k hb hk Q q =>
  h H (Ex.refl H) _ fun J H1 e1 hJ => fun Dl hD => by
    have hD0 : H Dl = none := fresh_back e1 hD
    have haD : a ≠ Dl := fun z => ha (by rw [z]; exact hD0)
    refine ⟨fun i m H' => m = xs.length - i ∧ i ≤ xs.length ∧ ExL K [a] H1 H' ∧ Box H' a (k + i * (ct + c)) ∧ ∃ us ys, H' Dl = some (.lst us) ∧ IsAll K H' us ys ∧ (∀ y ∈ ys, Pr y) ∧ ys.length ≤ i, ⟨xs.length, by simp, Nat.zero_le _, .of (Ex.new hD), (hb.ex (e1.trans (Ex.new hD))).mono (by omega), [], [], upd_same, .nil, fun y hy => (by cases hy), Nat.le_refl _⟩, ?_⟩
    rintro i m H' ⟨rfl, hi, x, b, us, ys, d1, d2, d3, d4⟩
    obtain ⟨jg, js⟩ := hJ H' x
    by_cases hlt : i < xs.length
    · have hx : xs[i]? = some xs[i] := List.getElem?_eq_getElem hlt
      have hm : xs[i] ∈ xs := List.getElem_mem hlt
      generalize xs[i] = y at hx hm
      obtain ⟨j1, j2⟩ := jg i y hx
      have hki : k + (i + 1) * (ct + c) ≤ lim := Nat.le_trans (Nat.add_le_add_left (Nat.mul_le_mul_right _ hlt) _) hk
      rw [Nat.succ_mul] at hki
      refine .inr ⟨j1, fun H'' => ExL K [a] H1 H'' ∧ Box H'' a (k + (i + 1) * (ct + c)) ∧ ∃ us ys, H'' Dl = some (.lst us) ∧ IsAll K H'' us ys ∧ (∀ y ∈ ys, Pr y) ∧ ys.length ≤ i + 1, fun H'' ⟨z1, z2, us, ys, z3⟩ => ⟨xs.length - (i + 1), by omega, rfl, hlt, z1, z2, us, ys, z3⟩, fun v H'' yy => ?_⟩
      obtain ⟨e2, iv⟩ := j2 v H'' yy
      have x1 : ExL K [a] H H'' := ((ExL.of e1).trans x).then e2
      refine ⟨hw _, ?_⟩
      refine ht y hm v H'' x1 iv H'' .refl _ (b.ex e2) (by omega) _ fun bb H3 x3 b3 => ?_
      cases bb with
      | true =>
        show te ((wipe σ vs).set j (some v)) H3 _
        refine he y hm v H'' x1 iv H3 x3 _ b3 (by omega) _ fun u H4 x4 b4 ⟨r, hr, iu⟩ => ?_
        have x24 : ExL K [a] H' H4 := ((ExL.of e2).trans x3).trans x4
        have d14 : H4 Dl = some (.lst us) := x24.ob Dl _ (by simpa using fun z => haD z.symm) d1
        refine ⟨us, d14, sz_lt (by have := IsAll.len d2; omega), ?_, ?_, us ++ [u], ys ++ [r], upd_same, IsAll.snoc (ImAll.tk (.lst d14) (ImAll.tk x24.tk d2)) (Im.tk (.lst d14) iu), fun z hz => ?_, by rw [List.length_append]; simp; omega⟩
        · exact (x.trans x24).fresh hD d14
        · obtain ⟨p1, p2, p3, h1, h2⟩ := b4
          exact ⟨p1, p2, p3, by rw [upd_ne haD]; exact h1, h2.1, by rw [Nat.succ_mul]; omega⟩
        · rcases List.mem_append.mp hz with hz | hz
          · exact d3 z hz
          · rw [List.mem_singleton.mp hz]; exact hr
      | false =>
        show _ ∧ _
        have x24 : ExL K [a] H' H3 := (ExL.of e2).trans x3
        exact ⟨x.trans x24, b3.mono (by rw [Nat.succ_mul]; omega), us, ys, x24.ob Dl _ (by simpa using fun z => haD z.symm) d1, ImAll.tk x24.tk d2, d3, by omega⟩
    · have hii : i = xs.length := by omega
      subst hii
      exact .inl ⟨js, q _ H' ((ExL.of e1).trans x) b ⟨ys, d3, d4, Dl, us, rfl, hD0, d1, d2⟩⟩
end
end MoD
set_option maxHeartbeats 4000000
/-! what draws: of, pick -/
namespace MoD
open PySem PySem.Spec PyProof.Rows L2 MoR PySem.W Evl
variable {P : Program} {w : World} {K : PySem.W.Frag} {nv av : Addr}
section
variable {a : Addr} {σ : L2.St} {H H' : Hp}
/-- what is drawn from: a list of texts, or the letters -/
def Goods (K : PySem.W.Frag) (a : Addr) (H : Hp) (v : V) (xs : List Str) : Prop := ltA K a xs v H ∨ (v = .str letters ∧ xs = MoR.signs letters)
theorem Goods.x {v : V} {xs : List Str} (h : Goods K a H v xs) (x : ExL K [a] H H') : Goods K a H' v xs := h.elim (fun h => .inl (ltA_x h x)) .inr
theorem Goods.len {g : V} {xs : List Str} {i : Nat} (h : Goods K a H g xs) (hi : σ[i]? = some (some g)) : EvP (tCB (rLen' K) (tCons (tVar i) tNil)) σ H (isP K xs.length) := by
  rcases h with h | ⟨rfl, rfl⟩
  · exact ep_len (ep_var hi (mono_sq _) (sq_of_nl (ltA_lt h)))
  · exact EvP.at (ep_lenS (x := letters) (ep_vis hi (.str _)) (by decide +kernel)) (by decide +kernel)
theorem Goods.item {g : V} {xs : List Str} {n : Nat} (h : Goods K a H g xs) (hn : n < xs.length) {Q : VK} (q : Q (.str xs[n]) H) : rIx K g (.int (n : Int)) H Q := by
  rcases h with ⟨l, vs, rfl, _, h3, h4⟩ | ⟨rfl, rfl⟩
  · obtain ⟨u, hu, iu⟩ := IsAll.item h4 (List.getElem?_eq_getElem hn)
    exact .inl ⟨l, vs, _, u, rfl, rfl, sq_of h3, at_nat hu, by rw [Is.text iu]; exact q⟩
  · have hn' : n < letters.cps.toList.length := by simpa [MoR.signs] using hn
    refine .inr (.inr ⟨letters, _, letters.cps.toList[n], rfl, rfl, by decide +kernel, at_nat (List.getElem?_eq_getElem hn'), ?_⟩)
    have e : (MoR.signs letters)[n] = ⟨#[letters.cps.toList[n]]⟩ := by simp [MoR.signs]
    rw [← e]; exact q
/-- x = e, drawing -/
theorem md_asg {te : TE} {R : VP} {c i k : Nat} {D : Ends} (h : EvD K a c te σ H R) (b : Box H a k) (hk : k + c ≤ lim) (q : ∀ v H1, ExL K [a] H H1 → Box H1 a (k + c) → R v H1 → D.nx (σ.set i (some v)) H1) : tAsg te (gName i) D σ H := h H .refl k b hk _ q
theorem md_ret {te : TE} {R : VP} {c k : Nat} {D : Ends} (h : EvD K a c te σ H R) (b : Box H a k) (hk : k + c ≤ lim) (q : ∀ v H1, ExL K [a] H H1 → Box H1 a (k + c) → R v H1 → D.rt v H1) : tRet te D σ H := h H .refl k b hk _ q
theorem md_if {t : TT} {tu tw : TS} {c k : Nat} {D : Ends} (h : EvTD K a c t σ H) (b : Box H a k) (hk : k + c ≤ lim) (q : ∀ (r : Bool) H1, ExL K [a] H H1 → Box H1 a (k + c) → (if r = true then tu D σ H1 else tw D σ H1)) : tIfS t tu tw D σ H := h H .refl k b hk _ q
/-! ### of -/
abbrev sp_law_of (K : PySem.W.Frag) : Sp := fun vs H Q _ => ∃ (a : Addr) (k : Nat) (g : V) (xs : List Str), vs = [.ref a, g] ∧ Box H a k ∧ k < lim ∧ Goods K a H g xs ∧ 0 < xs.length ∧ xs.length < 1000000 ∧ ∀ (x : Str) H', x ∈ xs → ExL K [a] H H' → Box H' a (k + 1) → Q (.str x) H'
theorem len_of (vs : List V) (H : Hp) (Q : VK) (E : XK) (h : sp_law_of K vs H Q E) : vs.length = 2 := by
  obtain ⟨a, k, g, xs, rfl, _⟩ := h
  rfl
theorem pure_of (vs : List V) (H : Hp) (Q : VK) (E : XK) (h : sp_law_of K vs H Q E) : tr_law_of K nv av (sp_law_take K) { nx := fun _ H' => Q .non H', rt := Q } (L2.start N_law_of vs) H := by
  obtain ⟨a, k, g, xs, rfl, hb, hk, hg, h0, h1, q⟩ := h
  unfold tr_law_of
  refine ⟨g, rfl, ?_⟩
  refine (ed_take (a := a) (size := xs.length) rfl (fun H1 x => (hg.x x).len rfl) h0 h1) H .refl k hb (by have : lim = 1000000 := rfl; omega) _ fun v H2 x b ⟨n, hn, e⟩ => ?_
  subst e
  exact (hg.x x).item hn (q _ H2 (List.getElem_mem hn) x b)
theorem ed_of {i j : Nat} {g : V} {xs : List Str} (hi : σ[i]? = some (some (.ref a))) (hj : σ[j]? = some (some g)) (hg : Goods K a H g xs) (h0 : 0 < xs.length) (h1 : xs.length < 1000000) : EvD K a 1 (tCall (sp_law_of K) [] E0 (tCons (tVar i) (tCons (tVar j) tNil))) σ H (fun v _ => ∃ x ∈ xs, v = .str x) := fun H1 x k b hk Q q =>
  ⟨_, hi, _, hj, a, k, g, xs, rfl, b, by omega, hg.x x, h0, h1, fun y H' hy x' b' => q _ _ x' b' ⟨y, hy, rfl⟩⟩
/-! ### pick -/
theorem is_strs : ∀ {vs : List V} {xs : List Str}, (∀ u ∈ vs, ∃ x ∈ xs, u = .str x) → ∃ ys : List Str, (∀ y ∈ ys, y ∈ xs) ∧ ∀ H, IsAll K H vs ys
  | [], xs, _ => ⟨[], fun y hy => (nomatch hy), fun H => .nil⟩
  | v :: vs, xs, h => by
    obtain ⟨ys, h1, h2⟩ := is_strs fun u hu => h u (List.mem_cons_of_mem _ hu)
    obtain ⟨x, hx, rfl⟩ := h v List.mem_cons_self
    exact ⟨x :: ys, fun y hy => by
      rcases List.mem_cons.mp hy with rfl | hy
      · exact hx
      · exact h1 y hy, fun H => .cons (.str x) (h2 H)⟩
abbrev sp_law_pick (K : PySem.W.Frag) : Sp := fun vs H Q _ => ∃ (a : Addr) (k m : Nat), vs = [.ref a, .str letters, .int (m : Int)] ∧ Box H a k ∧ k + m ≤ lim ∧ m ≤ 20 ∧ ∀ v H', ExL K [a] H H' → Box H' a (k + m) → (∃ ys : List Str, ys.length = m ∧ (∀ y ∈ ys, y ∈ MoR.signs letters) ∧ nlP K H ys v H') → Q v H'
theorem len_pick (vs : List V) (H : Hp) (Q : VK) (E : XK) (h : sp_law_pick K vs H Q E) : vs.length = 3 := by
  obtain ⟨a, k, m, rfl, _⟩ := h
  rfl
theorem ep_min2 {ta tb : TE} {m n : Nat} (ha : EvP ta σ H (isP K m)) (hb : EvP tb σ H (isP K n)) : EvP (tCB rMin2 (tCons ta (tCons tb tNil))) σ H (isP K (min m n)) := fun H1 e Q q =>
  ha H1 e _ fun u H2 e2 p => hb H2 (e.trans e2) _ fun v H3 e3 p2 => ⟨m, n, by rw [Is.nat p, Is.nat p2], q _ _ (e2.trans e3) (by
    have : (if (n : Int) < (m : Int) then (n : Int) else (m : Int)) = ((min m n : Nat) : Int) := by
      by_cases h : n < m
      · rw [if_pos (by omega), Nat.min_eq_right (by omega)]
      · rw [if_neg (by omega), Nat.min_eq_left (by omega)]
    rw [this]; exact .int _)⟩
theorem seq_nat {n m : Nat} (h : n < m) : seqIndex? (n : Int) m = some n := by
  have h1 : ¬ (n : Int) < 0 := by omega
  have h2 : (n : Int) < (m : Int) := by omega
  have h3 : (0 : Int) ≤ (n : Int) := by omega
  simp [seqIndex?, h1, h2, h3]
theorem two63a (n : Nat) : -((2 : Int) ^ 63) ≤ (n : Int) := by
  have : (2 : Int) ^ 63 = 9223372036854775808 := by decide
  omega
theorem two63b {n : Nat} (h : n < 1000) : (n : Int) < (2 : Int) ^ 63 := by
  have : (2 : Int) ^ 63 = 9223372036854775808 := by decide
  omega
theorem s_len : (MoR.signs letters).length = 26 := by decide +kernel
theorem pure_pick (vs : List V) (H : Hp) (Q : VK) (E : XK) (h : sp_law_pick K vs H Q E) : tr_law_pick K nv av (sp_law_take K) { nx := fun _ H' => Q .non H', rt := Q } (L2.start N_law_pick vs) H := by
  obtain ⟨a, k, m, rfl, hb, hk, hm, q⟩ := h
  have ha : H a ≠ none := by obtain ⟨x, y, z, h1, _⟩ := hb; rw [h1]; exact fun z => nomatch z
  unfold tr_law_pick
  refine sq (⟨.str letters, rfl, letters, rfl, by decide +kernel, fun p hp => ⟨by show 0 ≤ sizeLine; decide, fun f hf => ⟨_, _, rfl, ?_⟩⟩⟩)
  show tSeq _ _ _ [some (.ref a), some (.str letters), some (.int (m : Int)), some (.ref p), some (.ref f), none] _
  have hpf : p ≠ f := fun z => by rw [← z, upd_same] at hf; cases hf
  have hfH : H f = none := by rw [upd_ne (fun z => hpf z.symm)] at hf; exact hf
  have hap : a ≠ p := fun z => ha (by rw [z]; exact hp)
  have haf : a ≠ f := fun z => ha (by rw [z]; exact hfH)
  have e1 : Ex H (upd (upd H p (.lst ((MoR.signs letters).map V.str))) f (.lst [])) := (Ex.new hp).trans (Ex.new hf)
  have hp1 : (upd (upd H p (.lst ((MoR.signs letters).map V.str))) f (.lst [])) p = some (.lst ((MoR.signs letters).map V.str)) := by rw [upd_ne hpf, upd_same]
  have hf1 : (upd (upd H p (.lst ((MoR.signs letters).map V.str))) f (.lst [])) f = some (.lst []) := upd_same
  generalize upd (upd H p (.lst ((MoR.signs letters).map V.str))) f (.lst []) = H1 at e1 hp1 hf1
  have hl0 : ((MoR.signs letters).map V.str).length = 26 := by rw [List.length_map]; exact s_len
  refine sq (s_for (K := K) (W := [a, p, f]) (xs := List.range m) (wk_rng1 (EvP.at (ep_min2 (m := m) (n := 26) (ep_natI (ep_int1I (i := (m : Int)) (ep_vis rfl (.int _)))) (EvP.at (ep_len (xs := MoR.signs letters) (ep_var rfl (mono_sq _) ⟨p, _, rfl, .inl hp1, (by
      have key : ∀ (H : Hp) (l : List Str), IsAll K H (l.map V.str) l := fun H l => by
        induction l with
        | nil => exact .nil
        | cons x l ih => exact .cons (.str x) ih
      exact key _ _)⟩)) s_len)) (Nat.min_eq_left (by omega))) (by omega))
    (fun H2 i σ' H' => i ≤ m ∧ ∃ us fs x, ExL K [a, p, f] H2 H' ∧ Box H' a (k + i) ∧ H' p = some (.lst us) ∧ H' f = some (.lst fs) ∧ us.length + i = 26 ∧ fs.length = i ∧ (∀ u ∈ us, ∃ x ∈ MoR.signs letters, u = .str x) ∧ (∀ u ∈ fs, ∃ x ∈ MoR.signs letters, u = .str x) ∧ σ' = [some (.ref a), some (.str letters), some (.int (m : Int)), some (.ref p), some (.ref f), x])
    (fun H2 e2 => ⟨Nat.zero_le _, _, _, none, .refl, (hb.ex (e1.trans e2)), e2 _ _ hp1, e2 _ _ hf1, hl0, rfl, fun u hu => by
      obtain ⟨x, hx, rfl⟩ := List.mem_map.mp hu
      exact ⟨x, hx, rfl⟩, fun u hu => (nomatch hu), rfl⟩) (fun H2 i σ' H' _ z => by obtain ⟨_, us, fs, x, z, _⟩ := z; exact z) (fun H2 i x v σ' H' H'' e2 hx z e3 iv => ?_) fun H2 σ' H' e2 z => ?_)
  · obtain ⟨_, us, fs, y, x1, b1, up, uf, l1, l2, a1, a2, rfl⟩ := z
    have him : i < m := by have := (List.getElem?_eq_some_iff.mp hx).1; rwa [List.length_range] at this
    show tDrop _ _ [some (.ref a), some (.str letters), some (.int (m : Int)), some (.ref p), some (.ref f), some v] H''
    have up2 := e3 _ _ up
    have uf2 := e3 _ _ uf
    refine ⟨_, rfl, .inl ⟨rfl, fs, sq_of uf2⟩, _, rfl, .inl ⟨rfl, us, sq_of up2⟩, ?_⟩
    refine (ed_take (K := K) (a := a) (size := us.length) rfl (fun H3 x3 => ?_) (by omega) (by omega)) H'' .refl (k + i) (b1.ex e3) (by omega) _ fun v2 H3 x3 b3 ⟨n, hn, hv2⟩ => ?_
    · have up3 : H3 p = some (.lst us) := x3.ob p _ (by simpa using fun z => hap z.symm) up2
      intro H4 e4 Q' q'
      exact ⟨_, rfl, .ref p, us.length, rfl, .inl ⟨us, sq_of (e4 _ _ up3), rfl⟩, q' _ _ (Ex.refl _) (.int _)⟩
    · subst hv2
      have up3 : H3 p = some (.lst us) := x3.ob p _ (by simpa using fun z => hap z.symm) up2
      have uf3 : H3 f = some (.lst fs) := x3.ob f _ (by simpa using fun z => haf z.symm) uf2
      have gn : us[n]? = some us[n] := List.getElem?_eq_getElem hn
      refine ⟨p, us, n, n, us[n], rfl, rfl, up3, two63a n, two63b (by omega), seq_nat hn, gn, ?_⟩
      have uf4 : (upd H3 p (.lst (us.eraseIdx n))) f = some (.lst fs) := by rw [upd_ne (fun z => hpf z.symm)]; exact uf3
      refine ⟨f, fs, us[n], rfl, rfl, uf4, sz_lt (by omega), ?_⟩
      refine ⟨by omega, us.eraseIdx n, fs ++ [us[n]], some v, ?_, ?_, ?_, upd_same, ?_, by simp; omega, fun u hu => a1 u (List.mem_of_mem_eraseIdx hu), fun u hu => ?_, rfl⟩
      · have y1 : ExL K [a, p, f] H2 H3 := (x1.then e3).trans ⟨fun b o hb ho => x3.ob b o (fun z => hb (by rw [List.mem_singleton.mp z]; exact List.mem_cons_self)) ho, x3.tk⟩
        exact (y1.lst (by simp) up3).lst (by simp) uf4
      · obtain ⟨p1, p2, p3, h1, h2⟩ := b3
        exact ⟨p1, p2, p3, by rw [upd_ne haf, upd_ne hap]; exact h1, h2.1, by omega⟩
      · rw [upd_ne hpf]; exact upd_same
      · rw [List.length_eraseIdx_of_lt hn]; omega
      · rcases List.mem_append.mp hu with hu | hu
        · exact a2 u hu
        · rw [List.mem_singleton.mp hu]; exact a1 _ (List.getElem_mem hn)
  · obtain ⟨_, us, fs, y, x1, b1, up, uf, l1, l2, a1, a2, rfl⟩ := z
    rw [List.length_range] at b1 l2
    try unfold tNext
    dsimp only
    obtain ⟨ys, y1, y2⟩ := is_strs (K := K) a2
    refine ms_ret (P := fun v _ => v = .ref f) (ep_var rfl mono_eq rfl) fun v H4 e4 r => ?_
    subst r
    have hx : ExL K [a] H H' := ⟨fun b o hb ho => x1.ob b o (by
      have h1 : b ≠ p := fun z => by rw [z, hp] at ho; cases ho
      have h2 : b ≠ f := fun z => by rw [z, hfH] at ho; cases ho
      have h3 : b ≠ a := fun z => hb (by rw [z]; exact List.mem_cons_self)
      simp [h1, h2, h3]) ((e1.trans e2) _ _ ho), (Tk.ex (e1.trans e2)).trans x1.tk⟩
    exact q _ H4 (hx.then e4) (b1.ex e4) ⟨ys, by rw [← IsAll.len (y2 H4), l2], y1, f, fs, rfl, hfH, e4 _ _ uf, y2 H4⟩
end
end MoD
set_option maxHeartbeats 4000000
/-! rows of events, drawn -/
namespace MoD
open PySem PySem.Spec PyProof.Rows L2 MoR PySem.W Evl
variable {P : Program} {w : World} {K : PySem.W.Frag} {nv av : Addr}
section
variable {a : Addr} {σ : L2.St} {H H' : Hp}
theorem Box.some {k : Nat} (h : Box H a k) : H a ≠ none := by
  obtain ⟨x, y, z, h1, _⟩ := h
  rw [h1]; exact fun z => nomatch z
theorem fresh_backL {l : Addr} (x : ExL K [a] H H') (ha : H' a ≠ none) (h : H' l = none) : H l = none := by
  cases e : H l with
  | none => rfl
  | some o =>
    have := x.ob l o (fun z => ha (by rw [← List.mem_singleton.mp z]; exact h)) e
    rw [h] at this; cases this
theorem ed_weak {c : Nat} {te : TE} {R R' : VP} (h : EvD K a c te σ H R) (w : ∀ v H1, R v H1 → R' v H1) : EvD K a c te σ H R' := fun H1 x k b hk Q q => h H1 x k b hk Q fun v H2 x2 b2 r => q v H2 x2 b2 (w v H2 r)
theorem etd_yes : EvTD K a 0 tYes σ H := fun H1 x k b hk Q q => q true H1 .refl b
theorem etd_p {t : TT} {b : Bool} (h : ∀ H1, ExL K [a] H H1 → EvT t σ H1 b) : EvTD K a 0 t σ H := fun H1 x k bx hk Q q => h H1 x H1 (Ex.refl _) Q fun H2 e => q b H2 (.of e) (bx.ex e)
/-- [te for j in range(take(size))] -/
theorem ed_lcT {β : Type} [Ec β] {te : TE} {i j c size : Nat} {ts : TE} {vs : List Nat} (Pr : β → Prop) (hi : σ[i]? = some (some (.ref a))) (hs : ∀ H1, ExL K [a] H H1 → EvP ts σ H1 (isP K size)) (h0 : 0 < size) (h1 : size < 10000)
    (hw : ∀ x, wipe ((wipe σ vs).set j (some x)) vs = wipe σ vs) (he : ∀ v H1, ExL K [a] H H1 → EvD K a c te ((wipe σ vs).set j (some v)) H1 (fun u H2 => ∃ y : β, Pr y ∧ Is K H2 u y)) :
    EvD K a (1 + size * c) (tLc (iRng1 (tCons (tCall (sp_law_take K) [] E0 (tCons (tVar i) (tCons ts tNil))) tNil)) (gName j) tYes te vs) σ H (fun v H2 => ∃ ys : List β, (∀ y ∈ ys, Pr y) ∧ ys.length < size ∧ nlP K H ys v H2) := fun H1 x k b hk Q q => by
  show tCall (sp_law_take K) [] E0 (tCons (tVar i) (tCons ts tNil)) σ H1 fun v H2 => tLc (iRng1 (tCons (tC v) tNil)) (gName j) tYes te vs σ H2 Q
  refine (ed_take hi hs h0 (by omega)) H1 x k b (by omega) _ fun v H2 x2 b2 ⟨n, hn, e⟩ => ?_
  subst e
  have hx := x.trans x2
  have hnc : n * c ≤ size * c := Nat.mul_le_mul_right c (Nat.le_of_lt hn)
  refine ed_lc (α := Nat) (xs := List.range n) (ct := 0) (c := c) Pr (wk_rng1 (ep_nat (K := K) n) (by omega)) (by rw [List.length_range]; omega) b2.some hw (fun _ _ _ _ _ _ => etd_yes) (fun y hy v H3 x3 iv => he v H3 (hx.trans x3)) (k + 1) b2 (by rw [List.length_range, Nat.zero_add]; omega) Q fun v H4 x4 b4 ⟨ys, h1, h2, l, us, h3, h4, h5, h6⟩ => ?_
  rw [List.length_range] at h2
  exact q v H4 (x2.trans x4) (b4.mono (by rw [List.length_range, Nat.zero_add]; omega)) ⟨ys, h1, by omega, l, us, h3, fresh_backL hx b2.some h4, h5, h6⟩
/-! ### a row of events -/
abbrev sp_law_event_row (K : PySem.W.Frag) : Sp := fun vs H Q _ => ∃ (a : Addr) (k most : Nat) (g : V) (xs : List Str), vs = [.ref a, g, .int (most : Int)] ∧ Box H a k ∧ k + (most + 2) ≤ lim ∧ most ≤ 100 ∧ ltA K a xs g H ∧ 0 < xs.length ∧ xs.length < 1000 ∧ ∀ v H', ExL K [a] H H' → Box H' a (k + (most + 2)) → (∃ u : Wd, (∀ x ∈ u, x ∈ xs) ∧ u.length ≤ most ∧ Is K H' v u) → Q v H'
theorem len_event_row (vs : List V) (H : Hp) (Q : VK) (E : XK) (h : sp_law_event_row K vs H Q E) : vs.length = 3 := by
  obtain ⟨a, k, m, g, xs, rfl, _⟩ := h
  rfl
theorem pure_event_row (vs : List V) (H : Hp) (Q : VK) (E : XK) (h : sp_law_event_row K vs H Q E) : tr_law_event_row K nv av (sp_law_take K) (sp_law_of K) { nx := fun _ H' => Q .non H', rt := Q } (L2.start N_law_event_row vs) H := by
  obtain ⟨a, k, most, g, xs, rfl, hb, hk, hm, hg, h0, h1, q⟩ := h
  unfold tr_law_event_row
  show tLc _ _ _ _ _ [some (.ref a), some g, some (.int (most : Int)), none] H (fun v H1 => rTupOf K [v] H1 Q)
  refine (ed_lcT (K := K) (a := a) (σ := [some (.ref a), some g, some (.int (most : Int)), none]) (i := 0) (j := 3) (vs := [3]) (β := Str) (c := 1) (size := most + 1) (fun y => y ∈ xs) rfl (fun H1 x => ep_add (ep_vis (i := 2) rfl (.int _)) (ep_nat 1)) (by omega) (by omega) (fun _ => rfl) (fun v H1 x => ?_)) H .refl k hb (by omega) _ fun v H2 x b ⟨ys, y1, y2, y3⟩ => ?_
  · exact ed_weak (ed_of (g := g) (xs := xs) rfl rfl (.inl (ltA_x hg x)) h0 (by omega)) fun v H1 ⟨y, hy, e⟩ => ⟨y, hy, by rw [e]; exact .str y⟩
  · have := (ep_tuple (K := K) (σ := []) (ep_k (mono_nl _) y3).sqn) H2 (Ex.refl _) Q fun u H3 e3 iu => q u H3 (x.then e3) ((b.ex e3).mono (by omega)) ⟨ys, y1, by omega, iu⟩
    exact this
theorem ed_event_row {i j most : Nat} {g : V} {xs : List Str} {tm : TE} (hi : σ[i]? = some (some (.ref a))) (hj : σ[j]? = some (some g)) (hm : ∀ H1, ExL K [a] H H1 → EvP tm σ H1 (isP K most)) (hg : ltA K a xs g H) (h0 : 0 < xs.length) (h1 : xs.length < 1000) (h2 : most ≤ 100) :
    EvD K a (most + 2) (tCall (sp_law_event_row K) [] E0 (tCons (tVar i) (tCons (tVar j) (tCons tm tNil)))) σ H (fun v H' => ∃ u : Wd, ((∀ x ∈ u, x ∈ xs) ∧ u.length ≤ most) ∧ Is K H' v u) := fun H1 x k b hk Q q =>
  ⟨_, hi, _, hj, hm H1 x H1 (Ex.refl _) _ fun v H2 e p => ⟨a, k, most, g, xs, by rw [Is.nat p]; rfl, b.ex e, hk, h2, ltA_x hg (x.then e), h0, h1, fun u H' x' b' ⟨r, r1, r2, r3⟩ => q u H' ((ExL.of e).trans x') b' ⟨r, ⟨r1, r2⟩, r3⟩⟩⟩
/-! ### some rows -/
abbrev sp_law_some_rows (K : PySem.W.Frag) : Sp := fun vs H Q _ => ∃ (a : Addr) (k many most : Nat) (g : V) (xs : List Str), vs = [.ref a, g, .int (many : Int), .int (most : Int)] ∧ Box H a k ∧ k + (1 + (many + 1) * (most + 2)) ≤ lim ∧ many ≤ 100 ∧ most ≤ 100 ∧ ltA K a xs g H ∧ 0 < xs.length ∧ xs.length < 1000 ∧ ∀ v H', ExL K [a] H H' → Box H' a (k + (1 + (many + 1) * (most + 2))) → (∃ us : Bs, (∀ u ∈ us, (∀ x ∈ u, x ∈ xs) ∧ u.length ≤ most) ∧ us.length ≤ many ∧ nlP K H us v H') → Q v H'
theorem len_some_rows (vs : List V) (H : Hp) (Q : VK) (E : XK) (h : sp_law_some_rows K vs H Q E) : vs.length = 4 := by
  obtain ⟨a, k, m, n, g, xs, rfl, _⟩ := h
  rfl
theorem pure_some_rows (vs : List V) (H : Hp) (Q : VK) (E : XK) (h : sp_law_some_rows K vs H Q E) : tr_law_some_rows K nv av (sp_law_take K) (sp_law_event_row K) { nx := fun _ H' => Q .non H', rt := Q } (L2.start N_law_some_rows vs) H := by
  obtain ⟨a, k, many, most, g, xs, rfl, hb, hk, hm, hm2, hg, h0, h1, q⟩ := h
  unfold tr_law_some_rows
  show tLc _ _ _ _ _ [some (.ref a), some g, some (.int (many : Int)), some (.int (most : Int)), none] H Q
  refine (ed_lcT (K := K) (a := a) (σ := [some (.ref a), some g, some (.int (many : Int)), some (.int (most : Int)), none]) (i := 0) (j := 4) (vs := [4]) (β := Wd) (c := most + 2) (size := many + 1) (fun u => (∀ x ∈ u, x ∈ xs) ∧ u.length ≤ most) rfl (fun H1 x => ep_add (ep_vis (i := 2) rfl (.int _)) (ep_nat 1)) (by omega) (by omega) (fun _ => rfl) (fun v H1 x => ?_)) H .refl k hb hk _ fun v H2 x b ⟨ys, y1, y2, y3⟩ => ?_
  · exact ed_event_row (g := g) (xs := xs) rfl rfl (fun H1 _ => ep_vis rfl (.int _)) (ltA_x hg x) h0 h1 hm2
  · exact q v H2 x b ⟨ys, y1, by omega, y3⟩
/-! ### a base -/
def DB (xs : List Str) (many most : Nat) (B : Bs) : Prop := Mo.CB leW B ∧ B.length ≤ many ∧ ∀ u ∈ B, (∀ x ∈ u, x ∈ xs) ∧ u.length ≤ most
abbrev dbc (many most : Nat) : Nat := 1 + (many + 1) * (most + 2) + many
abbrev sp_law_drawn_base (K : PySem.W.Frag) : Sp := fun vs H Q _ => ∃ (a : Addr) (k many most : Nat) (g : V) (xs : List Str), vs = [.ref a, g, .int (many : Int), .int (most : Int)] ∧ Box H a k ∧ k + dbc many most ≤ lim ∧ many ≤ 100 ∧ most ≤ 100 ∧ ltA K a xs g H ∧ 0 < xs.length ∧ xs.length < 1000 ∧ ∀ v H', ExL K [a] H H' → Box H' a (k + dbc many most) → (∃ B : Bs, DB xs many most B ∧ Is K H' v B) → Q v H'
theorem len_drawn_base (vs : List V) (H : Hp) (Q : VK) (E : XK) (h : sp_law_drawn_base K vs H Q E) : vs.length = 4 := by
  obtain ⟨a, k, m, n, g, xs, rfl, _⟩ := h
  rfl
theorem etd_or {ta tb : TT} {b : Bool} {c : Nat} (h : ∀ H1, ExL K [a] H H1 → EvT ta σ H1 b) (h2 : EvTD K a c tb σ H) : EvTD K a c (tOr ta tb) σ H := fun H1 x k bx hk Q q => h H1 x H1 (Ex.refl _) _ fun H2 e => by
  cases b with
  | true =>
    show Q true H2
    exact q true H2 (.of e) ((bx.ex e).mono (by omega))
  | false =>
    show tb σ H2 Q
    exact h2 H2 (x.then e) k (bx.ex e) hk Q fun r H3 x3 b3 => q r H3 ((ExL.of e).trans x3) b3
/-- take(size) == n -/
theorem etd_takeEq {i size m : Nat} {ts : TE} (hi : σ[i]? = some (some (.ref a))) (hs : ∀ H1, ExL K [a] H H1 → EvP ts σ H1 (isP K size)) (h0 : 0 < size) (h1 : size < 1000000) : EvTD K a 1 (tTest (tOp (rEqG K) (tCall (sp_law_take K) [] E0 (tCons (tVar i) (tCons ts tNil))) (tC (.int (m : Int))))) σ H := fun H1 x k b hk Q q => by
  show tCall (sp_law_take K) [] E0 (tCons (tVar i) (tCons ts tNil)) σ H1 fun v H2 => tTest (tOp (rEqG K) (tC v) (tC (.int (m : Int)))) σ H2 Q
  refine (ed_take hi hs h0 h1) H1 x k b hk _ fun v H2 x2 b2 ⟨n, hn, e⟩ => ?_
  subst e
  exact (et_T (ep_eq (K := K) (x := n) (y := m) (ep_nat n) (ep_nat m))) H2 (Ex.refl _) Q fun H3 e3 => q _ H3 (x2.then e3) (b2.ex e3)
theorem asg_lc {sp : Sp} {ts : TA} {g : TG} {t : TT} {te : TE} {vs : List Nat} {i : Nat} {D : Ends} (h : ts σ H fun ws H2 => sp (ws ++ []) H2 (fun v H3 => tLc (iSeq K (tC v)) g t te vs σ H3 (fun v H4 => D.nx (σ.set i (some v)) H4)) E0) : tAsg (tLc (iSeq K (tCall sp [] E0 ts)) g t te vs) (gName i) D σ H := h
theorem pure_drawn_base (vs : List V) (H : Hp) (Q : VK) (E : XK) (h : sp_law_drawn_base K vs H Q E) : tr_law_drawn_base K nv av (sp_law_take K) (sp_law_least K) (sp_law_some_rows K) { nx := fun _ H' => Q .non H', rt := Q } (L2.start N_law_drawn_base vs) H := by
  obtain ⟨a, k, many, most, g, xs, rfl, hb, hk, hm, hm2, hg, h0, h1, q⟩ := h
  have hk' : k + (1 + (many + 1) * (most + 2) + many) ≤ lim := hk
  unfold tr_law_drawn_base
  refine sq (asg_lc ?_)
  refine ⟨_, rfl, _, rfl, _, rfl, _, rfl, a, k, many, most, g, xs, rfl, hb, by omega, hm, hm2, hg, h0, h1, fun v H1 x1 b1 ⟨us, u1, u2, u3⟩ => ?_⟩
  refine ed_lc (K := K) (a := a) (α := Wd) (β := Wd) (xs := us) (ct := 1) (c := 0) (fun u => u ∈ us) (wk_new (ep_k (mono_nl _) u3) (fun b hb' => by rw [List.mem_singleton.mp hb']; exact hb.some)) (by omega) b1.some (fun _ => rfl)
    (fun u hu v2 H2 x2 iv => etd_or (b := !decide (u = [])) (fun H3 x3 => et_T (ep_ne (y := ([] : Wd)) (ep_vis rfl (Im.tk x3.tk iv)) ep_tup0)) (etd_takeEq (m := 0) rfl (fun H3 _ => ep_nat (K := K) 8) (by decide) (by decide)))
    (fun u hu v2 H2 x2 iv => ed_p fun H3 x3 => (ep_vis rfl (Im.tk x3.tk iv)).weak fun v4 H4 e4 p4 => ⟨u, hu, p4⟩) _ b1 (by omega) _ fun v2 H2 x2 b2 ⟨ys, y1, y2, l, ws, h3, h4, h5, h6⟩ => ?_
  subst h3
  have hys : ys.length < 4096 := by omega
  refine (call_least (K := K) (ws := ys) hys (ea_cons' (ep_var (P := sqP K ys) rfl (mono_sq _) ⟨l, ws, rfl, .inl h5, h6⟩) (mono_sq _) ea_nil')) H2 (Ex.refl _) _ fun v3 H3 e3 i3 => ?_
  refine q v3 H3 ((x1.trans x2).then e3) ((b2.ex e3).mono ?_) ⟨_, ⟨Mo.cb_leastOf ordW ys, ?_, fun u hu => ?_⟩, i3⟩
  · show k + (1 + (many + 1) * (most + 2)) + us.length * (1 + 0) ≤ k + (1 + (many + 1) * (most + 2) + many)
    omega
  · exact Nat.le_trans (Mo.nodup_le (Mo.cb_leastOf ordW _).rise.nodup fun y hy => Mo.leastOf_sub ordW hy) (by omega)
  · exact u1 u (y1 u (Mo.leastOf_sub ordW hu))
theorem ed_drawn_base {i j many most : Nat} {g : V} {xs : List Str} (hi : σ[i]? = some (some (.ref a))) (hj : σ[j]? = some (some g)) (hg : ltA K a xs g H) (h0 : 0 < xs.length) (h1 : xs.length < 1000) (hm : many ≤ 100) (h2 : most ≤ 100) :
    EvD K a (dbc many most) (tCall (sp_law_drawn_base K) [] E0 (tCons (tVar i) (tCons (tVar j) (tCons (tC (.int (many : Int))) (tCons (tC (.int (most : Int))) tNil))))) σ H (fun v H' => ∃ B : Bs, DB xs many most B ∧ Is K H' v B) := fun H1 x k b hk Q q =>
  ⟨_, hi, _, hj, a, k, many, most, g, xs, rfl, b, hk, hm, h2, ltA_x hg x, h0, h1, fun u H' x' b' r => q u H' x' b' r⟩
/-! ### all rows of up to two events -/
abbrev sp_law_every (K : PySem.W.Frag) : Sp := fun vs H Q _ => ∃ (g : V) (xs : List Str), vs = [g, .int 2] ∧ ltP K xs g H ∧ xs.length ≤ 3 ∧ ∀ v H', Ex H H' → (∃ us : Bs, us.length ≤ 1000 ∧ (∀ u ∈ us, u.length ≤ 100) ∧ ltP K us v H') → Q v H'
theorem len_every (vs : List V) (H : Hp) (Q : VK) (E : XK) (h : sp_law_every K vs H Q E) : vs.length = 2 := by
  obtain ⟨g, xs, rfl, _⟩ := h
  rfl
theorem pure_every (vs : List V) (H : Hp) (Q : VK) (E : XK) (h : sp_law_every K vs H Q E) : tr_law_every K nv av { nx := fun _ H' => Q .non H', rt := Q } (L2.start N_law_every vs) H := by
  obtain ⟨g, xs, rfl, hg, hx, q⟩ := h
  unfold tr_law_every
  have pow : ∀ i, i < 2 → 3 ^ i ≤ 3 ∧ 3 ^ (i + 1) = 3 ^ i * 3 := fun i hi => by
    have : i = 0 ∨ i = 1 := by omega
    rcases this with rfl | rfl <;> decide
  refine sq (ms_par (ep_lst1 (K := K) (x := ([] : Wd)) ep_tup0) (mono_nl _) (ep_lst1 (K := K) (x := ([] : Wd)) ep_tup0) fun v2 v3 H1 e1 p2 p3 => ?_)
  refine sq (s_for (K := K) (W := []) (xs := List.range 2) (wk_rng1 (ep_vis (K := K) (x := 2) rfl (.int _)) (by decide)) (fun H2 i σ' H' => Ex H2 H' ∧ ∃ (fs es : Bs) (u2 u3 : V) (x4 x5 x6 : Option V), ltP K fs u2 H' ∧ ltP K es u3 H' ∧ fs.length ≤ 1 + i * 30 ∧ es.length ≤ 3 ^ i ∧ (∀ u ∈ fs, u.length ≤ i) ∧ (∀ u ∈ es, u.length ≤ i) ∧ σ' = [some g, some (.int 2), some u2, some u3, x4, x5, x6, none])
    (fun H2 e2 => ⟨Ex.refl _, [[]], [[]], v2, v3, none, none, none, lt_of (mono_nl _ _ _ _ e2 p2), lt_of (mono_nl _ _ _ _ e2 p3), by decide, by decide, by decide, by decide, rfl⟩) (fun H2 i σ' H' _ z => .of z.1) (fun H2 i x v σ' H' H'' e2 hxi z e3 iv => ?_) fun H2 σ' H' e2 z => ?_)
  · obtain ⟨z1, fs, es, u2, u3, x4, x5, x6, f1, f2, f3, f4, f5, f6, rfl⟩ := z
    have hi2 : i < 2 := by have := (List.getElem?_eq_some_iff.mp hxi).1; rwa [List.length_range] at this
    obtain ⟨pw1, pw2⟩ := pow i hi2
    refine sq (ms_asg (ep_lst0 (K := K) (α := Wd)) fun v5 H3 e4 p5 => ?_)
    have eg3 : Ex H H3 := (((e1.trans e2).trans z1).trans e3).trans e4
    refine sq (s_for (K := K) (W := []) (xs := es) (wk_seq (ep_var rfl (mono_nl _) (mono_nl _ _ _ _ (e3.trans e4) f2)).sqn) (fun H4 j σ' H5 => Ex H4 H5 ∧ ∃ (ws : Bs) (u5 : V) (x6 : Option V), ltP K ws u5 H5 ∧ ws.length ≤ j * 3 ∧ (∀ u ∈ ws, u.length ≤ i + 1) ∧ σ' = [some g, some (.int 2), some u2, some u3, some v, some u5, x6, none])
      (fun H4 e5 => ⟨Ex.refl _, [], v5, x6, lt_of (mono_nl _ _ _ _ e5 p5), Nat.zero_le _, fun u hu => (nomatch hu), rfl⟩) (fun H4 j σ' H5 _ z => .of z.1) (fun H4 j r v6 σ' H5 H6 e5 hr z e6 iv6 => ?_) fun H4 σ' H5 e5 z => ?_)
    · obtain ⟨y1, ws, u5, y6, w1, w2, w3, rfl⟩ := z
      have hj : j < es.length := (List.getElem?_eq_some_iff.mp hr).1
      have hrm := f6 r (List.mem_of_getElem? hr)
      refine ms_asg (ep_catL (ep_var rfl (mono_nl _) (mono_nl _ _ _ _ e6 w1)) (el_map (fun x : Str => r ++ [x]) (wk_seq (ep_var rfl (mono_nl _) (mono_nl _ _ _ _ (((eg3.trans e5).trans y1).trans e6) hg)).sqn) (by omega) (fun _ => rfl) fun x hx2 v7 H7 e7 iv7 => ep_cat (ep_vis rfl (iv6.ex e7)) (ep_tup1 (ep_vis rfl iv7)) (by show r.length + 1 ≤ 100000; omega)) (by rw [List.length_map]; omega)) fun v8 H8 e8 p8 => ?_
      refine ⟨(y1.trans e6).trans e8, _, v8, some v6, lt_of p8, ?_, fun u hu => ?_, rfl⟩
      · rw [List.length_append, List.length_map, Nat.succ_mul]; omega
      · rcases List.mem_append.mp hu with hu | hu
        · exact w3 u hu
        · obtain ⟨x, _, rfl⟩ := List.mem_map.mp hu
          rw [List.length_append]
          show r.length + 1 ≤ i + 1
          omega
    · obtain ⟨y1, ws, u5, y6, w1, w2, w3, rfl⟩ := z
      have hw9 : ws.length ≤ 9 := by omega
      have et := (e4.trans e5).trans y1
      refine ms_par (P := ltP K ws) (P' := ltP K (fs ++ ws)) (ep_var rfl (mono_nl _) w1) (mono_nl _) ((ep_catL (ep_var rfl (mono_nl _) (mono_nl _ _ _ _ (e3.trans et) f1)) (ep_var rfl (mono_nl _) w1) (by omega)).weak fun _ _ _ r => lt_of r) fun v7 v8 H7 e7 p7 p8 => ?_
      exact ⟨((z1.trans e3).trans et).trans e7, fs ++ ws, ws, v8, v7, some v, some u5, y6, p8, p7, by rw [List.length_append, Nat.succ_mul]; omega, by rw [pw2]; omega, fun u hu => by
        rcases List.mem_append.mp hu with hu | hu
        · have := f5 u hu; omega
        · exact w3 u hu, w3, rfl⟩
  · obtain ⟨z1, fs, es, u2, u3, x4, x5, x6, f1, f2, f3, f4, f5, f6, rfl⟩ := z
    rw [List.length_range] at f3 f5
    try unfold tNext
    dsimp only
    exact ms_ret (P := ltP K fs) (ep_var rfl (mono_nl _) f1) fun v H3 e3 r => q v H3 (((e1.trans e2).trans z1).trans e3) ⟨fs, by omega, fun u hu => by have := f5 u hu; omega, r⟩
theorem ev_every {te : TE} {xs : List Str} (hx : xs.length ≤ 3) (h : EvP te σ H (ltP K xs)) : EvP (tCall (sp_law_every K) [] E0 (tCons te (tCons (tC (.int 2)) tNil))) σ H (fun v H' => ∃ us : Bs, us.length ≤ 1000 ∧ (∀ u ∈ us, u.length ≤ 100) ∧ ltP K us v H') := fun H1 e Q q =>
  h H1 e _ fun v H2 e2 p => ⟨v, xs, rfl, p, hx, fun u H3 e3 r => q u H3 (e2.trans e3) r⟩
end
end MoD
set_option maxHeartbeats 4000000
/-! names, drawn -/
namespace MoD
open PySem PySem.Spec PyProof.Rows L2 MoR PySem.W Evl
variable {P : Program} {w : World} {K : PySem.W.Frag} {nv av : Addr}
section
variable {a : Addr} {σ : L2.St} {H H' : Hp}
/-! ### slices of a list, joined texts -/
theorem is_map {vs : List V} {xs : List Str} (h : IsAll K H vs xs) : vs = xs.map V.str := by
  induction xs generalizing vs with
  | nil => cases h; rfl
  | cons x xs ih =>
    cases h with
    | cons h1 h2 => rw [ih h2, Is.text h1]; rfl
theorem ep_uptoL {α : Type} [Ec α] {ta tb : TE} {xs : List α} {i : Nat} {H0 : Hp} (ha : EvP ta σ H (nlP K H0 xs)) (hb : EvP tb σ H (isP K i)) : EvP (tSl (rSlL K) ta tNoPart (tPart tb)) σ H (nlP K H (xs.take i)) := fun H1 e Q q =>
  ha H1 e _ fun v H2 e2 p => hb H2 (e.trans e2) _ fun u H3 e3 p' => ⟨_, Is.nat p', by
    obtain ⟨b, vs, h1, _, h2, h3⟩ := mono_nl _ _ _ _ e3 p
    have hl := IsAll.len h3
    refine ⟨b, vs, h1, sq_of h2, fun l hl0 => q _ _ ((e2.trans e3).trans (Ex.new hl0)) ⟨l, _, rfl, fresh_back ((e.trans e2).trans e3) hl0, upd_same, ImAll.ex (Ex.new hl0) ?_⟩⟩
    unfold cutV
    rw [sIx_nat]
    show ImAll K H3 ((vs.drop 0).take (min i vs.length - 0)) (List.map _ _)
    rw [List.drop_zero, Nat.sub_zero, List.map_take]
    have e5 : vs.take (min i vs.length) = vs.take i := by
      by_cases h : i ≤ vs.length
      · rw [Nat.min_eq_left h]
      · rw [Nat.min_eq_right (by omega), List.take_of_length_le (Nat.le_refl _), List.take_of_length_le (by omega)]
    rw [e5]
    exact ImAll.take i h3⟩
theorem ep_fromL {α : Type} [Ec α] {ta tb : TE} {xs : List α} {i : Nat} {H0 : Hp} (ha : EvP ta σ H (nlP K H0 xs)) (hb : EvP tb σ H (isP K i)) : EvP (tSl (rSlL K) ta (tPart tb) tNoPart) σ H (nlP K H (xs.drop i)) := fun H1 e Q q =>
  ha H1 e _ fun v H2 e2 p => hb H2 (e.trans e2) _ fun u H3 e3 p' => ⟨_, Is.nat p', by
    obtain ⟨b, vs, h1, _, h2, h3⟩ := mono_nl _ _ _ _ e3 p
    have hl := IsAll.len h3
    refine ⟨b, vs, h1, sq_of h2, fun l hl0 => q _ _ ((e2.trans e3).trans (Ex.new hl0)) ⟨l, _, rfl, fresh_back ((e.trans e2).trans e3) hl0, upd_same, ImAll.ex (Ex.new hl0) ?_⟩⟩
    unfold cutV
    rw [sIx_nat]
    show ImAll K H3 ((vs.drop (min i vs.length)).take (vs.length - min i vs.length)) (List.map _ _)
    rw [List.map_drop]
    have e5 : (vs.drop (min i vs.length)).take (vs.length - min i vs.length) = vs.drop i := by
      by_cases h : i ≤ vs.length
      · rw [Nat.min_eq_left h, List.take_of_length_le (by rw [List.length_drop]; exact Nat.le_refl _)]
      · rw [Nat.min_eq_right (by omega), List.drop_of_length_le (by omega : vs.length ≤ i)]
        simp
    rw [e5]
    exact ImAll.drop i h3⟩
theorem ep_join {te : TE} {ys : List Str} {H0 : Hp} (h : EvP te σ H (nlP K H0 ys)) (hz : (ys.map (·.length)).sum ≤ 1000) : EvP (tM1 (rJoin K) (tC (.str "")) te) σ H (isP K (Txt.join "" ys)) := fun H1 e Q q =>
  ⟨⟨_, rfl⟩, h H1 e _ fun v H2 e2 ⟨b, vs, h1, _, h2, h3⟩ => ⟨"", b, ys, rfl, by rw [h1], .inl (by rw [← is_map h3]; exact sq_of h2), by
    have : (ys.map (·.length)).sum + ys.length * (("" : Str).length) = (ys.map (·.length)).sum := by
      show _ + ys.length * 0 = _
      omega
    rw [this]; omega, q _ H2 e2 (.str _)⟩⟩
/-- one sign, a letter -/
def Sg (x : Str) : Prop := x ∈ MoR.signs letters
theorem sg_len {x : Str} (h : Sg x) : x.length = 1 ∧ ∀ c ∈ x.cps.toList, c ∈ letters.cps.toList := by
  obtain ⟨c, hc, rfl⟩ := List.mem_map.mp h
  exact ⟨rfl, fun d hd => by
    have : d = c := by simpa using hd
    rw [this]; exact hc⟩
theorem sum_sg {ys : List Str} (h : ∀ y ∈ ys, Sg y) : (ys.map (·.length)).sum = ys.length := by
  induction ys with
  | nil => rfl
  | cons y ys ih =>
    have h1 := (sg_len (h y List.mem_cons_self)).1
    have h2 := ih fun z hz => h z (List.mem_cons_of_mem _ hz)
    rw [List.map_cons, List.sum_cons, List.length_cons, h2, h1]; omega
theorem joinL_nil (ls : List (List Nat)) : TL.joinL [] ls = ls.flatten := by
  induction ls with
  | nil => rfl
  | cons p r ih =>
    cases r with
    | nil => simp [TL.joinL]
    | cons s r =>
      rw [TL.joinL, List.nil_append, ih]
      rfl
theorem join_sg {ys : List Str} (h : ∀ y ∈ ys, Sg y) : (Txt.join "" ys).length = ys.length ∧ ∀ c ∈ (Txt.join "" ys).cps.toList, c ∈ letters.cps.toList := by
  have e : (Txt.join "" ys).cps.toList = (ys.map fun y => y.cps.toList).flatten := by
    rw [TL.join_eq]
    have := TL.tl_join "" ys
    rw [show TL.tl (("" : Str)) = [] from rfl, joinL_nil] at this
    exact this
  constructor
  · show (Txt.join "" ys).cps.size = _
    rw [← Array.length_toList, e, List.length_flatten, List.map_map]
    have : (List.length ∘ fun y : Str => y.cps.toList) = fun y : Str => y.length := by
      funext y
      show y.cps.toList.length = y.cps.size
      rw [Array.length_toList]
    rw [this]
    exact sum_sg h
  · intro c hc
    rw [e] at hc
    obtain ⟨l, hl, hcl⟩ := List.mem_flatten.mp hc
    obtain ⟨y, hy, rfl⟩ := List.mem_map.mp hl
    exact (sg_len (h y hy)).2 c hcl
theorem name_join {ys : List Str} (h : ∀ y ∈ ys, Sg y) (h1 : 1 ≤ ys.length) (h2 : ys.length ≤ 8) : NameOk (Txt.join "" ys) := by
  obtain ⟨j1, j2⟩ := join_sg h
  exact ⟨by omega, by omega, j2⟩
theorem name_sg {x : Str} (h : Sg x) : NameOk x := by
  obtain ⟨j1, j2⟩ := sg_len h
  exact ⟨by omega, by omega, j2⟩
theorem len_app (x y : Str) : (x ++ y).length = x.length + y.length := by
  have := TL.tl_append x y
  rw [TL.len_tl, this, List.length_append, ← TL.len_tl, ← TL.len_tl]
theorem name_app {x : Str} {ys : List Str} (h : Sg x) (hy : ∀ y ∈ ys, Sg y) (h2 : ys.length ≤ 7) : NameOk (x ++ Txt.join "" ys) := by
  obtain ⟨j1, j2⟩ := join_sg hy
  obtain ⟨i1, i2⟩ := sg_len h
  have hl := len_app x (Txt.join "" ys)
  refine ⟨by omega, by omega, fun c hc => ?_⟩
  have e : (x ++ Txt.join "" ys).cps.toList = x.cps.toList ++ (Txt.join "" ys).cps.toList := TL.tl_append _ _
  rw [e] at hc
  rcases List.mem_append.mp hc with hc | hc
  · exact i2 c hc
  · exact j2 c hc
/-! ### names -/
abbrev sp_law_names (K : PySem.W.Frag) : Sp := fun vs H Q _ => ∃ (a : Addr) (k m : Nat), vs = [.ref a, .int (m : Int)] ∧ Box H a k ∧ k + 100 ≤ lim ∧ m ≤ 3 ∧ ∀ v H', ExL K [a] H H' → Box H' a (k + 100) → (∃ ys : List Str, ys.length = m ∧ (∀ y ∈ ys, NameOk y) ∧ nlP K H ys v H') → Q v H'
theorem len_names (vs : List V) (H : Hp) (Q : VK) (E : XK) (h : sp_law_names K vs H Q E) : vs.length = 2 := by
  obtain ⟨a, k, m, rfl, _⟩ := h
  rfl
/-- the loop of names, behind i names -/
def NmI (K : PySem.W.Frag) (a f l4 : Addr) (k7 m n s t : Nat) (H9 : Hp) (i : Nat) (σ' : L2.St) (H' : Hp) : Prop := ∃ (fs : List V) (x8 : Option V), ExL K [a, f] H9 H' ∧ Box H' a (k7 + m + i * 9) ∧ H' f = some (.lst fs) ∧ fs.length = i ∧ (∃ ys : List Str, (∀ y ∈ ys, NameOk y) ∧ fs = ys.map V.str) ∧ σ' = [some (.ref a), some (.int (m : Int)), some (.str letters), some (.int ((1 + n : Nat) : Int)), some (.ref l4), some (.int (s : Int)), some (.int (t : Int)), some (.ref f), x8, none]
theorem NmI.put {a f l4 : Addr} {k7 m n s t i : Nat} {H9 H1 H2 : Hp} {fs : List V} {x8 : Option V} {u : Str} (haf : a ≠ f) (h1 : ExL K [a, f] H9 H1) (h2 : H1 f = some (.lst fs)) (hl : fs.length = i) (hy : ∃ ys : List Str, (∀ y ∈ ys, NameOk y) ∧ fs = ys.map V.str) (hu : NameOk u) (x : ExL K [a] H1 H2) (b : Box H2 a (k7 + m + (i + 1) * 9)) :
    H2 f = some (.lst fs) ∧ NmI K a f l4 k7 m n s t H9 (i + 1) [some (.ref a), some (.int (m : Int)), some (.str letters), some (.int ((1 + n : Nat) : Int)), some (.ref l4), some (.int (s : Int)), some (.int (t : Int)), some (.ref f), x8, none] (upd H2 f (.lst (fs ++ [.str u]))) := by
  have f2 : H2 f = some (.lst fs) := x.ob _ _ (by simpa using fun z => haf z.symm) h2
  obtain ⟨ys, y1, y2⟩ := hy
  refine ⟨f2, fs ++ [.str u], x8, ?_, ?_, upd_same, by simp [hl], ⟨ys ++ [u], fun y hy => ?_, by rw [y2, List.map_append]; rfl⟩, rfl⟩
  · have x2 : ExL K [a, f] H9 H2 := h1.trans ⟨fun b o hb ho => x.ob b o (fun z => hb (by rw [List.mem_singleton.mp z]; exact List.mem_cons_self)) ho, x.tk⟩
    exact x2.lst (by simp) f2
  · obtain ⟨p1, p2, p3, g1, g2⟩ := b
    exact ⟨p1, p2, p3, by rw [upd_ne haf]; exact g1, g2⟩
  · rcases List.mem_append.mp hy with hy | hy
    · exact y1 y hy
    · rw [List.mem_singleton.mp hy]; exact hu
theorem pure_names (vs : List V) (H : Hp) (Q : VK) (E : XK) (h : sp_law_names K vs H Q E) : tr_law_names K nv av (sp_law_take K) (sp_law_of K) (sp_law_pick K) { nx := fun _ H' => Q .non H', rt := Q } (L2.start N_law_names vs) H := by
  obtain ⟨a, k, m, rfl, hb, hk, hm, q⟩ := h
  unfold tr_law_names
  refine sq (ms_asg (P := fun v _ => v = .str letters) (ep_c fun _ => rfl) fun v2 H1 e1 r2 => ?_)
  subst r2
  have lm : lim = 1000000 := rfl
  try dsimp only
  refine sq ?_
  show tCall (sp_law_take K) [] E0 (tCons (tVar 0) (tCons (tC (.int 8)) tNil)) [some (.ref a), some (.int (m : Int)), some (.str letters), none, none, none, none, none, none, none] H1 fun v H2 => tAsg (tOp rAdd' (tC (.int 1)) (tC v)) (gName 3) _ [some (.ref a), some (.int (m : Int)), some (.str letters), none, none, none, none, none, none, none] H2
  refine (ed_take (K := K) (a := a) (size := 8) rfl (fun H2 _ => ep_nat (K := K) 8) (by decide) (by decide)) H1 .refl k (hb.ex e1) (by omega) _ fun v3 H2 x2 b2 ⟨n, hn, r3⟩ => ?_
  subst r3
  refine ms_asg (P := isP K (1 + n)) (ep_add (ep_nat 1) (ep_nat n)) fun v3 H3 e3 i3 => ?_
  cases Is.nat i3
  have x3 : ExL K [a] H H3 := ((ExL.of e1).trans x2).then e3
  try dsimp only
  refine sq ?_
  show tLc _ _ _ _ _ [some (.ref a), some (.int (m : Int)), some (.str letters), some (.int ((1 + n : Nat) : Int)), none, none, none, none, none, none] H3 _
  refine ed_lc (K := K) (a := a) (σ := [some (.ref a), some (.int (m : Int)), some (.str letters), some (.int ((1 + n : Nat) : Int)), none, none, none, none, none, none]) (vs := [9]) (j := 9) (α := Nat) (β := Str) (xs := List.range (1 + n)) (ct := 0) (c := 1) (fun y => y ∈ MoR.signs letters) (wk_rng1 (ep_vis (x := 1 + n) rfl (.int _)) (by omega)) (by rw [List.length_range]; omega) (b2.ex e3).some (fun _ => rfl) (fun _ _ _ _ _ _ => etd_yes)
    (fun y hy v4 H4 x4 iv => ed_weak (ed_of (i := 0) (j := 2) (g := .str letters) (xs := MoR.signs letters) rfl rfl (.inr ⟨rfl, rfl⟩) (by rw [s_len]; decide) (by rw [s_len]; decide)) fun v H5 ⟨z, hz, e⟩ => ⟨z, hz, by rw [e]; exact .str z⟩) _ (b2.ex e3) (by rw [List.length_range]; omega) _ fun v4 H4 x4 b4 ⟨so, so1, so2, l4, us4, r4, n4, h4, i4⟩ => ?_
  subst r4
  rw [List.length_range] at so2 b4
  try dsimp only
  refine sq ?_
  show tCall (sp_law_take K) [] E0 (tCons (tVar 0) (tCons (tC (.int 4)) tNil)) [some (.ref a), some (.int (m : Int)), some (.str letters), some (.int ((1 + n : Nat) : Int)), some (.ref l4), none, none, none, none, none] H4 _
  refine (ed_take (K := K) (a := a) (size := 4) rfl (fun H2 _ => ep_nat (K := K) 4) (by decide) (by decide)) H4 .refl _ b4 (by omega) _ fun v5 H5 x5 b5 ⟨s, hs, r5⟩ => ?_
  subst r5
  show tCall (sp_law_take K) [] E0 (tCons (tVar 0) (tCons (tVar 3) tNil)) [some (.ref a), some (.int (m : Int)), some (.str letters), some (.int ((1 + n : Nat) : Int)), some (.ref l4), none, none, none, none, none] H5 _
  refine (ed_take (K := K) (a := a) (size := 1 + n) rfl (fun H2 _ => ep_vis rfl (.int _)) (by omega) (by omega)) H5 .refl _ b5 (by omega) _ fun v6 H6 x6 b6 ⟨t, ht, r6⟩ => ?_
  subst r6
  refine ⟨by show 0 ≤ sizeLine; decide, fun f hf => ⟨_, _, _, rfl, ?_⟩⟩
  have x46 : ExL K [a] H4 H6 := x5.trans x6
  have x6' : ExL K [a] H H6 := (x3.trans x4).trans x46
  have l4a : l4 ≠ a := fun z => by have := b4.some; have h3 := (b2.ex e3).some; rw [z] at n4; exact h3 n4
  have h46 : H6 l4 = some (.lst us4) := x46.ob _ _ (by simpa using l4a) h4
  have i46 : IsAll K H6 us4 so := ImAll.tk x46.tk i4
  have haf : a ≠ f := fun z => b6.some (by rw [z]; exact hf)
  have hfH : H f = none := fresh_backL x6' b6.some hf
  have lf : l4 ≠ f := fun z => by rw [z, hf] at h46; cases h46
  have e7 : Ex H6 (upd H6 f (.lst [])) := Ex.new hf
  have f7 : (upd H6 f (.lst [])) f = some (.lst []) := upd_same
  have b7 := b6.ex e7
  have h47 := e7 _ _ h46
  have i47 := ImAll.ex e7 i46
  have x7 := x6'.then e7
  generalize upd H6 f (.lst []) = H7 at e7 f7 b7 h47 i47 x7
  generalize hk7 : k + 1 + (1 + n) * (0 + 1) + 1 + 1 = k7 at b7
  have hk7' : k7 ≤ k + 11 := by omega
  try dsimp only
  refine sq ?_
  show tCall (sp_law_pick K) [] E0 (tCons (tVar 0) (tCons (tVar 2) (tCons (tVar 1) tNil))) [some (.ref a), some (.int (m : Int)), some (.str letters), some (.int ((1 + n : Nat) : Int)), some (.ref l4), some (.int (s : Int)), some (.int (t : Int)), some (.ref f), none, none] H7 fun v H8 => tFor (iSeq K (tC v)) (gName 8) _ _ [some (.ref a), some (.int (m : Int)), some (.str letters), some (.int ((1 + n : Nat) : Int)), some (.ref l4), some (.int (s : Int)), some (.int (t : Int)), some (.ref f), none, none] H8
  refine ⟨_, rfl, _, rfl, _, rfl, a, k7, m, rfl, b7, by omega, by omega, fun v8 H8 x8 b8 ⟨ps, ps1, ps2, p8⟩ => ?_⟩
  have f8 : H8 f = some (.lst []) := x8.ob _ _ (by simpa using fun z => haf z.symm) f7
  have h48 : H8 l4 = some (.lst us4) := x8.ob _ _ (by simpa using l4a) h47
  have i48 : IsAll K H8 us4 so := ImAll.tk x8.tk i47
  refine s_for (K := K) (W := [a, f]) (xs := ps) (wk_new (ep_k (mono_nl _) p8) (fun b hb' => by
      rcases List.mem_cons.mp hb' with rfl | hb'
      · exact b7.some
      · rw [List.mem_singleton.mp hb', f7]; exact fun z => nomatch z))
    (NmI K a f l4 k7 m n s t)
    (fun H9 e9 => ⟨[], none, .refl, (b8.ex e9).mono (by omega), e9 _ _ f8, rfl, ⟨[], fun y hy => (nomatch hy), rfl⟩, rfl⟩) (fun H9 i σ' H' _ z => by obtain ⟨_, _, z, _⟩ := z; exact z) (fun H9 i x v σ' H' H'' e9 hx z e10 iv => ?_) fun H9 σ' H' e9 z => ?_
  · obtain ⟨fs, y8, z1, z2, z3, z4, z5, rfl⟩ := z
    have hxs : Sg x := ps2 x (List.mem_of_getElem? hx)
    have him : i < m := by rw [← ps1]; exact (List.getElem?_eq_some_iff.mp hx).1
    have hv := Is.text iv
    subst hv
    have l4W : l4 ∉ ([a, f] : List Addr) := by simp [l4a, lf]
    have z1' := z1.then e10
    have f10 := e10 _ _ z3
    have h410 : H'' l4 = some (.lst us4) := z1'.ob _ _ l4W (e9 _ _ h48)
    have i410 : IsAll K H'' us4 so := ImAll.tk z1'.tk (ImAll.ex e9 i48)
    have b10 := z2.ex e10
    have kb : k7 + m + i * 9 + 9 = k7 + m + (i + 1) * 9 := by rw [Nat.succ_mul]; omega
    show tIfS _ _ _ _ [some (.ref a), some (.int (m : Int)), some (.str letters), some (.int ((1 + n : Nat) : Int)), some (.ref l4), some (.int (s : Int)), some (.int (t : Int)), some (.ref f), some (.str x), none] H''
    refine ms_if (b := decide (s = 0)) (et_T (ep_eq (K := K) (x := s) (y := 0) (ep_vis rfl (.int _)) (ep_nat 0))) (fun _ H1 e1 => ?_) fun _ H1 e1 => ms_if (b := decide (s < 3)) (et_T (ep_lt (K := K) (m := s) (n := 3) (ep_vis rfl (.int _)) (ep_nat 3))) (fun _ H2 e2 => ?_) fun _ H2 e2 => ?_
    · refine ms_app (P := fun v _ => v = .str x) rfl (e1 _ _ f10) (ep_var rfl mono_eq rfl) (by omega) fun w H3 e3 r => ?_
      subst r
      exact (NmI.put haf z1' f10 z4 z5 (name_sg hxs) (.of (e1.trans e3)) ((b10.ex (e1.trans e3)).mono (by omega))).2
    · have e12 := e1.trans e2
      have so4 : EvP (tVar 4) [some (.ref a), some (.int (m : Int)), some (.str letters), some (.int ((1 + n : Nat) : Int)), some (.ref l4), some (.int (s : Int)), some (.int (t : Int)), some (.ref f), some (.str x), none] H2 (ltP K so) := ep_var rfl (mono_nl _) ⟨l4, us4, rfl, rfl, e12 _ _ h410, ImAll.ex e12 i410⟩
      have al : ∀ y ∈ so.take t ++ [x] ++ so.drop (t + 1), Sg y := fun y hy => by
        rcases List.mem_append.mp hy with hy | hy
        · rcases List.mem_append.mp hy with hy | hy
          · exact so1 y (List.mem_of_mem_take hy)
          · rw [List.mem_singleton.mp hy]; exact hxs
        · exact so1 y (List.mem_of_mem_drop hy)
      have ln : 1 ≤ (so.take t ++ [x] ++ so.drop (t + 1)).length ∧ (so.take t ++ [x] ++ so.drop (t + 1)).length ≤ 8 := by
        rw [List.length_append, List.length_append, List.length_take, List.length_drop, List.length_singleton]; omega
      refine ms_app (P := isP K (Txt.join "" (so.take t ++ [x] ++ so.drop (t + 1)))) rfl (e12 _ _ f10) (ep_join (ep_catL (ep_catL (ep_uptoL so4 (ep_vis rfl (.int _))) (ep_lst1 (ep_vis rfl (.str x))) (by rw [List.length_take, List.length_singleton]; omega)) (ep_fromL so4 (ep_add (ep_vis rfl (.int _)) (ep_nat 1))) (by rw [List.length_append, List.length_take, List.length_drop, List.length_singleton]; omega)) (by rw [sum_sg al]; omega)) (by omega) fun w H3 e3 r => ?_
      rw [Is.text r]
      exact (NmI.put haf z1' f10 z4 z5 (name_join al ln.1 ln.2) (.of (e12.trans e3)) ((b10.ex (e12.trans e3)).mono (by omega))).2
    · have e12 := e1.trans e2
      have f12 := e12 _ _ f10
      refine ⟨_, rfl, .inl ⟨rfl, fs, sq_of f12⟩, ?_⟩
      refine ⟨_, rfl, ⟨_, rfl⟩, ?_⟩
      refine (ed_lcT (K := K) (a := a) (σ := [some (.ref a), some (.int (m : Int)), some (.str letters), some (.int ((1 + n : Nat) : Int)), some (.ref l4), some (.int (s : Int)), some (.int (t : Int)), some (.ref f), some (.str x), none]) (i := 0) (j := 9) (vs := [9]) (β := Str) (c := 1) (size := 8) (fun y => y ∈ MoR.signs letters) rfl (fun H1 x => ep_nat (K := K) 8) (by decide) (by decide) (fun _ => rfl) (fun v H1 x => ed_weak (ed_of (i := 0) (j := 2) (g := .str letters) (xs := MoR.signs letters) rfl rfl (.inr ⟨rfl, rfl⟩) (by rw [s_len]; decide) (by rw [s_len]; decide)) fun v H5 ⟨z, hz, e⟩ => ⟨z, hz, by rw [e]; exact .str z⟩)) H2 .refl _ (b10.ex e12) (by omega) _ fun v9 H4 x4 b4 ⟨js, j1, j2, j3⟩ => ?_
      have pt := NmI.put (i := i) (k7 := k7) (n := n) (s := s) (t := t) (m := m) (x8 := some (.str x)) (l4 := l4) haf z1' f10 z4 z5 (name_app hxs j1 (by omega)) ((ExL.of e12).trans x4) (b4.mono (by omega))
      obtain ⟨f4, pt⟩ := pt
      obtain ⟨js1, js2⟩ := join_sg j1
      have xl := (sg_len hxs).1
      obtain ⟨lj, uj, rfl, _, hj4, ij4⟩ := j3
      refine ⟨"", lj, js, rfl, rfl, .inl (by rw [← is_map ij4]; exact sq_of hj4), ?_, x, Txt.join "" js, rfl, rfl, ?_, f, fs, _, rfl, rfl, f4, sz_lt (by omega), pt⟩
      · have : (js.map (·.length)).sum + js.length * (("" : Str).length) = (js.map (·.length)).sum := by
          show _ + js.length * 0 = _
          omega
        rw [this, sum_sg j1]; omega
      · rw [js1, xl]; exact sz_of (by omega)
  · obtain ⟨fs, y8, z1, z2, z3, z4, ⟨ys, z5, z6⟩, rfl⟩ := z
    rw [ps1] at z4 z2
    try unfold tNext
    dsimp only
    refine ms_ret (P := fun v _ => v = .ref f) (ep_var rfl mono_eq rfl) fun v H4 e4 r => ?_
    subst r
    have xx := (x7.trans x8).then e9
    have hx : ExL K [a] H H' := ⟨fun b o hb ho => z1.ob b o (by
      have h2 : b ≠ f := fun z => by rw [z, hfH] at ho; cases ho
      have h3 : b ≠ a := fun z => hb (by rw [z]; exact List.mem_cons_self)
      simp [h2, h3]) (xx.ob b o hb ho), xx.tk.trans z1.tk⟩
    refine q _ H4 (hx.then e4) ((z2.ex e4).mono (by omega)) ⟨ys, ?_, z5, f, ys.map V.str, rfl, hfH, by rw [← z6]; exact e4 _ _ z3, ?_⟩
    · rw [z6, List.length_map] at z4; exact z4
    · have key : ∀ (H : Hp) (l : List Str), IsAll K H (l.map V.str) l := fun H l => by
        induction l with
        | nil => exact .nil
        | cons x l ih => exact .cons (.str x) ih
      exact key _ _
end
end MoD
set_option maxHeartbeats 4000000
/-! the box, the cells -/
namespace MoD
open PySem PySem.Spec PyProof.Rows L2 MoR PySem.W Evl
variable {P : Program} {w : World} {K : PySem.W.Frag} {nv av : Addr}
section
variable {σ : L2.St} {H H' : Hp}
theorem ep_absI {te : TE} {i : Int} (h : EvP te σ H (isP K i)) : EvP (tCB rAbs (tCons te tNil)) σ H (isP K (if i < 0 then -i else i)) := fun H1 e Q q => h H1 e _ fun v H2 e2 p => ⟨i, by rw [Is.int p], q _ _ e2 (.int _)⟩
/-! ### the box -/
abbrev sp_law_box (K : PySem.W.Frag) : Sp := fun vs H Q _ => ∃ (g : V) (k : Nat) (cs : List Int), vs = [g, .int (k : Int)] ∧ ltP K cs g H ∧ k < cs.length ∧ cs.length ≤ 1000 ∧ ∀ p H', Ex H H' → H p = none → Box H' p 0 → Q (.ref p) H'
theorem len_box (vs : List V) (H : Hp) (Q : VK) (E : XK) (h : sp_law_box K vs H Q E) : vs.length = 2 := by
  obtain ⟨g, k, cs, rfl, _⟩ := h
  rfl
theorem pure_box (vs : List V) (H : Hp) (Q : VK) (E : XK) (h : sp_law_box K vs H Q E) : tr_law_box K nv av { nx := fun _ H' => Q .non H', rt := Q } (L2.start N_law_box vs) H := by
  obtain ⟨g, k, cs, rfl, hg, hk, hc, q⟩ := h
  unfold tr_law_box
  have gv : ∀ {H1 : Hp} {x : Option V}, Ex H H1 → EvP (tVar 0) [some g, some (.int (k : Int)), x] H1 (ltP K cs) := fun e => ep_var rfl (mono_nl _) (mono_nl _ _ _ _ e hg)
  refine sq (ms_asg (P := isP K cs[k]) (ep_if (b := decide (k < cs.length)) (et_T (ep_lt (K := K) (m := k) (ep_vis rfl (.int _)) (ep_len (gv (Ex.refl _)).sqn))) (fun _ => ep_ix (gv (Ex.refl _)).sqn (ep_vis (x := k) rfl (.int _)) (List.getElem?_eq_getElem hk)) fun hb => absurd hk (of_decide_eq_false hb)) fun v H1 e1 i1 => ?_)
  generalize cs[k] = c at i1
  have cv : EvP (tVar 2) [some g, some (.int (k : Int)), some v] H1 (isP K c) := ep_vis rfl i1
  generalize hac : (if c < 0 then -c else c) = ac
  have av' : EvP (tCB rAbs (tCons (tVar 2) tNil)) [some g, some (.int (k : Int)), some v] H1 (isP K ac) := by rw [← hac]; exact ep_absI cv
  have pw : EvP (tOp rPow0 (tC (.int 10)) (tC (.int 18))) [some g, some (.int (k : Int)), some v] H1 (isP K ((10 : Int) ^ 18)) := ep_rI (i := 10) (j := 18) (ep_int 10) (ep_int 18) ⟨by decide, by decide, by decide⟩ rfl
  have gb : EvP (tOp rGe' (tCB rAbs (tCons (tVar 2) tNil)) (tOp rPow0 (tC (.int 10)) (tC (.int 18)))) [some g, some (.int (k : Int)), some v] H1 (isP K (decide ((10 : Int) ^ 18 ≤ ac))) := ep_cmI av' pw rfl
  generalize decide ((10 : Int) ^ 18 ≤ ac) = bb at gb
  have ib : EvP (tCB rInt1 (tCons (tOp rGe' (tCB rAbs (tCons (tVar 2) tNil)) (tOp rPow0 (tC (.int 10)) (tC (.int 18)))) tNil)) [some g, some (.int (k : Int)), some v] H1 (isP K (((if bb = true then 1 else 0 : Nat) : Int))) := ep_int1 gb
  have lb : ((if bb = true then 1 else 0 : Nat) : Int) ≤ 1 ∧ 0 ≤ ((if bb = true then 1 else 0 : Nat) : Int) := by cases bb <;> decide
  generalize ((if bb = true then 1 else 0 : Nat) : Int) = ci at ib lb
  have hm : EvP (tOp rMul0 (tCB rAbs (tCons (tVar 2) tNil)) (tCB rInt1 (tCons (tOp rGe' (tCB rAbs (tCons (tVar 2) tNil)) (tOp rPow0 (tC (.int 10)) (tC (.int 18)))) tNil))) [some g, some (.int (k : Int)), some v] H1 (isP K (ac * ci)) := ep_rI av' ib (.inr ⟨by omega, by omega⟩) rfl
  have h2 : EvP (tOp rAdd' (tOp rAdd' (tOp rMod0 (tCB rInt1 (tCons (tVar 2) tNil)) (tC (.int 2305843009213693951))) (tOp rMul0 (tC (.int 39373)) (tVar 1))) (tC (.int 59565))) [some g, some (.int (k : Int)), some v] H1 (isP K (c % 2305843009213693951 + 39373 * (k : Int) + 59565)) :=
    ep_rI0 (i := c % 2305843009213693951 + 39373 * (k : Int)) (j := 59565) (ep_rI0 (i := c % 2305843009213693951) (j := 39373 * (k : Int)) (ep_rI (i := c) (j := 2305843009213693951) (ep_int1I cv) (ep_int _) (by decide) rfl) (ep_rI (i := 39373) (j := (k : Int)) (ep_int _) (ep_vis rfl (.int _)) (.inl ⟨by decide, by decide⟩) rfl) rfl) (ep_int _) rfl
  refine ms_ret (ep_lst3 hm h2 (ep_int 0)) fun v2 H2 e2 r => ?_
  obtain ⟨p, us, rfl, hp0, hp, hu⟩ := r
  cases hu with
  | cons a1 t => cases t with
    | cons a2 t => cases t with
      | cons a3 t =>
        cases t
        replace a1 := Is.int a1
        replace a2 := Is.int a2
        replace a3 := Is.int a3
        subst a1 a2 a3
        exact q p H2 (e1.trans e2) (fresh_back e1 hp0) ⟨_, _, _, hp, Int.le_refl _, Int.le_refl _⟩
/-! ### the cells -/
/-- a list, wherever it stands -/
def slP (K : PySem.W.Frag) {α : Type} [Ec α] (xs : List α) : VP := fun v H => ∃ a vs, v = .ref a ∧ SqL K H a vs ∧ IsAll K H vs xs
theorem mono_sl {α : Type} [Ec α] (xs : List α) : MonoP (slP K xs) := fun _ _ _ e ⟨a, vs, h1, h2, h3⟩ => ⟨a, vs, h1, ex_l e h2, ImAll.ex e h3⟩
theorem ep_cut2 {α : Type} [Ec α] {ta tb tc : TE} {xs : List α} {i j : Nat} (ha : EvP ta σ H (slP K xs)) (hb : EvP tb σ H (isP K i)) (hc : EvP tc σ H (isP K j)) : EvP (tSl (rSlL K) ta (tPart tb) (tPart tc)) σ H (nlP K H ((xs.drop (min i xs.length)).take (min j xs.length - min i xs.length))) := fun H1 e Q q =>
  ha H1 e _ fun v H2 e2 p => hb H2 (e.trans e2) _ fun u H3 e3 p' => ⟨_, Is.nat p', hc H3 ((e.trans e2).trans e3) _ fun u2 H4 e4 p2 => ⟨_, Is.nat p2, by
    obtain ⟨b, vs, h1, h2, h3⟩ := mono_sl _ _ _ _ (e3.trans e4) p
    have hl := IsAll.len h3
    refine ⟨b, vs, h1, h2, fun l hl0 => q _ _ (((e2.trans e3).trans e4).trans (Ex.new hl0)) ⟨l, _, rfl, fresh_back (((e.trans e2).trans e3).trans e4) hl0, upd_same, ImAll.ex (Ex.new hl0) ?_⟩⟩
    unfold cutV
    rw [sIx_nat, sIx_nat, hl]
    show ImAll K H4 _ (List.map _ _)
    rw [List.map_take, List.map_drop]
    exact ImAll.take _ (ImAll.drop _ h3)⟩⟩
theorem ep_cut1 {α : Type} [Ec α] {ta tb : TE} {xs : List α} {i : Nat} (ha : EvP ta σ H (slP K xs)) (hb : EvP tb σ H (isP K i)) : EvP (tSl (rSlL K) ta tNoPart (tPart tb)) σ H (nlP K H (xs.take (min i xs.length))) := fun H1 e Q q =>
  ha H1 e _ fun v H2 e2 p => hb H2 (e.trans e2) _ fun u H3 e3 p' => ⟨_, Is.nat p', by
    obtain ⟨b, vs, h1, h2, h3⟩ := mono_sl _ _ _ _ e3 p
    have hl := IsAll.len h3
    refine ⟨b, vs, h1, h2, fun l hl0 => q _ _ ((e2.trans e3).trans (Ex.new hl0)) ⟨l, _, rfl, fresh_back ((e.trans e2).trans e3) hl0, upd_same, ImAll.ex (Ex.new hl0) ?_⟩⟩
    unfold cutV
    rw [sIx_nat, hl]
    show ImAll K H3 ((vs.drop 0).take (min i xs.length - 0)) (List.map _ _)
    rw [List.drop_zero, Nat.sub_zero, List.map_take]
    exact ImAll.take _ h3⟩
theorem wk_enumL {W : List Addr} {α : Type} [Ec α] {te : TE} {xs : List α} {H0 : Hp} (h : EvP te σ H (nlP K H0 xs)) (hw : ∀ a ∈ W, H0 a ≠ none) : Wk K (iEnum K (tCons te tNil)) σ H W ((List.range xs.length).zip xs) := fun H2 e R q =>
  h H2 e _ fun v H1 e1 p => by
    obtain ⟨a, vs, rfl, h0, hs, hi⟩ := p
    have hl := IsAll.len hi
    refine ⟨a, vs, rfl, sq_of hs, q _ H1 e1 fun H' x => ?_⟩
    have hs' : SqL K H' a vs := sq_of (x.ob a _ (fun z => hw a z h0) hs)
    have hi' := ImAll.tk x.tk hi
    refine ⟨fun i y hy => ?_, ⟨vs, hs', by rw [List.length_zip, List.length_range]; omega⟩⟩
    obtain ⟨g1, g2⟩ := MoR.zip_get hy
    have hy1 : y.1 = i := by
      have := List.getElem?_eq_some_iff.mp g1
      simp at this
      exact this.2.symm
    obtain ⟨u, hu, iu⟩ := IsAll.item hi' g2
    refine ⟨⟨vs, u, hs', hu⟩, fun w H'' z => ?_⟩
    obtain ⟨T, x', rfl, hT, rfl, z1⟩ := z
    have q1 := z1 vs hs'
    rw [hu] at q1; cases q1
    refine ⟨Ex.new hT, Is.mkPair (st_of upd_same) ?_ (Im.ex (Ex.new hT) iu)⟩
    rw [hy1]
    exact .int _
abbrev sp_law_cells (K : PySem.W.Frag) : Sp := fun vs H Q _ => ∃ (g : V) (ns : List Int), vs = [g, .int 2] ∧ slP K ns g H ∧ ns.length ≤ 1000 ∧ ∀ v H', Ex H H' → (∃ cs : List Int, 1 ≤ cs.length ∧ cs.length ≤ 2 ∧ ltP K cs v H') → Q v H'
theorem len_cells (vs : List V) (H : Hp) (Q : VK) (E : XK) (h : sp_law_cells K vs H Q E) : vs.length = 2 := by
  obtain ⟨g, ns, rfl, _⟩ := h
  rfl
theorem pure_cells (vs : List V) (H : Hp) (Q : VK) (E : XK) (h : sp_law_cells K vs H Q E) : tr_law_cells K nv av { nx := fun _ H' => Q .non H', rt := Q } (L2.start N_law_cells vs) H := by
  obtain ⟨g, ns, rfl, hg, hn, q⟩ := h
  unfold tr_law_cells
  have gv : ∀ {H1 : Hp} {x1 x2 x3 x4 : Option V}, Ex H H1 → EvP (tVar 0) [some g, some (.int 2), x1, x2, x3, x4] H1 (slP K ns) := fun e => ep_var rfl (mono_sl _) (mono_sl _ _ _ _ e hg)
  have tv : ∀ {H1 : Hp} {x1 x2 x3 x4 : Option V}, EvP (tVar 1) [some g, some (.int 2), x1, x2, x3, x4] H1 (isP K 2) := ep_vis rfl (.int _)
  -- the first numbers, or a zero
  have first : EvP (tOrT K (tCB (rListOf K) (tCons (tSl (rSlL K) (tVar 0) tNoPart (tPart (tVar 1))) tNil)) (tLst (tCons (tC (.int 0)) tNil))) [some g, some (.int 2), none, none, none, none] H (fun v H' => ∃ cs : List Int, 1 ≤ cs.length ∧ cs.length ≤ 2 ∧ (2 ≤ ns.length → cs.length = 2) ∧ nlP K H cs v H') := fun H1 e Q q => by
    refine (ep_list (ep_cut1 (gv (Ex.refl _)) tv).sqn) H1 e _ fun v H2 e2 ⟨a, us, h1, h2, h3, h4⟩ => ?_
    subst h1
    have hl := IsAll.len h4
    rw [List.length_take] at hl
    refine ⟨!us.isEmpty, .inl ⟨us, sq_of h3, rfl⟩, ?_⟩
    cases hu : us.isEmpty with
    | false =>
      have hne : us.length ≠ 0 := fun z => by rw [List.length_eq_zero_iff] at z; rw [z] at hu; cases hu
      exact q _ H2 e2 ⟨_, by rw [List.length_take]; omega, by rw [List.length_take]; omega, fun z => by rw [List.length_take]; omega, a, us, rfl, h2, h3, h4⟩
    | true =>
      have hz : us.length = 0 := by rw [List.isEmpty_iff] at hu; rw [hu]; rfl
      refine (ep_lst1 (K := K) (ep_int 0)) H2 (e.trans e2) Q fun v3 H3 e3 r => q v3 H3 (e2.trans e3) ⟨[0], Nat.le_refl _, by decide, fun z => by omega, r⟩
  refine sq (ms_asg first fun v H1 e1 ⟨cs, c1, c2, c3, p1⟩ => ?_)
  obtain ⟨l, us, rfl, l0, l1, l2⟩ := p1
  refine sq (s_for (K := K) (W := [l]) (xs := (List.range _).zip _) (wk_enumL (ep_cut2 (j := 63) (gv e1) tv (ep_nat 63)) (fun a ha => by rw [List.mem_singleton.mp ha, l1]; exact fun z => nomatch z))
    (fun H2 i σ' H' => ∃ (us : List V) (cs : List Int) (x3 x4 x5 : Option V), ExL K [l] H2 H' ∧ H' l = some (.lst us) ∧ IsAll K H' us cs ∧ 1 ≤ cs.length ∧ cs.length ≤ 2 ∧ (2 ≤ ns.length → cs.length = 2) ∧ σ' = [some g, some (.int 2), some (.ref l), x3, x4, x5])
    (fun H2 e2 => ⟨us, cs, none, none, none, .refl, e2 _ _ l1, ImAll.ex e2 l2, c1, c2, c3, rfl⟩) (fun H2 i σ' H' _ z => by obtain ⟨_, _, _, _, _, z, _⟩ := z; exact z) (fun H2 i x v σ' H' H'' e2 hx z e3 iv => ?_) fun H2 σ' H' e2 z => ?_)
  · obtain ⟨us, cs, x3, x4, x5, z1, z2, z3, z4, z5, z6, rfl⟩ := z
    have hns : 2 ≤ ns.length := by
      have := (List.getElem?_eq_some_iff.mp hx).1
      rw [List.length_zip, List.length_range, List.length_take, List.length_drop] at this
      omega
    have hcs := z6 hns
    obtain ⟨kx, cx⟩ := x
    refine g2_run iv fun u3 u4 j3 j4 => ?_
    replace j3 : Is K H'' u3 kx := j3
    replace j4 : Is K H'' u4 cx := j4
    have hu3 := Is.nat j3
    have hu4 := Is.int j4
    subst hu3 hu4
    show tSeq _ _ _ [some g, some (.int 2), some (.ref l), some (.int (kx : Int)), some (.int cx), x5] H''
    obtain ⟨n, hn2, hm⟩ := mod_nat (x := (kx : Int)) (m := 2) (by decide)
    refine sq (ms_asg (P := isP K (n : Int)) (ep_rI (i := (kx : Int)) (j := 2) (ep_int1I (ep_vis rfl (.int _))) (ep_vis rfl (.int _)) (by decide) (by rw [← hm]; rfl)) fun v5 H3 e4 i5 => ?_)
    have h5 := Is.int i5
    subst h5
    have y2 := (e3.trans e4) _ _ z2
    have y3 := ImAll.ex (e3.trans e4) z3
    have hn3 : n < cs.length := by omega
    dsimp only
    have hmul : CMul cx ((kx : Int) + 2) := by
      have hk := (MoR.zip_get hx).1
      have := List.getElem?_eq_some_iff.mp hk
      simp at this
      have h9 := this.1
      have h10 := this.2
      exact .inr ⟨by omega, by omega⟩
    refine (ep_rI0 (K := K) (i := cs[n]) (j := cx * ((kx : Int) + 2)) (ep_ix (ep_var (P := sqP K cs) rfl (mono_sq _) ⟨l, us, rfl, .inl y2, y3⟩) (ep_vis (x := n) rfl (.int _)) (List.getElem?_eq_getElem hn3)) (ep_rI (i := cx) (j := (kx : Int) + 2) (ep_vis rfl (.int _)) (ep_rI0 (i := (kx : Int)) (j := 2) (ep_vis rfl (.int _)) (ep_int 2) rfl) hmul rfl) rfl) H3 (Ex.refl _) _ fun v6 H4 e5 i6 => ?_
    · have y4 := e5 _ _ y2
      refine ⟨_, rfl, _, rfl, l, us, (n : Int), n, rfl, rfl, y4, ixN_nat (by rw [IsAll.len y3]; exact hn3), ?_⟩
      refine ⟨us.set n v6, cs.set n (cs[n] + cx * ((kx : Int) + 2)), _, _, _, ((z1.then (e3.trans e4)).then e5).lst (by simp) y4, upd_same, all_set n (ImAll.tk (.lst y4) (ImAll.ex e5 y3)) (Im.tk (.lst y4) i6), by rw [List.length_set]; omega, by rw [List.length_set]; omega, fun _ => by rw [List.length_set]; omega, rfl⟩
  · obtain ⟨us, cs, x3, x4, x5, z1, z2, z3, z4, z5, z6, rfl⟩ := z
    try unfold tNext
    dsimp only
    refine ms_ret (P := ltP K cs) (ep_var rfl (mono_nl _) ⟨l, us, rfl, rfl, z2, z3⟩) fun v H3 e3 r => q v H3 ?_ ⟨cs, z4, z5, r⟩
    exact fun b o hb => e3 _ _ (z1.ob b o (fun z => by rw [List.mem_singleton.mp z, l0] at hb; cases hb) ((e1.trans e2) _ _ hb))
end
end MoD
set_option maxHeartbeats 4000000
/-! right, law: they hold -/
namespace MoD
open PySem PySem.Spec PyProof.Rows L2 MoR PySem.W Evl
variable {P : Program} {w : World} {K : PySem.W.Frag} {nv av : Addr}
theorem db_ls {xs : List Str} {m n : Nat} {B : Bs} (h : DB xs m n B) (hx : xs.length ≤ 3) : ∃ Ls : List Str, Ls.length ≤ 3 ∧ ∀ u ∈ B, ∀ c ∈ u, c ∈ Ls := ⟨xs, hx, fun u hu c hc => (h.2.2 u hu).1 c hc⟩
theorem db_named {xs : List Str} {m n : Nat} {B : Bs} (h : DB xs m n B) (hx : ∀ x ∈ xs, NameOk x) : Named B := fun u hu x hc => hx x ((h.2.2 u hu).1 x hc)
/-- three drawn bases -/
theorem trio_drawn {xs : List Str} {W A B : Bs} (hx : xs.length ≤ 3) (hW : DB xs 3 2 W) (hA : DB xs 2 2 A) (hB : DB xs 2 2 B) : Trio W A B :=
  two_of (Mo.nice_drawn ordW hW.1 (db_ls hW hx) (.inl ⟨hW.2.1, fun u hu => (hW.2.2 u hu).2⟩)) (fun u hu => (hW.2.2 u hu).2) hA.2.1 hB.2.1 (fun u hu => by have := (hA.2.2 u hu).2; omega) (fun u hu => by have := (hB.2.2 u hu).2; omega)
/-- one of them joined with another one -/
theorem then_db {xs : List Str} {X B : Bs} (hX : DB xs 1 1 X) (hB : DB xs 2 2 B) : DB xs 2 3 (Mo.thenB leW X B) := by
  refine ⟨Mo.cb_thenB ordW hX.1 hB.1, ?_, fun u hu => ?_⟩
  · have h1 := then_len X B
    have h2 := Nat.mul_le_mul hX.2.1 hB.2.1
    omega
  · obtain ⟨a, ha, b, hb, rfl⟩ := Mo.mem_thenB.mp hu
    refine ⟨fun c hc => ?_, ?_⟩
    · rcases List.mem_append.mp hc with hc | hc
      · exact (hX.2.2 a ha).1 c hc
      · exact (hB.2.2 b hb).1 c hc
    · rw [List.length_append]
      have := (hX.2.2 a ha).2
      have := (hB.2.2 b hb).2
      omega
theorem trio_then {xs : List Str} {X A B : Bs} (hx : xs.length ≤ 3) (hX : DB xs 1 1 X) (hA : DB xs 2 2 A) (hB : DB xs 2 2 B) : Trio (Mo.thenB leW X B) A B := by
  have hT := then_db hX hB
  have hN : Mo.Nice leW (Mo.thenB leW X B) := Mo.nice_drawn ordW hT.1 (db_ls hT hx) (.inr ⟨hT.2.1, fun u hu => (hT.2.2 u hu).2⟩)
  have n4 : A.length * B.length ≤ 4 := Nat.mul_le_mul hA.2.1 hB.2.1
  refine ⟨hN, ?_, hA.2.1, hB.2.1, fun u hu => by have := (hA.2.2 u hu).2; omega, fun u hu => by have := (hB.2.2 u hu).2; omega⟩
  match X, hX, hT, hN with
  | [], hX, hT, hN => exact Mo.deep_amid ordW (db_ls hT hx) (fun u hu => by obtain ⟨a, ha, _⟩ := Mo.mem_thenB.mp hu; cases ha) n4
  | [] :: r, hX, hT, hN =>
    refine Mo.deep_amid ordW (db_ls hT hx) (fun u hu => ?_) n4
    obtain ⟨a, ha, b, hb, rfl⟩ := Mo.mem_thenB.mp hu
    have hr : r = [] := by have := hX.2.1; simp at this; exact this
    subst hr
    rw [List.mem_singleton.mp ha]
    exact (hB.2.2 b hb).2
  | (x :: t) :: r, hX, hT, hN =>
    have hr : r = [] := by have := hX.2.1; simp at this; exact this
    have ht : t = [] := by have := (hX.2.2 _ List.mem_cons_self).2; simp at this; exact this
    subst hr ht
    refine Mo.deep_amid2 (x := x) ordW (db_ls hT hx) (fun u => ?_) (fun t ht => (hB.2.2 t ht).2) n4
    constructor
    · intro hu
      obtain ⟨a, ha, b, hb, rfl⟩ := Mo.mem_thenB.mp hu
      rw [List.mem_singleton.mp ha]
      exact ⟨b, hb, rfl⟩
    · rintro ⟨b, hb, rfl⟩
      exact Mo.mem_thenB.mpr ⟨[x], List.mem_cons_self, b, hb, rfl⟩
section
variable {a : Addr} {σ : L2.St} {H H' : Hp}
theorem md_ifNot {te : TE} {tu tw : TS} {c k : Nat} {D : Ends} (h : EvD K a c te σ H (isP K true)) (b : Box H a k) (hk : k + c ≤ lim) (q : ∀ H1, ExL K [a] H H1 → Box H1 a (k + c) → tw D σ H1) : tIfS (tNot (tB te)) tu tw D σ H := h H .refl k b hk _ fun v H1 x b1 p => ⟨true, by cases p; rfl, q H1 x b1⟩
theorem ep_sides {W A B : Bs} {v3 v4 v5 : V} {te : TE} (h3 : σ[3]? = some (some v3)) (h4 : σ[4]? = some (some v4)) (h5 : σ[5]? = some (some v5)) (i3 : Is K H v3 W) (i4 : Is K H v4 A) (i5 : Is K H v5 B) (hT : Trio W A B) (h : EvP te σ H (fun v H' => ∃ us : Bs, us.length ≤ 1000 ∧ (∀ u ∈ us, u.length ≤ 100) ∧ ltP K us v H')) :
    EvP (tCall (sp_law_sides_right K) [] E0 (tCons (tVar 3) (tCons (tVar 4) (tCons (tVar 5) (tCons te tNil))))) σ H (isP K true) := fun H1 e Q q =>
  ⟨_, h3, _, h4, _, h5, h H1 e _ fun v H2 e2 ⟨us, u1, u2, u3⟩ => ⟨(W, A, B, us), .cons (i3.ex (e.trans e2)) (.cons (i4.ex (e.trans e2)) (.cons (i5.ex (e.trans e2)) (.cons (sq_of_nl u3) .nil))), ⟨hT, u1, u2⟩, fun r H3 e3 p => q r H3 (e2.trans e3) p⟩⟩
theorem ed_leads {W A B : Bs} {v3 v4 v5 : V} {te : TE} {c : Nat} {xs : List Str} (h3 : σ[3]? = some (some v3)) (h4 : σ[4]? = some (some v4)) (h5 : σ[5]? = some (some v5)) (i3 : Is K H v3 W) (i4 : Is K H v4 A) (i5 : Is K H v5 B) (hT : Trio W A B) (h : EvD K a c te σ H (fun v H' => ∃ u : Wd, ((∀ x ∈ u, x ∈ xs) ∧ u.length ≤ 5) ∧ Is K H' v u)) :
    EvD K a c (tCall (sp_law_leads_right K) [] E0 (tCons (tVar 3) (tCons (tVar 4) (tCons (tVar 5) (tCons te tNil))))) σ H (isP K true) := fun H1 x k b hk Q q =>
  ⟨_, h3, _, h4, _, h5, h H1 x k b hk _ fun v H2 x2 b2 ⟨u, ⟨_, u2⟩, iu⟩ => ⟨(W, A, B, u), .cons (Im.tk (x.tk.trans x2.tk) i3) (.cons (Im.tk (x.tk.trans x2.tk) i4) (.cons (Im.tk (x.tk.trans x2.tk) i5) (.cons iu .nil))), ⟨hT, by show u.length ≤ 100; omega⟩, fun r H3 e3 p => q r H3 (x2.then e3) (b2.ex e3) p⟩⟩
/-! ### right -/
abbrev sp_law_right (K : PySem.W.Frag) : Sp := fun vs H Q _ => ∃ a : Addr, vs = [.ref a] ∧ Box H a 0 ∧ ∀ H', ExL K [a] H H' → Q (.bl true) H'
theorem len_right (vs : List V) (H : Hp) (Q : VK) (E : XK) (h : sp_law_right K vs H Q E) : vs.length = 1 := by
  obtain ⟨a, rfl, _⟩ := h
  rfl
theorem pure_right (vs : List V) (H : Hp) (Q : VK) (E : XK) (h : sp_law_right K vs H Q E) :
    tr_law_right K nv av (spthen K) (sp_law_take K) (sp_law_names K) (sp_law_every K) (sp_law_event_row K) (sp_law_drawn_base K) (sp_law_leads_right K) (sp_law_sides_right K) (sp_law_pairs_right K) (sp_law_cuts_right K) (sp_law_by_hand_right K) { nx := fun _ H' => Q .non H', rt := Q } (L2.start N_law_right vs) H := by
  obtain ⟨a, rfl, hb, q⟩ := h
  have lm : lim = 1000000 := rfl
  unfold tr_law_right
  refine sq (ms_if (b := false) (et_not (a := true) (et_V call_by_hand)) (fun z => nomatch z) fun _ H1 e1 => ?_)
  try unfold tNext
  dsimp only
  refine sq ?_
  refine ⟨_, rfl, (ed_take (K := K) (a := a) (σ := [some (.ref a), none, none, none, none, none]) (i := 0) (size := 3) rfl (fun H2 _ => ep_nat (K := K) 3) (by decide) (by decide)) H1 .refl 0 (hb.ex e1) (by omega) _ fun v2 H2 x2 b2 ⟨n, hn, r2⟩ => ⟨1, n, rfl, r2, a, 0 + 1, 1 + n, by rw [Int.natCast_add]; rfl, b2, by omega, by omega, fun v1 H3 x3 b3 ⟨xs, m1, m2, p1⟩ => ?_⟩⟩
  obtain ⟨l, us, rfl, l0, l1, l2⟩ := p1
  have la : l ≠ a := fun z => b2.some (by rw [← z]; exact l0)
  have g3 : ltA K a xs (.ref l) H3 := ⟨l, us, rfl, la, l1, l2⟩
  have xx3 : ExL K [a] H H3 := ((ExL.of e1).trans x2).trans x3
  have hx0 : 0 < xs.length := by omega
  have hx3 : xs.length ≤ 3 := by omega
  refine sq (s_for (K := K) (W := [a]) (xs := List.range 5) (wk_rng1 (ep_nat (K := K) 5) (by decide)) (fun H4 i σ' H' => ExL K [a] H4 H' ∧ Box H' a (101 + i * 70) ∧ ∃ y2 y3 y4 y5 : Option V, σ' = [some (.ref a), some (.ref l), y2, y3, y4, y5])
    (fun H4 e4 => ⟨.refl, (b3.ex e4).mono (by omega), _, _, _, _, rfl⟩) (fun H4 i σ' H' _ z => z.1) (fun H4 i x v σ' H' H'' e4 hx z e5 iv => ?_) fun H4 σ' H' e4 z => ?_)
  · obtain ⟨z1, z2, y2, y3, y4, y5, rfl⟩ := z
    have hi5 : i < 5 := by have := (List.getElem?_eq_some_iff.mp hx).1; rwa [List.length_range] at this
    have x34 : ExL K [a] H3 H'' := ((ExL.of e4).trans z1).then e5
    have g5 := ltA_x g3 x34
    have b5 := z2.ex e5
    refine sq (md_asg (a := a) (ed_drawn_base (K := K) (many := 3) (most := 2) (g := .ref l) (xs := xs) rfl rfl g5 hx0 (by omega) (by decide) (by decide)) b5 (by show 101 + i * 70 + 20 ≤ lim; omega) fun v3 H6 x6 b6 ⟨W0, dW, i3⟩ => ?_)
    replace b6 : Box H6 a (101 + i * 70 + 20) := b6
    have g6 := ltA_x g5 x6
    refine sq ?_
    refine (ed_drawn_base (K := K) (a := a) (i := 0) (j := 1) (σ := [some (.ref a), some (.ref l), some v, some v3, y4, y5]) (many := 2) (most := 2) (g := .ref l) (xs := xs) rfl rfl g6 hx0 (by omega) (by decide) (by decide)) H6 .refl _ b6 (by show 101 + i * 70 + 20 + 15 ≤ lim; omega) _ fun v4 H7 x7 b7 ⟨A, dA, i4⟩ => ?_
    replace b7 : Box H7 a (101 + i * 70 + 20 + 15) := b7
    have g7 := ltA_x g6 x7
    refine (ed_drawn_base (K := K) (a := a) (i := 0) (j := 1) (σ := [some (.ref a), some (.ref l), some v, some v3, y4, y5]) (many := 2) (most := 2) (g := .ref l) (xs := xs) rfl rfl g7 hx0 (by omega) (by decide) (by decide)) H7 .refl _ b7 (by show 101 + i * 70 + 20 + 15 + 15 ≤ lim; omega) _ fun v5 H8 x8 b8 ⟨B, dB, i5⟩ => ⟨v4, v5, rfl, ?_⟩
    replace b8 : Box H8 a (101 + i * 70 + 20 + 15 + 15) := b8
    have g8 := ltA_x g7 x8
    have j3 := Im.tk (x7.tk.trans x8.tk) i3
    have j4 := Im.tk x8.tk i4
    have x48 : ExL K [a] H4 H8 := (((z1.then e5).trans x6).trans x7).trans x8
    -- the rest of a turn, for the base it asks about
    have rest : ∀ (D : Ends) (W : Bs) (v3 : V) (H9 : Hp), ExL K [a] H8 H9 → Box H9 a (101 + i * 70 + 60) → Is K H9 v3 W → Trio W A B → Named W → (∀ H', ExL K [a] H4 H' → Box H' a (101 + (i + 1) * 70) → D.nx [some (.ref a), some (.ref l), some v, some v3, some v4, some v5] H') →
        tSeq (tIfS (tNot (tB (tCall (sp_law_sides_right K) [] E0 (tCons (tVar 3) (tCons (tVar 4) (tCons (tVar 5) (tCons (tCall (sp_law_every K) [] E0 (tCons (tVar 1) (tCons (tC (.int 2)) (tNil)))) (tNil)))))))) (tRet (tC (.bl false))) (tNext)) (tSeq (tIfS (tNot (tB (tCall (sp_law_leads_right K) [] E0 (tCons (tVar 3) (tCons (tVar 4) (tCons (tVar 5) (tCons (tCall (sp_law_event_row K) [] E0 (tCons (tVar 0) (tCons (tVar 1) (tCons (tC (.int 5)) (tNil))))) (tNil)))))))) (tRet (tC (.bl false))) (tNext)) (tIfS (tOr (tNot (tB (tCall (sp_law_pairs_right K) [] E0 (tCons (tVar 3) (tCons (tVar 4) (tCons (tVar 5) (tNil))))))) (tNot (tB (tCall (sp_law_cuts_right K) [] E0 (tCons (tVar 3) (tNil)))))) (tRet (tC (.bl false))) (tNext))) D [some (.ref a), some (.ref l), some v, some v3, some v4, some v5] H9 := by
      intro D W v3 H9 x9 b9 k3 hT hN fin
      have k4 := Im.tk x9.tk j4
      have k5 := Im.tk x9.tk i5
      have g9 := ltA_x g8 x9
      refine sq (ms_if (b := false) (et_not (a := true) (et_V (ep_sides rfl rfl rfl k3 k4 k5 hT (ev_every hx3 (ep_var (σ := [some (.ref a), some (.ref l), some v, some v3, some v4, some v5]) (i := 1) rfl (mono_nl _) (ltA_lt g9)))))) (fun z => nomatch z) fun _ H10 e10 => ?_)
      try unfold tNext
      dsimp only
      refine sq (md_ifNot (a := a) (ed_leads (xs := xs) rfl rfl rfl (k3.ex e10) (k4.ex e10) (k5.ex e10) hT (ed_event_row (K := K) (i := 0) (j := 1) (most := 5) (g := .ref l) rfl rfl (fun _ _ => ep_nat (K := K) 5) (ltA_x g9 (.of e10)) hx0 (by omega) (by decide))) (b9.ex e10) (by omega) fun H11 x11 b11 => ?_)
      try unfold tNext
      dsimp only
      have t11 : Tk K H9 H11 := (Tk.ex e10).trans x11.tk
      refine ms_if (b := false) (et_or (a := false) (b := false) (et_not (a := true) (et_V (call_pairs_right hT.pin (ea_cons' (ep_vis rfl (Im.tk t11 k3)) (mono_is _) (ea_cons' (ep_vis rfl (Im.tk t11 k4)) (mono_is _) (ea_cons' (ep_vis rfl (Im.tk t11 k5)) (mono_is _) ea_nil')))))) fun _ => et_not (a := true) (et_V (call_cuts_right hT.nice hN (ea_cons' (ep_vis rfl (Im.tk t11 k3)) (mono_is _) ea_nil')))) (fun z => nomatch z) fun _ H12 e12 => ?_
      exact fin H12 (((x48.trans x9).then e10).trans (x11.then e12)) ((b11.ex e12).mono (by rw [Nat.succ_mul]; omega))
    refine sq ?_
    refine md_if (a := a) (etd_takeEq (K := K) (m := 0) (i := 0) (size := 3) rfl (fun H3 _ => ep_nat (K := K) 3) (by decide) (by decide)) b8 (by omega) fun r H9 x9 b9 => ?_
    cases r with
    | true =>
      rw [if_pos rfl]
      refine (ed_drawn_base (K := K) (a := a) (i := 0) (j := 1) (σ := [some (.ref a), some (.ref l), some v, some v3, some v4, some v5]) (many := 1) (most := 1) (g := .ref l) (xs := xs) rfl rfl (ltA_x g8 x9) hx0 (by omega) (by decide) (by decide)) H9 .refl _ b9 (by show 101 + i * 70 + 20 + 15 + 15 + 1 + 8 ≤ lim; omega) _ fun v6 H10 x10 b10 ⟨X, dX, i6⟩ => ?_
      have hT := trio_then hx3 dX dA dB
      have dT := then_db dX dB
      have oX : Ok X := ⟨by have := dX.2.1; omega, fun u hu => by have := (dX.2.2 u hu).2; omega⟩
      exact (call_then (K := K) (σ := [some (.ref a), some (.ref l), some v, some v3, some v4, some v5]) oX hT.ok2 (Nat.lt_of_le_of_lt (Nat.mul_le_mul dX.2.1 dB.2.1) (by decide)) (ea_cons' (ep_k (mono_is _) i6).sq (mono_sq _) (ea_cons' (ep_vis (i := 5) rfl (Im.tk (x9.tk.trans x10.tk) i5)).sq (mono_sq _) ea_nil'))) H10 (Ex.refl _) _ fun v7 H11 e11 i7 => rest _ _ v7 H11 ((x9.trans x10).then e11) ((b10.ex e11).mono (by show 101 + i * 70 + 20 + 15 + 15 + 1 + 8 ≤ _; omega)) i7 hT (db_named dT m2) fun H' xe be => by exact ⟨xe, be, _, _, _, _, rfl⟩
    | false =>
      rw [if_neg (by decide)]
      exact rest _ _ v3 H9 x9 (b9.mono (by omega)) (Im.tk x9.tk j3) (trio_drawn hx3 dW dA dB) (db_named dW m2) fun H' xe be => ⟨xe, be, _, _, _, _, rfl⟩
  · obtain ⟨z1, z2, y2, y3, y4, y5, rfl⟩ := z
    try unfold tNext
    dsimp only
    exact ms_ret (P := fun v _ => v = .bl true) (ep_c fun _ => rfl) fun v H5 e5 r => by
      rw [r]
      exact q H5 (((xx3.then e4).trans z1).then e5)
/-! ### law -/
abbrev splaw (K : PySem.W.Frag) : Sp := fun vs H Q _ => ∃ (s : Addr) (ns : List Int), vs = [.ref s] ∧ SqL K H s (ns.map V.int) ∧ ns.length ≤ 63 ∧ ∀ H', Q (.bl true) H'
theorem len_law (vs : List V) (H : Hp) (Q : VK) (E : XK) (h : splaw K vs H Q E) : vs.length = 1 := by
  obtain ⟨a, ns, rfl, _⟩ := h
  rfl
theorem pure_law (vs : List V) (H : Hp) (Q : VK) (E : XK) (h : splaw K vs H Q E) : trlaw K nv av (sp_law_box K) (sp_law_cells K) (sp_law_right K) { nx := fun _ H' => Q .non H', rt := Q } (L2.start Nlaw vs) H := by
  obtain ⟨s, ns, rfl, hs, hn, q⟩ := h
  have hi : ∀ (H : Hp) (l : List Int), IsAll K H (l.map V.int) l := fun H l => by
    induction l with
    | nil => exact .nil
    | cons x l ih => exact .cons (.int x) ih
  unfold trlaw
  refine sq ?_
  refine ⟨_, rfl, .ref s, ns, rfl, ⟨s, _, rfl, hs, hi H ns⟩, by omega, fun v1 H1 e1 ⟨cs, c1, c2, c3⟩ => ?_⟩
  dsimp only
  refine ms_ret (P := isP K true) (EvP.at (ep_all (el_map (σ := [some (.ref s), some v1, none]) (fun _ : Nat => true) (wk_rng1 (ep_len (EvP.sqn (ep_var (i := 1) rfl (mono_nl _) c3))) (by omega)) (by rw [List.length_range]; omega) (fun _ => rfl) fun k hk v H2 e2 iv => ?_)) (all_true _)) fun v H2 e2 r => ?_
  · have hk' : k < cs.length := List.mem_range.mp hk
    have hv := Is.nat iv
    subst hv
    intro H3 e3 Q' q'
    exact ⟨_, rfl, _, rfl, v1, k, cs, rfl, mono_nl _ _ _ _ (e2.trans e3) c3, hk', by omega, fun p H4 e4 hp b => ⟨p, rfl, b, fun H5 x5 => q' _ H5 (fun c o hc => x5.ob c o (fun z => by rw [List.mem_singleton.mp z, hp] at hc; cases hc) (e4 _ _ hc)) (.bl true)⟩⟩
  · cases r
    exact q H2
end
end MoD
set_option maxHeartbeats 0
/-! the head -/
namespace MoD
open PySem PySem.Spec PyProof.Rows L2
def dis_name : He.DefD := ⟨("is_name", none), "is_name", "is_name", defArgs sis_name, defBody sis_name, defScope sis_name, [], []⟩
def dtupled : He.DefD := ⟨("tupled", none), "tupled", "tupled", defArgs stupled, defBody stupled, defScope stupled, [], []⟩
def dis_log : He.DefD := ⟨("is_log", none), "is_log", "is_log", defArgs sis_log, defBody sis_log, defScope sis_log, [], []⟩
def dbegun : He.DefD := ⟨("begun", none), "begun", "begun", defArgs sbegun, defBody sbegun, defScope sbegun, [], []⟩
def dis_part : He.DefD := ⟨("is_part", none), "is_part", "is_part", defArgs sis_part, defBody sis_part, defScope sis_part, [], []⟩
def drest : He.DefD := ⟨("rest", none), "rest", "rest", defArgs srest, defBody srest, defScope srest, [], []⟩
def din_order : He.DefD := ⟨("in_order", none), "in_order", "in_order", defArgs sin_order, defBody sin_order, defScope sin_order, [], []⟩
def dleast_of : He.DefD := ⟨("least_of", none), "least_of", "least_of", defArgs sleast_of, defBody sleast_of, defScope sleast_of, [], []⟩
def dbase_of : He.DefD := ⟨("base_of", none), "base_of", "base_of", defArgs sbase_of, defBody sbase_of, defScope sbase_of, [], []⟩
def dis_base : He.DefD := ⟨("is_base", none), "is_base", "is_base", defArgs sis_base, defBody sis_base, defScope sis_base, [], []⟩
def ddoes : He.DefD := ⟨("does", none), "does", "does", defArgs sdoes, defBody sdoes, defScope sdoes, [], []⟩
def deither : He.DefD := ⟨("either", none), "either", "either", defArgs seither, defBody seither, defScope seither, [], []⟩
def dthen : He.DefD := ⟨("then", none), "then", "then", defArgs sthen, defBody sthen, defScope sthen, [], []⟩
def dtimes : He.DefD := ⟨("times", none), "times", "times", defArgs stimes, defBody stimes, defScope stimes, [], []⟩
def dis_inside : He.DefD := ⟨("is_inside", none), "is_inside", "is_inside", defArgs sis_inside, defBody sis_inside, defScope sis_inside, [], []⟩
def dbehind : He.DefD := ⟨("behind", none), "behind", "behind", defArgs sbehind, defBody sbehind, defScope sbehind, [], []⟩
def dparted : He.DefD := ⟨("parted", none), "parted", "parted", defArgs sparted, defBody sparted, defScope sparted, [], []⟩
def dstages : He.DefD := ⟨("stages", none), "stages", "stages", defArgs sstages, defBody sstages, defScope sstages, [], []⟩
def dstanding : He.DefD := ⟨("standing", none), "standing", "standing", defArgs sstanding, defBody sstanding, defScope sstanding, [], []⟩
def dstep : He.DefD := ⟨("step", none), "step", "step", defArgs sstep, defBody sstep, defScope sstep, [], []⟩
def dfirst_names : He.DefD := ⟨("first_names", none), "first_names", "first_names", defArgs sfirst_names, defBody sfirst_names, defScope sfirst_names, [], []⟩
def dhardest : He.DefD := ⟨("hardest", none), "hardest", "hardest", defArgs shardest, defBody shardest, defScope shardest, [], []⟩
def dleast_into : He.DefD := ⟨("least_into", none), "least_into", "least_into", defArgs sleast_into, defBody sleast_into, defScope sleast_into, [], []⟩
def damid : He.DefD := ⟨("amid", none), "amid", "amid", defArgs samid, defBody samid, defScope samid, [], []⟩
def dlead : He.DefD := ⟨("lead", none), "lead", "lead", defArgs slead, defBody slead, defScope slead, [], []⟩
def drest_of : He.DefD := ⟨("rest_of", none), "rest_of", "rest_of", defArgs srest_of, defBody srest_of, defScope srest_of, [], []⟩
def dlogs_to : He.DefD := ⟨("logs_to", none), "logs_to", "logs_to", defArgs slogs_to, defBody slogs_to, defScope slogs_to, [], []⟩
def dends_of : He.DefD := ⟨("ends_of", none), "ends_of", "ends_of", defArgs sends_of, defBody sends_of, defScope sends_of, [], []⟩
def dcommon_parts_of : He.DefD := ⟨("common_parts_of", none), "common_parts_of", "common_parts_of", defArgs scommon_parts_of, defBody scommon_parts_of, defScope scommon_parts_of, [], []⟩
def dpairs : He.DefD := ⟨("pairs", none), "pairs", "pairs", defArgs spairs, defBody spairs, defScope spairs, [], []⟩
def dis_split : He.DefD := ⟨("is_split", none), "is_split", "is_split", defArgs sis_split, defBody sis_split, defScope sis_split, [], []⟩
def dsplits : He.DefD := ⟨("splits", none), "splits", "splits", defArgs ssplits, defBody ssplits, defScope ssplits, [], []⟩
def d_law_box : He.DefD := ⟨("_law_box", none), "_law_box", "_law_box", defArgs s_law_box, defBody s_law_box, defScope s_law_box, [], []⟩
def d_law_take : He.DefD := ⟨("_law_take", none), "_law_take", "_law_take", defArgs s_law_take, defBody s_law_take, defScope s_law_take, [], []⟩
def d_law_cells : He.DefD := ⟨("_law_cells", none), "_law_cells", "_law_cells", defArgs s_law_cells, defBody s_law_cells, defScope s_law_cells, [], []⟩
def d_law_of : He.DefD := ⟨("_law_of", none), "_law_of", "_law_of", defArgs s_law_of, defBody s_law_of, defScope s_law_of, [], []⟩
def d_law_pick : He.DefD := ⟨("_law_pick", none), "_law_pick", "_law_pick", defArgs s_law_pick, defBody s_law_pick, defScope s_law_pick, [], []⟩
def d_law_same : He.DefD := ⟨("_law_same", none), "_law_same", "_law_same", defArgs s_law_same, defBody s_law_same, defScope s_law_same, [], []⟩
def d_law_names : He.DefD := ⟨("_law_names", none), "_law_names", "_law_names", defArgs s_law_names, defBody s_law_names, defScope s_law_names, [], []⟩
def d_law_lies : He.DefD := ⟨("_law_lies", none), "_law_lies", "_law_lies", defArgs s_law_lies, defBody s_law_lies, defScope s_law_lies, [], []⟩
def d_law_sorted : He.DefD := ⟨("_law_sorted", none), "_law_sorted", "_law_sorted", defArgs s_law_sorted, defBody s_law_sorted, defScope s_law_sorted, [], []⟩
def d_law_least : He.DefD := ⟨("_law_least", none), "_law_least", "_law_least", defArgs s_law_least, defBody s_law_least, defScope s_law_least, [], []⟩
def d_law_every : He.DefD := ⟨("_law_every", none), "_law_every", "_law_every", defArgs s_law_every, defBody s_law_every, defScope s_law_every, [], []⟩
def d_law_event_row : He.DefD := ⟨("_law_event_row", none), "_law_event_row", "_law_event_row", defArgs s_law_event_row, defBody s_law_event_row, defScope s_law_event_row, [], []⟩
def d_law_some_rows : He.DefD := ⟨("_law_some_rows", none), "_law_some_rows", "_law_some_rows", defArgs s_law_some_rows, defBody s_law_some_rows, defScope s_law_some_rows, [], []⟩
def d_law_drawn_base : He.DefD := ⟨("_law_drawn_base", none), "_law_drawn_base", "_law_drawn_base", defArgs s_law_drawn_base, defBody s_law_drawn_base, defScope s_law_drawn_base, [], []⟩
def d_law_done : He.DefD := ⟨("_law_done", none), "_law_done", "_law_done", defArgs s_law_done, defBody s_law_done, defScope s_law_done, [], []⟩
def d_law_joined : He.DefD := ⟨("_law_joined", none), "_law_joined", "_law_joined", defArgs s_law_joined, defBody s_law_joined, defScope s_law_joined, [], []⟩
def d_law_behind : He.DefD := ⟨("_law_behind", none), "_law_behind", "_law_behind", defArgs s_law_behind, defBody s_law_behind, defScope s_law_behind, [], []⟩
def d_law_inside : He.DefD := ⟨("_law_inside", none), "_law_inside", "_law_inside", defArgs s_law_inside, defBody s_law_inside, defScope s_law_inside, [], []⟩
def d_law_leads_right : He.DefD := ⟨("_law_leads_right", none), "_law_leads_right", "_law_leads_right", defArgs s_law_leads_right, defBody s_law_leads_right, defScope s_law_leads_right, [], []⟩
def d_law_sides_right : He.DefD := ⟨("_law_sides_right", none), "_law_sides_right", "_law_sides_right", defArgs s_law_sides_right, defBody s_law_sides_right, defScope s_law_sides_right, [], []⟩
def d_law_pairs_right : He.DefD := ⟨("_law_pairs_right", none), "_law_pairs_right", "_law_pairs_right", defArgs s_law_pairs_right, defBody s_law_pairs_right, defScope s_law_pairs_right, [], []⟩
def d_law_cuts_right : He.DefD := ⟨("_law_cuts_right", none), "_law_cuts_right", "_law_cuts_right", defArgs s_law_cuts_right, defBody s_law_cuts_right, defScope s_law_cuts_right, [], []⟩
def d_law_by_hand_right : He.DefD := ⟨("_law_by_hand_right", none), "_law_by_hand_right", "_law_by_hand_right", defArgs s_law_by_hand_right, defBody s_law_by_hand_right, defScope s_law_by_hand_right, [], []⟩
def d_law_right : He.DefD := ⟨("_law_right", none), "_law_right", "_law_right", defArgs s_law_right, defBody s_law_right, defScope s_law_right, [], []⟩
def dlaw : He.DefD := ⟨("law", none), "law", "law", defArgs slaw, defBody slaw, defScope slaw, [], []⟩
def fn1 : List He.DefD := [dis_name, dtupled, dis_log, dbegun, dis_part, drest, din_order, dleast_of, dbase_of, dis_base, ddoes, deither, dthen, dtimes, dis_inside, dbehind, dparted, dstages, dstanding, dstep, dfirst_names, dhardest, dleast_into, damid, dlead, drest_of, dlogs_to, dends_of]
def fn2 : List He.DefD := [dcommon_parts_of, dpairs, dis_split, dsplits, d_law_box, d_law_take, d_law_cells, d_law_of, d_law_pick, d_law_same, d_law_names, d_law_lies, d_law_sorted, d_law_least, d_law_every, d_law_event_row, d_law_some_rows, d_law_drawn_base, d_law_done, d_law_joined, d_law_behind, d_law_inside, d_law_leads_right, d_law_sides_right, d_law_pairs_right, d_law_cuts_right, d_law_by_hand_right, d_law_right, dlaw]
def fn : List He.DefD := fn1 ++ fn2
def fa1 : List He.Fa := [.glo "is_name", .glo "tupled", .glo "is_log", .glo "begun", .glo "is_part", .glo "rest", .glo "in_order", .glo "least_of", .glo "base_of", .glo "is_base", .glo "does", .glo "either", .glo "then", .glo "times", .glo "is_inside", .glo "behind", .glo "parted", .glo "stages", .glo "standing", .glo "step", .glo "first_names", .glo "hardest", .glo "least_into", .glo "amid", .glo "lead", .glo "rest_of", .glo "logs_to", .glo "ends_of"]
def fa2 : List He.Fa := [.glo "common_parts_of", .glo "pairs", .glo "is_split", .glo "splits", .glo "_law_box", .glo "_law_take", .glo "_law_cells", .glo "_law_of", .glo "_law_pick", .glo "_law_same", .glo "_law_names", .glo "_law_lies", .glo "_law_sorted", .glo "_law_least", .glo "_law_every", .glo "_law_event_row", .glo "_law_some_rows", .glo "_law_drawn_base", .glo "_law_done", .glo "_law_joined", .glo "_law_behind", .glo "_law_inside", .glo "_law_leads_right", .glo "_law_sides_right", .glo "_law_pairs_right", .glo "_law_cuts_right", .glo "_law_by_hand_right", .glo "_law_right", .glo "law"]
def fa3 : List He.Fa := [.glo "NEVER", .glo "ALWAYS", .str "LETTERS" "abcdefghijklmnopqrstuvwxyz", .free "isinstance", .free "len", .free "all", .free "tuple", .free "any", .free "sorted", .free "set", .free "range", .free "zip", .free "abs", .free "int", .free "list", .free "min", .free "enumerate", .free "sum", .free "bool", .free "str"]
def fa : List He.Fa := fa1 ++ fa2 ++ fa3
def alw0 (K : PySem.W.Frag) : Addr := match K.lookup (He.ga K "ALWAYS") with
  | some ⟨_, _, Data.seq its _, _⟩ => (match its.toList[0]? with
    | some (Value.ref a) => a
    | _ => 0)
  | _ => 0
/-- the tuple at a is empty -/
def nilB (K : PySem.W.Frag) (a : Addr) : Bool := match K.lookup a with
  | some ⟨.type c, _, .seq its _, _⟩ => decide (c = "tuple") && decide (its.toList = [])
  | _ => false
def xb (K : PySem.W.Frag) : Bool := He.tupB K "NEVER" [] && (He.tupB K "ALWAYS" [.adr alw0] && nilB K (alw0 K))
abbrev Al : Type := He.AlD × Bool
def obsX (K : PySem.W.Frag) : Al := (He.obsD fa fn K, xb K)
def valX : Al := (He.valD fn, true)
def SaysX (K : PySem.W.Frag) : Prop := obsX K = valX
def obsXG (n : Nat) (g : Addr → Option Obj) : Al := obsX (He.frG g (He.asD g n))
def hookX (n : Nat) : PySem.W.Hook where
  α := Al
  obs := fun s => obsXG n s.heap.get?
  val := fun _ => valX
  says := fun _ h => ∃ K : PySem.W.Frag, K.In h ∧ SaysX K
  of := fun _ _ e => ⟨_, He.frG_in, e⟩
  keeps := fun _ _ _ ⟨K, hK, c⟩ k => ⟨K, PySem.W.Frag.In.keeps hK k, c⟩
theorem obsXG_eq {n : Nat} {g : Addr → Option Obj} {s : Shared} (h : ∀ a, g a = s.heap.get? a) : obsXG n g = (hookX n).obs s := by
  have e : g = s.heap.get? := funext h
  rw [e] <;> rfl
abbrev R : PySem.W.OpenRow := PySem.W.OpenLaw.row PySem.Challenge.rw_moredone_k65_whole_leads_stages_and_turn
abbrev hk : PySem.W.Hook := hookX 4
def ob (s : PySem.W.SharedT) : Al := obsXG 4 (HandSHeadRun.getT s)
theorem ob_eq (s : PySem.W.SharedT) : ob s = hk.obs s.abs := obsXG_eq (HandSHeadRun.getT_eq s)
def lo1 : List PySem.Str := ["LETTERS", "is_name", "tupled", "is_log", "begun", "is_part", "rest", "in_order", "least_of", "NEVER", "ALWAYS", "base_of", "is_base", "does", "either", "then", "times", "is_inside", "behind", "parted", "stages", "standing", "step", "first_names", "hardest", "least_into", "amid", "lead", "rest_of", "logs_to"]
def lo2 : List PySem.Str := ["ends_of", "common_parts_of", "pairs", "is_split", "splits", "_law_box", "_law_take", "_law_cells", "_law_of", "_law_pick", "_law_same", "_law_names", "_law_lies", "_law_sorted", "_law_least", "_law_every", "_law_event_row", "_law_some_rows", "_law_drawn_base", "_law_done", "_law_joined", "_law_behind", "_law_inside", "_law_leads_right", "_law_sides_right", "_law_pairs_right", "_law_cuts_right", "_law_by_hand_right", "_law_right"]
def lo : List PySem.Str := lo1 ++ lo2
theorem run (w : World) : HandSHeadRun.RunEq R (PySem.W.view R.prog [66]) hk ob 3000 lo w := by
  intro os
  kernel_rfl
end MoD
set_option maxHeartbeats 4000000
/-! all promises, joined; printed by gen_join.py -/
namespace MoD
open PySem PySem.Spec PyProof.Rows L2 MoR
section
variable {P : Program} {w : World} {K : PySem.W.Frag} {mg : Str → Option Value} {base : Heap} {nv av ev : Addr} {h : Heap}
theorem len_sp {ι : Type} {Ps : ι → List VP} {ok : ι → Prop} {Rs : ι → Hp → VP} {n : Nat} (hn : ∀ i, (Ps i).length = n) (vs : List V) (H : Hp) (Q : VK) (E : XK) (h : spP Ps ok Rs vs H Q E) : vs.length = n := by
  obtain ⟨i, h, _⟩ := h
  rw [all_len h, hn]
abbrev spno : Sp := fun _ _ _ _ => False
theorem ok_no {f : Addr} {fd : FuncData} {ps : List Str} : FnOk P w K mg base CX0 0 f fd ps spno := ⟨fun _ _ _ _ h => h.elim, fun _ _ _ _ _ _ _ _ _ _ _ _ _ h => h.elim⟩
/-- what the head tells -/
structure Bed (K : PySem.W.Frag) (mg : Str → Option Value) (nv av ev : Addr) : Prop where
  says : He.SaysD fa fn K
  globs : ∀ (i : Nat) (x : Str), fa[i]? = some (He.Fa.glo x) → mg x = some (.ref (He.ga K x))
  txt : Txt K mg nv av ev
theorem fdis_name (B : Bed K mg nv av ev) : ∃ fd, FnP K "is_name" sis_name (He.ga K "is_name") fd := B.says.def_ 0 (d := dis_name) rfl
theorem fdtupled (B : Bed K mg nv av ev) : ∃ fd, FnP K "tupled" stupled (He.ga K "tupled") fd := B.says.def_ 1 (d := dtupled) rfl
theorem fdis_log (B : Bed K mg nv av ev) : ∃ fd, FnP K "is_log" sis_log (He.ga K "is_log") fd := B.says.def_ 2 (d := dis_log) rfl
theorem fdbegun (B : Bed K mg nv av ev) : ∃ fd, FnP K "begun" sbegun (He.ga K "begun") fd := B.says.def_ 3 (d := dbegun) rfl
theorem fdis_part (B : Bed K mg nv av ev) : ∃ fd, FnP K "is_part" sis_part (He.ga K "is_part") fd := B.says.def_ 4 (d := dis_part) rfl
theorem fdrest (B : Bed K mg nv av ev) : ∃ fd, FnP K "rest" srest (He.ga K "rest") fd := B.says.def_ 5 (d := drest) rfl
theorem fdin_order (B : Bed K mg nv av ev) : ∃ fd, FnP K "in_order" sin_order (He.ga K "in_order") fd := B.says.def_ 6 (d := din_order) rfl
theorem fdleast_of (B : Bed K mg nv av ev) : ∃ fd, FnP K "least_of" sleast_of (He.ga K "least_of") fd := B.says.def_ 7 (d := dleast_of) rfl
theorem fdbase_of (B : Bed K mg nv av ev) : ∃ fd, FnP K "base_of" sbase_of (He.ga K "base_of") fd := B.says.def_ 8 (d := dbase_of) rfl
theorem fdis_base (B : Bed K mg nv av ev) : ∃ fd, FnP K "is_base" sis_base (He.ga K "is_base") fd := B.says.def_ 9 (d := dis_base) rfl
theorem fddoes (B : Bed K mg nv av ev) : ∃ fd, FnP K "does" sdoes (He.ga K "does") fd := B.says.def_ 10 (d := ddoes) rfl
theorem fdeither (B : Bed K mg nv av ev) : ∃ fd, FnP K "either" seither (He.ga K "either") fd := B.says.def_ 11 (d := deither) rfl
theorem fdthen (B : Bed K mg nv av ev) : ∃ fd, FnP K "then" sthen (He.ga K "then") fd := B.says.def_ 12 (d := dthen) rfl
theorem fdtimes (B : Bed K mg nv av ev) : ∃ fd, FnP K "times" stimes (He.ga K "times") fd := B.says.def_ 13 (d := dtimes) rfl
theorem fdis_inside (B : Bed K mg nv av ev) : ∃ fd, FnP K "is_inside" sis_inside (He.ga K "is_inside") fd := B.says.def_ 14 (d := dis_inside) rfl
theorem fdbehind (B : Bed K mg nv av ev) : ∃ fd, FnP K "behind" sbehind (He.ga K "behind") fd := B.says.def_ 15 (d := dbehind) rfl
theorem fdparted (B : Bed K mg nv av ev) : ∃ fd, FnP K "parted" sparted (He.ga K "parted") fd := B.says.def_ 16 (d := dparted) rfl
theorem fdstages (B : Bed K mg nv av ev) : ∃ fd, FnP K "stages" sstages (He.ga K "stages") fd := B.says.def_ 17 (d := dstages) rfl
theorem fdstanding (B : Bed K mg nv av ev) : ∃ fd, FnP K "standing" sstanding (He.ga K "standing") fd := B.says.def_ 18 (d := dstanding) rfl
theorem fdstep (B : Bed K mg nv av ev) : ∃ fd, FnP K "step" sstep (He.ga K "step") fd := B.says.def_ 19 (d := dstep) rfl
theorem fdfirst_names (B : Bed K mg nv av ev) : ∃ fd, FnP K "first_names" sfirst_names (He.ga K "first_names") fd := B.says.def_ 20 (d := dfirst_names) rfl
theorem fdhardest (B : Bed K mg nv av ev) : ∃ fd, FnP K "hardest" shardest (He.ga K "hardest") fd := B.says.def_ 21 (d := dhardest) rfl
theorem fdleast_into (B : Bed K mg nv av ev) : ∃ fd, FnP K "least_into" sleast_into (He.ga K "least_into") fd := B.says.def_ 22 (d := dleast_into) rfl
theorem fdamid (B : Bed K mg nv av ev) : ∃ fd, FnP K "amid" samid (He.ga K "amid") fd := B.says.def_ 23 (d := damid) rfl
theorem fdlead (B : Bed K mg nv av ev) : ∃ fd, FnP K "lead" slead (He.ga K "lead") fd := B.says.def_ 24 (d := dlead) rfl
theorem fdrest_of (B : Bed K mg nv av ev) : ∃ fd, FnP K "rest_of" srest_of (He.ga K "rest_of") fd := B.says.def_ 25 (d := drest_of) rfl
theorem fdlogs_to (B : Bed K mg nv av ev) : ∃ fd, FnP K "logs_to" slogs_to (He.ga K "logs_to") fd := B.says.def_ 26 (d := dlogs_to) rfl
theorem fdends_of (B : Bed K mg nv av ev) : ∃ fd, FnP K "ends_of" sends_of (He.ga K "ends_of") fd := B.says.def_ 27 (d := dends_of) rfl
theorem fdcommon_parts_of (B : Bed K mg nv av ev) : ∃ fd, FnP K "common_parts_of" scommon_parts_of (He.ga K "common_parts_of") fd := B.says.def_ 28 (d := dcommon_parts_of) rfl
theorem fdpairs (B : Bed K mg nv av ev) : ∃ fd, FnP K "pairs" spairs (He.ga K "pairs") fd := B.says.def_ 29 (d := dpairs) rfl
theorem fdis_split (B : Bed K mg nv av ev) : ∃ fd, FnP K "is_split" sis_split (He.ga K "is_split") fd := B.says.def_ 30 (d := dis_split) rfl
theorem fdsplits (B : Bed K mg nv av ev) : ∃ fd, FnP K "splits" ssplits (He.ga K "splits") fd := B.says.def_ 31 (d := dsplits) rfl
theorem fd_law_box (B : Bed K mg nv av ev) : ∃ fd, FnP K "_law_box" s_law_box (He.ga K "_law_box") fd := B.says.def_ 32 (d := d_law_box) rfl
theorem fd_law_take (B : Bed K mg nv av ev) : ∃ fd, FnP K "_law_take" s_law_take (He.ga K "_law_take") fd := B.says.def_ 33 (d := d_law_take) rfl
theorem fd_law_cells (B : Bed K mg nv av ev) : ∃ fd, FnP K "_law_cells" s_law_cells (He.ga K "_law_cells") fd := B.says.def_ 34 (d := d_law_cells) rfl
theorem fd_law_of (B : Bed K mg nv av ev) : ∃ fd, FnP K "_law_of" s_law_of (He.ga K "_law_of") fd := B.says.def_ 35 (d := d_law_of) rfl
theorem fd_law_pick (B : Bed K mg nv av ev) : ∃ fd, FnP K "_law_pick" s_law_pick (He.ga K "_law_pick") fd := B.says.def_ 36 (d := d_law_pick) rfl
theorem fd_law_same (B : Bed K mg nv av ev) : ∃ fd, FnP K "_law_same" s_law_same (He.ga K "_law_same") fd := B.says.def_ 37 (d := d_law_same) rfl
theorem fd_law_names (B : Bed K mg nv av ev) : ∃ fd, FnP K "_law_names" s_law_names (He.ga K "_law_names") fd := B.says.def_ 38 (d := d_law_names) rfl
theorem fd_law_lies (B : Bed K mg nv av ev) : ∃ fd, FnP K "_law_lies" s_law_lies (He.ga K "_law_lies") fd := B.says.def_ 39 (d := d_law_lies) rfl
theorem fd_law_sorted (B : Bed K mg nv av ev) : ∃ fd, FnP K "_law_sorted" s_law_sorted (He.ga K "_law_sorted") fd := B.says.def_ 40 (d := d_law_sorted) rfl
theorem fd_law_least (B : Bed K mg nv av ev) : ∃ fd, FnP K "_law_least" s_law_least (He.ga K "_law_least") fd := B.says.def_ 41 (d := d_law_least) rfl
theorem fd_law_every (B : Bed K mg nv av ev) : ∃ fd, FnP K "_law_every" s_law_every (He.ga K "_law_every") fd := B.says.def_ 42 (d := d_law_every) rfl
theorem fd_law_event_row (B : Bed K mg nv av ev) : ∃ fd, FnP K "_law_event_row" s_law_event_row (He.ga K "_law_event_row") fd := B.says.def_ 43 (d := d_law_event_row) rfl
theorem fd_law_some_rows (B : Bed K mg nv av ev) : ∃ fd, FnP K "_law_some_rows" s_law_some_rows (He.ga K "_law_some_rows") fd := B.says.def_ 44 (d := d_law_some_rows) rfl
theorem fd_law_drawn_base (B : Bed K mg nv av ev) : ∃ fd, FnP K "_law_drawn_base" s_law_drawn_base (He.ga K "_law_drawn_base") fd := B.says.def_ 45 (d := d_law_drawn_base) rfl
theorem fd_law_done (B : Bed K mg nv av ev) : ∃ fd, FnP K "_law_done" s_law_done (He.ga K "_law_done") fd := B.says.def_ 46 (d := d_law_done) rfl
theorem fd_law_joined (B : Bed K mg nv av ev) : ∃ fd, FnP K "_law_joined" s_law_joined (He.ga K "_law_joined") fd := B.says.def_ 47 (d := d_law_joined) rfl
theorem fd_law_behind (B : Bed K mg nv av ev) : ∃ fd, FnP K "_law_behind" s_law_behind (He.ga K "_law_behind") fd := B.says.def_ 48 (d := d_law_behind) rfl
theorem fd_law_inside (B : Bed K mg nv av ev) : ∃ fd, FnP K "_law_inside" s_law_inside (He.ga K "_law_inside") fd := B.says.def_ 49 (d := d_law_inside) rfl
theorem fd_law_leads_right (B : Bed K mg nv av ev) : ∃ fd, FnP K "_law_leads_right" s_law_leads_right (He.ga K "_law_leads_right") fd := B.says.def_ 50 (d := d_law_leads_right) rfl
theorem fd_law_sides_right (B : Bed K mg nv av ev) : ∃ fd, FnP K "_law_sides_right" s_law_sides_right (He.ga K "_law_sides_right") fd := B.says.def_ 51 (d := d_law_sides_right) rfl
theorem fd_law_pairs_right (B : Bed K mg nv av ev) : ∃ fd, FnP K "_law_pairs_right" s_law_pairs_right (He.ga K "_law_pairs_right") fd := B.says.def_ 52 (d := d_law_pairs_right) rfl
theorem fd_law_cuts_right (B : Bed K mg nv av ev) : ∃ fd, FnP K "_law_cuts_right" s_law_cuts_right (He.ga K "_law_cuts_right") fd := B.says.def_ 53 (d := d_law_cuts_right) rfl
theorem fd_law_by_hand_right (B : Bed K mg nv av ev) : ∃ fd, FnP K "_law_by_hand_right" s_law_by_hand_right (He.ga K "_law_by_hand_right") fd := B.says.def_ 54 (d := d_law_by_hand_right) rfl
theorem fd_law_right (B : Bed K mg nv av ev) : ∃ fd, FnP K "_law_right" s_law_right (He.ga K "_law_right") fd := B.says.def_ 55 (d := d_law_right) rfl
theorem fdlaw (B : Bed K mg nv av ev) : ∃ fd, FnP K "law" slaw (He.ga K "law") fd := B.says.def_ 56 (d := dlaw) rfl
theorem cis_name (B : Bed K mg nv av ev) : Cal P w K mg base "is_name" 1 ["value"] (spis_name K) := by
  obtain ⟨fd, F⟩ := fdis_name B
  exact Cal.mk' F (okis_name F B.txt  (len_sp fun _ => rfl) (fun vs H Q E h => pure_is_name vs H Q E h)) (B.globs 0 "is_name" rfl) (bnis_name F)
theorem ctup0 (B : Bed K mg nv av ev) : Cal P w K mg base "tupled" 1 ["value"] (sptup0 K) := by
  obtain ⟨fd, F⟩ := fdtupled B
  exact Cal.mk' F (oktupled F B.txt (Cal.mk' F ok_no (B.globs 1 "tupled" rfl) (bntupled F)) (len_sp fun _ => rfl) (fun vs H Q E h => pure_tup0 vs H Q E h)) (B.globs 1 "tupled" rfl) (bntupled F)
theorem ctup1 (B : Bed K mg nv av ev) : Cal P w K mg base "tupled" 2 ["value"] (sptup1 K) := by
  obtain ⟨fd, F⟩ := fdtupled B
  exact Cal.mk' F (oktupled F B.txt (ctup0 B) (len_sp fun _ => rfl) (fun vs H Q E h => pure_tup1 vs H Q E h)) (B.globs 1 "tupled" rfl) (bntupled F)
theorem ctupled (B : Bed K mg nv av ev) : Cal P w K mg base "tupled" 3 ["value"] (sptupled K) := by
  obtain ⟨fd, F⟩ := fdtupled B
  exact Cal.mk' F (oktupled F B.txt (ctup1 B) (len_sp fun _ => rfl) (fun vs H Q E h => pure_tupled vs H Q E h)) (B.globs 1 "tupled" rfl) (bntupled F)
theorem cis_log (B : Bed K mg nv av ev) : Cal P w K mg base "is_log" 2 ["thing"] (spis_log K) := by
  obtain ⟨fd, F⟩ := fdis_log B
  exact Cal.mk' F (okis_log F B.txt (Cal.up (cis_name B) (by decide : 1 ≤ 1)) (len_sp fun _ => rfl) (fun vs H Q E h => pure_is_log vs H Q E h)) (B.globs 2 "is_log" rfl) (bnis_log F)
theorem cbegun (B : Bed K mg nv av ev) : Cal P w K mg base "begun" 1 ["word", "log"] (spbegun K) := by
  obtain ⟨fd, F⟩ := fdbegun B
  exact Cal.mk' F (okbegun F B.txt  (len_sp fun _ => rfl) (fun vs H Q E h => pure_begun vs H Q E h)) (B.globs 3 "begun" rfl) (bnbegun F)
theorem cis_part (B : Bed K mg nv av ev) : Cal P w K mg base "is_part" 2 ["word", "log"] (spis_part K) := by
  obtain ⟨fd, F⟩ := fdis_part B
  exact Cal.mk' F (okis_part F B.txt (Cal.up (cbegun B) (by decide : 1 ≤ 1)) (len_sp fun _ => rfl) (fun vs H Q E h => pure_is_part vs H Q E h)) (B.globs 4 "is_part" rfl) (bnis_part F)
theorem crest (B : Bed K mg nv av ev) : Cal P w K mg base "rest" 2 ["word", "log"] (sprest K) := by
  obtain ⟨fd, F⟩ := fdrest B
  exact Cal.mk' F (okrest F B.txt (Cal.up (cbegun B) (by decide : 1 ≤ 1)) (len_sp fun _ => rfl) (fun vs H Q E h => pure_rest vs H Q E h)) (B.globs 5 "rest" rfl) (bnrest F)
theorem cin_order (B : Bed K mg nv av ev) : Cal P w K mg base "in_order" 1 ["logs"] (spin_order K) := by
  obtain ⟨fd, F⟩ := fdin_order B
  exact Cal.mk' F (okin_order F B.txt  (len_sp fun _ => rfl) (fun vs H Q E h => pure_in_order vs H Q E h)) (B.globs 6 "in_order" rfl) (bnin_order F)
theorem cleast_of (B : Bed K mg nv av ev) : Cal P w K mg base "least_of" 3 ["logs"] (spleast_of K) := by
  obtain ⟨fd, F⟩ := fdleast_of B
  exact Cal.mk' F (okleast_of F B.txt (Cal.up (cis_part B) (by decide : 2 ≤ 2)) (Cal.up (cin_order B) (by decide : 1 ≤ 2)) (len_sp fun _ => rfl) (fun vs H Q E h => pure_least_of vs H Q E h)) (B.globs 7 "least_of" rfl) (bnleast_of F)
theorem cbase_of (B : Bed K mg nv av ev) : Cal P w K mg base "base_of" 4 ["logs"] (spbase_of K) := by
  obtain ⟨fd, F⟩ := fdbase_of B
  exact Cal.mk' F (okbase_of F B.txt (Cal.up (ctupled B) (by decide : 3 ≤ 3)) (Cal.up (cleast_of B) (by decide : 3 ≤ 3)) (len_sp fun _ => rfl) (fun vs H Q E h => pure_base_of vs H Q E h)) (B.globs 8 "base_of" rfl) (bnbase_of F)
theorem cis_base (B : Bed K mg nv av ev) : Cal P w K mg base "is_base" 5 ["thing"] (spis_base K) := by
  obtain ⟨fd, F⟩ := fdis_base B
  exact Cal.mk' F (okis_base F B.txt (Cal.up (cis_log B) (by decide : 2 ≤ 4)) (Cal.up (cbase_of B) (by decide : 4 ≤ 4)) (len_sp fun _ => rfl) (fun vs H Q E h => pure_is_base vs H Q E h)) (B.globs 9 "is_base" rfl) (bnis_base F)
theorem cdoes (B : Bed K mg nv av ev) : Cal P w K mg base "does" 3 ["base", "log"] (spdoes K) := by
  obtain ⟨fd, F⟩ := fddoes B
  exact Cal.mk' F (okdoes F B.txt (Cal.up (cis_part B) (by decide : 2 ≤ 2)) (len_sp fun _ => rfl) (fun vs H Q E h => pure_does vs H Q E h)) (B.globs 10 "does" rfl) (bndoes F)
theorem ceither (B : Bed K mg nv av ev) : Cal P w K mg base "either" 5 ["one", "other"] (speither K) := by
  obtain ⟨fd, F⟩ := fdeither B
  exact Cal.mk' F (okeither F B.txt (Cal.up (cbase_of B) (by decide : 4 ≤ 4)) (len_sp fun _ => rfl) (fun vs H Q E h => pure_either vs H Q E h)) (B.globs 11 "either" rfl) (bneither F)
theorem cthen (B : Bed K mg nv av ev) : Cal P w K mg base "then" 4 ["one", "other"] (spthen K) := by
  obtain ⟨fd, F⟩ := fdthen B
  exact Cal.mk' F (okthen F B.txt (Cal.up (ctupled B) (by decide : 3 ≤ 3)) (Cal.up (cin_order B) (by decide : 1 ≤ 3)) (len_sp fun _ => rfl) (fun vs H Q E h => pure_then vs H Q E h)) (B.globs 12 "then" rfl) (bnthen F)
theorem ctimes (B : Bed K mg nv av ev) : Cal P w K mg base "times" 5 ["base", "number"] (sptimes K) := by
  obtain ⟨fd, F⟩ := fdtimes B
  exact Cal.mk' F (oktimes F B.txt (Cal.up (cthen B) (by decide : 4 ≤ 4)) (len_sp fun _ => rfl) (fun vs H Q E h => pure_times B.txt.na vs H Q E h)) (B.globs 13 "times" rfl) (bntimes F)
theorem cis_inside (B : Bed K mg nv av ev) : Cal P w K mg base "is_inside" 4 ["one", "other"] (spis_inside K) := by
  obtain ⟨fd, F⟩ := fdis_inside B
  exact Cal.mk' F (okis_inside F B.txt (Cal.up (cdoes B) (by decide : 3 ≤ 3)) (len_sp fun _ => rfl) (fun vs H Q E h => pure_is_inside vs H Q E h)) (B.globs 14 "is_inside" rfl) (bnis_inside F)
theorem cbehind (B : Bed K mg nv av ev) : Cal P w K mg base "behind" 2 ["base", "log"] (spbehind K) := by
  obtain ⟨fd, F⟩ := fdbehind B
  exact Cal.mk' F (okbehind F B.txt (Cal.up (cin_order B) (by decide : 1 ≤ 1)) (len_sp fun _ => rfl) (fun vs H Q E h => pure_behind vs H Q E h)) (B.globs 15 "behind" rfl) (bnbehind F)
theorem cparted (B : Bed K mg nv av ev) : Cal P w K mg base "parted" 5 ["base", "log"] (spparted K) := by
  obtain ⟨fd, F⟩ := fdparted B
  exact Cal.mk' F (okparted F B.txt (Cal.up (cin_order B) (by decide : 1 ≤ 4)) (Cal.up (cthen B) (by decide : 4 ≤ 4)) (Cal.up (cbehind B) (by decide : 2 ≤ 4)) (len_sp fun _ => rfl) (fun vs H Q E h => pure_parted vs H Q E h)) (B.globs 16 "parted" rfl) (bnparted F)
theorem cstages (B : Bed K mg nv av ev) : Cal P w K mg base "stages" 6 ["base"] (spstages K) := by
  obtain ⟨fd, F⟩ := fdstages B
  exact Cal.mk' F (okstages F B.txt (Cal.up (ctupled B) (by decide : 3 ≤ 5)) (Cal.up (cparted B) (by decide : 5 ≤ 5)) (len_sp fun _ => rfl) (fun vs H Q E h => pure_stages B.txt.na vs H Q E h)) (B.globs 17 "stages" rfl) (bnstages F)
theorem cstanding (B : Bed K mg nv av ev) : Cal P w K mg base "standing" 5 ["base", "log"] (spstanding K) := by
  obtain ⟨fd, F⟩ := fdstanding B
  exact Cal.mk' F (okstanding F B.txt (Cal.up (crest B) (by decide : 2 ≤ 4)) (Cal.up (cbase_of B) (by decide : 4 ≤ 4)) (len_sp fun _ => rfl) (fun vs H Q E h => pure_standing vs H Q E h)) (B.globs 18 "standing" rfl) (bnstanding F)
theorem cstep (B : Bed K mg nv av ev) : Cal P w K mg base "step" 5 ["state", "name"] (spstep K) := by
  obtain ⟨fd, F⟩ := fdstep B
  exact Cal.mk' F (okstep F B.txt (Cal.up (cbase_of B) (by decide : 4 ≤ 4)) (len_sp fun _ => rfl) (fun vs H Q E h => pure_step vs H Q E h)) (B.globs 19 "step" rfl) (bnstep F)
theorem cfirst_names (B : Bed K mg nv av ev) : Cal P w K mg base "first_names" 1 ["state"] (spfirst_names K) := by
  obtain ⟨fd, F⟩ := fdfirst_names B
  exact Cal.mk' F (okfirst_names F B.txt  (len_sp fun _ => rfl) (fun vs H Q E h => pure_first_names vs H Q E h)) (B.globs 20 "first_names" rfl) (bnfirst_names F)
theorem chardest (B : Bed K mg nv av ev) : Cal P w K mg base "hardest" 5 ["states"] (sphardest K) := by
  obtain ⟨fd, F⟩ := fdhardest B
  exact Cal.mk' F (okhardest F B.txt (Cal.up (cis_inside B) (by decide : 4 ≤ 4)) (len_sp fun _ => rfl) (fun vs H Q E h => pure_hardest vs H Q E h)) (B.globs 21 "hardest" rfl) (bnhardest F)
theorem cinto (B : Bed K mg nv av ev) : ∀ n : Nat, Cal P w K mg base "least_into" (5 + n) ["states", "ends", "known"] (spinto P w K n)
  | 0 => by
    obtain ⟨fd, F⟩ := fdleast_into B
    exact Cal.up (Cal.mk' F (ok_no.imp fun vs H Q E h => by
      obtain ⟨W, states, ends, v1, v2, d, es, _, _, _, _, _, _, _, _, hz, _⟩ := h
      exact Nat.not_lt_zero _ hz) (B.globs 22 "least_into" rfl) (bnleast_into F)) (Nat.zero_le _)
  | n + 1 => by
    obtain ⟨fd, F⟩ := fdleast_into B
    exact Cal.mk' F (okleast_into F B.txt (Cal.up (cbase_of B) (by omega : 4 ≤ 5 + n)) (Cal.up (cdoes B) (by omega : 3 ≤ 5 + n)) (Cal.up (cstep B) (by omega : 5 ≤ 5 + n)) (Cal.up (cfirst_names B) (by omega : 1 ≤ 5 + n)) (Cal.up (chardest B) (by omega : 5 ≤ 5 + n)) (cinto B n) (len_into (n + 1)) (fun vs H Q E h => pure_into B.txt.na n vs H Q E h)) (B.globs 22 "least_into" rfl) (bnleast_into F)
theorem cleast_into (B : Bed K mg nv av ev) : Cal P w K mg base "least_into" 66 ["states", "ends", "known"] (spinto P w K 61) := cinto B 61
theorem camid (B : Bed K mg nv av ev) : Cal P w K mg base "amid" 67 ["base", "one", "other"] (spamid K) := by
  obtain ⟨fd, F⟩ := fdamid B
  exact Cal.mk' F (okamid F B.txt (Cal.up (ctupled B) (by decide : 3 ≤ 66)) (Cal.up (cstanding B) (by decide : 5 ≤ 66)) (Cal.up (chardest B) (by decide : 5 ≤ 66)) (Cal.up (cleast_into B) (by decide : 66 ≤ 66)) (len_sp fun _ => rfl) (fun vs H Q E h => pure_amid vs H Q E h)) (B.globs 23 "amid" rfl) (bnamid F)
theorem clead (B : Bed K mg nv av ev) : Cal P w K mg base "lead" 68 ["base", "other"] (splead K) := by
  obtain ⟨fd, F⟩ := fdlead B
  exact Cal.mk' F (oklead F B.txt (Cal.up (camid B) (by decide : 67 ≤ 67)) (len_sp fun _ => rfl) (fun vs H Q E h => pure_lead B.txt.na vs H Q E h)) (B.globs 24 "lead" rfl) (bnlead F)
theorem crest_of (B : Bed K mg nv av ev) : Cal P w K mg base "rest_of" 68 ["base", "other"] (sprest_of K) := by
  obtain ⟨fd, F⟩ := fdrest_of B
  exact Cal.mk' F (okrest_of F B.txt (Cal.up (camid B) (by decide : 67 ≤ 67)) (len_sp fun _ => rfl) (fun vs H Q E h => pure_rest_of B.txt.na vs H Q E h)) (B.globs 25 "rest_of" rfl) (bnrest_of F)
theorem clogs_to (B : Bed K mg nv av ev) : Cal P w K mg base "logs_to" 6 ["base"] (splogs_to P w K) := by
  obtain ⟨fd, F⟩ := fdlogs_to B
  exact Cal.mk' F (oklogs_to F B.txt (Cal.up (cstep B) (by decide : 5 ≤ 5)) (Cal.up (cfirst_names B) (by decide : 1 ≤ 5)) (len_sp fun _ => rfl) (fun vs H Q E h => pure_logs_to vs H Q E h)) (B.globs 26 "logs_to" rfl) (bnlogs_to F)
theorem cends_of (B : Bed K mg nv av ev) : Cal P w K mg base "ends_of" 7 ["base"] (spends_of P w K) := by
  obtain ⟨fd, F⟩ := fdends_of B
  exact Cal.mk' F (okends_of F B.txt (Cal.up (cbase_of B) (by decide : 4 ≤ 6)) (Cal.up (clogs_to B) (by decide : 6 ≤ 6)) (len_sp fun _ => rfl) (fun vs H Q E h => pure_ends_of vs H Q E h)) (B.globs 27 "ends_of" rfl) (bnends_of F)
theorem ccommon_parts_of (B : Bed K mg nv av ev) : Cal P w K mg base "common_parts_of" 1 ["columns", "whole"] (spcommon_parts_of K) := by
  obtain ⟨fd, F⟩ := fdcommon_parts_of B
  exact Cal.mk' F (okcommon_parts_of F B.txt  (len_sp fun _ => rfl) (fun vs H Q E h => pure_common vs H Q E h)) (B.globs 28 "common_parts_of" rfl) (bncommon_parts_of F)
theorem cpairs (B : Bed K mg nv av ev) : Cal P w K mg base "pairs" 69 ["base"] (sppairs K) := by
  obtain ⟨fd, F⟩ := fdpairs B
  exact Cal.mk' F (okpairs F B.txt (Cal.up (ctupled B) (by decide : 3 ≤ 68)) (Cal.up (cdoes B) (by decide : 3 ≤ 68)) (Cal.up (clead B) (by decide : 68 ≤ 68)) (Cal.up (crest_of B) (by decide : 68 ≤ 68)) (Cal.up (clogs_to B) (by decide : 6 ≤ 68)) (Cal.up (cends_of B) (by decide : 7 ≤ 68)) (Cal.up (ccommon_parts_of B) (by decide : 1 ≤ 68)) (len_sp fun _ => rfl) (fun vs H Q E h => pure_pairs vs H Q E h)) (B.globs 29 "pairs" rfl) (bnpairs F)
theorem cis_split (B : Bed K mg nv av ev) : Cal P w K mg base "is_split" 6 ["base", "thing"] (spis_split K) := by
  obtain ⟨fd, F⟩ := fdis_split B
  exact Cal.mk' F (okis_split F B.txt (Cal.up (ctupled B) (by decide : 3 ≤ 5)) (Cal.up (cis_base B) (by decide : 5 ≤ 5)) (Cal.up (cthen B) (by decide : 4 ≤ 5)) (len_sp fun _ => rfl) (fun vs H Q E h => pure_is_split B.txt.na vs H Q E h)) (B.globs 30 "is_split" rfl) (bnis_split F)
theorem csplits (B : Bed K mg nv av ev) : Cal P w K mg base "splits" 70 ["base"] (spsplits K) := by
  obtain ⟨fd, F⟩ := fdsplits B
  exact Cal.mk' F (oksplits F B.txt (Cal.up (cpairs B) (by decide : 69 ≤ 69)) (Cal.up (cis_split B) (by decide : 6 ≤ 69)) (len_sp fun _ => rfl) (fun vs H Q E h => pure_splits vs H Q E h)) (B.globs 31 "splits" rfl) (bnsplits F)
theorem c_law_box (B : Bed K mg nv av ev) : Cal P w K mg base "_law_box" 1 ["_law_script", "_law_k"] (sp_law_box K) := by
  obtain ⟨fd, F⟩ := fd_law_box B
  exact Cal.mk' F (ok_law_box F B.txt  (len_box) (fun vs H Q E h => pure_box vs H Q E h)) (B.globs 32 "_law_box" rfl) (bn_law_box F)
theorem c_law_take (B : Bed K mg nv av ev) : Cal P w K mg base "_law_take" 1 ["_law_box_here", "_law_size_so"] (sp_law_take K) := by
  obtain ⟨fd, F⟩ := fd_law_take B
  exact Cal.mk' F (ok_law_take F B.txt  (len_take) (fun vs H Q E h => pure_take vs H Q E h)) (B.globs 33 "_law_take" rfl) (bn_law_take F)
theorem c_law_cells (B : Bed K mg nv av ev) : Cal P w K mg base "_law_cells" 1 ["_law_script", "_law_top_so"] (sp_law_cells K) := by
  obtain ⟨fd, F⟩ := fd_law_cells B
  exact Cal.mk' F (ok_law_cells F B.txt  (len_cells) (fun vs H Q E h => pure_cells vs H Q E h)) (B.globs 34 "_law_cells" rfl) (bn_law_cells F)
theorem c_law_of (B : Bed K mg nv av ev) : Cal P w K mg base "_law_of" 2 ["_law_box_here", "_law_goods_so"] (sp_law_of K) := by
  obtain ⟨fd, F⟩ := fd_law_of B
  exact Cal.mk' F (ok_law_of F B.txt (Cal.up (c_law_take B) (by decide : 1 ≤ 1)) (len_of) (fun vs H Q E h => pure_of vs H Q E h)) (B.globs 35 "_law_of" rfl) (bn_law_of F)
theorem c_law_pick (B : Bed K mg nv av ev) : Cal P w K mg base "_law_pick" 2 ["_law_box_here", "_law_goods_so", "_law_count_so"] (sp_law_pick K) := by
  obtain ⟨fd, F⟩ := fd_law_pick B
  exact Cal.mk' F (ok_law_pick F B.txt (Cal.up (c_law_take B) (by decide : 1 ≤ 1)) (len_pick) (fun vs H Q E h => pure_pick vs H Q E h)) (B.globs 36 "_law_pick" rfl) (bn_law_pick F)
theorem csame0 (B : Bed K mg nv av ev) : Cal P w K mg base "_law_same" 1 ["_law_got", "_law_due"] (spsame0 K) := by
  obtain ⟨fd, F⟩ := fd_law_same B
  exact Cal.mk' F (ok_law_same F B.txt (Cal.mk' F ok_no (B.globs 37 "_law_same" rfl) (bn_law_same F)) (len_sp fun _ => rfl) (fun vs H Q E h => pure_same0 vs H Q E h)) (B.globs 37 "_law_same" rfl) (bn_law_same F)
theorem c_law_same (B : Bed K mg nv av ev) : Cal P w K mg base "_law_same" 2 ["_law_got", "_law_due"] (spsame1 K) := by
  obtain ⟨fd, F⟩ := fd_law_same B
  exact Cal.mk' F (ok_law_same F B.txt (csame0 B) (len_sp fun _ => rfl) (fun vs H Q E h => pure_same1 vs H Q E h)) (B.globs 37 "_law_same" rfl) (bn_law_same F)
theorem c_law_names (B : Bed K mg nv av ev) : Cal P w K mg base "_law_names" 3 ["_law_box_here", "_law_much_so"] (sp_law_names K) := by
  obtain ⟨fd, F⟩ := fd_law_names B
  exact Cal.mk' F (ok_law_names F B.txt (Cal.up (c_law_take B) (by decide : 1 ≤ 2)) (Cal.up (c_law_of B) (by decide : 2 ≤ 2)) (Cal.up (c_law_pick B) (by decide : 2 ≤ 2)) (len_names) (fun vs H Q E h => pure_names vs H Q E h)) (B.globs 38 "_law_names" rfl) (bn_law_names F)
theorem c_law_lies (B : Bed K mg nv av ev) : Cal P w K mg base "_law_lies" 1 ["_law_verse", "_law_row"] (sp_law_lies K) := by
  obtain ⟨fd, F⟩ := fd_law_lies B
  exact Cal.mk' F (ok_law_lies F B.txt  (len_sp fun _ => rfl) (fun vs H Q E h => pure_lies vs H Q E h)) (B.globs 39 "_law_lies" rfl) (bn_law_lies F)
theorem c_law_sorted (B : Bed K mg nv av ev) : Cal P w K mg base "_law_sorted" 1 ["_law_rows"] (sp_law_sorted K) := by
  obtain ⟨fd, F⟩ := fd_law_sorted B
  exact Cal.mk' F (ok_law_sorted F B.txt  (len_sp fun _ => rfl) (fun vs H Q E h => pure_lsorted vs H Q E h)) (B.globs 40 "_law_sorted" rfl) (bn_law_sorted F)
theorem c_law_least (B : Bed K mg nv av ev) : Cal P w K mg base "_law_least" 2 ["_law_rows"] (sp_law_least K) := by
  obtain ⟨fd, F⟩ := fd_law_least B
  exact Cal.mk' F (ok_law_least F B.txt (Cal.up (c_law_lies B) (by decide : 1 ≤ 1)) (Cal.up (c_law_sorted B) (by decide : 1 ≤ 1)) (len_sp fun _ => rfl) (fun vs H Q E h => pure_least vs H Q E h)) (B.globs 41 "_law_least" rfl) (bn_law_least F)
theorem c_law_every (B : Bed K mg nv av ev) : Cal P w K mg base "_law_every" 1 ["_law_tags", "_law_most"] (sp_law_every K) := by
  obtain ⟨fd, F⟩ := fd_law_every B
  exact Cal.mk' F (ok_law_every F B.txt  (len_every) (fun vs H Q E h => pure_every vs H Q E h)) (B.globs 42 "_law_every" rfl) (bn_law_every F)
theorem c_law_event_row (B : Bed K mg nv av ev) : Cal P w K mg base "_law_event_row" 3 ["_law_box_here", "_law_tags", "_law_most"] (sp_law_event_row K) := by
  obtain ⟨fd, F⟩ := fd_law_event_row B
  exact Cal.mk' F (ok_law_event_row F B.txt (Cal.up (c_law_take B) (by decide : 1 ≤ 2)) (Cal.up (c_law_of B) (by decide : 2 ≤ 2)) (len_event_row) (fun vs H Q E h => pure_event_row vs H Q E h)) (B.globs 43 "_law_event_row" rfl) (bn_law_event_row F)
theorem c_law_some_rows (B : Bed K mg nv av ev) : Cal P w K mg base "_law_some_rows" 4 ["_law_box_here", "_law_tags", "_law_many", "_law_most"] (sp_law_some_rows K) := by
  obtain ⟨fd, F⟩ := fd_law_some_rows B
  exact Cal.mk' F (ok_law_some_rows F B.txt (Cal.up (c_law_take B) (by decide : 1 ≤ 3)) (Cal.up (c_law_event_row B) (by decide : 3 ≤ 3)) (len_some_rows) (fun vs H Q E h => pure_some_rows vs H Q E h)) (B.globs 44 "_law_some_rows" rfl) (bn_law_some_rows F)
theorem c_law_drawn_base (B : Bed K mg nv av ev) : Cal P w K mg base "_law_drawn_base" 5 ["_law_box_here", "_law_tags", "_law_many", "_law_most"] (sp_law_drawn_base K) := by
  obtain ⟨fd, F⟩ := fd_law_drawn_base B
  exact Cal.mk' F (ok_law_drawn_base F B.txt (Cal.up (c_law_take B) (by decide : 1 ≤ 4)) (Cal.up (c_law_least B) (by decide : 2 ≤ 4)) (Cal.up (c_law_some_rows B) (by decide : 4 ≤ 4)) (len_drawn_base) (fun vs H Q E h => pure_drawn_base vs H Q E h)) (B.globs 45 "_law_drawn_base" rfl) (bn_law_drawn_base F)
theorem c_law_done (B : Bed K mg nv av ev) : Cal P w K mg base "_law_done" 2 ["_law_words_so", "_law_row"] (sp_law_done K) := by
  obtain ⟨fd, F⟩ := fd_law_done B
  exact Cal.mk' F (ok_law_done F B.txt (Cal.up (c_law_lies B) (by decide : 1 ≤ 1)) (len_sp fun _ => rfl) (fun vs H Q E h => pure_done vs H Q E h)) (B.globs 46 "_law_done" rfl) (bn_law_done F)
theorem c_law_joined (B : Bed K mg nv av ev) : Cal P w K mg base "_law_joined" 3 ["_law_here_so", "_law_there_so"] (sp_law_joined K) := by
  obtain ⟨fd, F⟩ := fd_law_joined B
  exact Cal.mk' F (ok_law_joined F B.txt (Cal.up (c_law_least B) (by decide : 2 ≤ 2)) (len_sp fun _ => rfl) (fun vs H Q E h => pure_joined vs H Q E h)) (B.globs 47 "_law_joined" rfl) (bn_law_joined F)
theorem c_law_behind (B : Bed K mg nv av ev) : Cal P w K mg base "_law_behind" 3 ["_law_words_so"] (sp_law_behind K) := by
  obtain ⟨fd, F⟩ := fd_law_behind B
  exact Cal.mk' F (ok_law_behind F B.txt (Cal.up (c_law_least B) (by decide : 2 ≤ 2)) (len_sp fun _ => rfl) (fun vs H Q E h => pure_lbehind vs H Q E h)) (B.globs 48 "_law_behind" rfl) (bn_law_behind F)
theorem c_law_inside (B : Bed K mg nv av ev) : Cal P w K mg base "_law_inside" 3 ["_law_here_so", "_law_there_so"] (sp_law_inside K) := by
  obtain ⟨fd, F⟩ := fd_law_inside B
  exact Cal.mk' F (ok_law_inside F B.txt (Cal.up (c_law_done B) (by decide : 2 ≤ 2)) (len_sp fun _ => rfl) (fun vs H Q E h => pure_linside vs H Q E h)) (B.globs 49 "_law_inside" rfl) (bn_law_inside F)
theorem c_law_leads_right (B : Bed K mg nv av ev) : Cal P w K mg base "_law_leads_right" 69 ["_law_words_so", "_law_one_so", "_law_two_so", "_law_row"] (sp_law_leads_right K) := by
  obtain ⟨fd, F⟩ := fd_law_leads_right B
  exact Cal.mk' F (ok_law_leads_right F B.txt (Cal.up (cthen B) (by decide : 4 ≤ 68)) (Cal.up (cis_inside B) (by decide : 4 ≤ 68)) (Cal.up (cstanding B) (by decide : 5 ≤ 68)) (Cal.up (camid B) (by decide : 67 ≤ 68)) (Cal.up (clead B) (by decide : 68 ≤ 68)) (Cal.up (crest_of B) (by decide : 68 ≤ 68)) (Cal.up (c_law_joined B) (by decide : 3 ≤ 68)) (Cal.up (c_law_behind B) (by decide : 3 ≤ 68)) (Cal.up (c_law_inside B) (by decide : 3 ≤ 68)) (len_sp fun _ => rfl) (fun vs H Q E h => pure_leads_right vs H Q E h)) (B.globs 50 "_law_leads_right" rfl) (bn_law_leads_right F)
theorem c_law_sides_right (B : Bed K mg nv av ev) : Cal P w K mg base "_law_sides_right" 69 ["_law_words_so", "_law_one_so", "_law_two_so", "_law_rows"] (sp_law_sides_right K) := by
  obtain ⟨fd, F⟩ := fd_law_sides_right B
  exact Cal.mk' F (ok_law_sides_right F B.txt (Cal.up (ceither B) (by decide : 5 ≤ 68)) (Cal.up (camid B) (by decide : 67 ≤ 68)) (Cal.up (clead B) (by decide : 68 ≤ 68)) (Cal.up (c_law_done B) (by decide : 2 ≤ 68)) (len_sp fun _ => rfl) (fun vs H Q E h => pure_sides_right vs H Q E h)) (B.globs 51 "_law_sides_right" rfl) (bn_law_sides_right F)
theorem c_law_pairs_right (B : Bed K mg nv av ev) : Cal P w K mg base "_law_pairs_right" 70 ["_law_words_so", "_law_one_so", "_law_two_so"] (sp_law_pairs_right K) := by
  obtain ⟨fd, F⟩ := fd_law_pairs_right B
  exact Cal.mk' F (ok_law_pairs_right F B.txt (Cal.up (cthen B) (by decide : 4 ≤ 69)) (Cal.up (cis_inside B) (by decide : 4 ≤ 69)) (Cal.up (clead B) (by decide : 68 ≤ 69)) (Cal.up (crest_of B) (by decide : 68 ≤ 69)) (Cal.up (cpairs B) (by decide : 69 ≤ 69)) (Cal.up (c_law_joined B) (by decide : 3 ≤ 69)) (Cal.up (c_law_inside B) (by decide : 3 ≤ 69)) (len_sp fun _ => rfl) (fun vs H Q E h => pure_pairs_right vs H Q E h)) (B.globs 52 "_law_pairs_right" rfl) (bn_law_pairs_right F)
theorem c_law_cuts_right (B : Bed K mg nv av ev) : Cal P w K mg base "_law_cuts_right" 71 ["_law_words_so"] (sp_law_cuts_right K) := by
  obtain ⟨fd, F⟩ := fd_law_cuts_right B
  exact Cal.mk' F (ok_law_cuts_right F B.txt (Cal.up (cthen B) (by decide : 4 ≤ 70)) (Cal.up (cstages B) (by decide : 6 ≤ 70)) (Cal.up (cis_split B) (by decide : 6 ≤ 70)) (Cal.up (csplits B) (by decide : 70 ≤ 70)) (len_sp fun _ => rfl) (fun vs H Q E h => pure_cuts_right vs H Q E h)) (B.globs 53 "_law_cuts_right" rfl) (bn_law_cuts_right F)
theorem c_law_by_hand_right (B : Bed K mg nv av ev) : Cal P w K mg base "_law_by_hand_right" 72 [] (sp_law_by_hand_right K) := by
  obtain ⟨fd, F⟩ := fd_law_by_hand_right B
  exact Cal.mk' F (ok_law_by_hand_right F B.txt (Cal.up (cthen B) (by decide : 4 ≤ 71)) (Cal.up (ctimes B) (by decide : 5 ≤ 71)) (Cal.up (cpairs B) (by decide : 69 ≤ 71)) (Cal.up (csplits B) (by decide : 70 ≤ 71)) (Cal.up (c_law_same B) (by decide : 2 ≤ 71)) (Cal.up (c_law_leads_right B) (by decide : 69 ≤ 71)) (Cal.up (c_law_sides_right B) (by decide : 69 ≤ 71)) (Cal.up (c_law_pairs_right B) (by decide : 70 ≤ 71)) (Cal.up (c_law_cuts_right B) (by decide : 71 ≤ 71)) (len_sp fun _ => rfl) (fun vs H Q E h => pure_by_hand vs H Q E h)) (B.globs 54 "_law_by_hand_right" rfl) (bn_law_by_hand_right F)
theorem c_law_right (B : Bed K mg nv av ev) : Cal P w K mg base "_law_right" 73 ["_law_box_here"] (sp_law_right K) := by
  obtain ⟨fd, F⟩ := fd_law_right B
  exact Cal.mk' F (ok_law_right F B.txt (Cal.up (cthen B) (by decide : 4 ≤ 72)) (Cal.up (c_law_take B) (by decide : 1 ≤ 72)) (Cal.up (c_law_names B) (by decide : 3 ≤ 72)) (Cal.up (c_law_every B) (by decide : 1 ≤ 72)) (Cal.up (c_law_event_row B) (by decide : 3 ≤ 72)) (Cal.up (c_law_drawn_base B) (by decide : 5 ≤ 72)) (Cal.up (c_law_leads_right B) (by decide : 69 ≤ 72)) (Cal.up (c_law_sides_right B) (by decide : 69 ≤ 72)) (Cal.up (c_law_pairs_right B) (by decide : 70 ≤ 72)) (Cal.up (c_law_cuts_right B) (by decide : 71 ≤ 72)) (Cal.up (c_law_by_hand_right B) (by decide : 72 ≤ 72)) (len_right) (fun vs H Q E h => pure_right vs H Q E h)) (B.globs 55 "_law_right" rfl) (bn_law_right F)
theorem claw (B : Bed K mg nv av ev) : Cal P w K mg base "law" 74 ["_law_script"] (splaw K) := by
  obtain ⟨fd, F⟩ := fdlaw B
  exact Cal.mk' F (oklaw F B.txt (Cal.up (c_law_box B) (by decide : 1 ≤ 73)) (Cal.up (c_law_cells B) (by decide : 1 ≤ 73)) (Cal.up (c_law_right B) (by decide : 73 ≤ 73)) (len_law) (fun vs H Q E h => pure_law vs H Q E h)) (B.globs 56 "law" rfl) (bnlaw F)
theorem nil_ok {a : Addr} (c : nilB K a = true) (H : Hp) : SqT K H a [] := by
  unfold nilB at c
  cases q : K.lookup a with
  | none => rw [q] at c; cases c
  | some o =>
    obtain ⟨oc, od, dt, osl⟩ := o
    rw [q] at c
    cases oc with
    | type n =>
      cases dt with
      | seq its m =>
        obtain ⟨h1, h2⟩ := He.ba (show (decide (n = "tuple") && decide (its.toList = [])) = true from c)
        have h3 : its.toList = [] := of_decide_eq_true h2
        have hz : its.size = 0 := by rw [← Array.length_toList, h3]; rfl
        exact .inr ⟨_, its, m, q, congrArg Value.type (of_decide_eq_true h1), rfl, by rw [hz]; exact Nat.zero_le _, by rw [h3]; exact .nil⟩
      | _ => cases c
    | _ => cases dt <;> cases c
theorem bed (X : K.In h) (G : h.Ns mainGlobals mg) (c : SaysX K) : Bed K mg (He.ga K "NEVER") (He.ga K "ALWAYS") (alw0 K) := by
  have c1 : He.SaysD fa fn K := congrArg Prod.fst (show (He.obsD fa fn K, xb K) = (He.valD fn, true) from c)
  have c2 : xb K = true := congrArg Prod.snd (show (He.obsD fa fn K, xb K) = (He.valD fn, true) from c)
  obtain ⟨h1, h2⟩ := He.ba (show (He.tupB K "NEVER" [] && (He.tupB K "ALWAYS" [.adr alw0] && nilB K (alw0 K))) = true from c2)
  obtain ⟨h3, h4⟩ := He.ba h2
  have gl : ∀ (i : Nat) (x : Str), fa[i]? = some (He.Fa.glo x) → mg x = some (.ref (He.ga K x)) := fun i x e => He.glo_ok X G (c1.fact i e)
  have fr : ∀ (i : Nat) (x : Str), fa[i]? = some (He.Fa.free x) → mg x = none := fun i x e => He.free_ok X G (c1.fact i e)
  obtain ⟨t, ht⟩ := He.str_ok X G (c1.fact 59 (f := .str "LETTERS" "abcdefghijklmnopqrstuvwxyz") rfl)
  exact ⟨c1, gl, { never := gl 57 "NEVER" rfl, always := gl 58 "ALWAYS" rfl, letters := ⟨_, ht, t, rfl⟩, tnever := fun H => He.tupB_ok h1 H, talways := fun H => He.tupB_ok h3 H, tev := fun H => nil_ok h4 H, b_isinstance := fr 60 "isinstance" rfl, b_len := fr 61 "len" rfl, b_all := fr 62 "all" rfl, b_tuple := fr 63 "tuple" rfl, b_any := fr 64 "any" rfl, b_sorted := fr 65 "sorted" rfl, b_set := fr 66 "set" rfl, b_range := fr 67 "range" rfl, b_zip := fr 68 "zip" rfl, b_abs := fr 69 "abs" rfl, b_int := fr 70 "int" rfl, b_list := fr 71 "list" rfl, b_min := fr 72 "min" rfl, b_enumerate := fr 73 "enumerate" rfl, b_sum := fr 74 "sum" rfl, b_bool := fr 75 "bool" rfl, b_str := fr 76 "str" rfl }⟩
theorem facts {f : Addr} (X : K.In h) (G : h.Ns mainGlobals mg) (hfa : mg ("law" : Str) = some (.ref f)) (c : SaysX K) :
    ∃ fd : FuncData, (∀ (s : Shared) (v : Value), BindsTo s fd ⟨[v], []⟩ [("_law_script", v)]) ∧ ∀ base : Heap, K.In base → base.Ns mainGlobals mg → FnOk P w K mg base CX0 74 f fd ["_law_script"] (splaw K) := by
  have B := bed X G c
  obtain ⟨fd, F⟩ := fdlaw B
  have e := hfa.symm.trans (B.globs 56 "law" rfl)
  cases e
  have b := FunD.bindsA (ps := ["_law_script"]) F fun _ _ _ _ _ _ us hl => match us, hl with | [_], _ => rfl
  exact ⟨fd, fun s v => b s [v] rfl, fun base _ _ => oklaw F B.txt (Cal.up (c_law_box B) (by decide : 1 ≤ 73)) (Cal.up (c_law_cells B) (by decide : 1 ≤ 73)) (Cal.up (c_law_right B) (by decide : 73 ≤ 73)) len_law (fun vs H Q E h => pure_law vs H Q E h)⟩
end
end MoD
set_option maxHeartbeats 8000000
open PySem PySem.W PySem.Calls PyProof.Rows
theorem PySem.Challenge.cw_moredone_k65_whole_leads_stages_and_turn_holds : PySem.Challenge.rw_moredone_k65_whole_leads_stages_and_turn.Holds := by
  w_on; o_law
  refine HandSHeadRun.head_any (r := OpenLaw.row PySem.Challenge.rw_moredone_k65_whole_leads_stages_and_turn) (q := view (OpenLaw.row PySem.Challenge.rw_moredone_k65_whole_leads_stages_and_turn).prog [66]) (H := MoD.hk) (ob := MoD.ob) (M := 3000) (loose := MoD.lo) (d := HandSHeadRun.topDef (OpenLaw.row PySem.Challenge.rw_moredone_k65_whole_leads_stages_and_turn).prog 66) (kwd := []) MoD.ob_eq
    (by kernel_rfl) (fun s => by kernel_rfl) MoD.run (by kernel_rfl) (by kernel_rfl) (by kernel_rfl) (by rfl) (by first | assumption | decide +kernel) (by decide +kernel) ⟨rfl, rfl, rfl, rfl, rfl, by decide +kernel⟩ ?hw ?hc
  case hw => w_witness2
  case hc =>
    refine L2.walk_ofE (l := PySem.Challenge.rw_moredone_k65_whole_leads_stages_and_turn) (n := 63) (k := 74) (x := "_law_script") (CX := L2.CX0) rfl (by decide) (by kernel_rfl) ⟨rfl, by decide, by decide⟩ ?F (fun _ _ _ _ z => z)
    intro w mg fa h Y G hmg0
    obtain ⟨K, KX, c⟩ := Y
    have hmg : mg ("law" : PySem.Str) = some (.ref fa) := by
      have e : (HandSHeadRun.topDef (OpenLaw.row PySem.Challenge.rw_moredone_k65_whole_leads_stages_and_turn).prog 66).name = ("law" : PySem.Str) := by kernel_rfl
      rw [← e]
      exact hmg0
    obtain ⟨fd, hb, hF⟩ := MoD.facts (P := (PySem.Challenge.rw_moredone_k65_whole_leads_stages_and_turn).prog) (w := w) KX G hmg c
    exact ⟨K, fd, MoD.splaw K, KX, hb, fun H a ns hl _ hS => ⟨a, ns, rfl, hS, hl, fun _ => rfl⟩, hF⟩
