import PyProof.Rows.All
import KE.SortData
import HandS.TupSets
import KE.KeyNested
import Wide.All
import OpenK.AllK
import Wide.FinOn
import HandS.Base
import HandS.Call
import HandS.List
import KE.DataEq
import HandS.Dict
import KE.KDictKeyed
import HandS.TupAny
import HandS.Wide
import HandS.IsInst
import HandS.TupLe
import HandS.Iter
import HandS.More
import HandS.Style
import HandS.Text
import HandS.Comp
import HandS.Zip
import HandS.DictComp
import HandS.Small
import HandS.Defaults
import HandS.Ends
import HandS.HeadEnd
import HandS.EndBits
import HandS.AnyAll
import HandS.RaiseMore
import HandS.SetFor
import HandS.Strs
import HandS.Head0
import HandS.Head1
import HandS.Head2
import HandS.HeadHook1
import HandS.HeadHook2
import HandS.HeadHook4
import HandS.Codes
import HandS.Words
import HandS.WordsExc
import KE.KStateDown
import Lean
import PySem.Challenge.RW_nevergoback_k29_cuts_and_kept_tables
section
set_option Elab.async false
set_option linter.all false
set_option maxRecDepth 100000
set_option maxHeartbeats 1000000
/-! Core 13d: tables of any power of two: i -> 5 i + 1 goes round through all slots. -/
namespace NB
open PySem PySem.Spec PyProof.Rows L2

def PowOk (m : Nat) : Prop := ∃ k, 3 ≤ k ∧ k ≤ 13 ∧ m + 1 = 2 ^ k
/-- 1 + 5 + .. + 5 ^ (n - 1) -/
def gs : Nat → Nat
  | 0 => 0
  | n + 1 => 5 * gs n + 1
theorem gs_pow : ∀ n, 5 ^ n = 4 * gs n + 1
  | 0 => rfl
  | n + 1 => by
    rw [Nat.pow_succ, gs_pow n]
    show (4 * gs n + 1) * 5 = 4 * (5 * gs n + 1) + 1
    omega
theorem gs_add (a : Nat) : ∀ d, gs (a + d) = gs d * 5 ^ a + gs a
  | 0 => by show gs a = gs 0 * 5 ^ a + gs a; rw [show gs 0 = 0 from rfl, Nat.zero_mul, Nat.zero_add]
  | d + 1 => by
    have ih := gs_add a d
    show 5 * gs (a + d) + 1 = (5 * gs d + 1) * 5 ^ a + gs a
    rw [ih, Nat.add_mul, Nat.one_mul, Nat.mul_assoc, Nat.mul_add]
    have e := gs_pow a
    generalize gs d * 5 ^ a = x at *
    omega
theorem gs_two (n : Nat) : gs (2 * n) = 2 * (gs n * (2 * gs n + 1)) := by
  rw [Nat.two_mul, gs_add n n, gs_pow n]
  generalize gs n = x
  rw [Nat.mul_add, Nat.mul_one, Nat.mul_add, Nat.mul_one, Nat.mul_add, Nat.mul_left_comm x 4 x, Nat.mul_left_comm x 2 x]
  generalize x * x = y
  omega
theorem gs_odd : ∀ n, gs n % 2 = n % 2
  | 0 => rfl
  | n + 1 => by
    have ih := gs_odd n
    show (5 * gs n + 1) % 2 = (n + 1) % 2
    omega
theorem odd_cop (k x : Nat) : Nat.Coprime (2 ^ k) (2 * x + 1) := by
  refine Nat.Coprime.pow_left k ?_
  have e : (2 * x + 1) % 2 = 1 := by omega
  show Nat.gcd 2 (2 * x + 1) = 1
  rw [Nat.gcd_rec, e]
  decide
theorem gs_dvd : ∀ k n, 2 ^ k ∣ gs n → 2 ^ k ∣ n
  | 0, n, _ => by rw [Nat.pow_zero]; exact Nat.one_dvd n
  | k + 1, n, h => by
    have ho : gs n % 2 = 0 := by
      have h2 : 2 ∣ gs n := Nat.dvd_trans (by rw [Nat.pow_succ]; exact Nat.dvd_mul_left 2 _) h
      omega
    rw [gs_odd] at ho
    obtain ⟨j, rfl⟩ : ∃ j, n = 2 * j := ⟨n / 2, by omega⟩
    rw [gs_two, Nat.pow_succ, Nat.mul_comm (2 ^ k) 2] at h
    have h3 := Nat.dvd_of_mul_dvd_mul_left (by decide) h
    have h4 := (odd_cop k (gs j)).dvd_of_dvd_mul_right h3
    have h5 := gs_dvd k j h4
    rw [Nat.pow_succ, Nat.mul_comm (2 ^ k) 2]
    exact Nat.mul_dvd_mul_left 2 h5
theorem lcg_gs (m : Nat) : ∀ n, lcgN m n = gs n % (m + 1)
  | 0 => by show 0 = 0 % (m + 1); rw [Nat.zero_mod]
  | n + 1 => by
    show (lcgN m n * 5 + 1) % (m + 1) = (5 * gs n + 1) % (m + 1)
    rw [lcg_gs m n, Nat.add_mod, Nat.mod_mul_mod, ← Nat.add_mod, Nat.mul_comm]
theorem gs_dvd2 : ∀ k n, 2 ^ k ∣ n → 2 ^ k ∣ gs n
  | 0, n, _ => by rw [Nat.pow_zero]; exact Nat.one_dvd _
  | k + 1, n, h => by
    obtain ⟨c, rfl⟩ := h
    rw [Nat.pow_succ, Nat.mul_comm (2 ^ k) 2, Nat.mul_assoc, gs_two]
    refine Nat.mul_dvd_mul_left 2 (Nat.dvd_trans (gs_dvd2 k (2 ^ k * c) (Nat.dvd_mul_right _ _)) (Nat.dvd_mul_right _ _))
theorem p_round {m : Nat} (hm : PowOk m) : lcgN m (m + 1) = 0 := by
  obtain ⟨k, _, _, e⟩ := hm
  rw [lcg_gs, e]
  exact Nat.mod_eq_zero_of_dvd (gs_dvd2 k _ (Nat.dvd_refl _))
theorem p_inj {m : Nat} (hm : PowOk m) {a d : Nat} (hd : d ≤ m) (h : lcgN m (a + d) = lcgN m a) : d = 0 := by
  obtain ⟨k, _, _, e⟩ := hm
  rw [lcg_gs, lcg_gs, e, gs_add] at h
  have h1 : 2 ^ k ∣ gs d * 5 ^ a := by
    have q := Nat.sub_mod_eq_zero_of_mod_eq h
    rw [Nat.add_sub_cancel] at q
    exact Nat.dvd_of_mod_eq_zero q
  have c5 : Nat.Coprime (2 ^ k) (5 ^ a) := by
    rw [gs_pow a, show 4 * gs a + 1 = 2 * (2 * gs a) + 1 from by omega]
    exact odd_cop k _
  have h2 := gs_dvd k d (c5.dvd_of_dvd_mul_right h1)
  rcases Nat.eq_zero_or_pos d with z | z
  · exact z
  · have := Nat.le_of_dvd z h2
    omega
theorem p_all {m : Nat} (hm : PowOk m) {j : Nat} (hj : j ≤ m) : ∃ b, b ≤ m ∧ lcgN m b = j := by
  rcases Classical.em (∃ b, b ≤ m ∧ lcgN m b = j) with c | c
  · exact c
  exfalso
  have nd : ((List.range (m + 1)).map (lcgN m)).Nodup := by
    refine List.pairwise_map.mpr (List.Pairwise.imp_of_mem (fun {a b} ha hb hlt e => ?_) List.pairwise_lt_range)
    have hb' := List.mem_range.mp hb
    have q := p_inj hm (a := a) (d := b - a) (by omega) (by rw [show a + (b - a) = b from by omega]; exact e.symm)
    omega
  have q := nat_nodup_len _ ((List.range (m + 1)).erase j) nd fun x hx => by
    obtain ⟨b, hb, rfl⟩ := List.mem_map.mp hx
    have hb' := List.mem_range.mp hb
    have hne : lcgN m b ≠ j := fun e => c ⟨b, by omega, e⟩
    refine (List.mem_erase_of_ne hne).mpr (List.mem_range.mpr ?_)
    rw [lcg_gs]
    exact Nat.mod_lt _ (Nat.succ_pos _)
  rw [List.length_map, List.length_erase_of_mem (List.mem_range.mpr (by omega)), List.length_range] at q
  omega
theorem p_mod {m : Nat} (hm : PowOk m) : ∀ k, lcgN m (m + 1 + k) = lcgN m k
  | 0 => p_round hm
  | k + 1 => congrArg (fun z => (z * 5 + 1) % (m + 1)) (p_mod hm k)
/-- from each slot to each -/
theorem p_meets {m i j : Nat} (hm : PowOk m) (hi : i ≤ m) (hj : j ≤ m) : ∃ n, n ≤ m ∧ lcgI m i n = j := by
  obtain ⟨a, ha, rfl⟩ := p_all hm hi
  obtain ⟨b, hb, rfl⟩ := p_all hm hj
  by_cases c : a ≤ b
  · exact ⟨b - a, by omega, by rw [lcgN_add, show a + (b - a) = b from by omega]⟩
  · exact ⟨b + (m + 1) - a, by omega, by rw [lcgN_add, show a + (b + (m + 1) - a) = m + 1 + b from by omega, p_mod hm]⟩
theorem p_way {m j : Nat} (hm : PowOk m) (h : Int) (hj : j ≤ m) : ∃ k, k < 10 * SetTable.turns m ∧ way m h k = j := by
  obtain ⟨n, hn, e⟩ := p_meets hm (runI_le m (SetTable.bits h) 12) hj
  obtain ⟨k, hk, e2⟩ := run_nth m (SetTable.bits h) (12 + n)
  refine ⟨k, by unfold SetTable.turns; omega, ?_⟩
  show (nth m (runAt m (SetTable.bits h % (m + 1)) (SetTable.bits h)) k).j = j
  rw [e2]
  show runI m (SetTable.bits h) (12 + n) = j
  rw [runI_tail (bits_lt h)]
  exact e
end NB
end
section
set_option Elab.async false
set_option linter.all false
set_option maxRecDepth 100000
set_option maxHeartbeats 1000000
/-! Core 13e: a set's table: searched, put into, laid anew. -/
namespace NB
open PySem PySem.Spec PyProof.Rows L2

theorem p_in (m : Nat) (h : Int) (k : Nat) : way m h k ≤ m := by
  have a : SetTable.bits h % (m + 1) ≤ m := Nat.lt_succ_iff.mp (Nat.mod_lt _ (Nat.succ_pos m))
  have b := (runEnd_bd a).1
  have c := (runEnd_bd a).2.1
  have d := nth_in k (runAt m (SetTable.bits h % (m + 1)) (SetTable.bits h)) (show SetTable.bits h % (m + 1) + (SetTable.runEnd m (SetTable.bits h % (m + 1)) - SetTable.bits h % (m + 1)) ≤ m by omega)
  exact Nat.le_trans (Nat.le_add_right _ _) d
/-- the members' slots are found again from their hashes gs -/
structure TabP (t : SetTable) (gs : List Int) : Prop where
  up : Ris t.place.toList
  none_ : t.dummies = #[]
  many : t.place.size = gs.length
  pow : PowOk t.mask
  inside : ∀ j ∈ t.place.toList, j ≤ t.mask
  found : ∀ (n : Nat) (g : Int) (j : Nat), gs[n]? = some g → t.place.toList[n]? = some j → ∃ k, way t.mask g k = j ∧ ∀ i, i < k → way t.mask g i ∈ t.place.toList
theorem p_odd {m : Nat} (h : PowOk m) : m % 2 = 1 := by
  obtain ⟨k, h1, _, e⟩ := h
  obtain ⟨j, rfl⟩ : ∃ j, k = j + 1 := ⟨k - 1, by omega⟩
  rw [Nat.pow_succ] at e
  omega
theorem TabP.places {t : SetTable} {gs : List Int} (T : TabP t gs) : t.place.toList.length = gs.length := by
  rw [Array.length_toList]; exact T.many
theorem TabP.gap {t : SetTable} {gs : List Int} (T : TabP t gs) (hl : gs.length ≤ t.mask) (g : Int) : ∃ K, K < 10 * SetTable.turns t.mask ∧ way t.mask g K ∉ t.place.toList ∧ ∀ i, i < K → way t.mask g i ∈ t.place.toList := by
  obtain ⟨j, h1, h2⟩ := st_missing t.place.toList (t.mask + 1) (by rw [T.places]; omega)
  obtain ⟨k, h3, h4⟩ := p_way T.pow g (Nat.lt_succ_iff.mp h1)
  obtain ⟨K, q1, q2, q3⟩ := st_least (p := fun i => way t.mask g i ∉ t.place.toList) k (h4 ▸ h2)
  exact ⟨K, by omega, q2, fun i hi => Classical.not_not.mp (q3 i hi)⟩
theorem TabP.early {t : SetTable} {gs : List Int} (T : TabP t gs) {g : Int} {K n j : Nat} (hK : way t.mask g K ∉ t.place.toList) (h1 : gs[n]? = some g) (h2 : t.place.toList[n]? = some j) : ∃ i, i < K ∧ way t.mask g i = j := by
  obtain ⟨i, e, b⟩ := T.found n g j h1 h2
  refine ⟨i, ?_, e⟩
  by_cases c : i < K
  · exact c
  · exfalso
    by_cases d : i = K
    · exact hK (by rw [← d, e]; exact List.mem_of_getElem? h2)
    · exact hK (b K (by omega))
theorem TabP.putIn {t : SetTable} {gs : List Int} (T : TabP t gs) {g : Int} {K : Nat} (hK : way t.mask g K ∉ t.place.toList) (hb : ∀ i, i < K → way t.mask g i ∈ t.place.toList) {p : Nat} (ep : p = SetTable.below t.place (way t.mask g K)) :
    p ≤ gs.length ∧ TabP (t.put (way t.mask g K)).1 (gs.take p ++ g :: gs.drop p) ∧ (t.put (way t.mask g K)).1.fill = gs.length + 1 := by
  have hm := p_in t.mask g K
  generalize ew : way t.mask g K = w at hK hm ep ⊢
  have cut := (below_cut T.up w).1
  rw [← ep] at cut
  have pp : (t.put w).1.place.toList = t.place.toList.take p ++ w :: t.place.toList.drop p := by rw [put_place, ← ep]
  have l1 : p ≤ t.place.toList.length := by rw [Array.length_toList]; exact cut
  have l2 : p ≤ gs.length := by rw [← T.many]; exact cut
  have sz : (t.put w).1.place.size = gs.length + 1 := by
    have := congrArg List.length pp
    rw [len_ins _ l1, T.places, Array.length_toList] at this
    exact this
  have old : ∀ x ∈ t.place.toList, x ∈ (t.put w).1.place.toList := fun x hx => by rw [pp]; exact mem_ins.mpr (Or.inr hx)
  refine ⟨l2, ?_, ?_⟩
  · constructor
    · refine ris_insert T.up fun e => hK (List.mem_of_getElem? (i := SetTable.below t.place w) ?_)
      rw [Array.getElem?_toList]; exact e
    · exact put_dm T.none_ w
    · rw [sz, len_ins _ l2]
    · exact T.pow
    · intro x hx
      rw [pp] at hx
      rcases mem_ins.mp hx with rfl | hx
      · exact hm
      · exact T.inside x hx
    · intro n g' j h1 h2
      show ∃ k, way t.mask g' k = j ∧ ∀ i, i < k → way t.mask g' i ∈ (t.put w).1.place.toList
      rw [tins_get gs l2] at h1
      rw [pp, tins_get _ l1] at h2
      by_cases c1 : n < p
      · rw [if_pos c1] at h1 h2
        obtain ⟨k, e, b⟩ := T.found n g' j h1 h2
        exact ⟨k, e, fun i hi => old _ (b i hi)⟩
      · rw [if_neg c1] at h1 h2
        by_cases c2 : n = p
        · rw [if_pos c2] at h1 h2
          cases h1
          cases h2
          exact ⟨K, ew, fun i hi => old _ (hb i hi)⟩
        · rw [if_neg c2] at h1 h2
          obtain ⟨k, e, b⟩ := T.found (n - 1) g' j h1 h2
          exact ⟨k, e, fun i hi => old _ (b i hi)⟩
  · show (t.put w).1.place.size + (t.put w).1.dummies.size = _
    rw [sz, put_dm T.none_ w]
    rfl
theorem p_free {m j : Nat} (hm : PowOk m) (ow : Array (Option Nat)) (g : Int) (hj : j ≤ m) (hf : oAt ow j = none) :
    ∃ K, SetTable.layClean.free m ow (SetTable.turns m) (SetTable.bits g % (m + 1)) (SetTable.bits g) = some (way m g K) ∧ oAt ow (way m g K) = none ∧ ∀ i, i < K → oAt ow (way m g i) ≠ none := by
  obtain ⟨n, hn, e⟩ := p_meets hm (runI_le m (SetTable.bits g) 12) hj
  have hw : way m g (off m (SetTable.bits g % (m + 1)) (SetTable.bits g) (12 + n)) = j := by
    unfold way
    rw [nth_off, itL_run]
    show runI m (SetTable.bits g) (12 + n) = j
    rw [runI_tail (bits_lt g), e]
  obtain ⟨K, q1, q2, q3⟩ := st_least (p := fun i => oAt ow (way m g i) = none) _ (show oAt ow (way m g (off m (SetTable.bits g % (m + 1)) (SetTable.bits g) (12 + n))) = none by rw [hw]; exact hf)
  refine ⟨K, free_spec m ow _ (12 + n) _ _ K (by unfold SetTable.turns; omega) q1 (fun i hi => ?_) (by show (oAt ow (way m g K)).isNone = true; rw [q2]; rfl), q2, q3⟩
  have := q3 i hi
  show (oAt ow (way m g i)).isNone = false
  cases z : oAt ow (way m g i) with
  | none => exact absurd z this
  | some _ => rfl
theorem p_own {m : Nat} (hm : PowOk m) {gs : List Int} {ow : Array (Option Nat)} (W : Own m gs ow) (hl : gs.length ≤ m) (g : Int) :
    ∃ j, SetTable.layClean.free m ow (SetTable.turns m) (SetTable.bits g % (m + 1)) (SetTable.bits g) = some j ∧ Own m (gs ++ [g]) (ow.setIfInBounds j (some gs.length)) := by
  obtain ⟨ps, lps, hps⟩ := W.ps
  obtain ⟨i, hi, hni⟩ := st_missing ps (m + 1) (by omega)
  have hi' : i ≤ m := Nat.lt_succ_iff.mp hi
  have hf : oAt ow i = none := Classical.byContradiction fun z => hni (hps i hi' z)
  obtain ⟨K, f1, f2, f3⟩ := p_free hm ow g hi' hf
  have hw := p_in m g K
  refine ⟨_, f1, ?_⟩
  generalize ew : way m g K = w at f2 hw
  have hws : w < ow.size := by rw [W.sz]; omega
  have new := oAt_set_self (owner := ow) (some gs.length) hws
  have keep : ∀ x, oAt ow x ≠ none → oAt (ow.setIfInBounds w (some gs.length)) x ≠ none := fun x hx => by
    by_cases c : x = w
    · subst c; rw [new]; simp
    · rw [oAt_set_ne _ c]; exact hx
  constructor
  · rw [Array.size_setIfInBounds, W.sz]
  · intro j k hj e
    by_cases c : j = w
    · subst c
      rw [new] at e
      cases e
      exact ⟨g, K, by simp, ew, fun x hx => keep _ (f3 x hx)⟩
    · rw [oAt_set_ne _ c] at e
      obtain ⟨h', K', b1, b2, b3⟩ := W.at_ j k hj e
      exact ⟨h', K', by rw [List.getElem?_append_left (List.getElem?_eq_some_iff.mp b1).1]; exact b1, b2, fun x hx => keep _ (b3 x hx)⟩
  · intro k hk
    by_cases c : k < gs.length
    · obtain ⟨j, b1, b2⟩ := W.all k c
      have hne : j ≠ w := fun z => by rw [z, f2] at b2; cases b2
      exact ⟨j, b1, by rw [oAt_set_ne _ hne]; exact b2⟩
    · have : k = gs.length := by simp at hk; omega
      subst this
      exact ⟨w, hw, new⟩
  · refine ⟨w :: ps, by simp [lps], fun j hj e => ?_⟩
    by_cases c : j = w
    · rw [c]; simp
    · rw [oAt_set_ne _ c] at e
      exact List.mem_cons_of_mem _ (hps j hj e)
theorem p_fold {m : Nat} (hm : PowOk m) : ∀ (rs gs : List Int) (ow : Array (Option Nat)), Own m gs ow → gs.length + rs.length ≤ m →
    ∃ ow', rs.foldl (stepF m) (some (ow, gs.length)) = some (ow', (gs ++ rs).length) ∧ Own m (gs ++ rs) ow'
  | [], gs, ow, W, _ => ⟨ow, by simp, by simpa using W⟩
  | r :: rs, gs, ow, W, hl => by
    simp only [List.length_cons] at hl
    obtain ⟨j, e, W1⟩ := p_own hm W (by omega) r
    obtain ⟨ow', e2, W2⟩ := p_fold hm rs (gs ++ [r]) _ W1 (by simp; omega)
    refine ⟨ow', ?_, by simpa using W2⟩
    have e3 : (gs ++ [r]).length = gs.length + 1 := by simp
    rw [e3] at e2
    rw [List.foldl_cons, stepF_some e, e2]
    simp
theorem p_lay {m : Nat} (hm : PowOk m) {gs : Array Int} (hn : gs.size ≤ m) : ∃ ow, SetTable.layClean m gs = some ow ∧ Own m gs.toList ow := by
  obtain ⟨ow, e, W⟩ := p_fold hm gs.toList [] _ (Own.init m) (by simpa using hn)
  refine ⟨ow, ?_, by simpa using W⟩
  rw [layClean_eq, show (some (Array.replicate (m + 1) (none : Option Nat), 0)) = some (Array.replicate (m + 1) none, ([] : List Int).length) from rfl, e]
  rfl
theorem p_relaid (t : SetTable) {gs : Array Int} {wanted M : Nat} (hw : SetTable.sizeAbove wanted - 1 = M) (hM : PowOk M) (hn : gs.size ≤ M) :
    ∃ t' order, t.relaid gs wanted = some (t', order) ∧ order.toList.Perm (List.range gs.size) ∧ TabP t' (order.toList.map fun i => gs.getD i 0) ∧ t'.mask = M ∧ t'.led = t.led ∧ t'.plain = t.plain ∧ t'.dummies = #[] := by
  obtain ⟨ow, e, W⟩ := p_lay hM hn
  have ris := ris_live (fun j => ow.getD j none) (List.range (M + 1)) (by
    unfold Ris
    exact List.pairwise_lt_range)
  have rr : Ris ((liveOf M ow).map (·.1)) := ris.1
  have nd : ((liveOf M ow).map (·.1)).Nodup := List.Pairwise.imp (fun h => Nat.ne_of_lt h) rr
  have len : (liveOf M ow).length = gs.size := by
    obtain ⟨ps, l1, l2⟩ := W.ps
    have up := nat_nodup_len _ ps nd fun x hx => by
      obtain ⟨⟨y, k⟩, hq, rfl⟩ := List.mem_map.mp hx
      obtain ⟨b1, b2⟩ := (mem_live W.sz).mp hq
      exact l2 y b1 (by rw [b2]; simp)
    have down := nat_nodup_len (List.range gs.size) ((liveOf M ow).map (·.2)) List.nodup_range fun k hk => by
      obtain ⟨j, b1, b2⟩ := W.all k (by simpa using hk)
      exact List.mem_map.mpr ⟨(j, k), (mem_live W.sz).mpr ⟨b1, b2⟩, rfl⟩
    simp only [List.length_map, List.length_range, Array.length_toList] at up down l1
    omega
  refine ⟨tabOf t M ow, ((liveOf M ow).map (·.2)).toArray, ?_, ?_, ?_, rfl, rfl, rfl, rfl⟩
  · rw [relaid_eq, hw, e]; rfl
  · refine perm_range _ _ (by simp [len]) fun k hk => ?_
    obtain ⟨j, b1, b2⟩ := W.all k (by simpa using hk)
    exact List.mem_map.mpr ⟨(j, k), (mem_live W.sz).mpr ⟨b1, b2⟩, rfl⟩
  · constructor
    · exact rr
    · rfl
    · show ((liveOf M ow).map (·.1)).toArray.size = _
      simp
    · exact hM
    · intro x hx
      have := ris.2 x hx
      exact Nat.lt_succ_iff.mp (List.mem_range.mp this)
    · intro n g j h1 h2
      have h1' : (((liveOf M ow).map (·.2)).map fun i => gs.getD i 0)[n]? = some g := h1
      have h2' : ((liveOf M ow).map (·.1))[n]? = some j := h2
      rw [List.getElem?_map] at h2'
      obtain ⟨⟨y, k⟩, hq, ey⟩ := Option.map_eq_some_iff.mp h2'
      have ey' : y = j := ey
      subst ey'
      rw [List.getElem?_map, List.getElem?_map, hq] at h1'
      have eg : gs.getD k 0 = g := Option.some.inj h1'
      obtain ⟨b1, b2⟩ := (mem_live W.sz).mp (List.mem_of_getElem? hq)
      obtain ⟨g0, K, c1, c2, c3⟩ := W.at_ y k b1 b2
      have e0 : g0 = g := by
        rw [← eg, Array.getD_eq_getD_getElem?, ← Array.getElem?_toList, c1]; rfl
      subst e0
      refine ⟨K, c2, fun i hi => ?_⟩
      show way M g0 i ∈ (liveOf M ow).map (·.1)
      cases z : oAt ow (way M g0 i) with
      | none => exact absurd z (c3 i hi)
      | some k2 => exact List.mem_map.mpr ⟨(way M g0 i, k2), (mem_live W.sz).mpr ⟨p_in M g0 i, z⟩, rfl⟩
end NB
end
section
set_option Elab.async false
set_option linter.all false
set_option maxRecDepth 100000
set_option maxHeartbeats 1000000
/-! Core 13f: small questions that a set asks of its keys (tuples of numbers and tuples, nested). -/
namespace NB
open PySem PySem.Spec PyProof.Rows L2

mutual
/-- no text within -/
def nTxt : NestedKey → Bool
  | .none => true
  | .num _ => true
  | .text _ => false
  | .tup ks => nTxts ks
def nTxts : List NestedKey → Bool
  | [] => true
  | k :: ks => nTxt k && nTxts ks
end
section
variable {P : Program} {w : World}
/-- a yes-no question about a value that is answered with b, at no cost -/
def Says (P : Program) (w : World) (s : Shared) (m : Sem Bool) (b : Bool) : Prop := ∀ (A : Around) (E : Value → Shared → Prop) (Q : Bool → Shared → Prop), Q b s → wpAny (model P w) A m Q E s
theorem Says.pure {s : Shared} {m : Sem Bool} {b : Bool} (e : m = pure b) : Says P w s m b := fun A E Q h => by rw [e]; exact wpAny_pure h
theorem cls_tup {n : Nat} {s : Shared} {a : Addr} {o : Obj} {vs : Array Value} {q : Nat} (ho : s.heap.get? a = some o) (hc : o.cls = .type "tuple") (hd : o.data = .seq vs q) (each : ∀ v ∈ vs.toList, Says P w s (ofAClassStatement n v) false) : Says P w s (ofAClassStatement (n + 1) (.ref a)) false := fun A E Q h => by
  have ty : s.TypeIs (.ref a) "tuple" := ⟨o, ho, hc⟩
  unfold ofAClassStatement
  refine wpAny_bind (wpAny_typeOf ty ?_)
  dsimp only
  have e : (("tuple" : String) == "tuple") = true := by decide
  simp only [e, if_true, Bool.not_true, Bool.false_eq_true, if_false]
  try refine wpAny_bind (wpAny_pure ?_)
  try simp only [Bool.not_true, Bool.false_eq_true, if_false]
  show wpAny _ A (seqItems? (.ref a) >>= _) _ E s
  refine wpAny_bind (wpAny_seqItems ho hd ?_)
  dsimp only
  refine wpAny_bind ?_
  show wpAny _ A (forIn vs _ _) _ E s
  rw [← Array.forIn_toList]
  refine wpAny_forIn_list _ (fun todo r s' => r.1 = none ∧ s' = s ∧ ∀ v ∈ todo, Says P w s (ofAClassStatement n v) false) _ ?_ ?_ _ _ ⟨rfl, rfl, each⟩
  · rintro v todo r s' ⟨hr, rfl, rest⟩
    refine wpAny_bind (rest v List.mem_cons_self _ _ _ ?_)
    simp only [Bool.false_eq_true, if_false]
    exact wpAny_pure ⟨rfl, rfl, fun u hu => rest u (List.mem_cons_of_mem _ hu)⟩
  · rintro ⟨r1, r2⟩ s' ⟨hr, rfl, _⟩
    simp only at hr
    subst hr
    exact wpAny_pure h
theorem byv_tup {n : Nat} {s : Shared} {a : Addr} {o : Obj} {vs : Array Value} {q : Nat} (ho : s.heap.get? a = some o) (hc : o.cls = .type "tuple") (hd : o.data = .seq vs q) (each : ∀ v ∈ vs.toList, Says P w s (hashByValue n v) true) : Says P w s (hashByValue (n + 1) (.ref a)) true := fun A E Q h => by
  have ty : s.TypeIs (.ref a) "tuple" := ⟨o, ho, hc⟩
  unfold hashByValue
  refine wpAny_bind (wpAny_specialOf ty F.slot_tuple_hash.lookup ?_)
  show wpAny _ A (seqItems? (.ref a) >>= _) _ E s
  refine wpAny_bind (wpAny_seqItems ho hd ?_)
  refine wpAny_bind ?_
  show wpAny _ A (forIn vs _ _) _ E s
  rw [← Array.forIn_toList]
  refine wpAny_forIn_list _ (fun todo r s' => r.1 = none ∧ s' = s ∧ ∀ v ∈ todo, Says P w s (hashByValue n v) true) _ ?_ ?_ _ _ ⟨rfl, rfl, each⟩
  · rintro v todo r s' ⟨hr, rfl, rest⟩
    refine wpAny_bind (rest v List.mem_cons_self _ _ _ ?_)
    simp only [Bool.not_true, Bool.false_eq_true, if_false]
    exact wpAny_pure ⟨rfl, rfl, fun u hu => rest u (List.mem_cons_of_mem _ hu)⟩
  · rintro ⟨r1, r2⟩ s' ⟨hr, rfl, _⟩
    simp only at hr
    subst hr
    exact wpAny_pure h
mutual
theorem cls_key : ∀ (k : NestedKey) (v : Value) (n : Nat) (s : Shared), NestedIs s.heap k v → k.depth ≤ n → Says P w s (ofAClassStatement n v) false
  | .none, _, n, s, x, _ => by cases x; exact .pure (by cases n <;> rfl)
  | .num i, _, n, s, x, _ => by cases x <;> exact .pure (by cases n <;> rfl)
  | .text y, _, n, s, x, _ => by cases x; exact .pure (by cases n <;> rfl)
  | .tup ks, _, 0, s, x, hn => by simp only [NestedKey.depth] at hn; omega
  | .tup ks, _, n + 1, s, x, hn => by
    simp only [NestedKey.depth] at hn
    cases x with
    | tup hg hc hd hk => exact cls_tup hg hc hd (cls_keys ks _ n s hk (by omega))
theorem cls_keys : ∀ (ks : List NestedKey) (vs : List Value) (n : Nat) (s : Shared), NestedAll s.heap ks vs → NestedKey.depthAll ks ≤ n → ∀ v ∈ vs, Says P w s (ofAClassStatement n v) false
  | [], _, n, s, x, _, v, hv => by cases x; cases hv
  | k :: ks, _, n, s, x, hn, v, hv => by
    simp only [NestedKey.depthAll] at hn
    cases x with
    | cons x1 x2 =>
      rcases List.mem_cons.mp hv with rfl | hv
      · exact cls_key k _ n s x1 (by omega)
      · exact cls_keys ks _ n s x2 (by omega) v hv
end
mutual
theorem byv_key : ∀ (k : NestedKey) (v : Value) (n : Nat) (s : Shared), NestedIs s.heap k v → k.depth ≤ n → nTxt k = true → Says P w s (hashByValue n v) true
  | .none, _, n, s, x, _, _ => by cases x; exact .pure (by cases n <;> rfl)
  | .num i, _, n, s, x, _, _ => by cases x <;> exact .pure (by cases n <;> rfl)
  | .text y, _, n, s, x, _, t => by simp [nTxt] at t
  | .tup ks, _, 0, s, x, hn, _ => by simp only [NestedKey.depth] at hn; omega
  | .tup ks, _, n + 1, s, x, hn, t => by
    simp only [NestedKey.depth] at hn
    simp only [nTxt] at t
    cases x with
    | tup hg hc hd hk => exact byv_tup hg hc hd (byv_keys ks _ n s hk (by omega) t)
theorem byv_keys : ∀ (ks : List NestedKey) (vs : List Value) (n : Nat) (s : Shared), NestedAll s.heap ks vs → NestedKey.depthAll ks ≤ n → nTxts ks = true → ∀ v ∈ vs, Says P w s (hashByValue n v) true
  | [], _, n, s, x, _, _, v, hv => by cases x; cases hv
  | k :: ks, _, n, s, x, hn, t, v, hv => by
    simp only [NestedKey.depthAll] at hn
    simp only [nTxts, Bool.and_eq_true] at t
    cases x with
    | cons x1 x2 =>
      rcases List.mem_cons.mp hv with rfl | hv
      · exact byv_key k _ n s x1 (by omega) t.1
      · exact byv_keys ks _ n s x2 (by omega) t.2 v hv
end
/-- the tuple at a is the key k -/
def NK (h : Heap) (k : NestedKey) (a : Addr) : Prop := NestedIs h k (.ref a) ∧ k.depth ≤ 8 ∧ nTxt k = true
theorem NK.kind {h : Heap} {k : NestedKey} {a : Addr} (x : NK h k a) : (nestedKind P w).is h k a := ⟨x.1, x.2.1⟩
theorem seen_nk {s : Shared} {k : NestedKey} {a : Addr} (x : NK s.heap k a) {ys : List Value} (hy : ∀ y ∈ ys, ∃ j b, y = Value.ref b ∧ NK s.heap j b) : Says P w s (searchCouldBeSeen (.ref a) ys) false := fun A E Q h => by
  unfold searchCouldBeSeen
  refine wpAny_bind ?_
  refine wpAny_forIn_list _ (fun todo r s' => r.1 = none ∧ s' = s ∧ ∀ y ∈ todo, ∃ j b, y = Value.ref b ∧ NK s.heap j b) _ ?_ ?_ _ _ ⟨rfl, rfl, hy⟩
  · rintro v todo r s' ⟨hr, rfl, rest⟩
    obtain ⟨j, b, rfl, y⟩ := rest v List.mem_cons_self
    have go : ∀ u ∈ todo, ∃ j b, u = Value.ref b ∧ NK s'.heap j b := fun u hu => rest u (List.mem_cons_of_mem _ hu)
    dsimp only
    by_cases c : (a == b || (carriedByValue (.ref a) && carriedByValue (.ref b))) = true
    · exact wp_if_pos c (wpAny_pure ⟨rfl, rfl, go⟩)
    · refine wp_if_neg c ?_
      refine wpAny_bind (quiet_key k _ 8 s' x.1 x.2.1 _ _ _ ?_)
      simp only [Bool.not_true, Bool.false_eq_true, if_false]
      refine wpAny_bind (quiet_key j _ 8 s' y.1 y.2.1 _ _ _ ?_)
      simp only [Bool.not_true, Bool.false_eq_true, if_false]
      refine wpAny_bind (cls_key k _ 8 s' x.1 x.2.1 _ _ _ ?_)
      simp only [Bool.false_eq_true, if_false]
      refine wpAny_bind (cls_key j _ 8 s' y.1 y.2.1 _ _ _ ?_)
      simp only [Bool.false_eq_true, if_false]
      exact wpAny_pure ⟨rfl, rfl, go⟩
  · rintro ⟨r1, r2⟩ s' ⟨hr, rfl, _⟩
    simp only at hr
    subst hr
    exact wpAny_pure h
end
end NB
end
section
set_option Elab.async false
set_option linter.all false
set_option maxRecDepth 100000
set_option maxHeartbeats 1000000
/-! Core 13g: sets of nested keys: the search. -/
namespace NB
open PySem PySem.Spec PyProof.Rows L2

/-- the set's rows: a key's hash and its object -/
def rowsK (w : World) (L : List (NestedKey × Addr)) : List (Int × Value) := L.map fun p => (p.1.hash w, Value.ref p.2)
def hashK (w : World) (L : List (NestedKey × Addr)) : List Int := L.map fun p => p.1.hash w
/-- at a there is a set with the rows L -/
structure SetK (w : World) (h : Heap) (a : Addr) (L : List (NestedKey × Addr)) (es : Array (Int × Value)) (ep : Nat) (t : SetTable) : Prop where
  obj : ∃ o, h.get? a = some o ∧ o.ExactSet ∧ o.data = .set es ep t
  rows : es.toList = rowsK w L
  tab : TabP t (hashK w L)
  nodup : (L.map (·.1)).Nodup
  keys : ∀ p ∈ L, NK h p.1 p.2
  plain : t.plain = true
  led : w.params.followText "set-order" = true ∨ t.led = true
  room : L.length * 5 < t.mask * 3
section
variable {P : Program} {w : World} {A : Around} {E : Value → Shared → Prop} {s : Shared} {a : Addr} {L : List (NestedKey × Addr)} {es : Array (Int × Value)} {ep : Nat} {t : SetTable}
theorem SetK.size {h : Heap} (R : SetK w h a L es ep t) : es.size = L.length := by
  have q := congrArg List.length R.rows
  simpa [rowsK] using q
theorem SetK.places {h : Heap} (R : SetK w h a L es ep t) : t.place.size = L.length := by
  have q := R.tab.many
  simpa [hashK] using q
theorem SetK.fits {h : Heap} (R : SetK w h a L es ep t) : t.fits es.size = true := by
  have h1 := R.places
  have h2 := R.size
  have h3 := R.room
  unfold SetTable.fits SetTable.fill
  rw [R.tab.none_, Bool.and_eq_true, beq_iff_eq, decide_eq_true_eq]
  show t.place.size = es.size ∧ t.place.size + 0 ≤ t.mask
  omega
theorem SetK.entry {h : Heap} (R : SetK w h a L es ep t) {i : Nat} {p : NestedKey × Addr} (e : L[i]? = some p) : es[i]? = some (p.1.hash w, Value.ref p.2) := by
  rw [← Array.getElem?_toList, R.rows]
  unfold rowsK
  rw [List.getElem?_map, e]
  rfl
theorem SetK.still {h : Heap} (R : SetK w h a L es ep t) : ¬ t.gaveWay = true := by
  unfold SetTable.gaveWay
  rw [p_odd R.tab.pow]
  decide
theorem way_no_dummy (m : Nat) (g : Int) : ∀ k, (nth m (runAt m (SetTable.bits g % (m + 1)) (SetTable.bits g)) k).dummy = none := by
  have step : ∀ (k : Nat) (p : SetTable.Probe), p.dummy = none → (nth m p k).dummy = none := by
    intro k
    induction k with
    | zero => exact fun p e => e
    | succ k ih =>
      intro p e
      refine ih _ ?_
      unfold adv
      split <;> exact e
  exact fun k => step k _ rfl
/-- where a search stands at its c-th step -/
abbrev stand (m : Nat) (g : Int) (c : Nat) : SetTable.Probe := nth m (runAt m (SetTable.bits g % (m + 1)) (SetTable.bits g)) c
theorem stand_add (m : Nat) (g : Int) (c q : Nat) : nth m (stand m g c) q = stand m g (c + q) := (nth_add m c _ q).symm
theorem search_k (R : SetK w s.heap a L es ep t) {k : NestedKey} {x : Addr} (hx : NK s.heap k x) (hu : A.units + 8 < cLine) {g : Int} (eg : g = k.hash w) {K : Nat} (hf : K < 10 * SetTable.turns t.mask) (hK : way t.mask g K ∉ t.place.toList) (hb : ∀ c, c < K → way t.mask g c ∈ t.place.toList) {add : Bool} {Q : SetFound → Shared → Prop}
    (yes : ∀ i : Option Nat, (add = true ∨ i.isSome = true) → k ∈ L.map (·.1) → Q (.there i) s) (no : k ∉ L.map (·.1) → Q (.free (way t.mask g K) false) s) :
    ∀ (f c : Nat) (st : Option SetTable.Probe), st.getD (t.probeStart g) = stand t.mask g c → c ≤ K → K - c < f → (∀ (i : Nat) (p : NestedKey × Addr), L[i]? = some p → p.1 = k → ∃ d, c ≤ d ∧ d < K ∧ t.place.toList[i]? = some (way t.mask g d)) →
      wpAny (model P w) A (setSearchFrom a (.ref x) g add f st) Q E s
  | 0, c, st, _, _, q, _ => absurd q (Nat.not_lt_zero _)
  | f + 1, c, st, hst, hc, hf2, ahead => by
    obtain ⟨o, ho, hex, hd⟩ := R.obj
    rw [setSearchFrom_succ]
    refine wpAny_bind (wpAny_setState_of ho hd R.fits ?_)
    dsimp only
    refine wp_if_neg R.still ?_
    try refine wpAny_bind (wpAny_pure ?_)
    have wy : ∀ q, (nth t.mask (stand t.mask g c) q).j = way t.mask g (c + q) := fun q => congrArg SetTable.Probe.j (stand_add t.mask g c q)
    have spec := go_spec t R.tab.up R.tab.none_ (fun i => (es[i]?.map (·.1)).getD 0) g (10 * SetTable.turns t.mask) (K - c) (stand t.mask g c) (way_no_dummy _ _ _) (by omega)
      (fun q hq => by rw [wy]; exact hb (c + q) (by omega)) (by rw [wy, show c + (K - c) = K from by omega]; exact hK)
    have hsh : ∀ (i : Nat) (p : NestedKey × Addr), L[i]? = some p → (fun i => (es[i]?.map (·.1)).getD 0) i = p.1.hash w := fun i p e => by
      show (es[i]?.map (·.1)).getD 0 = _
      rw [R.entry e]
      rfl
    rcases spec with ⟨q, i, hq, hi, hh, before, pr⟩ | ⟨before, pr⟩
    · have pr' : t.probe (fun i => (es[i]?.map (·.1)).getD 0) g (st.getD (t.probeStart g)) = some (.candidate (way t.mask g (c + q)) i (stand t.mask g (c + (q + 1)))) := by
        rw [hst, ← wy, ← stand_add]
        exact pr
      rw [pr']
      dsimp only
      rw [wy] at hi
      have hil : i < L.length := by
        have := (List.getElem?_eq_some_iff.mp hi).1
        rw [Array.length_toList, R.places] at this
        exact this
      obtain ⟨p, hp⟩ : ∃ p, L[i]? = some p := ⟨_, List.getElem?_eq_getElem hil⟩
      have pm := List.mem_of_getElem? hp
      have pk := R.keys p pm
      have live := slot_live R.tab.up hi
      have go : wpAny (model P w) A (searchRest a (.ref x) g add f es t (way t.mask g (c + q)) i (stand t.mask g (c + (q + 1)))) Q E s := by
        unfold searchRest
        rw [R.entry hp]
        dsimp only
        refine wpAny_bind (wpAny_holding ((nestedKind P w).eqBool hu pk.kind hx.kind ?_))
        refine wpAny_bind (wpAny_setState_of ho hd R.fits ?_)
        dsimp only
        by_cases hkk : p.1 = k
        · have inn : k ∈ L.map (·.1) := List.mem_map.mpr ⟨p, pm, hkk⟩
          cases add with
          | true =>
            refine wp_if_pos (by simp [hkk]) ?_
            exact wpAny_pure (yes none (.inl rfl) inn)
          | false =>
            refine wp_if_neg (by simp) ?_
            try refine wpAny_bind (wpAny_pure ?_)
            rw [sameMem]
            dsimp only
            simp only [if_true, live, R.entry hp]
            refine wpAny_bind (wpAny_isSame_ref_self (wpAny_bind (wpAny_pure ?_)))
            simp only [if_true]
            refine wp_if_pos (by simp [hkk]) ?_
            exact wpAny_pure (yes (some i) (.inr rfl) inn)
        · refine wp_if_neg (by simp [hkk]) ?_
          try refine wpAny_bind (wpAny_pure ?_)
          rw [sameMem]
          dsimp only
          simp only [if_true, live, R.entry hp]
          refine wpAny_bind (wpAny_isSame_ref_self (wpAny_bind (wpAny_pure ?_)))
          simp only [if_true]
          refine wp_if_neg (by simp [hkk]) ?_
          refine search_k R hx hu eg hf hK hb yes no f (c + (q + 1)) _ rfl (by omega) (by omega) fun i0 p0 h0 k0 => ?_
          obtain ⟨d, d1, d2, d3⟩ := ahead i0 p0 h0 k0
          refine ⟨d, Classical.byContradiction fun small => ?_, d2, d3⟩
          by_cases eq : d = c + q
          · rw [eq] at d3
            have l2 := slot_live R.tab.up d3
            rw [live] at l2
            injection l2 with l2
            rw [← l2, hp] at h0
            cases h0
            exact hkk k0
          · refine before (d - c) i0 (by omega) (by rw [wy, show c + (d - c) = d from by omega]; exact d3) ?_
            exact (hsh i0 p0 h0).trans (by rw [k0, eg])
      by_cases hl : t.led = true
      · refine wp_if_neg (by simp [hl]) ?_
        try refine wpAny_bind (wpAny_pure ?_)
        exact go
      · refine wp_if_pos (by simp [hl]) ?_
        refine wpAny_bind (seen_nk hx (fun y hy => ?_) _ _ _ ?_)
        · obtain ⟨e, he, ee⟩ := List.mem_map.mp hy
          have he1 : e ∈ es ∧ e.1 = g := by simpa using he
          have he2 : e ∈ es.toList := by simpa using he1.1
          rw [R.rows] at he2
          obtain ⟨p2, hp2, e2⟩ := List.mem_map.mp he2
          exact ⟨p2.1, p2.2, by rw [← ee, ← e2], R.keys p2 hp2⟩
        · refine wp_if_neg (by decide) ?_
          try refine wpAny_bind (wpAny_pure ?_)
          exact go
    · have pr' : t.probe (fun i => (es[i]?.map (·.1)).getD 0) g (st.getD (t.probeStart g)) = some (.empty (way t.mask g K) none) := by
        have e2 : way t.mask g K = (nth t.mask (stand t.mask g c) (K - c)).j := by rw [wy, show c + (K - c) = K from by omega]
        rw [hst, e2]
        exact pr
      rw [pr']
      dsimp only
      refine wpAny_pure (no fun inn => ?_)
      obtain ⟨p0, m0, k0⟩ := List.mem_map.mp inn
      obtain ⟨i0, hi0, e0⟩ := List.getElem_of_mem m0
      have h0 : L[i0]? = some p0 := by rw [List.getElem?_eq_getElem hi0, e0]
      obtain ⟨d, d1, d2, d3⟩ := ahead i0 p0 h0 k0
      refine before (d - c) i0 (by omega) (by rw [wy, show c + (d - c) = d from by omega]; exact d3) ?_
      exact (hsh i0 p0 h0).trans (by rw [k0, eg])
theorem search_all (R : SetK w s.heap a L es ep t) {k : NestedKey} {x : Addr} (hx : NK s.heap k x) (hu : A.units + 8 < cLine) {add : Bool} {Q : SetFound → Shared → Prop}
    (yes : ∀ i : Option Nat, (add = true ∨ i.isSome = true) → k ∈ L.map (·.1) → Q (.there i) s)
    (no : ∀ K, k ∉ L.map (·.1) → way t.mask (k.hash w) K ∉ t.place.toList → (∀ c, c < K → way t.mask (k.hash w) c ∈ t.place.toList) → Q (.free (way t.mask (k.hash w) K) false) s) : wpAny (model P w) A (setSearch a (.ref x) (k.hash w) add) Q E s := by
  have room := R.room
  obtain ⟨K, hf, hK, hb⟩ := R.tab.gap (by simp [hashK]; omega) (k.hash w)
  have big : K < 100000 := by
    obtain ⟨e, _, e2, e3⟩ := R.tab.pow
    have : 2 ^ e ≤ 2 ^ 13 := Nat.pow_le_pow_right (by decide) e2
    unfold SetTable.turns at hf
    omega
  unfold setSearch
  refine search_k R hx hu rfl hf hK hb yes (fun z => no K z hK hb) 100000 0 none rfl (Nat.zero_le _) (by omega) fun i p hp hk => ?_
  have h1 : (hashK w L)[i]? = some (k.hash w) := by
    unfold hashK
    rw [List.getElem?_map, hp, ← hk]
    rfl
  have h2 : i < t.place.toList.length := by
    rw [Array.length_toList, R.places]
    exact (List.getElem?_eq_some_iff.mp hp).1
  have h3 := List.getElem?_eq_getElem h2
  obtain ⟨d, d1, d2⟩ := R.tab.early hK h1 h3
  exact ⟨d, Nat.zero_le _, d1, by rw [h3, d2]⟩
end
end NB
end
section
set_option Elab.async false
set_option linter.all false
set_option maxRecDepth 100000
set_option maxHeartbeats 1000000
/-! Core 13h: sets of nested keys: laid anew, added to. -/
namespace NB
open PySem PySem.Spec PyProof.Rows L2

theorem above_go (n : Nat) : ∀ (f k : Nat), n < 2 ^ (k + f) → 3 ≤ k → k + f ≤ 13 → ∃ e, 3 ≤ e ∧ e ≤ 13 ∧ SetTable.sizeAbove.go n (f + 64) (2 ^ k) = 2 ^ e ∧ n < 2 ^ e
  | 0, k, h, h1, h2 => ⟨k, h1, by omega, by
    show (if 2 ^ k ≤ n then SetTable.sizeAbove.go n 63 (2 ^ k * 2) else 2 ^ k) = 2 ^ k
    exact if_neg (by simpa using h), by simpa using h⟩
  | f + 1, k, h, h1, h2 => by
    by_cases c : 2 ^ k ≤ n
    · obtain ⟨e, a, b, d, g⟩ := above_go n f (k + 1) (by rw [show k + 1 + f = k + (f + 1) from by omega]; exact h) (by omega) (by omega)
      refine ⟨e, a, b, ?_, g⟩
      show (if 2 ^ k ≤ n then SetTable.sizeAbove.go n (f + 64) (2 ^ k * 2) else 2 ^ k) = 2 ^ e
      rw [if_pos c, ← Nat.pow_succ]
      exact d
    · refine ⟨k, h1, by omega, ?_, by omega⟩
      show (if 2 ^ k ≤ n then SetTable.sizeAbove.go n (f + 64) (2 ^ k * 2) else 2 ^ k) = 2 ^ k
      exact if_neg c
theorem go_more (n : Nat) : ∀ (f k : Nat), n < 2 ^ (k + f) → ∀ d, SetTable.sizeAbove.go n (f + 1 + d) (2 ^ k) = SetTable.sizeAbove.go n (f + 1) (2 ^ k)
  | 0, k, h, d => by
    have c : ¬ 2 ^ k ≤ n := by simpa using h
    rw [show 0 + 1 + d = d + 1 from by omega]
    show (if 2 ^ k ≤ n then _ else 2 ^ k) = (if 2 ^ k ≤ n then _ else 2 ^ k)
    rw [if_neg c, if_neg c]
  | f + 1, k, h, d => by
    rw [show f + 1 + 1 + d = (f + 1 + d) + 1 from by omega]
    show (if 2 ^ k ≤ n then SetTable.sizeAbove.go n (f + 1 + d) (2 ^ k * 2) else 2 ^ k) = (if 2 ^ k ≤ n then SetTable.sizeAbove.go n (f + 1) (2 ^ k * 2) else 2 ^ k)
    by_cases c : 2 ^ k ≤ n
    · rw [if_pos c, if_pos c, ← Nat.pow_succ]
      exact go_more n f (k + 1) (by rw [show k + 1 + f = k + (f + 1) from by omega]; exact h) d
    · rw [if_neg c, if_neg c]
theorem above_ok {n : Nat} (h : n < 8192) : ∃ e, 3 ≤ e ∧ e ≤ 13 ∧ SetTable.sizeAbove n = 2 ^ e ∧ n < 2 ^ e := by
  obtain ⟨e, a, b, d, g⟩ := above_go n 10 3 (by simpa using h) (by decide) (by decide)
  refine ⟨e, a, b, ?_, g⟩
  rw [← d]
  show SetTable.sizeAbove.go n 64 (2 ^ 3) = SetTable.sizeAbove.go n (10 + 64) (2 ^ 3)
  have q1 := go_more n 10 3 (by simpa using h) 53
  have q2 := go_more n 10 3 (by simpa using h) 63
  exact q1.trans q2.symm
section
variable {P : Program} {w : World} {A : Around} {E : Value → Shared → Prop} {s : Shared} {a : Addr} {L : List (NestedKey × Addr)} {es : Array (Int × Value)} {ep : Nat} {t : SetTable}
theorem nk_same {h h' : Heap} {k : NestedKey} {b : Addr} {o : Obj} (x : NK h k b) (ho : h.get? a = some o) (hd : o.data = .set es ep t) (sb : Heap.SameBut a h h') : NK h' k b := by
  refine ⟨NestedIs.at (fun c oc vs n e1 e2 => ?_) k _ x.1, x.2⟩
  rw [sb.2 c fun e => ?_]
  · exact e1
  · subst e
    rw [ho] at e1
    cases e1
    rw [hd] at e2
    cases e2
theorem rows_in (w : World) (L : List (NestedKey × Addr)) (p : Nat) (x : NestedKey × Addr) : rowsK w (L.take p ++ x :: L.drop p) = (rowsK w L).take p ++ (x.1.hash w, Value.ref x.2) :: (rowsK w L).drop p := by
  simp [rowsK]
theorem hash_in (w : World) (L : List (NestedKey × Addr)) (p : Nat) (x : NestedKey × Addr) : hashK w (L.take p ++ x :: L.drop p) = (hashK w L).take p ++ x.1.hash w :: (hashK w L).drop p := by
  simp [hashK]
theorem rows_order (L : List (NestedKey × Addr)) (es : Array (Int × Value)) (order : Array Nat) (hr : es.toList = rowsK w L) (hp : order.toList.Perm (List.range L.length)) :
    ∃ L2, (order.filterMap (es[·]?)).toList = rowsK w L2 ∧ L2.Perm L ∧ hashK w L2 = order.toList.map fun i => (es.map (·.1)).getD i 0 := by
  have sz : es.size = L.length := by
    have := congrArg List.length hr
    simpa [rowsK] using this
  have ent : ∀ i (h : i < L.length), es[i]? = some ((L[i]).1.hash w, Value.ref (L[i]).2) := fun i h => by
    rw [← Array.getElem?_toList, hr, rowsK, List.getElem?_map, List.getElem?_eq_getElem h]
    rfl
  have each : ∀ l : List Nat, (∀ i ∈ l, i < L.length) → ∃ L2, l.filterMap (fun i => es[i]?) = rowsK w L2 ∧ L2 = l.filterMap (fun i => L[i]?) ∧ hashK w L2 = l.map fun i => (es.map (·.1)).getD i 0 := by
    intro l
    induction l with
    | nil => exact fun _ => ⟨[], rfl, rfl, rfl⟩
    | cons i l ih =>
      intro hl
      have hi := hl i List.mem_cons_self
      obtain ⟨L2, e1, e2, e3⟩ := ih fun j hj => hl j (List.mem_cons_of_mem _ hj)
      refine ⟨L[i] :: L2, ?_, ?_, ?_⟩
      · rw [List.filterMap_cons_some (ent i hi), e1]; rfl
      · rw [List.filterMap_cons_some (List.getElem?_eq_getElem hi), e2]
      · have e4 : (es.map (·.1)).getD i 0 = (L[i]).1.hash w := by
          have e5 : (es.map (·.1))[i]? = some ((L[i]).1.hash w) := by rw [Array.getElem?_map, ent i hi]; rfl
          simp [Array.getD_eq_getD_getElem?, e5]
        rw [List.map_cons, e4, ← e3]
        rfl
  obtain ⟨L2, e1, e2, e3⟩ := each order.toList fun i hi => List.mem_range.mp (hp.mem_iff.mp hi)
  refine ⟨L2, by first | (rw [Array.toList_filterMap]; exact e1) | simpa using e1, ?_, e3⟩
  have h1 : L2.Perm ((List.range L.length).filterMap fun i => L[i]?) := by rw [e2]; exact hp.filterMap _
  have h2 : ∀ n, n ≤ L.length → (List.range n).filterMap (fun i => L[i]?) = L.take n := by
    intro n
    induction n with
    | zero => exact fun _ => rfl
    | succ n ih =>
      intro hn
      rw [List.range_succ, List.filterMap_append, ih (by omega), List.take_succ, List.getElem?_eq_getElem (by omega)]
      rw [List.filterMap_cons_some (List.getElem?_eq_getElem (by omega))]
      rfl
  rw [h2 _ (Nat.le_refl _), List.take_length] at h1
  exact h1
theorem relay_k {o : Obj} (ho : s.heap.get? a = some o) (hex : o.ExactSet) (hd : o.data = .set es ep t) (hr : es.toList = rowsK w L) (many : t.place.size = es.size) (dm : t.dummies = #[]) (fit : es.size ≤ t.mask) (nd : (L.map (·.1)).Nodup) (keys : ∀ p ∈ L, NK s.heap p.1 p.2) (pl : t.plain = true)
    (ld : w.params.followText "set-order" = true ∨ t.led = true) {wanted : Nat} (hw : wanted < 8192) (room : ∀ e, wanted < 2 ^ e → L.length * 5 < (2 ^ e - 1) * 3) {Q : Unit → Shared → Prop}
    (hQ : ∀ h' L' es' ep' t', Heap.SameBut a s.heap h' → SetK w h' a L' es' ep' t' → L'.Perm L → Q () { s with heap := h' }) : wpAny (model P w) A (setRelay a wanted) Q E s := by
  have sl : es.size = L.length := by
    have := congrArg List.length hr
    simpa [rowsK] using this
  obtain ⟨e, e3, e13, eq, lt⟩ := above_ok hw
  have rm := room e lt
  have pw : PowOk (2 ^ e - 1) := ⟨e, e3, e13, by have := Nat.pow_pos (n := e) (show 0 < 2 by decide); omega⟩
  have le13 : 2 ^ e ≤ 2 ^ 13 := Nat.pow_le_pow_right (by decide) e13
  have fits : t.fits es.size = true := by
    unfold SetTable.fits SetTable.fill
    rw [dm, Bool.and_eq_true, beq_iff_eq, decide_eq_true_eq]
    show t.place.size = es.size ∧ t.place.size + 0 ≤ t.mask
    omega
  obtain ⟨t', order, er, hp, T, em, el, ep', ed⟩ := p_relaid t (gs := es.map (·.1)) (wanted := wanted) (M := 2 ^ e - 1) (by rw [eq]) pw (by rw [Array.size_map, sl]; omega)
  rw [Array.size_map, sl] at hp
  obtain ⟨L2, r1, r2, r3⟩ := rows_order L es order hr hp
  rw [← r3] at T
  have sz2 : (order.filterMap (es[·]?)).size = es.size := by
    have := congrArg List.length r1
    rw [Array.length_toList, rowsK, List.length_map, r2.length_eq] at this
    omega
  rw [setRelay_eq]
  refine wpAny_bind (wpAny_setState_of ho hd fits ?_)
  dsimp only
  refine wp_if_neg (by rw [sizeLine_eq, eq]; omega) ?_
  try refine wpAny_bind (wpAny_pure ?_)
  rw [er]
  dsimp only
  refine wpAny_bind ?_
  refine wp_if_neg (by rw [sz2]; simp) ?_
  try refine wpAny_bind (wpAny_pure ?_)
  refine wpAny_pure ?_
  dsimp only
  refine wpAny_storeSet_of ho hd ?_ (by rw [sz2, sl, sizeLine_eq]; omega)
  have sb : Heap.SameBut a s.heap (s.heap.update a (Obj.putSet (order.filterMap (es[·]?)) t')) := Heap.SameBut.update ..
  refine hQ _ L2 (order.filterMap (es[·]?)) (ep + 1) t' sb ⟨⟨_, store_at ho hd, ⟨hex.1, hex.2.1, hex.2.2⟩, rfl⟩, r1, T, (r2.map (·.1)).nodup_iff.mpr nd, fun p hm => nk_same (keys p (r2.mem_iff.mp hm)) ho hd sb, by rw [ep']; exact pl, by rw [el]; exact ld, ?_⟩ r2
  rw [r2.length_eq, em]
  exact rm
end
end NB
end
section
set_option Elab.async false
set_option linter.all false
set_option maxRecDepth 100000
set_option maxHeartbeats 1000000
/-! Core 13i: sets of nested keys: one added. -/
namespace NB
open PySem PySem.Spec PyProof.Rows L2
section
variable {P : Program} {w : World} {A : Around} {E : Value → Shared → Prop} {s : Shared} {a : Addr} {L : List (NestedKey × Addr)} {es : Array (Int × Value)} {ep : Nat} {t : SetTable}
theorem add_k (R : SetK w s.heap a L es ep t) {k : NestedKey} {x : Addr} (hx : NK s.heap k x) (hu : A.units + 8 < cLine) (few : L.length + 1 ≤ 1300) {Q : Bool → Shared → Prop}
    (hQ : ∀ b h' L' es' ep' t', Heap.SameBut a s.heap h' → SetK w h' a L' es' ep' t' → (k ∈ L.map (·.1) → L' = L) → (k ∉ L.map (·.1) → L'.Perm ((k, x) :: L)) → Q b { s with heap := h' }) :
    wpAny (model P w) A (setAddHashed a (.ref x) (k.hash w)) Q E s := by
  obtain ⟨o, ho, hex, hd⟩ := R.obj
  have sl := R.size
  have rm := R.room
  unfold setAddHashed
  refine wpAny_holding ?_
  rw [show (100000 : Nat) = 99999 + 1 from rfl, setAddHashedIn_succ]
  refine wpAny_bind (wpAny_setState_of ho hd R.fits ?_)
  dsimp only
  refine wp_if_neg (by simp [byScan, Value.scannable]) ?_
  try refine wpAny_bind (wpAny_pure ?_)
  refine wpAny_bind (search_all R hx hu (fun i _ inn => ?_) fun K out hK hb => ?_)
  · dsimp only
    exact wpAny_pure (hQ false s.heap L es ep t (Heap.SameBut.refl a s.heap) R (fun _ => rfl) fun z => absurd inn z)
  · dsimp only
    refine wpAny_bind (wpAny_setState_of ho hd R.fits ?_)
    dsimp only
    obtain ⟨p, ep0⟩ : ∃ p, p = SetTable.below t.place (way t.mask (k.hash w) K) := ⟨_, rfl⟩
    obtain ⟨q1, q2, q3⟩ := R.tab.putIn hK hb ep0
    have m1 : (t.put (way t.mask (k.hash w) K)).1.mask = t.mask := rfl
    have m2 : (t.put (way t.mask (k.hash w) K)).1.led = t.led := rfl
    have m3 : (t.put (way t.mask (k.hash w) K)).1.plain = true := R.plain
    have m4 : (t.put (way t.mask (k.hash w) K)).2 = p := ep0.symm
    generalize t.put (way t.mask (k.hash w) K) = pt at q2 q3 m1 m2 m3 m4 ⊢
    obtain ⟨t1, p1⟩ := pt
    dsimp only at q2 q3 m1 m2 m3 m4 ⊢
    subst m4
    first
      | (refine wpAny_bind ?_; refine wp_if_pos m3 ?_; refine byv_key k _ 8 s hx.1 hx.2.1 hx.2.2 _ _ _ ?_)
      | refine wp_if_pos m3 (wpAny_bind (byv_key k _ 8 s hx.1 hx.2.1 hx.2.2 _ _ _ ?_))
    simp only [if_true]
    have er : (SetTable.insertAt es p1 (k.hash w, Value.ref x)).toList = rowsK w (L.take p1 ++ (k, x) :: L.drop p1) := by
      rw [SetTable.toList_insertAt, rows_in, R.rows]
    have pm := put_perm L p1 (k, x)
    have ln : (L.take p1 ++ (k, x) :: L.drop p1).length = L.length + 1 := pm.length_eq
    rw [← hash_in w L p1 (k, x)] at q2
    have lh : (hashK w L).length = L.length := by simp [hashK]
    rw [lh] at q3
    have nd1 : ((L.take p1 ++ (k, x) :: L.drop p1).map (·.1)).Nodup := (pm.map (·.1)).nodup_iff.mpr (List.nodup_cons.mpr ⟨out, R.nodup⟩)
    have se : (SetTable.insertAt es p1 (k.hash w, Value.ref x)).size = L.length + 1 := by
      have := congrArg List.length er
      rw [Array.length_toList, rowsK, List.length_map, ln] at this
      exact this
    generalize SetTable.insertAt es p1 (k.hash w, Value.ref x) = es1 at er se ⊢
    generalize L.take p1 ++ (k, x) :: L.drop p1 = L1 at pm ln q2 nd1 er
    refine wpAny_bind (wpAny_storeSet_of ho hd ?_ (by rw [se, sizeLine_eq]; omega))
    have sb : Heap.SameBut a s.heap (s.heap.update a (Obj.putSet es1 t1)) := Heap.SameBut.update ..
    have ho1 := store_at (es' := es1) (t' := t1) ho hd
    generalize s.heap.update a (Obj.putSet es1 t1) = h1 at sb ho1 ⊢
    have keys1 : ∀ p ∈ L1, NK h1 p.1 p.2 := fun p hp => by
      rcases List.mem_cons.mp (pm.mem_iff.mp hp) with e | hp
      · rw [e]; exact nk_same hx ho hd sb
      · exact nk_same (R.keys p hp) ho hd sb
    have ld1 : w.params.followText "set-order" = true ∨ t1.led = true := by rw [m2]; exact R.led
    by_cases hf : t1.tooFull = true
    · first
        | (refine wpAny_bind ?_; refine wp_if_pos (by simp [hf]) ?_)
        | (refine wp_if_pos (by simp [hf]) ?_; refine wpAny_bind ?_)
      have full : (L.length + 1) * 5 ≥ t.mask * 3 := by
        have h := hf
        unfold SetTable.tooFull at h
        rw [decide_eq_true_eq, q3, m1] at h
        exact h
      rw [sl]
      have sz1 : t1.place.size = es1.size := by
        rw [q2.many, se]
        simp [hashK, ln]
      have small : L.length + 1 ≤ 1300 := few
      refine relay_k (s := { s with heap := h1 }) ho1 ⟨hex.1, hex.2.1, hex.2.2⟩ rfl er sz1 q2.none_ (by rw [se, m1]; omega) nd1 keys1 m3 ld1 (by unfold SetTable.grown; rw [if_neg (by omega)]; omega) (fun e he => ?_) ?_
      · unfold SetTable.grown at he
        rw [if_neg (by omega)] at he
        rw [ln]
        omega
      · intro h2 L2 es2 ep2 t2 sb2 R2 pm2
        exact wpAny_pure (hQ true h2 L2 es2 ep2 t2 (sb.trans sb2) R2 (fun z => absurd z out) fun _ => pm2.trans pm)
    · first
        | refine wp_if_neg (by simp [hf]) ?_
        | (refine wpAny_bind ?_; refine wp_if_neg (by simp [hf]) ?_; refine wpAny_pure ?_)
      refine wpAny_pure (hQ true h1 L1 es1 (ep + 1) t1 sb ⟨⟨_, ho1, ⟨hex.1, hex.2.1, hex.2.2⟩, rfl⟩, er, q2, nd1, keys1, m3, ld1, ?_⟩ (fun z => absurd z out) fun _ => pm)
      have h := hf
      unfold SetTable.tooFull at h
      rw [decide_eq_true_eq, q3] at h
      rw [ln]
      omega
end
end NB
end
section
set_option Elab.async false
set_option linter.all false
set_option maxRecDepth 100000
set_option maxHeartbeats 3200000
/-! Core 13j: set(..) of a walk's keys: the loop. -/
namespace NB
open PySem PySem.Spec PyProof.Rows L2
/-- what a set has of the first i of ks -/
structure Has (ks : List (NestedKey × Addr)) (i : Nat) (L : List (NestedKey × Addr)) : Prop where
  from_ : ∀ p ∈ L, p ∈ ks.take i
  each : ∀ p ∈ ks.take i, p.1 ∈ L.map (·.1)
  few : L.length ≤ i
theorem Has.none (ks : List (NestedKey × Addr)) : Has ks 0 [] := ⟨by simp, by simp, Nat.le_refl _⟩
theorem Has.old {ks L : List (NestedKey × Addr)} {i : Nat} {p : NestedKey × Addr} (g : Has ks i L) (h : ks[i]? = some p) (hm : p.1 ∈ L.map (·.1)) : Has ks (i + 1) L := by
  constructor
  · exact fun q hq => by rw [take_next h]; exact List.mem_append_left _ (g.from_ q hq)
  · intro q hq
    rw [take_next h] at hq
    rcases List.mem_append.mp hq with z | z
    · exact g.each q z
    · cases List.mem_singleton.mp z; exact hm
  · have := g.few; omega
theorem Has.new {ks L L' : List (NestedKey × Addr)} {i : Nat} {p : NestedKey × Addr} (g : Has ks i L) (h : ks[i]? = some p) (pm : L'.Perm (p :: L)) : Has ks (i + 1) L' := by
  constructor
  · intro q hq
    rw [take_next h]
    rcases List.mem_cons.mp (pm.mem_iff.mp hq) with e | z
    · rw [e]; exact List.mem_append_right _ (by simp)
    · exact List.mem_append_left _ (g.from_ q z)
  · intro q hq
    rw [(pm.map (·.1)).mem_iff, List.map_cons]
    rw [take_next h] at hq
    rcases List.mem_append.mp hq with z | z
    · exact List.mem_cons_of_mem _ (g.each q z)
    · cases List.mem_singleton.mp z; exact List.mem_cons_self
  · rw [pm.length_eq, List.length_cons]; have := g.few; omega
section
variable {P : Program} {w : World} {A : Around}
theorem nk_keep {h h' : Heap} {k : NestedKey} {b : Addr} (x : NK h k b) (kp : ∀ c o, h.get? c = some o → h'.get? c = some o) : NK h' k b := ⟨NestedIs.at (fun c o vs n e _ => kp c o e) k _ x.1, x.2⟩
theorem SetK.keep {h h' : Heap} {a : Addr} {L : List (NestedKey × Addr)} {es : Array (Int × Value)} {ep : Nat} {t : SetTable} (R : SetK w h a L es ep t) (ha : ∀ o, h.get? a = some o → h'.get? a = some o) (hk : ∀ p ∈ L, NK h' p.1 p.2) : SetK w h' a L es ep t := by
  obtain ⟨o, ho, r⟩ := R.obj
  exact ⟨⟨o, ha o ho, r⟩, R.rows, R.tab, R.nodup, hk, R.plain, R.led, R.room⟩
theorem setK_empty {h : Heap} {a : Addr} (ho : h.get? a = some { cls := .type "set", dict := none, data := .set #[] 0 (.fresh 0 0 (!w.params.followText "set-order")) }) : SetK w h a [] #[] 0 (.fresh 0 0 (!w.params.followText "set-order")) := by
  refine ⟨⟨_, ho, ⟨rfl, rfl, rfl⟩, rfl⟩, rfl, ⟨List.Pairwise.nil, rfl, rfl, ⟨3, by decide, by decide, rfl⟩, fun x hx => (by cases hx), fun n g j e => (by simp [hashK] at e)⟩, List.nodup_nil, fun p hp => (by cases hp), rfl, ?_, by show 0 * 5 < 7 * 3; decide⟩
  show _ ∨ (!w.params.followText "set-order") = true
  cases w.params.followText "set-order" <;> simp
theorem update_k {I : Addr} {fp wr : List Addr} {G : Array GenState → Array GenState → Prop} {n : Nat} {Pv : Nat → Value → Prop} {St : Nat → Shared → Prop} {R : Result → Shared → Prop}
    (W : WalksS P w A.in1 I fp wr G n Pv St) (D : Addr) (nf : D ∉ fp) (ks : List (NestedKey × Addr)) (hn : n = ks.length) (few : ks.length ≤ 1299) (val : ∀ i v, Pv i v → ∃ p, ks[i]? = some p ∧ v = .ref p.2)
    (h0 : Heap) (hk : ∀ p ∈ ks, NK h0 p.1 p.2) (d0 : h0.get? D = none) (w0 : ∀ b ∈ wr, h0.get? b = none) (hu : A.in1.units + 8 < cLine) :
    ∀ (m i : Nat) (s : Shared), n - i = m → i ≤ n → St i s → (∀ b o, h0.get? b = some o → s.heap.get? b = some o) → (∃ L es ep t, SetK w s.heap D L es ep t ∧ Has ks i L) →
      (∀ s' L es ep t, Moved (D :: wr) G s s' → SetK w s'.heap D L es ep t → Has ks n L → (∀ b o, h0.get? b = some o → s'.heap.get? b = some o) → R (.ok (.ret .none)) s') →
      codeAny (model P w) A (.builtin "set.update.loop" ⟨[.ref D, .ref I], []⟩) R s := by
  have nw : D ∉ wr := fun z => nf (W.sub _ z)
  have up : ∀ b ∈ wr, b ∈ D :: wr := fun b hb => List.mem_cons_of_mem _ hb
  have kp : ∀ {s s' : Shared}, Moved wr G s s' → (∀ b o, h0.get? b = some o → s.heap.get? b = some o) → ∀ b o, h0.get? b = some o → s'.heap.get? b = some o := fun mv old b o e =>
    mv.heap b o (fun hb => by rw [w0 b hb] at e; cases e) (old b o e)
  intro m
  induction m with
  | zero =>
    intro i s hm hi st old ⟨L, es, ep, t, S, g⟩ fin
    obtain rfl : i = n := by omega
    refine codeAny_builtin F.entry_set_update_loop ?_
    rw [Around.under_plainId F.plain_set_update_loop _]
    show wpAny _ A.in1 (pyNext (.ref I) >>= _) _ _ s
    refine wpAny_bind (W.done s _ _ st fun s' mv => ?_)
    show wpAny _ A.in1 (ret Value.none) _ _ s'
    have old' := kp mv old
    exact wpAny_pure (fin s' L es ep t (mv.mono up) (S.keep (fun o e => mv.heap D o nw e) fun p hp => nk_keep (hk p (List.mem_of_mem_take (g.from_ p hp))) old') g old')
  | succ m ih =>
    intro i s hm hi st old ⟨L, es, ep, t, S, g⟩ fin
    have lt : i < n := by omega
    refine codeAny_builtin F.entry_set_update_loop ?_
    rw [Around.under_plainId F.plain_set_update_loop _]
    show wpAny _ A.in1 (pyNext (.ref I) >>= _) _ _ s
    refine wpAny_bind (W.item i s _ _ lt st fun v s' pv st' mv => ?_)
    obtain ⟨p, hp, rfl⟩ := val i v pv
    have old' := kp mv old
    have S' : SetK w s'.heap D L es ep t := S.keep (fun o e => mv.heap D o nw e) fun q hq => nk_keep (hk q (List.mem_of_mem_take (g.from_ q hq))) old'
    have x : NK s'.heap p.1 p.2 := nk_keep (hk p (List.mem_of_getElem? hp)) old'
    show wpAny _ A.in1 (holding [Value.ref p.2] (setAdd D (.ref p.2)) >>= _) _ _ s'
    refine wpAny_bind (wpAny_holding ?_)
    unfold setAdd
    refine wpAny_holding ?_
    refine wpAny_bind ((nestedKind P w).pyHash hu x.kind ?_)
    refine add_k (s := { s' with toks := s'.toks + (nestedKind P w).draws p.1 }) S' x hu (by have := g.few; omega) fun b h' L' es' ep' t' sb S2 c1 c2 => ?_
    have g' : Has ks (i + 1) L' := by
      by_cases c : p.1 ∈ L.map (·.1)
      · rw [c1 c]; exact g.old hp c
      · exact g.new hp (c2 c)
    have old2 : ∀ b o, h0.get? b = some o → h'.get? b = some o := fun b o e => (sb.2 b (fun z => by rw [z, d0] at e; cases e)).trans (old' b o e)
    refine wpAny_pure ⟨plainId_quiet F.plain_set_update_loop _, ih (i + 1) _ (by omega) lt (W.frame _ s' _ _ st' (Nat.le_add_right _ _) fun b hb o e => ?_) old2 ⟨L', es', ep', t', S2, g'⟩ fun s'' L2 es2 ep2 t2 mv2 S3 g3 old3 => ?_⟩
    · rw [sb.2 b (fun z : b = D => nf (by rw [← z]; exact hb))]; exact e
    · refine fin s'' L2 es2 ep2 t2 (Moved.trans W.gtrans ((mv.mono up).then_heap (Nat.le_add_right _ _) fun b o hb e => ?_) mv2) S3 g3 old3
      rw [sb.2 b (fun z : b = D => hb (by rw [z]; exact List.mem_cons_self))]; exact e
end
end NB
end
section
set_option Elab.async false
set_option linter.all false
set_option maxRecDepth 100000
set_option maxHeartbeats 3200000
/-! Core 13k: set(list), set(tuple) of nested keys. -/
namespace NB
open PySem PySem.Spec PyProof.Rows L2
section
variable {P : Program} {w : World} {A : Around} {E : Value → Shared → Prop} {s : Shared}
theorem set_of_list {l : Addr} {items : Array Value} (ks : List (NestedKey × Addr)) {Q : Value → Shared → Prop} (calm : A.handled = none) (hl : s.heap.IsList l items) (its : items.toList = ks.map fun p => Value.ref p.2)
    (hk : ∀ p ∈ ks, NK s.heap p.1 p.2) (few : ks.length ≤ 1299) (hu : A.units + 16 < cLine)
    (fin : ∀ (h' : Heap) (tk : Nat) L es ep t, SetK w h' s.heap.objs.size L es ep t → Has ks ks.length L → (∀ b o, s.heap.get? b = some o → h'.get? b = some o) → Q (.ref s.heap.objs.size) { s with heap := h', toks := tk }) :
    wpAny (model P w) A (call (.type "set") [.ref l]) Q E s := by
  have isz : items.size = ks.length := by simpa using congrArg List.length its
  obtain ⟨c, tl, hmro⟩ := F.called_set.mro
  have hmade := F.called_set.made
  have hsub := F.called_set.sub
  refine wpAny_call (codeAny_of_tree ?_)
  show wpAny _ _ (callAny (.type "set") _) _ _ _
  refine wpAny_pure ⟨Code.quiet_builtin _ (by decide +kernel), codeAny_builtin F.entry_type_call ?_⟩
  rw [Around.under_plain (weight_type_call_type "set" [.ref l] []) rfl]
  have h1 := F.called_set.notType
  have h2 := F.called_set.canCreate
  have hct := F.typeCall_set_1 (.ref l)
  repeat (any_goals (first | assumption | wp_step))

  refine codeAny_mono (code_set_led1 (.ref l) (E := E) (Q₁ := fun obj s₁ => obj = .ref s.heap.objs.size ∧ s₁ = { s with heap := s.heap.push { cls := .type "set", dict := none, data := .set #[] 0 (.fresh 0 0 (!w.params.followText "set-order")) } }) ⟨rfl, rfl⟩) fun r s₁ hr => ?_
  cases r with
  | error e => exact hr
  | ok fl =>
    cases fl with
    | ret obj =>
      obtain ⟨rfl, rfl⟩ := hr
      have hS : (s.heap.push { cls := .type "set", dict := none, data := .set #[] 0 (.fresh 0 0 (!w.params.followText "set-order")) }).get? s.heap.objs.size = some { cls := .type "set", dict := none, data := .set #[] 0 (.fresh 0 0 (!w.params.followText "set-order")) } := Heap.get?_push_size _ rfl
      have hT : Shared.TypeIs { s with heap := s.heap.push { cls := .type "set", dict := none, data := .set #[] 0 (.fresh 0 0 (!w.params.followText "set-order")) } } (.ref s.heap.objs.size) "set" := ⟨_, hS, rfl⟩
      have hli := F.called_set.init.lookup
      have hbi := F.called_set.init.bind (.ref s.heap.objs.size)
      repeat (any_goals (first | assumption | wp_step))

      refine codeAny_mono (codeAny_call_builtin (R := wants (fun r s₂ => r = .none ∧ ∃ h' tk L es ep t, s₂ = { s with heap := h', toks := tk } ∧ SetK w h' s.heap.objs.size L es ep t ∧ Has ks ks.length L ∧
          (∀ b o, s.heap.get? b = some o → h'.get? b = some o)) E) F.called_set.init.plain F.entry_set_init (check_set_init_1 hT ?_)) fun r₂ s₂ hr₂ => ?_
      · obtain ⟨ol, hol, hcl, nl, hdl⟩ := hl
        obtain ⟨ocls, odict, odata, oslots⟩ := ol
        simp only at hcl hdl
        subst hcl; subst hdl
        have hol' : (s.heap.push { cls := .type "set", dict := none, data := .set #[] 0 (.fresh 0 0 (!w.params.followText "set-order")) }).get? l = some { cls := .type "list", dict := odict, data := .seq items nl, slots := oslots } := Heap.get?_push_of_some _ hol
        have hsls := F.sub_list_set
        have hslf := F.sub_list_frozenset
        have hne : (Value.type "list" == Value.type "dict") = false := by decide
        have hl1 : (s.heap.push { cls := .type "set", dict := none, data := .set #[] 0 (.fresh 0 0 (!w.params.followText "set-order")) }).IsList l items := ⟨_, hol', rfl, nl, rfl⟩
        unfold Builtin.«set.__init__» noKeywords Builtin.Frozenset.updateFrom
        generalize hPI : pyIter = PI
        wp_walk
        subst hPI

        refine wpAny_pyIter_list hl1 ?_
        refine wpAny_bind (wpAny_runValue ?_)
        have hlS : l < s.heap.objs.size := Heap.lt_size hol
        have hh3 : A.in1.in1.in1.handled = none := by simp [calm]
        have hz1 : (s.heap.push { cls := .type "set", dict := none, data := .set #[] 0 (.fresh 0 0 (!w.params.followText "set-order")) }).objs.size = s.heap.objs.size + 1 := Heap.size_push ..
        have hneI : l ≠ (s.heap.push { cls := .type "set", dict := none, data := .set #[] 0 (.fresh 0 0 (!w.params.followText "set-order")) }).objs.size := by
          rw [Heap.size_push]; exact Nat.ne_of_lt (Nat.lt_succ_of_lt hlS)
        have hSf : s.heap.objs.size ∉ [(s.heap.push { cls := .type "set", dict := none, data := .set #[] 0 (.fresh 0 0 (!w.params.followText "set-order")) }).objs.size, l] := by
          rw [Heap.size_push]; simp only [List.mem_cons, List.mem_singleton, List.not_mem_nil, or_false, not_or]
          exact ⟨Nat.ne_of_lt (Nat.lt_succ_self _), Nat.ne_of_gt hlS⟩
        have hval : ∀ (i : Nat) (v : Value), items[i]? = some v → ∃ p, ks[i]? = some p ∧ v = .ref p.2 := fun i v hv => by
          have q : items.toList[i]? = some v := by rw [Array.getElem?_toList]; exact hv
          rw [its, List.getElem?_map] at q
          obtain ⟨p, hp, e⟩ := Option.map_eq_some_iff.mp q
          exact ⟨p, hp, e.symm⟩
        have none_of : ∀ b, s.heap.objs.size ≤ b → s.heap.get? b = none := fun b hb => by
          cases q : s.heap.get? b with
          | none => rfl
          | some o => exact absurd (Nat.lt_of_lt_of_le (Heap.lt_size q) hb) (Nat.lt_irrefl _)
        refine update_k ((Walks.list hh3 _ l hneI items).toS) s.heap.objs.size
          hSf ks isz few hval s.heap hk (none_of _ (Nat.le_refl _)) (fun b hb => none_of b (by
            rw [List.mem_singleton.mp hb, Heap.size_push]
            exact Nat.le_succ _)) (by simp; omega) (items.size - 0) 0 _ (by omega) (Nat.zero_le _)
          ⟨⟨_, Heap.get?_push_size _ rfl, rfl, rfl⟩, (hl1.push _)⟩ (fun b o e => Heap.get?_push_of_some _ (Heap.get?_push_of_some _ e)) ?hS0 ?hR
        case hS0 =>
          have hget : ((s.heap.push { cls := .type "set", dict := none, data := .set #[] 0 (.fresh 0 0 (!w.params.followText "set-order")) }).push { cls := .type "list_iterator", data := .fields #[.ref l, .int 0 0] }).get? s.heap.objs.size
              = some { cls := .type "set", dict := none, data := .set #[] 0 (.fresh 0 0 (!w.params.followText "set-order")) } := Heap.get?_push_of_some _ hS
          exact ⟨[], #[], 0, _, setK_empty hget, Has.none ks⟩
        case hR =>
          intro s' L es ep t hm hS' g' hkp
          obtain ⟨h', g2, d', tk', os'⟩ := s'
          have eg : g2 = s.gens := hm.gens
          have ed : d' = s.drawn := hm.drawn
          have eo : os' = s.os := hm.os
          subst eg; subst ed; subst eo
          show wpAny _ _ _ _ _ _
          refine wpAny_pure ?_
          show wpAny _ _ (ret Value.none) _ _ _
          rw [isz] at g'
          exact wpAny_pure ⟨rfl, h', tk', L, es, ep, t, rfl, hS', g', hkp⟩

      · cases r₂ with
        | error e => exact hr₂
        | ok fl₂ =>
          cases fl₂ with
          | ret r =>
            obtain ⟨rfl, h', tk, L, es, ep, t, rfl, hS', g', hk'⟩ := hr₂
            repeat (any_goals (first | assumption | wp_step))
            exact fin _ _ _ _ _ _ hS' g' hk'
          | _ => exact hr₂.elim
    | _ => exact hr.elim
theorem set_of_tuple {l : Addr} {items : Array Value} (ks : List (NestedKey × Addr)) {Q : Value → Shared → Prop} (calm : A.handled = none) (hl : s.heap.IsTuple l items) (its : items.toList = ks.map fun p => Value.ref p.2)
    (hk : ∀ p ∈ ks, NK s.heap p.1 p.2) (few : ks.length ≤ 1299) (hu : A.units + 16 < cLine)
    (fin : ∀ (h' : Heap) (tk : Nat) L es ep t, SetK w h' s.heap.objs.size L es ep t → Has ks ks.length L → (∀ b o, s.heap.get? b = some o → h'.get? b = some o) → Q (.ref s.heap.objs.size) { s with heap := h', toks := tk }) :
    wpAny (model P w) A (call (.type "set") [.ref l]) Q E s := by
  have isz : items.size = ks.length := by simpa using congrArg List.length its
  obtain ⟨c, tl, hmro⟩ := F.called_set.mro
  have hmade := F.called_set.made
  have hsub := F.called_set.sub
  refine wpAny_call (codeAny_of_tree ?_)
  show wpAny _ _ (callAny (.type "set") _) _ _ _
  refine wpAny_pure ⟨Code.quiet_builtin _ (by decide +kernel), codeAny_builtin F.entry_type_call ?_⟩
  rw [Around.under_plain (weight_type_call_type "set" [.ref l] []) rfl]
  have h1 := F.called_set.notType
  have h2 := F.called_set.canCreate
  have hct := F.typeCall_set_1 (.ref l)
  repeat (any_goals (first | assumption | wp_step))

  refine codeAny_mono (code_set_led1 (.ref l) (E := E) (Q₁ := fun obj s₁ => obj = .ref s.heap.objs.size ∧ s₁ = { s with heap := s.heap.push { cls := .type "set", dict := none, data := .set #[] 0 (.fresh 0 0 (!w.params.followText "set-order")) } }) ⟨rfl, rfl⟩) fun r s₁ hr => ?_
  cases r with
  | error e => exact hr
  | ok fl =>
    cases fl with
    | ret obj =>
      obtain ⟨rfl, rfl⟩ := hr
      have hS : (s.heap.push { cls := .type "set", dict := none, data := .set #[] 0 (.fresh 0 0 (!w.params.followText "set-order")) }).get? s.heap.objs.size = some { cls := .type "set", dict := none, data := .set #[] 0 (.fresh 0 0 (!w.params.followText "set-order")) } := Heap.get?_push_size _ rfl
      have hT : Shared.TypeIs { s with heap := s.heap.push { cls := .type "set", dict := none, data := .set #[] 0 (.fresh 0 0 (!w.params.followText "set-order")) } } (.ref s.heap.objs.size) "set" := ⟨_, hS, rfl⟩
      have hli := F.called_set.init.lookup
      have hbi := F.called_set.init.bind (.ref s.heap.objs.size)
      repeat (any_goals (first | assumption | wp_step))

      refine codeAny_mono (codeAny_call_builtin (R := wants (fun r s₂ => r = .none ∧ ∃ h' tk L es ep t, s₂ = { s with heap := h', toks := tk } ∧ SetK w h' s.heap.objs.size L es ep t ∧ Has ks ks.length L ∧
          (∀ b o, s.heap.get? b = some o → h'.get? b = some o)) E) F.called_set.init.plain F.entry_set_init (check_set_init_1 hT ?_)) fun r₂ s₂ hr₂ => ?_
      · obtain ⟨ol, hol, hcl, nl, hdl⟩ := hl
        obtain ⟨ocls, odict, odata, oslots⟩ := ol
        simp only at hcl hdl
        subst hcl; subst hdl
        have hol' : (s.heap.push { cls := .type "set", dict := none, data := .set #[] 0 (.fresh 0 0 (!w.params.followText "set-order")) }).get? l = some { cls := .type "tuple", dict := odict, data := .seq items nl, slots := oslots } := Heap.get?_push_of_some _ hol
        have hsls := F.sub_tuple_set
        have hslf := F.sub_tuple_frozenset
        have hne : (Value.type "tuple" == Value.type "dict") = false := by decide
        have hl1 : (s.heap.push { cls := .type "set", dict := none, data := .set #[] 0 (.fresh 0 0 (!w.params.followText "set-order")) }).IsTuple l items := ⟨_, hol', rfl, nl, rfl⟩
        unfold Builtin.«set.__init__» noKeywords Builtin.Frozenset.updateFrom
        generalize hPI : pyIter = PI
        wp_walk
        subst hPI

        refine wpAny_pyIter_tuple hl1 ?_
        refine wpAny_bind (wpAny_runValue ?_)
        have hlS : l < s.heap.objs.size := Heap.lt_size hol
        have hh3 : A.in1.in1.in1.handled = none := by simp [calm]
        have hz1 : (s.heap.push { cls := .type "set", dict := none, data := .set #[] 0 (.fresh 0 0 (!w.params.followText "set-order")) }).objs.size = s.heap.objs.size + 1 := Heap.size_push ..
        have hneI : l ≠ (s.heap.push { cls := .type "set", dict := none, data := .set #[] 0 (.fresh 0 0 (!w.params.followText "set-order")) }).objs.size := by
          rw [Heap.size_push]; exact Nat.ne_of_lt (Nat.lt_succ_of_lt hlS)
        have hSf : s.heap.objs.size ∉ [(s.heap.push { cls := .type "set", dict := none, data := .set #[] 0 (.fresh 0 0 (!w.params.followText "set-order")) }).objs.size, l] := by
          rw [Heap.size_push]; simp only [List.mem_cons, List.mem_singleton, List.not_mem_nil, or_false, not_or]
          exact ⟨Nat.ne_of_lt (Nat.lt_succ_self _), Nat.ne_of_gt hlS⟩
        have hval : ∀ (i : Nat) (v : Value), items[i]? = some v → ∃ p, ks[i]? = some p ∧ v = .ref p.2 := fun i v hv => by
          have q : items.toList[i]? = some v := by rw [Array.getElem?_toList]; exact hv
          rw [its, List.getElem?_map] at q
          obtain ⟨p, hp, e⟩ := Option.map_eq_some_iff.mp q
          exact ⟨p, hp, e.symm⟩
        have none_of : ∀ b, s.heap.objs.size ≤ b → s.heap.get? b = none := fun b hb => by
          cases q : s.heap.get? b with
          | none => rfl
          | some o => exact absurd (Nat.lt_of_lt_of_le (Heap.lt_size q) hb) (Nat.lt_irrefl _)
        refine update_k ((Walks.tuple hh3 _ l hneI items).toS) s.heap.objs.size
          hSf ks isz few hval s.heap hk (none_of _ (Nat.le_refl _)) (fun b hb => none_of b (by
            rw [List.mem_singleton.mp hb, Heap.size_push]
            exact Nat.le_succ _)) (by simp; omega) (items.size - 0) 0 _ (by omega) (Nat.zero_le _)
          ⟨⟨_, Heap.get?_push_size _ rfl, rfl, rfl⟩, (hl1.push _)⟩ (fun b o e => Heap.get?_push_of_some _ (Heap.get?_push_of_some _ e)) ?hS0 ?hR
        case hS0 =>
          have hget : ((s.heap.push { cls := .type "set", dict := none, data := .set #[] 0 (.fresh 0 0 (!w.params.followText "set-order")) }).push { cls := .type "tuple_iterator", data := .fields #[.ref l, .int 0 0] }).get? s.heap.objs.size
              = some { cls := .type "set", dict := none, data := .set #[] 0 (.fresh 0 0 (!w.params.followText "set-order")) } := Heap.get?_push_of_some _ hS
          exact ⟨[], #[], 0, _, setK_empty hget, Has.none ks⟩
        case hR =>
          intro s' L es ep t hm hS' g' hkp
          obtain ⟨h', g2, d', tk', os'⟩ := s'
          have eg : g2 = s.gens := hm.gens
          have ed : d' = s.drawn := hm.drawn
          have eo : os' = s.os := hm.os
          subst eg; subst ed; subst eo
          show wpAny _ _ _ _ _ _
          refine wpAny_pure ?_
          show wpAny _ _ (ret Value.none) _ _ _
          rw [isz] at g'
          exact wpAny_pure ⟨rfl, h', tk', L, es, ep, t, rfl, hS', g', hkp⟩

      · cases r₂ with
        | error e => exact hr₂
        | ok fl₂ =>
          cases fl₂ with
          | ret r =>
            obtain ⟨rfl, h', tk, L, es, ep, t, rfl, hS', g', hk'⟩ := hr₂
            repeat (any_goals (first | assumption | wp_step))
            exact fin _ _ _ _ _ _ hS' g' hk'
          | _ => exact hr₂.elim
    | _ => exact hr.elim
end
end NB
end
section
set_option Elab.async false
set_option linter.all false
set_option maxRecDepth 100000
/-! Core 1: values without a heap, a store of cells, programs as functions of them. -/
namespace NB
open PySem

/-- a value: data; a cell of the store; a def by its name; a tuple with such a part; a set by its members; the script -/
inductive Val where
  | dat (d : PyData)
  | loc (l : Nat)
  | fn (x : Str)
  | mix (xs : List Val)
  | set (ks : List PyData)
  | scr (ns : List Int)

inductive Cell where
  | dead
  | lst (xs : List Val)
  | dct (kvs : List (PyData × Val))

abbrev Sto := List Cell
structure Exc where
  cls : Str
  args : List Val
inductive Res (α : Type) where
  | ok (a : α) (S : Sto)
  | raise (e : Exc) (S : Sto)
  | fail
def Res.bind {α β : Type} (r : Res α) (f : α → Sto → Res β) : Res β := match r with
  | .ok a S => f a S
  | .raise e S => .raise e S
  | .fail => .fail
@[simp] theorem Res.bind_ok {α β : Type} (a : α) (S : Sto) (f : α → Sto → Res β) : (Res.ok a S).bind f = f a S := rfl
@[simp] theorem Res.bind_fail {α β : Type} (f : α → Sto → Res β) : (Res.fail : Res α).bind f = .fail := rfl
@[simp] theorem Res.bind_raise {α β : Type} (e : Exc) (S : Sto) (f : α → Sto → Res β) : (Res.raise e S : Res α).bind f = .raise e S := rfl
/-- what an option gives -/
def Res.of {α : Type} (S : Sto) : Option α → Res α
  | some a => .ok a S
  | none => .fail
@[simp] theorem Res.of_some {α : Type} (S : Sto) (a : α) : Res.of S (some a) = .ok a S := rfl
@[simp] theorem Res.of_none {α : Type} (S : Sto) : Res.of S (none : Option α) = .fail := rfl
theorem Res.bind_eq_ok {α β : Type} {r : Res α} {f : α → Sto → Res β} {b : β} {S : Sto} (h : r.bind f = .ok b S) : ∃ a S1, r = .ok a S1 ∧ f a S1 = .ok b S := by
  cases r with
  | ok a S1 => exact ⟨a, S1, rfl, h⟩
  | raise e S1 => cases h
  | fail => cases h
theorem Res.of_eq_ok {α : Type} {S S1 : Sto} {o : Option α} {a : α} (h : Res.of S o = .ok a S1) : o = some a ∧ S1 = S := by
  cases o with
  | none => cases h
  | some b => cases h; exact ⟨rfl, rfl⟩
theorem opt_bind_some {α β : Type} {o : Option α} {f : α → Option β} {b : β} (h : (o.bind f) = some b) : ∃ a, o = some a ∧ f a = some b := by
  cases o with
  | none => cases h
  | some a => exact ⟨a, rfl, h⟩

abbrev Env := List (Option Val)
abbrev XE := Env → Sto → Res Val
inductive Flw where
  | next | brk | cont
  | ret (v : Val)
abbrev XS := Env → Sto → Res (Flw × Env)
/-- the defs of the module, by name -/
abbrev FT := Str → List Val → Sto → Res Val

/-! ### data -/
def allDat : List Val → Option (List PyData)
  | [] => some []
  | .dat d :: r => (allDat r).map (d :: ·)
  | _ => none
@[simp] theorem allDat_nil : allDat [] = some [] := rfl
@[simp] theorem allDat_cons (d : PyData) (r : List Val) : allDat (.dat d :: r) = (allDat r).map (d :: ·) := rfl
@[simp] theorem allDat_map : ∀ ds : List PyData, allDat (ds.map .dat) = some ds
  | [] => rfl
  | d :: r => by rw [List.map_cons, allDat_cons, allDat_map r]; rfl
@[simp] theorem allDat_mapf {α : Type} (f : α → PyData) (xs : List α) : allDat (xs.map fun x => .dat (f x)) = some (xs.map f) := by
  have e : (xs.map fun x => Val.dat (f x)) = (xs.map f).map .dat := by rw [List.map_map]; rfl
  rw [e, allDat_map]
theorem allDat_eq : ∀ {xs : List Val} {ds : List PyData}, allDat xs = some ds → xs = ds.map .dat
  | [], ds, h => by cases h; rfl
  | .dat d :: r, ds, h => by
    rw [allDat_cons] at h
    cases e : allDat r with
    | none => rw [e] at h; cases h
    | some es => rw [e] at h; cases h; rw [allDat_eq e]; rfl
  | .loc _ :: _, _, h => by cases h
  | .fn _ :: _, _, h => by cases h
  | .mix _ :: _, _, h => by cases h
  | .set _ :: _, _, h => by cases h
  | .scr _ :: _, _, h => by cases h
def mkTup (xs : List Val) : Val := match allDat xs with
  | some ds => .dat (.tuple ds)
  | none => .mix xs
@[simp] theorem mkTup_dat (ds : List PyData) : mkTup (ds.map .dat) = .dat (.tuple ds) := by unfold mkTup; rw [allDat_map]
/-- data, or what a cell holds now if that is data -/
def view (S : Sto) : Val → Option PyData
  | .dat d => some d
  | .loc l => match S[l]? with
    | some (.lst xs) => (allDat xs).map .list
    | _ => none
  | _ => none
@[simp] theorem view_dat (S : Sto) (d : PyData) : view S (.dat d) = some d := rfl
/-- the items of a list, a tuple -/
def items (S : Sto) : Val → Option (List Val)
  | .dat (.list ds) => some (ds.map .dat)
  | .dat (.tuple ds) => some (ds.map .dat)
  | .mix xs => some xs
  | .scr ns => some (ns.map fun n => .dat (.int n))
  | .loc l => match S[l]? with
    | some (.lst xs) => some xs
    | _ => none
  | _ => none
@[simp] theorem items_list (S : Sto) (ds : List PyData) : items S (.dat (.list ds)) = some (ds.map .dat) := rfl
@[simp] theorem items_tuple (S : Sto) (ds : List PyData) : items S (.dat (.tuple ds)) = some (ds.map .dat) := rfl
@[simp] theorem items_mix (S : Sto) (xs : List Val) : items S (.mix xs) = some xs := rfl

/-! ### values below a place of the store -/
mutual
def Val.under (n : Nat) : Val → Bool
  | .loc l => decide (l < n)
  | .mix xs => Val.unders n xs
  | _ => true
def Val.unders (n : Nat) : List Val → Bool
  | [] => true
  | x :: xs => Val.under n x && Val.unders n xs
end
@[simp] theorem under_dat (n : Nat) (d : PyData) : Val.under n (.dat d) = true := by unfold Val.under; rfl
@[simp] theorem under_loc (n l : Nat) : Val.under n (.loc l) = decide (l < n) := by unfold Val.under; rfl
theorem unders_all (n : Nat) : ∀ xs : List Val, Val.unders n xs = xs.all (Val.under n)
  | [] => by unfold Val.unders; rfl
  | x :: xs => by unfold Val.unders; rw [unders_all n xs]; rfl
def Cell.under (n : Nat) : Cell → Bool
  | .dead => true
  | .lst xs => xs.all (Val.under n)
  | .dct kvs => kvs.all fun p => Val.under n p.2

/-! ### what data are good for == (no dict within, not too deep) -/
def eqOk (d : PyData) : Bool := d.plain && decide (d.depth ≤ 64)
theorem eqOk_plain {d : PyData} (h : eqOk d = true) : d.plain = true := (Bool.and_eq_true_iff.mp h).1
theorem eqOk_depth {d : PyData} (h : eqOk d = true) : d.depth ≤ 64 := of_decide_eq_true (Bool.and_eq_true_iff.mp h).2
end NB
end
section
set_option Elab.async false
set_option linter.all false
set_option maxRecDepth 100000
/-! Core 2: how values stand in a heap. -/
namespace NB
open PySem PySem.Spec PyProof.Rows L2

/-- the module at hand: program, world, written part, its names -/
structure Mo where
  prog : Program
  w : World
  K : PySem.W.Frag
  mg : Str → Option Value
abbrev _root_.L2.Cx.mo (X : Cx) : Mo := ⟨X.prog, X.w, X.K, X.mg⟩
/-! ### keys -/
def kdat : Key → PyData
  | .inl i => .int i
  | .inr x => .str x
mutual
def nkey : PyData → Option NestedKey
  | .none => some .none
  | .bool b => some (.num (if b then 1 else 0))
  | .int i => some (.num i)
  | .str x => some (.text x)
  | .tuple ds => (nkeys ds).map .tup
  | .list _ => none
  | .dict _ => none
def nkeys : List PyData → Option (List NestedKey)
  | [] => some []
  | d :: ds => (nkey d).bind fun k => (nkeys ds).map fun ks => k :: ks
end

section
variable (P : Program) (w : World)
/-- a dict whose keys are tuples: its rows (the key, the key's own object, the value) -/
def DTRaw (h : Heap) (a : Addr) (rows : List (NestedKey × Addr × V)) : Prop :=
  rows.length ≤ sizeLine ∧ (a == sysModules) = false ∧ ∃ us : List Value, Vals (rows.map (·.2.2)) us ∧ ∃ o es ep, h.get? a = some o ∧ o.ExactDict ∧ o.data = .dict es ep ∧
    es.toList = ((rows.zip us).map fun p => (p.1.1, p.1.2.1, p.2)).map (entryOfKey (nestedKind P w)) ∧ (rows.map (·.1)).Nodup
def DTO (a : Addr) (rows : List (NestedKey × Addr × V)) : HO := .ext fun h => DTRaw P w h a rows
end

mutual
/-- a part of a key: whole numbers, None, tuples of such (each such key stands for one datum) -/
def kOk : PyData → Bool
  | .none => true
  | .int _ => true
  | .tuple ds => kOks ds
  | _ => false
def kOks : List PyData → Bool
  | [] => true
  | d :: ds => kOk d && kOks ds
end
/-- a key of a set: a tuple -/
def keyOk (d : PyData) : Bool := (match d with
  | .tuple _ => true
  | _ => false) && (kOk d && decide (d.depth ≤ 8))
/-- the set at a, without its keys -/
structure SetK0 (w : World) (h : Heap) (a : Addr) (L : List (NestedKey × Addr)) : Prop where
  ex : ∃ (es : Array (Int × Value)) (ep : Nat) (t : SetTable), (∃ o, h.get? a = some o ∧ o.ExactSet ∧ o.data = .set es ep t) ∧ es.toList = rowsK w L ∧ TabP t (hashK w L) ∧ (L.map (·.1)).Nodup ∧ t.plain = true ∧ (w.params.followText "set-order" = true ∨ t.led = true) ∧ L.length * 5 < t.mask * 3
def SetKO (w : World) (a : Addr) (L : List (NestedKey × Addr)) : HO := .ext fun h => SetK0 w h a L
/-- a list that nobody writes: the script -/
def ScrL (K : PySem.W.Frag) (H : Hp) (a : Addr) (xs : List V) : Prop :=
  (∃ o, H a = some (.frz o (.lst xs))) ∨
    ∃ (o : Obj) (its : Array Value) (n : Nat), K.lookup a = some o ∧ o.cls = .type "list" ∧ o.dict = none ∧ o.data = .seq its n ∧ its.size ≤ sizeLine ∧ Vals xs its.toList
theorem ScrL.sq {K : PySem.W.Frag} {H : Hp} {a : Addr} {xs : List V} (h : ScrL K H a xs) : SqL K H a xs := by
  rcases h with h | h
  · exact .inl (.inr h)
  · exact .inr h
/-- where the cells stand; what nobody may lean on (a list that is being made) -/
structure Lay where
  c : List Addr
  g : List Addr := []
abbrev Lay.push (ι : Lay) (p : Addr) : Lay := ⟨ι.c ++ [p], ι.g⟩
abbrev Lay.cut (ι : Lay) (n : Nat) : Lay := ⟨ι.c.take n, ι.g⟩
/-- a live cell stands at a -/
def cellAt (ι : Lay) (S : Sto) (a : Addr) : Prop := ∃ (l : Nat) (c : Cell), ι.c[l]? = some a ∧ S[l]? = some c ∧ c ≠ .dead
def live (ι : Lay) (S : Sto) (a : Addr) : Prop := cellAt ι S a ∨ a ∈ ι.g

section
variable (X : Mo)
mutual
inductive RepD (H : Hp) (bad : Addr → Prop) : PyData → V → Prop
  | non : RepD H bad .none .non
  | bl (b : Bool) : RepD H bad (.bool b) (.bl b)
  | int (i : Int) : RepD H bad (.int i) (.int i)
  | str (x : Str) : RepD H bad (.str x) (.str x)
  | tup {a : Addr} {vs : List V} {ds : List PyData} : SqT X.K H a vs → ds.length ≤ sizeLine → RepDs H bad ds vs → RepD H bad (.tuple ds) (.ref a)
  | lst {a : Addr} {vs : List V} {ds : List PyData} : H a = some (.lst vs) → ¬ bad a → ds.length ≤ sizeLine → RepDs H bad ds vs → RepD H bad (.list ds) (.ref a)
  | dctK {a : Addr} {rows : List (Key × V)} {kvs : List (PyData × PyData)} : H a = some (.dK rows) → ¬ bad a → kvs.map (·.1) = rows.map (fun r => kdat r.1) → RepDs H bad (kvs.map (·.2)) (rows.map (·.2)) → RepD H bad (.dict kvs) (.ref a)
  | dctT {a : Addr} {rows : List (NestedKey × Addr × V)} {kvs : List (PyData × PyData)} : H a = some (DTO X.prog X.w a rows) → ¬ bad a → kvs.map (fun p => nkey p.1) = rows.map (fun r => some r.1) →
      RepDs H bad (kvs.map (·.1)) (rows.map fun r => .ref r.2.1) → RepDs H bad (kvs.map (·.2)) (rows.map (·.2.2)) → RepD H bad (.dict kvs) (.ref a)
inductive RepDs (H : Hp) (bad : Addr → Prop) : List PyData → List V → Prop
  | nil : RepDs H bad [] []
  | cons {d : PyData} {v : V} {ds : List PyData} {vs : List V} : RepD H bad d v → RepDs H bad ds vs → RepDs H bad (d :: ds) (v :: vs)
end
mutual
inductive RepV (ι : Lay) (S : Sto) (H : Hp) : Val → V → Prop
  | dat {d : PyData} {v : V} : RepD X H (live ι S) d v → RepV ι S H (.dat d) v
  | loc {l : Nat} {a : Addr} : ι.c[l]? = some a → RepV ι S H (.loc l) (.ref a)
  | fn {x : Str} {a : Addr} : X.mg x = some (.ref a) → RepV ι S H (.fn x) (.ref a)
  | mix {a : Addr} {vs : List V} {xs : List Val} : SqT X.K H a vs → xs.length ≤ sizeLine → RepVs ι S H xs vs → RepV ι S H (.mix xs) (.ref a)
  | scr {a : Addr} {ns : List Int} : ScrL X.K H a (ns.map V.int) → ns.length ≤ sizeLine → RepV ι S H (.scr ns) (.ref a)
  | setK {a : Addr} {L : List (NestedKey × Addr)} {ds : List PyData} : H a = some (SetKO X.w a L) → ¬ live ι S a → (∀ p ∈ L, ∃ d ∈ ds, nkey d = some p.1 ∧ RepD X H (live ι S) d (.ref p.2)) → (∀ d ∈ ds, ∃ p ∈ L, nkey d = some p.1) → (∀ d ∈ ds, keyOk d = true) → L.length ≤ 1299 → RepV ι S H (.set ds) (.ref a)
inductive RepVs (ι : Lay) (S : Sto) (H : Hp) : List Val → List V → Prop
  | nil : RepVs ι S H [] []
  | cons {x : Val} {v : V} {xs : List Val} {vs : List V} : RepV ι S H x v → RepVs ι S H xs vs → RepVs ι S H (x :: xs) (v :: vs)
end
/-- what stands at a cell's address -/
def CellOk (ι : Lay) (S : Sto) (H : Hp) (a : Addr) : Cell → Prop
  | .dead => True
  | .lst xs => ∃ vs, H a = some (.lst vs) ∧ xs.length ≤ sizeLine ∧ RepVs X ι S H xs vs
  | .dct kvs => (∃ rows : List (Key × V), H a = some (.dK rows) ∧ kvs.map (·.1) = rows.map (fun r => kdat r.1) ∧ RepVs X ι S H (kvs.map (·.2)) (rows.map (·.2))) ∨
      ∃ rows : List (NestedKey × Addr × V), H a = some (DTO X.prog X.w a rows) ∧ kvs.map (fun p => nkey p.1) = rows.map (fun r => some r.1) ∧
        RepDs X H (live ι S) (kvs.map (·.1)) (rows.map fun r => .ref r.2.1) ∧ RepVs X ι S H (kvs.map (·.2)) (rows.map (·.2.2)) ∧ rows ≠ []
structure StoreOk (ι : Lay) (S : Sto) (H : Hp) : Prop where
  len : ι.c.length = S.length
  nd : ι.c.Nodup
  there : ∀ a ∈ ι.c, H a ≠ none
  gh : ∀ a ∈ ι.g, a ∉ ι.c ∧ ((∃ xs, H a = some (.lst xs)) ∨ ∃ r, H a = some (.dK r))
  cell : ∀ (l : Nat) (a : Addr) (c : Cell), ι.c[l]? = some a → S[l]? = some c → CellOk X ι S H a c
  wf : ∀ (l : Nat) (c : Cell), S[l]? = some c → c.under l = true
end
/-- nothing that stood has changed but live cells -/
structure Ext0 (ι : Lay) (S : Sto) (H : Hp) (ι' : Lay) (S' : Sto) (H' : Hp) : Prop where
  pre : ι.c <+: ι'.c
  keep : ∀ a o, H a = some o → ¬ live ι S a → H' a = some o ∧ ¬ live ι' S' a
  some_ : ∀ a, H a ≠ none → H' a ≠ none
structure Ext (ι : Lay) (S : Sto) (H : Hp) (ι' : Lay) (S' : Sto) (H' : Hp) : Prop extends Ext0 ι S H ι' S' H' where
  gh : ι'.g = ι.g
  gk : ∀ a ∈ ι.g, H' a = H a
instance (ι : Lay) (S : Sto) (H : Hp) (ι' : Lay) (S' : Sto) (H' : Hp) : CoeOut (Ext ι S H ι' S' H') (Ext0 ι S H ι' S' H') := ⟨Ext.toExt0⟩

section
variable {X : Mo} {ι ι' ι2 : Lay} {S S' S2 : Sto} {H H' H2 : Hp}
theorem Ext.refl : Ext ι S H ι S H := ⟨⟨List.prefix_refl _, fun _ _ h n => ⟨h, n⟩, fun _ h => h⟩, rfl, fun _ _ => rfl⟩
theorem Ext0.trans (a : Ext0 ι S H ι' S' H') (b : Ext0 ι' S' H' ι2 S2 H2) : Ext0 ι S H ι2 S2 H2 :=
  ⟨a.pre.trans b.pre, fun p o h n => let ⟨h1, n1⟩ := a.keep p o h n; b.keep p o h1 n1, fun p h => b.some_ p (a.some_ p h)⟩
theorem Ext.trans (a : Ext ι S H ι' S' H') (b : Ext ι' S' H' ι2 S2 H2) : Ext ι S H ι2 S2 H2 :=
  ⟨a.toExt0.trans b.toExt0, b.gh.trans a.gh, fun p h => (b.gk p (a.gh ▸ h)).trans (a.gk p h)⟩
theorem pre_get {l : Nat} {a : Addr} (p : ι.c <+: ι'.c) (h : ι.c[l]? = some a) : ι'.c[l]? = some a := by
  obtain ⟨r, hr⟩ := p
  rw [← hr, List.getElem?_append_left (List.getElem?_eq_some_iff.mp h).1]
  exact h
/-- a tuple is no live cell -/
theorem StoreOk.tup {a : Addr} (so : StoreOk X ι S H) {o : HO} (h : H a = some o) (n1 : ∀ xs, o ≠ .lst xs) (n2 : ∀ r, o ≠ .dK r) (n3 : ∀ φ, o ≠ .ext φ) : ¬ live ι S a := by
  rintro (⟨l, c, h1, h2, h3⟩ | hg)
  case inr =>
    rcases (so.gh a hg).2 with ⟨xs, e⟩ | ⟨r, e⟩
    · rw [h] at e; exact n1 _ (Option.some.inj e)
    · rw [h] at e; exact n2 _ (Option.some.inj e)
  have k := so.cell l a c h1 h2
  cases c with
  | dead => exact h3 rfl
  | lst xs => obtain ⟨vs, e, _⟩ := k; rw [h] at e; exact n1 _ (Option.some.inj e)
  | dct kvs =>
    rcases k with ⟨rows, e, _⟩ | ⟨rows, e, _⟩
    · rw [h] at e; exact n2 _ (Option.some.inj e)
    · rw [h] at e; exact n3 _ (Option.some.inj e)
theorem sqT_keep {a : Addr} {vs : List V} (so : StoreOk X ι S H) (e : Ext0 ι S H ι' S' H') (h : SqT X.K H a vs) : SqT X.K H' a vs := by
  rcases h with (h | ⟨o, h⟩) | h
  · exact .inl (.inl (e.keep _ _ h (so.tup h (by intro _ z; cases z) (by intro _ z; cases z) (by intro _ z; cases z))).1)
  · exact .inl (.inr ⟨o, (e.keep _ _ h (so.tup h (by intro _ z; cases z) (by intro _ z; cases z) (by intro _ z; cases z))).1⟩)
  · exact .inr h
theorem sqL_keep {a : Addr} {vs : List V} (e : Ext0 ι S H ι' S' H') (n : ¬ live ι S a) (h : SqL X.K H a vs) : SqL X.K H' a vs := by
  rcases h with (h | ⟨o, h⟩) | h
  · exact .inl (.inl (e.keep _ _ h n).1)
  · exact .inl (.inr ⟨o, (e.keep _ _ h n).1⟩)
  · exact .inr h
end
section
variable {X : Mo} {ι ι' ι2 : Lay} {S S' S2 : Sto} {H H' H2 : Hp}
mutual
theorem RepD.mono (so : StoreOk X ι S H) (e : Ext0 ι S H ι' S' H') : ∀ {d : PyData} {v : V}, RepD X H (live ι S) d v → RepD X H' (live ι' S') d v
  | _, _, .non => .non
  | _, _, .bl b => .bl b
  | _, _, .int i => .int i
  | _, _, .str x => .str x
  | _, _, .tup h z r => .tup (sqT_keep so e h) z (RepDs.mono so e r)
  | _, _, .lst h n z r => .lst (e.keep _ _ h n).1 (e.keep _ _ h n).2 z (RepDs.mono so e r)
  | _, _, .dctK h n k r => .dctK (e.keep _ _ h n).1 (e.keep _ _ h n).2 k (RepDs.mono so e r)
  | _, _, .dctT h n k r1 r2 => .dctT (e.keep _ _ h n).1 (e.keep _ _ h n).2 k (RepDs.mono so e r1) (RepDs.mono so e r2)
theorem RepDs.mono (so : StoreOk X ι S H) (e : Ext0 ι S H ι' S' H') : ∀ {ds : List PyData} {vs : List V}, RepDs X H (live ι S) ds vs → RepDs X H' (live ι' S') ds vs
  | _, _, .nil => .nil
  | _, _, .cons r t => .cons (RepD.mono so e r) (RepDs.mono so e t)
end
theorem scr_keep {a : Addr} {vs : List V} (so : StoreOk X ι S H) (e : Ext0 ι S H ι' S' H') (h : ScrL X.K H a vs) : ScrL X.K H' a vs := by
  rcases h with ⟨o, h⟩ | h
  · exact .inl ⟨o, (e.keep _ _ h (so.tup h (by intro _ z; cases z) (by intro _ z; cases z) (by intro _ z; cases z))).1⟩
  · exact .inr h
mutual
theorem RepV.mono (so : StoreOk X ι S H) (e : Ext0 ι S H ι' S' H') : ∀ {x : Val} {v : V}, RepV X ι S H x v → RepV X ι' S' H' x v
  | _, _, .dat r => .dat (RepD.mono so e r)
  | _, _, .loc h => .loc (pre_get e.pre h)
  | _, _, .fn h => .fn h
  | _, _, .mix h z r => .mix (sqT_keep so e h) z (RepVs.mono so e r)
  | _, _, .scr h z => .scr (scr_keep so e h) z
  | _, _, .setK h n g1 g2 g3 g4 => .setK (e.keep _ _ h n).1 (e.keep _ _ h n).2 (fun p hp => let ⟨d, hd, hk, r⟩ := g1 p hp; ⟨d, hd, hk, RepD.mono so e r⟩) g2 g3 g4
theorem RepVs.mono (so : StoreOk X ι S H) (e : Ext0 ι S H ι' S' H') : ∀ {xs : List Val} {vs : List V}, RepVs X ι S H xs vs → RepVs X ι' S' H' xs vs
  | _, _, .nil => .nil
  | _, _, .cons r t => .cons (RepV.mono so e r) (RepVs.mono so e t)
end
theorem CellOk.mono {a : Addr} {c : Cell} (so : StoreOk X ι S H) (e : Ext0 ι S H ι' S' H') (ha : H' a = H a) (k : CellOk X ι S H a c) : CellOk X ι' S' H' a c := by
  cases c with
  | dead => trivial
  | lst xs => obtain ⟨vs, h, z, r⟩ := k; exact ⟨vs, ha.trans h, z, r.mono so e⟩
  | dct kvs =>
    rcases k with ⟨rows, h, k, r⟩ | ⟨rows, h, k, r1, r2⟩
    · exact .inl ⟨rows, ha.trans h, k, r.mono so e⟩
    · exact .inr ⟨rows, ha.trans h, k, r1.mono so e, r2.1.mono so e, r2.2⟩
/-! ### lists of values -/
theorem RepDs.len : ∀ {ds : List PyData} {vs : List V} {H : Hp} {bad : Addr → Prop}, RepDs X H bad ds vs → ds.length = vs.length
  | _, _, _, _, .nil => rfl
  | _, _, _, _, .cons _ t => congrArg (· + 1) t.len
theorem RepVs.len : ∀ {xs : List Val} {vs : List V}, RepVs X ι S H xs vs → xs.length = vs.length
  | _, _, .nil => rfl
  | _, _, .cons _ t => congrArg (· + 1) t.len
theorem RepDs.vs : ∀ {ds : List PyData} {vs : List V}, RepDs X H (live ι S) ds vs → RepVs X ι S H (ds.map .dat) vs
  | _, _, .nil => .nil
  | _, _, .cons r t => .cons (.dat r) t.vs
theorem RepVs.ds : ∀ {ds : List PyData} {vs : List V}, RepVs X ι S H (ds.map .dat) vs → RepDs X H (live ι S) ds vs
  | [], _, h => by cases h; exact .nil
  | d :: ds, _, h => by
    cases h with
    | cons r t => cases r with
      | dat r => exact .cons r t.ds
theorem RepVs.ds' {xs : List Val} {ds : List PyData} {vs : List V} (h : RepVs X ι S H xs vs) (e : allDat xs = some ds) : RepDs X H (live ι S) ds vs := by
  rw [allDat_eq e] at h
  exact h.ds
theorem RepVs.get {xs : List Val} {vs : List V} (h : RepVs X ι S H xs vs) : ∀ {i : Nat} {x : Val}, xs[i]? = some x → ∃ v, vs[i]? = some v ∧ RepV X ι S H x v := by
  induction xs generalizing vs with
  | nil => intro i x e; simp at e
  | cons y ys ih =>
    cases h with
    | cons r t =>
      intro i x e
      cases i with
      | zero => simp at e; subst e; exact ⟨_, rfl, r⟩
      | succ i => simpa using ih t (by simpa using e)
theorem RepVs.get' {xs : List Val} {vs : List V} (h : RepVs X ι S H xs vs) : ∀ {i : Nat} {v : V}, vs[i]? = some v → ∃ x, xs[i]? = some x ∧ RepV X ι S H x v := by
  induction xs generalizing vs with
  | nil => cases h; intro i x e; simp at e
  | cons y ys ih =>
    cases h with
    | cons r t =>
      intro i x e
      cases i with
      | zero => simp at e; subst e; exact ⟨_, rfl, r⟩
      | succ i => simpa using ih t (by simpa using e)
theorem RepVs.append : ∀ {xs ys : List Val} {vs ws : List V}, RepVs X ι S H xs vs → RepVs X ι S H ys ws → RepVs X ι S H (xs ++ ys) (vs ++ ws)
  | _, _, _, _, .nil, h => h
  | _, _, _, _, .cons r t, h => .cons r (t.append h)
theorem RepDs.append : ∀ {xs ys : List PyData} {vs ws : List V} {H : Hp} {bad : Addr → Prop}, RepDs X H bad xs vs → RepDs X H bad ys ws → RepDs X H bad (xs ++ ys) (vs ++ ws)
  | _, _, _, _, _, _, .nil, h => h
  | _, _, _, _, _, _, .cons r t, h => .cons r (t.append h)
theorem RepDs.take : ∀ {xs : List PyData} {vs : List V} {H : Hp} {bad : Addr → Prop} (n : Nat), RepDs X H bad xs vs → RepDs X H bad (xs.take n) (vs.take n)
  | _, _, _, _, 0, _ => .nil
  | _, _, _, _, _ + 1, .nil => .nil
  | _, _, _, _, n + 1, .cons r t => .cons r (t.take n)
theorem RepDs.drop : ∀ {xs : List PyData} {vs : List V} {H : Hp} {bad : Addr → Prop} (n : Nat), RepDs X H bad xs vs → RepDs X H bad (xs.drop n) (vs.drop n)
  | _, _, _, _, 0, h => h
  | _, _, _, _, _ + 1, .nil => .nil
  | _, _, _, _, n + 1, .cons _ t => t.drop n
theorem RepVs.set {xs : List Val} {vs : List V} {x : Val} {v : V} (h : RepVs X ι S H xs vs) (r : RepV X ι S H x v) : ∀ i : Nat, RepVs X ι S H (xs.set i x) (vs.set i v) := by
  induction xs generalizing vs with
  | nil => cases h; intro i; exact .nil
  | cons y ys ih =>
    cases h with
    | cons r' t =>
      intro i
      cases i with
      | zero => exact .cons r t
      | succ i => exact .cons r' (ih t i)
theorem RepDs.get {ds : List PyData} {vs : List V} {H : Hp} {bad : Addr → Prop} (h : RepDs X H bad ds vs) : ∀ {i : Nat} {d : PyData}, ds[i]? = some d → ∃ v, vs[i]? = some v ∧ RepD X H bad d v := by
  induction ds generalizing vs with
  | nil => intro i x e; simp at e
  | cons y ys ih =>
    cases h with
    | cons r t =>
      intro i x e
      cases i with
      | zero => simp at e; subst e; exact ⟨_, rfl, r⟩
      | succ i => simpa using ih t (by simpa using e)

/-! ### new things -/
theorem StoreOk.ghN (so : StoreOk X ι S H) {a : Addr} (h : a ∈ ι.g) : H a ≠ none := by
  rcases (so.gh a h).2 with ⟨x, e⟩ | ⟨x, e⟩ <;> (rw [e]; intro z; cases z)
theorem live_lt {a : Addr} (so : StoreOk X ι S H) (h : live ι S a) : H a ≠ none := by
  rcases h with ⟨l, c, h1, h2, _⟩ | h
  · exact so.there a (List.mem_of_getElem? h1)
  · exact so.ghN h
theorem fresh_not_live {p : Addr} (so : StoreOk X ι S H) (hp : H p = none) : ¬ live ι S p := fun h => live_lt so h hp
theorem upd_some {p a : Addr} {o : HO} (h : H a ≠ none) : upd H p o a ≠ none := by
  unfold upd; split
  · exact fun z => by cases z
  · exact h
theorem upd_none {p a : Addr} {o : HO} (h : H a ≠ none) (hp : H p = none) : upd H p o a = H a := upd_ne fun z => h (by rw [z]; exact hp)
theorem gh_keep {p : Addr} {o : HO} (so : StoreOk X ι S H) (hp : H p = none) : ∀ a ∈ ι.g, upd H p o a = H a := fun _ ha => upd_none (so.ghN ha) hp
/-- a thing is laid that is no cell -/
theorem ext_new {p : Addr} {o : HO} (so : StoreOk X ι S H) (hp : H p = none) : Ext ι S H ι S (upd H p o) :=
  ⟨⟨List.prefix_refl _, fun a u h n => ⟨by rw [upd_ne (ne_of_none h hp)]; exact h, n⟩, fun a h => upd_some h⟩, rfl, gh_keep so hp⟩
theorem so_new {p : Addr} {o : HO} (so : StoreOk X ι S H) (hp : H p = none) : StoreOk X ι S (upd H p o) := by
  have e := ext_new (o := o) so hp
  refine ⟨so.len, so.nd, fun a ha => e.some_ a (so.there a ha), fun a ha => ⟨(so.gh a ha).1, by rw [gh_keep so hp a ha]; exact (so.gh a ha).2⟩, fun l a c h1 h2 => ?_, so.wf⟩
  refine CellOk.mono so e ?_ (so.cell l a c h1 h2)
  exact upd_none (so.there a (List.mem_of_getElem? h1)) hp
/-- the cells behind a new one -/
theorem cell_snoc {p a : Addr} {c : Cell} (hl : ι.c.length = S.length) (h : cellAt (ι.push p) (S ++ [c]) a) : cellAt ι S a ∨ a = p := by
  obtain ⟨l, c', h1, h2, h3⟩ := h
  have h1 : (ι.c ++ [p])[l]? = some a := h1
  by_cases hlt : l < ι.c.length
  · rw [List.getElem?_append_left hlt] at h1
    rw [List.getElem?_append_left (by omega)] at h2
    exact .inl ⟨l, c', h1, h2, h3⟩
  · rw [List.getElem?_append_right (by omega)] at h1
    have e : l - ι.c.length = 0 := by
      have := (List.getElem?_eq_some_iff.mp h1).1
      simp at this; omega
    rw [e] at h1
    exact .inr (by simpa using h1.symm)
theorem live_snoc {p a : Addr} {c : Cell} (hl : ι.c.length = S.length) (h : live (ι.push p) (S ++ [c]) a) : live ι S a ∨ a = p := by
  rcases h with h | h
  · rcases cell_snoc hl h with z | z
    · exact .inl (.inl z)
    · exact .inr z
  · exact .inl (.inr h)
/-- a new cell -/
theorem ext_cell {p : Addr} {o : HO} {c : Cell} (so : StoreOk X ι S H) (hp : H p = none) : Ext ι S H (ι.push p) (S ++ [c]) (upd H p o) := by
  refine ⟨⟨List.prefix_append _ _, fun a u h n => ⟨by rw [upd_ne (ne_of_none h hp)]; exact h, fun hl => ?_⟩, fun a h => upd_some h⟩, rfl, gh_keep so hp⟩
  rcases live_snoc so.len hl with z | z
  · exact n z
  · rw [z, hp] at h; cases h
theorem so_cell {p : Addr} {o : HO} {c : Cell} (so : StoreOk X ι S H) (hp : H p = none) (hc : CellOk X (ι.push p) (S ++ [c]) (upd H p o) p c) (hw : c.under S.length = true) : StoreOk X (ι.push p) (S ++ [c]) (upd H p o) := by
  have e := ext_cell (c := c) (o := o) so hp
  have hpi : p ∉ ι.c := fun z => so.there p z hp
  refine ⟨by simp [so.len], ?_, fun a ha => ?_, fun a ha => ?_, fun l a c' h1 h2 => ?_, fun l c' h => ?_⟩
  · show (ι.c ++ [p]).Nodup
    rw [List.nodup_append]
    exact ⟨so.nd, by simp, fun a ha b hb => by simp at hb; rintro rfl; exact hpi (hb ▸ ha)⟩
  · rcases List.mem_append.mp ha with z | z
    · exact e.some_ a (so.there a z)
    · simp at z; rw [z, upd_same]; intro q; cases q
  · have ha : a ∈ ι.g := ha
    refine ⟨fun z => ?_, by rw [gh_keep so hp a ha]; exact (so.gh a ha).2⟩
    rcases List.mem_append.mp z with z | z
    · exact (so.gh a ha).1 z
    · simp at z; exact so.ghN ha (by rw [z]; exact hp)
  · have h1 : (ι.c ++ [p])[l]? = some a := h1
    by_cases hlt : l < ι.c.length
    · rw [List.getElem?_append_left hlt] at h1
      rw [List.getElem?_append_left (by rw [← so.len]; exact hlt)] at h2
      refine CellOk.mono so e ?_ (so.cell l a c' h1 h2)
      exact upd_ne (fun z => hpi (z ▸ List.mem_of_getElem? h1))
    · rw [List.getElem?_append_right (by omega)] at h1
      rw [List.getElem?_append_right (by rw [← so.len]; omega)] at h2
      have e1 : l - ι.c.length = 0 := by
        have := (List.getElem?_eq_some_iff.mp h1).1
        simp at this; omega
      rw [← so.len, e1] at h2
      rw [e1] at h1
      simp at h1 h2
      subst h1 h2
      exact hc
  · by_cases hlt : l < S.length
    · rw [List.getElem?_append_left hlt] at h; exact so.wf l c' h
    · rw [List.getElem?_append_right (by omega)] at h
      have e1 : l - S.length = 0 := by
        have := (List.getElem?_eq_some_iff.mp h).1
        simp at this; omega
      rw [e1] at h
      simp at h
      subst h
      have : l = S.length := by omega
      rw [this]; exact hw
/-- the cell l is live at a -/
theorem live_of {l : Nat} {a : Addr} {c : Cell} (h1 : ι.c[l]? = some a) (h2 : S[l]? = some c) (h3 : c ≠ .dead) : live ι S a := .inl ⟨l, c, h1, h2, h3⟩
theorem live_set {l : Nat} {a : Addr} {c c' : Cell} {b : Addr} (h1 : ι.c[l]? = some a) (h2 : S[l]? = some c) (h3 : c ≠ .dead) (h : live ι (S.set l c') b) : live ι S b := by
  rcases h with ⟨m, d, k1, k2, k3⟩ | h
  · by_cases e : l = m
    · subst e
      rw [h1] at k1; cases k1
      exact live_of h1 h2 h3
    · rw [List.getElem?_set_ne e] at k2
      exact live_of k1 k2 k3
  · exact .inr h
/-- a live cell is written -/
theorem ext_set {l : Nat} {a : Addr} {c c' : Cell} {o : HO} (so : StoreOk X ι S H) (h1 : ι.c[l]? = some a) (h2 : S[l]? = some c) (h3 : c ≠ .dead) : Ext ι S H ι (S.set l c') (upd H a o) := by
  refine ⟨⟨List.prefix_refl _, fun b u h n => ⟨?_, fun hl => n (live_set h1 h2 h3 hl)⟩, fun b h => upd_some h⟩, rfl, fun b hb => ?_⟩
  · rw [upd_ne (fun z => n (by rw [z]; exact live_of h1 h2 h3))]; exact h
  · exact upd_ne fun z => (so.gh b hb).1 (by rw [z]; exact List.mem_of_getElem? h1)
theorem so_set {l : Nat} {a : Addr} {c c' : Cell} {o : HO} (so : StoreOk X ι S H) (h1 : ι.c[l]? = some a) (h2 : S[l]? = some c) (h3 : c ≠ .dead) (hc : CellOk X ι (S.set l c') (upd H a o) a c') (hw : c'.under l = true) : StoreOk X ι (S.set l c') (upd H a o) := by
  have e := ext_set (o := o) (c' := c') so h1 h2 h3
  have hl : l < S.length := (List.getElem?_eq_some_iff.mp h2).1
  refine ⟨by simpa using so.len, so.nd, fun b hb => e.some_ b (so.there b hb), fun b hb => ⟨(so.gh b hb).1, by rw [e.gk b hb]; exact (so.gh b hb).2⟩, fun m b d k1 k2 => ?_, fun m d k => ?_⟩
  · by_cases em : l = m
    · subst em
      rw [h1] at k1; cases k1
      rw [List.getElem?_set_self hl] at k2; cases k2
      exact hc
    · rw [List.getElem?_set_ne em] at k2
      refine CellOk.mono so e (upd_ne ?_) (so.cell m b d k1 k2)
      rintro rfl
      exact em ((List.getElem?_inj (List.getElem?_eq_some_iff.mp h1).1 so.nd).mp (h1.trans k1.symm))
  · by_cases em : l = m
    · subst em
      rw [List.getElem?_set_self hl] at k; cases k
      exact hw
    · rw [List.getElem?_set_ne em] at k; exact so.wf m d k
/-- a cell is given up: what stands there stays for good -/
theorem live_kill {l : Nat} {b : Addr} (h : live ι (S.set l .dead) b) : live ι S b := by
  rcases h with ⟨m, d, k1, k2, k3⟩ | h
  · by_cases e : l = m
    · subst e
      have hl : l < S.length := by simpa using (List.getElem?_eq_some_iff.mp k2).1
      rw [List.getElem?_set_self hl] at k2; cases k2
      exact absurd rfl k3
    · rw [List.getElem?_set_ne e] at k2
      exact live_of k1 k2 k3
  · exact .inr h
theorem ext_kill {l : Nat} : Ext ι S H ι (S.set l .dead) H := ⟨⟨List.prefix_refl _, fun b u h n => ⟨h, fun hl => n (live_kill hl)⟩, fun _ h => h⟩, rfl, fun _ _ => rfl⟩
theorem so_kill {l : Nat} (so : StoreOk X ι S H) : StoreOk X ι (S.set l .dead) H := by
  have e := ext_kill (ι := ι) (S := S) (H := H) (l := l)
  refine ⟨by simpa using so.len, so.nd, so.there, so.gh, fun m b d k1 k2 => ?_, fun m d k => ?_⟩
  · by_cases em : l = m
    · subst em
      have hl : l < S.length := by simpa using (List.getElem?_eq_some_iff.mp k2).1
      rw [List.getElem?_set_self hl] at k2; cases k2
      trivial
    · rw [List.getElem?_set_ne em] at k2
      exact CellOk.mono so e rfl (so.cell m b d k1 k2)
  · by_cases em : l = m
    · subst em
      have hl : l < S.length := by simpa using (List.getElem?_eq_some_iff.mp k).1
      rw [List.getElem?_set_self hl] at k; cases k
      rfl
    · rw [List.getElem?_set_ne em] at k; exact so.wf m d k
theorem kill_not_live {l : Nat} {a : Addr} (so : StoreOk X ι S H) (h1 : ι.c[l]? = some a) (hl : l < S.length) : ¬ live ι (S.set l .dead) a := by
  rintro (⟨m, d, k1, k2, k3⟩ | h)
  · have e : l = m := (List.getElem?_inj (List.getElem?_eq_some_iff.mp h1).1 so.nd).mp (h1.trans k1.symm)
    subst e
    rw [List.getElem?_set_self hl] at k2; cases k2
    exact k3 rfl
  · exact (so.gh a h).1 (List.mem_of_getElem? h1)

/-! ### the later cells forgotten -/
theorem live_take {n : Nat} {a : Addr} (h : live (ι.cut n) (S.take n) a) : live ι S a := by
  rcases h with ⟨l, c, h1, h2, h3⟩ | h
  · have h1 : (ι.c.take n)[l]? = some a := h1
    have hl : l < n := by
      have := (List.getElem?_eq_some_iff.mp h1).1
      rw [List.length_take] at this; omega
    rw [List.getElem?_take_of_lt hl] at h1 h2
    exact live_of h1 h2 h3
  · exact .inr h
mutual
theorem RepD.cut {n : Nat} : ∀ {d : PyData} {v : V}, RepD X H (live ι S) d v → RepD X H (live (ι.cut n) (S.take n)) d v
  | _, _, .non => .non
  | _, _, .bl b => .bl b
  | _, _, .int i => .int i
  | _, _, .str x => .str x
  | _, _, .tup h z r => .tup h z (RepDs.cut r)
  | _, _, .lst h k z r => .lst h (fun q => k (live_take q)) z (RepDs.cut r)
  | _, _, .dctK h k e r => .dctK h (fun q => k (live_take q)) e (RepDs.cut r)
  | _, _, .dctT h k e r1 r2 => .dctT h (fun q => k (live_take q)) e (RepDs.cut r1) (RepDs.cut r2)
theorem RepDs.cut {n : Nat} : ∀ {ds : List PyData} {vs : List V}, RepDs X H (live ι S) ds vs → RepDs X H (live (ι.cut n) (S.take n)) ds vs
  | _, _, .nil => .nil
  | _, _, .cons r t => .cons (RepD.cut r) (RepDs.cut t)
end
mutual
theorem RepV.cut {n : Nat} : ∀ {x : Val} {v : V}, x.under n = true → RepV X ι S H x v → RepV X (ι.cut n) (S.take n) H x v
  | _, _, _, .dat r => .dat r.cut
  | .loc l, _, u, .loc h => .loc (by show (ι.c.take n)[l]? = _; rw [List.getElem?_take_of_lt (by simpa using u)]; exact h)
  | _, _, _, .fn h => .fn h
  | .mix xs, _, u, .mix h z r => .mix h z (RepVs.cut (xs := xs) (by unfold Val.under at u; exact u) r)
  | _, _, _, .scr h z => .scr h z
  | _, _, _, .setK h k g1 g2 g3 g4 => .setK h (fun q => k (live_take q)) (fun p hp => let ⟨d, hd, hk, r⟩ := g1 p hp; ⟨d, hd, hk, r.cut⟩) g2 g3 g4
theorem RepVs.cut {n : Nat} : ∀ {xs : List Val} {vs : List V}, Val.unders n xs = true → RepVs X ι S H xs vs → RepVs X (ι.cut n) (S.take n) H xs vs
  | [], _, _, .nil => .nil
  | x :: xs, _, u, .cons r t => by
    unfold Val.unders at u
    rw [Bool.and_eq_true] at u
    exact .cons (RepV.cut u.1 r) (RepVs.cut u.2 t)
end
mutual
theorem under_mono {m n : Nat} (h : m ≤ n) : ∀ x : Val, x.under m = true → x.under n = true
  | .dat _, _ => by unfold Val.under; rfl
  | .loc l, u => by rw [under_loc] at u ⊢; simp at u ⊢; omega
  | .fn _, _ => by unfold Val.under; rfl
  | .mix xs, u => by unfold Val.under at u ⊢; exact unders_mono h xs u
  | .set _, _ => by unfold Val.under; rfl
  | .scr _, _ => by unfold Val.under; rfl
theorem unders_mono {m n : Nat} (h : m ≤ n) : ∀ xs : List Val, Val.unders m xs = true → Val.unders n xs = true
  | [], _ => by unfold Val.unders; rfl
  | x :: xs, u => by
    unfold Val.unders at u ⊢
    rw [Bool.and_eq_true] at u ⊢
    exact ⟨under_mono h x u.1, unders_mono h xs u.2⟩
end
theorem so_cut {n : Nat} (so : StoreOk X ι S H) : StoreOk X (ι.cut n) (S.take n) H := by
  refine ⟨by simp [so.len], so.nd.sublist (List.take_sublist _ _), fun a ha => so.there a (List.mem_of_mem_take ha), fun a ha => ⟨fun z => (so.gh a ha).1 (List.mem_of_mem_take z), (so.gh a ha).2⟩, fun l a c h1 h2 => ?_, fun l c h => ?_⟩
  · have h1 : (ι.c.take n)[l]? = some a := h1
    have hl : l < n := by
      have := (List.getElem?_eq_some_iff.mp h1).1
      rw [List.length_take] at this; omega
    rw [List.getElem?_take_of_lt hl] at h1 h2
    have k := so.cell l a c h1 h2
    have wf := so.wf l c h2
    cases c with
    | dead => trivial
    | lst xs =>
      obtain ⟨vs, h, z, r⟩ := k
      refine ⟨vs, h, z, r.cut ?_⟩
      have u : xs.all (Val.under l) = true := wf
      rw [← unders_all] at u
      exact unders_mono (Nat.le_of_lt hl) xs u
    | dct kvs =>
      have u : (kvs.all fun p => Val.under l p.2) = true := wf
      have u2 : Val.unders n (kvs.map (·.2)) = true := by
        rw [unders_all, List.all_map]
        refine List.all_eq_true.mpr fun p hp => under_mono (Nat.le_of_lt hl) _ (List.all_eq_true.mp u p hp)
      rcases k with ⟨rows, h, e, r⟩ | ⟨rows, h, e, r1, r2⟩
      · exact .inl ⟨rows, h, e, r.cut u2⟩
      · exact .inr ⟨rows, h, e, r1.cut, r2.1.cut u2, r2.2⟩
  · have hl : l < n := by
      have := (List.getElem?_eq_some_iff.mp h).1
      rw [List.length_take] at this; omega
    rw [List.getElem?_take_of_lt hl] at h
    exact so.wf l c h
theorem pre_cut (so : StoreOk X ι S H) (e : Ext ι S H ι' S' H') : ι'.cut S.length = ι := by
  obtain ⟨r, hr⟩ := e.pre
  have h1 : ι'.c.take S.length = ι.c := by rw [← hr, ← so.len, List.take_left']; rfl
  show (⟨ι'.c.take S.length, ι'.g⟩ : Lay) = ι
  rw [h1, e.gh]
theorem ext_cut (so : StoreOk X ι S H) (e : Ext ι S H ι' S' H') : Ext ι S H ι (S'.take S.length) H' := by
  have e1 := pre_cut so e
  refine ⟨⟨List.prefix_refl _, fun a o h n => ⟨(e.keep a o h n).1, fun q => (e.keep a o h n).2 ?_⟩, e.some_⟩, rfl, e.gk⟩
  rw [← e1] at q
  exact live_take q

/-! ### a thing that is being made -/
abbrev Lay.gst (ι : Lay) (D : Addr) : Lay := ⟨ι.c, D :: ι.g⟩
theorem live_gst {D a : Addr} (h : live (ι.gst D) S a) : live ι S a ∨ a = D := by
  rcases h with h | h
  · exact .inl (.inl h)
  · rcases List.mem_cons.mp h with z | z
    · exact .inr z
    · exact .inl (.inr z)
theorem ext0_gst {D : Addr} {o : HO} (so : StoreOk X ι S H) (hD : H D = none) : Ext0 ι S H (ι.gst D) S (upd H D o) := by
  refine ⟨List.prefix_refl _, fun a u h n => ⟨by rw [upd_ne (ne_of_none h hD)]; exact h, fun hl => ?_⟩, fun a h => upd_some h⟩
  rcases live_gst hl with z | z
  · exact n z
  · rw [z, hD] at h; cases h
theorem so_gst {D : Addr} {o : HO} (so : StoreOk X ι S H) (hD : H D = none) (ho : (∃ xs, o = .lst xs) ∨ ∃ r, o = .dK r) : StoreOk X (ι.gst D) S (upd H D o) := by
  have e := ext0_gst (o := o) so hD
  refine ⟨so.len, so.nd, fun a ha => e.some_ a (so.there a ha), fun a ha => ?_, fun l a c h1 h2 => ?_, so.wf⟩
  · rcases List.mem_cons.mp ha with z | z
    · subst z
      refine ⟨fun z => so.there _ z hD, ?_⟩
      rw [upd_same]
      rcases ho with ⟨x, rfl⟩ | ⟨x, rfl⟩
      · exact .inl ⟨_, rfl⟩
      · exact .inr ⟨_, rfl⟩
    · exact ⟨(so.gh a z).1, by rw [upd_none (so.ghN z) hD]; exact (so.gh a z).2⟩
  · exact CellOk.mono so e (upd_none (so.there a (List.mem_of_getElem? h1)) hD) (so.cell l a c h1 h2)
/-- it is written -/
theorem ext0_gset {D : Addr} {o : HO} (so : StoreOk X ι S H) (hD : D ∈ ι.g) : Ext0 ι S H ι S (upd H D o) :=
  ⟨List.prefix_refl _, fun a u h n => ⟨by rw [upd_ne fun z => n (.inr (by rw [z]; exact hD))]; exact h, n⟩, fun a h => upd_some h⟩
theorem so_gset {D : Addr} {o : HO} (so : StoreOk X ι S H) (hD : D ∈ ι.g) (ho : (∃ xs, o = .lst xs) ∨ ∃ r, o = .dK r) : StoreOk X ι S (upd H D o) := by
  have e := ext0_gset (o := o) so hD
  refine ⟨so.len, so.nd, fun a ha => e.some_ a (so.there a ha), fun a ha => ⟨(so.gh a ha).1, ?_⟩, fun l a c h1 h2 => ?_, so.wf⟩
  · by_cases z : a = D
    · subst z
      rw [upd_same]
      rcases ho with ⟨x, rfl⟩ | ⟨x, rfl⟩
      · exact .inl ⟨_, rfl⟩
      · exact .inr ⟨_, rfl⟩
    · rw [upd_ne z]; exact (so.gh a ha).2
  · exact CellOk.mono so e (upd_ne fun z => (so.gh D hD).1 (by rw [← z]; exact List.mem_of_getElem? h1)) (so.cell l a c h1 h2)
/-- it is made -/
abbrev Lay.off (ι : Lay) (g : List Addr) : Lay := ⟨ι.c, g⟩
theorem live_off {g : List Addr} {a : Addr} (hg : ∀ x ∈ g, x ∈ ι.g) (h : live (ι.off g) S a) : live ι S a := by
  rcases h with h | h
  · exact .inl h
  · exact .inr (hg a h)
theorem ext0_off {g : List Addr} (hg : ∀ x ∈ g, x ∈ ι.g) : Ext0 ι S H (ι.off g) S H := ⟨List.prefix_refl _, fun a u h n => ⟨h, fun q => n (live_off hg q)⟩, fun a h => h⟩
theorem so_off {g : List Addr} (so : StoreOk X ι S H) (hg : ∀ x ∈ g, x ∈ ι.g) : StoreOk X (ι.off g) S H :=
  ⟨so.len, so.nd, so.there, fun a ha => so.gh a (hg a ha), fun l a c h1 h2 => CellOk.mono so (ext0_off hg) rfl (so.cell l a c h1 h2), so.wf⟩
end
end NB
end
section
set_option Elab.async false
set_option linter.all false
set_option maxRecDepth 100000
/-! Core 3: what a program's part gives, as a reading of the layer. -/
namespace NB
open PySem PySem.Spec PyProof.Rows L2

/-- a statement's result -/
inductive SRes where
  | ok (f : Flw) (ρ : Env) (S : Sto)
  | raise (e : Exc) (ρ : Env) (S : Sto)
  | fail
abbrev Sg := L2.St
abbrev XSt := Env → Sto → SRes
abbrev Wish := Exc → Lay → Sto → Hp → Prop

section
variable (X : Mo)
/-- the names' values -/
structure EnvOk (ι : Lay) (S : Sto) (H : Hp) (ρ : Env) (σ : Sg) : Prop where
  len : ρ.length = σ.length
  at_ : ∀ (i : Nat) (x : Val), ρ[i]? = some (some x) → ∃ v, σ[i]? = some (some v) ∧ RepV X ι S H x v
def Post (W : Wish) (ι : Lay) (S : Sto) (H : Hp) (r : Res Val) (Q : VK) : Prop := match r with
  | .ok x S' => ∀ (v : V) (ι' : Lay) (H' : Hp), Ext ι S H ι' S' H' → StoreOk X ι' S' H' → RepV X ι' S' H' x v → Q v H'
  | .raise e S' => ∀ (ι' : Lay) (H' : Hp), Ext ι S H ι' S' H' → StoreOk X ι' S' H' → W e ι' S' H'
  | .fail => False
def PostL (W : Wish) (ι : Lay) (S : Sto) (H : Hp) (r : Res (List Val)) (Q : List V → Hp → Prop) : Prop := match r with
  | .ok xs S' => ∀ (vs : List V) (ι' : Lay) (H' : Hp), Ext ι S H ι' S' H' → StoreOk X ι' S' H' → RepVs X ι' S' H' xs vs → Q vs H'
  | .raise e S' => ∀ (ι' : Lay) (H' : Hp), Ext ι S H ι' S' H' → StoreOk X ι' S' H' → W e ι' S' H'
  | .fail => False
def PostB {α : Type} (W : Wish) (ι : Lay) (S : Sto) (H : Hp) (r : Res α) (Q : α → Hp → Prop) : Prop := match r with
  | .ok b S' => ∀ (ι' : Lay) (H' : Hp), Ext ι S H ι' S' H' → StoreOk X ι' S' H' → Q b H'
  | .raise e S' => ∀ (ι' : Lay) (H' : Hp), Ext ι S H ι' S' H' → StoreOk X ι' S' H' → W e ι' S' H'
  | .fail => False
def liftE (W : Sg → Wish) (m : XE) : TE := fun σ H Q => ∃ ρ ι S, EnvOk X ι S H ρ σ ∧ StoreOk X ι S H ∧ Post X (W σ) ι S H (m ρ S) Q
def liftA (W : Sg → Wish) (m : Env → Sto → Res (List Val)) : TA := fun σ H Q => ∃ ρ ι S, EnvOk X ι S H ρ σ ∧ StoreOk X ι S H ∧ PostL X (W σ) ι S H (m ρ S) Q
def liftO (W : Sg → Wish) (m : Env → Sto → Res (Option Int)) : TO := fun σ H Q => ∃ ρ ι S, EnvOk X ι S H ρ σ ∧ StoreOk X ι S H ∧ PostB X (W σ) ι S H (m ρ S) Q
def liftT (W : Sg → Wish) (m : Env → Sto → Res Bool) : TT := fun σ H Q => ∃ ρ ι S, EnvOk X ι S H ρ σ ∧ StoreOk X ι S H ∧ PostB X (W σ) ι S H (m ρ S) Q
def PostS (W : Sg → Wish) (ι : Lay) (S : Sto) (H : Hp) (r : SRes) (D : Ends) : Prop := match r with
  | .ok .next ρ' S' => ∀ (σ' : Sg) (ι' : Lay) (H' : Hp), Ext ι S H ι' S' H' → StoreOk X ι' S' H' → EnvOk X ι' S' H' ρ' σ' → D.nx σ' H'
  | .ok .brk ρ' S' => ∀ (σ' : Sg) (ι' : Lay) (H' : Hp), Ext ι S H ι' S' H' → StoreOk X ι' S' H' → EnvOk X ι' S' H' ρ' σ' → D.bk σ' H'
  | .ok .cont ρ' S' => ∀ (σ' : Sg) (ι' : Lay) (H' : Hp), Ext ι S H ι' S' H' → StoreOk X ι' S' H' → EnvOk X ι' S' H' ρ' σ' → D.ct σ' H'
  | .ok (.ret x) _ S' => ∀ (v : V) (ι' : Lay) (H' : Hp), Ext ι S H ι' S' H' → StoreOk X ι' S' H' → RepV X ι' S' H' x v → D.rt v H'
  | .raise e ρ' S' => ∀ (σ' : Sg) (ι' : Lay) (H' : Hp), Ext ι S H ι' S' H' → StoreOk X ι' S' H' → EnvOk X ι' S' H' ρ' σ' → W σ' e ι' S' H'
  | .fail => False
def liftS (W : Sg → Wish) (m : XSt) : TS := fun D σ H => ∃ ρ ι S, EnvOk X ι S H ρ σ ∧ StoreOk X ι S H ∧ PostS X W ι S H (m ρ S) D
end

section
variable {X : Mo} {ι ι' ι2 : Lay} {S S' S2 : Sto} {H H' H2 : Hp} {W : Wish} {WS : Sg → Wish}
theorem EnvOk.mono {ρ : Env} {σ : Sg} (ok : EnvOk X ι S H ρ σ) (so : StoreOk X ι S H) (e : Ext0 ι S H ι' S' H') : EnvOk X ι' S' H' ρ σ :=
  ⟨ok.len, fun i x h => let ⟨v, h1, r⟩ := ok.at_ i x h; ⟨v, h1, r.mono so e⟩⟩
theorem EnvOk.set {ρ : Env} {σ : Sg} {x : Val} {v : V} (ok : EnvOk X ι S H ρ σ) (r : RepV X ι S H x v) (i : Nat) : EnvOk X ι S H (ρ.set i (some x)) (σ.set i (some v)) := by
  refine ⟨by simp [ok.len], fun j y h => ?_⟩
  by_cases e : i = j
  · subst e
    have hl : i < ρ.length := by simpa using (List.getElem?_eq_some_iff.mp h).1
    rw [List.getElem?_set_self hl] at h
    cases h
    exact ⟨v, List.getElem?_set_self (by rw [← ok.len]; exact hl), r⟩
  · rw [List.getElem?_set_ne e] at h ⊢
    exact ok.at_ j y h
theorem Post.mono {r : Res Val} {Q Q' : VK} (h : Post X W ι S H r Q) (k : ∀ v H', Q v H' → Q' v H') : Post X W ι S H r Q' := by
  cases r with
  | ok x S' => exact fun v ι' H' e so rv => k v H' (h v ι' H' e so rv)
  | raise e S' => exact h
  | fail => exact h
theorem PostL.mono {r : Res (List Val)} {Q Q' : List V → Hp → Prop} (h : PostL X W ι S H r Q) (k : ∀ v H', Q v H' → Q' v H') : PostL X W ι S H r Q' := by
  cases r with
  | ok x S' => exact fun v ι' H' e so rv => k v H' (h v ι' H' e so rv)
  | raise e S' => exact h
  | fail => exact h
theorem PostB.mono {α : Type} {r : Res α} {Q Q' : α → Hp → Prop} (h : PostB X W ι S H r Q) (k : ∀ v H', Q v H' → Q' v H') : PostB X W ι S H r Q' := by
  cases r with
  | ok x S' => exact fun ι' H' e so => k x H' (h ι' H' e so)
  | raise e S' => exact h
  | fail => exact h
/-- from an elder world -/
theorem Post.from {r : Res Val} {Q : VK} (e : Ext ι S H ι' S' H') (h : Post X W ι S H r Q) : Post X W ι' S' H' r Q := by
  cases r with
  | ok x S2 => exact fun v ι2 H2 e2 so rv => h v ι2 H2 (e.trans e2) so rv
  | raise x S2 => exact fun ι2 H2 e2 so => h ι2 H2 (e.trans e2) so
  | fail => exact h
theorem PostL.from {r : Res (List Val)} {Q : List V → Hp → Prop} (e : Ext ι S H ι' S' H') (h : PostL X W ι S H r Q) : PostL X W ι' S' H' r Q := by
  cases r with
  | ok x S2 => exact fun v ι2 H2 e2 so rv => h v ι2 H2 (e.trans e2) so rv
  | raise x S2 => exact fun ι2 H2 e2 so => h ι2 H2 (e.trans e2) so
  | fail => exact h
theorem PostB.from {α : Type} {r : Res α} {Q : α → Hp → Prop} (e : Ext ι S H ι' S' H') (h : PostB X W ι S H r Q) : PostB X W ι' S' H' r Q := by
  cases r with
  | ok x S2 => exact fun ι2 H2 e2 so => h ι2 H2 (e.trans e2) so
  | raise x S2 => exact fun ι2 H2 e2 so => h ι2 H2 (e.trans e2) so
  | fail => exact h
theorem PostS.from {r : SRes} {D : Ends} (e : Ext ι S H ι' S' H') (h : PostS X WS ι S H r D) : PostS X WS ι' S' H' r D := by
  cases r with
  | ok f ρ S2 =>
    cases f with
    | next => exact fun σ ι2 H2 e2 so en => h σ ι2 H2 (e.trans e2) so en
    | brk => exact fun σ ι2 H2 e2 so en => h σ ι2 H2 (e.trans e2) so en
    | cont => exact fun σ ι2 H2 e2 so en => h σ ι2 H2 (e.trans e2) so en
    | ret v => exact fun v ι2 H2 e2 so rv => h v ι2 H2 (e.trans e2) so rv
  | raise x ρ S2 => exact fun σ ι2 H2 e2 so en => h σ ι2 H2 (e.trans e2) so en
  | fail => exact h
theorem Post.bind {r : Res Val} {f : Val → Sto → Res Val} {Q : VK} (h : Post X W ι S H (r.bind f) Q) :
    Post X W ι S H r fun v H1 => ∃ x ι1 S1, Ext ι S H ι1 S1 H1 ∧ StoreOk X ι1 S1 H1 ∧ RepV X ι1 S1 H1 x v ∧ Post X W ι1 S1 H1 (f x S1) Q := by
  cases r with
  | ok x S1 => exact fun v ι1 H1 e so rv => ⟨x, ι1, S1, e, so, rv, h.from e⟩
  | raise x S1 => exact h
  | fail => exact h
theorem Post.bindL {r : Res Val} {f : Val → Sto → Res (List Val)} {Q : List V → Hp → Prop} (h : PostL X W ι S H (r.bind f) Q) :
    Post X W ι S H r fun v H1 => ∃ x ι1 S1, Ext ι S H ι1 S1 H1 ∧ StoreOk X ι1 S1 H1 ∧ RepV X ι1 S1 H1 x v ∧ PostL X W ι1 S1 H1 (f x S1) Q := by
  cases r with
  | ok x S1 => exact fun v ι1 H1 e so rv => ⟨x, ι1, S1, e, so, rv, h.from e⟩
  | raise x S1 => exact h
  | fail => exact h
theorem Post.bindB {α : Type} {r : Res Val} {f : Val → Sto → Res α} {Q : α → Hp → Prop} (h : PostB X W ι S H (r.bind f) Q) :
    Post X W ι S H r fun v H1 => ∃ x ι1 S1, Ext ι S H ι1 S1 H1 ∧ StoreOk X ι1 S1 H1 ∧ RepV X ι1 S1 H1 x v ∧ PostB X W ι1 S1 H1 (f x S1) Q := by
  cases r with
  | ok x S1 => exact fun v ι1 H1 e so rv => ⟨x, ι1, S1, e, so, rv, h.from e⟩
  | raise x S1 => exact h
  | fail => exact h
theorem PostL.bind {r : Res (List Val)} {f : List Val → Sto → Res Val} {Q : VK} (h : Post X W ι S H (r.bind f) Q) :
    PostL X W ι S H r fun v H1 => ∃ x ι1 S1, Ext ι S H ι1 S1 H1 ∧ StoreOk X ι1 S1 H1 ∧ RepVs X ι1 S1 H1 x v ∧ Post X W ι1 S1 H1 (f x S1) Q := by
  cases r with
  | ok x S1 => exact fun v ι1 H1 e so rv => ⟨x, ι1, S1, e, so, rv, h.from e⟩
  | raise x S1 => exact h
  | fail => exact h
theorem PostL.bindL {r : Res (List Val)} {f : List Val → Sto → Res (List Val)} {Q : List V → Hp → Prop} (h : PostL X W ι S H (r.bind f) Q) :
    PostL X W ι S H r fun v H1 => ∃ x ι1 S1, Ext ι S H ι1 S1 H1 ∧ StoreOk X ι1 S1 H1 ∧ RepVs X ι1 S1 H1 x v ∧ PostL X W ι1 S1 H1 (f x S1) Q := by
  cases r with
  | ok x S1 => exact fun v ι1 H1 e so rv => ⟨x, ι1, S1, e, so, rv, h.from e⟩
  | raise x S1 => exact h
  | fail => exact h
theorem PostB.bind {α : Type} {r : Res α} {f : α → Sto → Res Val} {Q : VK} (h : Post X W ι S H (r.bind f) Q) :
    PostB X W ι S H r fun b H1 => ∃ ι1 S1, Ext ι S H ι1 S1 H1 ∧ StoreOk X ι1 S1 H1 ∧ Post X W ι1 S1 H1 (f b S1) Q := by
  cases r with
  | ok x S1 => exact fun ι1 H1 e so => ⟨ι1, S1, e, so, h.from e⟩
  | raise x S1 => exact h
  | fail => exact h
theorem PostB.bindB {α β : Type} {r : Res α} {f : α → Sto → Res β} {Q : β → Hp → Prop} (h : PostB X W ι S H (r.bind f) Q) :
    PostB X W ι S H r fun b H1 => ∃ ι1 S1, Ext ι S H ι1 S1 H1 ∧ StoreOk X ι1 S1 H1 ∧ PostB X W ι1 S1 H1 (f b S1) Q := by
  cases r with
  | ok x S1 => exact fun ι1 H1 e so => ⟨ι1, S1, e, so, h.from e⟩
  | raise x S1 => exact h
  | fail => exact h
/-- a pure end -/
theorem Post.of {o : Option Val} {Q : VK} (h : Post X W ι S H (Res.of S o) Q) : ∃ z, o = some z ∧ ∀ (v : V) (ι' : Lay) (H' : Hp), Ext ι S H ι' S H' → StoreOk X ι' S H' → RepV X ι' S H' z v → Q v H' := by
  cases o with
  | none => exact h.elim
  | some z => exact ⟨z, rfl, h⟩
theorem PostB.of {α : Type} {o : Option α} {Q : α → Hp → Prop} (h : PostB X W ι S H (Res.of S o) Q) : ∃ z, o = some z ∧ ∀ (ι' : Lay) (H' : Hp), Ext ι S H ι' S H' → StoreOk X ι' S H' → Q z H' := by
  cases o with
  | none => exact h.elim
  | some z => exact ⟨z, rfl, h⟩
end
/-- a reading may be changed for one that it follows from -/
theorem _root_.L2.PE.of {X : Cx} {e : Expr} {t t' : TE} (h : PE X e t) (k : ∀ σ H Q, t' σ H Q → t σ H Q) : PE X e t' := ⟨fun pins s σ H Q I q => h.run pins s σ H Q I (k _ _ _ q)⟩
theorem _root_.L2.PT.of {X : Cx} {e : Expr} {t t' : TT} (h : PT X e t) (k : ∀ σ H Q, t' σ H Q → t σ H Q) : PT X e t' := ⟨fun pins s σ H Q I q => h.run pins s σ H Q I (k _ _ _ q)⟩
theorem _root_.L2.PW.of {X : Cx} {e : Expr} {t t' : TT} (h : PW X e t) (k : ∀ σ H Q, t' σ H Q → t σ H Q) : PW X e t' := ⟨fun wh pins s σ H Q I q => h.run wh pins s σ H Q I (k _ _ _ q)⟩
theorem _root_.L2.PA.of {X : Cx} {e : List Expr} {t t' : TA} (h : PA X e t) (k : ∀ σ H Q, t' σ H Q → t σ H Q) : PA X e t' := ⟨fun p pins s σ H Q I q => h.run p pins s σ H Q I (k _ _ _ q)⟩
theorem _root_.L2.PS.of {X : Cx} {st : Stmt} {t t' : TS} (h : PS X st t) (k : ∀ D σ H, t' D σ H → t D σ H) : PS X st t' := ⟨fun pins s σ H D I q => h.run pins s σ H D I (k _ _ _ q)⟩
theorem _root_.L2.PSs.of {X : Cx} {st : List Stmt} {t t' : TS} (h : PSs X st t) (k : ∀ D σ H, t' D σ H → t D σ H) : PSs X st t' := ⟨fun pins s σ H D I q => h.run pins s σ H D I (k _ _ _ q)⟩
theorem _root_.L2.PG.of {X : Cx} {e : Expr} {t t' : TG} (h : PG X e t) (k : ∀ v σ H Q, t' v σ H Q → t v σ H Q) : PG X e t' := ⟨fun pins s σ H v u Q I r q => h.run pins s σ H v u Q I r (k _ _ _ _ q)⟩

/-! ### expressions -/
def xSlot (i : Nat) : XE := fun ρ S => match ρ[i]? with
  | some (some x) => .ok x S
  | _ => .fail
def xC (d : PyData) : XE := fun _ S => .ok (.dat d) S
def xFn (x : Str) : XE := fun _ S => .ok (.fn x) S
def xBin (g : Sto → Val → Val → Option Val) (a b : XE) : XE := fun ρ S => (a ρ S).bind fun x S1 => (b ρ S1).bind fun y S2 => Res.of S2 (g S2 x y)
def xUn (g : Sto → Val → Option Val) (a : XE) : XE := fun ρ S => (a ρ S).bind fun x S1 => Res.of S1 (g S1 x)
abbrev XA := Env → Sto → Res (List Val)
abbrev XT := Env → Sto → Res Bool
def aNil : XA := fun _ S => .ok [] S
def aCons (a : XE) (r : XA) : XA := fun ρ S => (a ρ S).bind fun x S1 => (r ρ S1).bind fun xs S2 => .ok (x :: xs) S2
def xTup (a : XA) : XE := fun ρ S => (a ρ S).bind fun xs S1 => .ok (mkTup xs) S1
/-- a list that nobody changes any more -/
def xLst (a : XA) : XE := fun ρ S => (a ρ S).bind fun xs S1 => Res.of S1 ((allDat xs).map fun ds => .dat (.list ds))
def newCell (c : Cell) (S : Sto) : Res Val := if c.under S.length then .ok (.loc S.length) (S ++ [c]) else .fail
/-- a list that will be changed -/
def xLstC (a : XA) : XE := fun ρ S => (a ρ S).bind fun xs S1 => newCell (.lst xs) S1

/-- by an operator's values -/
def rOp (X : Mo) (g : Sto → Val → Val → Option Val) : R2 := fun v1 v2 H Q => ∃ ι S x y z, StoreOk X ι S H ∧ RepV X ι S H x v1 ∧ RepV X ι S H y v2 ∧ g S x y = some z ∧
  ∀ v H', Ext ι S H ι S H' → StoreOk X ι S H' → RepV X ι S H' z v → Q v H'
def rUn (X : Mo) (g : Sto → Val → Option Val) : V → Hp → VK → Prop := fun v1 H Q => ∃ ι S x z, StoreOk X ι S H ∧ RepV X ι S H x v1 ∧ g S x = some z ∧
  ∀ v H', Ext ι S H ι S H' → StoreOk X ι S H' → RepV X ι S H' z v → Q v H'
def rCall (X : Mo) (g : Sto → List Val → Option Val) : List V → Hp → VK → Prop := fun vs H Q => ∃ ι S xs z, StoreOk X ι S H ∧ RepVs X ι S H xs vs ∧ g S xs = some z ∧
  ∀ v H', Ext ι S H ι S H' → StoreOk X ι S H' → RepV X ι S H' z v → Q v H'

section
variable {X : Cx} {W : Sg → Wish} {a b : Expr} {ma mb : XE} {pos : Pos} {σ : Sg} {H : Hp} {Q : VK}
theorem de_slot {i : Nat} {x : Str} (hN : X.N[i]? = some x) (hv : Vis X.env.scope x) (hd : (x == ("__debug__" : Str)) = false) (hcd : (x == ("__classdict__" : Str)) = false) : PE X (.Name x pos) (liftE X.mo W (xSlot i)) := by
  refine (pe_var hN hv hd hcd).of fun σ H Q ⟨ρ, ι, S, en, so, h⟩ => ?_
  unfold xSlot at h
  cases e : ρ[i]? with
  | none => rw [e] at h; exact h.elim
  | some o =>
    cases o with
    | none => rw [e] at h; exact h.elim
    | some x =>
      rw [e] at h
      obtain ⟨v, h1, r⟩ := en.at_ i x e
      exact ⟨v, h1, h v ι H Ext.refl so r⟩
theorem de_c {e : Expr} {v : V} {d : PyData} (h : PE X e (tC v)) (r : ∀ H bad, RepD X.mo H bad d v) : PE X e (liftE X.mo W (xC d)) :=
  h.of fun σ H Q ⟨ρ, ι, S, en, so, h⟩ => h v ι H Ext.refl so (.dat (r _ _))
theorem de_fn {x : Str} {a : Addr} (hg : Gl X x) (hm : X.mg x = some (.ref a)) (hd : (x == ("__debug__" : Str)) = false) : PE X (.Name x pos) (liftE X.mo W (xFn x)) :=
  (pe_glob (v := .ref a) hg hm rfl hd).of fun σ H Q ⟨ρ, ι, S, en, so, h⟩ => h _ ι H Ext.refl so (.fn hm)
theorem de_bin {op : Operator} {g : Sto → Val → Val → Option Val} (ho : OpR X (binaryOp op) (rOp X.mo g)) (ha : PE X a (liftE X.mo W ma)) (hb : PE X b (liftE X.mo W mb)) : PE X (.BinOp a op b pos) (liftE X.mo W (xBin g ma mb)) := by
  refine (pe_op ho ha hb).of fun σ H Q ⟨ρ, ι, S, en, so, h⟩ => ⟨ρ, ι, S, en, so, ?_⟩
  refine (Post.bind h).mono fun v H1 ⟨x, ι1, S1, e1, so1, r1, h1⟩ => ⟨ρ, ι1, S1, en.mono so e1, so1, ?_⟩
  refine (Post.bind h1).mono fun v2 H2 ⟨y, ι2, S2, e2, so2, r2, h2⟩ => ?_
  obtain ⟨z, ez, k⟩ := h2.of
  exact ⟨ι2, S2, x, y, z, so2, r1.mono so1 e2, r2, ez, fun v H' e so' r => k v ι2 H' e so' r⟩
theorem de_un {op : UnaryOp} {g : Sto → Val → Option Val} (ho : UnR X (unaryOp op) (rUn X.mo g)) (ha : PE X a (liftE X.mo W ma)) : PE X (.UnaryOp op a pos) (liftE X.mo W (xUn g ma)) := by
  refine (pe_un ho ha).of fun σ H Q ⟨ρ, ι, S, en, so, h⟩ => ⟨ρ, ι, S, en, so, ?_⟩
  refine (Post.bind h).mono fun v H1 ⟨x, ι1, S1, e1, so1, r1, h1⟩ => ?_
  obtain ⟨z, ez, k⟩ := h1.of
  exact ⟨ι1, S1, x, z, so1, r1, ez, fun v H' e so' r => k v ι1 H' e so' r⟩
theorem da_nil : PA X [] (liftA X.mo W aNil) := pa_nil.of fun σ H Q ⟨ρ, ι, S, en, so, h⟩ => h [] ι H Ext.refl so .nil
theorem da_cons {es : List Expr} {mr : XA} (ha : PE X a (liftE X.mo W ma)) (hr : PA X es (liftA X.mo W mr)) (hs : starEach (a :: es) X.env = (false, eval a X.env) :: starEach es X.env) : PA X (a :: es) (liftA X.mo W (aCons ma mr)) := by
  refine (pa_cons ha hr hs).of fun σ H Q ⟨ρ, ι, S, en, so, h⟩ => ⟨ρ, ι, S, en, so, ?_⟩
  refine (Post.bindL h).mono fun v H1 ⟨x, ι1, S1, e1, so1, r1, h1⟩ => ⟨ρ, ι1, S1, en.mono so e1, so1, ?_⟩
  refine (PostL.bindL h1).mono fun vs H2 ⟨xs, ι2, S2, e2, so2, r2, h2⟩ => ?_
  exact h2 (v :: vs) ι2 H2 Ext.refl so2 (.cons (r1.mono so1 e2) r2)
/-- a new tuple -/
theorem new_tup {X : Mo} {ι : Lay} {S : Sto} {H : Hp} {xs : List Val} {vs : List V} {p : Addr} (so : StoreOk X ι S H) (r : RepVs X ι S H xs vs) (hz : xs.length ≤ sizeLine) (hp : H p = none) :
    Ext ι S H ι S (upd H p (.tup vs)) ∧ StoreOk X ι S (upd H p (.tup vs)) ∧ RepV X ι S (upd H p (.tup vs)) (mkTup xs) (.ref p) := by
  have e := ext_new (o := .tup vs) so hp
  refine ⟨e, so_new so hp, ?_⟩
  have r' := r.mono so e.toExt0
  unfold mkTup
  cases q : allDat xs with
  | none => exact .mix (SqT.of upd_same) hz r'
  | some ds =>
    refine .dat (.tup (SqT.of upd_same) ?_ (r'.ds' q))
    rw [allDat_eq q, List.length_map] at hz; exact hz
/-- a new list that stays -/
theorem new_lst {X : Mo} {ι : Lay} {S : Sto} {H : Hp} {ds : List PyData} {vs : List V} {p : Addr} (so : StoreOk X ι S H) (r : RepDs X H (live ι S) ds vs) (hz : ds.length ≤ sizeLine) (hp : H p = none) :
    Ext ι S H ι S (upd H p (.lst vs)) ∧ StoreOk X ι S (upd H p (.lst vs)) ∧ RepV X ι S (upd H p (.lst vs)) (.dat (.list ds)) (.ref p) := by
  have e := ext_new (o := .lst vs) so hp
  exact ⟨e, so_new so hp, .dat (.lst upd_same (fresh_not_live so hp) hz (r.mono so e))⟩
/-- a new list, as a cell -/
theorem new_cell {X : Mo} {ι : Lay} {S S' : Sto} {H : Hp} {xs : List Val} {x : Val} {vs : List V} {p : Addr} (so : StoreOk X ι S H) (r : RepVs X ι S H xs vs) (hz : xs.length ≤ sizeLine) (hp : H p = none) (h : newCell (.lst xs) S = .ok x S') :
    Ext ι S H (ι.push p) S' (upd H p (.lst vs)) ∧ StoreOk X (ι.push p) S' (upd H p (.lst vs)) ∧ RepV X (ι.push p) S' (upd H p (.lst vs)) x (.ref p) := by
  unfold newCell at h
  by_cases hw : (Cell.lst xs).under S.length = true
  · rw [if_pos hw] at h
    cases h
    have e := ext_cell (c := .lst xs) (o := .lst vs) so hp
    refine ⟨e, so_cell so hp ⟨vs, upd_same, hz, r.mono so e⟩ hw, .loc ?_⟩
    rw [← so.len, List.getElem?_append_right (Nat.le_refl _), Nat.sub_self]; rfl
  · rw [if_neg hw] at h; cases h
theorem PostL.know {X : Mo} {W : Wish} {ι : Lay} {S : Sto} {H : Hp} {r : Res (List Val)} {Q : List V → Hp → Prop} (h : PostL X W ι S H r Q) : PostL X W ι S H r fun vs H' => Q vs H' ∧ ∃ xs S', r = .ok xs S' ∧ xs.length = vs.length := by
  cases r with
  | ok x S' => exact fun v ι' H' e so rv => ⟨h v ι' H' e so rv, x, S', rfl, rv.len⟩
  | raise e S' => exact h
  | fail => exact h
/-- at most so many items -/
def LenOk (m : XA) : Prop := ∀ ρ S xs S', m ρ S = .ok xs S' → xs.length ≤ sizeLine
theorem de_tup {es : List Expr} {m : XA} {k : Nat} (h : PA X es (liftA X.mo W m)) (hl : LenOk m) : PE X (.Tuple es k pos) (liftE X.mo W (xTup m)) := by
  refine (pe_tup h).of fun σ H Q ⟨ρ, ι, S, en, so, h⟩ => ⟨ρ, ι, S, en, so, ?_⟩
  refine (PostL.bind h).know.mono fun vs H1 ⟨⟨xs, ι1, S1, e1, so1, r1, h1⟩, ys, S2, em, el⟩ => ?_
  have hz : vs.length ≤ sizeLine := by rw [← el]; exact hl _ _ _ _ em
  refine ⟨hz, fun p hp => ?_⟩
  obtain ⟨e, so', r⟩ := new_tup so1 r1 (by rw [r1.len]; exact hz) hp
  exact h1 _ _ _ e so' r
theorem de_lst {es : List Expr} {m : XA} (h : PA X es (liftA X.mo W m)) (hl : LenOk m) : PE X (.List es pos) (liftE X.mo W (xLst m)) := by
  refine (pe_lst h).of fun σ H Q ⟨ρ, ι, S, en, so, h⟩ => ⟨ρ, ι, S, en, so, ?_⟩
  refine (PostL.bind h).know.mono fun vs H1 ⟨⟨xs, ι1, S1, e1, so1, r1, h1⟩, ys, S2, em, el⟩ => ?_
  have hz : vs.length ≤ sizeLine := by rw [← el]; exact hl _ _ _ _ em
  refine ⟨hz, fun p hp => ?_⟩
  obtain ⟨z, ez, k⟩ := h1.of
  cases q : allDat xs with
  | none => rw [q] at ez; cases ez
  | some ds =>
    rw [q] at ez
    cases ez
    have r2 := r1.ds' q
    obtain ⟨e, so', r⟩ := new_lst so1 r2 (by rw [r2.len]; exact hz) hp
    exact k _ _ _ e so' r
theorem de_lstC {es : List Expr} {m : XA} (h : PA X es (liftA X.mo W m)) (hl : LenOk m) : PE X (.List es pos) (liftE X.mo W (xLstC m)) := by
  refine (pe_lst h).of fun σ H Q ⟨ρ, ι, S, en, so, h⟩ => ⟨ρ, ι, S, en, so, ?_⟩
  refine (PostL.bind h).know.mono fun vs H1 ⟨⟨xs, ι1, S1, e1, so1, r1, h1⟩, ys, S2, em, el⟩ => ?_
  have hz : vs.length ≤ sizeLine := by rw [← el]; exact hl _ _ _ _ em
  refine ⟨hz, fun p hp => ?_⟩
  cases q : newCell (.lst xs) S1 with
  | ok x S3 =>
    obtain ⟨e, so', r⟩ := new_cell so1 r1 (by rw [r1.len]; exact hz) hp q
    rw [q] at h1
    exact h1 _ _ _ e so' r
  | raise e S3 => unfold newCell at q; split at q <;> cases q
  | fail => rw [q] at h1; exact h1.elim
end
end NB
end
section
set_option Elab.async false
set_option linter.all false
set_option maxRecDepth 100000
set_option maxHeartbeats 1000000
/-! Core 4: operators. -/
namespace NB
open PySem PySem.Spec PyProof.Rows L2

/-! ### reading data off values -/
/-- at the value v data d are to be read; a list may be a live cell -/
inductive RdV (M : Mo) (H : Hp) (bad : Addr → Prop) : PyData → V → Prop
  | of {d : PyData} {v : V} : RepD M H bad d v → RdV M H bad d v
  | cell {a : Addr} {vs : List V} {ds : List PyData} : H a = some (.lst vs) → ds.length ≤ sizeLine → RepDs M H bad ds vs → RdV M H bad (.list ds) (.ref a)
section
variable {M : Mo} {ι : Lay} {S : Sto} {H : Hp} {bad : Addr → Prop}
theorem RdV.list {ds : List PyData} {v : V} (h : RdV M H bad (.list ds) v) : ∃ a vs, v = .ref a ∧ H a = some (.lst vs) ∧ ds.length ≤ sizeLine ∧ RepDs M H bad ds vs := by
  cases h with
  | of r => cases r with
    | lst h _ z r => exact ⟨_, _, rfl, h, z, r⟩
  | cell h z r => exact ⟨_, _, rfl, h, z, r⟩
theorem RdV.tup {ds : List PyData} {v : V} (h : RdV M H bad (.tuple ds) v) : ∃ a vs, v = .ref a ∧ SqT M.K H a vs ∧ ds.length ≤ sizeLine ∧ RepDs M H bad ds vs := by
  cases h with
  | of r => cases r with
    | tup h z r => exact ⟨_, _, rfl, h, z, r⟩
theorem RdV.int {i : Int} {v : V} (h : RdV M H bad (.int i) v) : v = .int i := by
  cases h with
  | of r => cases r; rfl
theorem RdV.str {x : Str} {v : V} (h : RdV M H bad (.str x) v) : v = .str x := by
  cases h with
  | of r => cases r; rfl
theorem RdV.bl {b : Bool} {v : V} (h : RdV M H bad (.bool b) v) : v = .bl b := by
  cases h with
  | of r => cases r; rfl
theorem RepV.rd (so : StoreOk M ι S H) {x : Val} {v : V} {d : PyData} (r : RepV M ι S H x v) (h : view S x = some d) : RdV M H (live ι S) d v := by
  cases r with
  | dat r => cases h; exact .of r
  | @loc l a hl =>
    have h' : (match S[l]? with
      | some (.lst xs) => (allDat xs).map .list
      | _ => none) = some d := h
    cases e : S[l]? with
    | none => rw [e] at h'; cases h'
    | some c =>
      rw [e] at h'
      cases c with
      | dead => cases h'
      | dct kvs => cases h'
      | lst xs =>
        obtain ⟨vs, h1, h2, h3⟩ := so.cell l a _ hl e
        cases q : allDat xs with
        | none => simp [q] at h'
        | some ds =>
          simp [q] at h'
          subst h'
          have e1 := allDat_eq q
          subst e1
          exact .cell h1 (by simpa using h2) h3.ds
  | fn _ => cases h
  | mix _ _ _ => cases h
  | scr _ _ => cases h
  | setK _ _ _ _ _ _ => cases h
end
section
variable {X : Cx} {pins : List (Addr × Obj)} {σ : L2.St} {H : Hp} {s : Shared}
/-- where nothing is asked of cells -/
abbrev noBad : Addr → Prop := fun _ => False
mutual
theorem RepD.weak {M : Mo} {H : Hp} {bad : Addr → Prop} : ∀ {d : PyData} {v : V}, RepD M H bad d v → RepD M H noBad d v
  | _, _, .non => .non
  | _, _, .bl b => .bl b
  | _, _, .int i => .int i
  | _, _, .str x => .str x
  | _, _, .tup h z r => .tup h z r.weak
  | _, _, .lst h _ z r => .lst h (fun q => q) z r.weak
  | _, _, .dctK h _ k r => .dctK h (fun q => q) k r.weak
  | _, _, .dctT h _ k r1 r2 => .dctT h (fun q => q) k r1.weak r2.weak
theorem RepDs.weak {M : Mo} {H : Hp} {bad : Addr → Prop} : ∀ {ds : List PyData} {vs : List V}, RepDs M H bad ds vs → RepDs M H noBad ds vs
  | _, _, .nil => .nil
  | _, _, .cons r t => .cons r.weak t.weak
end
theorem RdV.weak {M : Mo} {H : Hp} {bad : Addr → Prop} {d : PyData} {v : V} (h : RdV M H bad d v) : RepD M H noBad d v := by
  cases h with
  | of r => exact r.weak
  | cell h z r => exact .lst h (fun q => q) z r.weak
mutual
/-- the library's reading -/
theorem RepD.readsP {bad : Addr → Prop} (I : Inv X pins σ H s) : ∀ (d : PyData) (v : V) (u : Value), RepD X.mo H bad d v → RelV v u → d.plain = true → ∃ as, Reads s.heap u d as
  | .none, _, _, .non, r, _ => by cases r; exact ⟨_, .none⟩
  | .bool b, _, _, .bl _, r, _ => by cases r; exact ⟨_, .bool b⟩
  | .int i, _, _, .int _, r, _ => by obtain ⟨t, rfl⟩ := r; exact ⟨_, .int i t⟩
  | .str x, _, _, .str _, r, _ => by obtain ⟨t, rfl⟩ := r; exact ⟨_, .str x t⟩
  | .tuple ds, _, _, .tup h z rs, r, hl => by
    cases r
    obtain ⟨its, rv, ⟨o, ho, hc, n, hd⟩, _⟩ := I.tuple h
    obtain ⟨as, q⟩ := RepDs.readsP I ds _ its rs rv (by simpa [PyData.plain] using hl)
    exact ⟨as, .tuple ho hc hd q⟩
  | .list ds, _, _, .lst h _ z rs, r, hl => by
    cases r
    obtain ⟨its, rv, ⟨o, n, ho, hc, _, hd⟩, _⟩ := I.list (SqL.of h)
    obtain ⟨as, q⟩ := RepDs.readsP I ds _ its rs rv (by simpa [PyData.plain] using hl)
    exact ⟨_, .list ho hc hd q⟩
  | .dict _, _, _, _, _, hl => by simp [PyData.plain] at hl
theorem RepDs.readsP {bad : Addr → Prop} (I : Inv X pins σ H s) : ∀ (ds : List PyData) (vs : List V) (us : List Value), RepDs X.mo H bad ds vs → Vals vs us → PyData.plainAll ds = true → ∃ as, ReadsAll s.heap us ds as
  | [], _, _, .nil, .nil, _ => ⟨_, .nil⟩
  | d :: ds, _, _, .cons r t, .cons r' t', hl => by
    have hl' : d.plain = true ∧ PyData.plainAll ds = true := by simpa [PyData.plainAll] using hl
    obtain ⟨as, q1⟩ := RepD.readsP I d _ _ r r' hl'.1
    obtain ⟨bs, q2⟩ := RepDs.readsP I ds _ _ t t' hl'.2
    exact ⟨_, .cons q1 q2⟩
end
theorem RepD.reads {bad : Addr → Prop} (I : Inv X pins σ H s) (d : PyData) (v : V) (u : Value) (h : RepD X.mo H bad d v) (r : RelV v u) (hl : d.canLay0 = true) : ∃ as, Reads s.heap u d as := RepD.readsP I d v u h r (PyData.plain_of_canLay0 d hl)
end

/-! ### the operators, on data -/
def lift2 (f : PyData → PyData → Option PyData) : Sto → Val → Val → Option Val := fun S x y => (view S x).bind fun a => (view S y).bind fun b => (f a b).map .dat
def lift1 (f : PyData → Option PyData) : Sto → Val → Option Val := fun S x => (view S x).bind fun a => (f a).map .dat
@[simp] theorem lift2_dat (f : PyData → PyData → Option PyData) (S : Sto) (a b : PyData) : lift2 f S (.dat a) (.dat b) = (f a b).map .dat := rfl
@[simp] theorem lift1_dat (f : PyData → Option PyData) (S : Sto) (a : PyData) : lift1 f S (.dat a) = (f a).map .dat := rfl
def dAdd : PyData → PyData → Option PyData
  | .int a, .int b => some (.int (a + b))
  | .str a, .str b => if a.length + b.length ≤ sizeLine then some (.str (a ++ b)) else none
  | .tuple a, .tuple b => if a.length + b.length ≤ sizeLine then some (.tuple (a ++ b)) else none
  | .list a, .list b => if a.length + b.length ≤ sizeLine then some (.list (a ++ b)) else none
  | _, _ => none
def dSub : PyData → PyData → Option PyData
  | .int a, .int b => some (.int (a - b))
  | _, _ => none
def mulOk (i j : Int) : Bool := decide (-(2 ^ 64) < i ∧ i < 2 ^ 64) || (decide (-(2 ^ 64) < j ∧ j < 2 ^ 64) || decide (i.natAbs.log2 + j.natAbs.log2 < 1000000))
def dMul : PyData → PyData → Option PyData
  | .int a, .int b => if mulOk a b then some (.int (a * b)) else none
  | _, _ => none
def dMod : PyData → PyData → Option PyData
  | .int a, .int b => if 0 < b then some (.int (a % b)) else none
  | _, _ => none
def dFdiv : PyData → PyData → Option PyData
  | .int a, .int b => if 0 < b ∧ b.natAbs.log2 < 9000 then some (.int (a / b)) else none
  | _, _ => none
def dPow : PyData → PyData → Option PyData
  | .int a, .int b => if 0 ≤ b ∧ b ≤ 1000000 ∧ a.natAbs < 2 ^ 64 then some (.int (a ^ b.toNat)) else none
  | _, _ => none
def dNeg : PyData → Option PyData
  | .int a => some (.int (-a))
  | _ => none
def dNot : PyData → Option PyData
  | .bool b => some (.bool (!b))
  | _ => none
def dEq (a b : PyData) : Option PyData := if eqOk a && eqOk b then some (.bool (PyData.eqv a b)) else none
def dNe (a b : PyData) : Option PyData := if eqOk a && eqOk b then some (.bool (!PyData.eqv a b)) else none
/-- < of tuples and lists that are alike -/
def dLt : PyData → PyData → Option PyData
  | .int a, .int b => some (.bool (decide (a < b)))
  | .str a, .str b => some (.bool (decide (a.cps.toList < b.cps.toList)))
  | .tuple a, .tuple b => if PySem.W.alike (.tuple a) (.tuple b) && (SeqAt.shaped (.tuple a) && SeqAt.shaped (.tuple b)) then some (.bool (PySem.W.dataLt (.tuple a) (.tuple b))) else none
  | _, _ => none
def dLe : PyData → PyData → Option PyData
  | .int a, .int b => some (.bool (decide (a ≤ b)))
  | _, _ => none
def dGt : PyData → PyData → Option PyData
  | .int a, .int b => some (.bool (decide (b < a)))
  | _, _ => none
def dGe : PyData → PyData → Option PyData
  | .int a, .int b => some (.bool (decide (b ≤ a)))
  | _, _ => none
def isNo : PyData → Bool
  | .none => true
  | _ => false
def gIsN : Sto → Val → Val → Option Val
  | _, .dat a, .dat .none => some (.dat (.bool (isNo a)))
  | _, .loc _, .dat .none => some (.dat (.bool false))
  | _, .mix _, .dat .none => some (.dat (.bool false))
  | _, _, _ => none
def gNotN : Sto → Val → Val → Option Val
  | _, .dat a, .dat .none => some (.dat (.bool (!isNo a)))
  | _, .loc _, .dat .none => some (.dat (.bool true))
  | _, .mix _, .dat .none => some (.dat (.bool true))
  | _, _, _ => none

section
variable {X : Cx}
theorem lift2_inv {f : PyData → PyData → Option PyData} {S : Sto} {a b : Val} {z : Val} (h : lift2 f S a b = some z) : ∃ d e r, view S a = some d ∧ view S b = some e ∧ f d e = some r ∧ z = .dat r := by
  obtain ⟨d, hd, h⟩ := opt_bind_some h
  obtain ⟨e, he, h⟩ := opt_bind_some h
  cases q : f d e with
  | none => simp [q] at h
  | some r => simp [q] at h; exact ⟨d, e, r, hd, he, q, h.symm⟩
theorem lift1_inv {f : PyData → Option PyData} {S : Sto} {a : Val} {z : Val} (h : lift1 f S a = some z) : ∃ d r, view S a = some d ∧ f d = some r ∧ z = .dat r := by
  obtain ⟨d, hd, h⟩ := opt_bind_some h
  cases q : f d with
  | none => simp [q] at h
  | some r => simp [q] at h; exact ⟨d, r, hd, q, h.symm⟩
/-- an operator over data -/
theorem os_lift2 {op : Value → Value → Sem Value} {f : PyData → PyData → Option PyData}
    (h : ∀ (pins : List (Addr × Obj)) (s : Shared) (σ : L2.St) (H : Hp) (x y : V) (v u : Value) (Q : VK) (ι : Lay) (S : Sto) (d e r : PyData), Inv X pins σ H s → RelV x v → RelV y u → StoreOk X.mo ι S H → RdV X.mo H (live ι S) d x → RdV X.mo H (live ι S) e y → f d e = some r →
      (∀ w H', Ext ι S H ι S H' → StoreOk X.mo ι S H' → RepD X.mo H' (live ι S) r w → Q w H') → wpAny (model X.prog X.w) X.A (op v u) (EP X pins σ Q) X.xe s) : OpR X op (rOp X.mo (lift2 f)) := by
  intro pins s σ H x y v u Q I rx ry ⟨ι, S, a, b, z, so, ra, rb, hz, k⟩
  obtain ⟨d, e, r, hd, he, hr, rfl⟩ := lift2_inv hz
  exact h pins s σ H x y v u Q ι S d e r I rx ry so (ra.rd so hd) (rb.rd so he) hr fun w H' e1 so' rw' => k w H' e1 so' (.dat rw')
theorem os_lift1 {op : Value → Sem Value} {f : PyData → Option PyData}
    (h : ∀ (pins : List (Addr × Obj)) (s : Shared) (σ : L2.St) (H : Hp) (x : V) (v : Value) (Q : VK) (ι : Lay) (S : Sto) (d r : PyData), Inv X pins σ H s → RelV x v → StoreOk X.mo ι S H → RdV X.mo H (live ι S) d x → f d = some r →
      (∀ w H', Ext ι S H ι S H' → StoreOk X.mo ι S H' → RepD X.mo H' (live ι S) r w → Q w H') → wpAny (model X.prog X.w) X.A (op v) (EP X pins σ Q) X.xe s) : UnR X op (rUn X.mo (lift1 f)) := by
  intro pins s σ H x v Q I rx ⟨ι, S, a, z, so, ra, hz, k⟩
  obtain ⟨d, r, hd, hr, rfl⟩ := lift1_inv hz
  exact h pins s σ H x v Q ι S d r I rx so (ra.rd so hd) hr fun w H' e1 so' rw' => k w H' e1 so' (.dat rw')
theorem rd_ext {M : Mo} {ι : Lay} {S : Sto} {H : Hp} {Q : VK} {r : PyData} {w : V} (so : StoreOk M ι S H) (k : ∀ w H', Ext ι S H ι S H' → StoreOk M ι S H' → RepD M H' (live ι S) r w → Q w H') (h : RepD M H (live ι S) r w) : Q w H := k w H Ext.refl so h
theorem new_tupD {M : Mo} {ι : Lay} {S : Sto} {H : Hp} {ds : List PyData} {vs : List V} {p : Addr} {Q : VK} (so : StoreOk M ι S H) (k : ∀ w H', Ext ι S H ι S H' → StoreOk M ι S H' → RepD M H' (live ι S) (.tuple ds) w → Q w H') (r : RepDs M H (live ι S) ds vs) (hz : ds.length ≤ sizeLine) (hp : H p = none) : Q (.ref p) (upd H p (.tup vs)) := by
  have e := ext_new (o := .tup vs) so hp
  exact k _ _ e (so_new so hp) (.tup (SqT.of upd_same) hz (r.mono so e))
theorem new_lstD {M : Mo} {ι : Lay} {S : Sto} {H : Hp} {ds : List PyData} {vs : List V} {p : Addr} {Q : VK} (so : StoreOk M ι S H) (k : ∀ w H', Ext ι S H ι S H' → StoreOk M ι S H' → RepD M H' (live ι S) (.list ds) w → Q w H') (r : RepDs M H (live ι S) ds vs) (hz : ds.length ≤ sizeLine) (hp : H p = none) : Q (.ref p) (upd H p (.lst vs)) := by
  have e := ext_new (o := .lst vs) so hp
  exact k _ _ e (so_new so hp) (.lst upd_same (fresh_not_live so hp) hz (r.mono so e))
theorem os_add : OpR X (binaryOp .Add) (rOp X.mo (lift2 dAdd)) := os_lift2 fun pins s σ H x y v u Q ι S d e r I rx ry so r1 r2 hr k => by
  unfold dAdd at hr
  split at hr
  · cases hr
    exact op_add pins s σ H x y v u Q I rx ry ⟨_, _, r1.int, r2.int, rd_ext so k (.int _)⟩
  · split at hr
    · rename_i hz
      cases hr
      exact op_add_str pins s σ H x y v u Q I rx ry ⟨_, _, r1.str, r2.str, hz, rd_ext so k (.str _)⟩
    · cases hr
  · split at hr
    · rename_i hz
      cases hr
      obtain ⟨a, vs, rfl, ha, za, ra⟩ := r1.tup
      obtain ⟨b, ws, rfl, hb, zb, rb⟩ := r2.tup
      refine op_catA pins s σ H _ _ v u Q I rx ry ⟨a, b, vs, ws, rfl, rfl, ha, hb, by rw [← ra.len, ← rb.len]; exact hz, fun e => ?_, fun _ e => ?_, fun _ _ p hp => ?_⟩
      · subst e; cases ra; exact rd_ext so k (.tup hb zb rb)
      · subst e; cases rb; rw [List.append_nil] at k; exact rd_ext so k (.tup ha za ra)
      · exact new_tupD so k (ra.append rb) (by rw [List.length_append]; exact hz) hp
    · cases hr
  · split at hr
    · rename_i hz
      cases hr
      obtain ⟨a, vs, rfl, ha, za, ra⟩ := r1.list
      obtain ⟨b, ws, rfl, hb, zb, rb⟩ := r2.list
      exact op_cat pins s σ H _ _ v u Q I rx ry ⟨a, b, vs, ws, rfl, rfl, ha, hb, by rw [← ra.len, ← rb.len]; exact hz, fun p hp => new_lstD so k (ra.append rb) (by rw [List.length_append]; exact hz) hp⟩
    · cases hr
  · cases hr
theorem os_sub : OpR X (binaryOp .Sub) (rOp X.mo (lift2 dSub)) := os_lift2 fun pins s σ H x y v u Q ι S d e r I rx ry so r1 r2 hr k => by
  unfold dSub at hr
  split at hr
  · cases hr
    exact op_sub pins s σ H x y v u Q I rx ry ⟨_, _, r1.int, r2.int, rd_ext so k (.int _)⟩
  · cases hr
theorem os_mul : OpR X (binaryOp .Mult) (rOp X.mo (lift2 dMul)) := os_lift2 fun pins s σ H x y v u Q ι S d e r I rx ry so r1 r2 hr k => by
  unfold dMul at hr
  split at hr
  · split at hr
    · rename_i hm
      cases hr
      unfold mulOk at hm
      rw [Bool.or_eq_true, Bool.or_eq_true] at hm
      rcases hm with hm | hm | hm
      · exact op_mul pins s σ H x y v u Q I rx ry ⟨_, _, r1.int, r2.int, .inl (of_decide_eq_true hm), rd_ext so k (.int _)⟩
      · exact op_mul pins s σ H x y v u Q I rx ry ⟨_, _, r1.int, r2.int, .inr (of_decide_eq_true hm), rd_ext so k (.int _)⟩
      · exact op_mulW pins s σ H x y v u Q I rx ry ⟨_, _, r1.int, r2.int, by have q := of_decide_eq_true hm; exact q, rd_ext so k (.int _)⟩
    · cases hr
  · cases hr
theorem os_mod : OpR X (binaryOp .Mod) (rOp X.mo (lift2 dMod)) := os_lift2 fun pins s σ H x y v u Q ι S d e r I rx ry so r1 r2 hr k => by
  unfold dMod at hr
  split at hr
  · split at hr
    · rename_i hm
      cases hr
      exact op_mod pins s σ H x y v u Q I rx ry ⟨_, _, r1.int, r2.int, hm, rd_ext so k (.int _)⟩
    · cases hr
  · cases hr
theorem os_fdiv : OpR X (binaryOp .FloorDiv) (rOp X.mo (lift2 dFdiv)) := os_lift2 fun pins s σ H x y v u Q ι S d e r I rx ry so r1 r2 hr k => by
  unfold dFdiv at hr
  split at hr
  · split at hr
    · rename_i hm
      cases hr
      exact op_fdivW pins s σ H x y v u Q I rx ry ⟨_, _, r1.int, r2.int, hm, rd_ext so k (.int _)⟩
    · cases hr
  · cases hr
theorem os_pow : OpR X (binaryOp .Pow) (rOp X.mo (lift2 dPow)) := os_lift2 fun pins s σ H x y v u Q ι S d e r I rx ry so r1 r2 hr k => by
  unfold dPow at hr
  split at hr
  · split at hr
    · rename_i hm
      cases hr
      exact op_pow pins s σ H x y v u Q I rx ry ⟨_, _, r1.int, r2.int, hm, rd_ext so k (.int _)⟩
    · cases hr
  · cases hr
theorem us_neg : UnR X (unaryOp .USub) (rUn X.mo (lift1 dNeg)) := os_lift1 fun pins s σ H x v Q ι S d r I rx so r1 hr k => by
  unfold dNeg at hr
  split at hr
  · cases hr
    exact un_neg pins s σ H x v Q I rx ⟨_, r1.int, rd_ext so k (.int _)⟩
  · cases hr
theorem os_eq (hu : X.A.units + 64 < cLine) : OpR X (compareOp .Eq) (rOp X.mo (lift2 dEq)) := os_lift2 fun pins s σ H x y v u Q ι S d e r I rx ry so r1 r2 hr k => by
  unfold dEq at hr
  split at hr
  · rename_i hm
    cases hr
    rw [Bool.and_eq_true] at hm
    obtain ⟨as, q1⟩ := RepD.readsP I d x v r1.weak rx (eqOk_plain hm.1)
    obtain ⟨bs, q2⟩ := RepD.readsP I e y u r2.weak ry (eqOk_plain hm.2)
    exact SeqAt.eq_plain q1 q2 (eqOk_plain hm.1) (eqOk_plain hm.2) (by have := eqOk_depth hm.1; have h2 : min d.depth e.depth ≤ d.depth := Nat.min_le_left _ _; omega) ⟨.bl _, H, I, rfl, rd_ext so k (.bl _)⟩
  · cases hr
theorem os_ne (hu : X.A.units + 64 < cLine) : OpR X (compareOp .NotEq) (rOp X.mo (lift2 dNe)) := os_lift2 fun pins s σ H x y v u Q ι S d e r I rx ry so r1 r2 hr k => by
  unfold dNe at hr
  split at hr
  · rename_i hm
    cases hr
    rw [Bool.and_eq_true] at hm
    obtain ⟨as, q1⟩ := RepD.readsP I d x v r1.weak rx (eqOk_plain hm.1)
    obtain ⟨bs, q2⟩ := RepD.readsP I e y u r2.weak ry (eqOk_plain hm.2)
    exact SeqAt.ne_plain q1 q2 (eqOk_plain hm.1) (eqOk_plain hm.2) (by have := eqOk_depth hm.1; have h2 : min d.depth e.depth ≤ d.depth := Nat.min_le_left _ _; omega) ⟨.bl _, H, I, rfl, rd_ext so k (.bl _)⟩
  · cases hr
theorem os_lt (hu : X.A.units + 64 < cLine) : OpR X (compareOp .Lt) (rOp X.mo (lift2 dLt)) := os_lift2 fun pins s σ H x y v u Q ι S d e r I rx ry so r1 r2 hr k => by
  unfold dLt at hr
  split at hr
  · cases hr
    exact op_lt pins s σ H x y v u Q I rx ry ⟨_, _, r1.int, r2.int, rd_ext so k (.bl _)⟩
  · cases hr
    exact op_lt_str pins s σ H x y v u Q I rx ry ⟨_, _, r1.str, r2.str, rd_ext so k (.bl _)⟩
  · rename_i a b
    split at hr
    · rename_i hm
      cases hr
      rw [Bool.and_eq_true, Bool.and_eq_true] at hm
      obtain ⟨as, q1⟩ := RepD.reads I (.tuple a) x v r1.weak rx (SeqAt.canLay_of_shaped hm.2.1)
      obtain ⟨bs, q2⟩ := RepD.reads I (.tuple b) y u r2.weak ry (SeqAt.canLay_of_shaped hm.2.2)
      have z := PySem.W.rcLt_alike (.tuple a) (.tuple b) X.A s v u as bs q1 q2 hm.1 (fun z => by cases z) (SeqAt.room_of_shaped hm.2.1 hu) X.prog X.w X.xe (EP X pins σ Q) ⟨.bl _, H, I, rfl, rd_ext so k (.bl _)⟩
      exact z
    · cases hr
  · cases hr
theorem os_le : OpR X (compareOp .LtE) (rOp X.mo (lift2 dLe)) := os_lift2 fun pins s σ H x y v u Q ι S d e r I rx ry so r1 r2 hr k => by
  unfold dLe at hr
  split at hr
  · cases hr
    exact op_le pins s σ H x y v u Q I rx ry ⟨_, _, r1.int, r2.int, rd_ext so k (.bl _)⟩
  · cases hr
theorem os_gt : OpR X (compareOp .Gt) (rOp X.mo (lift2 dGt)) := os_lift2 fun pins s σ H x y v u Q ι S d e r I rx ry so r1 r2 hr k => by
  unfold dGt at hr
  split at hr
  · cases hr
    exact op_gt pins s σ H x y v u Q I rx ry ⟨_, _, r1.int, r2.int, rd_ext so k (.bl _)⟩
  · cases hr
theorem os_ge : OpR X (compareOp .GtE) (rOp X.mo (lift2 dGe)) := os_lift2 fun pins s σ H x y v u Q ι S d e r I rx ry so r1 r2 hr k => by
  unfold dGe at hr
  split at hr
  · cases hr
    exact op_ge pins s σ H x y v u Q I rx ry ⟨_, _, r1.int, r2.int, rd_ext so k (.bl _)⟩
  · cases hr
theorem none_dec {M : Mo} {H : Hp} {bad : Addr → Prop} {d : PyData} {v : V} (r : RepD M H bad d v) : isNo d = decide (v = .non) := by
  cases r <;> simp [isNo]
theorem os_isN : OpR X (compareOp .Is) (rOp X.mo gIsN) := by
  intro pins s σ H x y v u Q I rx ry ⟨ι, S, a, b, z, so, ra, rb, hz, k⟩
  unfold gIsN at hz
  split at hz
  · cases hz
    cases ra with
    | dat ra =>
      cases rb with
      | dat rb =>
        cases rb
        refine op_isN pins s σ H x _ v u Q I rx ry ⟨rfl, ?_⟩
        rw [← none_dec ra]
        exact k _ H Ext.refl so (.dat (.bl _))
  · cases hz
    cases ra with
    | loc ra =>
      cases rb with
      | dat rb => cases rb; exact op_isN pins s σ H _ _ v u Q I rx ry ⟨rfl, k _ H Ext.refl so (.dat (.bl _))⟩
  · cases hz
    cases ra with
    | mix ra z r =>
      cases rb with
      | dat rb => cases rb; exact op_isN pins s σ H _ _ v u Q I rx ry ⟨rfl, k _ H Ext.refl so (.dat (.bl _))⟩
  · cases hz
theorem os_notN : OpR X (compareOp .IsNot) (rOp X.mo gNotN) := by
  intro pins s σ H x y v u Q I rx ry ⟨ι, S, a, b, z, so, ra, rb, hz, k⟩
  unfold gNotN at hz
  split at hz
  · cases hz
    cases ra with
    | dat ra =>
      cases rb with
      | dat rb =>
        cases rb
        refine op_notN pins s σ H x _ v u Q I rx ry ⟨rfl, ?_⟩
        rw [← none_dec ra]
        exact k _ H Ext.refl so (.dat (.bl _))
  · cases hz
    cases ra with
    | loc ra =>
      cases rb with
      | dat rb => cases rb; exact op_notN pins s σ H _ _ v u Q I rx ry ⟨rfl, k _ H Ext.refl so (.dat (.bl _))⟩
  · cases hz
    cases ra with
    | mix ra z r =>
      cases rb with
      | dat rb => cases rb; exact op_notN pins s σ H _ _ v u Q I rx ry ⟨rfl, k _ H Ext.refl so (.dat (.bl _))⟩
  · cases hz
end
end NB
end
section
set_option Elab.async false
set_option linter.all false
set_option maxRecDepth 100000
set_option maxHeartbeats 1000000
/-! Core 5: expressions further. -/
namespace NB
open PySem PySem.Spec PyProof.Rows L2

/-! ### tests -/
def tVal (m : XE) : XT := fun ρ S => (m ρ S).bind fun x S1 => match x with
  | .dat (.bool b) => .ok b S1
  | _ => .fail
def tNotX (m : XT) : XT := fun ρ S => (m ρ S).bind fun b S1 => .ok (!b) S1
def tAndX (a b : XT) : XT := fun ρ S => (a ρ S).bind fun x S1 => if x then b ρ S1 else .ok false S1
def tOrX (a b : XT) : XT := fun ρ S => (a ρ S).bind fun x S1 => if x then .ok true S1 else b ρ S1
def xIf (t : XT) (a b : XE) : XE := fun ρ S => (t ρ S).bind fun c S1 => if c then a ρ S1 else b ρ S1
def xAnd (a b : XE) : XE := fun ρ S => (a ρ S).bind fun x S1 => match x with
  | .dat (.bool true) => b ρ S1
  | .dat (.bool false) => .ok (.dat (.bool false)) S1
  | _ => .fail
def xOr (a b : XE) : XE := fun ρ S => (a ρ S).bind fun x S1 => match x with
  | .dat (.bool true) => .ok (.dat (.bool true)) S1
  | .dat (.bool false) => b ρ S1
  | _ => .fail
def xChain (g g' : Sto → Val → Val → Option Val) (a b c : XE) : XE := fun ρ S => (a ρ S).bind fun x S1 => (b ρ S1).bind fun y S2 => match g S2 x y with
  | some (.dat (.bool true)) => (c ρ S2).bind fun z S3 => Res.of S3 (g' S3 y z)
  | some (.dat (.bool false)) => .ok (.dat (.bool false)) S2
  | _ => .fail
section
variable {X : Cx} {W : Sg → Wish} {a b c : Expr} {ma mb mc : XE} {pos : Pos}
/-- a bool's reading, as a test -/
theorem test_of {t : TE} {m : XE} (h : ∀ σ H Q, liftE X.mo W m σ H Q → t σ H Q) : ∀ σ H Q, liftT X.mo W (tVal m) σ H Q → t σ H fun x H' => ∃ k, x = .bl k ∧ Q k H' := by
  intro σ H Q ⟨ρ, ι, S, en, so, p⟩
  refine h σ H _ ⟨ρ, ι, S, en, so, ?_⟩
  refine (Post.bindB p).mono fun v H1 ⟨x, ι1, S1, e1, so1, r1, h1⟩ => ?_
  cases r1 with
  | dat r =>
    cases r with
    | bl b => exact ⟨b, rfl, h1 ι1 H1 Ext.refl so1⟩
    | _ => exact h1.elim
  | _ => exact h1.elim
theorem dt_val (h : PE X a (liftE X.mo W ma)) (he : ∀ whole, isTrue a X.env whole = (do let v ← whole; standAt a.pos; holding [v] (truthy v))) : PT X a (liftT X.mo W (tVal ma)) :=
  (pt_val h he).of fun σ H Q q => test_of (fun _ _ _ z => z) σ H Q q
theorem de_cmp {op : CmpOp} {g : Sto → Val → Val → Option Val} (ho : OpR X (compareOp op) (rOp X.mo g)) (ha : PE X a (liftE X.mo W ma)) (hb : PE X b (liftE X.mo W mb)) (hm : behindInMarks op b = false) : PE X (.Compare a [op] [b] pos) (liftE X.mo W (xBin g ma mb)) := by
  refine (pe_cmpR ho ha hb hm).of fun σ H Q ⟨ρ, ι, S, en, so, h⟩ => ⟨ρ, ι, S, en, so, ?_⟩
  refine (Post.bind h).mono fun v H1 ⟨x, ι1, S1, e1, so1, r1, h1⟩ => ⟨ρ, ι1, S1, en.mono so e1, so1, ?_⟩
  refine (Post.bind h1).mono fun v2 H2 ⟨y, ι2, S2, e2, so2, r2, h2⟩ => ?_
  obtain ⟨z, ez, k⟩ := h2.of
  exact ⟨ι2, S2, x, y, z, so2, r1.mono so1 e2, r2, ez, fun v H' e so' r => k v ι2 H' e so' r⟩
theorem bin_read {g : Sto → Val → Val → Option Val} : ∀ σ H Q, liftE X.mo W (xBin g ma mb) σ H Q → tOp (rOp X.mo g) (liftE X.mo W ma) (liftE X.mo W mb) σ H Q := by
  intro σ H Q ⟨ρ, ι, S, en, so, h⟩
  refine ⟨ρ, ι, S, en, so, ?_⟩
  refine (Post.bind h).mono fun v H1 ⟨x, ι1, S1, e1, so1, r1, h1⟩ => ⟨ρ, ι1, S1, en.mono so e1, so1, ?_⟩
  refine (Post.bind h1).mono fun v2 H2 ⟨y, ι2, S2, e2, so2, r2, h2⟩ => ?_
  obtain ⟨z, ez, k⟩ := h2.of
  exact ⟨ι2, S2, x, y, z, so2, r1.mono so1 e2, r2, ez, fun v H' e so' r => k v ι2 H' e so' r⟩
theorem dt_cmp {op : CmpOp} {g : Sto → Val → Val → Option Val} (ho : OpR X (compareOp op) (rOp X.mo g)) (ha : PE X a (liftE X.mo W ma)) (hb : PE X b (liftE X.mo W mb)) (hm : behindInMarks op b = false) : PT X (.Compare a [op] [b] pos) (liftT X.mo W (tVal (xBin g ma mb))) :=
  (pt_cmpR ho ha hb hm).of fun σ H Q q => test_of bin_read σ H Q q
theorem chain_read {g g' : Sto → Val → Val → Option Val} : ∀ σ H Q, liftE X.mo W (xChain g g' ma mb mc) σ H Q → tChain (rOp X.mo g) (rOp X.mo g') (liftE X.mo W ma) (liftE X.mo W mb) (liftE X.mo W mc) σ H Q := by
  intro σ H Q ⟨ρ, ι, S, en, so, h⟩
  refine ⟨ρ, ι, S, en, so, ?_⟩
  refine (Post.bind h).mono fun v H1 ⟨x, ι1, S1, e1, so1, r1, h1⟩ => ⟨ρ, ι1, S1, en.mono so e1, so1, ?_⟩
  refine (Post.bind h1).mono fun v2 H2 ⟨y, ι2, S2, e2, so2, r2, h2⟩ => ?_
  cases q : g S2 x y with
  | none => rw [q] at h2; exact h2.elim
  | some z =>
    rw [q] at h2
    refine ⟨ι2, S2, x, y, z, so2, r1.mono so1 e2, r2, q, fun v H' e so' r => ?_⟩
    cases r with
    | dat r =>
      cases r with
      | bl k =>
        refine ⟨k, rfl, ?_⟩
        cases k with
        | true =>
          rw [if_pos rfl]
          refine ⟨ρ, ι2, S2, ((en.mono so e1).mono so1 e2).mono so2 e, so', ?_⟩
          refine (Post.bind (Post.from e h2)).mono fun v3 H3 ⟨z3, ι3, S3, e3, so3, r3, h3⟩ => ?_
          obtain ⟨z4, ez, k4⟩ := h3.of
          exact ⟨ι3, S3, y, z3, z4, so3, (r2.mono so2 e).mono so' e3, r3, ez, fun v H' e so' r => k4 v ι3 H' e so' r⟩
        | false =>
          rw [if_neg Bool.false_ne_true]
          exact h2 _ ι2 H' e so' (.dat (.bl _))
      | _ => exact h2.elim
    | _ => exact h2.elim
theorem de_chain {op op' : CmpOp} {g g' : Sto → Val → Val → Option Val} (ho : OpR X (compareOp op) (rOp X.mo g)) (ho' : OpR X (compareOp op') (rOp X.mo g')) (ha : PE X a (liftE X.mo W ma)) (hb : PE X b (liftE X.mo W mb)) (hc : PE X c (liftE X.mo W mc))
    (hm : lastMarks [op, op'] [b, c] = false) : PE X (.Compare a [op, op'] [b, c] pos) (liftE X.mo W (xChain g g' ma mb mc)) := (pe_chain ho ho' ha hb hc hm).of chain_read
theorem dt_chain {op op' : CmpOp} {g g' : Sto → Val → Val → Option Val} (ho : OpR X (compareOp op) (rOp X.mo g)) (ho' : OpR X (compareOp op') (rOp X.mo g')) (ha : PE X a (liftE X.mo W ma)) (hb : PE X b (liftE X.mo W mb)) (hc : PE X c (liftE X.mo W mc))
    (hm : lastMarks [op, op'] [b, c] = false) : PT X (.Compare a [op, op'] [b, c] pos) (liftT X.mo W (tVal (xChain g g' ma mb mc))) := (pt_chain ho ho' ha hb hc hm).of fun σ H Q q => test_of chain_read σ H Q q
theorem dt_not {m : XT} (h : PT X a (liftT X.mo W m)) : PT X (.UnaryOp .Not a pos) (liftT X.mo W (tNotX m)) := by
  refine (pt_not h).of fun σ H Q ⟨ρ, ι, S, en, so, h⟩ => ⟨ρ, ι, S, en, so, ?_⟩
  exact (PostB.bindB h).mono fun b H1 ⟨ι1, S1, e1, so1, h1⟩ => h1 ι1 H1 Ext.refl so1
theorem dw_and1 {m : XT} (h : PT X a (liftT X.mo W m)) : PW X (.BoolOp .And [a] pos) (liftT X.mo W m) := pw_and1 h
theorem dw_or1 {m : XT} (h : PT X a (liftT X.mo W m)) : PW X (.BoolOp .Or [a] pos) (liftT X.mo W m) := pw_or1 h
theorem dw_and {rest : List Expr} {m n : XT} (ha : PT X a (liftT X.mo W m)) (hb : PW X (.BoolOp .And (b :: rest) pos) (liftT X.mo W n)) : PW X (.BoolOp .And (a :: b :: rest) pos) (liftT X.mo W (tAndX m n)) := by
  refine (pw_and ha hb).of fun σ H Q ⟨ρ, ι, S, en, so, h⟩ => ⟨ρ, ι, S, en, so, ?_⟩
  refine (PostB.bindB h).mono fun b H1 ⟨ι1, S1, e1, so1, h1⟩ => ?_
  cases b with
  | true => rw [if_pos rfl] at h1 ⊢; exact ⟨ρ, ι1, S1, en.mono so e1, so1, h1⟩
  | false => rw [if_neg Bool.false_ne_true] at h1 ⊢; exact h1 ι1 H1 Ext.refl so1
theorem dw_or {rest : List Expr} {m n : XT} (ha : PT X a (liftT X.mo W m)) (hb : PW X (.BoolOp .Or (b :: rest) pos) (liftT X.mo W n)) : PW X (.BoolOp .Or (a :: b :: rest) pos) (liftT X.mo W (tOrX m n)) := by
  refine (pw_or ha hb).of fun σ H Q ⟨ρ, ι, S, en, so, h⟩ => ⟨ρ, ι, S, en, so, ?_⟩
  refine (PostB.bindB h).mono fun b H1 ⟨ι1, S1, e1, so1, h1⟩ => ?_
  cases b with
  | true => rw [if_pos rfl] at h1 ⊢; exact h1 ι1 H1 Ext.refl so1
  | false => rw [if_neg Bool.false_ne_true] at h1 ⊢; exact ⟨ρ, ι1, S1, en.mono so e1, so1, h1⟩
theorem de_if {t : Expr} {m : XT} (ht : PT X t (liftT X.mo W m)) (ha : PE X a (liftE X.mo W ma)) (hb : PE X b (liftE X.mo W mb)) : PE X (.IfExp t a b pos) (liftE X.mo W (xIf m ma mb)) := by
  refine (pe_ifExp ht ha hb).of fun σ H Q ⟨ρ, ι, S, en, so, h⟩ => ⟨ρ, ι, S, en, so, ?_⟩
  refine (PostB.bind h).mono fun b H1 ⟨ι1, S1, e1, so1, h1⟩ => ?_
  cases b with
  | true => rw [if_pos rfl] at h1 ⊢; exact ⟨ρ, ι1, S1, en.mono so e1, so1, h1⟩
  | false => rw [if_neg Bool.false_ne_true] at h1 ⊢; exact ⟨ρ, ι1, S1, en.mono so e1, so1, h1⟩
theorem de_one {op : BoolOp} (h : PE X a (liftE X.mo W ma)) : PE X (.BoolOp op [a] pos) (liftE X.mo W ma) := pe_one h
theorem de_and {rest : List Expr} (ha : PE X a (liftE X.mo W ma)) (hb : PE X (.BoolOp .And (b :: rest) pos) (liftE X.mo W mb)) : PE X (.BoolOp .And (a :: b :: rest) pos) (liftE X.mo W (xAnd ma mb)) := by
  refine (pe_and ha hb).of fun σ H Q ⟨ρ, ι, S, en, so, h⟩ => ⟨ρ, ι, S, en, so, ?_⟩
  refine (Post.bind h).mono fun v H1 ⟨x, ι1, S1, e1, so1, r1, h1⟩ => ?_
  cases r1 with
  | dat r =>
    cases r with
    | bl b =>
      refine ⟨b, rfl, ?_⟩
      cases b with
      | true => rw [if_pos rfl]; exact ⟨ρ, ι1, S1, en.mono so e1, so1, h1⟩
      | false => rw [if_neg Bool.false_ne_true]; exact h1 _ ι1 H1 Ext.refl so1 (.dat (.bl _))
    | _ => exact h1.elim
  | _ => exact h1.elim
theorem de_or {rest : List Expr} (ha : PE X a (liftE X.mo W ma)) (hb : PE X (.BoolOp .Or (b :: rest) pos) (liftE X.mo W mb)) : PE X (.BoolOp .Or (a :: b :: rest) pos) (liftE X.mo W (xOr ma mb)) := by
  refine (pe_or ha hb).of fun σ H Q ⟨ρ, ι, S, en, so, h⟩ => ⟨ρ, ι, S, en, so, ?_⟩
  refine (Post.bind h).mono fun v H1 ⟨x, ι1, S1, e1, so1, r1, h1⟩ => ?_
  cases r1 with
  | dat r =>
    cases r with
    | bl b =>
      refine ⟨b, rfl, ?_⟩
      cases b with
      | true => rw [if_pos rfl]; exact h1 _ ι1 H1 Ext.refl so1 (.dat (.bl _))
      | false => rw [if_neg Bool.false_ne_true]; exact ⟨ρ, ι1, S1, en.mono so e1, so1, h1⟩
    | _ => exact h1.elim
  | _ => exact h1.elim
theorem de_not (ha : PE X a (liftE X.mo W ma)) : PE X (.UnaryOp .Not a pos) (liftE X.mo W (xUn (lift1 dNot) ma)) := by
  refine (pe_not ha).of fun σ H Q ⟨ρ, ι, S, en, so, h⟩ => ⟨ρ, ι, S, en, so, ?_⟩
  refine (Post.bind h).mono fun v H1 ⟨x, ι1, S1, e1, so1, r1, h1⟩ => ?_
  obtain ⟨z, ez, k⟩ := h1.of
  obtain ⟨d, r, hd, hr, rfl⟩ := lift1_inv ez
  have rd := r1.rd so1 hd
  unfold dNot at hr
  split at hr
  · cases hr
    exact ⟨_, rd.bl, k _ ι1 H1 Ext.refl so1 (.dat (.bl _))⟩
  · cases hr
end

/-! ### subscripts -/
def dInt : Val → Option Int
  | .dat (.int i) => some i
  | _ => none
@[simp] theorem dInt_int (i : Int) : dInt (.dat (.int i)) = some i := rfl
/-- what stands under a key -/
def dLook {α : Type} (kvs : List (PyData × α)) (k : PyData) : Option α := (kvs.find? fun p => decide (nkey p.1 = nkey k)).map (·.2)
/-- a key that is no tuple -/
def kOf : PyData → Option Key
  | .int i => some (.inl i)
  | .str x => some (.inr x)
  | _ => none
def gIx (S : Sto) (x y : Val) : Option Val := match x with
  | .dat (.list ds) => (dInt y).bind fun i => (atI ds i).map .dat
  | .dat (.tuple ds) => (dInt y).bind fun i => (atI ds i).map .dat
  | .dat (.str z) => (dInt y).bind fun i => if z.length ≤ sizeLine then (atI z.cps.toList i).map fun c => .dat (.str ⟨#[c]⟩) else none
  | .dat (.dict kvs) => (view S y).bind fun k => (kOf k).bind fun _ => (dLook kvs k).map .dat
  | .mix xs => (dInt y).bind fun i => atI xs i
  | .scr ns => (dInt y).bind fun i => (atI ns i).map fun n => .dat (.int n)
  | .loc l => match S[l]? with
    | some (.lst xs) => (dInt y).bind fun i => atI xs i
    | some (.dct kvs) => (view S y).bind fun k => (kOf k).bind fun _ => dLook kvs k
    | _ => none
  | _ => none
theorem nkey_kdat {a b : Key} (h : nkey (kdat a) = nkey (kdat b)) : a = b := by
  cases a with
  | inl i => cases b with
    | inl j => simp [kdat, nkey] at h; rw [h]
    | inr y => simp [kdat, nkey] at h
  | inr x => cases b with
    | inl j => simp [kdat, nkey] at h
    | inr y => simp [kdat, nkey] at h; rw [h]
theorem kOf_some {d : PyData} {k : Key} (h : kOf d = some k) : d = kdat k := by
  unfold kOf at h
  split at h
  · cases h; rfl
  · cases h; rfl
  · cases h
theorem kdat_v {M : Mo} {H : Hp} {bad : Addr → Prop} {k : Key} {v : V} (h : RepD M H bad (kdat k) v) : v = kV k := by
  cases k with
  | inl i => cases h; rfl
  | inr x => cases h; rfl
theorem dLook_cons {α : Type} (p : PyData × α) (r : List (PyData × α)) (k : PyData) : dLook (p :: r) k = if nkey p.1 = nkey k then some p.2 else dLook r k := by
  unfold dLook
  rw [List.find?_cons]
  by_cases h : nkey p.1 = nkey k
  · simp [h]
  · simp [h]
theorem dk_look {M : Mo} {ι : Lay} {S : Sto} {H : Hp} {k : Key} : ∀ {kvs : List (PyData × Val)} {rows : List (Key × V)}, kvs.map (·.1) = rows.map (fun r => kdat r.1) → RepVs M ι S H (kvs.map (·.2)) (rows.map (·.2)) →
    (∀ x, dLook kvs (kdat k) = some x → ∃ v, valV rows k = some v ∧ RepV M ι S H x v) ∧ (dLook kvs (kdat k) = none → valV rows k = none)
  | [], [], _, _ => ⟨fun x h => (by cases h), fun _ => rfl⟩
  | [], _ :: _, h, _ => by cases h
  | _ :: _, [], h, _ => by cases h
  | (d, x) :: kvs, (j, v) :: rows, h, r => by
    simp only [List.map_cons, List.cons.injEq] at h
    obtain ⟨h1, h2⟩ := h
    cases r with
    | cons r t =>
      obtain ⟨i1, i2⟩ := dk_look (k := k) h2 t
      rw [dLook_cons]
      have h1' : d = kdat j := h1
      subst h1'
      by_cases e : nkey (kdat j) = nkey (kdat k)
      · have e' := nkey_kdat e
        subst e'
        simp only [if_true]
        exact ⟨fun y hy => ⟨v, valV_pos rfl, Option.some.inj hy ▸ r⟩, fun hy => absurd hy (by simp)⟩
      · have ne : ¬ j = k := fun z => e (by rw [z])
        simp only [e, if_false]
        rw [valV_neg (p := (j, v)) ne]
        exact ⟨i1, i2⟩
theorem dLook_map {α β : Type} (f : α → β) (k : PyData) : ∀ kvs : List (PyData × α), dLook (kvs.map fun p => (p.1, f p.2)) k = (dLook kvs k).map f
  | [] => rfl
  | p :: r => by
    rw [List.map_cons, dLook_cons, dLook_cons, dLook_map f k r]
    split <;> rfl
theorem dk_lookD {M : Mo} {H : Hp} {bad : Addr → Prop} {k : Key} : ∀ {kvs : List (PyData × PyData)} {rows : List (Key × V)}, kvs.map (·.1) = rows.map (fun r => kdat r.1) → RepDs M H bad (kvs.map (·.2)) (rows.map (·.2)) →
    (∀ x, dLook kvs (kdat k) = some x → ∃ v, valV rows k = some v ∧ RepD M H bad x v) ∧ (dLook kvs (kdat k) = none → valV rows k = none)
  | [], [], _, _ => ⟨fun x h => (by cases h), fun _ => rfl⟩
  | [], _ :: _, h, _ => by cases h
  | _ :: _, [], h, _ => by cases h
  | (d, x) :: kvs, (j, v) :: rows, h, r => by
    simp only [List.map_cons, List.cons.injEq] at h
    obtain ⟨h1, h2⟩ := h
    cases r with
    | cons r t =>
      obtain ⟨i1, i2⟩ := dk_lookD (k := k) h2 t
      rw [dLook_cons]
      have h1' : d = kdat j := h1
      subst h1'
      by_cases e : nkey (kdat j) = nkey (kdat k)
      · have e' := nkey_kdat e
        subst e'
        simp only [if_true]
        exact ⟨fun y hy => ⟨v, valV_pos rfl, Option.some.inj hy ▸ r⟩, fun hy => absurd hy (by simp)⟩
      · have ne : ¬ j = k := fun z => e (by rw [z])
        simp only [e, if_false]
        rw [valV_neg (p := (j, v)) ne]
        exact ⟨i1, i2⟩
/-- a subscript by values -/
theorem ix_dictK {X : Cx} (hu : X.A.units + 1 < cLine) : IxR X (fun x y H Q => ∃ a k v, x = .ref a ∧ DGet H a y (some v) ∧ k = y ∧ Q v H) := by
  intro value slice pins s σ H x y v u Q I rx ry h hs
  obtain ⟨a, k, z, rfl, g, rfl, q⟩ := h
  cases (show v = Value.ref a from rx)
  exact tail_any (dict_typeIs I g) PySem.F.slot_dict_getitem.lookup (d_getItem hu I g ry fun w' s3 I3 rw' => ⟨z, H, I3, rw', q⟩) hs
theorem atI_at {α β : Type} {xs : List α} {ys : List β} (hl : xs.length = ys.length) {i : Int} {x : α} (h : atI xs i = some x) : ∃ j : Nat, xs[j]? = some x ∧ ∀ y, ys[j]? = some y → atI ys i = some y := by
  unfold atI at h ⊢
  obtain ⟨j, hj, hx⟩ := opt_bind_some h
  refine ⟨j, hx, fun y hy => ?_⟩
  rw [← hl, hj]
  exact hy
theorem atI_map {α β : Type} (f : α → β) (xs : List α) (i : Int) : atI (xs.map f) i = (atI xs i).map f := by
  unfold atI
  rw [List.length_map]
  cases ixN xs.length i with
  | none => rfl
  | some j => simp
theorem is_gix {X : Cx} (hu : X.A.units + 1 < cLine) : IxR X (rOp X.mo gIx) := by
  intro value slice pins s σ H x y v u Q I rx ry ⟨ι, S, a, b, z, so, ra, rb, hz, k⟩ hs
  have intY : ∀ {i : Int}, dInt b = some i → y = .int i := fun {i} h => by
    unfold dInt at h
    split at h
    · cases h
      cases rb with
      | dat rb => cases rb; rfl
    · cases h
  -- lists and tuples of data
  have seqL : ∀ {p : Addr} {ds : List PyData} {vs : List V} {i : Int} {d : PyData}, H p = some (.lst vs) → RepDs X.mo H (live ι S) ds vs → atI ds i = some d → (y = .int i) → x = .ref p → (∀ w, RepD X.mo H (live ι S) d w → Q w H) → wpAny (model X.prog X.w) X.A (subscriptTail value slice v u) (EP X pins σ Q) X.xe s := by
    intro p ds vs i d hp r hd ey ex q
    obtain ⟨j, hj, hat⟩ := atI_at (ys := vs) r.len hd
    obtain ⟨w, hw, rw'⟩ := r.get hj
    exact ix_list value slice pins s σ H x y v u Q I rx ry ⟨p, vs, i, w, ex, ey, SqL.of hp, hat w hw, q w rw'⟩ hs
  -- a row's key is a tuple: no plain key finds it
  have noT : ∀ {α : Type} {kvs : List (PyData × α)} {rows : List (NestedKey × Addr × V)} {kk : Key} {d : α}, RepDs X.mo H (live ι S) (kvs.map (·.1)) (rows.map fun r => .ref r.2.1) → dLook kvs (kdat kk) = some d → False := by
    intro α kvs rows kk d h4 hd
    obtain ⟨q, hq, rfl⟩ := Option.map_eq_some_iff.mp (show (kvs.find? fun p => decide (nkey p.1 = nkey (kdat kk))).map (·.2) = some d from hd)
    have hqm := List.mem_of_find?_eq_some hq
    have hqk : nkey q.1 = nkey (kdat kk) := by simpa using List.find?_some hq
    obtain ⟨j, hj⟩ := List.mem_iff_getElem?.mp hqm
    have hj1 : (kvs.map (·.1))[j]? = some q.1 := by rw [List.getElem?_map, hj]; rfl
    obtain ⟨w, hw, rw'⟩ := h4.get hj1
    have hwr : ∃ b, w = V.ref b := by
      rw [List.getElem?_map] at hw
      cases e : rows[j]? with
      | none => rw [e] at hw; cases hw
      | some r => rw [e] at hw; exact ⟨_, (Option.some.inj hw).symm⟩
    obtain ⟨b', rfl⟩ := hwr
    generalize q.1 = q1 at *
    cases kk with
    | inl i => cases rw' <;> simp [kdat, nkey] at hqk
    | inr x => cases rw' <;> simp [kdat, nkey] at hqk
  cases ra with
  | @dat d _ ra =>
    cases d with
    | list ds =>
      have hz' : ((dInt b).bind fun i => (atI ds i).map .dat) = some z := hz
      obtain ⟨i, hi, hz'⟩ := opt_bind_some hz'
      obtain ⟨d, hd, rfl⟩ := Option.map_eq_some_iff.mp hz'
      cases ra with
      | lst h1 h2 h3 h4 => exact seqL h1 h4 hd (intY hi) rfl fun w r => k w H Ext.refl so (.dat r)
    | tuple ds =>
      have hz' : ((dInt b).bind fun i => (atI ds i).map .dat) = some z := hz
      obtain ⟨i, hi, hz'⟩ := opt_bind_some hz'
      obtain ⟨d, hd, rfl⟩ := Option.map_eq_some_iff.mp hz'
      cases ra with
      | tup h1 h3 h4 =>
        obtain ⟨j, hj, hat⟩ := atI_at h4.len hd
        obtain ⟨w, hw, rw'⟩ := h4.get hj
        exact ix_tup value slice pins s σ H _ y v u Q I rx ry ⟨_, _, i, w, rfl, intY hi, h1, hat w hw, k w H Ext.refl so (.dat rw')⟩ hs
    | str zs =>
      have hz' : ((dInt b).bind fun i => if zs.length ≤ sizeLine then (atI zs.cps.toList i).map fun c => Val.dat (.str ⟨#[c]⟩) else none) = some z := hz
      obtain ⟨i, hi, hz'⟩ := opt_bind_some hz'
      by_cases hzs : zs.length ≤ sizeLine
      · rw [if_pos hzs] at hz'
        obtain ⟨c, hc, rfl⟩ := Option.map_eq_some_iff.mp hz'
        cases ra with
        | str _ => exact ix_str value slice pins s σ H _ y v u Q I rx ry ⟨_, i, c, rfl, intY hi, hzs, hc, k _ H Ext.refl so (.dat (.str _))⟩ hs
      · rw [if_neg hzs] at hz'; cases hz'
    | dict kvs =>
      have hz' : ((view S b).bind fun k => (kOf k).bind fun _ => (dLook kvs k).map .dat) = some z := hz
      obtain ⟨kd, hk, hz'⟩ := opt_bind_some hz'
      obtain ⟨kk, hkk, hz'⟩ := opt_bind_some hz'
      obtain ⟨d, hd, rfl⟩ := Option.map_eq_some_iff.mp hz'
      have e := kOf_some hkk
      subst e
      have ey : y = kV kk := kdat_v (rb.rd so hk).weak
      cases ra with
      | dctK h1 h2 h3 h4 =>
        obtain ⟨w, hw, rw'⟩ := (dk_lookD (k := kk) h3 h4).1 d hd
        exact ix_dictK hu value slice pins s σ H _ y v u Q I rx ry ⟨_, _, w, rfl, by rw [ey, ← hw]; exact DGet.k h1, rfl, k w H Ext.refl so (.dat rw')⟩ hs
      | dctT h1 h2 h3 h4 h5 => exact (noT h4 hd).elim
    | _ => cases hz
  | @mix p vs xs h1 h3 h4 =>
    have hz' : ((dInt b).bind fun i => atI xs i) = some z := hz
    obtain ⟨i, hi, hz'⟩ := opt_bind_some hz'
    obtain ⟨j, hj, hat⟩ := atI_at h4.len hz'
    obtain ⟨w, hw, rw'⟩ := h4.get hj
    exact ix_tup value slice pins s σ H _ y v u Q I rx ry ⟨p, vs, i, w, rfl, intY hi, h1, hat w hw, k w H Ext.refl so rw'⟩ hs
  | @scr p ns h1 h3 =>
    have hz' : ((dInt b).bind fun i => (atI ns i).map fun n => Val.dat (.int n)) = some z := hz
    obtain ⟨i, hi, hz'⟩ := opt_bind_some hz'
    obtain ⟨n, hn, rfl⟩ := Option.map_eq_some_iff.mp hz'
    have hat : atI (ns.map V.int) i = some (.int n) := by rw [atI_map, hn]; rfl
    exact ix_list value slice pins s σ H _ y v u Q I rx ry ⟨p, _, i, .int n, rfl, intY hi, h1.sq, hat, k _ H Ext.refl so (.dat (.int _))⟩ hs
  | @loc l p hl =>
    have hz' : (match S[l]? with
      | some (.lst xs) => (dInt b).bind fun i => atI xs i
      | some (.dct kvs) => (view S b).bind fun k => (kOf k).bind fun _ => dLook kvs k
      | _ => none) = some z := hz
    cases e : S[l]? with
    | none => rw [e] at hz'; cases hz'
    | some c =>
      rw [e] at hz'
      cases c with
      | dead => cases hz'
      | lst xs =>
        obtain ⟨i, hi, hz'⟩ := opt_bind_some hz'
        obtain ⟨vs, h1, h2, h3⟩ := so.cell l p _ hl e
        obtain ⟨j, hj, hat⟩ := atI_at h3.len hz'
        obtain ⟨w, hw, rw'⟩ := h3.get hj
        exact ix_list value slice pins s σ H _ y v u Q I rx ry ⟨p, vs, i, w, rfl, intY hi, SqL.of h1, hat w hw, k w H Ext.refl so rw'⟩ hs
      | dct kvs =>
        obtain ⟨kd, hk, hz'⟩ := opt_bind_some hz'
        obtain ⟨kk, hkk, hz'⟩ := opt_bind_some hz'
        have e2 := kOf_some hkk
        subst e2
        have ey : y = kV kk := kdat_v (rb.rd so hk).weak
        rcases so.cell l p _ hl e with ⟨rows, h1, h2, h3⟩ | ⟨rows, h1, h2, h3, h4⟩
        · obtain ⟨w, hw, rw'⟩ := (dk_look (k := kk) h2 h3).1 z hz'
          exact ix_dictK hu value slice pins s σ H _ y v u Q I rx ry ⟨_, _, w, rfl, by rw [ey, ← hw]; exact DGet.k h1, rfl, k w H Ext.refl so rw'⟩ hs
        · exact (noT h3 hz').elim
  | fn _ => cases hz
  | setK _ _ _ _ _ _ => cases hz
section
variable {X : Cx} {W : Sg → Wish} {a b : Expr} {ma mb : XE} {pos p2 : Pos}
theorem de_ix (hu : X.A.units + 1 < cLine) (ha : PE X a (liftE X.mo W ma)) (hb : PE X b (liftE X.mo W mb)) (hs : PlainIx b) : PE X (.Subscript a b pos) (liftE X.mo W (xBin gIx ma mb)) := (pe_ix (is_gix hu) ha hb hs).of bin_read

/-! ### slices -/
def cutL {α : Type} (xs : List α) (lo hi : Option Int) : List α := (xs.drop (HT.sIx xs.length 0 lo)).take (HT.sIx xs.length xs.length hi - HT.sIx xs.length 0 lo)
def gSl (S : Sto) (x : Val) (lo hi : Option Int) : Option Val := match x with
  | .scr ns => some (.dat (.list (cutL (ns.map .int) lo hi)))
  | x => match view S x with
    | some (.list ds) => some (.dat (.list (cutL ds lo hi)))
    | some (.tuple ds) => some (.dat (.tuple (cutL ds lo hi)))
    | some (.str z) => if z.length ≤ sizeLine then some (.dat (.str (cutS z lo hi))) else none
    | _ => none
abbrev XO := Env → Sto → Res (Option Int)
def oNo : XO := fun _ S => .ok none S
def oSo (m : XE) : XO := fun ρ S => (m ρ S).bind fun x S1 => match x with
  | .dat (.int i) => .ok (some i) S1
  | _ => .fail
def xSl (m : XE) (lo hi : XO) : XE := fun ρ S => (m ρ S).bind fun x S1 => (lo ρ S1).bind fun l S2 => (hi ρ S2).bind fun h S3 => Res.of S3 (gSl S3 x l h)
theorem do_no : PO X none (liftO X.mo W oNo) := ⟨fun pins s σ H Q I ⟨ρ, ι, S, en, so, h⟩ => po_none.run pins s σ H Q I (h ι H Ext.refl so)⟩
theorem do_so (h : PE X a (liftE X.mo W ma)) : PO X (some a) (liftO X.mo W (oSo ma)) := ⟨fun pins s σ H Q I ⟨ρ, ι, S, en, so, q⟩ => by
  refine (po_some h).run pins s σ H Q I ⟨ρ, ι, S, en, so, ?_⟩
  refine (Post.bindB q).mono fun v H1 ⟨x, ι1, S1, e1, so1, r1, h1⟩ => ?_
  cases r1 with
  | dat r =>
    cases r with
    | int i => exact ⟨i, rfl, h1 ι1 H1 Ext.refl so1⟩
    | _ => exact h1.elim
  | _ => exact h1.elim⟩
theorem cutL_len {α : Type} (xs : List α) (lo hi : Option Int) : (cutL xs lo hi).length ≤ xs.length := by
  unfold cutL
  rw [List.length_take, List.length_drop]
  omega
theorem cutV_eq (xs : List V) (lo hi : Option Int) : cutV xs lo hi = cutL xs lo hi := rfl
theorem RepDs.cutL {M : Mo} {H : Hp} {bad : Addr → Prop} {ds : List PyData} {vs : List V} (r : RepDs M H bad ds vs) (lo hi : Option Int) : RepDs M H bad (NB.cutL ds lo hi) (NB.cutL vs lo hi) := by
  unfold NB.cutL
  rw [r.len]
  exact (r.drop _).take _
theorem RepDs.ints {M : Mo} {H : Hp} {bad : Addr → Prop} : ∀ ns : List Int, RepDs M H bad (ns.map .int) (ns.map V.int)
  | [] => .nil
  | n :: ns => .cons (.int n) (RepDs.ints ns)
/-- a slice of any of these, by values -/
def rSlD (M : Mo) : V → Option Int → Option Int → Hp → VK → Prop := fun v lo hi H Q => ∃ ι S x z, StoreOk M ι S H ∧ RepV M ι S H x v ∧ gSl S x lo hi = some z ∧ ∀ w H', Ext ι S H ι S H' → StoreOk M ι S H' → RepV M ι S H' z w → Q w H'
theorem sl_all : SlR X (rSlD X.mo) := by
  intro pins s σ H x v vl vu lo hi sl Q I rx hs pl pu ⟨ι, S, a, z, so, ra, hz, k⟩
  have kd : ∀ {d : PyData}, z = .dat d → ∀ w H', Ext ι S H ι S H' → StoreOk X.mo ι S H' → RepD X.mo H' (live ι S) d w → Q w H' := fun {d} e w H' e1 so' r => k w H' e1 so' (by rw [e]; exact .dat r)
  unfold gSl at hz
  split at hz
  · rename_i ns
    cases hz
    cases ra with
    | scr h1 h3 =>
      refine sl_list pins s σ H _ v vl vu lo hi sl Q I rx hs pl pu ⟨_, _, rfl, h1.sq, fun q hq => ?_⟩
      rw [cutV_eq]
      exact new_lstD so (kd rfl) ((RepDs.ints ns).cutL lo hi) (Nat.le_trans (cutL_len _ _ _) (by simpa using h3)) hq
  · split at hz
    · rename_i ds e
      cases hz
      obtain ⟨p, vs, rfl, h1, h2, h3⟩ := (ra.rd so e).list
      refine sl_list pins s σ H _ v vl vu lo hi sl Q I rx hs pl pu ⟨p, _, rfl, SqL.of h1, fun q hq => ?_⟩
      rw [cutV_eq]
      exact new_lstD so (kd rfl) (h3.cutL lo hi) (Nat.le_trans (cutL_len _ _ _) h2) hq
    · rename_i ds e
      cases hz
      obtain ⟨p, vs, rfl, h1, h2, h3⟩ := (ra.rd so e).tup
      refine sl_tupA pins s σ H _ v vl vu lo hi sl Q I rx hs pl pu ⟨p, vs, rfl, h1, fun hw => ?_, fun _ q hq => ?_⟩
      · have e1 : cutL ds lo hi = ds := by
          unfold cutL
          rw [h3.len, hw.1, hw.2, List.drop_zero, Nat.sub_zero]
          exact List.take_of_length_le (Nat.le_of_eq h3.len)
        exact kd rfl _ H Ext.refl so (by rw [e1]; exact .tup h1 h2 h3)
      · rw [cutV_eq]
        exact new_tupD so (kd rfl) (h3.cutL lo hi) (Nat.le_trans (cutL_len _ _ _) h2) hq
    · rename_i zs e
      split at hz
      · rename_i hzs
        cases hz
        have ex := (ra.rd so e).str
        subst ex
        exact sl_str pins s σ H _ v vl vu lo hi sl Q I rx hs pl pu ⟨zs, rfl, hzs, kd rfl _ H Ext.refl so (.str _)⟩
      · cases hz
    · cases hz
theorem de_sl {lo hi : Option Expr} {ml mh : XO} (ha : PE X a (liftE X.mo W ma)) (hl : PO X lo (liftO X.mo W ml)) (hh : PO X hi (liftO X.mo W mh)) : PE X (.Subscript a (.Slice lo hi none p2) pos) (liftE X.mo W (xSl ma ml mh)) := by
  refine (pe_slice sl_all ha hl hh).of fun σ H Q ⟨ρ, ι, S, en, so, h⟩ => ⟨ρ, ι, S, en, so, ?_⟩
  refine (Post.bind h).mono fun v H1 ⟨x, ι1, S1, e1, so1, r1, h1⟩ => ⟨ρ, ι1, S1, en.mono so e1, so1, ?_⟩
  refine (PostB.bind h1).mono fun l H2 ⟨ι2, S2, e2, so2, h2⟩ => ⟨ρ, ι2, S2, (en.mono so e1).mono so1 e2, so2, ?_⟩
  refine (PostB.bind h2).mono fun u H3 ⟨ι3, S3, e3, so3, h3⟩ => ?_
  obtain ⟨z, ez, k⟩ := h3.of
  exact ⟨ι3, S3, x, z, so3, (r1.mono so1 e2).mono so2 e3, ez, fun w H' e so' r => k w ι3 H' e so' r⟩
end
end NB
end
section
set_option Elab.async false
set_option linter.all false
set_option maxRecDepth 100000
set_option maxHeartbeats 1000000
/-! Core 6: targets, what is walked, comprehensions. -/
namespace NB
open PySem PySem.Spec PyProof.Rows L2

/-! ### targets -/
structure Tg where
  set : Val → Env → Option Env
  slots : List Nat
structure Tgs where
  set : List Val → Env → Option Env
  slots : List Nat
def unT : Val → Option (List Val)
  | .dat (.tuple ds) => some (ds.map .dat)
  | .mix xs => some xs
  | _ => none
@[simp] theorem unT_dat (ds : List PyData) : unT (.dat (.tuple ds)) = some (ds.map .dat) := rfl
@[simp] theorem unT_mix (xs : List Val) : unT (.mix xs) = some xs := rfl
def gN (i : Nat) : Tg := ⟨fun x ρ => some (ρ.set i (some x)), [i]⟩
def gsNil : Tgs := ⟨fun xs ρ => match xs with
  | [] => some ρ
  | _ => none, []⟩
def gsCons (t : Tg) (ts : Tgs) : Tgs := ⟨fun xs ρ => match xs with
  | x :: r => (t.set x ρ).bind (ts.set r)
  | _ => none, t.slots ++ ts.slots⟩
def gT (ts : Tgs) : Tg := ⟨fun x ρ => (unT x).bind fun xs => ts.set xs ρ, ts.slots⟩
def liftG (X : Mo) (t : Tg) : TG := fun v σ H Q => ∃ ρ ι S x ρ', EnvOk X ι S H ρ σ ∧ StoreOk X ι S H ∧ RepV X ι S H x v ∧ t.set x ρ = some ρ' ∧
  ∀ σ', EnvOk X ι S H ρ' σ' → (∀ vs, (∀ i ∈ t.slots, i ∈ vs) → wipe σ' vs = wipe σ vs) → Q σ' H
def liftGs (X : Mo) (t : Tgs) : TGs := fun v σ H Q => ∃ ρ ι S x ρ', EnvOk X ι S H ρ σ ∧ StoreOk X ι S H ∧ RepVs X ι S H x v ∧ t.set x ρ = some ρ' ∧
  ∀ σ', EnvOk X ι S H ρ' σ' → (∀ vs, (∀ i ∈ t.slots, i ∈ vs) → wipe σ' vs = wipe σ vs) → Q σ' H
theorem wipe_set (σ : Sg) (i : Nat) (o : Option V) : ∀ vs : List Nat, i ∈ vs → wipe (σ.set i o) vs = wipe σ vs
  | [], h => by cases h
  | v :: vs, h => by
    unfold wipe
    by_cases e : i ∈ vs
    · rw [wipe_set σ i o vs e]
    · have ev : i = v := by
        rcases List.mem_cons.mp h with z | z
        · exact z
        · exact absurd z e
      subst ev
      have out : ∀ ws : List Nat, i ∉ ws → wipe (σ.set i o) ws = (wipe σ ws).set i o := by
        intro ws
        induction ws with
        | nil => intro _; rfl
        | cons w ws ih =>
          intro hw
          simp only [List.mem_cons, not_or] at hw
          unfold wipe
          rw [ih hw.2, List.set_comm _ _ hw.1]
      rw [out vs e, List.set_set]
section
variable {X : Cx}
theorem dg_n {i : Nat} {x : Str} {pos : Pos} (hN : X.N.Nodup) (hi : X.N[i]? = some x) (hx : X.env.scope.names.lookup x = some .local ∨ (X.fn x = true ∧ X.env.scope.names.lookup x = some .cell)) : PG X (.Name x pos) (liftG X.mo (gN i)) := by
  have h1 : Loc X.env.scope x := hx.elim .inl fun h => .inr h.2
  have h2 : X.fn x = true ∨ X.env.scope.names.lookup x = some .local := hx.elim .inr fun h => .inl h.1
  refine (pg_name (pos := pos) hN hi h1 h2).of fun v σ H Q ⟨ρ, ι, S, x, ρ', en, so, r, e, k⟩ => ?_
  cases e
  exact k _ (en.set r i) fun vs h => wipe_set σ i _ vs (h i (List.mem_singleton.mpr rfl))
theorem dgs_nil : PGs X [] (liftGs X.mo gsNil) := by
  refine ⟨fun pins s σ H vs us Q I rv ⟨ρ, ι, S, x, ρ', en, so, r, e, k⟩ => ?_⟩
  cases x with
  | cons _ _ => cases e
  | nil =>
    cases e
    cases r
    exact pgs_nil.run pins s σ H [] us Q I rv ⟨rfl, k σ en fun _ _ => rfl⟩
theorem dgs_cons {e : Expr} {es : List Expr} {t : Tg} {ts : Tgs} (h1 : PG X e (liftG X.mo t)) (h2 : PGs X es (liftGs X.mo ts))
    (hs : (assignEach (e :: es) X.env).map (·.2) = assign e X.env :: (assignEach es X.env).map (·.2)) : PGs X (e :: es) (liftGs X.mo (gsCons t ts)) := by
  refine ⟨fun pins s σ H vs us Q I rv ⟨ρ, ι, S, x, ρ', en, so, r, e, k⟩ => ?_⟩
  refine (pgs_cons h1 h2 hs).run pins s σ H vs us Q I rv ?_
  cases r with
  | nil => cases e
  | cons r rr =>
    have e' : (t.set _ ρ).bind (ts.set _) = some ρ' := e
    obtain ⟨ρ1, e1, e2⟩ := opt_bind_some e'
    refine ⟨_, _, rfl, ρ, ι, S, _, ρ1, en, so, r, e1, fun σ1 en1 w1 => ⟨ρ1, ι, S, _, ρ', en1, so, rr, e2, fun σ2 en2 w2 => ?_⟩⟩
    refine k σ2 en2 fun ws hw => ?_
    rw [w2 ws fun i hi => hw i (List.mem_append_right _ hi), w1 ws fun i hi => hw i (List.mem_append_left _ hi)]
theorem unT_rep {M : Mo} {ι : Lay} {S : Sto} {H : Hp} {x : Val} {v : V} {xs : List Val} (r : RepV M ι S H x v) (h : unT x = some xs) : ∃ a vs, v = .ref a ∧ SqT M.K H a vs ∧ RepVs M ι S H xs vs ∧ xs.length ≤ sizeLine := by
  cases r with
  | dat r =>
    cases r with
    | tup h1 z rr => cases h; exact ⟨_, _, rfl, h1, rr.vs, by simpa using z⟩
    | _ => cases h
  | mix h1 z rr => cases h; exact ⟨_, _, rfl, h1, rr, z⟩
  | _ => cases h
theorem Tgs.len_gen : ∀ {xs : List Val} {ts : Tgs} {ρ ρ' : Env}, ts.set xs ρ = some ρ' → True := fun _ => trivial
theorem dg_t {es : List Expr} {k : Nat} {pos : Pos} {ts : Tgs} (n : Nat) (hc : X.calm = true) (h : PGs X es (liftGs X.mo ts)) (hl : ∀ xs ρ ρ', ts.set xs ρ = some ρ' → xs.length = n)
    (hn : (assignEach es X.env).length = n) (hst : (assignEach es X.env).findIdx? (·.1) = none) : PG X (.Tuple es k pos) (liftG X.mo (gT ts)) := by
  refine (pg_tup hc h hn hst).of fun v σ H Q ⟨ρ, ι, S, x, ρ', en, so, r, e, q⟩ => ?_
  have e' : (unT x).bind (fun xs => ts.set xs ρ) = some ρ' := e
  obtain ⟨xs, e1, e2⟩ := opt_bind_some e'
  obtain ⟨a, vs, rfl, h1, h2, h3⟩ := unT_rep r e1
  exact ⟨a, vs, rfl, h1, by rw [← h2.len]; exact hl _ _ _ e2, ρ, ι, S, xs, ρ', en, so, h2, e2, q⟩
end

/-! ### what is walked -/
structure Itv where
  xs : List Val
  ok : Sto → Prop
abbrev XI := Env → Sto → Res Itv
structure Wk (M : Mo) (J : It) (w : Itv) (ι : Lay) (S : Sto) (H : Hp) : Prop where
  go : ∀ (ι' : Lay) (S' : Sto) (H' : Hp) (i : Nat) (x : Val), Ext0 ι S H ι' S' H' → StoreOk M ι' S' H' → w.ok S' → w.xs[i]? = some x →
    J.go i H' ∧ ∀ v H2, J.yld i H' v H2 → Ext ι' S' H' ι' S' H2 ∧ StoreOk M ι' S' H2 ∧ RepV M ι' S' H2 x v
  stop : ∀ (ι' : Lay) (S' : Sto) (H' : Hp), Ext0 ι S H ι' S' H' → StoreOk M ι' S' H' → w.ok S' → J.stop w.xs.length H'
def PostI (X : Mo) (W : Wish) (ι : Lay) (S : Sto) (H : Hp) (r : Res Itv) (R : It → Hp → Prop) : Prop := match r with
  | .ok w S' => ∀ (J : It) (ι' : Lay) (H' : Hp), Ext ι S H ι' S' H' → StoreOk X ι' S' H' → Wk X J w ι' S' H' → R J H'
  | .raise e S' => ∀ (ι' : Lay) (H' : Hp), Ext ι S H ι' S' H' → StoreOk X ι' S' H' → W e ι' S' H'
  | .fail => False
def liftI (X : Mo) (W : Sg → Wish) (m : XI) : TI := fun σ H R => ∃ ρ ι S, EnvOk X ι S H ρ σ ∧ StoreOk X ι S H ∧ PostI X (W σ) ι S H (m ρ S) R
theorem _root_.L2.PI.of {X : Cx} {tg e : Expr} {t t' : TI} (h : PI X tg e t) (k : ∀ σ H R, t' σ H R → t σ H R) : PI X tg e t' := ⟨fun pins s σ H R I q => h.run pins s σ H R I (k _ _ _ q)⟩
/-- where the items come from: it must not have changed -/
def okSrc (x : Val) (xs : List Val) : Sto → Prop := match x with
  | .loc l => fun S => items S (.loc l) = some xs
  | _ => fun _ => True
@[simp] theorem okSrc_dat (d : PyData) (xs : List Val) (S : Sto) : okSrc (.dat d) xs S = True := rfl
@[simp] theorem okSrc_mix (d : List Val) (xs : List Val) (S : Sto) : okSrc (.mix d) xs S = True := rfl
@[simp] theorem okSrc_scr (d : List Int) (xs : List Val) (S : Sto) : okSrc (.scr d) xs S = True := rfl
theorem items_okSrc {x : Val} {xs : List Val} {S S' : Sto} (h : items S x = some xs) (k : okSrc x xs S') : items S' x = some xs := by
  cases x with
  | loc l => exact k
  | dat d => cases d <;> exact h
  | fn _ => exact h
  | mix _ => exact h
  | set _ => exact h
  | scr _ => exact h
def isT : Val → Bool
  | .dat (.tuple _) => true
  | .mix _ => true
  | _ => false
/-- the items as they stand -/
theorem seq_at {M : Mo} {ι : Lay} {S : Sto} {H : Hp} {x : Val} {v : V} {xs : List Val} (so : StoreOk M ι S H) (r : RepV M ι S H x v) (h : items S x = some xs) :
    ∃ a vs, v = .ref a ∧ RepVs M ι S H xs vs ∧ xs.length ≤ sizeLine ∧ (isT x = true → SqT M.K H a vs) ∧ (isT x = false → SqL M.K H a vs) := by
  cases r with
  | dat r =>
    cases r with
    | tup h1 z rr => cases h; exact ⟨_, _, rfl, rr.vs, by simpa using z, fun _ => h1, fun q => (by cases q)⟩
    | lst h1 n z rr => cases h; exact ⟨_, _, rfl, rr.vs, by simpa using z, fun q => (by cases q), fun _ => SqL.of h1⟩
    | _ => cases h
  | mix h1 z rr => cases h; exact ⟨_, _, rfl, rr, z, fun _ => h1, fun q => (by cases q)⟩
  | @scr a ns h1 z =>
    cases h
    refine ⟨a, ns.map .int, rfl, ?_, by simpa using z, fun q => (by cases q), fun _ => h1.sq⟩
    have e : (ns.map fun n => Val.dat (.int n)) = (ns.map PyData.int).map .dat := by rw [List.map_map]; rfl
    rw [e]
    exact (RepDs.ints ns).vs
  | @loc l a hl =>
    have h' : (match S[l]? with
      | some (.lst xs) => some xs
      | _ => none) = some xs := h
    cases e : S[l]? with
    | none => rw [e] at h'; cases h'
    | some c =>
      rw [e] at h'
      cases c with
      | lst ys =>
        cases h'
        obtain ⟨vs, h1, h2, h3⟩ := so.cell l a _ hl e
        exact ⟨a, vs, rfl, h3, h2, fun q => (by cases q), fun _ => SqL.of h1⟩
      | _ => cases h'
  | fn _ => cases h
  | setK _ _ _ _ _ _ => cases h
def iSeq (m : XE) : XI := fun ρ S => (m ρ S).bind fun x S1 => match items S1 x with
  | some xs => .ok ⟨xs, okSrc x xs⟩ S1
  | none => match x with
    | .dat (.str z) => .ok ⟨z.cps.toList.map fun c => .dat (.str ⟨#[c]⟩), fun _ => True⟩ S1
    | _ => .fail
/-- 0, 1, .. n - 1 -/
def upTo (lo : Int) (n : Nat) : List Val := (List.range n).map fun k => .dat (.int (lo + (k : Nat)))
def rOk (i : Int) : Bool := decide (-(2 ^ 62) ≤ i) && decide (i < 2 ^ 62)
def iRange1 (m : XE) : XI := fun ρ S => (m ρ S).bind fun x S1 => match x with
  | .dat (.int n) => if rOk n then .ok ⟨upTo 0 n.toNat, fun _ => True⟩ S1 else .fail
  | _ => .fail
def iRange2 (m1 m2 : XE) : XI := fun ρ S => (m1 ρ S).bind fun x S1 => (m2 ρ S1).bind fun y S2 => match x, y with
  | .dat (.int a), .dat (.int b) => if rOk a && rOk b then .ok ⟨upTo a (b - a).toNat, fun _ => True⟩ S2 else .fail
  | _, _ => .fail
def enumV (xs : List Val) : List Val := xs.mapIdx fun i x => mkTup [.dat (.int (i : Nat)), x]
def iEnumX (m : XE) : XI := fun ρ S => (m ρ S).bind fun x S1 => match items S1 x with
  | some xs => .ok ⟨enumV xs, okSrc x xs⟩ S1
  | none => .fail
def zipV (xs ys : List Val) : List Val := (xs.zip ys).map fun p => mkTup [p.1, p.2]
def iZipX (m1 m2 : XE) : XI := fun ρ S => (m1 ρ S).bind fun x S1 => (m2 ρ S1).bind fun y S2 => match items S2 x, items S2 y with
  | some xs, some ys => .ok ⟨zipV xs ys, fun S => okSrc x xs S ∧ okSrc y ys S⟩ S2
  | _, _ => .fail
section
variable {X : Cx} {W : Sg → Wish} {tg a b : Expr} {ma mb : XE} {pos p : Pos}
theorem wk_list {M : Mo} {ι : Lay} {S : Sto} {H : Hp} {x : Val} {xs : List Val} {a : Addr} (r : RepV M ι S H x (.ref a)) (h : items S x = some xs) (ht : isT x = false) (so0 : StoreOk M ι S H) : Wk M (Itl M.K a) ⟨xs, okSrc x xs⟩ ι S H := by
  have at_ : ∀ (ι' : Lay) (S' : Sto) (H' : Hp), Ext0 ι S H ι' S' H' → StoreOk M ι' S' H' → okSrc x xs S' → ∃ vs, RepVs M ι' S' H' xs vs ∧ SqL M.K H' a vs := fun ι' S' H' e so k => by
    obtain ⟨b, vs, e1, r1, _, _, h2⟩ := seq_at so (r.mono so0 e) (items_okSrc h k)
    cases e1
    exact ⟨vs, r1, h2 ht⟩
  constructor
  · intro ι' S' H' i y e so k hy
    obtain ⟨vs, r1, h2⟩ := at_ ι' S' H' e so k
    obtain ⟨v, hv, rv⟩ := r1.get hy
    refine ⟨⟨vs, v, h2, hv⟩, ?_⟩
    rintro v' H2 ⟨rfl, hall⟩
    have := hall vs h2
    rw [hv] at this
    cases this
    exact ⟨Ext.refl, so, rv⟩
  · intro ι' S' H' e so k
    obtain ⟨vs, r1, h2⟩ := at_ ι' S' H' e so k
    exact ⟨vs, h2, Nat.le_of_eq r1.len.symm⟩
theorem wk_tup {M : Mo} {ι : Lay} {S : Sto} {H : Hp} {x : Val} {xs : List Val} {a : Addr} (r : RepV M ι S H x (.ref a)) (h : items S x = some xs) (ht : isT x = true) (so0 : StoreOk M ι S H) : Wk M (Itt M.K a) ⟨xs, okSrc x xs⟩ ι S H := by
  have at_ : ∀ (ι' : Lay) (S' : Sto) (H' : Hp), Ext0 ι S H ι' S' H' → StoreOk M ι' S' H' → okSrc x xs S' → ∃ vs, RepVs M ι' S' H' xs vs ∧ SqT M.K H' a vs := fun ι' S' H' e so k => by
    obtain ⟨b, vs, e1, r1, _, h2, _⟩ := seq_at so (r.mono so0 e) (items_okSrc h k)
    cases e1
    exact ⟨vs, r1, h2 ht⟩
  constructor
  · intro ι' S' H' i y e so k hy
    obtain ⟨vs, r1, h2⟩ := at_ ι' S' H' e so k
    obtain ⟨v, hv, rv⟩ := r1.get hy
    refine ⟨⟨vs, v, h2, hv⟩, ?_⟩
    rintro v' H2 ⟨rfl, hall⟩
    have := hall vs h2
    rw [hv] at this
    cases this
    exact ⟨Ext.refl, so, rv⟩
  · intro ι' S' H' e so k
    obtain ⟨vs, r1, h2⟩ := at_ ι' S' H' e so k
    exact ⟨vs, h2, Nat.le_of_eq r1.len.symm⟩
theorem di_seq (h : PE X a (liftE X.mo W ma)) (tg : Expr) : PI X tg a (liftI X.mo W (iSeq ma)) := by
  refine ⟨fun pins s σ H R I ⟨ρ, ι, S, en, so, q⟩ => ?_⟩
  unfold iSeq at q
  cases em : ma ρ S with
  | fail => rw [em] at q; exact q.elim
  | raise e S1 =>
    rw [em] at q
    refine (pi_list h).run pins s σ H R I ⟨ρ, ι, S, en, so, ?_⟩
    rw [em]
    exact q
  | ok x S1 =>
    rw [em] at q
    simp only [Res.bind_ok] at q
    cases hx : items S1 x with
    | some xs =>
      rw [hx] at q
      cases ht : isT x with
      | false =>
        refine (pi_list h).run pins s σ H R I ⟨ρ, ι, S, en, so, ?_⟩
        rw [em]
        intro v ι1 H1 e1 so1 r1
        obtain ⟨a, vs, rfl, r2, _, _, h3⟩ := seq_at so1 r1 hx
        exact ⟨a, rfl, ⟨vs, h3 ht⟩, q _ ι1 H1 e1 so1 (wk_list r1 hx ht so1)⟩
      | true =>
        refine (pi_tup h).run pins s σ H R I ⟨ρ, ι, S, en, so, ?_⟩
        rw [em]
        intro v ι1 H1 e1 so1 r1
        obtain ⟨a, vs, rfl, r2, _, h3, _⟩ := seq_at so1 r1 hx
        exact ⟨a, rfl, ⟨vs, h3 ht⟩, q _ ι1 H1 e1 so1 (wk_tup r1 hx ht so1)⟩
    | none =>
      rw [hx] at q
      have fin : ∀ z, x = .dat (.str z) → wpAny (model X.prog X.w) X.A (eval a X.env) (fun v s1 => wpAny (model X.prog X.w) X.A (pyIter v) (PIE X pins σ tg R) X.xe s1) X.xe s := by
        intro z ex
        subst ex
        refine (pi_str h).run pins s σ H R I ⟨ρ, ι, S, en, so, ?_⟩
        rw [em]
        intro v ι1 H1 e1 so1 r1
        cases r1 with
        | dat r1 =>
          cases r1 with
          | str _ =>
            refine ⟨z, rfl, q _ ι1 H1 e1 so1 ⟨?_, ?_⟩⟩
            · intro ι' S' H' i y e so' k hy
              rw [List.getElem?_map] at hy
              obtain ⟨c, hc, rfl⟩ := Option.map_eq_some_iff.mp hy
              have hc' : z.cps[i]? = some c := by rw [← Array.getElem?_toList]; exact hc
              refine ⟨(Array.getElem?_eq_some_iff.mp hc').1, ?_⟩
              rintro v H2 ⟨rfl, c', h1, rfl⟩
              rw [hc'] at h1; cases h1
              exact ⟨Ext.refl, so', .dat (.str _)⟩
            · intro ι' S' H' e so' k
              show z.cps.size ≤ _
              simp
      cases x with
      | dat d =>
        cases d with
        | str z => exact fin z rfl
        | _ => exact q.elim
      | _ => exact q.elim
theorem wk_rng {M : Mo} {ι : Lay} {S : Sto} {H : Hp} (lo : Int) (n : Nat) : Wk M (Itr lo n) ⟨upTo lo n, fun _ => True⟩ ι S H := by
  constructor
  · intro ι' S' H' i y e so k hy
    unfold upTo at hy
    rw [List.getElem?_map] at hy
    obtain ⟨c, hc, rfl⟩ := Option.map_eq_some_iff.mp hy
    obtain ⟨h1, h2⟩ := List.getElem?_eq_some_iff.mp hc
    rw [List.length_range] at h1
    rw [List.getElem_range] at h2
    subst h2
    refine ⟨h1, ?_⟩
    rintro v H2 ⟨rfl, rfl⟩
    exact ⟨Ext.refl, so, .dat (.int _)⟩
  · intro ι' S' H' e so k
    show n ≤ _
    simp [upTo]
theorem di_range1 (hg : Gl X "range") (hm : X.mg "range" = none) (h : PE X a (liftE X.mo W ma)) (hs : starEach [a] X.env = [(false, eval a X.env)]) : PI X tg (.Call (.Name "range" p) [a] [] pos) (liftI X.mo W (iRange1 ma)) := by
  refine (pi_range1 hg hm (da_cons h da_nil hs) hs).of fun σ H R ⟨ρ, ι, S, en, so, q⟩ => ⟨ρ, ι, S, en, so, ?_⟩
  unfold iRange1 at q
  unfold aCons aNil
  cases em : ma ρ S with
  | fail => rw [em] at q; exact q.elim
  | raise e S1 => rw [em] at q; exact q
  | ok x S1 =>
    rw [em] at q
    simp only [Res.bind_ok] at q ⊢
    intro vs ι1 H1 e1 so1 r1
    cases r1 with
    | cons r rr =>
      cases rr
      cases r with
      | dat r =>
        cases r with
        | int n =>
          simp only at q
          split at q
          · rename_i hr
            unfold rOk at hr
            rw [Bool.and_eq_true, decide_eq_true_eq, decide_eq_true_eq] at hr
            exact ⟨n, rfl, hr.1, hr.2, q _ ι1 H1 e1 so1 (wk_rng 0 _)⟩
          · exact q.elim
        | _ => exact q.elim
      | _ => exact q.elim
theorem di_range2 (hg : Gl X "range") (hm : X.mg "range" = none) (h1 : PE X a (liftE X.mo W ma)) (h2 : PE X b (liftE X.mo W mb)) (hs : starEach [a, b] X.env = [(false, eval a X.env), (false, eval b X.env)]) (hs2 : starEach [b] X.env = [(false, eval b X.env)]) :
    PI X tg (.Call (.Name "range" p) [a, b] [] pos) (liftI X.mo W (iRange2 ma mb)) := by
  refine (pi_range2 hg hm (da_cons h1 (da_cons h2 da_nil (by rw [hs2]; rfl)) (by rw [hs, hs2])) hs hs2).of fun σ H R ⟨ρ, ι, S, en, so, q⟩ => ⟨ρ, ι, S, en, so, ?_⟩
  unfold iRange2 at q
  unfold aCons aNil
  cases em : ma ρ S with
  | fail => rw [em] at q; exact q.elim
  | raise e S1 => rw [em] at q; exact q
  | ok x S1 =>
    rw [em] at q
    simp only [Res.bind_ok] at q ⊢
    cases em2 : mb ρ S1 with
    | fail => rw [em2] at q; exact q.elim
    | raise e S2 => rw [em2] at q; exact q
    | ok y S2 =>
      rw [em2] at q
      simp only [Res.bind_ok] at q ⊢
      intro vs ι1 H1 e1 so1 r1
      cases r1 with
      | cons r rr =>
        cases rr with
        | cons r' rr =>
          cases rr
          split at q
          · rename_i i j
            split at q
            · rename_i hr
              unfold rOk at hr
              simp only [Bool.and_eq_true, decide_eq_true_eq] at hr
              cases r with
              | dat r =>
                cases r' with
                | dat r' =>
                  cases r
                  cases r'
                  exact ⟨i, j, rfl, ⟨hr.1.1, hr.1.2, hr.2.1, hr.2.2⟩, q _ ι1 H1 e1 so1 (wk_rng _ _)⟩
            · exact q.elim
          · exact q.elim
/-- a new pair -/
theorem new_pair {M : Mo} {ι : Lay} {S : Sto} {H : Hp} {x y : Val} {v w : V} {p : Addr} (so : StoreOk M ι S H) (r1 : RepV M ι S H x v) (r2 : RepV M ι S H y w) (hp : H p = none) :
    Ext ι S H ι S (upd H p (.tup [v, w])) ∧ StoreOk M ι S (upd H p (.tup [v, w])) ∧ RepV M ι S (upd H p (.tup [v, w])) (mkTup [x, y]) (.ref p) :=
  new_tup so (.cons r1 (.cons r2 .nil)) (by show 2 ≤ sizeLine; decide) hp
end
end NB
end
section
set_option Elab.async false
set_option linter.all false
set_option maxRecDepth 100000
set_option maxHeartbeats 1000000
/-! Core 7: comprehensions. -/
namespace NB
open PySem PySem.Spec PyProof.Rows L2
open Classical

def wipeE (ρ : Env) : List Nat → Env
  | [] => ρ
  | v :: vs => (wipeE ρ vs).set v none
def xTrue : XT := fun _ S => .ok true S
/-- the items that a comprehension makes -/
noncomputable def lcGo (vs : List Nat) (g : Tg) (t : XT) (e : XE) (ρ : Env) (ok : Sto → Prop) : List Val → Sto → Res (List Val)
  | [], S => if ok S then .ok [] S else .fail
  | x :: xs, S => if ok S then match g.set x (wipeE ρ vs) with
    | some ρ2 => (t ρ2 S).bind fun b S1 => if b then (e ρ2 S1).bind fun y S2 => (lcGo vs g t e ρ ok xs S2).bind fun ys S3 => .ok (y :: ys) S3 else lcGo vs g t e ρ ok xs S1
    | none => .fail
    else .fail
noncomputable def lcRun (vs : List Nat) (m : XI) (g : Tg) (t : XT) (e : XE) : XA := fun ρ S => (m ρ S).bind fun w S1 => match lcGo vs g t e ρ w.ok w.xs S1 with
  | .ok ys S2 => if ys.length ≤ sizeLine then .ok ys S2 else .fail
  | _ => .fail
/-- a list that stays -/
noncomputable def xLc (vs : List Nat) (m : XI) (g : Tg) (t : XT) (e : XE) : XE := xLst (lcRun vs m g t e)
/-- a list that will be changed -/
noncomputable def xLcC (vs : List Nat) (m : XI) (g : Tg) (t : XT) (e : XE) : XE := xLstC (lcRun vs m g t e)
section
variable {M : Mo} {ι ι' : Lay} {S S' : Sto} {H H' : Hp}
theorem wipeE_len (ρ : Env) : ∀ vs : List Nat, (wipeE ρ vs).length = ρ.length
  | [] => rfl
  | v :: vs => by unfold wipeE; rw [List.length_set, wipeE_len ρ vs]
theorem EnvOk.wipe {ρ : Env} {σ : Sg} (en : EnvOk M ι S H ρ σ) : ∀ vs : List Nat, EnvOk M ι S H (wipeE ρ vs) (L2.wipe σ vs)
  | [] => en
  | v :: vs => by
    have ih := EnvOk.wipe en vs
    refine ⟨by rw [wipeE_len, wipe_length]; exact en.len, fun i x h => ?_⟩
    unfold wipeE at h
    unfold L2.wipe
    by_cases e : v = i
    · subst e
      by_cases hv : v < (wipeE ρ vs).length
      · rw [List.getElem?_set_self hv] at h; cases h
      · rw [List.getElem?_eq_none (by simpa using hv)] at h; cases h
    · rw [List.getElem?_set_ne e] at h ⊢
      exact ih.at_ i x h
end
/-- no exception -/
abbrev noW : Sg → Wish := fun _ _ _ _ _ => False
section
variable {X : Cx} {W : Sg → Wish}
theorem dts_nil : PTs X [] (liftT X.mo noW xTrue) := ⟨fun pins s σ H Q I ⟨ρ, ι, S, en, so, h⟩ => pts_nil.run pins s σ H Q I (h ι H Ext.refl so)⟩
theorem dts_one {c : Expr} {m : XT} (h : PT X c (liftT X.mo noW m)) : PTs X [c] (liftT X.mo noW m) := pts_one h
theorem wipe_wipe (σ : Sg) : ∀ vs : List Nat, wipe (wipe σ vs) vs = wipe σ vs := by
  have key : ∀ (ws vs : List Nat) (σ : Sg), (∀ i ∈ ws, i ∈ vs) → wipe (wipe σ ws) vs = wipe σ vs := by
    intro ws
    induction ws with
    | nil => intro vs σ _; rfl
    | cons w ws ih =>
      intro vs σ h
      show wipe ((wipe σ ws).set w none) vs = _
      rw [wipe_set _ w none vs (h w List.mem_cons_self)]
      exact ih vs σ fun i hi => h i (List.mem_cons_of_mem _ hi)
  exact fun vs => key vs vs σ fun _ h => h
/-- the made thing becomes a cell -/
theorem own_cell {M : Mo} {ι : Lay} {S : Sto} {H : Hp} {D : Addr} {g : List Addr} {c : Cell} (so : StoreOk M ι S H) (hg : ι.g = D :: g) (hd : D ∉ g) (hc : ∀ (ι' : Lay) (S' : Sto), Ext0 ι S H ι' S' H → CellOk M ι' S' H D c) (hw : c.under S.length = true) :
    Ext0 ι S H ((ι.off g).push D) (S ++ [c]) H ∧ StoreOk M ((ι.off g).push D) (S ++ [c]) H ∧ RepV M ((ι.off g).push D) (S ++ [c]) H (.loc S.length) (.ref D) := by
  have hDg : D ∈ ι.g := by rw [hg]; exact List.mem_cons_self
  have sub : ∀ x ∈ g, x ∈ ι.g := fun x hx => by rw [hg]; exact List.mem_cons_of_mem _ hx
  have e : Ext0 ι S H ((ι.off g).push D) (S ++ [c]) H := by
    refine ⟨List.prefix_append _ _, fun a u h n => ⟨h, fun hl => ?_⟩, fun a h => h⟩
    rcases live_snoc (ι := ι.off g) so.len hl with z | z
    · exact n (live_off sub z)
    · exact n (.inr (by rw [z]; exact hDg))
  have hDc : D ∉ ι.c := (so.gh D hDg).1
  refine ⟨e, ⟨by simp [so.len], ?_, fun a ha => ?_, fun a ha => ⟨fun z => ?_, (so.gh a (sub a ha)).2⟩, fun l a c' h1 h2 => ?_, fun l c' h => ?_⟩, .loc ?_⟩
  · show (ι.c ++ [D]).Nodup
    rw [List.nodup_append]
    exact ⟨so.nd, by simp, fun a ha b hb => by simp at hb; rintro rfl; exact hDc (hb ▸ ha)⟩
  · rcases List.mem_append.mp ha with z | z
    · exact so.there a z
    · simp at z; rw [z]; exact so.ghN hDg
  · rcases List.mem_append.mp z with z | z
    · exact (so.gh a (sub a ha)).1 z
    · simp at z; exact hd (by rw [← z]; exact ha)
  · have h1 : (ι.c ++ [D])[l]? = some a := h1
    by_cases hlt : l < ι.c.length
    · rw [List.getElem?_append_left hlt] at h1
      rw [List.getElem?_append_left (by rw [← so.len]; exact hlt)] at h2
      exact CellOk.mono so e rfl (so.cell l a c' h1 h2)
    · rw [List.getElem?_append_right (by omega)] at h1
      rw [List.getElem?_append_right (by rw [← so.len]; omega)] at h2
      have e1 : l - ι.c.length = 0 := by
        have := (List.getElem?_eq_some_iff.mp h1).1
        simp at this; omega
      rw [← so.len, e1] at h2
      rw [e1] at h1
      simp at h1 h2
      subst h1 h2
      exact hc _ _ e
  · by_cases hlt : l < S.length
    · rw [List.getElem?_append_left hlt] at h; exact so.wf l c' h
    · rw [List.getElem?_append_right (by omega)] at h
      have e1 : l - S.length = 0 := by
        have := (List.getElem?_eq_some_iff.mp h).1
        simp at this; omega
      rw [e1] at h
      simp at h
      subst h
      have : l = S.length := by omega
      rw [this]; exact hw
  · show (ι.c ++ [D])[S.length]? = some D
    rw [← so.len, List.getElem?_append_right (Nat.le_refl _), Nat.sub_self]; rfl
/-- a list comprehension, whatever becomes of its items -/
theorem lc_any {vs : List Nat} {m : XI} {g : Tg} {t : XT} {e : XE} {σ : Sg} {H : Hp} {ρ : Env} {ι : Lay} {S : Sto} {Qd : V → Hp → Prop} {f : List Val → Sto → Res Val} (en : EnvOk X.mo ι S H ρ σ) (so : StoreOk X.mo ι S H) (hv : ∀ i ∈ g.slots, i ∈ vs)
    (h : Post X.mo (W σ) ι S H ((lcRun vs m g t e ρ S).bind f) Qd)
    (hf : ∀ (ι1 : Lay) (S1 : Sto) (H1 : Hp) (D : Addr) (ι' : Lay) (S' : Sto) (H' : Hp) (ys : List Val) (us : List V), Post X.mo (W σ) ι1 S1 H1 (f ys S') Qd → H1 D = none → StoreOk X.mo ι1 S1 H1 → Ext0 ι1 S1 H1 ι' S' H' → StoreOk X.mo ι' S' H' → ι'.g = D :: ι1.g → (∀ a ∈ ι1.g, H' a = H1 a) → H' D = some (.lst us) → RepVs X.mo ι' S' H' ys us → ys.length ≤ sizeLine → Qd (.ref D) H') :
    tLc (liftI X.mo W m) (liftG X.mo g) (liftT X.mo noW t) (liftE X.mo noW e) vs σ H Qd := by
  refine ⟨ρ, ι, S, en, so, ?_⟩
  unfold lcRun at h
  cases em : m ρ S with
  | fail => rw [em] at h; exact h.elim
  | raise x S1 => rw [em] at h; exact h
  | ok w S1 =>
    rw [em] at h
    simp only [Res.bind_ok] at h
    intro J ι1 H1 e1 so1 wk D hD
    cases er : lcGo vs g t e ρ w.ok w.xs S1 with
    | fail => rw [er] at h; exact h.elim
    | raise x S2 => rw [er] at h; exact h.elim
    | ok ys Sf =>
      rw [er] at h
      by_cases hz : ys.length ≤ sizeLine
      case neg => simp only [if_neg hz] at h; exact h.elim
      simp only [if_pos hz, Res.bind_ok] at h
      let St : Nat → Hp → Prop := fun i H => ∃ (ι2 : Lay) (S2 : Sto) (acc rem : List Val) (us : List V), i ≤ w.xs.length ∧ Ext0 ι1 S1 H1 ι2 S2 H ∧ StoreOk X.mo ι2 S2 H ∧ ι2.g = D :: ι1.g ∧ (∀ a ∈ ι1.g, H a = H1 a) ∧ H D = some (.lst us) ∧ RepVs X.mo ι2 S2 H acc us ∧
        lcGo vs g t e ρ w.ok (w.xs.drop i) S2 = .ok rem Sf ∧ acc ++ rem = ys
      refine ⟨fun i m H => m = w.xs.length - i ∧ St i H, ⟨_, rfl, ι1.gst D, S1, [], ys, [], Nat.zero_le _, ext0_gst so1 hD, so_gst so1 hD (.inl ⟨_, rfl⟩), rfl, fun a ha => upd_none (so1.ghN ha) hD, upd_same, .nil, er, rfl⟩, ?_⟩
      rintro i m H2 ⟨rfl, ι2, S2, acc, rem, us, hi, e2, so2, hg2, hgk, hDl, racc, hrun, hsum⟩
      have hDg : D ∈ ι2.g := by rw [hg2]; exact List.mem_cons_self
      cases hdr : w.xs.drop i with
      | nil =>
        have hi' : i = w.xs.length := by
          have := List.drop_eq_nil_iff.mp hdr
          omega
        rw [hdr] at hrun
        unfold lcGo at hrun
        by_cases hok : w.ok S2
        case neg => rw [if_neg hok] at hrun; cases hrun
        rw [if_pos hok] at hrun
        cases hrun
        refine .inl ⟨by rw [hi']; exact wk.stop ι2 _ H2 e2 so2 hok, ?_⟩
        rw [List.append_nil] at hsum
        subst hsum
        exact hf ι1 S1 H1 D ι2 _ H2 acc us (Post.from e1 h) hD so1 e2 so2 hg2 hgk hDl racc hz
      | cons x xs =>
        have hx : w.xs[i]? = some x := by
          have := congrArg List.head? hdr
          rw [List.head?_drop] at this
          exact this
        have hlt : i < w.xs.length := (List.getElem?_eq_some_iff.mp hx).1
        have hdr' : w.xs.drop (i + 1) = xs := by
          have := congrArg List.tail hdr
          rw [List.tail_drop] at this
          exact this
        rw [hdr] at hrun
        unfold lcGo at hrun
        by_cases hok : w.ok S2
        case neg => rw [if_neg hok] at hrun; cases hrun
        rw [if_pos hok] at hrun
        obtain ⟨go, yld⟩ := wk.go ι2 S2 H2 i x e2 so2 hok hx
        refine .inr ⟨go, St (i + 1), fun H' st => ⟨_, by omega, rfl, st⟩, fun v H3 hy => ?_⟩
        obtain ⟨e3, so3, rv⟩ := yld v H3 hy
        cases hset : g.set x (wipeE ρ vs) with
        | none => rw [hset] at hrun; cases hrun
        | some ρ2 =>
          rw [hset] at hrun
          have hrun : ((t ρ2 S2).bind fun b S1 => if b then (e ρ2 S1).bind fun y S2 => (lcGo vs g t e ρ w.ok xs S2).bind fun ys S3 => .ok (y :: ys) S3 else lcGo vs g t e ρ w.ok xs S1) = .ok rem Sf := hrun
          have en1 := en.mono so (e1.toExt0.trans (e2.trans e3.toExt0))
          refine ⟨wipeE ρ vs, ι2, S2, x, ρ2, en1.wipe vs, so3, rv, hset, fun σ2 en2 hw => ⟨?_, ?_⟩⟩
          · rw [hw vs hv, wipe_wipe]
          obtain ⟨b, S3, et, hrun⟩ := Res.bind_eq_ok hrun
          refine ⟨ρ2, ι2, S2, en2, so3, ?_⟩
          rw [et]
          intro ι4 H4 e4 so4
          have hg4 : ι4.g = D :: ι1.g := e4.gh.trans hg2
          have hD3 : H3 D = some (.lst us) := (e3.gk D hDg).trans hDl
          have hD4 : H4 D = some (.lst us) := (e4.gk D hDg).trans hD3
          have hk4 : ∀ a ∈ ι1.g, H4 a = H1 a := fun a ha => by
            have ha2 : a ∈ ι2.g := by rw [hg2]; exact List.mem_cons_of_mem _ ha
            rw [e4.gk a ha2, e3.gk a ha2, hgk a ha]
          cases b with
          | false =>
            simp only [Bool.false_eq_true, if_false] at hrun ⊢
            exact ⟨ι4, S3, acc, rem, us, hlt, e2.trans (e3.toExt0.trans e4.toExt0), so4, hg4, hk4, hD4, (racc.mono so2 e3.toExt0).mono so3 e4.toExt0, by rw [hdr']; exact hrun, hsum⟩
          | true =>
            simp only [if_true] at hrun ⊢
            obtain ⟨y, S5, ee, hrun⟩ := Res.bind_eq_ok hrun
            obtain ⟨rem', S6, eg, hrun⟩ := Res.bind_eq_ok hrun
            cases hrun
            refine ⟨ρ2, ι4, S3, en2.mono so3 e4.toExt0, so4, ?_⟩
            rw [ee]
            intro v5 ι5 H5 e5 so5 r5
            have hDg4 : D ∈ ι4.g := by rw [hg4]; exact List.mem_cons_self
            have hg5 : ι5.g = D :: ι1.g := e5.gh.trans hg4
            have hDg5 : D ∈ ι5.g := by rw [hg5]; exact List.mem_cons_self
            have hD5 : H5 D = some (.lst us) := (e5.gk D hDg4).trans hD4
            have hacc5 : RepVs X.mo ι5 S5 H5 acc us := ((racc.mono so2 e3.toExt0).mono so3 e4.toExt0).mono so4 e5.toExt0
            have hlen : us.length < sizeLine := by
              have h1 := racc.len
              have h2 := congrArg List.length hsum
              rw [List.length_append, List.length_cons] at h2
              omega
            refine ⟨us, hD5, hlen, ι5, S5, acc ++ [y], rem', us ++ [v5], hlt, e2.trans (e3.toExt0.trans (e4.toExt0.trans (e5.toExt0.trans (ext0_gset so5 hDg5)))), so_gset so5 hDg5 (.inl ⟨_, rfl⟩), hg5, fun a ha => ?_, upd_same, (hacc5.append (.cons r5 .nil)).mono so5 (ext0_gset so5 hDg5), by rw [hdr']; exact eg, by rw [List.append_assoc]; exact hsum⟩
            have ha2 : a ∈ ι4.g := by rw [hg4]; exact List.mem_cons_of_mem _ ha
            have hne : a ≠ D := fun z => so1.ghN ha (by rw [z]; exact hD)
            rw [upd_ne hne, e5.gk a ha2, hk4 a ha]
/-- .. into a list that stays -/
theorem fin_lst {ι1 : Lay} {S1 : Sto} {H1 : Hp} {D : Addr} {ι' : Lay} {S' : Sto} {H' : Hp} {ys : List Val} {us : List V} {W0 : Wish} {Qd : V → Hp → Prop}
    (h : Post X.mo W0 ι1 S1 H1 (Res.of S' ((allDat ys).map fun ds => .dat (.list ds))) Qd) (hD : H1 D = none) (so1 : StoreOk X.mo ι1 S1 H1) (e : Ext0 ι1 S1 H1 ι' S' H') (so : StoreOk X.mo ι' S' H') (hg : ι'.g = D :: ι1.g) (hk : ∀ a ∈ ι1.g, H' a = H1 a) (hl : H' D = some (.lst us)) (r : RepVs X.mo ι' S' H' ys us) (hz : ys.length ≤ sizeLine) : Qd (.ref D) H' := by
  cases q : allDat ys with
  | none => rw [q] at h; exact h.elim
  | some ds =>
    rw [q] at h
    have sub : ∀ x ∈ ι1.g, x ∈ ι'.g := fun x hx => by rw [hg]; exact List.mem_cons_of_mem _ hx
    have hDg : D ∈ ι'.g := by rw [hg]; exact List.mem_cons_self
    have nD : ¬ live (ι'.off ι1.g) S' D := by
      rintro (⟨l, c, h1, _⟩ | h1)
      · exact (so.gh D hDg).1 (List.mem_of_getElem? h1)
      · exact so1.ghN h1 hD
    have eo := ext0_off (S := S') (H := H') sub
    refine h (.ref D) (ι'.off ι1.g) H' ⟨e.trans eo, rfl, hk⟩ (so_off so sub) (.dat (.lst hl nD ?_ ((r.ds' q).mono so eo)))
    rw [allDat_eq q, List.length_map] at hz
    exact hz
theorem fin_cell {ι1 : Lay} {S1 : Sto} {H1 : Hp} {D : Addr} {ι' : Lay} {S' : Sto} {H' : Hp} {ys : List Val} {us : List V} {W0 : Wish} {Qd : V → Hp → Prop}
    (h : Post X.mo W0 ι1 S1 H1 (newCell (.lst ys) S') Qd) (hD : H1 D = none) (so1 : StoreOk X.mo ι1 S1 H1) (e : Ext0 ι1 S1 H1 ι' S' H') (so : StoreOk X.mo ι' S' H') (hg : ι'.g = D :: ι1.g) (hk : ∀ a ∈ ι1.g, H' a = H1 a) (hl : H' D = some (.lst us)) (r : RepVs X.mo ι' S' H' ys us) (hz : ys.length ≤ sizeLine) : Qd (.ref D) H' := by
  unfold newCell at h
  by_cases hw : (Cell.lst ys).under S'.length = true
  case neg => rw [if_neg hw] at h; exact h.elim
  rw [if_pos hw] at h
  have hd : D ∉ ι1.g := fun z => so1.ghN z hD
  obtain ⟨e2, so2, r2⟩ := own_cell (c := .lst ys) so hg hd (fun ι2 S2 e2 => ⟨us, hl, hz, r.mono so e2⟩) hw
  exact h (.ref D) _ H' ⟨e.trans e2, rfl, hk⟩ so2 r2
section
variable {elt tg iter : Expr} {ifs : List Expr} {scope : Scope} {own : List (Str × Nat)} {pos : Pos} {mi : XI} {g : Tg} {mt : XT} {me : XE}
theorem lc_read (hv : ∀ i ∈ g.slots, i ∈ own.map (·.2)) : ∀ σ H Q, liftE X.mo W (xLc (own.map (·.2)) mi g mt me) σ H Q → tLc (liftI X.mo W mi) (liftG X.mo g) (liftT X.mo noW mt) (liftE X.mo noW me) (own.map (·.2)) σ H Q := fun σ H Q ⟨ρ, ι, S, en, so, h⟩ =>
  lc_any en so hv h fun _ _ _ _ _ _ _ _ _ h hD so1 e so hg hk hl r hz => fin_lst h hD so1 e so hg hk hl r hz
theorem lc_readC (hv : ∀ i ∈ g.slots, i ∈ own.map (·.2)) : ∀ σ H Q, liftE X.mo W (xLcC (own.map (·.2)) mi g mt me) σ H Q → tLc (liftI X.mo W mi) (liftG X.mo g) (liftT X.mo noW mt) (liftE X.mo noW me) (own.map (·.2)) σ H Q := fun σ H Q ⟨ρ, ι, S, en, so, h⟩ =>
  lc_any en so hv h fun _ _ _ _ _ _ _ _ _ h hD so1 e so hg hk hl r hz => fin_cell h hD so1 e so hg hk hl r hz
end
end
end NB
end
section
set_option Elab.async false
set_option linter.all false
set_option maxRecDepth 100000
set_option maxHeartbeats 1000000
/-! Core 8: comprehensions of two clauses, dict comprehensions. -/
namespace NB
open PySem PySem.Spec PyProof.Rows L2
open Classical

noncomputable def lc2Go (vs vs1 : List Nat) (g : Tg) (t : XT) (m1 : XI) (g1 : Tg) (t1 : XT) (e : XE) (ρ : Env) (ok : Sto → Prop) : List Val → Sto → Res (List Val)
  | [], S => if ok S then .ok [] S else .fail
  | x :: xs, S => if ok S then match g.set x (wipeE ρ vs) with
    | some ρ2 => (t ρ2 S).bind fun b S1 => if b then (m1 ρ2 S1).bind fun w S2 => (lcGo vs1 g1 t1 e ρ2 w.ok w.xs S2).bind fun ys S3 => (lc2Go vs vs1 g t m1 g1 t1 e ρ ok xs S3).bind fun zs S4 => .ok (ys ++ zs) S4 else lc2Go vs vs1 g t m1 g1 t1 e ρ ok xs S1
    | none => .fail
    else .fail
noncomputable def lc2Run (vs vs1 : List Nat) (m : XI) (g : Tg) (t : XT) (m1 : XI) (g1 : Tg) (t1 : XT) (e : XE) : XA := fun ρ S => (m ρ S).bind fun w S1 => match lc2Go vs vs1 g t m1 g1 t1 e ρ w.ok w.xs S1 with
  | .ok ys S2 => if ys.length ≤ sizeLine then .ok ys S2 else .fail
  | _ => .fail
noncomputable def xLc2 (vs vs1 : List Nat) (m : XI) (g : Tg) (t : XT) (m1 : XI) (g1 : Tg) (t1 : XT) (e : XE) : XE := xLst (lc2Run vs vs1 m g t m1 g1 t1 e)
noncomputable def xLc2C (vs vs1 : List Nat) (m : XI) (g : Tg) (t : XT) (m1 : XI) (g1 : Tg) (t1 : XT) (e : XE) : XE := xLstC (lc2Run vs vs1 m g t m1 g1 t1 e)
theorem drop_hd {α : Type} {xs : List α} {i : Nat} {x : α} {r : List α} (h : xs.drop i = x :: r) : xs[i]? = some x ∧ i < xs.length ∧ xs.drop (i + 1) = r := by
  have hx : xs[i]? = some x := by
    have := congrArg List.head? h
    rw [List.head?_drop] at this
    exact this
  refine ⟨hx, (List.getElem?_eq_some_iff.mp hx).1, ?_⟩
  have := congrArg List.tail h
  rw [List.tail_drop] at this
  exact this
section
variable {X : Cx} {W : Sg → Wish}
theorem lc2_any {vs vs1 : List Nat} {m m1 : XI} {g g1 : Tg} {t t1 : XT} {e : XE} {σ : Sg} {H : Hp} {ρ : Env} {ι : Lay} {S : Sto} {Qd : V → Hp → Prop} {f : List Val → Sto → Res Val} (en : EnvOk X.mo ι S H ρ σ) (so : StoreOk X.mo ι S H) (hv : ∀ i ∈ g.slots, i ∈ vs) (hv1 : ∀ i ∈ g1.slots, i ∈ vs1)
    (h : Post X.mo (W σ) ι S H ((lc2Run vs vs1 m g t m1 g1 t1 e ρ S).bind f) Qd)
    (hf : ∀ (ι1 : Lay) (S1 : Sto) (H1 : Hp) (D : Addr) (ι' : Lay) (S' : Sto) (H' : Hp) (ys : List Val) (us : List V), Post X.mo (W σ) ι1 S1 H1 (f ys S') Qd → H1 D = none → StoreOk X.mo ι1 S1 H1 → Ext0 ι1 S1 H1 ι' S' H' → StoreOk X.mo ι' S' H' → ι'.g = D :: ι1.g → (∀ a ∈ ι1.g, H' a = H1 a) → H' D = some (.lst us) → RepVs X.mo ι' S' H' ys us → ys.length ≤ sizeLine → Qd (.ref D) H') :
    tLc2 (liftI X.mo W m) (liftG X.mo g) (liftT X.mo noW t) (liftI X.mo noW m1) (liftG X.mo g1) (liftT X.mo noW t1) (liftE X.mo noW e) vs vs1 σ H Qd := by
  refine ⟨ρ, ι, S, en, so, ?_⟩
  unfold lc2Run at h
  cases em : m ρ S with
  | fail => rw [em] at h; exact h.elim
  | raise x S1 => rw [em] at h; exact h
  | ok w S1 =>
    rw [em] at h
    simp only [Res.bind_ok] at h
    intro J ι1 H1 e1 so1 wk D hD
    cases er : lc2Go vs vs1 g t m1 g1 t1 e ρ w.ok w.xs S1 with
    | fail => rw [er] at h; exact h.elim
    | raise x S2 => rw [er] at h; exact h.elim
    | ok ys Sf =>
      rw [er] at h
      by_cases hz : ys.length ≤ sizeLine
      case neg => simp only [if_neg hz] at h; exact h.elim
      simp only [if_pos hz, Res.bind_ok] at h
      let St : Nat → Hp → Prop := fun i H => ∃ (ι2 : Lay) (S2 : Sto) (acc rem : List Val) (us : List V), i ≤ w.xs.length ∧ Ext0 ι1 S1 H1 ι2 S2 H ∧ StoreOk X.mo ι2 S2 H ∧ ι2.g = D :: ι1.g ∧ (∀ a ∈ ι1.g, H a = H1 a) ∧ H D = some (.lst us) ∧ RepVs X.mo ι2 S2 H acc us ∧
        lc2Go vs vs1 g t m1 g1 t1 e ρ w.ok (w.xs.drop i) S2 = .ok rem Sf ∧ acc ++ rem = ys
      refine ⟨fun i m H => m = w.xs.length - i ∧ St i H, ⟨_, rfl, ι1.gst D, S1, [], ys, [], Nat.zero_le _, ext0_gst so1 hD, so_gst so1 hD (.inl ⟨_, rfl⟩), rfl, fun a ha => upd_none (so1.ghN ha) hD, upd_same, .nil, er, rfl⟩, ?_⟩
      rintro i m H2 ⟨rfl, ι2, S2, acc, rem, us, hi, e2, so2, hg2, hgk, hDl, racc, hrun, hsum⟩
      have hDg : D ∈ ι2.g := by rw [hg2]; exact List.mem_cons_self
      cases hdr : w.xs.drop i with
      | nil =>
        have hi' : i = w.xs.length := by
          have := List.drop_eq_nil_iff.mp hdr
          omega
        rw [hdr] at hrun
        unfold lc2Go at hrun
        by_cases hok : w.ok S2
        case neg => rw [if_neg hok] at hrun; cases hrun
        rw [if_pos hok] at hrun
        cases hrun
        refine .inl ⟨by rw [hi']; exact wk.stop ι2 _ H2 e2 so2 hok, ?_⟩
        rw [List.append_nil] at hsum
        subst hsum
        exact hf ι1 S1 H1 D ι2 _ H2 acc us (Post.from e1 h) hD so1 e2 so2 hg2 hgk hDl racc hz
      | cons x xs =>
        obtain ⟨hx, hlt, hdr'⟩ := drop_hd hdr
        rw [hdr] at hrun
        unfold lc2Go at hrun
        by_cases hok : w.ok S2
        case neg => rw [if_neg hok] at hrun; cases hrun
        rw [if_pos hok] at hrun
        obtain ⟨go, yld⟩ := wk.go ι2 S2 H2 i x e2 so2 hok hx
        refine .inr ⟨go, St (i + 1), fun H' st => ⟨_, by omega, rfl, st⟩, fun v H3 hy => ?_⟩
        obtain ⟨e3, so3, rv⟩ := yld v H3 hy
        cases hset : g.set x (wipeE ρ vs) with
        | none => rw [hset] at hrun; cases hrun
        | some ρ2 =>
          rw [hset] at hrun
          have hrun : ((t ρ2 S2).bind fun b S1 => if b then (m1 ρ2 S1).bind fun w1 S2 => (lcGo vs1 g1 t1 e ρ2 w1.ok w1.xs S2).bind fun ys S3 => (lc2Go vs vs1 g t m1 g1 t1 e ρ w.ok xs S3).bind fun zs S4 => .ok (ys ++ zs) S4 else lc2Go vs vs1 g t m1 g1 t1 e ρ w.ok xs S1) = .ok rem Sf := hrun
          have en1 := en.mono so (e1.toExt0.trans (e2.trans e3.toExt0))
          refine ⟨wipeE ρ vs, ι2, S2, x, ρ2, en1.wipe vs, so3, rv, hset, fun σ2 en2 hw => ⟨?_, ?_⟩⟩
          · rw [hw vs hv, wipe_wipe]
          obtain ⟨b, S3, et, hrun⟩ := Res.bind_eq_ok hrun
          refine ⟨ρ2, ι2, S2, en2, so3, ?_⟩
          rw [et]
          intro ι4 H4 e4 so4
          have hg4 : ι4.g = D :: ι1.g := e4.gh.trans hg2
          have hD3 : H3 D = some (.lst us) := (e3.gk D hDg).trans hDl
          have hD4 : H4 D = some (.lst us) := (e4.gk D hDg).trans hD3
          have hk4 : ∀ a ∈ ι1.g, H4 a = H1 a := fun a ha => by
            have ha2 : a ∈ ι2.g := by rw [hg2]; exact List.mem_cons_of_mem _ ha
            rw [e4.gk a ha2, e3.gk a ha2, hgk a ha]
          have e14 : Ext0 ι1 S1 H1 ι4 S3 H4 := e2.trans (e3.toExt0.trans e4.toExt0)
          have racc4 := (racc.mono so2 e3.toExt0).mono so3 e4.toExt0
          cases b with
          | false =>
            simp only [Bool.false_eq_true, if_false] at hrun ⊢
            exact ⟨ι4, S3, acc, rem, us, hlt, e14, so4, hg4, hk4, hD4, racc4, by rw [hdr']; exact hrun, hsum⟩
          | true =>
            simp only [if_true] at hrun ⊢
            obtain ⟨w1, S5, ew, hrun⟩ := Res.bind_eq_ok hrun
            obtain ⟨yi, Si, ei, hrun⟩ := Res.bind_eq_ok hrun
            obtain ⟨rem', S6, eg, hrun⟩ := Res.bind_eq_ok hrun
            cases hrun
            have en4 := en2.mono so3 e4.toExt0
            refine ⟨ρ2, ι4, S3, en4, so4, ?_⟩
            rw [ew]
            intro J1 ι5 H5 e5 so5 wk1
            have hDg4 : D ∈ ι4.g := by rw [hg4]; exact List.mem_cons_self
            have hg5 : ι5.g = D :: ι1.g := e5.gh.trans hg4
            have hD5 : H5 D = some (.lst us) := (e5.gk D hDg4).trans hD4
            have hk5 : ∀ a ∈ ι1.g, H5 a = H1 a := fun a ha => by
              rw [e5.gk a (by rw [hg4]; exact List.mem_cons_of_mem _ ha), hk4 a ha]
            have e15 := e14.trans e5.toExt0
            have racc5 := racc4.mono so4 e5.toExt0
            -- the inner loop
            let St1 : Nat → Hp → Prop := fun j H => ∃ (ι6 : Lay) (S6 : Sto) (ac re : List Val) (us : List V), j ≤ w1.xs.length ∧ Ext0 ι5 S5 H5 ι6 S6 H ∧ StoreOk X.mo ι6 S6 H ∧ ι6.g = D :: ι1.g ∧ (∀ a ∈ ι1.g, H a = H1 a) ∧ H D = some (.lst us) ∧ RepVs X.mo ι6 S6 H (acc ++ ac) us ∧
              lcGo vs1 g1 t1 e ρ2 w1.ok (w1.xs.drop j) S6 = .ok re Si ∧ ac ++ re = yi
            refine ⟨fun j k H => k = w1.xs.length - j ∧ St1 j H, ⟨_, rfl, ι5, S5, [], yi, us, Nat.zero_le _, Ext.refl.toExt0, so5, hg5, hk5, hD5, by rw [List.append_nil]; exact racc5, ei, rfl⟩, ?_⟩
            rintro j k H6 ⟨rfl, ι6, S6, ac, re, us6, hj, e6, so6, hg6, hk6, hD6, r6, hrun6, hsum6⟩
            have hDg6 : D ∈ ι6.g := by rw [hg6]; exact List.mem_cons_self
            cases hdr1 : w1.xs.drop j with
            | nil =>
              have hj' : j = w1.xs.length := by
                have := List.drop_eq_nil_iff.mp hdr1
                omega
              rw [hdr1] at hrun6
              unfold lcGo at hrun6
              by_cases hok1 : w1.ok S6
              case neg => rw [if_neg hok1] at hrun6; cases hrun6
              rw [if_pos hok1] at hrun6
              cases hrun6
              refine .inl ⟨by rw [hj']; exact wk1.stop ι6 _ H6 e6 so6 hok1, ?_⟩
              rw [List.append_nil] at hsum6
              subst hsum6
              exact ⟨ι6, _, acc ++ ac, rem', us6, hlt, e15.trans e6, so6, hg6, hk6, hD6, r6, by rw [hdr']; exact eg, by rw [List.append_assoc]; exact hsum⟩
            | cons x1 xs1 =>
              obtain ⟨hx1, hlt1, hdr1'⟩ := drop_hd hdr1
              rw [hdr1] at hrun6
              unfold lcGo at hrun6
              by_cases hok1 : w1.ok S6
              case neg => rw [if_neg hok1] at hrun6; cases hrun6
              rw [if_pos hok1] at hrun6
              obtain ⟨go1, yld1⟩ := wk1.go ι6 S6 H6 j x1 e6 so6 hok1 hx1
              refine .inr ⟨go1, St1 (j + 1), fun H' st => ⟨_, by omega, rfl, st⟩, fun v7 H7 hy7 => ?_⟩
              obtain ⟨e7, so7, rv7⟩ := yld1 v7 H7 hy7
              cases hset1 : g1.set x1 (wipeE ρ2 vs1) with
              | none => rw [hset1] at hrun6; cases hrun6
              | some ρ3 =>
                rw [hset1] at hrun6
                have hrun6 : ((t1 ρ3 S6).bind fun b S1 => if b then (e ρ3 S1).bind fun y S2 => (lcGo vs1 g1 t1 e ρ2 w1.ok xs1 S2).bind fun ys S3 => .ok (y :: ys) S3 else lcGo vs1 g1 t1 e ρ2 w1.ok xs1 S1) = .ok re Si := hrun6
                have en7 := en4.mono so4 (e5.toExt0.trans (e6.trans e7.toExt0))
                refine ⟨wipeE ρ2 vs1, ι6, S6, x1, ρ3, en7.wipe vs1, so7, rv7, hset1, fun σ3 en3 hw3 => ⟨?_, ?_⟩⟩
                · rw [hw3 vs1 hv1, wipe_wipe]
                obtain ⟨b1, S8, et1, hrun6⟩ := Res.bind_eq_ok hrun6
                refine ⟨ρ3, ι6, S6, en3, so7, ?_⟩
                rw [et1]
                intro ι8 H8 e8 so8
                have hg8 : ι8.g = D :: ι1.g := e8.gh.trans hg6
                have hDg8 : D ∈ ι8.g := by rw [hg8]; exact List.mem_cons_self
                have hD8 : H8 D = some (.lst us6) := (e8.gk D hDg6).trans ((e7.gk D hDg6).trans hD6)
                have hk8 : ∀ a ∈ ι1.g, H8 a = H1 a := fun a ha => by
                  have ha2 : a ∈ ι6.g := by rw [hg6]; exact List.mem_cons_of_mem _ ha
                  rw [e8.gk a ha2, e7.gk a ha2, hk6 a ha]
                have e58 : Ext0 ι5 S5 H5 ι8 S8 H8 := e6.trans (e7.toExt0.trans e8.toExt0)
                have r8 := (r6.mono so6 e7.toExt0).mono so7 e8.toExt0
                cases b1 with
                | false =>
                  simp only [Bool.false_eq_true, if_false] at hrun6 ⊢
                  exact ⟨ι8, S8, ac, re, us6, hlt1, e58, so8, hg8, hk8, hD8, r8, by rw [hdr1']; exact hrun6, hsum6⟩
                | true =>
                  simp only [if_true] at hrun6 ⊢
                  obtain ⟨y, S9, ee, hrun6⟩ := Res.bind_eq_ok hrun6
                  obtain ⟨re', S10, eg6, hrun6⟩ := Res.bind_eq_ok hrun6
                  cases hrun6
                  refine ⟨ρ3, ι8, S8, en3.mono so7 e8.toExt0, so8, ?_⟩
                  rw [ee]
                  intro v9 ι9 H9 e9 so9 r9
                  have hg9 : ι9.g = D :: ι1.g := e9.gh.trans hg8
                  have hDg9 : D ∈ ι9.g := by rw [hg9]; exact List.mem_cons_self
                  have hD9 : H9 D = some (.lst us6) := (e9.gk D hDg8).trans hD8
                  have hacc9 := r8.mono so8 e9.toExt0
                  have hlen : us6.length < sizeLine := by
                    have h1 := r6.len
                    have h2 := congrArg List.length hsum
                    have h3 := congrArg List.length hsum6
                    rw [List.length_append] at h1 h2 h3
                    rw [List.length_append] at h2
                    rw [List.length_cons] at h3
                    omega
                  have eg9 := ext0_gset (o := .lst (us6 ++ [v9])) so9 hDg9
                  refine ⟨us6, hD9, hlen, ι9, S9, ac ++ [y], re', us6 ++ [v9], hlt1, e58.trans (e9.toExt0.trans eg9), so_gset so9 hDg9 (.inl ⟨_, rfl⟩), hg9, fun a ha => ?_, upd_same, ?_, by rw [hdr1']; exact eg6, by rw [List.append_assoc]; exact hsum6⟩
                  · have ha2 : a ∈ ι8.g := by rw [hg8]; exact List.mem_cons_of_mem _ ha
                    have hne : a ≠ D := fun z => so1.ghN ha (by rw [z]; exact hD)
                    rw [upd_ne hne, e9.gk a ha2, hk8 a ha]
                  · rw [← List.append_assoc]
                    exact (hacc9.append (.cons r9 .nil)).mono so9 eg9
section
variable {vs vs1 : List Nat} {mi mi1 : XI} {g g1 : Tg} {mt mt1 : XT} {me : XE}
theorem lc2_read (hv : ∀ i ∈ g.slots, i ∈ vs) (hv1 : ∀ i ∈ g1.slots, i ∈ vs1) : ∀ σ H Q, liftE X.mo W (xLc2 vs vs1 mi g mt mi1 g1 mt1 me) σ H Q → tLc2 (liftI X.mo W mi) (liftG X.mo g) (liftT X.mo noW mt) (liftI X.mo noW mi1) (liftG X.mo g1) (liftT X.mo noW mt1) (liftE X.mo noW me) vs vs1 σ H Q := fun σ H Q ⟨ρ, ι, S, en, so, h⟩ =>
  lc2_any en so hv hv1 h fun _ _ _ _ _ _ _ _ _ h hD so1 e so hg hk hl r hz => fin_lst h hD so1 e so hg hk hl r hz
theorem lc2_readC (hv : ∀ i ∈ g.slots, i ∈ vs) (hv1 : ∀ i ∈ g1.slots, i ∈ vs1) : ∀ σ H Q, liftE X.mo W (xLc2C vs vs1 mi g mt mi1 g1 mt1 me) σ H Q → tLc2 (liftI X.mo W mi) (liftG X.mo g) (liftT X.mo noW mt) (liftI X.mo noW mi1) (liftG X.mo g1) (liftT X.mo noW mt1) (liftE X.mo noW me) vs vs1 σ H Q := fun σ H Q ⟨ρ, ι, S, en, so, h⟩ =>
  lc2_any en so hv hv1 h fun _ _ _ _ _ _ _ _ _ h hD so1 e so hg hk hl r hz => fin_cell h hD so1 e so hg hk hl r hz
end
end
end NB
end
section
set_option Elab.async false
set_option linter.all false
set_option maxRecDepth 100000
set_option maxHeartbeats 1000000
/-! Core 9: dict comprehensions. -/
namespace NB
open PySem PySem.Spec PyProof.Rows L2
open Classical

/-- kvs with x under the key k -/
def putV {α : Type} (kvs : List (PyData × α)) (k : PyData) (x : α) : List (PyData × α) :=
  if (kvs.any fun p => decide (nkey p.1 = nkey k)) = true then kvs.map (fun p => if nkey p.1 = nkey k then (p.1, x) else p) else kvs ++ [(k, x)]
theorem putV_len {α : Type} (kvs : List (PyData × α)) (k : PyData) (x : α) : kvs.length ≤ (putV kvs k x).length ∧ (putV kvs k x).length ≤ kvs.length + 1 := by
  unfold putV
  split <;> simp
theorem keys_any {κ : Type} {k : Key} {α : Type} : ∀ {kvs : List (PyData × α)} {rows : List (Key × V)}, kvs.map (·.1) = rows.map (fun r => kdat r.1) → (kvs.any fun p => decide (nkey p.1 = nkey (kdat k))) = rows.any fun r => decide (r.1 = k)
  | [], [], _ => rfl
  | [], _ :: _, h => by cases h
  | _ :: _, [], h => by cases h
  | (d, y) :: kvs, (j, u) :: rows, h => by
    simp only [List.map_cons, List.cons.injEq] at h
    rw [List.any_cons, List.any_cons, keys_any (κ := κ) h.2]
    have h1' : d = kdat j := h.1
    subst h1'
    congr 1
    by_cases e : j = k
    · subst e; simp
    · have : ¬ nkey (kdat j) = nkey (kdat k) := fun z => e (nkey_kdat z)
      simp [e, this]
theorem putV_rep {M : Mo} {ι : Lay} {S : Sto} {H : Hp} {k : Key} {x : Val} {v : V} (rx : RepV M ι S H x v) {kvs : List (PyData × Val)} {rows : List (Key × V)} (h : kvs.map (·.1) = rows.map (fun r => kdat r.1)) (r : RepVs M ι S H (kvs.map (·.2)) (rows.map (·.2))) :
    (putV kvs (kdat k) x).map (·.1) = (putK rows k v).map (fun r => kdat r.1) ∧ RepVs M ι S H ((putV kvs (kdat k) x).map (·.2)) ((putK rows k v).map (·.2)) := by
  unfold putV putK
  rw [keys_any (κ := Nat) h]
  by_cases hb : (rows.any fun r => decide (r.1 = k)) = true
  · rw [if_pos hb, if_pos hb]
    clear hb
    induction kvs generalizing rows with
    | nil =>
      cases rows with
      | nil => exact ⟨rfl, .nil⟩
      | cons _ _ => cases h
    | cons p kvs ih =>
      cases rows with
      | nil => cases h
      | cons q rows =>
        obtain ⟨d, y⟩ := p
        obtain ⟨j, u⟩ := q
        simp only [List.map_cons, List.cons.injEq] at h
        obtain ⟨h1, h2⟩ := h
        cases r with
        | cons r t =>
          obtain ⟨i1, i2⟩ := ih h2 t
          have h1' : d = kdat j := h1
          subst h1'
          by_cases e : j = k
          · subst e
            simp only [List.map_cons, if_true]
            exact ⟨by rw [i1], .cons rx i2⟩
          · have ne : ¬ nkey (kdat j) = nkey (kdat k) := fun z => e (nkey_kdat z)
            simp only [List.map_cons, e, ne, if_false]
            exact ⟨by rw [i1], .cons r i2⟩
  · rw [if_neg hb, if_neg hb]
    simp only [List.map_append, h, List.map_cons, List.map_nil]
    exact ⟨trivial, r.append (.cons rx .nil)⟩

/-- the pairs that a dict comprehension makes, behind acc -/
noncomputable def dcGo (vs : List Nat) (g : Tg) (t : XT) (ek ev : XE) (ρ : Env) (ok : Sto → Prop) : List Val → List (PyData × Val) → Sto → Res (List (PyData × Val))
  | [], acc, S => if ok S then .ok acc S else .fail
  | x :: xs, acc, S => if ok S then match g.set x (wipeE ρ vs) with
    | some ρ2 => (t ρ2 S).bind fun b S1 => if b then (ek ρ2 S1).bind fun k S2 => (ev ρ2 S2).bind fun y S3 => match view S3 k with
        | some d => match kOf d with
          | some _ => dcGo vs g t ek ev ρ ok xs (putV acc d y) S3
          | none => .fail
        | none => .fail
      else dcGo vs g t ek ev ρ ok xs acc S1
    | none => .fail
    else .fail
noncomputable def dcRun (vs : List Nat) (m : XI) (g : Tg) (t : XT) (ek ev : XE) : Env → Sto → Res (List (PyData × Val)) := fun ρ S => (m ρ S).bind fun w S1 => match dcGo vs g t ek ev ρ w.ok w.xs [] S1 with
  | .ok ys S2 => if ys.length < sizeLine then .ok ys S2 else .fail
  | _ => .fail
def datKv : List (PyData × Val) → Option (List (PyData × PyData))
  | [] => some []
  | (k, .dat d) :: r => (datKv r).map ((k, d) :: ·)
  | _ => none
noncomputable def xDc (vs : List Nat) (m : XI) (g : Tg) (t : XT) (ek ev : XE) : XE := fun ρ S => (dcRun vs m g t ek ev ρ S).bind fun kvs S1 => Res.of S1 ((datKv kvs).map fun ds => .dat (.dict ds))
noncomputable def xDcC (vs : List Nat) (m : XI) (g : Tg) (t : XT) (ek ev : XE) : XE := fun ρ S => (dcRun vs m g t ek ev ρ S).bind fun kvs S1 => newCell (.dct kvs) S1
theorem datKv_eq : ∀ {kvs : List (PyData × Val)} {ds : List (PyData × PyData)}, datKv kvs = some ds → kvs = ds.map fun p => (p.1, .dat p.2)
  | [], ds, h => by cases h; rfl
  | (k, .dat d) :: r, ds, h => by
    have h' : (datKv r).map ((k, d) :: ·) = some ds := h
    cases e : datKv r with
    | none => rw [e] at h'; cases h'
    | some es => rw [e] at h'; cases h'; rw [datKv_eq e]; rfl
  | (_, .loc _) :: _, _, h => by cases h
  | (_, .fn _) :: _, _, h => by cases h
  | (_, .mix _) :: _, _, h => by cases h
  | (_, .set _) :: _, _, h => by cases h
  | (_, .scr _) :: _, _, h => by cases h
@[simp] theorem datKv_map : ∀ ds : List (PyData × PyData), datKv (ds.map fun p => (p.1, Val.dat p.2)) = some ds
  | [] => rfl
  | p :: r => by
    show (datKv (r.map fun p => (p.1, Val.dat p.2))).map _ = _
    rw [datKv_map r]; rfl
theorem dcGo_len {vs : List Nat} {g : Tg} {t : XT} {ek ev : XE} {ρ : Env} {ok : Sto → Prop} : ∀ {xs : List Val} {acc ys : List (PyData × Val)} {S S' : Sto}, dcGo vs g t ek ev ρ ok xs acc S = .ok ys S' → acc.length ≤ ys.length := by
  intro xs
  induction xs with
  | nil =>
    intro acc ys S S' h
    unfold dcGo at h
    split at h
    · cases h; exact Nat.le_refl _
    · cases h
  | cons x xs ih =>
    intro acc ys S S' h
    unfold dcGo at h
    split at h
    · split at h
      · rename_i ρ2 hs
        obtain ⟨b, S1, et, h⟩ := Res.bind_eq_ok h
        cases b with
        | false => exact ih h
        | true =>
          simp only [if_true] at h
          obtain ⟨k, S2, e2, h⟩ := Res.bind_eq_ok h
          obtain ⟨y, S3, e3, h⟩ := Res.bind_eq_ok h
          split at h
          · split at h
            · exact Nat.le_trans (putV_len _ _ _).1 (ih h)
            · cases h
          · cases h
      · cases h
    · cases h
section
variable {X : Cx} {W : Sg → Wish}
theorem dc_any {vs : List Nat} {m : XI} {g : Tg} {t : XT} {ek ev : XE} {σ : Sg} {H : Hp} {ρ : Env} {ι : Lay} {S : Sto} {Qd : V → Hp → Prop} {f : List (PyData × Val) → Sto → Res Val} (en : EnvOk X.mo ι S H ρ σ) (so : StoreOk X.mo ι S H) (hv : ∀ i ∈ g.slots, i ∈ vs)
    (h : Post X.mo (W σ) ι S H ((dcRun vs m g t ek ev ρ S).bind f) Qd)
    (hf : ∀ (ι1 : Lay) (S1 : Sto) (H1 : Hp) (D : Addr) (ι' : Lay) (S' : Sto) (H' : Hp) (ys : List (PyData × Val)) (us : List (Key × V)), Post X.mo (W σ) ι1 S1 H1 (f ys S') Qd → H1 D = none → StoreOk X.mo ι1 S1 H1 → Ext0 ι1 S1 H1 ι' S' H' → StoreOk X.mo ι' S' H' → ι'.g = D :: ι1.g → (∀ a ∈ ι1.g, H' a = H1 a) → H' D = some (.dK us) → ys.map (·.1) = us.map (fun r => kdat r.1) → RepVs X.mo ι' S' H' (ys.map (·.2)) (us.map (·.2)) → Qd (.ref D) H') :
    tDc (liftI X.mo W m) (liftG X.mo g) (liftT X.mo noW t) (liftE X.mo noW ek) (liftE X.mo noW ev) vs σ H Qd := by
  refine ⟨ρ, ι, S, en, so, ?_⟩
  unfold dcRun at h
  cases em : m ρ S with
  | fail => rw [em] at h; exact h.elim
  | raise x S1 => rw [em] at h; exact h
  | ok w S1 =>
    rw [em] at h
    simp only [Res.bind_ok] at h
    intro J ι1 H1 e1 so1 wk D hD
    cases er : dcGo vs g t ek ev ρ w.ok w.xs [] S1 with
    | fail => rw [er] at h; exact h.elim
    | raise x S2 => rw [er] at h; exact h.elim
    | ok ys Sf =>
      rw [er] at h
      by_cases hz : ys.length < sizeLine
      case neg => simp only [if_neg hz] at h; exact h.elim
      simp only [if_pos hz, Res.bind_ok] at h
      let St : Nat → Hp → Prop := fun i H => ∃ (ι2 : Lay) (S2 : Sto) (acc : List (PyData × Val)) (us : List (Key × V)), i ≤ w.xs.length ∧ Ext0 ι1 S1 H1 ι2 S2 H ∧ StoreOk X.mo ι2 S2 H ∧ ι2.g = D :: ι1.g ∧ (∀ a ∈ ι1.g, H a = H1 a) ∧ H D = some (.dK us) ∧ acc.map (·.1) = us.map (fun r => kdat r.1) ∧ RepVs X.mo ι2 S2 H (acc.map (·.2)) (us.map (·.2)) ∧
        dcGo vs g t ek ev ρ w.ok (w.xs.drop i) acc S2 = .ok ys Sf
      refine ⟨fun i m H => m = w.xs.length - i ∧ St i H, ⟨_, rfl, ι1.gst D, S1, [], [], Nat.zero_le _, ext0_gst so1 hD, so_gst so1 hD (.inr ⟨_, rfl⟩), rfl, fun a ha => upd_none (so1.ghN ha) hD, upd_same, rfl, .nil, er⟩, ?_⟩
      rintro i m H2 ⟨rfl, ι2, S2, acc, us, hi, e2, so2, hg2, hgk, hDl, kacc, racc, hrun⟩
      have hDg : D ∈ ι2.g := by rw [hg2]; exact List.mem_cons_self
      cases hdr : w.xs.drop i with
      | nil =>
        have hi' : i = w.xs.length := by
          have := List.drop_eq_nil_iff.mp hdr
          omega
        rw [hdr] at hrun
        unfold dcGo at hrun
        by_cases hok : w.ok S2
        case neg => rw [if_neg hok] at hrun; cases hrun
        rw [if_pos hok] at hrun
        cases hrun
        refine .inl ⟨by rw [hi']; exact wk.stop ι2 _ H2 e2 so2 hok, ?_⟩
        exact hf ι1 S1 H1 D ι2 _ H2 _ us (Post.from e1 h) hD so1 e2 so2 hg2 hgk hDl kacc racc
      | cons x xs =>
        obtain ⟨hx, hlt, hdr'⟩ := drop_hd hdr
        rw [hdr] at hrun
        unfold dcGo at hrun
        by_cases hok : w.ok S2
        case neg => rw [if_neg hok] at hrun; cases hrun
        rw [if_pos hok] at hrun
        obtain ⟨go, yld⟩ := wk.go ι2 S2 H2 i x e2 so2 hok hx
        refine .inr ⟨go, St (i + 1), fun H' st => ⟨_, by omega, rfl, st⟩, fun v H3 hy => ?_⟩
        obtain ⟨e3, so3, rv⟩ := yld v H3 hy
        cases hset : g.set x (wipeE ρ vs) with
        | none => rw [hset] at hrun; cases hrun
        | some ρ2 =>
          rw [hset] at hrun
          have hrun : ((t ρ2 S2).bind fun b S1 => if b then (ek ρ2 S1).bind fun k S2 => (ev ρ2 S2).bind fun y S3 => match view S3 k with
              | some d => match kOf d with
                | some _ => dcGo vs g t ek ev ρ w.ok xs (putV acc d y) S3
                | none => .fail
              | none => .fail
            else dcGo vs g t ek ev ρ w.ok xs acc S1) = .ok ys Sf := hrun
          have en1 := en.mono so (e1.toExt0.trans (e2.trans e3.toExt0))
          refine ⟨wipeE ρ vs, ι2, S2, x, ρ2, en1.wipe vs, so3, rv, hset, fun σ2 en2 hw => ⟨?_, ?_⟩⟩
          · rw [hw vs hv, wipe_wipe]
          obtain ⟨b, S3, et, hrun⟩ := Res.bind_eq_ok hrun
          refine ⟨ρ2, ι2, S2, en2, so3, ?_⟩
          rw [et]
          intro ι4 H4 e4 so4
          have hg4 : ι4.g = D :: ι1.g := e4.gh.trans hg2
          have hDg4 : D ∈ ι4.g := by rw [hg4]; exact List.mem_cons_self
          have hD4 : H4 D = some (.dK us) := (e4.gk D hDg).trans ((e3.gk D hDg).trans hDl)
          have hk4 : ∀ a ∈ ι1.g, H4 a = H1 a := fun a ha => by
            have ha2 : a ∈ ι2.g := by rw [hg2]; exact List.mem_cons_of_mem _ ha
            rw [e4.gk a ha2, e3.gk a ha2, hgk a ha]
          have e14 : Ext0 ι1 S1 H1 ι4 S3 H4 := e2.trans (e3.toExt0.trans e4.toExt0)
          have racc4 := (racc.mono so2 e3.toExt0).mono so3 e4.toExt0
          cases b with
          | false =>
            simp only [Bool.false_eq_true, if_false] at hrun ⊢
            exact ⟨ι4, S3, acc, us, hlt, e14, so4, hg4, hk4, hD4, kacc, racc4, by rw [hdr']; exact hrun⟩
          | true =>
            simp only [if_true] at hrun ⊢
            obtain ⟨kx, S5, ek1, hrun⟩ := Res.bind_eq_ok hrun
            obtain ⟨y, S6, ev1, hrun⟩ := Res.bind_eq_ok hrun
            have en4 := en2.mono so3 e4.toExt0
            refine ⟨ρ2, ι4, S3, en4, so4, ?_⟩
            rw [ek1]
            intro v5 ι5 H5 e5 so5 r5
            refine ⟨ρ2, ι5, S5, en4.mono so4 e5.toExt0, so5, ?_⟩
            rw [ev1]
            intro v6 ι6 H6 e6 so6 r6
            cases hvw : view S6 kx with
            | none => rw [hvw] at hrun; cases hrun
            | some d =>
              rw [hvw] at hrun
              cases hkd : kOf d with
              | none => simp only [hkd] at hrun; cases hrun
              | some k =>
                simp only [hkd] at hrun
                have hd := kOf_some hkd
                subst hd
                have r5' := (r5.mono so5 e6.toExt0).rd so6 hvw
                have hk5 : v5 = kV k := kdat_v r5'.weak
                have hg5 : ι5.g = D :: ι1.g := e5.gh.trans hg4
                have hg6 : ι6.g = D :: ι1.g := e6.gh.trans hg5
                have hDg5 : D ∈ ι5.g := by rw [hg5]; exact List.mem_cons_self
                have hDg6 : D ∈ ι6.g := by rw [hg6]; exact List.mem_cons_self
                have hD6 : H6 D = some (.dK us) := (e6.gk D hDg5).trans ((e5.gk D hDg4).trans hD4)
                have racc6 := (racc4.mono so4 e5.toExt0).mono so5 e6.toExt0
                have hlen : us.length < sizeLine := by
                  have h1 := congrArg List.length kacc
                  rw [List.length_map, List.length_map] at h1
                  have h2 := dcGo_len hrun
                  have h3 := (putV_len acc (kdat k) y).1
                  omega
                have eg6 := ext0_gset (o := .dK (putK us k v6)) so6 hDg6
                obtain ⟨k7, r7⟩ := putV_rep (k := k) r6 kacc racc6
                refine ⟨us, k, hk5, hD6, hlen, ι6, S6, putV acc (kdat k) y, putK us k v6, hlt, e14.trans (e5.toExt0.trans (e6.toExt0.trans eg6)), so_gset so6 hDg6 (.inr ⟨_, rfl⟩), hg6, fun a ha => ?_, upd_same, k7, r7.mono so6 eg6, by rw [hdr']; exact hrun⟩
                have hne : a ≠ D := fun z => so1.ghN ha (by rw [z]; exact hD)
                rw [upd_ne hne, e6.gk a (by rw [hg5]; exact List.mem_cons_of_mem _ ha), e5.gk a (by rw [hg4]; exact List.mem_cons_of_mem _ ha), hk4 a ha]
section
variable {vs : List Nat} {mi : XI} {g : Tg} {mt : XT} {mk mv : XE}
theorem dc_read (hv : ∀ i ∈ g.slots, i ∈ vs) : ∀ σ H Q, liftE X.mo W (xDc vs mi g mt mk mv) σ H Q → tDc (liftI X.mo W mi) (liftG X.mo g) (liftT X.mo noW mt) (liftE X.mo noW mk) (liftE X.mo noW mv) vs σ H Q := fun σ H Q ⟨ρ, ι, S, en, so, h⟩ =>
  dc_any en so hv h fun ι1 S1 H1 D ι' S' H' ys us h hD so1 e so hg hk hl hks r => by
    cases q : datKv ys with
    | none => rw [q] at h; exact h.elim
    | some ds =>
      rw [q] at h
      have sub : ∀ x ∈ ι1.g, x ∈ ι'.g := fun x hx => by rw [hg]; exact List.mem_cons_of_mem _ hx
      have hDg : D ∈ ι'.g := by rw [hg]; exact List.mem_cons_self
      have nD : ¬ live (ι'.off ι1.g) S' D := by
        rintro (⟨l, c, h1, _⟩ | h1)
        · exact (so.gh D hDg).1 (List.mem_of_getElem? h1)
        · exact so1.ghN h1 hD
      have eo := ext0_off (S := S') (H := H') sub
      have ey := datKv_eq q
      have k1 : ds.map (·.1) = us.map (fun r => kdat r.1) := by rw [← hks, ey, List.map_map]; rfl
      have r1 : RepVs X.mo ι' S' H' ((ds.map (·.2)).map .dat) (us.map (·.2)) := by
        have e1 : ys.map (·.2) = (ds.map (·.2)).map Val.dat := by rw [ey, List.map_map, List.map_map]; rfl
        rw [← e1]; exact r
      exact h (.ref D) (ι'.off ι1.g) H' ⟨e.trans eo, rfl, hk⟩ (so_off so sub) (.dat (.dctK hl nD k1 (r1.ds.mono so eo)))
theorem dc_readC (hv : ∀ i ∈ g.slots, i ∈ vs) : ∀ σ H Q, liftE X.mo W (xDcC vs mi g mt mk mv) σ H Q → tDc (liftI X.mo W mi) (liftG X.mo g) (liftT X.mo noW mt) (liftE X.mo noW mk) (liftE X.mo noW mv) vs σ H Q := fun σ H Q ⟨ρ, ι, S, en, so, h⟩ =>
  dc_any en so hv h fun ι1 S1 H1 D ι' S' H' ys us h hD so1 e so hg hk hl hks r => by
    have h : Post X.mo (W σ) ι1 S1 H1 (newCell (.dct ys) S') Q := h
    unfold newCell at h
    by_cases hw : (Cell.dct ys).under S'.length = true
    case neg => rw [if_neg hw] at h; exact h.elim
    rw [if_pos hw] at h
    have hd : D ∉ ι1.g := fun z => so1.ghN z hD
    obtain ⟨e2, so2, r2⟩ := own_cell (c := .dct ys) so hg hd (fun ι2 S2 e2 => .inl ⟨us, hl, hks, r.mono so e2⟩) hw
    exact h (.ref D) _ H' ⟨e.trans e2, rfl, hk⟩ so2 r2
end
end
end NB
end
section
set_option Elab.async false
set_option linter.all false
set_option maxRecDepth 100000
set_option maxHeartbeats 1000000
/-! Core 10: statements. -/
namespace NB
open PySem PySem.Spec PyProof.Rows L2
open Classical

def sNil : XSt := fun ρ S => .ok .next ρ S
def sBrk : XSt := fun ρ S => .ok .brk ρ S
def sCnt : XSt := fun ρ S => .ok .cont ρ S
def sSeq (a b : XSt) : XSt := fun ρ S => match a ρ S with
  | .ok .next ρ' S' => b ρ' S'
  | r => r
/-- a value's way into a statement -/
def bindS {α : Type} (r : Res α) (ρ : Env) (f : α → Sto → SRes) : SRes := match r with
  | .ok x S => f x S
  | .raise e S => .raise e ρ S
  | .fail => .fail
@[simp] theorem bindS_ok {α : Type} (a : α) (S : Sto) (ρ : Env) (f : α → Sto → SRes) : bindS (.ok a S) ρ f = f a S := rfl
@[simp] theorem bindS_fail {α : Type} (ρ : Env) (f : α → Sto → SRes) : bindS (.fail : Res α) ρ f = .fail := rfl
@[simp] theorem bindS_raise {α : Type} (e : Exc) (S : Sto) (ρ : Env) (f : α → Sto → SRes) : bindS (.raise e S : Res α) ρ f = .raise e ρ S := rfl
def sAsg (m : XE) (g : Tg) : XSt := fun ρ S => bindS (m ρ S) ρ fun x S1 => match g.set x ρ with
  | some ρ' => .ok .next ρ' S1
  | none => .fail
def sDrop (m : XE) : XSt := fun ρ S => bindS (m ρ S) ρ fun _ S1 => .ok .next ρ S1
def sRet (m : XE) : XSt := fun ρ S => bindS (m ρ S) ρ fun x S1 => .ok (.ret x) ρ S1
def sRetN : XSt := fun ρ S => .ok (.ret (.dat .none)) ρ S
def sIf (t : XT) (a b : XSt) : XSt := fun ρ S => bindS (t ρ S) ρ fun c S1 => if c then a ρ S1 else b ρ S1
def sPar2 (i j : Nat) (m : XA) : XSt := fun ρ S => bindS (m ρ S) ρ fun xs S1 => match xs with
  | [x, y] => .ok .next ((ρ.set i (some x)).set j (some y)) S1
  | _ => .fail
def sPar3 (i j l : Nat) (m : XA) : XSt := fun ρ S => bindS (m ρ S) ρ fun xs S1 => match xs with
  | [x, y, z] => .ok .next (((ρ.set i (some x)).set j (some y)).set l (some z)) S1
  | _ => .fail
noncomputable def forGo (g : Tg) (b : XSt) (ok : Sto → Prop) : List Val → XSt
  | [], ρ, S => if ok S then .ok .next ρ S else .fail
  | x :: xs, ρ, S => if ok S then match g.set x ρ with
    | some ρ1 => match b ρ1 S with
      | .ok .next ρ2 S2 => forGo g b ok xs ρ2 S2
      | .ok .cont ρ2 S2 => forGo g b ok xs ρ2 S2
      | .ok .brk ρ2 S2 => .ok .next ρ2 S2
      | r => r
    | none => .fail
    else .fail
noncomputable def sFor (m : XI) (g : Tg) (b : XSt) : XSt := fun ρ S => bindS (m ρ S) ρ fun w S1 => forGo g b w.ok w.xs ρ S1
/-- the store behind o[i] = v -/
def putIx (S : Sto) (o i v : Val) : Option Sto := match o with
  | .loc l => match S[l]? with
    | some (.lst xs) => (dInt i).bind fun k => (ixN xs.length k).bind fun j => if v.under l then some (S.set l (.lst (xs.set j v))) else none
    | some (.dct kvs) => (view S i).bind fun d => (kOf d).bind fun _ => if kvs.length < sizeLine ∧ v.under l = true ∧ kvs.all (fun p => (kOf p.1).isSome) = true then some (S.set l (.dct (putV kvs d v))) else none
    | _ => none
  | _ => none
def sPut (o i : XE) (m : XE) : XSt := fun ρ S => bindS (m ρ S) ρ fun v S1 => bindS (o ρ S1) ρ fun x S2 => bindS (i ρ S2) ρ fun y S3 => match putIx S3 x y v with
  | some S4 => .ok .next ρ S4
  | none => .fail

section
variable {X : Cx} {W : Sg → Wish} {pos : Pos}
theorem ds_next : ∀ D σ H, liftS X.mo W sNil D σ H → tNext D σ H := fun D σ H ⟨ρ, ι, S, en, so, h⟩ => h σ ι H Ext.refl so en
theorem dss_nil : PSs X [] (liftS X.mo W sNil) := pss_nil.of ds_next
theorem ds_pass : PS X (.Pass pos) (liftS X.mo W sNil) := ps_pass.of ds_next
theorem ds_break : PS X (.Break pos) (liftS X.mo W sBrk) := ps_break.of fun D σ H ⟨ρ, ι, S, en, so, h⟩ => h σ ι H Ext.refl so en
theorem ds_cont : PS X (.Continue pos) (liftS X.mo W sCnt) := ps_continue.of fun D σ H ⟨ρ, ι, S, en, so, h⟩ => h σ ι H Ext.refl so en
theorem PostS.seq {M : Mo} {a b : XSt} {ρ : Env} {S : Sto} {ι : Lay} {H : Hp} {D : Ends} (h : PostS M W ι S H (sSeq a b ρ S) D) : PostS M W ι S H (a ρ S) { D with nx := liftS M W b D } := by
  unfold sSeq at h
  cases e : a ρ S with
  | fail => rw [e] at h; exact h
  | raise x ρ' S' => rw [e] at h; exact h
  | ok f ρ' S' =>
    rw [e] at h
    cases f with
    | next => exact fun σ' ι' H' e1 so1 en1 => ⟨ρ', ι', S', en1, so1, PostS.from e1 h⟩
    | brk => exact h
    | cont => exact h
    | ret v => exact h
theorem dss_cons {st : Stmt} {rest : List Stmt} {a b : XSt} (h1 : PS X st (liftS X.mo W a)) (h2 : PSs X rest (liftS X.mo W b)) : PSs X (st :: rest) (liftS X.mo W (sSeq a b)) :=
  (pss_cons h1 h2).of fun D σ H ⟨ρ, ι, S, en, so, h⟩ => ⟨ρ, ι, S, en, so, PostS.seq h⟩
theorem dss_one {st : Stmt} {a : XSt} (h1 : PS X st (liftS X.mo W a)) : PSs X [st] (liftS X.mo W a) := pss_one h1
/-- a value ahead of what follows from it -/
theorem PostS.bindV {M : Mo} {W : Sg → Wish} {r : Res Val} {ρ : Env} {σ : Sg} {S : Sto} {ι : Lay} {H : Hp} {D : Ends} {f : Val → Sto → SRes} (en : EnvOk M ι S H ρ σ) (so : StoreOk M ι S H) (h : PostS M W ι S H (bindS r ρ f) D) :
    Post M (W σ) ι S H r fun v H1 => ∃ x ι1 S1, Ext ι S H ι1 S1 H1 ∧ StoreOk M ι1 S1 H1 ∧ EnvOk M ι1 S1 H1 ρ σ ∧ RepV M ι1 S1 H1 x v ∧ PostS M W ι1 S1 H1 (f x S1) D := by
  cases r with
  | fail => exact h
  | raise e S1 => exact fun ι1 H1 e1 so1 => h σ ι1 H1 e1 so1 (en.mono so e1.toExt0)
  | ok x S1 => exact fun v ι1 H1 e1 so1 rv => ⟨x, ι1, S1, e1, so1, en.mono so e1.toExt0, rv, PostS.from e1 h⟩
theorem PostS.bindA {M : Mo} {W : Sg → Wish} {r : Res (List Val)} {ρ : Env} {σ : Sg} {S : Sto} {ι : Lay} {H : Hp} {D : Ends} {f : List Val → Sto → SRes} (en : EnvOk M ι S H ρ σ) (so : StoreOk M ι S H) (h : PostS M W ι S H (bindS r ρ f) D) :
    PostL M (W σ) ι S H r fun v H1 => ∃ x ι1 S1, Ext ι S H ι1 S1 H1 ∧ StoreOk M ι1 S1 H1 ∧ EnvOk M ι1 S1 H1 ρ σ ∧ RepVs M ι1 S1 H1 x v ∧ PostS M W ι1 S1 H1 (f x S1) D := by
  cases r with
  | fail => exact h
  | raise e S1 => exact fun ι1 H1 e1 so1 => h σ ι1 H1 e1 so1 (en.mono so e1.toExt0)
  | ok x S1 => exact fun v ι1 H1 e1 so1 rv => ⟨x, ι1, S1, e1, so1, en.mono so e1.toExt0, rv, PostS.from e1 h⟩
theorem PostS.bindT {M : Mo} {W : Sg → Wish} {α : Type} {r : Res α} {ρ : Env} {σ : Sg} {S : Sto} {ι : Lay} {H : Hp} {D : Ends} {f : α → Sto → SRes} (en : EnvOk M ι S H ρ σ) (so : StoreOk M ι S H) (h : PostS M W ι S H (bindS r ρ f) D) :
    PostB M (W σ) ι S H r fun b H1 => ∃ ι1 S1, Ext ι S H ι1 S1 H1 ∧ StoreOk M ι1 S1 H1 ∧ EnvOk M ι1 S1 H1 ρ σ ∧ PostS M W ι1 S1 H1 (f b S1) D := by
  cases r with
  | fail => exact h
  | raise e S1 => exact fun ι1 H1 e1 so1 => h σ ι1 H1 e1 so1 (en.mono so e1.toExt0)
  | ok x S1 => exact fun ι1 H1 e1 so1 => ⟨ι1, S1, e1, so1, en.mono so e1.toExt0, PostS.from e1 h⟩
theorem asg_read {m : XE} {g : Tg} : ∀ D σ H, liftS X.mo W (sAsg m g) D σ H → tAsg (liftE X.mo W m) (liftG X.mo g) D σ H := fun D σ H ⟨ρ, ι, S, en, so, h⟩ => by
  refine ⟨ρ, ι, S, en, so, (PostS.bindV en so h).mono fun v H1 ⟨x, ι1, S1, e1, so1, en1, rv, h1⟩ => ?_⟩
  cases hs : g.set x ρ with
  | none => rw [hs] at h1; exact h1.elim
  | some ρ' =>
    rw [hs] at h1
    exact ⟨ρ, ι1, S1, x, ρ', en1, so1, rv, hs, fun σ' en' _ => h1 σ' ι1 H1 Ext.refl so1 en'⟩
theorem asgN_read {m : XE} {i : Nat} : ∀ D σ H, liftS X.mo W (sAsg m (gN i)) D σ H → tAsg (liftE X.mo W m) (gName i) D σ H := fun D σ H ⟨ρ, ι, S, en, so, h⟩ =>
  ⟨ρ, ι, S, en, so, (PostS.bindV en so h).mono fun v H1 ⟨x, ι1, S1, e1, so1, en1, rv, h1⟩ => h1 _ ι1 H1 Ext.refl so1 (en1.set rv i)⟩
theorem ds_asg {tg e : Expr} {m : XE} {g : Tg} (he : PE X e (liftE X.mo W m)) (hg : PG X tg (liftG X.mo g)) (hs : swapsWithSole [tg] e pos.line X.env = pure false) (hw : swappedStores [tg] e X.env = pure none)
    (h1 : (assignEach [tg] X.env).map (·.2) = [assign tg X.env]) : PS X (.Assign [tg] e pos) (liftS X.mo W (sAsg m g)) := (ps_asg he hg hs hw h1).of asg_read
theorem ds_set {i : Nat} {x : Str} {e : Expr} {m : XE} {pos' : Pos} (hN : X.N.Nodup) (hi : X.N[i]? = some x) (hx : X.env.scope.names.lookup x = some .local ∨ (X.fn x = true ∧ X.env.scope.names.lookup x = some .cell)) (he : PE X e (liftE X.mo W m)) (hs : swapsWith e (some (.Name x pos')) pos.line X.env = pure false) :
    PS X (.Assign [.Name x pos'] e pos) (liftS X.mo W (sAsg m (gN i))) :=
  (ps_set hN hi (hx.elim .inl fun h => .inr h.2) he hs (hx.elim .inr fun h => .inl h.1)).of asgN_read
theorem ds_expr {e : Expr} {m : XE} (he : PE X e (liftE X.mo W m)) (hs : swapsWith e none pos.line X.env = pure false) : PS X (.Expr e pos) (liftS X.mo W (sDrop m)) :=
  (ps_expr he hs).of fun D σ H ⟨ρ, ι, S, en, so, h⟩ => ⟨ρ, ι, S, en, so, (PostS.bindV en so h).mono fun v H1 ⟨x, ι1, S1, e1, so1, en1, rv, h1⟩ => h1 σ ι1 H1 Ext.refl so1 en1⟩
theorem ds_ret {e : Expr} {m : XE} (he : PE X e (liftE X.mo W m)) : PS X (.Return (some e) pos) (liftS X.mo W (sRet m)) :=
  (ps_ret he).of fun D σ H ⟨ρ, ι, S, en, so, h⟩ => ⟨ρ, ι, S, en, so, (PostS.bindV en so h).mono fun v H1 ⟨x, ι1, S1, e1, so1, en1, rv, h1⟩ => h1 v ι1 H1 Ext.refl so1 rv⟩
theorem ds_retN : PS X (.Return none pos) (liftS X.mo W sRetN) :=
  ps_retN.of fun D σ H ⟨ρ, ι, S, en, so, h⟩ => h .non ι H Ext.refl so (.dat .non)
theorem ds_if {c : Expr} {a b : List Stmt} {t : XT} {ma mb : XSt} (hc : PT X c (liftT X.mo W t)) (ha : PSs X a (liftS X.mo W ma)) (hb : PSs X b (liftS X.mo W mb)) : PS X (.If c a b pos) (liftS X.mo W (sIf t ma mb)) := by
  refine (ps_if hc ha hb).of fun D σ H ⟨ρ, ι, S, en, so, h⟩ => ⟨ρ, ι, S, en, so, (PostS.bindT en so h).mono fun b H1 ⟨ι1, S1, e1, so1, en1, h1⟩ => ?_⟩
  cases b with
  | true => simp only [if_true] at h1 ⊢; exact ⟨ρ, ι1, S1, en1, so1, h1⟩
  | false => simp only [Bool.false_eq_true, if_false] at h1 ⊢; exact ⟨ρ, ι1, S1, en1, so1, h1⟩
theorem ds_par2 {i j : Nat} {x y : Str} {a b : Expr} {m : XA} {px py pt : Pos} {kt k2 pt2} (hc : X.calm = true) (hN : X.N.Nodup) (hi : X.N[i]? = some x) (hj : X.N[j]? = some y) (hij : i ≠ j)
    (hx : X.env.scope.names.lookup x = some .local) (hy : X.env.scope.names.lookup y = some .local) (ha : PA X [a, b] (liftA X.mo W m))
    (hw : swappedStores [.Tuple [.Name x px, .Name y py] kt pt] (.Tuple [a, b] k2 pt2) X.env = pure (some [x, y]))
    (hs : swapsWithSole [.Tuple [.Name x px, .Name y py] kt pt] (.Tuple [a, b] k2 pt2) pos.line X.env = pure false) :
    PS X (.Assign [.Tuple [.Name x px, .Name y py] kt pt] (.Tuple [a, b] k2 pt2) pos) (liftS X.mo W (sPar2 i j m)) := by
  refine (ps_par hc hN hi hj hij hx hy ha hw hs).of fun D σ H ⟨ρ, ι, S, en, so, h⟩ => ⟨ρ, ι, S, en, so, (PostS.bindA en so h).mono fun vs H1 ⟨xs, ι1, S1, e1, so1, en1, rv, h1⟩ => ?_⟩
  split at h1
  · cases rv with
    | cons r rr =>
      cases rr with
      | cons r2 rr =>
        cases rr
        exact ⟨_, _, rfl, h1 _ ι1 H1 Ext.refl so1 ((en1.set r i).set r2 j)⟩
  · exact h1.elim
theorem ds_par3 {i j l : Nat} {x y z : Str} {a b c : Expr} {m : XA} {px py pz pt : Pos} {kt k2 pt2} (hc : X.calm = true) (hN : X.N.Nodup) (hi : X.N[i]? = some x) (hj : X.N[j]? = some y) (hl : X.N[l]? = some z) (hij : i ≠ j) (hil : i ≠ l) (hjl : j ≠ l)
    (hx : X.env.scope.names.lookup x = some .local) (hy : X.env.scope.names.lookup y = some .local) (hz : X.env.scope.names.lookup z = some .local) (ha : PA X [a, b, c] (liftA X.mo W m))
    (hw : swappedStores [.Tuple [.Name x px, .Name y py, .Name z pz] kt pt] (.Tuple [a, b, c] k2 pt2) X.env = pure (some [x, y, z]))
    (hs : swapsWithSole [.Tuple [.Name x px, .Name y py, .Name z pz] kt pt] (.Tuple [a, b, c] k2 pt2) pos.line X.env = pure false) :
    PS X (.Assign [.Tuple [.Name x px, .Name y py, .Name z pz] kt pt] (.Tuple [a, b, c] k2 pt2) pos) (liftS X.mo W (sPar3 i j l m)) := by
  refine (ps_par3 hc hN hi hj hl hij hil hjl hx hy hz ha hw hs).of fun D σ H ⟨ρ, ι, S, en, so, h⟩ => ⟨ρ, ι, S, en, so, (PostS.bindA en so h).mono fun vs H1 ⟨xs, ι1, S1, e1, so1, en1, rv, h1⟩ => ?_⟩
  split at h1
  · cases rv with
    | cons r rr =>
      cases rr with
      | cons r2 rr =>
        cases rr with
        | cons r3 rr =>
          cases rr
          exact ⟨_, _, _, rfl, h1 _ ι1 H1 Ext.refl so1 (((en1.set r i).set r2 j).set r3 l)⟩
  · exact h1.elim
/-- for -/
theorem for_read {mi : XI} {g : Tg} {b : XSt} : ∀ D σ H, liftS X.mo W (sFor mi g b) D σ H → tFor (liftI X.mo W mi) (liftG X.mo g) (liftS X.mo W b) D σ H := by
  intro D σ H ⟨ρ, ι, S, en, so, h⟩
  refine ⟨ρ, ι, S, en, so, ?_⟩
  unfold sFor at h
  cases em : mi ρ S with
  | fail => rw [em] at h; exact h
  | raise e S1 => rw [em] at h; exact fun ι1 H1 e1 so1 => h σ ι1 H1 e1 so1 (en.mono so e1.toExt0)
  | ok w S1 =>
    rw [em] at h
    intro J ι1 H1 e1 so1 wk
    have h := PostS.from e1 h
    refine ⟨fun i m σ H => m = w.xs.length - i ∧ ∃ ρ2 ι2 S2, i ≤ w.xs.length ∧ EnvOk X.mo ι2 S2 H ρ2 σ ∧ StoreOk X.mo ι2 S2 H ∧ Ext ι1 S1 H1 ι2 S2 H ∧ PostS X.mo W ι2 S2 H (forGo g b w.ok (w.xs.drop i) ρ2 S2) D,
      ⟨_, rfl, ρ, ι1, S1, Nat.zero_le _, en.mono so e1.toExt0, so1, Ext.refl, h⟩, ?_⟩
    rintro i m σ2 H2 ⟨rfl, ρ2, ι2, S2, hi, en2, so2, e2, h2⟩
    cases hdr : w.xs.drop i with
    | nil =>
      have hi' : i = w.xs.length := by
        have := List.drop_eq_nil_iff.mp hdr
        omega
      rw [hdr] at h2
      unfold forGo at h2
      by_cases hok : w.ok S2
      case neg => rw [if_neg hok] at h2; exact h2.elim
      rw [if_pos hok] at h2
      exact .inl ⟨by rw [hi']; exact wk.stop ι2 S2 H2 e2.toExt0 so2 hok, h2 σ2 ι2 H2 Ext.refl so2 en2⟩
    | cons x xs =>
      obtain ⟨hx, hlt, hdr'⟩ := drop_hd hdr
      rw [hdr] at h2
      unfold forGo at h2
      by_cases hok : w.ok S2
      case neg => rw [if_neg hok] at h2; exact h2.elim
      rw [if_pos hok] at h2
      obtain ⟨go, yld⟩ := wk.go ι2 S2 H2 i x e2.toExt0 so2 hok hx
      refine .inr ⟨go, fun σ' H' => ∃ m', m' < w.xs.length - i ∧ m' = w.xs.length - (i + 1) ∧ ∃ ρ2 ι2 S2, i + 1 ≤ w.xs.length ∧ EnvOk X.mo ι2 S2 H' ρ2 σ' ∧ StoreOk X.mo ι2 S2 H' ∧ Ext ι1 S1 H1 ι2 S2 H' ∧ PostS X.mo W ι2 S2 H' (forGo g b w.ok (w.xs.drop (i + 1)) ρ2 S2) D,
        fun σ' H' ⟨m', q1, q2, q3⟩ => ⟨m', q1, q2, q3⟩, fun v H3 hy => ?_⟩
      obtain ⟨e3, so3, rv⟩ := yld v H3 hy
      cases hset : g.set x ρ2 with
      | none => rw [hset] at h2; exact h2.elim
      | some ρ3 =>
        rw [hset] at h2
        refine ⟨ρ2, ι2, S2, x, ρ3, en2.mono so2 e3.toExt0, so3, rv, hset, fun σ3 en3 _ => ⟨ρ3, ι2, S2, en3, so3, ?_⟩⟩
        have h2 := PostS.from e3 h2
        cases eb : b ρ3 S2 with
        | fail => simp only [eb] at h2; exact h2
        | raise e ρ4 S4 => simp only [eb] at h2; exact h2
        | ok f ρ4 S4 =>
          cases f with
          | next =>
            simp only [eb] at h2
            intro σ4 ι4 H4 e4 so4 en4
            exact ⟨_, by omega, rfl, ρ4, ι4, S4, hlt, en4, so4, (e2.trans e3).trans e4, by rw [hdr']; exact PostS.from e4 h2⟩
          | cont =>
            simp only [eb] at h2
            intro σ4 ι4 H4 e4 so4 en4
            exact ⟨_, by omega, rfl, ρ4, ι4, S4, hlt, en4, so4, (e2.trans e3).trans e4, by rw [hdr']; exact PostS.from e4 h2⟩
          | brk => simp only [eb] at h2; exact h2
          | ret v => simp only [eb] at h2; exact h2
theorem ds_for {tg iter : Expr} {body : List Stmt} {mi : XI} {g : Tg} {b : XSt} (hp : PassesOwn (model X.prog X.w) X.A X.env X.xe) (hc : X.calm = true) (hi : PI X tg iter (liftI X.mo W mi)) (hg : PG X tg (liftG X.mo g)) (hb : PSs X body (liftS X.mo W b))
    (hs : ∀ x, foldedSetIterable iter X.env x = pure x) : PS X (.For tg iter body [] pos) (liftS X.mo W (sFor mi g b)) := (ps_for hp hc hi hg hb hs).of for_read
/-- o[i] = v -/
def rPut (M : Mo) : V → V → V → Hp → (Hp → Prop) → Prop := fun o i v H Q => ∃ ι S x y z S', StoreOk M ι S H ∧ RepV M ι S H x o ∧ RepV M ι S H y i ∧ RepV M ι S H z v ∧ putIx S x y z = some S' ∧ ∀ H', Ext ι S H ι S' H' → StoreOk M ι S' H' → Q H'
theorem kd_all {kvs : List (PyData × Val)} (h : (kvs.all fun p => (kOf p.1).isSome) = true) {ι : Lay} {S : Sto} {H : Hp} {rows : List (NestedKey × Addr × V)} (r : RepDs X.mo H (live ι S) (kvs.map (·.1)) (rows.map fun r => .ref r.2.1)) : kvs = [] ∧ rows = [] := by
  cases kvs with
  | nil =>
    cases rows with
    | nil => exact ⟨rfl, rfl⟩
    | cons _ _ => cases r
  | cons p kvs =>
    cases rows with
    | nil => cases r
    | cons q rows =>
      rw [List.all_cons, Bool.and_eq_true] at h
      obtain ⟨d, y⟩ := p
      cases r with
      | cons r _ =>
        have h1 : (kOf d).isSome = true := h.1
        cases r <;> simp [kOf] at h1
theorem set_put (hu : X.A.units + 1 < cLine) : PSet X (rPut X.mo) := by
  intro pins s σ H o i v ov iv u Q I ro ri rv ⟨ι, S, x, y, z, S', so, rx, ry, rz, hput, k⟩
  cases rx with
  | @loc l a hl =>
    have hput : (match S[l]? with
      | some (.lst xs) => (dInt y).bind fun k => (ixN xs.length k).bind fun j => if z.under l then some (S.set l (.lst (xs.set j z))) else none
      | some (.dct kvs) => (view S y).bind fun d => (kOf d).bind fun _ => if kvs.length < sizeLine ∧ z.under l = true ∧ kvs.all (fun p => (kOf p.1).isSome) = true then some (S.set l (.dct (putV kvs d z))) else none
      | _ => none) = some S' := hput
    cases e : S[l]? with
    | none => rw [e] at hput; cases hput
    | some c =>
      rw [e] at hput
      cases c with
      | dead => cases hput
      | lst xs =>
        obtain ⟨kk, hk1, hput⟩ := opt_bind_some hput
        obtain ⟨j, hj, hput⟩ := opt_bind_some hput
        by_cases hw : z.under l = true
        case neg => rw [if_neg hw] at hput; cases hput
        rw [if_pos hw] at hput
        cases hput
        obtain ⟨vs, h1, h2, h3⟩ := so.cell l a _ hl e
        have hi : i = .int kk := by
          unfold dInt at hk1
          split at hk1
          · cases hk1
            cases ry with
            | dat ry => cases ry; rfl
          · cases hk1
        have hne : (Cell.lst xs) ≠ .dead := fun q => by cases q
        have e1 := ext_set (c' := .lst (xs.set j z)) (o := .lst (vs.set j v)) so hl e hne
        have hwf : (Cell.lst (xs.set j z)).under l = true := by
          have h0 : xs.all (Val.under l) = true := so.wf l _ e
          show (xs.set j z).all (Val.under l) = true
          refine List.all_eq_true.mpr fun q hq => ?_
          rcases List.mem_or_eq_of_mem_set hq with hq | hq
          · exact List.all_eq_true.mp h0 q hq
          · rw [hq]; exact hw
        refine set_list pins s σ H _ i v ov iv u Q I ro ri rv ⟨a, vs, kk, j, rfl, hi, h1, by rw [← h3.len]; exact hj, k _ e1 (so_set so hl e hne ⟨_, upd_same, by rw [List.length_set]; exact h2, (h3.mono so e1.toExt0).set (rz.mono so e1.toExt0) j⟩ hwf)⟩
      | dct kvs =>
        obtain ⟨d, hv, hput⟩ := opt_bind_some hput
        obtain ⟨kk, hk1, hput⟩ := opt_bind_some hput
        have hd := kOf_some hk1
        subst hd
        by_cases hw : kvs.length < sizeLine ∧ z.under l = true ∧ kvs.all (fun p => (kOf p.1).isSome) = true
        case neg => rw [if_neg hw] at hput; cases hput
        rw [if_pos hw] at hput
        cases hput
        have hi : i = kV kk := kdat_v (ry.rd so hv).weak
        have hne : (Cell.dct kvs) ≠ .dead := fun q => by cases q
        have hwf : (Cell.dct (putV kvs (kdat kk) z)).under l = true := by
          have h0 : (kvs.all fun p => Val.under l p.2) = true := so.wf l _ e
          show ((putV kvs (kdat kk) z).all fun p => Val.under l p.2) = true
          unfold putV
          split
          · refine List.all_eq_true.mpr fun q hq => ?_
            obtain ⟨p, hp, rfl⟩ := List.mem_map.mp hq
            split
            · exact hw.2.1
            · exact List.all_eq_true.mp h0 p hp
          · rw [List.all_append, h0]
            simp [hw.2.1]
        rcases so.cell l a _ hl e with ⟨rows, h1, h2, h3⟩ | ⟨rows, h1, h2, h3, h4⟩
        · have e1 := ext_set (c' := .dct (putV kvs (kdat kk) z)) (o := .dK (putK rows kk v)) so hl e hne
          have hlen : rows.length < sizeLine := by
            have q := congrArg List.length h2
            rw [List.length_map, List.length_map] at q
            omega
          obtain ⟨k2, r2⟩ := putV_rep (k := kk) rz h2 h3
          refine set_dict hu pins s σ H _ i v ov iv u Q I ro ri rv ⟨a, _, rfl, by rw [hi]; exact DPut.k h1 hlen, k _ e1 (so_set so hl e hne (.inl ⟨_, upd_same, k2, r2.mono so e1.toExt0⟩) hwf)⟩
        · exact absurd (kd_all hw.2.2 h3).2 h4.2
  | _ => cases hput
theorem ds_put {o i e : Expr} {mo mi m : XE} {pos' : Pos} (hu : X.A.units + 1 < cLine) (ho : PE X o (liftE X.mo W mo)) (hi : PE X i (liftE X.mo W mi)) (he : PE X e (liftE X.mo W m)) (hs : swapsWithSole [.Subscript o i pos'] e pos.line X.env = pure false) (hw : swappedStores [.Subscript o i pos'] e X.env = pure none)
    (h1 : (assignEach [.Subscript o i pos'] X.env).map (·.2) = [assign (.Subscript o i pos') X.env])
    (ha : ∀ v, assign (.Subscript o i pos') X.env v = (do
      let ov ← holding [v] (eval o X.env)
      let iv ← holding [v, ov] (eval i X.env)
      standAt pos'
      holding [v, ov, iv] (setItem ov iv v)
      release [v, ov, iv] [])) : PS X (.Assign [.Subscript o i pos'] e pos) (liftS X.mo W (sPut mo mi m)) := by
  refine (ps_asg he (pg_sub ho hi (set_put hu) ha) hs hw h1).of fun D σ H ⟨ρ, ι, S, en, so, h⟩ => ⟨ρ, ι, S, en, so, (PostS.bindV en so h).mono fun v H1 ⟨z, ι1, S1, e1, so1, en1, rz, h1⟩ => ⟨ρ, ι1, S1, en1, so1, ?_⟩⟩
  refine (PostS.bindV en1 so1 h1).mono fun ov H2 ⟨x, ι2, S2, e2, so2, en2, rx, h2⟩ => ⟨ρ, ι2, S2, en2, so2, ?_⟩
  refine (PostS.bindV en2 so2 h2).mono fun iv H3 ⟨y, ι3, S3, e3, so3, en3, ry, h3⟩ => ?_
  cases q : putIx S3 x y z with
  | none => simp only [q] at h3; exact h3.elim
  | some S4 =>
    simp only [q] at h3
    exact ⟨ι3, S3, x, y, z, S4, so3, rx.mono so2 e3.toExt0, ry, (rz.mono so1 e2.toExt0).mono so2 e3.toExt0, q, fun H' e4 so4 => h3 σ ι3 H' e4 so4 (en3.mono so3 e4.toExt0)⟩
end
end NB
end
section
set_option Elab.async false
set_option linter.all false
set_option maxRecDepth 100000
set_option maxHeartbeats 1000000
/-! Core 11: defs: what they promise, how they are called. -/
namespace NB
open PySem PySem.Spec PyProof.Rows L2
open Classical

/-! ### a def's end: what it made and gives back stays as it is -/
def frz1 (n : Nat) (S : Sto) : Val → Option Val
  | .loc l => if l < n then some (.loc l) else match S[l]? with
    | some (.lst xs) => (allDat xs).map fun ds => .dat (.list ds)
    | some (.dct kvs) => (datKv kvs).map fun ds => .dat (.dict ds)
    | _ => none
  | .mix xs => if Val.unders n xs then some (.mix xs) else none
  | x => some x
def frzs (n : Nat) (S : Sto) : List Val → Option (List Val)
  | [] => some []
  | x :: xs => (frz1 n S x).bind fun y => (frzs n S xs).map fun ys => y :: ys
def frz (n : Nat) (S : Sto) : Val → Option Val
  | .mix xs => (frzs n S xs).map mkTup
  | x => frz1 n S x
/-- the end of a def: n the cells at its entry -/
def finish (keep : Bool) (n : Nat) (x : Val) (S : Sto) : Res Val := if keep then .ok x S else match frz n S x with
  | some y => .ok y (S.take n)
  | none => .fail
def runFn (N ps : List Str) (keep : Bool) (body : XSt) : List Val → Sto → Res Val := fun xs S =>
  if xs.length = ps.length then match body (xs.map some ++ List.replicate (N.length - xs.length) none) S with
    | .ok .next _ S' => finish keep S.length (.dat .none) S'
    | .ok (.ret v) _ S' => finish keep S.length v S'
    | _ => .fail
  else .fail
section
variable {M : Mo} {ι ι' : Lay} {S S' : Sto} {H H' : Hp}
theorem cut_not_live {n l : Nat} {a : Addr} (so : StoreOk M ι S H) (h : ι.c[l]? = some a) (hl : ¬ l < n) : ¬ live (ι.cut n) (S.take n) a := by
  rintro (⟨m, c, h1, _⟩ | h1)
  · have h1 : (ι.c.take n)[m]? = some a := h1
    have hm : m < n := by
      have := (List.getElem?_eq_some_iff.mp h1).1
      rw [List.length_take] at this; omega
    rw [List.getElem?_take_of_lt hm] at h1
    have e : l = m := (List.getElem?_inj (List.getElem?_eq_some_iff.mp h).1 so.nd).mp (h.trans h1.symm)
    omega
  · exact (so.gh a h1).1 (List.mem_of_getElem? h)
theorem frz1_rep {n : Nat} {x y : Val} {v : V} (so : StoreOk M ι S H) (r : RepV M ι S H x v) (h : frz1 n S x = some y) : RepV M (ι.cut n) (S.take n) H y v ∧ y.under n = true := by
  cases r with
  | dat r => cases h; exact ⟨.dat r.cut, by simp⟩
  | @loc l a hl =>
    have h : (if l < n then some (Val.loc l) else match S[l]? with
      | some (.lst xs) => (allDat xs).map fun ds => .dat (.list ds)
      | some (.dct kvs) => (datKv kvs).map fun ds => .dat (.dict ds)
      | _ => none) = some y := h
    by_cases hn : l < n
    · rw [if_pos hn] at h
      cases h
      have u : (Val.loc l).under n = true := by simpa using hn
      exact ⟨RepV.cut u (.loc hl), u⟩
    · rw [if_neg hn] at h
      have nl := cut_not_live (S := S) so hl hn
      cases e : S[l]? with
      | none => rw [e] at h; cases h
      | some c =>
        rw [e] at h
        cases c with
        | dead => cases h
        | lst xs =>
          obtain ⟨vs, h1, h2, h3⟩ := so.cell l a _ hl e
          cases q : allDat xs with
          | none => simp only [q] at h; cases h
          | some ds =>
            simp only [q] at h
            cases h
            refine ⟨.dat (.lst h1 nl ?_ (h3.ds' q).cut), by simp⟩
            rw [allDat_eq q, List.length_map] at h2
            exact h2
        | dct kvs =>
          cases q : datKv kvs with
          | none => simp only [q] at h; cases h
          | some ds =>
            simp only [q] at h
            cases h
            have ek := datKv_eq q
            have e1 : kvs.map (·.2) = (ds.map (·.2)).map Val.dat := by rw [ek, List.map_map, List.map_map]; rfl
            have e2 : kvs.map (·.1) = ds.map (·.1) := by rw [ek, List.map_map]; rfl
            rcases so.cell l a _ hl e with ⟨rows, h1, h2, h3⟩ | ⟨rows, h1, h2, h3, h4, _⟩
            · rw [e1] at h3
              exact ⟨.dat (.dctK h1 nl (by rw [← e2]; exact h2) h3.ds.cut), by simp⟩
            · rw [e1] at h4
              rw [e2] at h3
              exact ⟨.dat (.dctT h1 nl (by rw [← h2, ek, List.map_map]; rfl) h3.cut h4.ds.cut), by simp⟩
  | fn h1 => cases h; exact ⟨.fn h1, by unfold Val.under; rfl⟩
  | @mix a vs xs h1 z rr =>
    have h : (if Val.unders n xs then some (Val.mix xs) else none) = some y := h
    by_cases hu : Val.unders n xs = true
    · rw [if_pos hu] at h
      cases h
      have u : (Val.mix xs).under n = true := by unfold Val.under; exact hu
      exact ⟨RepV.cut u (.mix h1 z rr), u⟩
    · rw [if_neg hu] at h; cases h
  | scr h1 z => cases h; exact ⟨.scr h1 z, by unfold Val.under; rfl⟩
  | setK h1 h2 h3 h4 h5 h6 => cases h; exact ⟨RepV.cut (by unfold Val.under; rfl) (.setK h1 h2 h3 h4 h5 h6), by unfold Val.under; rfl⟩
theorem frzs_rep {n : Nat} (so : StoreOk M ι S H) : ∀ {xs ys : List Val} {vs : List V}, RepVs M ι S H xs vs → frzs n S xs = some ys → RepVs M (ι.cut n) (S.take n) H ys vs
  | [], ys, _, .nil, h => by cases h; exact .nil
  | x :: xs, ys, _, .cons r t, h => by
    have h : ((frz1 n S x).bind fun y => (frzs n S xs).map fun ys => y :: ys) = some ys := h
    obtain ⟨y, h1, h⟩ := opt_bind_some h
    obtain ⟨zs, h2, rfl⟩ := Option.map_eq_some_iff.mp h
    exact .cons (frz1_rep so r h1).1 (frzs_rep so t h2)
theorem RepVs.tup {xs : List Val} {vs : List V} {a : Addr} (h : SqT M.K H a vs) (z : xs.length ≤ sizeLine) (r : RepVs M ι S H xs vs) : RepV M ι S H (mkTup xs) (.ref a) := by
  unfold mkTup
  cases q : allDat xs with
  | none => exact .mix h z r
  | some ds =>
    refine .dat (.tup h ?_ (r.ds' q))
    rw [allDat_eq q, List.length_map] at z
    exact z
theorem frzs_len {n : Nat} : ∀ {xs ys : List Val}, frzs n S xs = some ys → ys.length = xs.length
  | [], ys, h => by cases h; rfl
  | x :: xs, ys, h => by
    have h : ((frz1 n S x).bind fun y => (frzs n S xs).map fun ys => y :: ys) = some ys := h
    obtain ⟨y, h1, h⟩ := opt_bind_some h
    obtain ⟨zs, h2, rfl⟩ := Option.map_eq_some_iff.mp h
    simp [frzs_len h2]
theorem frz_rep {n : Nat} {x y : Val} {v : V} (so : StoreOk M ι S H) (r : RepV M ι S H x v) (h : frz n S x = some y) : RepV M (ι.cut n) (S.take n) H y v := by
  cases x with
  | mix xs =>
    have h : (frzs n S xs).map mkTup = some y := h
    obtain ⟨ys, h1, rfl⟩ := Option.map_eq_some_iff.mp h
    cases r with
    | mix h2 z rr => exact RepVs.tup h2 (by rw [frzs_len h1]; exact z) (frzs_rep so rr h1)
  | dat d => exact (frz1_rep so r h).1
  | loc l => exact (frz1_rep so r h).1
  | fn x => exact (frz1_rep so r h).1
  | set ks => exact (frz1_rep so r h).1
  | scr ns => exact (frz1_rep so r h).1
/-- what a def's end says of its body's -/
theorem finish_ok {W : Wish} {keep : Bool} {x : Val} {Q : VK} (so0 : StoreOk M ι S H) (h : Post M W ι S H (finish keep S.length x S') Q) (v : V) (ι' : Lay) (H' : Hp) (e : Ext ι S H ι' S' H') (so : StoreOk M ι' S' H') (r : RepV M ι' S' H' x v) : Q v H' := by
  unfold finish at h
  cases keep with
  | true => exact h v ι' H' e so r
  | false =>
    simp only [Bool.false_eq_true, if_false] at h
    cases q : frz S.length S' x with
    | none => rw [q] at h; exact h.elim
    | some y =>
      rw [q] at h
      have e1 := pre_cut so0 e
      have r1 := frz_rep so r q
      rw [e1] at r1
      have so1 := so_cut (n := S.length) so
      rw [e1] at so1
      exact h v ι H' (ext_cut so0 e) so1 r1
end

/-! ### promises -/
/-- as FnOk, where nothing is being shown -/
structure FnG (P : Program) (w : World) (K : PySem.W.Frag) (mg : Str → Option Value) (base : Heap) (CX : CXT) (k : Nat) (f : Addr) (fd : FuncData) (ps : List Str) (sp : Sp) : Prop where
  len : ∀ vs H Q E, sp vs H Q E → vs.length = ps.length
  run : ∀ (A : Around) (outer : List PySem.Env) (s : Shared) (H : Hp) (args : Args) (us : List Value) (vs : List V) (Q : VK) (E : XK), Room k A → A.guards = some [] → Env0 P w K mg base A outer s H → BindsTo s fd args (ps.zip us) → Vals vs us → sp vs H Q E →
    codeAny (model P w) A (.call (.ref f) args) (CR CX outer P w H s Q E) s
section
variable {P : Program} {w : World} {K : PySem.W.Frag} {mg : Str → Option Value} {base : Heap} {CX : CXT} {k : Nat} {f : Addr} {fd : FuncData} {N ps : List Str} {sp : Sp} {x qual : Str} {params : Arguments} {body : List Stmt} {scope : Scope} {dvs : List V} {kws : List (Str × V)}
theorem fnG_mono {j : Nat} (F : FnG P w K mg base CX j f fd ps sp) (h : j ≤ k) : FnG P w K mg base CX k f fd ps sp := ⟨F.len, fun A outer s H args us vs Q E r => F.run A outer s H args us vs Q E (r.mono h)⟩
theorem guards_deeper {A : Around} (h : A.guards = some []) (env : PySem.Env) : (A.deeper env).guards = some [] := h
/-- by its body -/
theorem fnG_of (F : FunD K x qual params body scope dvs kws f fd) (SC : FnScope N ps scope) (len : ∀ vs H Q E, sp vs H Q E → vs.length = ps.length)
    (hb : ∀ (cdv : Value) (A : Around) (outer : List PySem.Env) (s : Shared) (H : Hp) (vs : List V) (Q : VK) (E : XK), Room k (A.deeper (envOfC qual scope s.heap.objs.size f cdv)) → A.guards = some [] → sp vs H Q E →
      ∃ t, PSs (cxOf CX P w K mg base N qual scope f cdv A outer s H E) body t ∧ t { nx := fun _ H' => Q .non H', rt := Q } (start N vs) H) : FnG P w K mg base CX (k + 1) f fd ps sp := by
  obtain ⟨oc, od, dV, kV, doc, pm, an, cdv, ct, osl, rfl, at_, code, _, _⟩ := F.ex
  refine ⟨len, fun A outer s H args us vs Q E room gs env0 bnd rv prom => ?_⟩
  have inK : K.In s.heap := env0.mod.kin.keeps fun b o e => (env0.bs b o e).1
  have noLim : s.heap.NoLimit := env0.mod.nolimit.keeps fun b o e => (env0.bs b o e).1
  have parOk : ∀ y ∈ ps.zip us, scope.names.lookup y.1 = some .local ∨ (scope.names.lookup y.1 = some .cell ∧ ((cellsFrom (s.heap.objs.size + 1) scope.names []).lookup y.1).isSome = true) := by
    intro y hy
    rcases SC.par y.1 (List.of_mem_zip (show (y.1, y.2) ∈ ps.zip us from hy)).1 with q | q
    · exact .inl q
    · exact .inr ⟨q, PySem.W.cellsFrom_some _ _ _ (.inl q)⟩
  refine codeAny_call_function room.depth (inK _ _ at_) rfl SC.co SC.gen rfl (PySem.W.codeRec_of inK code) (bnd _ _ _ _ (wpAny_newFunctionEnv_cells SC.kind parOk fun env he s1 inC => ?_))
  subst he
  refine ⟨noLim.keeps inC.toInCall.keep, codeAny_func ?_⟩
  obtain ⟨t, ht, ready⟩ := hb cdv A outer s H vs Q E (room.deeper _) gs prom
  have I := inv_start (CX := CX) (E := E) SC room.hd env0 (len _ _ _ _ prom) rv inC
  have done : ∀ {σ' : L2.St} {H' : Hp} {v : V} {u : Value} {s' : Shared}, Inv (cxOf CX P w K mg base N qual scope f cdv A outer s H E) [] σ' H' s' → RelV v u → Q v H' → CE outer P w H s Q u s' :=
    fun J rv q => ⟨_, _, J.os, J.bare, J.base, J.hok, rv, q⟩
  refine wpAny_mono (ht.run [] s1 (start N vs) H _ I ready) (fun fl s' ends => ?_) fun e s' ends => ends
  cases fl with
  | next =>
    obtain ⟨σ', H', J, q⟩ := ends
    exact done (v := V.non) (u := Value.none) J rfl q
  | ret u =>
    obtain ⟨v, σ', H', J, rv, q⟩ := ends
    exact done J rv q
  | brk => exact (ends.elim fun _ z => z.elim fun _ z => z.2).elim
  | cont => exact (ends.elim fun _ z => z.elim fun _ z => z.2).elim
end
section
variable {X : Cx} {CX : CXT} {k : Nat} {f : Addr} {fd : FuncData} {ps : List Str} {sp : Sp} {dvs : List V} {ds : List Value} {E : XK} {x : Str} {p pos : Pos} {e : Expr} {es : List Expr} {t : TA}
theorem run_g {pins : List (Addr × Obj)} {σ : L2.St} {H : Hp} {s : Shared} {Q : VK} {us : List Value} {vs : List V} (F : FnG X.prog X.w X.K X.mg X.base CX k f fd ps sp) (room : Room k X.A) (gs : X.A.guards = some []) (bnd : Binds X.K fd ps ds) (dflt : Vals dvs ds) (pass : Passes CX X E)
    (I : Inv X pins σ H s) (r : Vals vs us) (prom : sp (vs ++ dvs) H Q E) : wpAny (model X.prog X.w) X.A (call (.ref f) us) (EP X pins σ Q) X.xe s := by
  have all : Vals (vs ++ dvs) (us ++ ds) := r.append dflt
  have cnt : (us ++ ds).length = ps.length := by rw [← all.length]; exact F.len _ _ _ _ prom
  refine wpAny_call (codeAny_mono (F.run X.A X.stack s H ⟨us, []⟩ (us ++ ds) (vs ++ dvs) Q E room gs I.env0 (bnd s us I.kIn cnt) all prom) fun r s' ends => ?_)
  cases r with
  | error e => exact pass pins σ H s e s' I ends
  | ok fl =>
    cases fl with
    | ret u => exact I.after ends
    | _ => exact ends.elim
theorem pe_g (F : FnG X.prog X.w X.K X.mg X.base CX k f fd ps sp) (room : Room k X.A) (gs : X.A.guards = some []) (hg : Gl X x) (hm : X.mg x = some (.ref f)) (hk : PySem.W.keepIn X.K (.ref f) = true) (bnd : Binds X.K fd ps ds) (dflt : Vals dvs ds) (pass : Passes CX X E)
    (ha : PA X (e :: es) t) (hdb : (x == ("__debug__" : Str)) = false) (he : starEach (e :: es) X.env = (false, eval e X.env) :: starEach es X.env) (hpl : (backTo pos (starEach es X.env)).any (·.1) = false) :
    PE X (.Call (.Name x p) (e :: es) [] pos) (tCall sp dvs E t) :=
  ⟨fun pins s σ H Q I h => wpAny_Call_Name_kw (ld_glob I hg hm (PySem.W.callWith_K (h₀ := X.base) I.ok.mod.kin hk (thn (ha.run pos pins s σ H _ I h) fun us s1 ⟨vs, H1, I1, r, q⟩ => ⟨I1.kIn, run_g F room gs bnd dflt pass I1 r q⟩) he hpl) hdb)⟩
theorem pe_g0 (F : FnG X.prog X.w X.K X.mg X.base CX k f fd ps sp) (room : Room k X.A) (gs : X.A.guards = some []) (hg : Gl X x) (hm : X.mg x = some (.ref f)) (hk : PySem.W.keepIn X.K (.ref f) = true) (bnd : Binds X.K fd ps ds) (dflt : Vals dvs ds) (pass : Passes CX X E)
    (hdb : (x == ("__debug__" : Str)) = false) : PE X (.Call (.Name x p) [] [] pos) (tCall sp dvs E tNil) :=
  ⟨fun pins s σ H Q I h => wpAny_Call_Name_kw (ld_glob I hg hm (PySem.W.callWith_K0 I.kIn hk (run_g (us := []) F room gs bnd dflt pass I .nil h)) hdb)⟩
end
/-- nothing is let out -/
abbrev noCX : CXT := fun _ _ _ _ _ _ => False
abbrev noE : XK := fun _ _ _ => False
/-- what the reading g of a def promises -/
def spG (M : Mo) (g : List Val → Sto → Res Val) : Sp := fun vs H Q _ => ∃ ι S xs, StoreOk M ι S H ∧ RepVs M ι S H xs vs ∧ Post M (fun _ _ _ _ => False) ι S H (g xs S) Q
theorem spG_len {M : Mo} {N ps : List Str} {keep : Bool} {b : XSt} : ∀ vs H Q E, spG M (runFn N ps keep b) vs H Q E → vs.length = ps.length := fun vs H Q E ⟨ι, S, xs, so, r, h⟩ => by
  unfold runFn at h
  by_cases q : xs.length = ps.length
  · rw [← r.len]; exact q
  · rw [if_neg q] at h; exact h.elim
/-- an own def's call -/
def xCall (g : List Val → Sto → Res Val) (m : XA) : XE := fun ρ S => (m ρ S).bind g
theorem call_read {M : Mo} {g : List Val → Sto → Res Val} {m : XA} : ∀ σ H Q, liftE M noW (xCall g m) σ H Q → tCall (spG M g) [] noE (liftA M noW m) σ H Q := fun σ H Q ⟨ρ, ι, S, en, so, h⟩ => by
  refine ⟨ρ, ι, S, en, so, (PostL.bind h).mono fun vs H1 ⟨xs, ι1, S1, e1, so1, r1, h1⟩ => ?_⟩
  refine ⟨ι1, S1, xs, so1, by rw [List.append_nil]; exact r1, h1⟩
theorem EnvOk.start {M : Mo} {ι : Lay} {S : Sto} {H : Hp} {N : List Str} : ∀ {xs : List Val} {vs : List V}, RepVs M ι S H xs vs → EnvOk M ι S H (xs.map some ++ List.replicate (N.length - xs.length) none) (L2.start N vs) := by
  intro xs vs r
  have el := r.len
  refine ⟨by simp [L2.start, el], fun i x h => ?_⟩
  by_cases hi : i < xs.length
  · rw [List.getElem?_append_left (by simpa using hi), List.getElem?_map] at h
    cases e : xs[i]? with
    | none => rw [e] at h; cases h
    | some y =>
      rw [e] at h
      cases h
      obtain ⟨v, hv, rv⟩ := r.get e
      refine ⟨v, ?_, rv⟩
      unfold L2.start
      rw [List.getElem?_append_left (by simp; omega), List.getElem?_map, hv]; rfl
  · rw [List.getElem?_append_right (by simpa using hi), List.getElem?_replicate] at h
    split at h <;> cases h
/-- the body's reading, from the def's -/
theorem body_read {M : Mo} {N ps : List Str} {keep : Bool} {b : XSt} {vs : List V} {H : Hp} {Q : VK} {E : XK} (h : spG M (runFn N ps keep b) vs H Q E) : liftS M noW b { nx := fun _ H' => Q .non H', rt := Q } (L2.start N vs) H := by
  obtain ⟨ι, S, xs, so, r, h⟩ := h
  refine ⟨_, ι, S, EnvOk.start r, so, ?_⟩
  unfold runFn at h
  by_cases q : xs.length = ps.length
  case neg => rw [if_neg q] at h; exact h.elim
  rw [if_pos q] at h
  cases eb : b (xs.map some ++ List.replicate (N.length - xs.length) none) S with
  | fail => simp only [eb] at h; exact h
  | raise e ρ' S' => simp only [eb] at h; exact h.elim
  | ok f ρ' S' =>
    cases f with
    | next => simp only [eb] at h; exact fun σ' ι' H' e1 so1 en1 => finish_ok so h .non ι' H' e1 so1 (.dat .non)
    | ret v => simp only [eb] at h; exact fun v' ι' H' e1 so1 r1 => finish_ok so h v' ι' H' e1 so1 r1
    | brk => simp only [eb] at h; exact h.elim
    | cont => simp only [eb] at h; exact h.elim
end NB
end
section
set_option Elab.async false
set_option linter.all false
set_option maxRecDepth 100000
set_option maxHeartbeats 1000000
/-! Core 12: built-in functions. -/
namespace NB
open PySem PySem.Spec PyProof.Rows L2
open Classical

def rC1 (M : Mo) (g : Sto → Val → Option Val) : List V → Hp → VK → Prop := fun vs H Q => ∃ ι S x v z, vs = [v] ∧ StoreOk M ι S H ∧ RepV M ι S H x v ∧ g S x = some z ∧ ∀ w H', Ext ι S H ι S H' → StoreOk M ι S H' → RepV M ι S H' z w → Q w H'
def rC2 (M : Mo) (g : Sto → Val → Val → Option Val) : List V → Hp → VK → Prop := fun vs H Q => ∃ ι S x y v u z, vs = [v, u] ∧ StoreOk M ι S H ∧ RepV M ι S H x v ∧ RepV M ι S H y u ∧ g S x y = some z ∧ ∀ w H', Ext ι S H ι S H' → StoreOk M ι S H' → RepV M ι S H' z w → Q w H'
section
variable {X : Cx} {W : Sg → Wish} {x : Str} {a b : Expr} {ma mb : XE} {p pos : Pos} {bid T : String}
theorem c1_read {g : Sto → Val → Option Val} : ∀ σ H Q, liftE X.mo W (xUn g ma) σ H Q → tCB (rC1 X.mo g) (liftA X.mo W (aCons ma aNil)) σ H Q := fun σ H Q ⟨ρ, ι, S, en, so, h⟩ => by
  refine ⟨ρ, ι, S, en, so, ?_⟩
  unfold aCons aNil
  unfold xUn at h
  cases em : ma ρ S with
  | fail => rw [em] at h; exact h.elim
  | raise e S1 => rw [em] at h; exact h
  | ok y S1 =>
    rw [em] at h
    intro vs ι1 H1 e1 so1 r1
    cases r1 with
    | cons r rr =>
      cases rr
      obtain ⟨z, ez, k⟩ := (Post.from e1 h).of
      exact ⟨ι1, S1, y, _, z, rfl, so1, r, ez, fun w H' e so' r => k w ι1 H' e so' r⟩
theorem c2_read {g : Sto → Val → Val → Option Val} : ∀ σ H Q, liftE X.mo W (xBin g ma mb) σ H Q → tCB (rC2 X.mo g) (liftA X.mo W (aCons ma (aCons mb aNil))) σ H Q := fun σ H Q ⟨ρ, ι, S, en, so, h⟩ => by
  refine ⟨ρ, ι, S, en, so, ?_⟩
  unfold aCons aNil
  unfold xBin at h
  cases em : ma ρ S with
  | fail => rw [em] at h; exact h.elim
  | raise e S1 => rw [em] at h; exact h
  | ok y S1 =>
    rw [em] at h
    simp only [Res.bind_ok] at h ⊢
    cases em2 : mb ρ S1 with
    | fail => rw [em2] at h; exact h.elim
    | raise e S2 => rw [em2] at h; exact h
    | ok y2 S2 =>
      rw [em2] at h
      intro vs ι1 H1 e1 so1 r1
      cases r1 with
      | cons r rr =>
        cases rr with
        | cons r2 rr =>
          cases rr
          obtain ⟨z, ez, k⟩ := (Post.from e1 h).of
          exact ⟨ι1, S2, y, y2, _, _, z, rfl, so1, r, r2, ez, fun w H' e so' r => k w ι1 H' e so' r⟩
theorem de_b1 {g : Sto → Val → Option Val} (hc : CallR X (.builtin bid) (rC1 X.mo g)) (hg : Gl X x) (hm : X.mg x = none) (hv : bootBuiltins x = some (.builtin bid)) (ha : PE X a (liftE X.mo W ma)) (hn : x ≠ "__name__") (hdb : (x == ("__debug__" : Str)) = false)
    (he : starEach [a] X.env = (false, eval a X.env) :: starEach [] X.env) : PE X (.Call (.Name x p) [a] [] pos) (liftE X.mo W (xUn g ma)) :=
  (pe_callB hc hg hm hv (da_cons ha da_nil he) hn hdb he rfl).of c1_read
theorem de_t1 {g : Sto → Val → Option Val} (hc : CallR X (.type T) (rC1 X.mo g)) (hg : Gl X x) (hm : X.mg x = none) (hv : bootBuiltins x = some (.type T)) (ha : PE X a (liftE X.mo W ma)) (hn : x ≠ "__name__") (hdb : (x == ("__debug__" : Str)) = false)
    (he : starEach [a] X.env = (false, eval a X.env) :: starEach [] X.env) : PE X (.Call (.Name x p) [a] [] pos) (liftE X.mo W (xUn g ma)) :=
  (pe_callTy hc hg hm hv (da_cons ha da_nil he) hn hdb he rfl).of c1_read
theorem de_b2 {g : Sto → Val → Val → Option Val} (hc : CallR X (.builtin bid) (rC2 X.mo g)) (hg : Gl X x) (hm : X.mg x = none) (hv : bootBuiltins x = some (.builtin bid)) (ha : PE X a (liftE X.mo W ma)) (hb : PE X b (liftE X.mo W mb)) (hn : x ≠ "__name__") (hdb : (x == ("__debug__" : Str)) = false)
    (he : starEach [a, b] X.env = (false, eval a X.env) :: starEach [b] X.env) (he2 : starEach [b] X.env = (false, eval b X.env) :: starEach [] X.env) : PE X (.Call (.Name x p) [a, b] [] pos) (liftE X.mo W (xBin g ma mb)) :=
  (pe_callB hc hg hm hv (da_cons ha (da_cons hb da_nil he2) he) hn hdb he (by rw [he2]; rfl)).of c2_read

/-! ### len, tuple, list, int -/
def gLen (S : Sto) (x : Val) : Option Val := match items S x with
  | some xs => some (.dat (.int (xs.length : Nat)))
  | none => match x with
    | .dat (.str z) => if z.length ≤ sizeLine then some (.dat (.int (z.length : Nat))) else none
    | _ => none
theorem cr_len : CallR X (.builtin "len") (rC1 X.mo gLen) := by
  intro pins s σ H vs us Q I r ⟨ι, S, x, v, z, ev, so, rx, hz, k⟩
  subst ev
  unfold gLen at hz
  cases hi : items S x with
  | some xs =>
    rw [hi] at hz
    cases hz
    obtain ⟨a, ws, rfl, r1, r2, h1, h2⟩ := seq_at so rx hi
    have q := k (.int (ws.length : Nat)) H Ext.refl so (by rw [r1.len]; exact .dat (.int _))
    cases ht : isT x with
    | true => exact call_len_seq pins s σ H _ us Q I r ⟨a, ws, rfl, .inr (h1 ht), q⟩
    | false => exact call_len_seq pins s σ H _ us Q I r ⟨a, ws, rfl, .inl (h2 ht), q⟩
  | none =>
    rw [hi] at hz
    cases x with
    | dat d =>
      cases d with
      | str w =>
        simp only at hz
        split at hz
        · rename_i hw
          cases hz
          cases rx with
          | dat rx =>
            cases rx
            exact call_len_str pins s σ H _ us Q I r ⟨w, rfl, hw, k _ H Ext.refl so (.dat (.int _))⟩
        · cases hz
      | _ => cases hz
    | _ => cases hz
def gTuple (S : Sto) (x : Val) : Option Val := (items S x).map mkTup
theorem cr_tuple : CallR X (.type "tuple") (rC1 X.mo gTuple) := by
  intro pins s σ H vs us Q I r ⟨ι, S, x, v, z, ev, so, rx, hz, k⟩
  subst ev
  obtain ⟨xs, hi, rfl⟩ := Option.map_eq_some_iff.mp hz
  obtain ⟨a, ws, rfl, r1, r2, h1, h2⟩ := seq_at so rx hi
  cases ht : isT x with
  | true => exact call_tuple_of pins s σ H _ us Q I r ⟨a, ws, rfl, .inr ⟨h1 ht, k _ H Ext.refl so (RepVs.tup (h1 ht) r2 r1)⟩⟩
  | false =>
    refine call_tuple_of pins s σ H _ us Q I r ⟨a, ws, rfl, .inl ⟨h2 ht, fun p hp => ?_⟩⟩
    obtain ⟨e, so', r'⟩ := new_tup so r1 r2 hp
    exact k _ _ e so' r'
def gList (S : Sto) (x : Val) : Option Val := (items S x).bind fun xs => (allDat xs).map fun ds => .dat (.list ds)
theorem cr_list : CallR X (.type "list") (rC1 X.mo gList) := by
  intro pins s σ H vs us Q I r ⟨ι, S, x, v, z, ev, so, rx, hz, k⟩
  subst ev
  obtain ⟨xs, hi, hz⟩ := opt_bind_some hz
  obtain ⟨ds, hd, rfl⟩ := Option.map_eq_some_iff.mp hz
  obtain ⟨a, ws, rfl, r1, r2, h1, h2⟩ := seq_at so rx hi
  have hzz : ds.length ≤ sizeLine := by rw [allDat_eq hd, List.length_map] at r2; exact r2
  have fin : ∀ p, H p = none → Q (.ref p) (upd H p (.lst ws)) := fun p hp => by
    obtain ⟨e, so', r'⟩ := new_lst so (r1.ds' hd) hzz hp
    exact k _ _ e so' r'
  cases ht : isT x with
  | true => exact call_list_of pins s σ H _ us Q I r ⟨a, ws, rfl, .inr (h1 ht), fin⟩
  | false => exact call_list_of pins s σ H _ us Q I r ⟨a, ws, rfl, .inl (h2 ht), fin⟩
def gInt (S : Sto) (x : Val) : Option Val := match x with
  | .dat (.int i) => some (.dat (.int i))
  | .dat (.bool b) => some (.dat (.int (if b then 1 else 0)))
  | _ => none
@[simp] theorem gInt_int (S : Sto) (i : Int) : gInt S (.dat (.int i)) = some (.dat (.int i)) := rfl
theorem cr_int : CallR X (.type "int") (rC1 X.mo gInt) := by
  intro pins s σ H vs us Q I r ⟨ι, S, x, v, z, ev, so, rx, hz, k⟩
  subst ev
  unfold gInt at hz
  split at hz
  · cases hz
    cases rx with
    | dat rx => cases rx; exact call_int1 pins s σ H _ us Q I r (.inl ⟨_, rfl, k _ H Ext.refl so (.dat (.int _))⟩)
  · cases hz
    cases rx with
    | dat rx => cases rx; exact call_int1 pins s σ H _ us Q I r (.inr ⟨_, rfl, k _ H Ext.refl so (.dat (.int _))⟩)
  · cases hz
/-- a list that will be changed, from a sequence -/
def xListC (m : XE) : XE := fun ρ S => (m ρ S).bind fun x S1 => match items S1 x with
  | some xs => newCell (.lst xs) S1
  | none => .fail
theorem de_listC (hg : Gl X x) (hm : X.mg x = none) (hv : bootBuiltins x = some (.type "list")) (ha : PE X a (liftE X.mo W ma)) (hn : x ≠ "__name__") (hdb : (x == ("__debug__" : Str)) = false)
    (he : starEach [a] X.env = (false, eval a X.env) :: starEach [] X.env) : PE X (.Call (.Name x p) [a] [] pos) (liftE X.mo W (xListC ma)) := by
  refine (pe_callTy call_list_of hg hm hv (da_cons ha da_nil he) hn hdb he rfl).of fun σ H Q ⟨ρ, ι, S, en, so, h⟩ => ⟨ρ, ι, S, en, so, ?_⟩
  unfold aCons aNil
  unfold xListC at h
  cases em : ma ρ S with
  | fail => rw [em] at h; exact h.elim
  | raise e S1 => rw [em] at h; exact h
  | ok y S1 =>
    rw [em] at h
    intro vs ι1 H1 e1 so1 r1
    cases r1 with
    | cons r rr =>
      cases rr
      have h := Post.from e1 h
      simp only [Res.bind_ok] at h
      cases hi : items S1 y with
      | none => rw [hi] at h; exact h.elim
      | some xs =>
        rw [hi] at h
        simp only at h
        obtain ⟨b, ws, rfl, r1, r2, h1, h2⟩ := seq_at so1 r hi
        have fin : ∀ l, H1 l = none → Q (.ref l) (upd H1 l (.lst ws)) := fun l hl => by
          cases q : newCell (.lst xs) S1 with
          | ok z S3 =>
            obtain ⟨e, so', r'⟩ := new_cell so1 r1 r2 hl q
            rw [q] at h
            exact h _ _ _ e so' r'
          | raise e S3 => unfold newCell at q; split at q <;> cases q
          | fail => rw [q] at h; exact h.elim
        cases ht : isT y with
        | true => exact ⟨b, ws, rfl, .inr (h1 ht), fin⟩
        | false => exact ⟨b, ws, rfl, .inl (h2 ht), fin⟩

/-! ### max, min, all, any -/
def gMax2 (_ : Sto) (x y : Val) : Option Val := match x, y with
  | .dat (.int i), .dat (.int j) => some (.dat (.int (if j > i then j else i)))
  | _, _ => none
def gMin2 (_ : Sto) (x y : Val) : Option Val := match x, y with
  | .dat (.int i), .dat (.int j) => some (.dat (.int (if j < i then j else i)))
  | _, _ => none
theorem cr_max2 (hc : X.calm = true) : CallR X (.builtin "max") (rC2 X.mo gMax2) := by
  intro pins s σ H vs us Q I r ⟨ι, S, x, y, v, u, z, ev, so, rx, ry, hz, k⟩
  subst ev
  unfold gMax2 at hz
  split at hz
  · cases hz
    cases rx with
    | dat rx =>
      cases ry with
      | dat ry => cases rx; cases ry; exact call_max2 hc pins s σ H _ us Q I r ⟨_, _, rfl, k _ H Ext.refl so (.dat (.int _))⟩
  · cases hz
theorem cr_min2 (hc : X.calm = true) : CallR X (.builtin "min") (rC2 X.mo gMin2) := by
  intro pins s σ H vs us Q I r ⟨ι, S, x, y, v, u, z, ev, so, rx, ry, hz, k⟩
  subst ev
  unfold gMin2 at hz
  split at hz
  · cases hz
    cases rx with
    | dat rx =>
      cases ry with
      | dat ry => cases rx; cases ry; exact call_min2 hc pins s σ H _ us Q I r ⟨_, _, rfl, k _ H Ext.refl so (.dat (.int _))⟩
  · cases hz
def boolsOf : List PyData → Option (List Bool)
  | [] => some []
  | .bool b :: r => (boolsOf r).map (b :: ·)
  | _ => none
def intsOf : List PyData → Option (List Int)
  | [] => some []
  | .int b :: r => (intsOf r).map (b :: ·)
  | _ => none
@[simp] theorem boolsOf_map : ∀ bs : List Bool, boolsOf (bs.map .bool) = some bs
  | [] => rfl
  | b :: bs => by show (boolsOf (bs.map .bool)).map _ = _; rw [boolsOf_map bs]; rfl
@[simp] theorem intsOf_map : ∀ bs : List Int, intsOf (bs.map .int) = some bs
  | [] => rfl
  | b :: bs => by show (intsOf (bs.map .int)).map _ = _; rw [intsOf_map bs]; rfl
@[simp] theorem boolsOf_mapf {α : Type} (f : α → Bool) (l : List α) : boolsOf (l.map fun x => .bool (f x)) = some (l.map f) := by
  have e : (l.map fun x => PyData.bool (f x)) = (l.map f).map .bool := by rw [List.map_map]; rfl
  rw [e, boolsOf_map]
@[simp] theorem intsOf_mapf {α : Type} (f : α → Int) (l : List α) : intsOf (l.map fun x => .int (f x)) = some (l.map f) := by
  have e : (l.map fun x => PyData.int (f x)) = (l.map f).map .int := by rw [List.map_map]; rfl
  rw [e, intsOf_map]
theorem boolsOf_eq : ∀ {ds : List PyData} {bs : List Bool}, boolsOf ds = some bs → ds = bs.map .bool
  | [], bs, h => by cases h; rfl
  | d :: r, bs, h => by
    cases d with
    | bool b =>
      have h : (boolsOf r).map (b :: ·) = some bs := h
      obtain ⟨cs, hc, rfl⟩ := Option.map_eq_some_iff.mp h
      rw [boolsOf_eq hc]; rfl
    | _ => cases h
theorem intsOf_eq : ∀ {ds : List PyData} {bs : List Int}, intsOf ds = some bs → ds = bs.map .int
  | [], bs, h => by cases h; rfl
  | d :: r, bs, h => by
    cases d with
    | int b =>
      have h : (intsOf r).map (b :: ·) = some bs := h
      obtain ⟨cs, hc, rfl⟩ := Option.map_eq_some_iff.mp h
      rw [intsOf_eq hc]; rfl
    | _ => cases h
theorem bools_rep {M : Mo} {H : Hp} {bad : Addr → Prop} : ∀ {bs : List Bool} {vs : List V}, RepDs M H bad (bs.map .bool) vs → vs = bs.map V.bl
  | [], _, .nil => rfl
  | _ :: _, _, .cons r t => by cases r; rw [bools_rep t]; rfl
theorem ints_rep {M : Mo} {H : Hp} {bad : Addr → Prop} : ∀ {bs : List Int} {vs : List V}, RepDs M H bad (bs.map .int) vs → vs = bs.map V.int
  | [], _, .nil => rfl
  | _ :: _, _, .cons r t => by cases r; rw [ints_rep t]; rfl
def lData (S : Sto) (x : Val) : Option (List PyData) := match view S x with
  | some (.list ds) => some ds
  | _ => none
theorem lData_list {S : Sto} {ds : List PyData} : lData S (.dat (.list ds)) = some ds := rfl
theorem lData_rep {M : Mo} {ι : Lay} {S : Sto} {H : Hp} {x : Val} {v : V} {ds : List PyData} (so : StoreOk M ι S H) (r : RepV M ι S H x v) (h : lData S x = some ds) : ∃ a vs, v = .ref a ∧ H a = some (.lst vs) ∧ ds.length ≤ sizeLine ∧ RepDs M H (live ι S) ds vs := by
  unfold lData at h
  split at h
  · rename_i es e
    cases h
    exact (r.rd so e).list
  · cases h
def gAll (S : Sto) (x : Val) : Option Val := (lData S x).bind fun ds => (boolsOf ds).map fun bs => .dat (.bool (bs.all id))
def gAny (S : Sto) (x : Val) : Option Val := (lData S x).bind fun ds => (boolsOf ds).map fun bs => .dat (.bool (bs.any id))
theorem crg_all (hc : X.calm = true) : CallR X (.builtin "all") (rC1 X.mo gAll) := by
  intro pins s σ H vs us Q I r ⟨ι, S, x, v, z, ev, so, rx, hz, k⟩
  subst ev
  obtain ⟨ds, hd, hz⟩ := opt_bind_some hz
  obtain ⟨bs, hb, rfl⟩ := Option.map_eq_some_iff.mp hz
  obtain ⟨a, ws, rfl, h1, h2, h3⟩ := lData_rep so rx hd
  rw [boolsOf_eq hb] at h3
  have e := bools_rep h3
  subst e
  exact cr_all hc pins s σ H _ us Q I r ⟨a, bs, rfl, SqL.of h1, k _ H Ext.refl so (.dat (.bl _))⟩
theorem crg_any (hc : X.calm = true) : CallR X (.builtin "any") (rC1 X.mo gAny) := by
  intro pins s σ H vs us Q I r ⟨ι, S, x, v, z, ev, so, rx, hz, k⟩
  subst ev
  obtain ⟨ds, hd, hz⟩ := opt_bind_some hz
  obtain ⟨bs, hb, rfl⟩ := Option.map_eq_some_iff.mp hz
  obtain ⟨a, ws, rfl, h1, h2, h3⟩ := lData_rep so rx hd
  rw [boolsOf_eq hb] at h3
  have e := bools_rep h3
  subst e
  exact cr_any hc pins s σ H _ us Q I r ⟨a, bs, rfl, SqL.of h1, k _ H Ext.refl so (.dat (.bl _))⟩
end

/-! ### isinstance -/
inductive Ty where
  | none | bool | int | str | list | tuple | dict | set
def Ty.name : Ty → String
  | .none => "NoneType"
  | .bool => "bool"
  | .int => "int"
  | .str => "str"
  | .list => "list"
  | .tuple => "tuple"
  | .dict => "dict"
  | .set => "set"
def Ty.is : Ty → Ty → Bool
  | .none, .none => true
  | .bool, .bool => true
  | .bool, .int => true
  | .int, .int => true
  | .str, .str => true
  | .list, .list => true
  | .tuple, .tuple => true
  | .dict, .dict => true
  | .set, .set => true
  | _, _ => false
theorem Ty.kit (a b : Ty) : kitB a.name b.name = some (a.is b) := by cases a <;> cases b <;> decide +kernel
def tyD : PyData → Ty
  | .none => .none
  | .bool _ => .bool
  | .int _ => .int
  | .str _ => .str
  | .list _ => .list
  | .tuple _ => .tuple
  | .dict _ => .dict
def tyOf (S : Sto) : Val → Option Ty
  | .dat d => some (tyD d)
  | .mix _ => some .tuple
  | .scr _ => some .list
  | .loc l => match S[l]? with
    | some (.lst _) => some .list
    | some (.dct _) => some .dict
    | _ => none
  | _ => none
def gIsi (T : Ty) (S : Sto) (x : Val) : Option Val := (tyOf S x).map fun t => .dat (.bool (t.is T))
@[simp] theorem gIsi_dat (T : Ty) (S : Sto) (d : PyData) : gIsi T S (.dat d) = some (.dat (.bool ((tyD d).is T))) := rfl
section
variable {X : Cx} {W : Sg → Wish} {a : Expr} {ma : XE} {p p1 p2 pos : Pos}
theorem kit_sqT {pins : List (Addr × Obj)} {σ : L2.St} {H : Hp} {s : Shared} (I : Inv X pins σ H s) {a : Addr} {vs : List V} (h : SqT X.K H a vs) : ∃ P : Heap → Prop, PySem.W.KitX X.K (.ref a) (.type "tuple") P ∧ P s.heap := by
  obtain ⟨its, rv, ⟨o, ho, hc, _⟩, _⟩ := I.tuple h
  exact ⟨_, PySem.W.kitx_tuple, ⟨o, ho, hc⟩⟩
theorem kit_sqL {pins : List (Addr × Obj)} {σ : L2.St} {H : Hp} {s : Shared} (I : Inv X pins σ H s) {a : Addr} {vs : List V} (h : SqL X.K H a vs) : ∃ P : Heap → Prop, PySem.W.KitX X.K (.ref a) (.type "list") P ∧ P s.heap := by
  obtain ⟨its, rv, ⟨o, n, ho, hc, _⟩, _⟩ := I.list h
  exact ⟨_, PySem.W.kitx_list, ⟨o, ho, hc⟩⟩
theorem kit_dK {pins : List (Addr × Obj)} {σ : L2.St} {H : Hp} {s : Shared} (I : Inv X pins σ H s) {a : Addr} {kvs : List (Key × V)} (h : H a = some (.dK kvs)) : ∃ P : Heap → Prop, PySem.W.KitX X.K (.ref a) (.type "dict") P ∧ P s.heap := by
  obtain ⟨_, _, vs, _, o, es, ep, h1, h2, _⟩ := (show ObjOk X.prog X.w H s.heap a (.dK kvs) from I.hok a _ h)
  exact ⟨_, PySem.W.kitx_dict, ⟨o, h1, h2.1⟩⟩
theorem kit_dT {pins : List (Addr × Obj)} {σ : L2.St} {H : Hp} {s : Shared} (I : Inv X pins σ H s) {a : Addr} {rows : List (NestedKey × Addr × V)} (h : H a = some (DTO X.prog X.w a rows)) : ∃ P : Heap → Prop, PySem.W.KitX X.K (.ref a) (.type "dict") P ∧ P s.heap := by
  obtain ⟨_, _, us, _, o, es, ep, h1, h2, _⟩ := (I.hok a _ h).1
  exact ⟨_, PySem.W.kitx_dict, ⟨o, h1, h2.1⟩⟩
theorem kit_rep {pins : List (Addr × Obj)} {σ : L2.St} {H : Hp} {s : Shared} {ι : Lay} {S : Sto} {x : Val} {v : V} {u : Value} {t : Ty} (I : Inv X pins σ H s) (so : StoreOk X.mo ι S H) (r : RepV X.mo ι S H x v) (ru : RelV v u) (h : tyOf S x = some t) :
    ∃ P : Heap → Prop, PySem.W.KitX X.K u (.type t.name) P ∧ P s.heap ∧ u ≠ .builtin "__main__.__loader__#opaque" := by
  cases r with
  | @dat d v r =>
    cases h
    cases r with
    | non => cases (show u = Value.none from ru); exact ⟨_, PySem.W.kitx_none, True.intro, fun z => nomatch z⟩
    | bl b => cases (show u = Value.bool b from ru); exact ⟨_, PySem.W.kitx_bool, True.intro, fun z => nomatch z⟩
    | int i => obtain ⟨t, q⟩ := (show ∃ t, u = Value.int i t from ru); cases q; exact ⟨_, PySem.W.kitx_int, True.intro, fun z => nomatch z⟩
    | str y => obtain ⟨t, q⟩ := (show ∃ t, u = Value.str y t from ru); cases q; exact ⟨_, PySem.W.kitx_str, True.intro, fun z => nomatch z⟩
    | tup h1 _ _ => cases ru; obtain ⟨P, k1, k2⟩ := kit_sqT I h1; exact ⟨P, k1, k2, fun z => nomatch z⟩
    | lst h1 _ _ _ => cases ru; obtain ⟨P, k1, k2⟩ := kit_sqL I (SqL.of h1); exact ⟨P, k1, k2, fun z => nomatch z⟩
    | dctK h1 _ _ _ => cases ru; obtain ⟨P, k1, k2⟩ := kit_dK I h1; exact ⟨P, k1, k2, fun z => nomatch z⟩
    | dctT h1 _ _ _ _ => cases ru; obtain ⟨P, k1, k2⟩ := kit_dT I h1; exact ⟨P, k1, k2, fun z => nomatch z⟩
  | mix h1 _ _ => cases h; cases ru; obtain ⟨P, k1, k2⟩ := kit_sqT I h1; exact ⟨P, k1, k2, fun z => nomatch z⟩
  | scr h1 _ => cases h; cases ru; obtain ⟨P, k1, k2⟩ := kit_sqL I h1.sq; exact ⟨P, k1, k2, fun z => nomatch z⟩
  | @loc l a hl =>
    have h : (match S[l]? with
      | some (.lst _) => some Ty.list
      | some (.dct _) => some Ty.dict
      | _ => none) = some t := h
    cases e : S[l]? with
    | none => rw [e] at h; cases h
    | some c =>
      rw [e] at h
      cases ru
      cases c with
      | dead => cases h
      | lst xs =>
        cases h
        obtain ⟨vs, h1, _⟩ := so.cell l a _ hl e
        obtain ⟨P, k1, k2⟩ := kit_sqL I (SqL.of h1)
        exact ⟨P, k1, k2, fun z => nomatch z⟩
      | dct kvs =>
        cases h
        rcases so.cell l a _ hl e with ⟨rows, h1, _⟩ | ⟨rows, h1, _⟩
        · obtain ⟨P, k1, k2⟩ := kit_dK I h1; exact ⟨P, k1, k2, fun z => nomatch z⟩
        · obtain ⟨P, k1, k2⟩ := kit_dT I h1; exact ⟨P, k1, k2, fun z => nomatch z⟩
  | fn _ => cases h
  | setK _ _ _ _ _ _ => cases h
def rIsiG (M : Mo) (T : Ty) : List V → Hp → VK → Prop := fun vs H Q => ∃ ι S x v t, vs = [v, .ty T.name] ∧ StoreOk M ι S H ∧ RepV M ι S H x v ∧ tyOf S x = some t ∧ Q (.bl (t.is T)) H
theorem cr_isi (T : Ty) : CallR X (.builtin "isinstance") (rIsiG X.mo T) := by
  intro pins s σ H vs us Q I r ⟨ι, S, x, v, t, ev, so, rx, ht, q⟩
  subst ev
  obtain ⟨u1, u2, rfl, r1, r2⟩ := vals2 r
  cases (show u2 = Value.type T.name from r2)
  obtain ⟨P, Z, p, hx⟩ := kit_rep I so rx r1 ht
  exact PySem.W.kia_one Z I.kIn p (kit_ty (Ty.kit t T)) hx fun tk => ⟨.bl _, H, I.tok tk, rfl, q⟩
theorem de_isi (T : Ty) {tn : Str} (hg : Gl X "isinstance") (hm : X.mg "isinstance" = none) (hgT : Gl X tn) (hmT : X.mg tn = none) (hvT : bootBuiltins tn = some (.type T.name)) (hnT : tn ≠ "__name__") (hdT : (tn == ("__debug__" : Str)) = false) (hv : bootBuiltins "isinstance" = some (.builtin "isinstance"))
    (ha : PE X a (liftE X.mo W ma)) (he : starEach [a, .Name tn p2] X.env = (false, eval a X.env) :: starEach [.Name tn p2] X.env) : PE X (.Call (.Name "isinstance" p) [a, .Name tn p2] [] pos) (liftE X.mo W (xUn (gIsi T) ma)) := by
  have hT : PE X (.Name tn p2) (tC (.ty T.name)) := pe_bltn hgT hmT hvT rfl hnT hdT
  refine (pe_callB (cr_isi T) hg hm hv (pa_cons ha (pa_cons hT pa_nil rfl) he) (by decide) (by decide) he rfl).of fun σ H Q ⟨ρ, ι, S, en, so, h⟩ => ⟨ρ, ι, S, en, so, ?_⟩
  refine (Post.bind h).mono fun v H1 ⟨x, ι1, S1, e1, so1, r1, h1⟩ => ?_
  obtain ⟨z, ez, k⟩ := h1.of
  obtain ⟨t, ht, rfl⟩ := Option.map_eq_some_iff.mp ez
  exact ⟨ι1, S1, x, v, t, rfl, so1, r1, ht, k _ ι1 H1 Ext.refl so1 (.dat (.bl _))⟩
end
end NB
end
section
set_option Elab.async false
set_option linter.all false
set_option maxRecDepth 100000
set_option maxHeartbeats 1000000
/-! Core 13: repr, methods of lists, enumerate, the empty dict, [::-1]. -/
namespace NB
open PySem PySem.Spec PyProof.Rows L2
open Classical

/-! ### repr -/
mutual
/-- no list within; its dicts are empty -/
def noList : PyData → Bool
  | .list _ => false
  | .dict kvs => kvs.isEmpty
  | .tuple ds => noLists ds
  | .none => true
  | .bool _ => true
  | .int _ => true
  | .str _ => true
def noLists : List PyData → Bool
  | [] => true
  | d :: ds => noList d && noLists ds
end
def reprOk (d : PyData) : Bool := d.showable && (decide (d.depth ≤ 100) && (decide (d.shown.length ≤ sizeLine) && (d.canLay0 || noList d)))
def gRepr (S : Sto) (x : Val) : Option Val := (view S x).bind fun d => if reprOk d then some (.dat (.str d.shown)) else none
section
variable {X : Cx} {pins : List (Addr × Obj)} {σ : L2.St} {H : Hp} {s : Shared}
mutual
theorem RepD.readsN {bad : Addr → Prop} (I : Inv X pins σ H s) : ∀ (d : PyData) (v : V) (u : Value), RepD X.mo H bad d v → RelV v u → noList d = true → ∃ as, Reads s.heap u d as ∧ sysModules ∉ as
  | .none, _, _, .non, r, _ => by cases r; exact ⟨_, .none, by simp⟩
  | .bool b, _, _, .bl _, r, _ => by cases r; exact ⟨_, .bool b, by simp⟩
  | .int i, _, _, .int _, r, _ => by obtain ⟨t, rfl⟩ := r; exact ⟨_, .int i t, by simp⟩
  | .str x, _, _, .str _, r, _ => by obtain ⟨t, rfl⟩ := r; exact ⟨_, .str x t, by simp⟩
  | .tuple ds, _, _, .tup h z rs, r, hl => by
    cases r
    obtain ⟨its, rv, ⟨o, ho, hc, n, hd⟩, _⟩ := I.tuple h
    obtain ⟨as, q, q2⟩ := RepDs.readsN I ds _ its rs rv (by simpa [noList] using hl)
    exact ⟨as, .tuple ho hc hd q, q2⟩
  | .list ds, _, _, _, _, hl => by simp [noList] at hl
  | .dict kvs, _, _, .dctK (rows := rows) h _ k _, r, hl => by
    cases r
    have hk : kvs = [] := by simpa [noList] using hl
    subst hk
    obtain ⟨_, hsys, vs, rel, o, es, ep, ho, hex, hd, _, pr, _⟩ := (show ObjOk X.prog X.w H s.heap _ (.dK _) from I.hok _ _ h)
    have hr : rows = [] := by cases rows with
      | nil => rfl
      | cons _ _ => cases k
    subst hr
    cases rel
    have he : es.toList = [] := by
      cases q : es.toList with
      | nil => rfl
      | cons e r => rw [q] at pr; cases pr
    refine ⟨_, .dict ho hex.1 hd (as := []) (bs := []) (by rw [he]; exact .nil) (by rw [he]; exact .nil), ?_⟩
    simp only [List.append_nil, List.mem_singleton]
    exact fun z => by rw [z] at hsys; simp at hsys
  | .dict kvs, _, _, .dctT (rows := rows) h _ k _ _, r, hl => by
    cases r
    have hk : kvs = [] := by simpa [noList] using hl
    subst hk
    obtain ⟨_, hsys, us, rv, o, es, ep, ho, hex, hd, he, _⟩ := (I.hok _ _ h).1
    have hr : rows = [] := by cases rows with
      | nil => rfl
      | cons _ _ => cases k
    subst hr
    have he : es.toList = [] := by rw [he]; rfl
    refine ⟨_, .dict ho hex.1 hd (as := []) (bs := []) (by rw [he]; exact .nil) (by rw [he]; exact .nil), ?_⟩
    simp only [List.append_nil, List.mem_singleton]
    exact fun z => by rw [z] at hsys; simp at hsys
theorem RepDs.readsN {bad : Addr → Prop} (I : Inv X pins σ H s) : ∀ (ds : List PyData) (vs : List V) (us : List Value), RepDs X.mo H bad ds vs → Vals vs us → noLists ds = true → ∃ as, ReadsAll s.heap us ds as ∧ sysModules ∉ as
  | [], _, _, .nil, .nil, _ => ⟨_, .nil, by simp⟩
  | d :: ds, _, _, .cons r t, .cons r' t', hl => by
    have hl' : noList d = true ∧ noLists ds = true := by simpa [noLists] using hl
    obtain ⟨as, q1, a1⟩ := RepD.readsN I d _ _ r r' hl'.1
    obtain ⟨bs, q2, a2⟩ := RepDs.readsN I ds _ _ t t' hl'.2
    exact ⟨_, .cons q1 q2, by simp [a1, a2]⟩
end
theorem cr_repr {k : Nat} (hr : Room k X.A) (gs : X.A.guards = some []) : CallR X (.builtin "repr") (rC1 X.mo gRepr) := by
  intro pins s σ H vs us Q I r ⟨ι, S, x, v, z, ev, so, rx, hz, q⟩
  subst ev
  obtain ⟨d, hd, hz⟩ := opt_bind_some hz
  by_cases hok : reprOk d = true
  case neg => rw [if_neg hok] at hz; cases hz
  rw [if_pos hok] at hz
  cases hz
  have q1 := q (.str d.shown) H Ext.refl so (.dat (.str _))
  obtain ⟨u, rfl, ru⟩ := vals1 r
  have rd := (rx.rd so hd).weak
  unfold reprOk at hok
  simp only [Bool.and_eq_true, Bool.or_eq_true, decide_eq_true_eq] at hok
  obtain ⟨h1, h2, h3, h4⟩ := hok
  have hu : X.A.units + (d.depth + 1) < cLine := by have := hr.un; omega
  have big : ∀ a, v = .ref a → wpAny (model X.prog X.w) X.A (call (.builtin "repr") [u]) (EP X pins σ Q) X.xe s := fun a ea => by
    subst ea
    cases (show u = Value.ref a from ru)
    have rds : ∃ as, Reads s.heap (.ref a) d as ∧ (d.hasDict = true → sysModules ∉ as) := by
      rcases h4 with h4 | h4
      · obtain ⟨as, q⟩ := RepD.reads I d _ _ rd ru h4
        exact ⟨as, q, PyData.noDict_hsm (PyData.hasDict_of_canLay d h4)⟩
      · obtain ⟨as, q, n⟩ := RepD.readsN I d _ _ rd ru h4
        exact ⟨as, q, fun _ => n⟩
    obtain ⟨as, rr, hsm⟩ := rds
    exact repr_of_reads' rr h1 hsm gs hu (fun _ _ e => e) (fun h' t tk hk => ⟨.str d.shown, H, I.kept hk, ⟨_, rfl⟩, q1⟩) h3
  cases rd with
  | non => cases (show u = Value.none from ru); exact PySem.P.repr_of_none ⟨.str _, H, I.tok _, ⟨_, rfl⟩, q1⟩
  | bl b => cases (show u = Value.bool b from ru); exact PySem.P.repr_of_bool ⟨.str _, H, I.tok _, ⟨_, by cases b <;> rfl⟩, q1⟩
  | int i =>
    obtain ⟨t, rfl⟩ := (show ∃ t, u = Value.int i t from ru)
    exact PySem.P.repr_of_int (by simpa [PyData.showable] using h1) ⟨.str _, H, I.tok _, ⟨_, rfl⟩, q1⟩
  | str y =>
    obtain ⟨t, rfl⟩ := (show ∃ t, u = Value.str y t from ru)
    exact PySem.P.repr_of_str ⟨.str _, H, I.tok _, ⟨_, rfl⟩, q1⟩ h3
  | tup _ _ _ => exact big _ rfl
  | lst _ _ _ _ => exact big _ rfl
  | dctK _ _ _ _ => exact big _ rfl
  | dctT _ _ _ _ _ => exact big _ rfl
end

/-! ### append, extend -/
/-- the store behind x.append(y) -/
def putApp (S : Sto) (x y : Val) : Option Sto := match x with
  | .loc l => match S[l]? with
    | some (.lst xs) => if xs.length < sizeLine ∧ y.under l = true then some (S.set l (.lst (xs ++ [y]))) else none
    | _ => none
  | _ => none
def lItems (S : Sto) : Val → Option (List Val)
  | .dat (.list ds) => some (ds.map .dat)
  | .loc l => match S[l]? with
    | some (.lst xs) => some xs
    | _ => none
  | _ => none
def putExt (S : Sto) (x y : Val) : Option Sto := match x with
  | .loc l => match S[l]? with
    | some (.lst xs) => (lItems S y).bind fun ys => if xs.length + ys.length ≤ sizeLine ∧ ys.all (Val.under l) = true then some (S.set l (.lst (xs ++ ys))) else none
    | _ => none
  | _ => none
def isLstC (S : Sto) : Val → Bool
  | .loc l => match S[l]? with
    | some (.lst _) => true
    | _ => false
  | _ => false
/-- o.m(e), a method that gives None -/
def xMeth (g : Sto → Val → Val → Option Sto) (o m : XE) : XE := fun ρ S => (o ρ S).bind fun x S1 => if isLstC S1 x then (m ρ S1).bind fun y S2 => match g S2 x y with
  | some S3 => .ok (.dat .none) S3
  | none => .fail
  else .fail
section
variable {X : Cx} {W : Sg → Wish} {o e : Expr} {mo me : XE} {apos cpos : Pos}
theorem lItems_rep {M : Mo} {ι : Lay} {S : Sto} {H : Hp} {x : Val} {v : V} {xs : List Val} (so : StoreOk M ι S H) (r : RepV M ι S H x v) (h : lItems S x = some xs) : ∃ a vs, v = .ref a ∧ H a = some (.lst vs) ∧ RepVs M ι S H xs vs := by
  cases r with
  | dat r =>
    cases r with
    | lst h1 n z rr => cases h; exact ⟨_, _, rfl, h1, rr.vs⟩
    | _ => cases h
  | @loc l a hl =>
    have h' : (match S[l]? with
      | some (.lst xs) => some xs
      | _ => none) = some xs := h
    cases e : S[l]? with
    | none => rw [e] at h'; cases h'
    | some c =>
      rw [e] at h'
      cases c with
      | lst ys =>
        cases h'
        obtain ⟨vs, h1, h2, h3⟩ := so.cell l a _ hl e
        exact ⟨a, vs, rfl, h1, h3⟩
      | _ => cases h'
  | _ => cases h
theorem isLstC_rep {M : Mo} {ι : Lay} {S : Sto} {H : Hp} {x : Val} {v : V} (so : StoreOk M ι S H) (r : RepV M ι S H x v) (h : isLstC S x = true) : tyV M.K "list" v H := by
  cases r with
  | @loc l a hl =>
    have h' : (match S[l]? with
      | some (.lst _) => true
      | _ => false) = true := h
    cases e : S[l]? with
    | none => rw [e] at h'; cases h'
    | some c =>
      rw [e] at h'
      cases c with
      | lst ys =>
        obtain ⟨vs, h1, _⟩ := so.cell l a _ hl e
        exact .inl ⟨rfl, vs, SqL.of h1⟩
      | _ => cases h'
  | _ => cases h
/-- o[l] grows -/
theorem grow_cell {M : Mo} {ι : Lay} {S : Sto} {H : Hp} {l : Nat} {a : Addr} {xs ys : List Val} {vs us : List V} (so : StoreOk M ι S H) (hl : ι.c[l]? = some a) (e : S[l]? = some (.lst xs)) (rx : RepVs M ι S H xs vs) (ry : RepVs M ι S H ys us) (hz : xs.length + ys.length ≤ sizeLine) (hw : ys.all (Val.under l) = true) :
    Ext ι S H ι (S.set l (.lst (xs ++ ys))) (upd H a (.lst (vs ++ us))) ∧ StoreOk M ι (S.set l (.lst (xs ++ ys))) (upd H a (.lst (vs ++ us))) := by
  have hne : (Cell.lst xs) ≠ .dead := fun q => by cases q
  have e1 := ext_set (c' := .lst (xs ++ ys)) (o := .lst (vs ++ us)) so hl e hne
  refine ⟨e1, so_set so hl e hne ⟨_, upd_same, by rw [List.length_append]; exact hz, (rx.append ry).mono so e1⟩ ?_⟩
  have h0 : xs.all (Val.under l) = true := so.wf l _ e
  show (xs ++ ys).all (Val.under l) = true
  rw [List.all_append, h0, hw]; rfl
theorem meth_read {g : Sto → Val → Val → Option Sto} {r : V → List V → Hp → VK → Prop}
    (hr : ∀ (ι : Lay) (S S' : Sto) (H : Hp) (x y : Val) (v u : V) (Q : VK), StoreOk X.mo ι S H → RepV X.mo ι S H x v → RepV X.mo ι S H y u → g S x y = some S' → (∀ H', Ext ι S H ι S' H' → StoreOk X.mo ι S' H' → Q .non H') → r v [u] H Q) :
    ∀ σ H Q, liftE X.mo W (xMeth g mo me) σ H Q → tBM X.K "list" r (liftE X.mo W mo) (liftA X.mo W (aCons me aNil)) σ H Q := by
  intro σ H Q ⟨ρ, ι, S, en, so, h⟩
  refine ⟨ρ, ι, S, en, so, (Post.bind h).mono fun v H1 ⟨x, ι1, S1, e1, so1, r1, h1⟩ => ?_⟩
  by_cases hc : isLstC S1 x = true
  case neg => rw [if_neg hc] at h1; exact h1.elim
  rw [if_pos hc] at h1
  refine ⟨isLstC_rep so1 r1 hc, ρ, ι1, S1, en.mono so e1.toExt0, so1, ?_⟩
  unfold aCons aNil
  cases em : me ρ S1 with
  | fail => rw [em] at h1; exact h1.elim
  | raise e S2 => rw [em] at h1; exact h1
  | ok y S2 =>
    rw [em] at h1
    intro vs ι2 H2 e2 so2 r2
    cases r2 with
    | cons r2 rr =>
      cases rr
      have h2 := Post.from e2 h1
      simp only [Res.bind_ok] at h2
      cases q : g S2 x y with
      | none => rw [q] at h2; exact h2.elim
      | some S3 =>
        rw [q] at h2
        exact hr ι2 S2 S3 H2 x y v _ Q so2 (r1.mono so1 e2.toExt0) r2 q fun H' e' so' => h2 .non ι2 H' e' so' (.dat .non)
theorem app_rel {ι : Lay} {S S' : Sto} {H : Hp} {x y : Val} {v u : V} {Q : VK} (so : StoreOk X.mo ι S H) (rx : RepV X.mo ι S H x v) (ry : RepV X.mo ι S H y u) (h : putApp S x y = some S') (k : ∀ H', Ext ι S H ι S' H' → StoreOk X.mo ι S' H' → Q .non H') : rAppend v [u] H Q := by
  cases rx with
  | @loc l a hl =>
    have h' : (match S[l]? with
      | some (.lst xs) => if xs.length < sizeLine ∧ y.under l = true then some (S.set l (.lst (xs ++ [y]))) else none
      | _ => none) = some S' := h
    cases e : S[l]? with
    | none => rw [e] at h'; cases h'
    | some c =>
      rw [e] at h'
      cases c with
      | lst xs =>
        by_cases hw : xs.length < sizeLine ∧ y.under l = true
        case neg => simp only [if_neg hw] at h'; cases h'
        simp only [if_pos hw] at h'
        cases h'
        obtain ⟨vs, h1, h2, h3⟩ := so.cell l a _ hl e
        obtain ⟨e1, so1⟩ := grow_cell so hl e h3 (.cons ry .nil) (by show xs.length + 1 ≤ sizeLine; exact hw.1) (by simp [hw.2])
        exact ⟨a, vs, u, rfl, rfl, h1, by rw [← h3.len]; exact hw.1, k _ e1 so1⟩
      | _ => cases h'
  | _ => cases h
theorem ext_rel {ι : Lay} {S S' : Sto} {H : Hp} {x y : Val} {v u : V} {Q : VK} (so : StoreOk X.mo ι S H) (rx : RepV X.mo ι S H x v) (ry : RepV X.mo ι S H y u) (h : putExt S x y = some S') (k : ∀ H', Ext ι S H ι S' H' → StoreOk X.mo ι S' H' → Q .non H') : rExtend v [u] H Q := by
  cases rx with
  | @loc l a hl =>
    have h' : (match S[l]? with
      | some (.lst xs) => (lItems S y).bind fun ys => if xs.length + ys.length ≤ sizeLine ∧ ys.all (Val.under l) = true then some (S.set l (.lst (xs ++ ys))) else none
      | _ => none) = some S' := h
    cases e : S[l]? with
    | none => rw [e] at h'; cases h'
    | some c =>
      rw [e] at h'
      cases c with
      | lst xs =>
        obtain ⟨ys, hy, h'⟩ := opt_bind_some h'
        by_cases hw : xs.length + ys.length ≤ sizeLine ∧ ys.all (Val.under l) = true
        case neg => rw [if_neg hw] at h'; cases h'
        rw [if_pos hw] at h'
        cases h'
        obtain ⟨vs, h1, h2, h3⟩ := so.cell l a _ hl e
        obtain ⟨b, us, rfl, h4, h5⟩ := lItems_rep so ry hy
        obtain ⟨e1, so1⟩ := grow_cell so hl e h3 h5 hw.1 hw.2
        exact ⟨a, b, vs, us, rfl, rfl, h1, h4, by rw [← h3.len, ← h5.len]; exact hw.1, k _ e1 so1⟩
      | _ => cases h'
  | _ => cases h
theorem few_one (hs : starEach [e] X.env = (false, eval e X.env) :: starEach [] X.env) : ((backTo cpos (starEach [e] X.env)).all (fun x => !x.1) && (backToKw cpos (keywordEach [] X.env)).all (fun x => x.1.isSome)
      && decide ([e].length + ([] : List Keyword).length + (if ([] : List Keyword).isEmpty then 0 else 1) < 30)) = true := by rw [hs]; rfl
theorem de_append (ho : PE X o (liftE X.mo W mo)) (he : PE X e (liftE X.mo W me)) (hbase : attributeBase o "append" X.env (eval o X.env) = eval o X.env) (hline : (apos.endLine == cpos.line) = true) (hs : starEach [e] X.env = (false, eval e X.env) :: starEach [] X.env) :
    PE X (.Call (.Attribute o "append" apos) [e] [] cpos) (liftE X.mo W (xMeth putApp mo me)) :=
  (pe_bm PySem.F.plainAttrs_list PySem.F.slot_list_append PySem.F.type_list_append mt_append ho (da_cons he da_nil hs) hbase (few_one hs) hline hs rfl).of (meth_read fun _ _ _ _ _ _ _ _ _ so rx ry h k => app_rel so rx ry h k)
theorem de_extend (ho : PE X o (liftE X.mo W mo)) (he : PE X e (liftE X.mo W me)) (hbase : attributeBase o "extend" X.env (eval o X.env) = eval o X.env) (hline : (apos.endLine == cpos.line) = true) (hs : starEach [e] X.env = (false, eval e X.env) :: starEach [] X.env) :
    PE X (.Call (.Attribute o "extend" apos) [e] [] cpos) (liftE X.mo W (xMeth putExt mo me)) :=
  (pe_bm PySem.F.plainAttrs_list PySem.F.slot_list_extend PySem.F.type_list_extend mt_extend ho (da_cons he da_nil hs) hbase (few_one hs) hline hs rfl).of (meth_read fun _ _ _ _ _ _ _ _ _ so rx ry h k => ext_rel so rx ry h k)

/-! ### the empty dict -/
def xDct0 : XE := xC (.dict [])
def xDct0C : XE := fun _ S => newCell (.dct []) S
theorem de_dct0 {pos : Pos} : PE X (.Dict [] [] pos) (liftE X.mo W xDct0) := pe_dnewK.of fun σ H Q ⟨ρ, ι, S, en, so, h⟩ p hp => by
  have e := ext_new (o := .dK []) so hp
  exact h _ ι _ e (so_new so hp) (.dat (.dctK (rows := []) upd_same (fresh_not_live so hp) rfl .nil))
theorem de_dct0C {pos : Pos} : PE X (.Dict [] [] pos) (liftE X.mo W xDct0C) := pe_dnewK.of fun σ H Q ⟨ρ, ι, S, en, so, h⟩ p hp => by
  have hw : (Cell.dct []).under S.length = true := rfl
  have h : Post X.mo (W σ) ι S H (newCell (.dct []) S) Q := h
  unfold newCell at h
  rw [if_pos hw] at h
  have e := ext_cell (c := .dct []) (o := .dK []) so hp
  refine h _ _ _ e (so_cell so hp (.inl ⟨[], upd_same, rfl, .nil⟩) hw) (.loc ?_)
  show (ι.c ++ [p])[S.length]? = some p
  rw [← so.len, List.getElem?_append_right (Nat.le_refl _), Nat.sub_self]; rfl

/-! ### enumerate of a list -/
theorem wk_enum {M : Mo} {ι : Lay} {S : Sto} {H : Hp} {x : Val} {xs : List Val} {a : Addr} (r : RepV M ι S H x (.ref a)) (h : items S x = some xs) (ht : isT x = false) (so0 : StoreOk M ι S H) : Wk M (Ite M.K a) ⟨enumV xs, okSrc x xs⟩ ι S H := by
  have at_ : ∀ (ι' : Lay) (S' : Sto) (H' : Hp), Ext0 ι S H ι' S' H' → StoreOk M ι' S' H' → okSrc x xs S' → ∃ vs, RepVs M ι' S' H' xs vs ∧ SqL M.K H' a vs := fun ι' S' H' e so k => by
    obtain ⟨b, vs, e1, r1, _, _, h2⟩ := seq_at so (r.mono so0 e) (items_okSrc h k)
    cases e1
    exact ⟨vs, r1, h2 ht⟩
  constructor
  · intro ι' S' H' i y e so k hy
    obtain ⟨vs, r1, h2⟩ := at_ ι' S' H' e so k
    unfold enumV at hy
    rw [List.getElem?_mapIdx] at hy
    obtain ⟨z, hz, rfl⟩ := Option.map_eq_some_iff.mp hy
    obtain ⟨v, hv, rv⟩ := r1.get hz
    refine ⟨⟨vs, v, h2, hv⟩, ?_⟩
    rintro v' H2 ⟨T, w, rfl, hT, rfl, hall⟩
    have := hall vs h2
    rw [hv] at this
    cases this
    exact new_pair so (.dat (.int _)) rv hT
  · intro ι' S' H' e so k
    obtain ⟨vs, r1, h2⟩ := at_ ι' S' H' e so k
    refine ⟨vs, h2, ?_⟩
    show vs.length ≤ (enumV xs).length
    unfold enumV
    rw [List.length_mapIdx, r1.len]; exact Nat.le_refl _
/-- enumerate, of a list alone -/
def iEnumL (m : XE) : XI := fun ρ S => (m ρ S).bind fun x S1 => if isT x then .fail else match items S1 x with
  | some xs => .ok ⟨enumV xs, okSrc x xs⟩ S1
  | none => .fail
theorem di_enumL {elts : List Expr} {kk : Nat} {tpos p pos : Pos} (hg : Gl X "enumerate") (hm : X.mg "enumerate" = none) (h : PE X e (liftE X.mo W me)) (hs : starEach [e] X.env = [(false, eval e X.env)]) :
    PI X (.Tuple elts kk tpos) (.Call (.Name "enumerate" p) [e] [] pos) (liftI X.mo W (iEnumL me)) := by
  refine (pi_enum hg hm (da_cons h da_nil hs) hs).of fun σ H R ⟨ρ, ι, S, en, so, q⟩ => ⟨ρ, ι, S, en, so, ?_⟩
  unfold iEnumL at q
  unfold aCons aNil
  cases em : me ρ S with
  | fail => rw [em] at q; exact q.elim
  | raise e S1 => rw [em] at q; exact q
  | ok x S1 =>
    rw [em] at q
    simp only [Res.bind_ok] at q ⊢
    intro vs ι1 H1 e1 so1 r1
    cases r1 with
    | cons r rr =>
      cases rr
      cases ht : isT x with
      | true => rw [if_pos ht] at q; exact q.elim
      | false =>
        rw [if_neg (by rw [ht]; exact Bool.false_ne_true)] at q
        cases hx : items S1 x with
        | none => rw [hx] at q; exact q.elim
        | some xs =>
          rw [hx] at q
          obtain ⟨a, ws, rfl, r2, _, _, h3⟩ := seq_at so1 r hx
          exact ⟨a, ws, rfl, h3 ht, q _ ι1 H1 e1 so1 (wk_enum r hx ht so1)⟩
end

/-! ### t[::-1] -/
section
variable {prog : Program} {w : World} {A : Around} {E : Value → Shared → Prop} {s : Shared}
theorem pick_back (xs : Array Value) : ((List.range xs.size).filterMap fun (k : Nat) => xs[(((xs.size : Int) - 1) + (k : Int) * -1).toNat]?).toArray = xs.toList.reverse.toArray := by
  congr 1
  have key : ∀ n, n ≤ xs.size → ((List.range n).filterMap fun (k : Nat) => xs[(((xs.size : Int) - 1) + (k : Int) * -1).toNat]?) = xs.toList.reverse.take n := by
    intro n
    induction n with
    | zero => intro _; simp
    | succ n ih =>
      intro hn
      rw [List.range_succ, List.filterMap_append, ih (by omega), List.take_add_one]
      congr 1
      have h1 : (((xs.size : Int) - 1) + (n : Int) * -1).toNat = xs.size - 1 - n := by omega
      have h2 : xs.size - 1 - n < xs.size := by omega
      simp only [List.filterMap_cons, List.filterMap_nil, h1]
      rw [List.getElem?_reverse (by rw [Array.length_toList]; exact hn)]
      simp [h2]
  rw [key _ (Nat.le_refl _), List.take_of_length_le (by simp)]
theorem adjust_back (n : Nat) : Builtin.Slice.sliceAdjust none none (-1) (n : Int) = ((n : Int) - 1, -1) := by
  unfold Builtin.Slice.sliceAdjust
  simp
theorem places_back (n : Nat) : Builtin.Slice.slicePlaces ((n : Int) - 1) (-1) (-1) = n := by
  unfold Builtin.Slice.slicePlaces
  simp
  split <;> omega
theorem applied_back {sl : Addr} {vs : Value} {n : Nat} {Q : Int × Int × Nat → Shared → Prop} (hs : s.heap.IsSliceOf sl .none .none vs) (ps : IsPart vs (some (-1)))
    (h : Q ((n : Int) - 1, -1, n) s) : wpAny (model prog w) A (Builtin.Slice.sliceApplied (.ref sl) (pure (n : Int))) Q E s := by
  obtain ⟨os, at_, _, parts⟩ := id hs
  unfold Builtin.Slice.sliceApplied Builtin.Slice.sliceFields
  refine wpAny_bind (wpAny_bind (wpAny_field at_ parts (x := .none) rfl (wpAny_bind (wpAny_field at_ parts (x := .none) rfl (wpAny_bind (wpAny_field at_ parts (x := vs) rfl (wpAny_pure ?_)))))))
  refine wpAny_bind (HT.slicePart_ ps ?_)
  show wpAny _ _ (if ((-1 : Int) == 0) = true then _ else _) _ _ s
  rw [if_neg (by decide)]
  refine wpAny_bind (HT.slicePart_ .none (wpAny_bind (HT.slicePart_ .none (wpAny_bind (wpAny_pure ?_)))))
  show wpAny _ _ (match Builtin.Slice.sliceAdjust none none (-1) (n : Int) with | (lo, hi) => pure (lo, (-1 : Int), Builtin.Slice.slicePlaces lo hi (-1))) _ _ s
  rw [adjust_back]
  show wpAny _ _ (pure ((n : Int) - 1, (-1 : Int), Builtin.Slice.slicePlaces ((n : Int) - 1) (-1) (-1))) _ _ s
  rw [places_back]
  exact wpAny_pure h
theorem getItem_back {t sl : Addr} {items : Array Value} {vs : Value} {Q : Value → Shared → Prop} (ht : IsTup s.heap t items) (hs : s.heap.IsSliceOf sl .none .none vs) (ps : IsPart vs (some (-1)))
    (h : Q (.ref s.heap.objs.size) { s with heap := s.heap.push { cls := .type "tuple", data := .seq items.toList.reverse.toArray } }) (fits : items.size ≤ sizeLine) : wpAny (model prog w) A (getItem (.ref t) (.ref sl)) Q E s := by
  have room : sizeOk (.seq items.toList.reverse.toArray) := by
    show items.toList.reverse.toArray.size ≤ sizeLine
    simpa using fits
  obtain ⟨os, at_, cls, parts⟩ := id hs
  have isS : s.TypeIs (.ref sl) "slice" := ⟨os, at_, cls⟩
  unfold getItem
  try with_reducible refine wpAny_holding ?_
  first | refine wpAny_bind (wpAny_pure ?_) | skip
  refine wpAny_bind (wpAny_sequenceKey ht.typeIs (by decide) (wpAny_bind (wpAny_callSpecial?_slot (name := Str.ofString "__getitem__") ht.typeIs slot_tuple_getitem
    (wpAny_call_entry slot_tuple_getitem ht.typeIs entry_tuple_getitem ?_ (args_tuple_getitem _ _)))))
  show wpAny _ _ (Builtin.Tuple.tupleItemsOf (.ref t) >>= _) _ _ s
  refine wpAny_bind (tupleItemsOf_ ht (wpAny_bind (wpAny_typeOf isS ?_)))
  rw [if_pos (by decide)]
  refine wpAny_bind (applied_back hs ps ?_)
  have no : ¬ (((((items.size : Int) - 1) == 0) && (-1 : Int) == 1 && (items.size == items.size)) = true) := by simp
  show wpAny _ _ (if ((((items.size : Int) - 1) == 0) && (-1 : Int) == 1 && (items.size == items.size)) = true then _ else _) _ _ s
  rw [if_neg no, pick_back]
  first
    | exact wpAny_bind (m := Builtin.Tuple.tupleExact _) (wpAny_newObj_type (wpAny_pure ⟨_, rfl, wpAny_pure h⟩) room)
    | exact wpAny_bind (m := Builtin.Tuple.tupleExact _) (wpAny_newObj_type (wpAny_bind (wpAny_pure (wpAny_pure ⟨_, rfl, wpAny_pure h⟩))) room)
    | exact wpAny_bind (wpAny_bind (m := Builtin.Tuple.tupleExact _) (wpAny_newObj_type (wpAny_pure (wpAny_pure ⟨_, rfl, wpAny_pure h⟩)) room))
    | exact wpAny_bind (wpAny_bind (m := Builtin.Tuple.tupleExact _) (wpAny_newObj_type (wpAny_pure ⟨_, rfl, wpAny_pure h⟩) room))
end
def gRev (S : Sto) (x : Val) : Option Val := match view S x with
  | some (.list ds) => some (.dat (.list ds.reverse))
  | some (.tuple ds) => some (.dat (.tuple ds.reverse))
  | _ => none
theorem RepDs.snoc {M : Mo} {H : Hp} {bad : Addr → Prop} {ds : List PyData} {vs : List V} (r : RepDs M H bad ds vs) : RepDs M H bad ds.reverse vs.reverse := by
  induction ds generalizing vs with
  | nil => cases r; exact .nil
  | cons d ds ih =>
    cases r with
    | cons r t =>
      rw [List.reverse_cons, List.reverse_cons]
      exact (ih t).append (.cons r .nil)
def tRevT (K : PySem.W.Frag) (te : TE) : TE := fun σ H Q => te σ H fun x H1 => ∃ a xs, x = .ref a ∧ SqT K H1 a xs ∧ ∀ p, H1 p = none → Q (.ref p) (upd H1 p (.tup xs.reverse))
section
variable {X : Cx} {W : Sg → Wish} {e : Expr} {me : XE} {k : Nat} {p1 p2 p3 pos : Pos}
theorem pe_revT {te : TE} (he : PE X e te) : PE X (.Subscript e (.Slice none none (some (.UnaryOp .USub (.Constant (.int 1) k p1) p2)) p3) pos) (tRevT X.K te) := by
  refine ⟨fun pins s σ H Q I h => Subscript_ (thn (he.run pins s σ H _ I h) fun v s1 ⟨x, H1, I1, r1, a, xs, ex, hx, q⟩ => ?_)⟩
  subst ex
  cases r1
  have step : PO X (some (.UnaryOp .USub (.Constant (.int 1) k p1) p2)) (tPart (tUn (rU fun i => .int (-i)) (tC (.int 1)))) := po_some (pe_un un_neg pe_int)
  refine wpAny_Slice (thn (po_none.run pins s1 σ H1 (fun o H2 => o = none ∧ H2 = H1) I1 ⟨rfl, rfl⟩) fun vl s2 ⟨l, H2, I2, pl, el, e2⟩ => ?_)
  subst el e2
  refine thn (po_none.run pins s2 σ H2 (fun o H3 => o = none ∧ H3 = H2) I2 ⟨rfl, rfl⟩) fun vu s3 ⟨u, H3, I3, pu, eu, e3⟩ => ?_
  subst eu e3
  refine thn (step.run pins s3 σ H3 (fun o H4 => o = some (-1) ∧ H4 = H3) I3 ⟨1, rfl, -1, rfl, rfl, rfl⟩) fun vs s4 ⟨o, H4, I4, ps, eo, e4⟩ => ?_
  subst eo e4
  cases pl
  cases pu
  have I5 : Inv X pins σ H4 { s4 with heap := s4.heap.push { cls := .type "slice", data := .fields #[.none, .none, vs] } } := I4.kept (t' := s4.toks) fun b ob q => Heap.get?_push_of_some _ q
  obtain ⟨its, r, ht, hz⟩ := I5.tuple hx
  have cnt := r.length
  show wpAny (model X.prog X.w) X.A (subscriptTail e (.Slice none none (some (.UnaryOp .USub (.Constant (.int 1) k p1) p2)) p3) (.ref a) (.ref s4.heap.objs.size)) (EP X pins σ Q) X.xe { s4 with heap := s4.heap.push { cls := .type "slice", data := .fields #[.none, .none, vs] } }
  refine tail_any (ops := [.ref a, .ref s4.heap.objs.size]) ht.typeIs (slot_tuple_getitem.lookup) ?_ (by with_unfolding_all rfl)
  refine getItem_back ht (Heap.IsSliceOf.new _ .none .none vs) ps ?_ (by rw [List.size_toArray]; omega)
  refine ⟨.ref _, _, I5.laid (t' := s4.toks) (o := .tup xs.reverse) (fun b ob q => Heap.get?_push_of_some _ q) (Nat.le_refl _) ⟨by rw [List.length_reverse]; exact hz, _, r.reverse, IsTup.new _ _⟩, rfl, q _ (I5.hok.fresh (Nat.le_refl _))⟩
theorem de_rev (he : PE X e (liftE X.mo W me)) : PE X (.Subscript e (.Slice none none (some (.UnaryOp .USub (.Constant (.int 1) k p1) p2)) p3) pos) (liftE X.mo W (xUn gRev me)) := by
  refine ⟨fun pins s σ H Q I ⟨ρ, ι, S, en, so, h⟩ => ?_⟩
  unfold xUn at h
  cases em : me ρ S with
  | fail => rw [em] at h; exact h.elim
  | raise x S1 =>
    rw [em] at h
    refine (pe_revT he).run pins s σ H Q I ⟨ρ, ι, S, en, so, ?_⟩
    rw [em]; exact h
  | ok x S1 =>
    rw [em] at h
    simp only [Res.bind_ok] at h
    cases q : view S1 x with
    | none => unfold gRev at h; rw [q] at h; exact h.elim
    | some d =>
      cases d with
      | list ds =>
        unfold gRev at h
        rw [q] at h
        refine (pe_revL he).run pins s σ H Q I ⟨ρ, ι, S, en, so, ?_⟩
        rw [em]
        intro v ι1 H1 e1 so1 r1
        obtain ⟨a, vs, rfl, h1, h2, h3⟩ := (r1.rd so1 q).list
        refine ⟨a, vs, rfl, SqL.of h1, fun p hp => ?_⟩
        obtain ⟨e2, so2, r2⟩ := new_lst so1 h3.snoc (by simpa using h2) hp
        exact (Post.from e1 h) _ _ _ e2 so2 r2
      | tuple ds =>
        unfold gRev at h
        rw [q] at h
        refine (pe_revT he).run pins s σ H Q I ⟨ρ, ι, S, en, so, ?_⟩
        rw [em]
        intro v ι1 H1 e1 so1 r1
        obtain ⟨a, vs, rfl, h1, h2, h3⟩ := (r1.rd so1 q).tup
        refine ⟨a, vs, rfl, h1, fun p hp => ?_⟩
        have e2 := ext_new (o := .tup vs.reverse) so1 hp
        exact (Post.from e1 h) _ _ _ e2 (so_new so1 hp) (.dat (.tup (SqT.of upd_same) (by simpa using h2) (h3.snoc.mono so1 e2.toExt0)))
      | _ => unfold gRev at h; rw [q] at h; exact h.elim
end
end NB
end
section
set_option Elab.async false
set_option linter.all false
set_option maxRecDepth 100000
set_option maxHeartbeats 1000000
/-! Core 13b: sorted(set(..)), len(set(..)) of numbers. -/
namespace NB
open PySem PySem.Spec PyProof.Rows L2
open Classical

def insI (k : Int) : List Int → List Int
  | [] => [k]
  | h :: t => if k < h then k :: h :: t else if h < k then h :: insI k t else h :: t
/-- the numbers, each once, from the least on -/
def sortI (ns : List Int) : List Int := ns.foldr insI []
theorem mem_insI {k x : Int} : ∀ {l : List Int}, x ∈ insI k l ↔ x = k ∨ x ∈ l
  | [] => by simp [insI]
  | h :: t => by
    unfold insI
    split
    · simp
    · split
      · rw [List.mem_cons, mem_insI, List.mem_cons]
        constructor
        · rintro (a | a | a) <;> simp [a]
        · rintro (a | a | a) <;> simp [a]
      · have e : h = k := by omega
        subst e
        simp
theorem pw_insI {k : Int} : ∀ {l : List Int}, l.Pairwise (· < ·) → (insI k l).Pairwise (· < ·)
  | [], _ => by simp [insI]
  | h :: t, p => by
    rw [List.pairwise_cons] at p
    unfold insI
    split
    · rename_i q
      rw [List.pairwise_cons]
      exact ⟨fun x hx => by
        rcases List.mem_cons.mp hx with e | e
        · omega
        · have := p.1 x e; omega, List.pairwise_cons.mpr p⟩
    · split
      · rename_i q
        rw [List.pairwise_cons]
        exact ⟨fun x hx => by
          rcases mem_insI.mp hx with e | e
          · omega
          · exact p.1 x e, pw_insI p.2⟩
      · exact List.pairwise_cons.mpr p
theorem mem_sortI {x : Int} : ∀ {ns : List Int}, x ∈ sortI ns ↔ x ∈ ns
  | [] => by simp [sortI]
  | n :: ns => by
    show x ∈ insI n (sortI ns) ↔ _
    rw [mem_insI, mem_sortI, List.mem_cons]
theorem pw_sortI : ∀ ns : List Int, (sortI ns).Pairwise (· < ·)
  | [] => List.Pairwise.nil
  | n :: ns => pw_insI (pw_sortI ns)
theorem pw_uniq : ∀ {l m : List Int}, l.Pairwise (· < ·) → m.Pairwise (· < ·) → (∀ x, x ∈ l ↔ x ∈ m) → l = m
  | [], [], _, _, _ => rfl
  | [], y :: m, _, _, h => absurd ((h y).mpr List.mem_cons_self) (by simp)
  | x :: l, [], _, _, h => absurd ((h x).mp List.mem_cons_self) (by simp)
  | x :: l, y :: m, p, q, h => by
    rw [List.pairwise_cons] at p q
    have e : x = y := by
      have h1 := (h x).mp List.mem_cons_self
      have h2 := (h y).mpr List.mem_cons_self
      rcases List.mem_cons.mp h1 with a | a
      · exact a
      · rcases List.mem_cons.mp h2 with b | b
        · exact b.symm
        · have := q.1 x a; have := p.1 y b; omega
    subst e
    rw [pw_uniq p.2 q.2 fun z => ?_]
    constructor
    · intro hz
      rcases List.mem_cons.mp ((h z).mp (List.mem_cons_of_mem _ hz)) with a | a
      · have := p.1 z hz; omega
      · exact a
    · intro hz
      rcases List.mem_cons.mp ((h z).mpr (List.mem_cons_of_mem _ hz)) with a | a
      · have := q.1 z hz; omega
      · exact a
theorem nd_pw {l : List Int} (p : l.Pairwise (· < ·)) : l.Nodup := p.imp fun h e => by omega
theorem len_sortI {ns l : List Int} (nd : l.Nodup) (h : ∀ x, x ∈ l ↔ x ∈ ns) : l.length = (sortI ns).length :=
  ((List.perm_ext_iff_of_nodup nd (nd_pw (pw_sortI ns))).mpr fun x => (h x).trans mem_sortI.symm).length_eq
theorem firstMet_nd (f : Nat → Int) : ∀ i, (PyProof.Rows.firstMet f i).Nodup
  | 0 => List.nodup_nil
  | i + 1 => by
    rw [firstMet_succ]
    unfold step_dedup
    have ih := firstMet_nd f i
    by_cases h : (PyProof.Rows.firstMet f i).any (· == f i) = true
    · rw [if_pos h]; exact ih
    · rw [if_neg h, List.nodup_append]
      refine ⟨ih, by simp, fun a ha b hb e => h (List.any_eq_true.mpr ⟨a, ha, ?_⟩)⟩
      rw [List.mem_singleton] at hb
      subst hb e
      simp
theorem range_getD (ns : List Int) : (List.range ns.length).map (fun i => ns.getD i 0) = ns := by
  apply List.ext_getElem
  · simp
  · intro i h1 h2
    simp [h2]
theorem firstMet_len (ns : List Int) : (PyProof.Rows.firstMet (fun i => ns.getD i 0) ns.length).length = (sortI ns).length := by
  refine len_sortI (firstMet_nd _ _) fun x => ?_
  have h := firstMet_any (fun i => ns.getD i 0) ns.length x
  rw [range_getD] at h
  have a : ∀ l : List Int, l.any (· == x) = true ↔ x ∈ l := fun l => by
    rw [List.any_eq_true]
    exact ⟨fun ⟨y, hy, e⟩ => by rw [← eq_of_beq e]; exact hy, fun hx => ⟨x, hx, by simp⟩⟩
  rw [← a, h, a]
/-- sorted(set(x)): x a tuple of numbers -/
def gSortSet (S : Sto) (x : Val) : Option Val := match view S x with
  | some (.tuple ds) => (intsOf ds).bind fun ns => if ns.length < 64 then some (.dat (.list ((sortI ns).map .int))) else none
  | _ => none
/-- len(set(x)): x a list of numbers -/
def gLenSet (S : Sto) (x : Val) : Option Val := (lData S x).bind fun ds => (intsOf ds).bind fun ns => if ns.length ≤ 4000 then some (.dat (.int ((sortI ns).length : Nat))) else none
section
variable {X : Cx} {W : Sg → Wish} {a : Expr} {ma : XE} {p p2 q pos : Pos}
theorem de_sortSet (hc : X.calm = true) (hg : Gl X "sorted") (hm : X.mg "sorted" = none) (hg2 : Gl X "set") (hm2 : X.mg "set" = none) (ha : PE X a (liftE X.mo W ma)) (na : starEach [a] X.env = (false, eval a X.env) :: starEach [] X.env) :
    PE X (.Call (.Name "sorted" p) [.Call (.Name "set" p2) [a] [] q] [] pos) (liftE X.mo W (xUn gSortSet ma)) := by
  refine ⟨fun pins s σ H Q I ⟨ρ, ι, S, en, so, h⟩ => ?_⟩
  refine Call_ (ld_blt I hg hm boot_sorted (PyProof.Rows.callWith_builtin1 (PyProof.Rows.args_cons ?_ rfl) rfl rfl))
  refine Call_ (ld_blt I hg2 hm2 PyProof.Rows.boot_set (PyProof.Rows.callWith_type1 (PyProof.Rows.args_cons (thn (ha.run pins s σ H _ I ⟨ρ, ι, S, en, so, Post.bind h⟩) fun v s1 ⟨x, H1, I1, r1, y, ι1, S1, e1, so1, ry, h1⟩ => PyProof.Rows.args_nil ?_) na) na rfl))
  obtain ⟨z, ez, k⟩ := h1.of
  unfold gSortSet at ez
  split at ez
  · rename_i ds hv
    obtain ⟨ns, hn, ez⟩ := opt_bind_some ez
    by_cases hl : ns.length < 64
    case neg => rw [if_neg hl] at ez; cases ez
    rw [if_pos hl] at ez
    cases ez
    obtain ⟨t, ws, rfl, g1, g2, g3⟩ := (ry.rd so1 hv).tup
    rw [intsOf_eq hn] at g3
    have e := ints_rep g3
    subst e
    cases r1
    obtain ⟨its, rv, ht, hz⟩ := I1.tuple g1
    refine call_set_tupI ns (I1.ok.hd hc) (show s1.heap.IsTuple t its.toArray from ht) (by simpa using RZ.intsAre_vals rv) (by unfold scanBound; omega) fun h' tk c R hcl keep => PyProof.Rows.args_nil ?_
    have hD : H1 s1.heap.objs.size = none := I1.hok.fresh (Nat.le_refl _)
    have I2 : Inv X pins σ (upd H1 s1.heap.objs.size (SetO X.w s1.heap.objs.size (fun j => decide (j ∈ ns)) c)) { s1 with heap := h', toks := tk } := I1.laid (t' := tk) keep (Nat.le_refl _) (setO_new R)
    refine cr_sortedSet hc pins _ σ _ [.ref s1.heap.objs.size] [.ref s1.heap.objs.size] Q I2 (.cons rfl .nil) ⟨_, _, c, rfl, upd_same, by omega, fun ms r h1 h2 h3 hr => ?_⟩
    have em : ms = sortI ns := pw_uniq h1 (pw_sortI ns) fun x => by rw [h2 x, mem_sortI]; simp
    subst em
    have e2 := ext_new (o := SetO X.w s1.heap.objs.size (fun j => decide (j ∈ ns)) c) so1 hD
    have so2 := so_new (o := SetO X.w s1.heap.objs.size (fun j => decide (j ∈ ns)) c) so1 hD
    obtain ⟨e3, so3, r3⟩ := new_lst so2 (RepDs.ints (sortI ns)) (by
      rw [List.length_map, ← len_sortI (ns := ns) (nd_pw (pw_sortI ns)) fun x => mem_sortI]
      have : (sortI ns).length = c := h3
      rw [this, sizeLine_eq]; omega) hr
    exact k _ ι1 _ (e2.trans e3) so3 r3
  · cases ez
theorem de_lenSet (hc : X.calm = true) (hg : Gl X "len") (hm : X.mg "len" = none) (hg2 : Gl X "set") (hm2 : X.mg "set" = none) (ha : PE X a (liftE X.mo W ma)) (na : starEach [a] X.env = (false, eval a X.env) :: starEach [] X.env) :
    PE X (.Call (.Name "len" p) [.Call (.Name "set" p2) [a] [] q] [] pos) (liftE X.mo W (xUn gLenSet ma)) := by
  refine ⟨fun pins s σ H Q I ⟨ρ, ι, S, en, so, h⟩ => ?_⟩
  refine Call_ (ld_blt I hg hm boot_len (PyProof.Rows.callWith_builtin1 (PyProof.Rows.args_cons ?_ rfl) rfl rfl))
  refine Call_ (ld_blt I hg2 hm2 PyProof.Rows.boot_set (PyProof.Rows.callWith_type1 (PyProof.Rows.args_cons (thn (ha.run pins s σ H _ I ⟨ρ, ι, S, en, so, Post.bind h⟩) fun v s1 ⟨x, H1, I1, r1, y, ι1, S1, e1, so1, ry, h1⟩ => PyProof.Rows.args_nil ?_) na) na rfl))
  obtain ⟨z, ez, k⟩ := h1.of
  obtain ⟨ds, hv, ez⟩ := opt_bind_some ez
  obtain ⟨ns, hn, ez⟩ := opt_bind_some ez
  by_cases hl : ns.length ≤ 4000
  case neg => rw [if_neg hl] at ez; cases ez
  rw [if_pos hl] at ez
  cases ez
  obtain ⟨t, ws, rfl, g1, g2, g3⟩ := lData_rep so1 ry hv
  rw [intsOf_eq hn] at g3
  have e := ints_rep g3
  subst e
  cases r1
  obtain ⟨its, rv, pl, hz⟩ := I1.list (SqL.of (K := X.K) g1)
  have cnt : its.toArray.size = ns.length := by rw [List.size_toArray, ← rv.length, List.length_map]
  refine call_set_list (I1.ok.hd hc) pl.isList (by simpa using RZ.intsAre_vals rv) (by rw [cnt]; unfold scanBound; omega) fun h' tk hS keep => PyProof.Rows.args_nil ?_
  rw [cnt] at hS
  obtain ⟨o, es, ep, tb, ho, hex, hd, _, _, _, hf, many⟩ := hS
  have hle := firstMet_length_le (fun i => ns.getD i 0) ns.length
  have I2 : Inv X pins σ H1 { s1 with heap := h', toks := tk } := I1.kept fun b o e => keep b o (Heap.lt_size e) e
  refine call_len_set ho hex hd hf (by rw [many]; omega) ⟨.int ((sortI ns).length : Nat), H1, I2.tok _, ⟨_, by rw [many, firstMet_len]⟩, k _ ι1 H1 Ext.refl so1 (.dat (.int _))⟩
end
end NB
end
section
set_option Elab.async false
set_option linter.all false
set_option maxRecDepth 100000
set_option maxHeartbeats 1000000
/-! Core 13c: sorted(a list of data). -/
namespace NB
open PySem PySem.Spec PyProof.Rows L2
open Classical

def tup1 : PyData → Bool
  | .tuple (_ :: _) => true
  | _ => false
def noTup : PyData → Bool
  | .tuple _ => false
  | .none => false
  | _ => true
def sortOk (ds : List PyData) : Bool := ds.all (fun d => ds.all (fun e => PySem.W.alike d e)) && ((ds.all tup1 || ds.all noTup) && ds.all (fun d => d.canLay0 && decide (d.depth ≤ 60)))
def leD : PyData → PyData → Bool := PySem.W.dataLe false fun d => d
def sortD (ds : List PyData) : List PyData := ds.mergeSort leD
def gSorted (S : Sto) (x : Val) : Option Val := (lData S x).bind fun ds => if sortOk ds then some (.dat (.list (sortD ds))) else none
theorem sortOk_ok {ds : List PyData} (h : sortOk ds = true) : PySem.W.AllAlike ds ∧ PySem.W.Sortable ds ∧ ∀ d ∈ ds, d.canLay0 = true ∧ d.depth ≤ 60 := by
  unfold sortOk at h
  simp only [Bool.and_eq_true, Bool.or_eq_true, List.all_eq_true, decide_eq_true_eq] at h
  refine ⟨fun d hd e he => h.1 d hd e he, ?_, h.2.2⟩
  rcases h.2.1 with k | k
  · refine .inl fun d hd => ?_
    have := k d hd
    cases d with
    | tuple xs =>
      cases xs with
      | nil => simp [tup1] at this
      | cons x r => exact ⟨x, r, rfl⟩
    | _ => simp [tup1] at this
  · refine .inr fun d hd => ?_
    have := k d hd
    cases d <;> simp_all [noTup]
section
variable {X : Cx}
theorem pairs_each {pins : List (Addr × Obj)} {σ : L2.St} {H : Hp} {s : Shared} {bad : Addr → Prop} (I : Inv X pins σ H s) : ∀ {ds : List PyData} {vs : List V} {us : List Value}, RepDs X.mo H bad ds vs → Vals vs us → (∀ d ∈ ds, d.canLay0 = true) →
    PySem.W.EachIs (fun (u : Value) (b : PyData × V) => RelV b.2 u) us (ds.zip vs) ∧ PySem.W.EachIs (fun (u : Value) (b : PyData × V) => ∃ as, Reads s.heap u b.1 as) us (ds.zip vs)
  | [], [], [], .nil, .nil, _ => ⟨.nil, .nil⟩
  | d :: ds, v :: vs, u :: us, .cons r t, .cons q qs, h => by
    obtain ⟨i1, i2⟩ := pairs_each I t qs fun e he => h e (List.mem_cons_of_mem _ he)
    exact ⟨.cons q i1, .cons (RepD.reads I d v u r.weak q (h d List.mem_cons_self)) i2⟩
theorem zip_fst : ∀ {ds : List PyData} {vs : List V}, ds.length = vs.length → (ds.zip vs).map (·.1) = ds
  | [], [], _ => rfl
  | d :: ds, v :: vs, h => by
    rw [List.zip_cons_cons, List.map_cons, zip_fst (by simpa using h)]
  | [], _ :: _, h => by simp at h
  | _ :: _, [], h => by simp at h
theorem repds_pairs {M : Mo} {H : Hp} {bad : Addr → Prop} : ∀ {bs : List (PyData × V)}, (∀ b ∈ bs, RepD M H bad b.1 b.2) → RepDs M H bad (bs.map (·.1)) (bs.map (·.2))
  | [], _ => .nil
  | b :: bs, h => .cons (h b List.mem_cons_self) (repds_pairs fun c hc => h c (List.mem_cons_of_mem _ hc))
theorem zip_rep {M : Mo} {H : Hp} {bad : Addr → Prop} : ∀ {ds : List PyData} {vs : List V}, RepDs M H bad ds vs → ∀ b ∈ ds.zip vs, RepD M H bad b.1 b.2
  | _, _, .nil, b, hb => by cases hb
  | _, _, .cons r t, b, hb => by
    rcases List.mem_cons.mp hb with e | e
    · rw [e]; exact r
    · exact zip_rep t b e
theorem each_vals : ∀ {us : List Value} {bs : List (PyData × V)}, PySem.W.EachIs (fun (u : Value) (b : PyData × V) => RelV b.2 u) us bs → Vals (bs.map (·.2)) us
  | _, _, .nil => .nil
  | _, _, .cons r t => .cons r (each_vals t)
theorem cr_sortedD {k : Nat} (hr : Room k X.A) : CallR X (.builtin "sorted") (rC1 X.mo gSorted) := by
  intro pins s σ H vs us Q I r ⟨ι, S, x, v, z, ev, so, rx, hz, q⟩
  subst ev
  obtain ⟨ds, hd, hz⟩ := opt_bind_some hz
  by_cases hok : sortOk ds = true
  case neg => rw [if_neg hok] at hz; cases hz
  rw [if_pos hok] at hz
  cases hz
  obtain ⟨al, so1, dp⟩ := sortOk_ok hok
  obtain ⟨a, ws, rfl, h1, h2, h3⟩ := lData_rep so rx hd
  obtain ⟨u, rfl, ru⟩ := vals1 r
  cases (show u = Value.ref a from ru)
  obtain ⟨its, rv, pl, hz⟩ := I.list (SqL.of (K := X.K) h1)
  obtain ⟨e1, e2⟩ := pairs_each I h3 rv fun d hd => (dp d hd).1
  have ef := zip_fst h3.len
  have lz : (ds.zip ws).length = ds.length := by rw [List.length_zip, h3.len, Nat.min_self]
  refine PySem.W.sorted_data (enc := fun b : PyData × V => b.1) pl.isList e1 e2 (by rw [ef]; exact al) (by rw [ef]; exact so1) (by rw [lz]; exact h2) (fun b hb => ?_) fun out hl eo => ?_
  · have hm : b.1 ∈ ds := by rw [← ef]; exact List.mem_map_of_mem hb
    have := (dp b.1 hm).2
    have := hr.un
    omega
  · obtain ⟨ep, he'⟩ := PyProof.Rows.sortedAll_at s.heap its (List.toArray out)
    have em : ((ds.zip ws).mergeSort (PySem.W.dataLe false fun b : PyData × V => b.1)).map (·.1) = sortD ds := by
      have := List.map_mergeSort (r := PySem.W.dataLe false fun b : PyData × V => b.1) (s := leD) (f := fun b : PyData × V => b.1) (l := ds.zip ws) fun _ _ _ _ => rfl
      rw [this, ef]; rfl
    have rr : RepDs X.mo H (live ι S) (sortD ds) (((ds.zip ws).mergeSort (PySem.W.dataLe false fun b : PyData × V => b.1)).map (·.2)) := by
      rw [← em]
      exact repds_pairs fun b hb => zip_rep h3 b ((List.mergeSort_perm _ _).mem_iff.mp hb)
    have hzz : (sortD ds).length ≤ sizeLine := by unfold sortD; rw [List.length_mergeSort]; exact h2
    have hp : H (s.heap.objs.size + 1) = none := I.hok.fresh (Nat.le_succ _)
    obtain ⟨e3, so3, r3⟩ := new_lst so rr hzz hp
    exact ⟨.ref _, _, I.laid (t' := s.toks) (o := .lst (((ds.zip ws).mergeSort (PySem.W.dataLe false fun b : PyData × V => b.1)).map (·.2))) (fun _ _ => PyProof.Rows.sortedAll_old) (Nat.le_succ _) ⟨by rw [← rr.len]; exact hzz, out, ep, each_vals eo, he'⟩, rfl, q _ _ e3 so3 r3⟩
end
end NB
end
section
set_option Elab.async false
set_option linter.all false
set_option maxRecDepth 100000
set_option maxHeartbeats 1000000
/-! Core 13k: sets of keys as values: made of a list or a tuple, sorted. -/
namespace NB
open PySem PySem.Spec PyProof.Rows L2
open Classical

mutual
theorem kOk_key : ∀ d : PyData, kOk d = true → ∃ k, nkey d = some k ∧ nTxt k = true ∧ k.depth ≤ d.depth
  | .none, _ => ⟨.none, rfl, rfl, Nat.le_refl _⟩
  | .int i, _ => ⟨.num i, rfl, rfl, Nat.le_refl _⟩
  | .tuple ds, h => by
    obtain ⟨ks, e, t, dp⟩ := kOks_keys ds (by simpa [kOk] using h)
    refine ⟨.tup ks, by simp [nkey, e], by simpa [nTxt] using t, ?_⟩
    simp only [NestedKey.depth, PyData.depth]
    omega
  | .bool _, h => by simp [kOk] at h
  | .str _, h => by simp [kOk] at h
  | .list _, h => by simp [kOk] at h
  | .dict _, h => by simp [kOk] at h
theorem kOks_keys : ∀ ds : List PyData, kOks ds = true → ∃ ks, nkeys ds = some ks ∧ nTxts ks = true ∧ NestedKey.depthAll ks ≤ PyData.depthAll ds
  | [], _ => ⟨[], rfl, rfl, Nat.le_refl _⟩
  | d :: ds, h => by
    have h' : kOk d = true ∧ kOks ds = true := by simpa [kOks] using h
    obtain ⟨k, e, t, dp⟩ := kOk_key d h'.1
    obtain ⟨ks, es, ts, dps⟩ := kOks_keys ds h'.2
    refine ⟨k :: ks, by simp [nkeys, e, es], by simp [nTxts, t, ts], ?_⟩
    simp only [NestedKey.depthAll, PyData.depthAll]
    omega
end
mutual
theorem nkey_inj : ∀ (d e : PyData), kOk d = true → kOk e = true → nkey d = nkey e → d = e
  | .none, e, _, he, h => by
    cases e <;> simp [nkey, kOk] at h he ⊢
    rename_i ds
    cases q : nkeys ds <;> simp [q] at h
  | .int i, e, _, he, h => by
    cases e <;> simp [nkey, kOk] at h he ⊢
    · exact h
    · rename_i ds
      cases q : nkeys ds <;> simp [q] at h
  | .tuple ds, e, hd, he, h => by
    have hd' : kOks ds = true := by simpa [kOk] using hd
    obtain ⟨ks, e1, _, _⟩ := kOks_keys ds hd'
    cases e with
    | tuple es =>
      have he' : kOks es = true := by simpa [kOk] using he
      have h' : nkeys ds = nkeys es := by
        obtain ⟨ls, e2, _, _⟩ := kOks_keys es he'
        simp [nkey, e1, e2] at h
        rw [e1, e2, h]
      rw [nkeys_inj ds es hd' he' h']
    | none => simp [nkey, e1] at h
    | int j => simp [nkey, e1] at h
    | bool _ => simp [kOk] at he
    | str _ => simp [kOk] at he
    | list _ => simp [kOk] at he
    | dict _ => simp [kOk] at he
  | .bool _, _, h, _, _ => by simp [kOk] at h
  | .str _, _, h, _, _ => by simp [kOk] at h
  | .list _, _, h, _, _ => by simp [kOk] at h
  | .dict _, _, h, _, _ => by simp [kOk] at h
theorem nkeys_inj : ∀ (ds es : List PyData), kOks ds = true → kOks es = true → nkeys ds = nkeys es → ds = es
  | [], [], _, _, _ => rfl
  | [], e :: es, _, he, h => by
    obtain ⟨ks, e2, _, _⟩ := kOks_keys _ he
    have he' : kOk e = true ∧ kOks es = true := by simpa [kOks] using he
    obtain ⟨k, q, _, _⟩ := kOk_key e he'.1
    obtain ⟨l, ql, _, _⟩ := kOks_keys es he'.2
    simp [nkeys, q, ql] at h
  | d :: ds, [], hd, _, h => by
    have hd' : kOk d = true ∧ kOks ds = true := by simpa [kOks] using hd
    obtain ⟨k, q, _, _⟩ := kOk_key d hd'.1
    obtain ⟨l, ql, _, _⟩ := kOks_keys ds hd'.2
    simp [nkeys, q, ql] at h
  | d :: ds, e :: es, hd, he, h => by
    have hd' : kOk d = true ∧ kOks ds = true := by simpa [kOks] using hd
    have he' : kOk e = true ∧ kOks es = true := by simpa [kOks] using he
    obtain ⟨k, q, _, _⟩ := kOk_key d hd'.1
    obtain ⟨l, ql, _, _⟩ := kOks_keys ds hd'.2
    obtain ⟨k2, q2, _, _⟩ := kOk_key e he'.1
    obtain ⟨l2, ql2, _, _⟩ := kOks_keys es he'.2
    simp [nkeys, q, ql, q2, ql2] at h
    rw [nkey_inj d e hd'.1 he'.1 (by rw [q, q2, h.1]), nkeys_inj ds es hd'.2 he'.2 (by rw [ql, ql2, h.2])]
end
mutual
theorem kOk_eqv : ∀ (d e : PyData), kOk d = true → kOk e = true → PyData.eqv d e = true → d = e
  | .none, e, _, he, h => by cases e <;> simp [PyData.eqv, kOk] at h he ⊢
  | .int i, e, _, he, h => by cases e <;> simp [PyData.eqv, kOk] at h he ⊢; exact h
  | .tuple ds, e, hd, he, h => by
    cases e with
    | tuple es =>
      rw [kOks_eqv ds es (by simpa [kOk] using hd) (by simpa [kOk] using he) (by simpa [PyData.eqv] using h)]
    | none => simp [PyData.eqv] at h
    | int j => simp [PyData.eqv] at h
    | bool _ => simp [kOk] at he
    | str _ => simp [kOk] at he
    | list _ => simp [kOk] at he
    | dict _ => simp [kOk] at he
  | .bool _, _, h, _, _ => by simp [kOk] at h
  | .str _, _, h, _, _ => by simp [kOk] at h
  | .list _, _, h, _, _ => by simp [kOk] at h
  | .dict _, _, h, _, _ => by simp [kOk] at h
theorem kOks_eqv : ∀ (ds es : List PyData), kOks ds = true → kOks es = true → PyData.eqvAll ds es = true → ds = es
  | [], [], _, _, _ => rfl
  | [], e :: es, _, _, h => by simp [PyData.eqvAll] at h
  | d :: ds, [], _, _, h => by simp [PyData.eqvAll] at h
  | d :: ds, e :: es, hd, he, h => by
    have hd' : kOk d = true ∧ kOks ds = true := by simpa [kOks] using hd
    have he' : kOk e = true ∧ kOks es = true := by simpa [kOks] using he
    have h' : PyData.eqv d e = true ∧ PyData.eqvAll ds es = true := by simpa [PyData.eqvAll] using h
    rw [kOk_eqv d e hd'.1 he'.1 h'.1, kOks_eqv ds es hd'.2 he'.2 h'.2]
end
mutual
theorem kOk_refl : ∀ d : PyData, kOk d = true → PyData.eqv d d = true
  | .none, _ => by simp [PyData.eqv]
  | .int i, _ => by simp [PyData.eqv]
  | .tuple ds, h => by
    simp only [PyData.eqv]
    exact kOks_refl ds (by simpa [kOk] using h)
  | .bool _, h => by simp [kOk] at h
  | .str _, h => by simp [kOk] at h
  | .list _, h => by simp [kOk] at h
  | .dict _, h => by simp [kOk] at h
theorem kOks_refl : ∀ ds : List PyData, kOks ds = true → PyData.eqvAll ds ds = true
  | [], _ => by simp [PyData.eqvAll]
  | d :: ds, h => by
    have h' : kOk d = true ∧ kOks ds = true := by simpa [kOks] using h
    simp only [PyData.eqvAll, kOk_refl d h'.1, kOks_refl ds h'.2, Bool.and_self]
end
theorem keyOk_k {d : PyData} (h : keyOk d = true) : kOk d = true := by
  unfold keyOk at h
  rw [Bool.and_eq_true, Bool.and_eq_true] at h
  exact h.2.1
theorem keyOk_depth {d : PyData} (h : keyOk d = true) : d.depth ≤ 8 := by
  unfold keyOk at h
  rw [Bool.and_eq_true, Bool.and_eq_true] at h
  exact of_decide_eq_true h.2.2
theorem keyOk_tup {d : PyData} (h : keyOk d = true) : ∃ ds, d = .tuple ds := by
  unfold keyOk at h
  cases d with
  | tuple ds => exact ⟨ds, rfl⟩
  | _ => simp at h
/-! ### data whose signs tell them apart -/
theorem toks_inj {x y : PyData} (a : PySem.W.alike x y = true) (hx : kOk x = true) (hy : kOk y = true) (h : PySem.W.keyToks x = PySem.W.keyToks y) : x = y := by
  cases e : PyData.eqv x y with
  | true => exact kOk_eqv x y hx hy e
  | false =>
    have q := (PySem.W.toks_eqv x y a).2 e
    have q1 := q [] [.inl 0]
    rw [h, PySem.W.lex_pre] at q1
    have q2 := q [] []
    rw [h, PySem.W.lex_pre] at q2
    rw [← q2] at q1
    exact absurd q1 (by decide)
/-- each datum once -/
def dedupD : List PyData → List PyData
  | [] => []
  | d :: ds => if (dedupD ds).any (fun e => PyData.eqv e d) then dedupD ds else d :: dedupD ds
theorem mem_dedupD {ds : List PyData} (h : ∀ d ∈ ds, kOk d = true) {x : PyData} : x ∈ dedupD ds ↔ x ∈ ds := by
  induction ds with
  | nil => exact Iff.rfl
  | cons d ds ih =>
    have ih := ih fun e he => h e (List.mem_cons_of_mem _ he)
    unfold dedupD
    split
    · rename_i q
      rw [ih, List.mem_cons]
      refine ⟨.inr, fun z => z.elim (fun z => ?_) id⟩
      obtain ⟨e, he, ee⟩ := List.any_eq_true.mp q
      have hm : e ∈ ds := by
        have : e ∈ dedupD ds := he
        have sub : ∀ l : List PyData, ∀ e ∈ dedupD l, e ∈ l := by
          intro l
          induction l with
          | nil => exact fun e he => he
          | cons a l il =>
            intro e he
            unfold dedupD at he
            split at he
            · exact List.mem_cons_of_mem _ (il e he)
            · rcases List.mem_cons.mp he with r | r
              · rw [r]; exact List.mem_cons_self
              · exact List.mem_cons_of_mem _ (il e r)
        exact sub _ _ this
      rw [z, ← kOk_eqv e d (h e (List.mem_cons_of_mem _ hm)) (h d List.mem_cons_self) ee]
      exact hm
    · rw [List.mem_cons, List.mem_cons, ih]
theorem nodup_dedupD {ds : List PyData} (h : ∀ d ∈ ds, kOk d = true) : (dedupD ds).Nodup := by
  induction ds with
  | nil => exact List.nodup_nil
  | cons d ds ih =>
    have hs : ∀ e ∈ ds, kOk e = true := fun e he => h e (List.mem_cons_of_mem _ he)
    unfold dedupD
    split
    · exact ih hs
    · rename_i q
      rw [List.nodup_cons]
      refine ⟨fun z => q (List.any_eq_true.mpr ⟨d, z, kOk_refl d (h d List.mem_cons_self)⟩), ih hs⟩
/-- two lists with the same members, sorted -/
theorem sorted_one : ∀ {l m : List PyData}, (∀ x ∈ l, kOk x = true) → (∀ x ∈ l, ∀ y ∈ l, PySem.W.alike x y = true) → l.Nodup → m.Nodup → (∀ x, x ∈ l ↔ x ∈ m) →
    l.Pairwise (fun a b => leD a b = true) → m.Pairwise (fun a b => leD a b = true) → l = m
  | [], [], _, _, _, _, _, _, _ => rfl
  | [], y :: m, _, _, _, _, h, _, _ => absurd ((h y).mpr List.mem_cons_self) (by simp)
  | x :: l, [], _, _, _, _, h, _, _ => absurd ((h x).mp List.mem_cons_self) (by simp)
  | x :: l, y :: m, k, al, n1, n2, h, p, q => by
    rw [List.pairwise_cons] at p q
    rw [List.nodup_cons] at n1 n2
    have e : x = y := by
      have h1 := (h x).mp List.mem_cons_self
      have h2 := (h y).mpr List.mem_cons_self
      rcases List.mem_cons.mp h1 with a | a
      · exact a
      · rcases List.mem_cons.mp h2 with b | b
        · exact b.symm
        · have c1 : leD x y = true := p.1 y b
          have c2 : leD y x = true := q.1 x a
          have d1 : (PyProof.Rows.listOrd PyProof.Rows.itemOrd).blt (PySem.W.keyToks y) (PySem.W.keyToks x) = false := by
            simpa [leD, PySem.W.dataLe, PySem.W.sortLe] using c1
          have d2 : (PyProof.Rows.listOrd PyProof.Rows.itemOrd).blt (PySem.W.keyToks x) (PySem.W.keyToks y) = false := by
            simpa [leD, PySem.W.dataLe, PySem.W.sortLe] using c2
          exact toks_inj (al x List.mem_cons_self y (List.mem_cons_of_mem _ b)) (k x List.mem_cons_self) (k y (List.mem_cons_of_mem _ b)) ((PyProof.Rows.listOrd PyProof.Rows.itemOrd).total _ _ d2 d1)
    subst e
    rw [sorted_one (fun z hz => k z (List.mem_cons_of_mem _ hz)) (fun z hz w hw => al z (List.mem_cons_of_mem _ hz) w (List.mem_cons_of_mem _ hw)) n1.2 n2.2 (fun z => ?_) p.2 q.2]
    constructor
    · intro hz
      rcases List.mem_cons.mp ((h z).mp (List.mem_cons_of_mem _ hz)) with a | a
      · subst a; exact absurd hz n1.1
      · exact a
    · intro hz
      rcases List.mem_cons.mp ((h z).mpr (List.mem_cons_of_mem _ hz)) with a | a
      · subst a; exact absurd hz n2.1
      · exact a
theorem sortD_pw (l : List PyData) : (sortD l).Pairwise (fun a b => leD a b = true) :=
  PySem.W.sort_pairwise (PySem.W.sortLe_total (PyProof.Rows.listOrd PyProof.Rows.itemOrd) false fun d => PySem.W.keyToks d) l
theorem sortD_mem {l : List PyData} {x : PyData} : x ∈ sortD l ↔ x ∈ l := (List.mergeSort_perm _ _).mem_iff
theorem sortD_same {l m : List PyData} (k : ∀ x ∈ l, kOk x = true) (al : ∀ x ∈ l, ∀ y ∈ l, PySem.W.alike x y = true) (n1 : l.Nodup) (n2 : m.Nodup) (h : ∀ x, x ∈ l ↔ x ∈ m) : sortD l = sortD m :=
  sorted_one (fun x hx => k x (sortD_mem.mp hx)) (fun x hx y hy => al x (sortD_mem.mp hx) y (sortD_mem.mp hy)) ((List.mergeSort_perm _ _).nodup_iff.mpr n1) ((List.mergeSort_perm _ _).nodup_iff.mpr n2) (fun x => by rw [sortD_mem, sortD_mem, h x]) (sortD_pw l) (sortD_pw m)
end NB
end
section
set_option Elab.async false
set_option linter.all false
set_option maxRecDepth 100000
set_option maxHeartbeats 1000000
/-! Core 13l: set(..), sorted(a set), x in a set, a list, a tuple. -/
namespace NB
open PySem PySem.Spec PyProof.Rows L2
open Classical

theorem perm_of_map {α β : Type} {f : α → β} : ∀ {l m : List β}, l.Perm m → ∀ L : List α, m = L.map f → ∃ M : List α, M.Perm L ∧ l = M.map f := by
  intro l m h
  induction h with
  | nil =>
    intro L e
    cases L with
    | nil => exact ⟨[], .refl _, rfl⟩
    | cons _ _ => cases e
  | cons x _ ih =>
    intro L e
    cases L with
    | nil => cases e
    | cons y L =>
      simp only [List.map_cons, List.cons.injEq] at e
      obtain ⟨M, pm, em⟩ := ih L e.2
      exact ⟨y :: M, pm.cons y, by rw [List.map_cons, ← e.1, em]⟩
  | swap x y l =>
    intro L e
    match L, e with
    | z :: z2 :: L, e =>
      simp only [List.map_cons, List.cons.injEq] at e
      exact ⟨z2 :: z :: L, .swap _ _ _, by rw [List.map_cons, List.map_cons, e.1, e.2.1, e.2.2]⟩
  | trans _ _ i1 i2 =>
    intro L e
    obtain ⟨M, pm, em⟩ := i2 L e
    obtain ⟨N, pn, en⟩ := i1 M em
    exact ⟨N, pn.trans pm, en⟩
theorem each_eq {α β : Type} {f : β → α} : ∀ {as : List α} {bs : List β}, PySem.W.EachIs (fun a b => a = f b) as bs → as = bs.map f
  | _, _, .nil => rfl
  | _, _, .cons e t => by rw [List.map_cons, e, each_eq t]
theorem each_is {α β : Type} (f : β → α) : ∀ bs : List β, PySem.W.EachIs (fun a b => a = f b) (bs.map f) bs
  | [] => .nil
  | b :: bs => .cons rfl (each_is f bs)
theorem each_r {α β : Type} {R : α → β → Prop} (f : β → α) : ∀ bs : List β, (∀ b ∈ bs, R (f b) b) → PySem.W.EachIs R (bs.map f) bs
  | [], _ => .nil
  | b :: bs, h => .cons (h b List.mem_cons_self) (each_r f bs fun c hc => h c (List.mem_cons_of_mem _ hc))
section
variable {P : Program} {w : World} {A : Around} {E : Value → Shared → Prop} {s : Shared} {a : Addr} {L : List (NestedKey × Addr)} {es : Array (Int × Value)} {ep : Nat} {t : SetTable}
theorem sorted_setK {Q : Value → Shared → Prop} (R : SetK w s.heap a L es ep t) (hh : A.handled = none) (f : NestedKey × Addr → PyData) (hf : ∀ p ∈ L, Reads s.heap (.ref p.2) (f p) []) (al : PySem.W.AllAlike (L.map f)) (srt : PySem.W.Sortable (L.map f))
    (hu : ∀ p ∈ L, A.units + 4 + (f p).depth < cLine) (few : L.length ≤ 1300)
    (hQ : ∀ s' p (out : Array Value) (c : Nat) (M : List (NestedKey × Addr)), (∀ b o, s.heap.get? b = some o → s'.heap.get? b = some o) → s'.gens = s.gens → s'.os = s.os → s.heap.objs.size ≤ p →
      s'.heap.get? p = some (seqObj "list" out c) → M.Perm L → out.toList = (M.mergeSort (PySem.W.dataLe false f)).map (fun q => Value.ref q.2) → Q (.ref p) s') :
    wpAny (model P w) A (call (.builtin "sorted") [.ref a]) Q E s := by
  obtain ⟨o, ho, hex, hd⟩ := R.obj
  have hsz := R.size
  refine Calls.call_function_entry kind_sorted plain_sorted entry_sorted (args_sorted1 _) ?_
  unfold Builtin.«sorted»
  refine wpAny_bind (m := checkCount "sorted" 1 1 _) (wpAny_pure ?_)
  refine wpAny_bind (collect_set (A := A.in1) hh ⟨o, ho, hex.1, hd⟩ R.fits (by unfold scanBound; omega) R.tab.up R.led fun s1 vs k1 hz g1 o1 pm => ?_)
  have hes : es.toList.map (·.2) = L.map fun q => Value.ref q.2 := by
    rw [R.rows]
    unfold rowsK
    rw [List.map_map]
    rfl
  obtain ⟨M, pL, eM⟩ := perm_of_map pm L hes
  subst eM
  have lM := pL.length_eq
  refine wpAny_bind (wpAny_newList ?_ (by rw [List.length_map, sizeLine_eq]; omega))
  have hoL : (s1.heap.push (seqObj "list" (M.map fun q => Value.ref q.2).toArray 0)).get? s1.heap.objs.size = some (seqObj "list" (M.map fun q => Value.ref q.2).toArray 0) := Heap.get?_push_size _ rfl
  have keep : ∀ b u, s.heap.get? b = some u → (s1.heap.push (seqObj "list" (M.map fun q => Value.ref q.2).toArray 0)).get? b = some u := fun b u e => Heap.get?_push_of_some _ (k1 b u e)
  have memM : ∀ p ∈ M, p ∈ L := fun p hp => pL.mem_iff.mp hp
  refine wpAny_bind (wpAny_holding (PySem.W.list_sort_data (s := { s1 with heap := s1.heap.push (seqObj "list" (M.map fun q => Value.ref q.2).toArray 0) }) (R := fun v (q : NestedKey × Addr) => v = Value.ref q.2) (enc := f) hoL (each_is _ M)
    (each_r _ M fun p hp => ⟨[], PyProof.Rows.Reads.keeps keep (hf p (memM p hp)), by simp⟩) (fun d hd e he => ?_) ?_ (by rw [sizeLine_eq]; omega) (fun b hb => ?_) fun out l2 eo => ?_))
  · obtain ⟨p, hp, rfl⟩ := List.mem_map.mp hd
    obtain ⟨q, hq, rfl⟩ := List.mem_map.mp he
    exact al _ (List.mem_map_of_mem (memM p hp)) _ (List.mem_map_of_mem (memM q hq))
  · rcases srt with h | h
    · exact .inl fun d hd => by obtain ⟨p, hp, rfl⟩ := List.mem_map.mp hd; exact h _ (List.mem_map_of_mem (memM p hp))
    · exact .inr fun d hd => by obtain ⟨p, hp, rfl⟩ := List.mem_map.mp hd; exact h _ (List.mem_map_of_mem (memM p hp))
  · have := hu b (memM b hb)
    show A.in1.units + 1 + _ < cLine
    rw [Around.in1_units]
    omega
  · obtain ⟨c, hc⟩ := sortedHeap_at (vs := M.map fun q => Value.ref q.2) (out := out.toArray) hoL
    refine wpAny_pure ⟨_, rfl, hQ _ s1.heap.objs.size out.toArray c M (fun b u e => ?_) g1 o1 hz hc pL (by rw [List.toList_toArray]; exact each_eq eo)⟩
    have q := k1 b u e
    have hlt := Heap.lt_size q
    show (sortedHeap (s1.heap.push (seqObj "list" (M.map fun q => Value.ref q.2).toArray 0)) s1.heap.objs.size _ out.toArray).get? b = some u
    rw [sortedHeap_old (Nat.ne_of_lt hlt) (by rw [size_push']; exact Nat.lt_succ_of_lt hlt)]
    exact Heap.get?_push_of_some _ q
theorem has_setK {Q : Bool → Shared → Prop} (R : SetK w s.heap a L es ep t) {k : NestedKey} {x : Addr} (hx : NK s.heap k x) (hu : A.units + 24 < cLine) (h : ∀ tk, Q (decide (k ∈ L.map (·.1))) { s with toks := tk }) :
    wpAny (model P w) A (contains (.ref a) (.ref x)) Q E s := by
  obtain ⟨o, ho, hex, hd⟩ := R.obj
  have ty : s.TypeIs (.ref a) "set" := ⟨o, ho, hex.1⟩
  unfold contains
  try with_reducible refine wpAny_holding ?_
  refine wpAny_bind (wpAny_specialOf ty F.slot_set_contains.lookup ?_)
  show wpAny _ _ (if (some (Value.builtin "set.__contains__") == some Value.none) = true then _ else _) _ E s
  rw [if_neg (by rw [beq_builtin_none]; exact Bool.false_ne_true)]
  refine wpAny_bind (wpAny_callSpecialUnlessNone?_slot (name := Str.ofString "__contains__") ty F.slot_set_contains
    (wpAny_call_entry F.slot_set_contains ty entry_set_contains ?_ (F.args_set_contains_2 _ _)))
  unfold Builtin.«frozenset.__contains__» Builtin.Frozenset.oneOther
  simp only [List.isEmpty_nil, bind_assoc]
  unfold Builtin.Frozenset.addrOf Builtin.Frozenset.withSetAsKey setContains
  refine wpAny_bind (wpAny_pure ?_)
  try dsimp only
  refine wpAny_bind (wpAny_pure ?_)
  try dsimp only
  refine wpAny_bind (wpAny_tryCatch ?_)
  refine wpAny_holding ?_
  refine wpAny_bind ((nestedKind P w).pyHash (show A.in1.units + 8 < cLine by rw [Around.in1_units]; omega) hx.kind ?_)
  have R' : SetK w ({ s with toks := s.toks + (nestedKind P w).draws k } : Shared).heap a L es ep t := R
  refine wpAny_bind ?_
  unfold setFind
  rw [show (100000 : Nat) = 99999 + 1 from rfl]
  unfold setFindIn
  refine wpAny_bind (wpAny_setState_of (s := { s with toks := s.toks + (nestedKind P w).draws k }) ho hd R.fits ?_)
  dsimp only
  refine wp_if_neg (by simp [byScan, Value.scannable]) ?_
  try refine wpAny_bind (wpAny_pure ?_)
  refine wpAny_bind (search_all R' hx (by simp only [Around.in1_units]; omega) (fun i hi inn => ?_) fun K out hK hb => ?_)
  · dsimp only
    refine wpAny_pure ?_
    refine wpAny_pure ?_
    have e : i.isSome = true := hi.resolve_left (by decide)
    show wpAny _ _ (ret (Value.bool i.isSome)) _ _ _
    rw [e]
    have q := h (s.toks + (nestedKind P w).draws k)
    rw [decide_eq_true inn] at q
    exact wpAny_pure ⟨_, rfl, wpAny_truthy_bool q⟩
  · dsimp only
    refine wpAny_pure ?_
    refine wpAny_pure ?_
    show wpAny _ _ (ret (Value.bool false)) _ _ _
    have q := h (s.toks + (nestedKind P w).draws k)
    rw [decide_eq_false out] at q
    exact wpAny_pure ⟨_, rfl, wpAny_truthy_bool q⟩
end
theorem SetK.t0 {w : World} {h : Heap} {a : Addr} {L : List (NestedKey × Addr)} {es : Array (Int × Value)} {ep : Nat} {t : SetTable} (R : SetK w h a L es ep t) : SetK0 w h a L :=
  ⟨es, ep, t, R.obj, R.rows, R.tab, R.nodup, R.plain, R.led, R.room⟩
theorem SetK0.whole {w : World} {h : Heap} {a : Addr} {L : List (NestedKey × Addr)} (R : SetK0 w h a L) (hk : ∀ p ∈ L, NK h p.1 p.2) : ∃ es ep t, SetK w h a L es ep t := by
  obtain ⟨es, ep, t, h1, h2, h3, h4, h5, h6, h7⟩ := R.ex
  exact ⟨es, ep, t, h1, h2, h3, h4, hk, h5, h6, h7⟩
theorem setKO_new {P : Program} {w : World} {H : Hp} {h : Heap} {a : Addr} {L : List (NestedKey × Addr)} (R : SetK0 w h a L) : ObjOk P w H h a (SetKO w a L) := by
  obtain ⟨es, ep, t, ⟨o, ho, _⟩, _⟩ := id R.ex
  refine ⟨R, ⟨o, ho⟩, fun h1 h2 p k => ?_⟩
  obtain ⟨es', ep', t', ⟨o', ho', r'⟩, q'⟩ := SetK0.ex p
  exact ⟨es', ep', t', ⟨o', k o' ho', r'⟩, q'⟩
end NB
end
section
set_option Elab.async false
set_option linter.all false
set_option maxRecDepth 100000
set_option maxHeartbeats 1000000
/-! Core 13m: sets of keys in the frame of a def. -/
namespace NB
open PySem PySem.Spec PyProof.Rows L2
open Classical

section
variable {X : Cx} {pins : List (Addr × Obj)} {σ : L2.St} {H : Hp} {s : Shared} {bad : Addr → Prop}
mutual
theorem rep_nk (I : Inv X pins σ H s) : ∀ (d : PyData) (v : V) (u : Value) (k : NestedKey), RepD X.mo H bad d v → RelV v u → kOk d = true → nkey d = some k → NestedIs s.heap k u
  | .none, _, _, _, .non, r, _, h => by cases r; cases h; exact .none
  | .int i, _, _, _, .int _, r, _, h => by cases h; obtain ⟨t, rfl⟩ := r; exact .int i t
  | .tuple ds, _, _, k, .tup h z rs, r, hk, e => by
    cases r
    obtain ⟨its, rv, ⟨o, ho, hc, n, hd⟩, _⟩ := I.tuple h
    have hk' : kOks ds = true := by simpa [kOk] using hk
    have e : (nkeys ds).map NestedKey.tup = some k := e
    obtain ⟨ks, e1, rfl⟩ := Option.map_eq_some_iff.mp e
    exact .tup ho hc hd (reps_nk I ds _ its ks rs rv hk' e1)
  | .bool _, _, _, _, _, _, h, _ => by simp [kOk] at h
  | .str _, _, _, _, _, _, h, _ => by simp [kOk] at h
  | .list _, _, _, _, _, _, h, _ => by simp [kOk] at h
  | .dict _, _, _, _, _, _, h, _ => by simp [kOk] at h
theorem reps_nk (I : Inv X pins σ H s) : ∀ (ds : List PyData) (vs : List V) (us : List Value) (ks : List NestedKey), RepDs X.mo H bad ds vs → Vals vs us → kOks ds = true → nkeys ds = some ks → NestedAll s.heap ks us
  | [], _, _, _, .nil, .nil, _, e => by cases e; exact .nil
  | d :: ds, _, _, ks, .cons r t, .cons q qs, h, e => by
    have h' : kOk d = true ∧ kOks ds = true := by simpa [kOks] using h
    have e : ((nkey d).bind fun k => (nkeys ds).map fun ks => k :: ks) = some ks := e
    obtain ⟨k, e1, e⟩ := opt_bind_some e
    obtain ⟨ls, e2, rfl⟩ := Option.map_eq_some_iff.mp e
    exact .cons (rep_nk I d _ _ k r q h'.1 e1) (reps_nk I ds _ _ ls t qs h'.2 e2)
end
mutual
theorem rep_reads0 (I : Inv X pins σ H s) : ∀ (d : PyData) (v : V) (u : Value), RepD X.mo H bad d v → RelV v u → kOk d = true → Reads s.heap u d []
  | .none, _, _, .non, r, _ => by cases r; exact .none
  | .int i, _, _, .int _, r, _ => by obtain ⟨t, rfl⟩ := r; exact .int i t
  | .tuple ds, _, _, .tup h z rs, r, hk => by
    cases r
    obtain ⟨its, rv, ⟨o, ho, hc, n, hd⟩, _⟩ := I.tuple h
    exact .tuple ho hc hd (reps_reads0 I ds _ its rs rv (by simpa [kOk] using hk))
  | .bool _, _, _, _, _, h => by simp [kOk] at h
  | .str _, _, _, _, _, h => by simp [kOk] at h
  | .list _, _, _, _, _, h => by simp [kOk] at h
  | .dict _, _, _, _, _, h => by simp [kOk] at h
theorem reps_reads0 (I : Inv X pins σ H s) : ∀ (ds : List PyData) (vs : List V) (us : List Value), RepDs X.mo H bad ds vs → Vals vs us → kOks ds = true → ReadsAll s.heap us ds []
  | [], _, _, .nil, .nil, _ => .nil
  | d :: ds, _, _, .cons r t, .cons q qs, h => by
    have h' : kOk d = true ∧ kOks ds = true := by simpa [kOks] using h
    exact .cons (as := []) (bs := []) (rep_reads0 I d _ _ r q h'.1) (reps_reads0 I ds _ _ t qs h'.2)
end
theorem rep_NK (I : Inv X pins σ H s) {d : PyData} {a : Addr} {k : NestedKey} (r : RepD X.mo H bad d (.ref a)) (h : keyOk d = true) (e : nkey d = some k) : NK s.heap k a := by
  obtain ⟨k2, e2, t, dp⟩ := kOk_key d (keyOk_k h)
  rw [e] at e2
  cases e2
  exact ⟨rep_nk I d _ _ k r rfl (keyOk_k h) e, Nat.le_trans dp (keyOk_depth h), t⟩
theorem keys_rep (I : Inv X pins σ H s) : ∀ {ds : List PyData} {vs : List V} {us : List Value}, RepDs X.mo H bad ds vs → Vals vs us → (∀ d ∈ ds, keyOk d = true) →
    ∃ ks : List (NestedKey × Addr), us = ks.map (fun p => Value.ref p.2) ∧ (∀ p ∈ ks, NK s.heap p.1 p.2 ∧ ∃ d ∈ ds, nkey d = some p.1 ∧ RepD X.mo H bad d (.ref p.2)) ∧ (∀ d ∈ ds, ∃ p ∈ ks, nkey d = some p.1) ∧ ks.length = ds.length
  | [], [], [], .nil, .nil, _ => ⟨[], rfl, fun p hp => (by cases hp), fun p hp => (by cases hp), rfl⟩
  | d :: ds, v :: vs, u :: us, .cons r t, .cons q qs, h => by
    obtain ⟨ks, e, h1, h2, h3⟩ := keys_rep I t qs fun e he => h e (List.mem_cons_of_mem _ he)
    have hd := h d List.mem_cons_self
    obtain ⟨es, rfl⟩ := keyOk_tup hd
    obtain ⟨k, ek, tk, dk⟩ := kOk_key _ (keyOk_k hd)
    cases r with
    | @tup a ws _ g z rr =>
      cases q
      refine ⟨(k, a) :: ks, by rw [List.map_cons, e], fun p hp => ?_, fun d' hd' => ?_, by simp [h3]⟩
      · rcases List.mem_cons.mp hp with z1 | z1
        · subst z1
          exact ⟨rep_NK I (.tup g z rr) hd ek, _, List.mem_cons_self, ek, .tup g z rr⟩
        · obtain ⟨n1, d2, hd2, e2, r2⟩ := h1 p z1
          exact ⟨n1, d2, List.mem_cons_of_mem _ hd2, e2, r2⟩
      · rcases List.mem_cons.mp hd' with z1 | z1
        · subst z1; exact ⟨(k, a), List.mem_cons_self, ek⟩
        · obtain ⟨p, hp, e2⟩ := h2 d' z1
          exact ⟨p, List.mem_cons_of_mem _ hp, e2⟩
end
/-- the data of a list, a tuple -/
def seqD (S : Sto) (x : Val) : Option (List PyData) := match view S x with
  | some (.list ds) => some ds
  | some (.tuple ds) => some ds
  | _ => none
def gSet (S : Sto) (x : Val) : Option Val := (seqD S x).bind fun ds => if ds.all keyOk && decide (ds.length ≤ 1299) then some (.set ds) else none
def gSortS (S : Sto) : Val → Option Val
  | .set ds => if sortOk ds then some (.dat (.list (sortD (dedupD ds)))) else none
  | _ => none
section
variable {X : Cx} {pins : List (Addr × Obj)} {σ : L2.St} {H : Hp} {s : Shared}
theorem set_fin {ι : Lay} {S : Sto} {h' : Heap} {tk : Nat} {ds : List PyData} {ks L : List (NestedKey × Addr)} {es : Array (Int × Value)} {ep : Nat} {t : SetTable} {Q : VK} (I : Inv X pins σ H s) (so : StoreOk X.mo ι S H) (hk : ∀ d ∈ ds, keyOk d = true)
    (c1 : ∀ p ∈ ks, ∃ d ∈ ds, nkey d = some p.1 ∧ RepD X.mo H (live ι S) d (.ref p.2)) (c2 : ∀ d ∈ ds, ∃ p ∈ ks, nkey d = some p.1) (few : ks.length ≤ 1299)
    (R : SetK X.w h' s.heap.objs.size L es ep t) (g : Has ks ks.length L) (kp : ∀ b o, s.heap.get? b = some o → h'.get? b = some o)
    (q : ∀ w H', Ext ι S H ι S H' → StoreOk X.mo ι S H' → RepV X.mo ι S H' (.set ds) w → Q w H') : EP X pins σ Q (.ref s.heap.objs.size) { s with heap := h', toks := tk } := by
  have hn : H s.heap.objs.size = none := I.hok.fresh (Nat.le_refl _)
  have e := ext_new (o := SetKO X.w s.heap.objs.size L) so hn
  have so' := so_new (o := SetKO X.w s.heap.objs.size L) so hn
  refine ⟨.ref _, _, I.laid (t' := tk) kp (Nat.le_refl _) (setKO_new R.t0), rfl, q _ _ e so' (.setK upd_same (fresh_not_live so hn) (fun p hp => ?_) (fun d hd => ?_) hk ?_)⟩
  · obtain ⟨d, hd, e1, r⟩ := c1 p (List.mem_of_mem_take (g.from_ p hp))
    exact ⟨d, hd, e1, RepD.mono so e r⟩
  · obtain ⟨p, hp, e1⟩ := c2 d hd
    have hm := g.each p (by rw [List.take_length]; exact hp)
    obtain ⟨p2, hp2, e2⟩ := List.mem_map.mp hm
    exact ⟨p2, hp2, by rw [e1, e2]⟩
  · have := g.few
    omega
theorem cr_set (hc : X.calm = true) (hu : X.A.units + 24 < cLine) : CallR X (.type "set") (rC1 X.mo gSet) := by
  intro pins s σ H vs us Q I r ⟨ι, S, x, v, z, ev, so, rx, hz, q⟩
  subst ev
  obtain ⟨ds, hd, hz⟩ := opt_bind_some hz
  by_cases hok : (ds.all keyOk && decide (ds.length ≤ 1299)) = true
  case neg => rw [if_neg hok] at hz; cases hz
  rw [if_pos hok] at hz
  cases hz
  rw [Bool.and_eq_true, List.all_eq_true, decide_eq_true_eq] at hok
  obtain ⟨u, rfl, ru⟩ := vals1 r
  unfold seqD at hd
  split at hd
  · rename_i es ev
    cases hd
    obtain ⟨a, ws, rfl, h1, h2, h3⟩ := (rx.rd so ev).list
    cases (show u = Value.ref a from ru)
    obtain ⟨its, rv, pl, _⟩ := I.list (SqL.of (K := X.K) h1)
    obtain ⟨ks, e, k1, k2, k3⟩ := keys_rep I h3 rv hok.1
    exact set_of_list ks (I.ok.hd hc) pl.isList (by simpa using e) (fun p hp => (k1 p hp).1) (by rw [k3]; exact hok.2) (by omega) fun h' tk L es ep t R g kp =>
      set_fin I so hok.1 (fun p hp => (k1 p hp).2) k2 (by rw [k3]; exact hok.2) R g kp q
  · rename_i es ev
    cases hd
    obtain ⟨a, ws, rfl, h1, h2, h3⟩ := (rx.rd so ev).tup
    cases (show u = Value.ref a from ru)
    obtain ⟨its, rv, ht, _⟩ := I.tuple h1
    obtain ⟨ks, e, k1, k2, k3⟩ := keys_rep I h3 rv hok.1
    exact set_of_tuple ks (I.ok.hd hc) (show s.heap.IsTuple a its.toArray from ht) (by simpa using e) (fun p hp => (k1 p hp).1) (by rw [k3]; exact hok.2) (by omega) fun h' tk L es ep t R g kp =>
      set_fin I so hok.1 (fun p hp => (k1 p hp).2) k2 (by rw [k3]; exact hok.2) R g kp q
  · cases hd
theorem cr_sortedS {k : Nat} (hr : Room k X.A) (hc : X.calm = true) : CallR X (.builtin "sorted") (rC1 X.mo gSortS) := by
  intro pins s σ H vs us Q I r ⟨ι, S, x, v, z, ev, so, rx, hz, q⟩
  subst ev
  cases rx with
  | @setK a L ds ha nl g1 g2 g3 g4 =>
    have hz : (if sortOk ds then some (Val.dat (.list (sortD (dedupD ds)))) else none) = some z := hz
    by_cases hok : sortOk ds = true
    case neg => rw [if_neg hok] at hz; cases hz
    rw [if_pos hok] at hz
    cases hz
    obtain ⟨al, so1, dp⟩ := sortOk_ok hok
    have R0 : SetK0 X.w s.heap a L := (I.hok a _ ha).1
    obtain ⟨es, ep, t, R⟩ := R0.whole fun p hp => by
      obtain ⟨d, hd, e1, r1⟩ := g1 p hp
      exact rep_NK I r1 (g3 d hd) e1
    rw [Vals.ref1 r]
    let f : NestedKey × Addr → PyData := fun p => if h : ∃ d, d ∈ ds ∧ nkey d = some p.1 ∧ RepD X.mo H (live ι S) d (.ref p.2) then Classical.choose h else .none
    have hf : ∀ p ∈ L, f p ∈ ds ∧ nkey (f p) = some p.1 ∧ RepD X.mo H (live ι S) (f p) (.ref p.2) := fun p hp => by
      obtain ⟨d, hd, e1, r1⟩ := g1 p hp
      have h : ∃ d, d ∈ ds ∧ nkey d = some p.1 ∧ RepD X.mo H (live ι S) d (.ref p.2) := ⟨d, hd, e1, r1⟩
      have e : f p = Classical.choose h := dif_pos h
      rw [e]
      exact Classical.choose_spec h
    refine sorted_setK R (I.ok.hd hc) f (fun p hp => rep_reads0 I _ _ _ (hf p hp).2.2 rfl (keyOk_k (g3 _ (hf p hp).1))) (fun d hd e he => ?_) ?_ (fun p hp => ?_) (by omega) fun s' p out c M kp eg eo hp hget pM eout => ?_
    · obtain ⟨p, hp, rfl⟩ := List.mem_map.mp hd
      obtain ⟨p2, hp2, rfl⟩ := List.mem_map.mp he
      exact al _ (hf p hp).1 _ (hf p2 hp2).1
    · rcases so1 with h | h
      · exact .inl fun d hd => by obtain ⟨p, hp, rfl⟩ := List.mem_map.mp hd; exact h _ (hf p hp).1
      · exact .inr fun d hd => by obtain ⟨p, hp, rfl⟩ := List.mem_map.mp hd; exact h _ (hf p hp).1
    · have h1 := keyOk_depth (g3 _ (hf p hp).1)
      have := hr.un
      omega
    · have memM : ∀ p ∈ M, p ∈ L := fun p hp => pM.mem_iff.mp hp
      have e1 : (M.mergeSort (PySem.W.dataLe false f)).map f = sortD (M.map f) :=
        List.map_mergeSort (r := PySem.W.dataLe false f) (s := leD) (f := f) (l := M) fun _ _ _ _ => rfl
      have e2 : sortD (M.map f) = sortD (dedupD ds) := by
        refine sortD_same (fun x hx => ?_) (fun x hx y hy => ?_) ?_ (nodup_dedupD fun d hd => keyOk_k (g3 d hd)) fun x => ?_
        · obtain ⟨p, hp, rfl⟩ := List.mem_map.mp hx
          exact keyOk_k (g3 _ (hf p (memM p hp)).1)
        · obtain ⟨p, hp, rfl⟩ := List.mem_map.mp hx
          obtain ⟨p2, hp2, rfl⟩ := List.mem_map.mp hy
          exact al _ (hf p (memM p hp)).1 _ (hf p2 (memM p2 hp2)).1
        · have nd : (M.map (·.1)).Nodup := (pM.map _).nodup_iff.mpr R.nodup
          rw [List.nodup_iff_pairwise_ne, List.pairwise_map] at nd ⊢
          refine List.Pairwise.imp_of_mem (fun {p q} hp hq hne e => hne ?_) nd
          have a1 := (hf p (memM p hp)).2.1
          have a2 := (hf q (memM q hq)).2.1
          rw [e, a2] at a1
          exact (Option.some.inj a1).symm
        · rw [mem_dedupD fun d hd => keyOk_k (g3 d hd)]
          constructor
          · intro hx
            obtain ⟨p, hp, rfl⟩ := List.mem_map.mp hx
            exact (hf p (memM p hp)).1
          · intro hx
            obtain ⟨p, hp, e⟩ := g2 x hx
            refine List.mem_map.mpr ⟨p, pM.mem_iff.mpr hp, ?_⟩
            exact nkey_inj _ _ (keyOk_k (g3 _ (hf p hp).1)) (keyOk_k (g3 x hx)) (by rw [(hf p hp).2.1, e])
      have rr : RepDs X.mo H (live ι S) (sortD (dedupD ds)) ((M.mergeSort (PySem.W.dataLe false f)).map fun p => .ref p.2) := by
        rw [← e2, ← e1]
        have := repds_pairs (M := X.mo) (H := H) (bad := live ι S) (bs := (M.mergeSort (PySem.W.dataLe false f)).map fun p => (f p, V.ref p.2)) fun b hb => by
          obtain ⟨p, hp, rfl⟩ := List.mem_map.mp hb
          exact (hf p (memM p ((List.mergeSort_perm _ _).mem_iff.mp hp))).2.2
        rw [List.map_map, List.map_map] at this
        exact this
      have lz : (sortD (dedupD ds)).length ≤ sizeLine := by
        rw [rr.len, List.length_map, List.length_mergeSort, pM.length_eq, sizeLine_eq]
        omega
      have hn : H p = none := I.hok.fresh hp
      obtain ⟨e3, so3, r3⟩ := new_lst so rr lz hn
      have hv : Vals ((M.mergeSort (PySem.W.dataLe false f)).map fun p => V.ref p.2) out.toList := by
        rw [eout]
        generalize M.mergeSort (PySem.W.dataLe false f) = N
        induction N with
        | nil => exact .nil
        | cons p N ih => exact .cons rfl ih
      have J : Inv X pins σ (upd H p (.lst ((M.mergeSort (PySem.W.dataLe false f)).map fun p => V.ref p.2))) { s with heap := s'.heap, gens := s'.gens, drawn := s'.drawn, toks := s'.toks } :=
        I.call (ch := []) (Un.laid kp hp hn) (I.hok.laid kp hp ⟨by rw [← rr.len]; exact lz, out.toList, c, hv, hget⟩) (by rw [eg]; exact I.bare) (fun _ z => nomatch z)
      have e : s' = { s with heap := s'.heap, gens := s'.gens, drawn := s'.drawn, toks := s'.toks } := by
        cases s'
        cases s
        cases eo
        rfl
      rw [e]
      exact ⟨.ref p, _, J, rfl, q _ _ e3 so3 r3⟩
  | _ => cases hz
end
/-! ### in, not in -/
def hasD (S : Sto) (x y : Val) : Option Bool := match y with
  | .set ds => (view S x).bind fun d => if keyOk d then some (ds.any fun e => PyData.eqv e d) else none
  | y => (seqD S y).bind fun ds => (view S x).bind fun d => if PyData.plainAll ds && (d.plain && decide (d.depth ≤ 60)) then some (ds.any fun e => PyData.eqv e d) else none
def gIn (S : Sto) (x y : Val) : Option Val := (hasD S x y).map fun b => .dat (.bool b)
def gNotIn (S : Sto) (x y : Val) : Option Val := (hasD S x y).map fun b => .dat (.bool (!b))
section
variable {X : Cx}
theorem has_rep (hu : X.A.units + 72 < cLine) {pins : List (Addr × Obj)} {σ : L2.St} {H : Hp} {s : Shared} {ι : Lay} {S : Sto} {x y : Val} {v1 v2 : V} {u1 u2 : Value} {b : Bool} {E : Value → Shared → Prop} (I : Inv X pins σ H s) (so : StoreOk X.mo ι S H)
    (r1 : RelV v1 u1) (r2 : RelV v2 u2) (rx : RepV X.mo ι S H x v1) (ry : RepV X.mo ι S H y v2) (h : hasD S x y = some b) (neg : Bool) (R : Value → Shared → Prop) (hq : ∀ tk, R (.bool (if neg then !b else b)) { s with toks := tk }) :
    wpAny (model X.prog X.w) X.A (compareOp (if neg then .NotIn else .In) u1 u2) R E s := by
  have seq : ∀ y', y = y' → ((seqD S y).bind fun ds => (view S x).bind fun d => if PyData.plainAll ds && (d.plain && decide (d.depth ≤ 60)) then some (ds.any fun e => PyData.eqv e d) else none) = some b → wpAny (model X.prog X.w) X.A (compareOp (if neg then .NotIn else .In) u1 u2) R E s := by
    intro y' _ h
    obtain ⟨ds, h1, h⟩ := opt_bind_some h
    obtain ⟨d, h2, h⟩ := opt_bind_some h
    by_cases hok : (PyData.plainAll ds && (d.plain && decide (d.depth ≤ 60))) = true
    case neg => rw [if_neg hok] at h; cases h
    rw [if_pos hok] at h
    cases h
    simp only [Bool.and_eq_true, decide_eq_true_eq] at hok
    obtain ⟨p1, p2, p3⟩ := hok
    obtain ⟨as, ra⟩ := RepD.readsP I d v1 u1 (rx.rd so h2).weak r1 p2
    have hq0 := hq s.toks
    unfold seqD at h1
    split at h1
    · rename_i es ev
      cases h1
      obtain ⟨bs, rb⟩ := RepD.readsP I (.list ds) v2 u2 (ry.rd so ev).weak r2 (by simpa [PyData.plain] using p1)
      cases neg with
      | false => exact PySem.SeqAt.in_list_data rb ra p1 p2 (by omega) hq0
      | true => exact PySem.SeqAt.notIn_list_data rb ra p1 p2 (by omega) hq0
    · rename_i es ev
      cases h1
      obtain ⟨bs, rb⟩ := RepD.readsP I (.tuple ds) v2 u2 (ry.rd so ev).weak r2 (by simpa [PyData.plain] using p1)
      cases neg with
      | false => exact PySem.SeqAt.in_tuple_data rb ra p1 p2 (by omega) hq0
      | true => exact PySem.SeqAt.notIn_tuple_data rb ra p1 p2 (by omega) hq0
    · cases h1
  cases ry with
  | @setK a L ds ha nl g1 g2 g3 g4 =>
    have h : ((view S x).bind fun d => if keyOk d then some (ds.any fun e => PyData.eqv e d) else none) = some b := h
    obtain ⟨d, h2, h⟩ := opt_bind_some h
    by_cases hok : keyOk d = true
    case neg => rw [if_neg hok] at h; cases h
    rw [if_pos hok] at h
    cases h
    have R0 : SetK0 X.w s.heap a L := (I.hok a _ ha).1
    obtain ⟨es, ep, t, RK⟩ := R0.whole fun p hp => by
      obtain ⟨d, hd, e1, r1⟩ := g1 p hp
      exact rep_NK I r1 (g3 d hd) e1
    obtain ⟨k, ek, _, _⟩ := kOk_key d (keyOk_k hok)
    obtain ⟨es2, ed⟩ := keyOk_tup hok
    subst ed
    obtain ⟨c, ws, rfl, q1, q2, q3⟩ := (rx.rd so h2).tup
    cases r1
    cases r2
    have rd : RepD X.mo H (live ι S) (.tuple es2) (.ref c) := .tup q1 q2 q3
    have nk := rep_NK I rd hok ek
    have same : decide (k ∈ L.map (·.1)) = ds.any fun e => PyData.eqv e (.tuple es2) := by
      rw [Bool.eq_iff_iff, decide_eq_true_eq, List.any_eq_true, List.mem_map]
      constructor
      · rintro ⟨p, hp, e⟩
        obtain ⟨d, hd, e1, _⟩ := g1 p hp
        refine ⟨d, hd, ?_⟩
        rw [nkey_inj d _ (keyOk_k (g3 d hd)) (keyOk_k hok) (by rw [e1, e, ek])]
        exact kOk_refl _ (keyOk_k hok)
      · rintro ⟨d, hd, e⟩
        have e' := kOk_eqv d _ (keyOk_k (g3 d hd)) (keyOk_k hok) e
        subst e'
        obtain ⟨p, hp, e1⟩ := g2 _ hd
        rw [ek] at e1
        exact ⟨p, hp, (Option.some.inj e1).symm⟩
    cases neg with
    | false =>
      show wpAny _ _ (do return .bool (← contains (.ref a) (.ref c))) R E s
      refine wpAny_bind (has_setK RK nk (by omega) fun tk => ?_)
      rw [same]
      exact wpAny_pure (hq tk)
    | true =>
      show wpAny _ _ (do return .bool (!(← contains (.ref a) (.ref c)))) R E s
      refine wpAny_bind (has_setK RK nk (by omega) fun tk => ?_)
      rw [same]
      exact wpAny_pure (hq tk)
  | dat r => exact seq _ rfl h
  | loc r => exact seq _ rfl h
  | fn r => exact seq _ rfl h
  | mix r z rr => exact seq _ rfl h
  | scr r z => exact seq _ rfl h
theorem os_in (hu : X.A.units + 72 < cLine) : OpR X (compareOp .In) (rOp X.mo gIn) := by
  intro pins s σ H v1 v2 u1 u2 Q I r1 r2 ⟨ι, S, x, y, z, so, rx, ry, hz, k⟩
  obtain ⟨b, hb, rfl⟩ := Option.map_eq_some_iff.mp hz
  exact has_rep hu I so r1 r2 rx ry hb false _ fun tk => ⟨.bl b, H, I.tok tk, rfl, k _ H Ext.refl so (.dat (.bl b))⟩
theorem os_notIn (hu : X.A.units + 72 < cLine) : OpR X (compareOp .NotIn) (rOp X.mo gNotIn) := by
  intro pins s σ H v1 v2 u1 u2 Q I r1 r2 ⟨ι, S, x, y, z, so, rx, ry, hz, k⟩
  obtain ⟨b, hb, rfl⟩ := Option.map_eq_some_iff.mp hz
  exact has_rep hu I so r1 r2 rx ry hb true _ fun tk => ⟨.bl (!b), H, I.tok tk, rfl, k _ H Ext.refl so (.dat (.bl (!b)))⟩
/-! ### the one reading or the other -/
def orG (g g' : Sto → Val → Option Val) : Sto → Val → Option Val := fun S x => match g S x with
  | some z => some z
  | none => g' S x
theorem cr_or {f : Value} {g g' : Sto → Val → Option Val} (h : CallR X f (rC1 X.mo g)) (h' : CallR X f (rC1 X.mo g')) : CallR X f (rC1 X.mo (orG g g')) := by
  intro pins s σ H vs us Q I r ⟨ι, S, x, v, z, ev, so, rx, hz, q⟩
  cases e : g S x with
  | some z' =>
    unfold orG at hz
    rw [e] at hz
    cases hz
    exact h pins s σ H vs us Q I r ⟨ι, S, x, v, z, ev, so, rx, e, q⟩
  | none =>
    unfold orG at hz
    rw [e] at hz
    exact h' pins s σ H vs us Q I r ⟨ι, S, x, v, z, ev, so, rx, hz, q⟩
theorem de_orG {W : Sg → Wish} {e : Expr} {g g' : Sto → Val → Option Val} {ma : XE} (h : PE X e (liftE X.mo W (xUn g ma))) (h' : PE X e (liftE X.mo W (xUn g' ma))) : PE X e (liftE X.mo W (xUn (orG g g') ma)) := by
  refine ⟨fun pins s σ H Q I ⟨ρ, ι, S, en, so, hp⟩ => ?_⟩
  cases em : ma ρ S with
  | fail => unfold xUn at hp; rw [em] at hp; exact hp.elim
  | raise x S1 =>
    refine h.run pins s σ H Q I ⟨ρ, ι, S, en, so, ?_⟩
    unfold xUn at hp ⊢
    rw [em] at hp ⊢
    exact hp
  | ok x S1 =>
    cases eg : g S1 x with
    | some z =>
      refine h.run pins s σ H Q I ⟨ρ, ι, S, en, so, ?_⟩
      unfold xUn at hp ⊢
      rw [em] at hp ⊢
      rw [Res.bind_ok] at hp ⊢
      unfold orG at hp
      rw [eg] at hp ⊢
      exact hp
    | none =>
      refine h'.run pins s σ H Q I ⟨ρ, ι, S, en, so, ?_⟩
      unfold xUn at hp ⊢
      rw [em] at hp ⊢
      rw [Res.bind_ok] at hp ⊢
      unfold orG at hp
      rw [eg] at hp
      exact hp
def compG (g g' : Sto → Val → Option Val) : Sto → Val → Option Val := fun S x => (g S x).bind (g' S)
theorem xUn_comp (g g' : Sto → Val → Option Val) (m : XE) : xUn g' (xUn g m) = xUn (compG g g') m := by
  funext ρ S
  unfold xUn compG
  cases m ρ S with
  | fail => rfl
  | raise x S1 => rfl
  | ok x S1 =>
    simp only [Res.bind_ok]
    cases g S1 x <;> rfl
end
end NB
end
section
set_option Elab.async false
set_option linter.all false
set_option maxRecDepth 100000
set_option maxHeartbeats 1000000
/-! Core 14: what an expression of the text stands for. -/
namespace NB
open PySem PySem.Spec PyProof.Rows L2
open Classical

/-- the module's names: its defs, the built-ins that stand free, its numbers -/
structure Tb where
  defs : List Str
  free : List Str
  nums : List (Str × Int)
/-- where an expression stands: the slots' names, the block's names, what may be stored, what will be changed -/
structure Sc where
  N : List Str
  sc : Scope
  fn : Str → Bool
  chg : List Str
def slotOf : List Str → Str → Option Nat
  | [], _ => none
  | y :: r, x => if y = x then some 0 else (slotOf r x).map (· + 1)
theorem slotOf_ok : ∀ {N : List Str} {x : Str} {i : Nat}, slotOf N x = some i → N[i]? = some x
  | y :: r, x, i, h => by
    have h : (if y = x then some 0 else (slotOf r x).map (· + 1)) = some i := h
    by_cases e : y = x
    · rw [if_pos e] at h; cases h; subst e; rfl
    · rw [if_neg e] at h
      obtain ⟨j, hj, rfl⟩ := Option.map_eq_some_iff.mp h
      simpa using slotOf_ok hj
def isStar : Expr → Bool
  | .Starred .. => true
  | _ => false
def isSlice : Expr → Bool
  | .Slice .. => true
  | _ => false
def isCallE : Expr → Bool
  | .Call .. => true
  | _ => false
def isSetE : Expr → Bool
  | .Set .. => true
  | _ => false
def plainT : Expr → Bool
  | .UnaryOp .Not _ _ => false
  | .BoolOp .. => false
  | .IfExp .. => false
  | .Compare .. => false
  | _ => true
theorem star_one {e : Expr} {es : List Expr} {env : PySem.Env} (h : isStar e = false) : starEach (e :: es) env = (false, eval e env) :: starEach es env := by
  cases e <;> first | rfl | cases h
theorem assign_one {e : Expr} {es : List Expr} {env : PySem.Env} (h : isStar e = false) : assignEach (e :: es) env = (false, assign e env) :: assignEach es env := by
  cases e <;> first | rfl | cases h
theorem plainIx_of {e : Expr} (h : isSlice e = false) : PlainIx e := by
  intro o i
  cases e <;> first | rfl | cases h
theorem base_of {e : Expr} {nm : Str} {env : PySem.Env} (h : isCallE e = false) : attributeBase e nm env (eval e env) = eval e env := by
  cases e <;> first | rfl | cases h
theorem notSet_of {e : Expr} {env : PySem.Env} (h : isSetE e = false) (x : Value) : foldedSetIterable e env x = pure x := by
  cases e <;> first | rfl | cases h
theorem plainT_of {e : Expr} {env : PySem.Env} (h : plainT e = true) (whole : Sem Value) : isTrue e env whole = (do let v ← whole; standAt e.pos; holding [v] (truthy v)) := by
  cases e with
  | UnaryOp op x p => cases op <;> first | rfl | cases h
  | _ => first | rfl | cases h
theorem stars_none {es : List Expr} {env : PySem.Env} {pos : Pos} (h : es.all (fun e => !isStar e) = true) : (backTo pos (starEach es env)).any (·.1) = false := by
  induction es with
  | nil => rfl
  | cons e es ih =>
    rw [List.all_cons, Bool.and_eq_true, Bool.not_eq_true'] at h
    rw [star_one h.1]
    exact ih h.2
theorem asg_map {es : List Expr} {env : PySem.Env} (h : es.all (fun e => !isStar e) = true) : (assignEach es env).length = es.length ∧ (assignEach es env).findIdx? (·.1) = none := by
  induction es with
  | nil => exact ⟨rfl, rfl⟩
  | cons e es ih =>
    rw [List.all_cons, Bool.and_eq_true, Bool.not_eq_true'] at h
    rw [assign_one h.1]
    obtain ⟨i1, i2⟩ := ih h.2
    exact ⟨by simp [i1], by simp [List.findIdx?_cons, i2]⟩
def relab (scope sc : Scope) : Scope :=
  { scope with names := scope.names.map fun (n, k) => if (k == .free && sc.kind == .function && sc.names.lookup n == some .cell) then (n, .cell) else (n, k) }
theorem relab_env (scope : Scope) (cl : List (Str × Addr)) (C : Addr) (env : PySem.Env) : (compEnvC scope cl C env).scope = relab scope env.scope := rfl
/-- the names that are a block's own, with their slots -/
def ownOf (N : List Str) : List (Str × NameKind) → List (Str × Nat)
  | [] => []
  | (x, k) :: r => match k with
    | .local => (match slotOf N x with
      | some i => (x, i) :: ownOf N r
      | none => ownOf N r)
    | .cell => (match slotOf N x with
      | some i => (x, i) :: ownOf N r
      | none => ownOf N r)
    | _ => ownOf N r
def inner (c : Sc) (scope : Scope) : Sc := ⟨c.N, relab scope c.sc, fun x => scope.names.lookup x == some .cell, []⟩

/-! ### the parts -/
abbrev RecE := Sc → Bool → Expr → XE
def xFail : XE := fun _ _ => .fail
def tFail : XT := fun _ _ => .fail
def iFail : XI := fun _ _ => .fail
def aFail : XA := fun _ _ => .fail
def cmpG : CmpOp → Option (Sto → Val → Val → Option Val)
  | .Eq => some (lift2 dEq)
  | .NotEq => some (lift2 dNe)
  | .Lt => some (lift2 dLt)
  | .LtE => some (lift2 dLe)
  | .Gt => some (lift2 dGt)
  | .GtE => some (lift2 dGe)
  | .Is => some gIsN
  | .IsNot => some gNotN
  | .In => some gIn
  | .NotIn => some gNotIn
def binG : Operator → Option (Sto → Val → Val → Option Val)
  | .Add => some (lift2 dAdd)
  | .Sub => some (lift2 dSub)
  | .Mult => some (lift2 dMul)
  | .Mod => some (lift2 dMod)
  | .FloorDiv => some (lift2 dFdiv)
  | .Pow => some (lift2 dPow)
  | _ => none
def denCmp (R : RecE) (c : Sc) (l : Expr) (ops : List CmpOp) (cs : List Expr) : XE := match ops, cs with
  | [op], [b] => if behindInMarks op b then xFail else match cmpG op with
    | some g => xBin g (R c false l) (R c false b)
    | none => xFail
  | [op, op'], [b, b'] => if lastMarks [op, op'] [b, b'] then xFail else match cmpG op, cmpG op' with
    | some g, some g' => xChain g g' (R c false l) (R c false b) (R c false b')
    | _, _ => xFail
  | _, _ => xFail
def denAnd (f : Expr → XT) : List Expr → XT
  | [] => tFail
  | [a] => f a
  | a :: b :: r => tAndX (f a) (denAnd f (b :: r))
def denOr (f : Expr → XT) : List Expr → XT
  | [] => tFail
  | [a] => f a
  | a :: b :: r => tOrX (f a) (denOr f (b :: r))
def denT (R : RecE) (c : Sc) : Nat → Expr → XT
  | 0, _ => tFail
  | k + 1, e => match e with
    | .BoolOp .And es _ => denAnd (denT R c k) es
    | .BoolOp .Or es _ => denOr (denT R c k) es
    | .UnaryOp .Not x _ => tNotX (denT R c k x)
    | .Compare l ops cs _ => tVal (denCmp R c l ops cs)
    | e => if plainT e then tVal (R c false e) else tFail
def denBool (g : XE → XE → XE) (f : Expr → XE) : List Expr → XE
  | [] => xFail
  | [a] => f a
  | a :: b :: r => g (f a) (denBool g f (b :: r))
def denA (R : RecE) (c : Sc) : List Expr → XA
  | [] => aNil
  | e :: es => if isStar e then aFail else aCons (R c false e) (denA R c es)
def okName (x : Str) : Bool := !(x == ("__debug__" : Str)) && !(x == ("__classdict__" : Str))
def denName (T : Tb) (c : Sc) (x : Str) : XE := match c.sc.names.lookup x with
  | some .globalImplicit => if T.defs.contains x then (if okName x then xFn x else xFail) else match T.nums.lookup x with
    | some i => if okName x then xC (.int i) else xFail
    | none => xFail
  | some .globalExplicit => xFail
  | some _ => match slotOf c.N x with
    | some i => if okName x then xSlot i else xFail
    | none => xFail
  | none => xFail
def tyOfName (x : Str) : Option Ty :=
  if x = "int" then some .int else if x = "bool" then some .bool else if x = "str" then some .str else if x = "tuple" then some .tuple else if x = "list" then some .list else if x = "dict" then some .dict else none
/-- a name that stands for the built-in thing of that name -/
def isFree (T : Tb) (c : Sc) (x : Str) : Bool := T.free.contains x && decide (c.sc.names.lookup x = some .globalImplicit)
/-- set(e) -/
def setArg (T : Tb) (c : Sc) : Expr → Option Expr
  | .Call (.Name y _) [e] [] _ => if y = "set" ∧ isFree T c "set" = true ∧ isStar e = false then some e else none
  | _ => none
def denBlt (T : Tb) (R : RecE) (c : Sc) (cell : Bool) (x : Str) (args : List Expr) : XE :=
  if isFree T c x then match args with
    | [a] => if isStar a then xFail else match setArg T c a with
      | some e => if x = "len" then xUn gLenSet (R c false e) else if x = "sorted" then xUn (orG gSortSet (compG gSet gSortS)) (R c false e) else xFail
      | none =>
      if x = "len" then xUn gLen (R c false a)
      else if x = "tuple" then xUn gTuple (R c false a)
      else if x = "list" then (if cell then xListC (R c false a) else xUn gList (R c false a))
      else if x = "int" then xUn gInt (R c false a)
      else if x = "repr" then xUn gRepr (R c false a)
      else if x = "all" then xUn gAll (R c false a)
      else if x = "any" then xUn gAny (R c false a)
      else if x = "sorted" then xUn (orG gSorted gSortS) (R c false a)
      else if x = "set" then xUn gSet (R c false a)
      else xFail
    | [a, b] => if isStar a || isStar b then xFail else
      if x = "isinstance" then (match b with
        | .Name tn _ => (match tyOfName tn with
          | some t => if isFree T c tn then xUn (gIsi t) (R c false a) else xFail
          | none => xFail)
        | _ => xFail)
      else if x = "max" then xBin gMax2 (R c false a) (R c false b)
      else if x = "min" then xBin gMin2 (R c false a) (R c false b)
      else xFail
    | _ => xFail
  else xFail
def denCall (T : Tb) (Γ : FT) (R : RecE) (c : Sc) (cell : Bool) (f : Expr) (args : List Expr) (kws : List Keyword) (pos : Pos) : XE := match kws with
  | [] => (match f with
    | .Name x _ => if T.defs.contains x && decide (c.sc.names.lookup x = some .globalImplicit) then (if okName x && args.all (fun e => !isStar e) then xCall (Γ x) (denA R c args) else xFail) else denBlt T R c cell x args
    | .Attribute o m apos => (match args with
      | [a] => if isStar a || (isCallE o || !(apos.endLine == pos.line)) then xFail
        else if m = "append" then xMeth putApp (R c false o) (R c false a)
        else if m = "extend" then xMeth putExt (R c false o) (R c false a)
        else xFail
      | _ => xFail)
    | _ => xFail)
  | _ => xFail
def denIt (T : Tb) (R : RecE) (c : Sc) (tup : Bool) (e : Expr) : XI := match e with
  | .Call (.Name x _) args [] _ => if isFree T c x then (
      if x = "range" then (match args with
        | [a] => if isStar a then iFail else iRange1 (R c false a)
        | [a, b] => if isStar a || isStar b then iFail else iRange2 (R c false a) (R c false b)
        | _ => iFail)
      else if x = "enumerate" then (match args with
        | [a] => if isStar a || !tup then iFail else iEnumL (R c false a)
        | _ => iFail)
      else if x = "zip" then iFail
      else iSeq (R c false e))
    else iSeq (R c false e)
  | e => if isSetE e then iFail else iSeq (R c false e)
def isTupE : Expr → Bool
  | .Tuple .. => true
  | _ => false
def storable (c : Sc) (x : Str) : Bool := decide (c.sc.names.lookup x = some .local) || (c.fn x && decide (c.sc.names.lookup x = some .cell))
def denGs (f : Expr → Option Tg) : List Expr → Option Tgs
  | [] => some gsNil
  | e :: es => if isStar e then none else match f e, denGs f es with
    | some g, some gs => some (gsCons g gs)
    | _, _ => none
def denG (c : Sc) : Nat → Expr → Option Tg
  | 0, _ => none
  | k + 1, e => match e with
    | .Name x _ => if storable c x then (slotOf c.N x).map gN else none
    | .Tuple es _ _ => (denGs (denG c k) es).map gT
    | _ => none
def denIfs (R : RecE) (c : Sc) : List Expr → XT
  | [] => xTrue
  | [t] => denT R c 8 t
  | _ => tFail
noncomputable def denLc (T : Tb) (R : RecE) (c : Sc) (cell : Bool) (elt : Expr) (gens : List Comprehension) (scope : Scope) : XE := match gens with
  | [⟨tg, iter, ifs, 0⟩] => if blkC c.N c.sc scope (ownOf c.N scope.names) && !isSetE iter then (match denG (inner c scope) 4 tg with
      | some g => if g.slots.all (fun i => ((ownOf c.N scope.names).map (·.2)).contains i) then (if cell then xLcC else xLc) ((ownOf c.N scope.names).map (·.2)) (denIt T R c (isTupE tg) iter) g (denIfs R (inner c scope) ifs) (R (inner c scope) false elt) else xFail
      | none => xFail) else xFail
  | [⟨tg, iter, ifs, 0⟩, ⟨tg1, iter1, ifs1, 0⟩] => if blkC c.N c.sc scope (ownOf c.N scope.names) && (!isSetE iter && !isSetE iter1) then (match denG (inner c scope) 4 tg, denG (inner c scope) 4 tg1 with
      | some g, some g1 => if g.slots.all (fun i => ((ownOf c.N scope.names).map (·.2)).contains i) && g1.slots.all (fun i => ((ownOf c.N scope.names).map (·.2)).contains i) then
          (if cell then xLc2C else xLc2) ((ownOf c.N scope.names).map (·.2)) g1.slots (denIt T R c (isTupE tg) iter) g (denIfs R (inner c scope) ifs) (denIt T R (inner c scope) (isTupE tg1) iter1) g1 (denIfs R (inner c scope) ifs1) (R (inner c scope) false elt) else xFail
      | _, _ => xFail) else xFail
  | _ => xFail
noncomputable def denDc (T : Tb) (R : RecE) (c : Sc) (cell : Bool) (k v : Expr) (gens : List Comprehension) (scope : Scope) : XE := match gens with
  | [⟨tg, iter, ifs, 0⟩] => if blkC c.N c.sc scope (ownOf c.N scope.names) && !isSetE iter then (match denG (inner c scope) 4 tg with
      | some g => if g.slots.all (fun i => ((ownOf c.N scope.names).map (·.2)).contains i) then (if cell then xDcC else xDc) ((ownOf c.N scope.names).map (·.2)) (denIt T R c (isTupE tg) iter) g (denIfs R (inner c scope) ifs) (R (inner c scope) false k) (R (inner c scope) false v) else xFail
      | none => xFail) else xFail
  | _ => xFail
def denO (R : RecE) (c : Sc) : Option Expr → XO
  | none => oNo
  | some e => oSo (R c false e)
def denSub (R : RecE) (c : Sc) (a b : Expr) : XE := match b with
  | .Slice lo hi none _ => xSl (R c false a) (denO R c lo) (denO R c hi)
  | .Slice none none (some (.UnaryOp .USub (.Constant (.int 1) _ _) _)) _ => xUn gRev (R c false a)
  | b => if isSlice b then xFail else xBin gIx (R c false a) (R c false b)
noncomputable def denE (T : Tb) (Γ : FT) : Nat → RecE
  | 0, _, _, _ => xFail
  | n + 1, c, cell, e => match e with
    | .Constant .none _ _ => xC .none
    | .Constant (.bool b) _ _ => xC (.bool b)
    | .Constant (.int i) _ _ => xC (.int i)
    | .Constant (.str s) _ _ => xC (.str s)
    | .Name x _ => denName T c x
    | .BinOp a op b _ => (match binG op with
      | some g => xBin g (denE T Γ n c false a) (denE T Γ n c false b)
      | none => xFail)
    | .UnaryOp .USub a _ => xUn (lift1 dNeg) (denE T Γ n c false a)
    | .UnaryOp .Not a _ => xUn (lift1 dNot) (denE T Γ n c false a)
    | .BoolOp .And es _ => denBool xAnd (denE T Γ n c false) es
    | .BoolOp .Or es _ => denBool xOr (denE T Γ n c false) es
    | .Compare l ops cs _ => denCmp (denE T Γ n) c l ops cs
    | .IfExp t a b _ => xIf (denT (denE T Γ n) c 8 t) (denE T Γ n c cell a) (denE T Γ n c cell b)
    | .Tuple es _ _ => if decide (es.length ≤ 1000) then xTup (denA (denE T Γ n) c es) else xFail
    | .List es _ => if decide (es.length ≤ 1000) then (if cell then xLstC (denA (denE T Γ n) c es) else xLst (denA (denE T Γ n) c es)) else xFail
    | .Dict [] [] _ => if cell then xDct0C else xDct0
    | .Subscript a b _ => denSub (denE T Γ n) c a b
    | .Call f args kws pos => denCall T Γ (denE T Γ n) c cell f args kws pos
    | .ListComp elt gens scope _ => denLc T (denE T Γ n) c cell elt gens scope
    | .DictComp k v gens scope _ => denDc T (denE T Γ n) c cell k v gens scope
    | _ => xFail
end NB
end
section
set_option Elab.async false
set_option linter.all false
set_option maxRecDepth 100000
set_option maxHeartbeats 1000000
/-! Core 15: what a statement, a def of the text stands for. -/
namespace NB
open PySem PySem.Spec PyProof.Rows L2
open Classical

def sFail : XSt := fun _ _ => .fail
def isComp : Expr → Bool
  | .ListComp .. => true
  | .SetComp .. => true
  | .DictComp .. => true
  | _ => false
def compNames : Expr → List (Str × NameKind)
  | .ListComp _ _ s _ => s.names
  | .SetComp _ _ s _ => s.names
  | .DictComp _ _ _ s _ => s.names
  | _ => []
def blkOf (sc : Scope) : ScopeKind := if sc.kind.isAnnotationScope then .function else sc.kind
/-- name = [..] stores in the comprehension's own way -/
def swaps (sc : Scope) (v : Expr) (x : Str) (px : Pos) : Bool :=
  isComp v && (blkOf sc == .function && sc.names.lookup x == some .local && px.line == v.pos.line && !((compNames v).any fun (n, k) => n == x && (k == .local || k == .cell)))
def nameAt (sc : Scope) (line : Nat) : Expr → Option Str
  | .Name id pos => if sc.names.lookup id == some .local && pos.line == line then some id else none
  | _ => none
/-- how a, b = x, y stores -/
def swN (sc : Scope) (ts vs : List Expr) : Option (Option (List Str)) :=
  if (!(ts.length == 2 || ts.length == 3) || vs.length != ts.length || blkOf sc != .function) = true then some none else
  if vs.any isStar = true then some none else
  if ((ts.filterMap (nameAt sc ((ts.head?.map (·.pos.line)).getD 0))).length != ts.length || (ts.filterMap (nameAt sc ((ts.head?.map (·.pos.line)).getD 0))).eraseDups.length != (ts.filterMap (nameAt sc ((ts.head?.map (·.pos.line)).getD 0))).length) = true then some none else
  if vs.all (foldedForSure 8) = true then some none else
  if vs.all (constantsAlone 8) = true then none else
  some (some (ts.filterMap (nameAt sc ((ts.head?.map (·.pos.line)).getD 0))))
theorem swN_ok {env : PySem.Env} {ts vs : List Expr} {k k2 : Nat} {p p2 : Pos} {r : Option (List Str)} (h : swN env.scope ts vs = some r) : swappedStores [.Tuple ts k p] (.Tuple vs k2 p2) env = pure r := by
  unfold swN at h
  unfold swappedStores
  have eb : env.blockKind = blkOf env.scope := rfl
  simp only [eb, Env.kindOf]
  generalize blkOf env.scope = bk at h ⊢
  have en : ∀ f' : Expr → Option Str, (∀ e, f' e = nameAt env.scope ((ts.head?.map (·.pos.line)).getD 0) e) → ts.filterMap f' = ts.filterMap (nameAt env.scope ((ts.head?.map (·.pos.line)).getD 0)) := fun f' h => by rw [show f' = _ from funext h]
  have es : ∀ f' : Expr → Bool, (∀ e, f' e = isStar e) → vs.any f' = vs.any isStar := fun f' h => by rw [show f' = _ from funext h]
  by_cases h1 : (!(ts.length == 2 || ts.length == 3) || vs.length != ts.length || bk != .function) = true
  · rw [if_pos h1] at h; cases h; exact (if_pos h1).trans rfl
  rw [if_neg h1] at h
  refine (if_neg h1).trans ?_
  by_cases h2 : vs.any isStar = true
  · rw [if_pos h2] at h; cases h
    refine (if_pos ?_).trans rfl
    rw [es]
    · exact h2
    · intro e; cases e <;> rfl
  rw [if_neg h2] at h
  refine (if_neg ?_).trans ?_
  · rw [es]
    · exact h2
    · intro e; cases e <;> rfl
  generalize hn : ts.filterMap (nameAt env.scope ((ts.head?.map (·.pos.line)).getD 0)) = names at h en
  by_cases h3 : (names.length != ts.length || names.eraseDups.length != names.length) = true
  · rw [if_pos h3] at h; cases h
    refine (if_pos ?_).trans rfl
    rw [en]
    · exact h3
    · intro e; cases e <;> rfl
  rw [if_neg h3] at h
  refine (if_neg ?_).trans ?_
  · rw [en]
    · exact h3
    · intro e; cases e <;> rfl
  by_cases h4 : vs.all (foldedForSure 8) = true
  · rw [if_pos h4] at h; cases h; exact (if_pos h4).trans rfl
  rw [if_neg h4] at h
  refine (if_neg h4).trans ?_
  by_cases h5 : vs.all (constantsAlone 8) = true
  · rw [if_pos h5] at h; cases h
  rw [if_neg h5] at h
  refine (if_neg h5).trans ?_
  cases h
  rw [en]
  intro e; cases e <;> rfl
/-- .. where the values are no written tuple, or the target none -/
theorem sw_none1 {t v : Expr} {env : PySem.Env} (h : isTupE t = false ∨ isTupE v = false) (hl : ∀ es p, t ≠ .List es p) : swappedStores [t] v env = pure none := by
  unfold swappedStores
  cases t <;> first
    | rfl
    | exact absurd rfl (hl _ _)
    | (cases v <;> first | rfl | (rcases h with h | h <;> cases h))
theorem swaps_no {v : Expr} {t : Option Expr} {line : Nat} {env : PySem.Env} (h : isComp v = false) : swapsWith v t line env = pure false := by
  cases v <;> first | rfl | cases h
theorem swaps_other {v t : Expr} {line : Nat} {env : PySem.Env} (h : ∀ x p, t ≠ .Name x p) : swapsWith v (some t) line env = pure false := by
  cases v <;> first
    | rfl
    | (cases t <;> first | rfl | exact absurd rfl (h _ _))
theorem swaps_name {v : Expr} {x : Str} {px : Pos} {line : Nat} {env : PySem.Env} : swapsWith v (some (.Name x px)) line env = pure (swaps env.scope v x px) := by
  cases v <;> first
    | rfl
    | (unfold swapsWith swaps isComp compNames Env.blockKind blkOf Env.kindOf
       rfl)
/-! ### what it stands for -/
def denSs (f : Stmt → XSt) : List Stmt → XSt
  | [] => sNil
  | [s] => f s
  | s :: t :: r => sSeq (f s) (denSs f (t :: r))
def slots2 (c : Sc) : List Str → Option (List Nat)
  | [] => some []
  | x :: r => match slotOf c.N x, slots2 c r with
    | some i, some l => some (i :: l)
    | _, _ => none
/-- name, name = x, y -/
noncomputable def denPar (T : Tb) (Γ : FT) (n : Nat) (c : Sc) (ts vs : List Expr) (xs : List Str) : XSt := match ts, xs with
  | [.Name x _, .Name y _], [x', y'] => if x = x' ∧ y = y' then (match slotOf c.N x, slotOf c.N y with
      | some i, some j => if i ≠ j ∧ (c.sc.names.lookup x = some .local ∧ c.sc.names.lookup y = some .local) ∧ vs.all (fun e => !isStar e) = true then (match vs with
          | [a, b] => sPar2 i j (aCons (denE T Γ n c (c.chg.contains x) a) (aCons (denE T Γ n c (c.chg.contains y) b) aNil))
          | _ => sFail) else sFail
      | _, _ => sFail) else sFail
  | [.Name x _, .Name y _, .Name z _], [x', y', z'] => if x = x' ∧ y = y' ∧ z = z' then (match slotOf c.N x, slotOf c.N y, slotOf c.N z with
      | some i, some j, some l => if (i ≠ j ∧ i ≠ l ∧ j ≠ l) ∧ (c.sc.names.lookup x = some .local ∧ c.sc.names.lookup y = some .local ∧ c.sc.names.lookup z = some .local) ∧ vs.all (fun e => !isStar e) = true then (match vs with
          | [a, b, d] => sPar3 i j l (aCons (denE T Γ n c (c.chg.contains x) a) (aCons (denE T Γ n c (c.chg.contains y) b) (aCons (denE T Γ n c (c.chg.contains z) d) aNil)))
          | _ => sFail) else sFail
      | _, _, _ => sFail) else sFail
  | _, _ => sFail
noncomputable def denAsg (T : Tb) (Γ : FT) (n : Nat) (c : Sc) (t v : Expr) : XSt := match t with
  | .Name x px => if storable c x then (match slotOf c.N x with
      | some i => if swaps c.sc v x px && !decide (c.sc.names.lookup x = some .local) then sFail else sAsg (denE T Γ n c (c.chg.contains x) v) (gN i)
      | none => sFail) else sFail
  | .Tuple ts k p => (match v with
    | .Tuple vs k2 p2 => (match swN c.sc ts vs with
      | some (some xs) => denPar T Γ n c ts vs xs
      | some none => (match denG c 4 (.Tuple ts k p) with
        | some g => sAsg (denE T Γ n c false (.Tuple vs k2 p2)) g
        | none => sFail)
      | none => sFail)
    | v => (match denG c 4 (.Tuple ts k p) with
      | some g => if isTupE v then sFail else sAsg (denE T Γ n c false v) g
      | none => sFail))
  | .Subscript o i _ => if isSlice i then sFail else sPut (denE T Γ n c false o) (denE T Γ n c false i) (denE T Γ n c false v)
  | _ => sFail
noncomputable def denS (T : Tb) (Γ : FT) (n : Nat) (c : Sc) : Nat → Stmt → XSt
  | 0, _ => sFail
  | k + 1, st => match st with
    | .Expr e _ => if isComp e then sFail else sDrop (denE T Γ n c false e)
    | .Assign [t] v _ => denAsg T Γ n c t v
    | .Return (some e) _ => sRet (denE T Γ n c (c.chg.contains "return") e)
    | .Return none _ => sRetN
    | .If t a b _ => sIf (denT (denE T Γ n) c 8 t) (denSs (denS T Γ n c k) a) (denSs (denS T Γ n c k) b)
    | .For tg iter body [] _ => if isSetE iter then sFail else (match denG c 4 tg with
      | some g => sFor (denIt T (denE T Γ n) c (isTupE tg) iter) g (denSs (denS T Γ n c k) body)
      | none => sFail)
    | .Pass _ => sNil
    | .Break _ => sBrk
    | .Continue _ => sCnt
    | _ => sFail
/-- a def: its parameters, its slots, what it changes, whether what it makes stays to be changed -/
structure Fd where
  name : Str
  ps : List Str
  N : List Str
  chg : List Str
  keep : Bool
  params : Arguments
  body : List Stmt
  scope : Scope
def Fd.sc (d : Fd) : Sc := ⟨d.N, d.scope, fun _ => true, d.chg⟩
noncomputable def denF (T : Tb) (Γ : FT) (d : Fd) : List Val → Sto → Res Val := runFn d.N d.ps d.keep (denSs (denS T Γ 24 d.sc 12) d.body)
def findFd : List Fd → Str → Option Fd
  | [], _ => none
  | d :: r, x => if d.name = x then some d else findFd r x
/-- the defs, to a depth of calls -/
noncomputable def fns (T : Tb) (ds : List Fd) : Nat → FT
  | 0 => fun _ _ _ => .fail
  | n + 1 => fun x => match findFd ds x with
    | some d => denF T (fns T ds n) d
    | none => fun _ _ => .fail
end NB
end
section
set_option Elab.async false
set_option linter.all false
set_option maxRecDepth 100000
set_option maxHeartbeats 1000000
/-! Core 16: an expression does what it stands for. -/
namespace NB
open PySem PySem.Spec PyProof.Rows L2
open Classical

/-- the context X is that of an expression at c, the defs to depth k behind it -/
structure CxOk (T : Tb) (Γ : FT) (k : Nat) (c : Sc) (X : Cx) : Prop where
  N : X.N = c.N
  nd : X.N.Nodup
  sc : X.env.scope = c.sc
  fn : X.fn = c.fn
  calm : X.calm = true
  room : Room k X.A
  gs : X.A.guards = some []
  free : ∀ x, T.free.contains x = true → X.mg x = none
  nums : ∀ x i, T.nums.lookup x = some i → ∃ t, X.mg x = some (.int i t)
  defs : ∀ x, T.defs.contains x = true → ∃ f fd ps, X.mg x = some (.ref f) ∧ FnG X.prog X.w X.K X.mg X.base noCX k f fd ps (spG X.mo (Γ x)) ∧ PySem.W.keepIn X.K (.ref f) = true ∧ Binds X.K fd ps []
theorem CxOk.inner {T : Tb} {Γ : FT} {k : Nat} {c : Sc} {X : Cx} (h : CxOk T Γ k c X) (s : Shared) (H : Hp) (scope : Scope) (C : Addr) (cl : List (Str × Addr)) (fp : List Addr) : CxOk T Γ k (inner c scope) (X.blk s H scope (compEnvC scope cl C X.env) fp) :=
  ⟨h.N, h.nd, by show (compEnvC scope cl C X.env).scope = _; rw [relab_env, h.sc]; rfl, rfl, h.calm, h.room, h.gs, h.free, h.nums, h.defs⟩
def RecOk (T : Tb) (Γ : FT) (k : Nat) (R : RecE) : Prop := ∀ c X, CxOk T Γ k c X → ∀ cell e, PE X e (liftE X.mo noW (R c cell e))
section
variable {X : Cx} {W : Sg → Wish}
theorem de_fail {e : Expr} : PE X e (liftE X.mo W xFail) := ⟨fun _ _ _ _ _ _ ⟨_, _, _, _, _, h⟩ => h.elim⟩
theorem dt_fail {e : Expr} : PT X e (liftT X.mo W tFail) := ⟨fun _ _ _ _ _ _ ⟨_, _, _, _, _, h⟩ => h.elim⟩
theorem da_fail {es : List Expr} : PA X es (liftA X.mo W aFail) := ⟨fun _ _ _ _ _ _ _ ⟨_, _, _, _, _, h⟩ => h.elim⟩
theorem di_fail {tg e : Expr} : PI X tg e (liftI X.mo W iFail) := ⟨fun _ _ _ _ _ _ ⟨_, _, _, _, _, h⟩ => h.elim⟩
theorem dts_fail {es : List Expr} : PTs X es (liftT X.mo W tFail) := ⟨fun _ _ _ _ _ _ ⟨_, _, _, _, _, h⟩ => h.elim⟩
theorem dso_fail {st : Stmt} : PS X st (liftS X.mo W sFail) := ⟨fun _ _ _ _ _ _ ⟨_, _, _, _, _, h⟩ => h.elim⟩
end
section
variable {T : Tb} {Γ : FT} {k : Nat} {c : Sc} {X : Cx} {R : RecE}
theorem CxOk.u1 (h : CxOk T Γ k c X) : X.A.units + 1 < cLine := by have := h.room.un; omega
theorem CxOk.u72 (h : CxOk T Γ k c X) : X.A.units + 72 < cLine := by have := h.room.un; omega
theorem CxOk.u24 (h : CxOk T Γ k c X) : X.A.units + 24 < cLine := by have := h.room.un; omega
theorem CxOk.u64 (h : CxOk T Γ k c X) : X.A.units + 64 < cLine := by have := h.room.un; omega
theorem cmp_ok (h : CxOk T Γ k c X) {op : CmpOp} {g : Sto → Val → Val → Option Val} (e : cmpG op = some g) : OpR X (compareOp op) (rOp X.mo g) := by
  cases op <;> (unfold cmpG at e; cases e)
  · exact os_eq h.u64
  · exact os_ne h.u64
  · exact os_lt h.u64
  · exact os_le
  · exact os_gt
  · exact os_ge
  · exact os_isN
  · exact os_notN
  · exact os_in h.u72
  · exact os_notIn h.u72
theorem bin_ok {op : Operator} {g : Sto → Val → Val → Option Val} (e : binG op = some g) : OpR X (binaryOp op) (rOp X.mo g) := by
  cases op <;> (unfold binG at e; cases e)
  · exact os_add
  · exact os_sub
  · exact os_mul
  · exact os_mod
  · exact os_pow
  · exact os_fdiv
theorem denCmp_ok (HR : RecOk T Γ k R) (h : CxOk T Γ k c X) (l : Expr) (ops : List CmpOp) (cs : List Expr) (pos : Pos) : PE X (.Compare l ops cs pos) (liftE X.mo noW (denCmp R c l ops cs)) ∧ PT X (.Compare l ops cs pos) (liftT X.mo noW (tVal (denCmp R c l ops cs))) := by
  have bad : ∀ {e : Expr}, PT X e (liftT X.mo noW (tVal xFail)) := ⟨fun _ _ _ _ _ _ ⟨_, _, _, _, _, h⟩ => h.elim⟩
  unfold denCmp
  split
  · split
    · exact ⟨de_fail, bad⟩
    · rename_i hm
      split
      · rename_i g e
        exact ⟨de_cmp (cmp_ok h e) (HR c X h false _) (HR c X h false _) (by simpa using hm), dt_cmp (cmp_ok h e) (HR c X h false _) (HR c X h false _) (by simpa using hm)⟩
      · exact ⟨de_fail, bad⟩
  · split
    · exact ⟨de_fail, bad⟩
    · rename_i hm
      split
      · rename_i g g' e e'
        exact ⟨de_chain (cmp_ok h e) (cmp_ok h e') (HR c X h false _) (HR c X h false _) (HR c X h false _) (by simpa using hm), dt_chain (cmp_ok h e) (cmp_ok h e') (HR c X h false _) (HR c X h false _) (HR c X h false _) (by simpa using hm)⟩
      · exact ⟨de_fail, bad⟩
  · exact ⟨de_fail, bad⟩
theorem denAnd_ok {f : Expr → XT} (hf : ∀ e, PT X e (liftT X.mo noW (f e))) (pos : Pos) : ∀ es, PW X (.BoolOp .And es pos) (liftT X.mo noW (denAnd f es))
  | [] => ⟨fun _ _ _ _ _ _ _ ⟨_, _, _, _, _, h⟩ => h.elim⟩
  | [a] => dw_and1 (hf a)
  | a :: b :: r => dw_and (hf a) (denAnd_ok hf pos (b :: r))
theorem denOr_ok {f : Expr → XT} (hf : ∀ e, PT X e (liftT X.mo noW (f e))) (pos : Pos) : ∀ es, PW X (.BoolOp .Or es pos) (liftT X.mo noW (denOr f es))
  | [] => ⟨fun _ _ _ _ _ _ _ ⟨_, _, _, _, _, h⟩ => h.elim⟩
  | [a] => dw_or1 (hf a)
  | a :: b :: r => dw_or (hf a) (denOr_ok hf pos (b :: r))
theorem denT_ok (HR : RecOk T Γ k R) (h : CxOk T Γ k c X) : ∀ j e, PT X e (liftT X.mo noW (denT R c j e))
  | 0, e => dt_fail
  | j + 1, e => by
    have plain : ∀ e', PT X e' (liftT X.mo noW (if plainT e' then tVal (R c false e') else tFail)) := fun e' => by
      split
      · rename_i hp
        exact dt_val (HR c X h false _) (plainT_of hp)
      · exact dt_fail
    unfold denT
    split
    · exact (denAnd_ok (denT_ok HR h j) _ _).pt
    · exact (denOr_ok (denT_ok HR h j) _ _).pt
    · exact dt_not (denT_ok HR h j _)
    · exact (denCmp_ok HR h _ _ _ _).2
    · exact plain _
theorem denAndE_ok {f : Expr → XE} (hf : ∀ e, PE X e (liftE X.mo noW (f e))) (pos : Pos) : ∀ es, PE X (.BoolOp .And es pos) (liftE X.mo noW (denBool xAnd f es))
  | [] => de_fail
  | [a] => de_one (hf a)
  | a :: b :: r => de_and (hf a) (denAndE_ok hf pos (b :: r))
theorem denOrE_ok {f : Expr → XE} (hf : ∀ e, PE X e (liftE X.mo noW (f e))) (pos : Pos) : ∀ es, PE X (.BoolOp .Or es pos) (liftE X.mo noW (denBool xOr f es))
  | [] => de_fail
  | [a] => de_one (hf a)
  | a :: b :: r => de_or (hf a) (denOrE_ok hf pos (b :: r))
theorem denA_ok (HR : RecOk T Γ k R) (h : CxOk T Γ k c X) : ∀ es, PA X es (liftA X.mo noW (denA R c es))
  | [] => da_nil
  | e :: es => by
    unfold denA
    split
    · exact da_fail
    · rename_i hs
      exact da_cons (HR c X h false e) (denA_ok HR h es) (star_one (by simpa using hs))
theorem denA_len : ∀ {es : List Expr} {ρ : Env} {S S' : Sto} {xs : List Val}, denA R c es ρ S = .ok xs S' → xs.length = es.length
  | [], _, _, _, _, h => by cases h; rfl
  | e :: es, ρ, S, S', xs, h => by
    unfold denA at h
    split at h
    · cases h
    · have h : ((R c false e ρ S).bind fun x S1 => (denA R c es ρ S1).bind fun xs S2 => .ok (x :: xs) S2) = .ok xs S' := h
      obtain ⟨x, S1, h1, h⟩ := Res.bind_eq_ok h
      obtain ⟨ys, S2, h2, h⟩ := Res.bind_eq_ok h
      cases h
      simp [denA_len h2]
theorem denA_lenOk {es : List Expr} (h : decide (es.length ≤ 1000) = true) : LenOk (denA R c es) := fun ρ S xs S' e => by
  have h1 : es.length ≤ 1000 := of_decide_eq_true h
  rw [denA_len e]
  exact Nat.le_trans h1 (by decide)
theorem okName_ok {x : Str} (h : okName x = true) : (x == ("__debug__" : Str)) = false ∧ (x == ("__classdict__" : Str)) = false := by
  unfold okName at h
  simpa [Bool.and_eq_true] using h
theorem Gl_of (h : CxOk T Γ k c X) {x : Str} (e : c.sc.names.lookup x = some .globalImplicit) : Gl X x := by
  show X.env.scope.names.lookup x = _
  rw [h.sc]; exact e
theorem isFree_ok (h : CxOk T Γ k c X) {x : Str} (e : isFree T c x = true) : Gl X x ∧ X.mg x = none := by
  unfold isFree at e
  rw [Bool.and_eq_true, decide_eq_true_eq] at e
  exact ⟨Gl_of h e.2, h.free x e.1⟩
theorem denName_ok (h : CxOk T Γ k c X) (x : Str) (pos : Pos) : PE X (.Name x pos) (liftE X.mo noW (denName T c x)) := by
  have slot : ∀ kd, c.sc.names.lookup x = some kd → Vis X.env.scope x → PE X (.Name x pos) (liftE X.mo noW (match slotOf c.N x with
      | some i => if okName x then xSlot i else xFail
      | none => xFail)) := fun kd e hv => by
    split
    · rename_i i hi
      split
      · rename_i hn
        exact de_slot (by rw [h.N]; exact slotOf_ok hi) hv (okName_ok hn).1 (okName_ok hn).2
      · exact de_fail
    · exact de_fail
  unfold denName
  split
  · rename_i e
    split
    · rename_i hd
      split
      · rename_i hn
        obtain ⟨f, fd, ps, hm, _⟩ := h.defs x hd
        exact de_fn (Gl_of h e) hm (okName_ok hn).1
      · exact de_fail
    · split
      · rename_i i hi
        split
        · rename_i hn
          obtain ⟨t, hm⟩ := h.nums x i hi
          exact de_c (v := .int i) (pe_glob (Gl_of h e) hm ⟨t, rfl⟩ (okName_ok hn).1) fun _ _ => .int i
        · exact de_fail
      · exact de_fail
  · exact de_fail
  · rename_i kd n1 n2 e
    refine slot kd e ?_
    show X.env.scope.names.lookup x = _ ∨ _
    rw [h.sc]
    cases kd with
    | «local» => exact .inl e
    | cell => exact .inr (.inl e)
    | free => exact .inr (.inr e)
    | globalExplicit => exact (n2 rfl).elim
    | globalImplicit => exact (n1 rfl).elim
  · exact de_fail
theorem tyOfName_ok {x : Str} {t : Ty} (h : tyOfName x = some t) : bootBuiltins x = some (.type t.name) ∧ x ≠ "__name__" ∧ (x == ("__debug__" : Str)) = false := by
  unfold tyOfName at h
  split at h
  · rename_i e; cases h; subst e; exact ⟨boot_int, by decide, by decide⟩
  split at h
  · rename_i e; cases h; subst e; exact ⟨boot_bool, by decide, by decide⟩
  split at h
  · rename_i e; cases h; subst e; exact ⟨boot_str, by decide, by decide⟩
  split at h
  · rename_i e; cases h; subst e; exact ⟨boot_tuple, by decide, by decide⟩
  split at h
  · rename_i e; cases h; subst e; exact ⟨boot_list, by decide, by decide⟩
  split at h
  · rename_i e; cases h; subst e; exact ⟨boot_dict, by decide, by decide⟩
  · cases h
theorem setArg_ok {a e : Expr} (h : setArg T c a = some e) : ∃ p q, a = .Call (.Name "set" p) [e] [] q ∧ isFree T c "set" = true ∧ isStar e = false := by
  unfold setArg at h
  split at h
  · rename_i y p e' q
    split at h
    · rename_i k
      cases h
      obtain ⟨rfl, k2, k3⟩ := k
      exact ⟨p, q, rfl, k2, k3⟩
    · cases h
  · cases h
theorem denBlt_ok (HR : RecOk T Γ k R) (h : CxOk T Γ k c X) (cell : Bool) (x : Str) (args : List Expr) (p pos : Pos) : PE X (.Call (.Name x p) args [] pos) (liftE X.mo noW (denBlt T R c cell x args)) := by
  unfold denBlt
  split
  case isFalse => exact de_fail
  rename_i hfr
  obtain ⟨hg, hm⟩ := isFree_ok h hfr
  split
  · rename_i a
    split
    · exact de_fail
    rename_i hs
    have he := star_one (es := []) (env := X.env) (by simpa using hs : isStar a = false)
    split
    · rename_i e hsa
      obtain ⟨p2, q, rfl, k2, k3⟩ := setArg_ok hsa
      obtain ⟨hg2, hm2⟩ := isFree_ok h k2
      split
      · rename_i ex; subst ex; exact de_lenSet h.calm hg hm hg2 hm2 (HR c X h false e) (star_one k3)
      split
      · rename_i ex; subst ex; refine de_orG (de_sortSet h.calm hg hm hg2 hm2 (HR c X h false e) (star_one k3)) ?_
        rw [← xUn_comp]
        exact de_b1 (cr_sortedS h.room h.calm) hg hm boot_sorted (de_t1 (cr_set h.calm h.u24) hg2 hm2 PyProof.Rows.boot_set (HR c X h false e) (by decide) (by decide) (star_one k3)) (by decide) (by decide) he
      · exact de_fail
    split
    · rename_i e; subst e; exact de_b1 cr_len hg hm boot_len (HR c X h false a) (by decide) (by decide) he
    split
    · rename_i e; subst e; exact de_t1 cr_tuple hg hm boot_tuple (HR c X h false a) (by decide) (by decide) he
    split
    · rename_i e; subst e
      split
      · exact de_listC hg hm boot_list (HR c X h false a) (by decide) (by decide) he
      · exact de_t1 cr_list hg hm boot_list (HR c X h false a) (by decide) (by decide) he
    split
    · rename_i e; subst e; exact de_t1 cr_int hg hm boot_int (HR c X h false a) (by decide) (by decide) he
    split
    · rename_i e; subst e; exact de_b1 (cr_repr h.room h.gs) hg hm boot_repr (HR c X h false a) (by decide) (by decide) he
    split
    · rename_i e; subst e; exact de_b1 (crg_all h.calm) hg hm boot_all (HR c X h false a) (by decide) (by decide) he
    split
    · rename_i e; subst e; exact de_b1 (crg_any h.calm) hg hm boot_any (HR c X h false a) (by decide) (by decide) he
    split
    · rename_i e; subst e; exact de_b1 (cr_or (cr_sortedD h.room) (cr_sortedS h.room h.calm)) hg hm boot_sorted (HR c X h false a) (by decide) (by decide) he
    split
    · rename_i e; subst e; exact de_t1 (cr_set h.calm h.u24) hg hm PyProof.Rows.boot_set (HR c X h false a) (by decide) (by decide) he
    · exact de_fail
  · rename_i a b
    split
    · exact de_fail
    rename_i hs
    rw [Bool.or_eq_true, not_or] at hs
    have ha := star_one (es := [b]) (env := X.env) (by simpa using hs.1 : isStar a = false)
    have hb := star_one (es := []) (env := X.env) (by simpa using hs.2 : isStar b = false)
    split
    · rename_i e; subst e
      split
      · rename_i tn p2
        split
        · rename_i t ht
          split
          · rename_i hf2
            obtain ⟨hg2, hm2⟩ := isFree_ok h hf2
            obtain ⟨b1, b2, b3⟩ := tyOfName_ok ht
            exact de_isi t hg hm hg2 hm2 b1 b2 b3 boot_isinstance (HR c X h false a) ha
          · exact de_fail
        · exact de_fail
      · exact de_fail
    split
    · rename_i e; subst e; exact de_b2 (cr_max2 h.calm) hg hm boot_max (HR c X h false a) (HR c X h false b) (by decide) (by decide) ha hb
    split
    · rename_i e; subst e; exact de_b2 (cr_min2 h.calm) hg hm boot_min (HR c X h false a) (HR c X h false b) (by decide) (by decide) ha hb
    · exact de_fail
  · exact de_fail
theorem denCall_ok (HR : RecOk T Γ k R) (h : CxOk T Γ k c X) (cell : Bool) (f : Expr) (args : List Expr) (kws : List Keyword) (pos : Pos) : PE X (.Call f args kws pos) (liftE X.mo noW (denCall T Γ R c cell f args kws pos)) := by
  unfold denCall
  split
  · split
    · rename_i x p
      split
      · rename_i hd
        rw [Bool.and_eq_true, decide_eq_true_eq] at hd
        split
        · rename_i hn
          rw [Bool.and_eq_true] at hn
          obtain ⟨fa, fd, ps, hm, F, kp, bn⟩ := h.defs x hd.1
          have pass : Passes noCX X noE := fun _ _ _ _ _ _ _ z => z.elim
          cases args with
          | nil =>
            refine (pe_g0 F h.room h.gs (Gl_of h hd.2) hm kp bn .nil pass (okName_ok hn.1).1).of fun σ H Q q => ?_
            obtain ⟨ρ, ι, S, en, so, q2⟩ := call_read (M := X.mo) (g := Γ x) (m := aNil) σ H Q q
            exact q2 [] ι H Ext.refl so .nil
          | cons a as =>
            have hs : isStar a = false := by
              have := hn.2
              rw [List.all_cons, Bool.and_eq_true] at this
              simpa using this.1
            have hs2 : as.all (fun e => !isStar e) = true := by
              have := hn.2
              rw [List.all_cons, Bool.and_eq_true] at this
              exact this.2
            exact (pe_g F h.room h.gs (Gl_of h hd.2) hm kp bn .nil pass (denA_ok HR h (a :: as)) (okName_ok hn.1).1 (star_one hs) (stars_none hs2)).of call_read
        · exact de_fail
      · exact denBlt_ok HR h cell x args p pos
    · rename_i o m apos
      split
      · rename_i a
        split
        · exact de_fail
        rename_i hs
        simp only [Bool.or_eq_true, not_or, Bool.not_eq_true', Bool.not_eq_true, Bool.not_eq_false] at hs
        have hl : (apos.endLine == pos.line) = true := by simpa using hs.2.2
        split
        · rename_i e; subst e; exact de_append (HR c X h false o) (HR c X h false a) (base_of hs.2.1) hl (star_one hs.1)
        split
        · rename_i e; subst e; exact de_extend (HR c X h false o) (HR c X h false a) (base_of hs.2.1) hl (star_one hs.1)
        · exact de_fail
      · exact de_fail
    · exact de_fail
  · exact de_fail
theorem denIt_ok (HR : RecOk T Γ k R) (h : CxOk T Γ k c X) (tg e : Expr) : PI X tg e (liftI X.mo noW (denIt T R c (isTupE tg) e)) := by
  unfold denIt
  split
  · rename_i x p args pos
    split
    · rename_i hfr
      obtain ⟨hg, hm⟩ := isFree_ok h hfr
      split
      · rename_i e; subst e
        split
        · rename_i a
          split
          · exact di_fail
          · rename_i hs
            exact di_range1 hg hm (HR c X h false a) (star_one (by simpa using hs))
        · rename_i a b
          split
          · exact di_fail
          · rename_i hs
            rw [Bool.or_eq_true, not_or] at hs
            have h1 : isStar a = false := by simpa using hs.1
            have h2 : isStar b = false := by simpa using hs.2
            exact di_range2 hg hm (HR c X h false a) (HR c X h false b) (by rw [star_one h1, star_one h2]; rfl) (by rw [star_one h2]; rfl)
        · exact di_fail
      split
      · rename_i e; subst e
        split
        · rename_i a
          split
          · exact di_fail
          · rename_i hs
            rw [Bool.or_eq_true, not_or] at hs
            have h1 : isStar a = false := by simpa using hs.1
            cases tg with
            | Tuple elts kk tpos => exact di_enumL hg hm (HR c X h false a) (star_one h1)
            | _ => exact absurd rfl hs.2
        · exact di_fail
      split
      · exact di_fail
      · exact di_seq (HR c X h false _) tg
    · exact di_seq (HR c X h false _) tg
  · split
    · exact di_fail
    · exact di_seq (HR c X h false _) tg
theorem denGs_len {f : Expr → Option Tg} : ∀ {es : List Expr} {gs : Tgs}, denGs f es = some gs → ∀ xs ρ ρ', gs.set xs ρ = some ρ' → xs.length = es.length
  | [], gs, h, xs, ρ, ρ', e => by
    cases h
    cases xs with
    | nil => rfl
    | cons _ _ => cases e
  | t :: ts, gs, h, xs, ρ, ρ', e => by
    unfold denGs at h
    split at h
    · cases h
    · split at h
      · rename_i g gs' h1 h2
        cases h
        cases xs with
        | nil => cases e
        | cons x xs =>
          have e : (g.set x ρ).bind (gs'.set xs) = some ρ' := e
          obtain ⟨ρ1, e1, e2⟩ := opt_bind_some e
          simp [denGs_len h2 _ _ _ e2]
      · cases h
theorem denGs_ok (h : CxOk T Γ k c X) {f : Expr → Option Tg} (hf : ∀ e g, f e = some g → PG X e (liftG X.mo g)) : ∀ {es : List Expr} {gs : Tgs}, denGs f es = some gs → PGs X es (liftGs X.mo gs) ∧ es.all (fun e => !isStar e) = true
  | [], gs, e => by cases e; exact ⟨dgs_nil, rfl⟩
  | t :: ts, gs, e => by
    unfold denGs at e
    split at e
    · cases e
    · rename_i hs
      have hs' : isStar t = false := by simpa using hs
      split at e
      · rename_i g gs' h1 h2
        cases e
        obtain ⟨i1, i2⟩ := denGs_ok h hf h2
        exact ⟨dgs_cons (hf t g h1) i1 (by rw [assign_one hs']; rfl), by rw [List.all_cons, hs', i2]; rfl⟩
      · cases e
theorem storable_ok (h : CxOk T Γ k c X) {x : Str} (e : storable c x = true) : X.env.scope.names.lookup x = some .local ∨ (X.fn x = true ∧ X.env.scope.names.lookup x = some .cell) := by
  unfold storable at e
  rw [Bool.or_eq_true, Bool.and_eq_true, decide_eq_true_eq, decide_eq_true_eq] at e
  rw [h.sc, h.fn]
  exact e
theorem denG_ok (h : CxOk T Γ k c X) : ∀ j e g, denG c j e = some g → PG X e (liftG X.mo g)
  | 0, _, _, q => by cases q
  | j + 1, e, g, q => by
    unfold denG at q
    split at q
    · split at q
      · rename_i hs
        obtain ⟨i, hi, rfl⟩ := Option.map_eq_some_iff.mp q
        exact dg_n h.nd (by rw [h.N]; exact slotOf_ok hi) (storable_ok h hs)
      · cases q
    · obtain ⟨gs, hgs, rfl⟩ := Option.map_eq_some_iff.mp q
      obtain ⟨i1, i2⟩ := denGs_ok h (fun e g q => denG_ok h j e g q) hgs
      obtain ⟨a1, a2⟩ := asg_map (env := X.env) i2
      exact dg_t _ h.calm i1 (denGs_len hgs) a1 a2
    · cases q
theorem denIfs_ok (HR : RecOk T Γ k R) (h : CxOk T Γ k c X) : ∀ ifs, PTs X ifs (liftT X.mo noW (denIfs R c ifs))
  | [] => dts_nil
  | [t] => dts_one (denT_ok HR h 8 t)
  | _ :: _ :: _ => dts_fail
theorem sub_ok {l : List Nat} {m : List Nat} (h : l.all (fun i => m.contains i) = true) : ∀ i ∈ l, i ∈ m := fun i hi => by
  have := List.all_eq_true.mp h i hi
  simpa using this
theorem denLc_ok (HR : RecOk T Γ k R) (h : CxOk T Γ k c X) (cell : Bool) (elt : Expr) (gens : List Comprehension) (scope : Scope) (pos : Pos) : PE X (.ListComp elt gens scope pos) (liftE X.mo noW (denLc T R c cell elt gens scope)) := by
  unfold denLc
  split
  · rename_i tg iter ifs
    split
    case isFalse => exact de_fail
    rename_i hb
    rw [Bool.and_eq_true, Bool.not_eq_true'] at hb
    have ok : BlkOk X.N X.env.scope scope (ownOf c.N scope.names) := by rw [h.N, h.sc]; exact blkOk_by hb.1
    split
    · rename_i g hg
      split
      case isFalse => exact de_fail
      rename_i hsl
      have base := pe_lc (pos := pos) (g := liftG X.mo g) (tt := liftT X.mo noW (denIfs R (inner c scope) ifs)) (te := liftE X.mo noW (R (inner c scope) false elt)) h.calm h.nd (denIt_ok HR h tg iter) ok (fun s H C cl fp => denG_ok (h.inner s H scope C cl fp) 4 tg g hg) (fun s H C cl fp => denIfs_ok HR (h.inner s H scope C cl fp) ifs) (fun s H C cl fp => HR _ _ (h.inner s H scope C cl fp) false elt) (notSet_of hb.2)
      cases cell with
      | true => exact base.of (lc_readC (own := ownOf c.N scope.names) (sub_ok hsl))
      | false => exact base.of (lc_read (own := ownOf c.N scope.names) (sub_ok hsl))
    · exact de_fail
  · rename_i tg iter ifs tg1 iter1 ifs1
    split
    case isFalse => exact de_fail
    rename_i hb
    rw [Bool.and_eq_true, Bool.and_eq_true, Bool.not_eq_true', Bool.not_eq_true'] at hb
    have ok : BlkOk X.N X.env.scope scope (ownOf c.N scope.names) := by rw [h.N, h.sc]; exact blkOk_by hb.1
    split
    · rename_i g g1 hg hg1
      split
      case isFalse => exact de_fail
      rename_i hsl
      rw [Bool.and_eq_true] at hsl
      have base := pe_lc2 (pos := pos) (vs1 := g1.slots) (g := liftG X.mo g) (tt := liftT X.mo noW (denIfs R (inner c scope) ifs)) (wi1 := liftI X.mo noW (denIt T R (inner c scope) (isTupE tg1) iter1)) (g1 := liftG X.mo g1) (tt1 := liftT X.mo noW (denIfs R (inner c scope) ifs1)) (te := liftE X.mo noW (R (inner c scope) false elt)) h.calm h.nd (denIt_ok HR h tg iter) ok (sub_ok hsl.2) (fun s H C cl fp => denG_ok (h.inner s H scope C cl fp) 4 tg g hg) (fun s H C cl fp => denIfs_ok HR (h.inner s H scope C cl fp) ifs)
        (fun s H C cl fp => denIt_ok HR (h.inner s H scope C cl fp) tg1 iter1) (fun s H C cl fp => denG_ok (h.inner s H scope C cl fp) 4 tg1 g1 hg1) (fun s H C cl fp => denIfs_ok HR (h.inner s H scope C cl fp) ifs1) (fun s H C cl fp => HR _ _ (h.inner s H scope C cl fp) false elt) (notSet_of hb.2.1) (fun env => notSet_of hb.2.2)
      cases cell with
      | true => exact base.of (lc2_readC (sub_ok hsl.1) fun i hi => hi)
      | false => exact base.of (lc2_read (sub_ok hsl.1) fun i hi => hi)
    · exact de_fail
  · exact de_fail
theorem denDc_ok (HR : RecOk T Γ k R) (h : CxOk T Γ k c X) (cell : Bool) (ke ve : Expr) (gens : List Comprehension) (scope : Scope) (pos : Pos) : PE X (.DictComp ke ve gens scope pos) (liftE X.mo noW (denDc T R c cell ke ve gens scope)) := by
  unfold denDc
  split
  · rename_i tg iter ifs
    split
    case isFalse => exact de_fail
    rename_i hb
    rw [Bool.and_eq_true, Bool.not_eq_true'] at hb
    have ok : BlkOk X.N X.env.scope scope (ownOf c.N scope.names) := by rw [h.N, h.sc]; exact blkOk_by hb.1
    split
    · rename_i g hg
      split
      case isFalse => exact de_fail
      rename_i hsl
      have base := pe_dc (pos := pos) (g := liftG X.mo g) (tt := liftT X.mo noW (denIfs R (inner c scope) ifs)) (tk := liftE X.mo noW (R (inner c scope) false ke)) (tv := liftE X.mo noW (R (inner c scope) false ve)) h.calm h.nd (denIt_ok HR h tg iter) ok (fun s H C cl fp => denG_ok (h.inner s H scope C cl fp) 4 tg g hg) (fun s H C cl fp => denIfs_ok HR (h.inner s H scope C cl fp) ifs) (fun s H C cl fp => HR _ _ (h.inner s H scope C cl fp) false ke) (fun s H C cl fp => HR _ _ (h.inner s H scope C cl fp) false ve) (notSet_of hb.2)
      cases cell with
      | true => exact base.of (dc_readC (sub_ok hsl))
      | false => exact base.of (dc_read (sub_ok hsl))
    · exact de_fail
  · exact de_fail
theorem denO_ok (HR : RecOk T Γ k R) (h : CxOk T Γ k c X) : ∀ o, PO X o (liftO X.mo noW (denO R c o))
  | none => do_no
  | some e => do_so (HR c X h false e)
theorem denSub_ok (HR : RecOk T Γ k R) (h : CxOk T Γ k c X) (a b : Expr) (pos : Pos) : PE X (.Subscript a b pos) (liftE X.mo noW (denSub R c a b)) := by
  unfold denSub
  split
  · exact de_sl (HR c X h false a) (denO_ok HR h _) (denO_ok HR h _)
  · exact de_rev (HR c X h false a)
  · split
    · exact de_fail
    · rename_i hs
      exact de_ix h.u1 (HR c X h false a) (HR c X h false b) (plainIx_of (by simpa using hs))
theorem denE_ok : ∀ n, RecOk T Γ k (denE T Γ n)
  | 0 => fun c X h cell e => de_fail
  | n + 1 => fun c X h cell e => by
    have HR : RecOk T Γ k (denE T Γ n) := denE_ok n
    unfold denE
    split
    · exact de_c pe_non fun _ _ => .non
    · exact de_c pe_bl fun _ _ => .bl _
    · exact de_c pe_int fun _ _ => .int _
    · exact de_c pe_str fun _ _ => .str _
    · exact denName_ok h _ _
    · split
      · rename_i g hg
        exact de_bin (bin_ok hg) (HR c X h false _) (HR c X h false _)
      · exact de_fail
    · exact de_un us_neg (HR c X h false _)
    · exact de_not (HR c X h false _)
    · exact denAndE_ok (fun e => HR c X h false e) _ _
    · exact denOrE_ok (fun e => HR c X h false e) _ _
    · exact (denCmp_ok HR h _ _ _ _).1
    · exact de_if (denT_ok HR h 8 _) (HR c X h cell _) (HR c X h cell _)
    · split
      · rename_i hl
        exact de_tup (denA_ok HR h _) (denA_lenOk hl)
      · exact de_fail
    · split
      · rename_i hl
        split
        · exact de_lstC (denA_ok HR h _) (denA_lenOk hl)
        · exact de_lst (denA_ok HR h _) (denA_lenOk hl)
      · exact de_fail
    · split
      · exact de_dct0C
      · exact de_dct0
    · exact denSub_ok HR h _ _ _
    · exact denCall_ok HR h _ _ _ _ _
    · exact denLc_ok HR h _ _ _ _ _
    · exact denDc_ok HR h _ _ _ _ _ _
    · exact de_fail
end
end NB
end
section
set_option Elab.async false
set_option linter.all false
set_option maxRecDepth 100000
set_option maxHeartbeats 1000000
/-! Core 17: statements, defs, the law's end. -/
namespace NB
open PySem PySem.Spec PyProof.Rows L2
open Classical

section
variable {X : Cx}
/-- name = {..} on one line, the name a local -/
theorem ps_setDc {i : Nat} {y : Str} {py : Pos} {kx vx tg iter : Expr} {ifs : List Expr} {scope : Scope} {own : List (Str × Nat)} {pos spos : Pos} {wi : TI} {g : TG} {tt : TT} {tk tv : TE} (calm : X.calm = true) (nd : X.N.Nodup) (hy : X.N[i]? = some y) (isL : X.env.scope.names.lookup y = some .local)
    (used : swapsWith (.DictComp kx vx [⟨tg, iter, ifs, 0⟩] scope pos) (some (.Name y py)) spos.line X.env = pure true) (hi : PI X tg iter wi) (blk : BlkOk X.N X.env.scope scope own)
    (hg : ∀ (s : Shared) (H : Hp) (C : Addr) (cl : List (Str × Addr)) (fp : List Addr), PG (X.blk s H scope (compEnvC scope cl C X.env) fp) tg g)
    (ht : ∀ (s : Shared) (H : Hp) (C : Addr) (cl : List (Str × Addr)) (fp : List Addr), PTs (X.blk s H scope (compEnvC scope cl C X.env) fp) ifs tt)
    (hk : ∀ (s : Shared) (H : Hp) (C : Addr) (cl : List (Str × Addr)) (fp : List Addr), PE (X.blk s H scope (compEnvC scope cl C X.env) fp) kx tk)
    (he : ∀ (s : Shared) (H : Hp) (C : Addr) (cl : List (Str × Addr)) (fp : List Addr), PE (X.blk s H scope (compEnvC scope cl C X.env) fp) vx tv) (hs : ∀ x, foldedSetIterable iter X.env x = pure x) :
    PS X (.Assign [.Name y py] (.DictComp kx vx [⟨tg, iter, ifs, 0⟩] scope pos) spos) (tAsg (tDc wi g tt tk tv (own.map (·.2))) (gName i)) := by
  refine ⟨fun pins s σ H D I ready => ?_⟩
  rw [exec_Assign_Name_used _ _ _ _ used]
  refine wpAny_bind (wpAny_standAt (wpAny_bind ?_))
  show wpAny _ X.A (do let _ ← comprehension (.DictComp kx vx [⟨tg, iter, ifs, 0⟩] scope pos) scope X.env (firstIterPos [⟨tg, iter, ifs, 0⟩] pos) newDict false (eval iter X.env) (some (assign (.Name y py) X.env))) _ _ s
  have ready : tDc wi g tt tk tv (own.map (·.2)) σ H (fun x H1 => gName i x σ H1 D.nx) := ready
  refine wpAny_bind (thn (dc_core (Qf := fun _ s' => SP X pins D .next s') calm nd I hi blk hg ht hk he hs ready fun L C s' m H' I' q frame f => ?_) fun _ s' hq => wpAny_pure (wpAny_pure hq))
  show wpAny _ _ (assign (.Name y py) X.env (.ref L)) _ _ _
  refine wpAny_assign_Name (store_ok2 (v := V.ref L) I' nd hy (.inl isL) rfl (fun s2 I2 ⟨a, sb, ha⟩ => ?_) (.inr isL))
  obtain ⟨f0, f1, f2, f3, f4, f5⟩ := f
  have off : C ≠ a := by
    rcases ha with z | z
    · exact fun e => f1 (e.trans z)
    · exact fun e => f4 y a z e.symm
  exact ⟨m, frame.sameBut sb off, fun h3 sb3 => ⟨_, H', I2.turned (t' := s2.toks) (fun b o hb e => (sb3.2 b hb).trans e) f0 f1 f3 f4 f5, q⟩⟩
end
section
variable {T : Tb} {Γ : FT} {k n : Nat} {c : Sc} {X : Cx}
theorem set_lc (h : CxOk T Γ k c X) {R : RecE} (HR : RecOk T Γ k R) {cell : Bool} {elt : Expr} {gens : List Comprehension} {scope : Scope} {pos px spos : Pos} {x : Str} {i : Nat} (hi : X.N[i]? = some x) (isL : X.env.scope.names.lookup x = some .local)
    (used : swapsWith (.ListComp elt gens scope pos) (some (.Name x px)) spos.line X.env = pure true) : PS X (.Assign [.Name x px] (.ListComp elt gens scope pos) spos) (liftS X.mo noW (sAsg (denLc T R c cell elt gens scope) (gN i))) := by
  have bad : ∀ {st : Stmt}, PS X st (liftS X.mo noW (sAsg xFail (gN i))) := ⟨fun _ _ _ _ _ _ ⟨_, _, _, _, _, h⟩ => h.elim⟩
  have rd : ∀ {m : XE} {t : TE}, (∀ σ H Q, liftE X.mo noW m σ H Q → t σ H Q) → ∀ D σ H, liftS X.mo noW (sAsg m (gN i)) D σ H → tAsg t (gName i) D σ H := fun hr D σ H q => hr _ _ _ (asgN_read D σ H q)
  unfold denLc
  split
  · rename_i tg iter ifs
    split
    case isFalse => exact bad
    rename_i hb
    rw [Bool.and_eq_true, Bool.not_eq_true'] at hb
    have ok : BlkOk X.N X.env.scope scope (ownOf c.N scope.names) := by rw [h.N, h.sc]; exact blkOk_by hb.1
    split
    · rename_i g hg
      split
      case isFalse => exact bad
      rename_i hsl
      have base := ps_setLc (spos := spos) (py := px) (g := liftG X.mo g) (tt := liftT X.mo noW (denIfs R (inner c scope) ifs)) (te := liftE X.mo noW (R (inner c scope) false elt)) h.calm h.nd hi isL used (denIt_ok HR h tg iter) ok (fun s H C cl fp => denG_ok (h.inner s H scope C cl fp) 4 tg g hg) (fun s H C cl fp => denIfs_ok HR (h.inner s H scope C cl fp) ifs) (fun s H C cl fp => HR _ _ (h.inner s H scope C cl fp) false elt) (notSet_of hb.2)
      cases cell with
      | true => exact base.of (rd (lc_readC (own := ownOf c.N scope.names) (sub_ok hsl)))
      | false => exact base.of (rd (lc_read (own := ownOf c.N scope.names) (sub_ok hsl)))
    · exact bad
  · rename_i tg iter ifs tg1 iter1 ifs1
    split
    case isFalse => exact bad
    rename_i hb
    rw [Bool.and_eq_true, Bool.and_eq_true, Bool.not_eq_true', Bool.not_eq_true'] at hb
    have ok : BlkOk X.N X.env.scope scope (ownOf c.N scope.names) := by rw [h.N, h.sc]; exact blkOk_by hb.1
    split
    · rename_i g g1 hg hg1
      split
      case isFalse => exact bad
      rename_i hsl
      rw [Bool.and_eq_true] at hsl
      have base := ps_setLc2 (spos := spos) (py := px) (vs1 := g1.slots) (g := liftG X.mo g) (tt := liftT X.mo noW (denIfs R (inner c scope) ifs)) (wi1 := liftI X.mo noW (denIt T R (inner c scope) (isTupE tg1) iter1)) (g1 := liftG X.mo g1) (tt1 := liftT X.mo noW (denIfs R (inner c scope) ifs1)) (te := liftE X.mo noW (R (inner c scope) false elt))
        h.calm h.nd hi isL used (denIt_ok HR h tg iter) ok (sub_ok hsl.2) (fun s H C cl fp => denG_ok (h.inner s H scope C cl fp) 4 tg g hg) (fun s H C cl fp => denIfs_ok HR (h.inner s H scope C cl fp) ifs)
        (fun s H C cl fp => denIt_ok HR (h.inner s H scope C cl fp) tg1 iter1) (fun s H C cl fp => denG_ok (h.inner s H scope C cl fp) 4 tg1 g1 hg1) (fun s H C cl fp => denIfs_ok HR (h.inner s H scope C cl fp) ifs1) (fun s H C cl fp => HR _ _ (h.inner s H scope C cl fp) false elt) (notSet_of hb.2.1) (fun env => notSet_of hb.2.2)
      cases cell with
      | true => exact base.of (rd (lc2_readC (sub_ok hsl.1) fun i hi => hi))
      | false => exact base.of (rd (lc2_read (sub_ok hsl.1) fun i hi => hi))
    · exact bad
  · exact bad
theorem set_dc (h : CxOk T Γ k c X) {R : RecE} (HR : RecOk T Γ k R) {cell : Bool} {ke ve : Expr} {gens : List Comprehension} {scope : Scope} {pos px spos : Pos} {x : Str} {i : Nat} (hi : X.N[i]? = some x) (isL : X.env.scope.names.lookup x = some .local)
    (used : swapsWith (.DictComp ke ve gens scope pos) (some (.Name x px)) spos.line X.env = pure true) : PS X (.Assign [.Name x px] (.DictComp ke ve gens scope pos) spos) (liftS X.mo noW (sAsg (denDc T R c cell ke ve gens scope) (gN i))) := by
  have bad : ∀ {st : Stmt}, PS X st (liftS X.mo noW (sAsg xFail (gN i))) := ⟨fun _ _ _ _ _ _ ⟨_, _, _, _, _, h⟩ => h.elim⟩
  have rd : ∀ {m : XE} {t : TE}, (∀ σ H Q, liftE X.mo noW m σ H Q → t σ H Q) → ∀ D σ H, liftS X.mo noW (sAsg m (gN i)) D σ H → tAsg t (gName i) D σ H := fun hr D σ H q => hr _ _ _ (asgN_read D σ H q)
  unfold denDc
  split
  · rename_i tg iter ifs
    split
    case isFalse => exact bad
    rename_i hb
    rw [Bool.and_eq_true, Bool.not_eq_true'] at hb
    have ok : BlkOk X.N X.env.scope scope (ownOf c.N scope.names) := by rw [h.N, h.sc]; exact blkOk_by hb.1
    split
    · rename_i g hg
      split
      case isFalse => exact bad
      rename_i hsl
      have base := ps_setDc (spos := spos) (py := px) (g := liftG X.mo g) (tt := liftT X.mo noW (denIfs R (inner c scope) ifs)) (tk := liftE X.mo noW (R (inner c scope) false ke)) (tv := liftE X.mo noW (R (inner c scope) false ve)) h.calm h.nd hi isL used (denIt_ok HR h tg iter) ok
        (fun s H C cl fp => denG_ok (h.inner s H scope C cl fp) 4 tg g hg) (fun s H C cl fp => denIfs_ok HR (h.inner s H scope C cl fp) ifs) (fun s H C cl fp => HR _ _ (h.inner s H scope C cl fp) false ke) (fun s H C cl fp => HR _ _ (h.inner s H scope C cl fp) false ve) (notSet_of hb.2)
      cases cell with
      | true => exact base.of (rd (dc_readC (sub_ok hsl)))
      | false => exact base.of (rd (dc_read (sub_ok hsl)))
    · exact bad
  · exact bad
theorem sole_no {t v : Expr} {line : Nat} {env : PySem.Env} (h : isComp v = false) : swapsWithSole [t] v line env = pure false := swaps_no h
theorem sole_other {v t : Expr} {line : Nat} {env : PySem.Env} (h : ∀ x p, t ≠ .Name x p) : swapsWithSole [t] v line env = pure false := swaps_other h
theorem denParOk (h : CxOk T Γ k c X) (ts vs : List Expr) (xs : List Str) (k1 k2 : Nat) (p p2 spos : Pos) (hsw : swN c.sc ts vs = some (some xs)) : PS X (.Assign [.Tuple ts k1 p] (.Tuple vs k2 p2) spos) (liftS X.mo noW (denPar T Γ n c ts vs xs)) := by
  have HR : RecOk T Γ k (denE T Γ n) := denE_ok n
  have sw : swappedStores [.Tuple ts k1 p] (.Tuple vs k2 p2) X.env = pure (some xs) := swN_ok (by rw [h.sc]; exact hsw)
  unfold denPar
  split
  · rename_i x px y py x' y'
    split
    case isFalse => exact dso_fail
    rename_i e
    obtain ⟨rfl, rfl⟩ := e
    split
    · rename_i i j hi hj
      split
      case isFalse => exact dso_fail
      rename_i e
      obtain ⟨e1, ⟨e2, e3⟩, e4⟩ := e
      split
      · rename_i a b
        rw [List.all_cons, List.all_cons, Bool.and_eq_true, Bool.and_eq_true] at e4
        exact ds_par2 h.calm h.nd (by rw [h.N]; exact slotOf_ok hi) (by rw [h.N]; exact slotOf_ok hj) e1 (by rw [h.sc]; exact e2) (by rw [h.sc]; exact e3)
          (da_cons (HR c X h _ a) (da_cons (HR c X h _ b) da_nil (star_one (by simpa using e4.2.1))) (star_one (by simpa using e4.1))) sw (sole_no rfl)
      · exact dso_fail
    · exact dso_fail
  · rename_i x px y py z pz x' y' z'
    split
    case isFalse => exact dso_fail
    rename_i e
    obtain ⟨rfl, rfl, rfl⟩ := e
    split
    · rename_i i j l hi hj hl
      split
      case isFalse => exact dso_fail
      rename_i e
      obtain ⟨⟨d1, d2, d3⟩, ⟨e2, e3, e5⟩, e4⟩ := e
      split
      · rename_i a b d
        rw [List.all_cons, List.all_cons, List.all_cons, Bool.and_eq_true, Bool.and_eq_true, Bool.and_eq_true] at e4
        exact ds_par3 h.calm h.nd (by rw [h.N]; exact slotOf_ok hi) (by rw [h.N]; exact slotOf_ok hj) (by rw [h.N]; exact slotOf_ok hl) d1 d2 d3 (by rw [h.sc]; exact e2) (by rw [h.sc]; exact e3) (by rw [h.sc]; exact e5)
          (da_cons (HR c X h _ a) (da_cons (HR c X h _ b) (da_cons (HR c X h _ d) da_nil (star_one (by simpa using e4.2.2.1))) (star_one (by simpa using e4.2.1))) (star_one (by simpa using e4.1))) sw (sole_no rfl)
      · exact dso_fail
    · exact dso_fail
  · exact dso_fail
theorem denAsg_ok (h : CxOk T Γ k c X) (t v : Expr) (spos : Pos) : PS X (.Assign [t] v spos) (liftS X.mo noW (denAsg T Γ n c t v)) := by
  have HR : RecOk T Γ k (denE T Γ n) := denE_ok n
  unfold denAsg
  split
  · rename_i x px
    split
    case isFalse => exact dso_fail
    rename_i hst
    split
    · rename_i i hi
      have hN : X.N[i]? = some x := by rw [h.N]; exact slotOf_ok hi
      split
      · exact dso_fail
      rename_i hsw
      cases q : swaps c.sc v x px with
      | false => exact ds_set h.nd hN (storable_ok h hst) (HR c X h _ v) (by rw [swaps_name, h.sc, q])
      | true =>
        rw [q] at hsw
        have isL : X.env.scope.names.lookup x = some .local := by rw [h.sc]; simpa using hsw
        have used : swapsWith v (some (.Name x px)) spos.line X.env = pure true := by rw [swaps_name, h.sc, q]
        cases n with
        | zero => exact ⟨fun _ _ _ _ _ _ ⟨_, _, _, _, _, h⟩ => h.elim⟩
        | succ n =>
          have HR' : RecOk T Γ k (denE T Γ n) := denE_ok n
          cases v with
          | ListComp elt gens scope pos => exact set_lc h HR' hN isL used
          | DictComp ke ve gens scope pos => exact set_dc h HR' hN isL used
          | SetComp elt gens scope pos => exact ⟨fun _ _ _ _ _ _ ⟨_, _, _, _, _, h⟩ => h.elim⟩
          | _ => cases q
    · exact dso_fail
  · rename_i ts k1 p
    have tg : ∀ {g : Tg} {e : Expr}, denG c 4 (.Tuple ts k1 p) = some g → swappedStores [.Tuple ts k1 p] e X.env = pure none → PS X (.Assign [.Tuple ts k1 p] e spos) (liftS X.mo noW (sAsg (denE T Γ n c false e) g)) := fun hg hw =>
      ds_asg (HR c X h false _) (denG_ok h 4 _ _ hg) (sole_other fun _ _ z => nomatch z) hw rfl
    split
    · rename_i vs k2 p2
      split
      · rename_i xs hs
        exact denParOk h ts vs xs k1 k2 p p2 spos hs
      · rename_i hs
        split
        · rename_i g hg
          exact tg hg (swN_ok (by rw [h.sc]; exact hs))
        · exact dso_fail
      · exact dso_fail
    · split
      · rename_i g hg
        split
        · exact dso_fail
        · rename_i hv
          exact tg hg (sw_none1 (.inr (by simpa using hv)) fun _ _ z => by cases z)
      · exact dso_fail
  · rename_i o i p
    split
    · exact dso_fail
    rename_i hsl
    refine ds_put h.u1 (HR c X h false o) (HR c X h false i) (HR c X h false v) (sole_other fun _ _ z => nomatch z) (sw_none1 (.inl rfl) fun _ _ z => by cases z) rfl fun w => ?_
    cases i <;> first | rfl | exact absurd rfl hsl
  · exact dso_fail
theorem denSs_ok {f : Stmt → XSt} (hf : ∀ st, PS X st (liftS X.mo noW (f st))) : ∀ sts, PSs X sts (liftS X.mo noW (denSs f sts))
  | [] => dss_nil
  | [s] => dss_one (hf s)
  | s :: t :: r => dss_cons (hf s) (denSs_ok hf (t :: r))
theorem denS_ok (h : CxOk T Γ k c X) (hp : PassesOwn (model X.prog X.w) X.A X.env X.xe) : ∀ j st, PS X st (liftS X.mo noW (denS T Γ n c j st))
  | 0, st => dso_fail
  | j + 1, st => by
    have HR : RecOk T Γ k (denE T Γ n) := denE_ok n
    unfold denS
    split
    · split
      · exact dso_fail
      · rename_i hc
        exact ds_expr (HR c X h false _) (swaps_no (by simpa using hc))
    · exact denAsg_ok h _ _ _
    · exact ds_ret (HR c X h _ _)
    · exact ds_retN
    · exact ds_if (denT_ok HR h 8 _) (denSs_ok (denS_ok h hp j) _) (denSs_ok (denS_ok h hp j) _)
    · split
      · exact dso_fail
      rename_i hs
      split
      · rename_i g hg
        exact ds_for hp h.calm (denIt_ok HR h _ _) (denG_ok h 4 _ _ hg) (denSs_ok (denS_ok h hp j) _) (notSet_of (by simpa using hs))
      · exact dso_fail
    · exact ds_pass
    · exact ds_break
    · exact ds_cont
    · exact dso_fail
end

/-! ### defs -/
/-- all that stands of the module -/
structure MoOk (T : Tb) (ds : List Fd) (P : Program) (w : World) (K : PySem.W.Frag) (mg : Str → Option Value) : Prop where
  free : ∀ x, T.free.contains x = true → mg x = none
  nums : ∀ x i, T.nums.lookup x = some i → ∃ t, mg x = some (.int i t)
  defs : ∀ x, T.defs.contains x = true → ∃ d f fd, findFd ds x = some d ∧ mg x = some (.ref f) ∧ FunD K d.name d.name d.params d.body d.scope [] [] f fd ∧ Binds K fd d.ps []
  scs : ∀ x d, findFd ds x = some d → FnScope d.N d.ps d.scope
theorem fns_ok {T : Tb} {ds : List Fd} {P : Program} {w : World} {K : PySem.W.Frag} {mg : Str → Option Value} {base : Heap} (M : MoOk T ds P w K mg) : ∀ n x, T.defs.contains x = true →
    ∃ d f fd, findFd ds x = some d ∧ mg x = some (.ref f) ∧ FunD K d.name d.name d.params d.body d.scope [] [] f fd ∧ FnG P w K mg base noCX n f fd d.ps (spG ⟨P, w, K, mg⟩ (fns T ds n x)) ∧ Binds K fd d.ps []
  | 0, x, hx => by
    obtain ⟨d, f, fd, h1, h2, h3, h4⟩ := M.defs x hx
    refine ⟨d, f, fd, h1, h2, h3, ⟨fun vs H Q E ⟨ι, S, xs, so, r, h⟩ => h.elim, fun A outer s H args us vs Q E _ _ _ _ _ ⟨ι, S, xs, so, r, h⟩ => h.elim⟩, h4⟩
  | n + 1, x, hx => by
    obtain ⟨d, f, fd, h1, h2, h3, h4⟩ := M.defs x hx
    refine ⟨d, f, fd, h1, h2, h3, ?_, h4⟩
    have e : fns T ds (n + 1) x = denF T (fns T ds n) d := by
      show (match findFd ds x with
        | some d => denF T (fns T ds n) d
        | none => fun _ _ => .fail) = _
      rw [h1]
    rw [e]
    refine fnG_of h3 (M.scs x d h1) spG_len fun cdv A outer s H vs Q E room gs prom => ⟨_, denSs_ok (denS_ok (T := T) (Γ := fns T ds n) (k := n) (n := 24) (c := d.sc) ?_ (passes_of (K := fun e s'' => noCX outer H s E e s'') rfl) 12) d.body, body_read prom⟩
    refine ⟨rfl, (M.scs x d h1).nd, rfl, rfl, rfl, room, gs, M.free, M.nums, fun y hy => ?_⟩
    obtain ⟨d', f', fd', g1, g2, g3, g4, g5⟩ := fns_ok (base := base) M n y hy
    exact ⟨f', fd', d'.ps, g2, g4, g3.kp, g5⟩

/-! ### the law -/
/-- what the law's def promises at the head, as a call of it -/
theorem law_end {P : Program} {w : World} {K : PySem.W.Frag} {mg mb : Str → Option Value} {k : Nat} {fa a : Addr} {fd : FuncData} {x : Str} {sp : Sp} {s₁ : Shared} {vs : List Value} {ns : List Int}
    (inK : K.In s₁.heap) (glob : s₁.heap.Ns mainGlobals mg) (blt : s₁.heap.Ns builtinsNs mb) (blt2 : ∀ x : Str, x ≠ "__name__" → mb x = bootBuiltins x) (noLim : s₁.heap.NoLimit) (noGen : s₁.gens = #[])
    (at_ : s₁.heap.get? a = some { cls := .type "list", data := .seq vs.toArray }) (num : IntsAre vs ns) (fits : ns.length ≤ sizeLine) (room : Room k callerA)
    (F : ∀ base : Heap, FnG P w K mg base noCX k fa fd [x] sp) (bnd : ∀ (s : Shared) (u : Value), BindsTo s fd ⟨[u], []⟩ [(x, u)])
    (prom : ∀ H : Hp, ScrL K H a (ns.map V.int) → sp [.ref a] H (fun v _ => v = .bl true) noE) :
    codeAny (model P w) callerA (.call (.ref fa) ⟨[.ref a], []⟩) (fun r s' => r = .ok (.ret (.bool true)) ∧ OldK s₁.heap s'.heap ∧ s'.os = s₁.os ∧ AllBare s'.gens) s₁ := by
  have rel := vals_ints num
  have cnt := num.length
  -- by what may be tracked: the script at most
  suffices core : ∀ H : Hp, Only H → ScrL K H a (ns.map V.int) → HOk P w H s₁.heap → (∀ b, H b ≠ none → b = a) → (H a ≠ none → K.lookup a = none) →
      codeAny (model P w) callerA (.call (.ref fa) ⟨[.ref a], []⟩) (fun r s' => r = .ok (.ret (.bool true)) ∧ OldK s₁.heap s'.heap ∧ s'.os = s₁.os ∧ AllBare s'.gens) s₁ by
    cases q : K.lookup a with
    | some o =>
      have e := inK a o q
      rw [at_] at e
      cases e
      exact core (fun _ => none) (fun _ => .inl rfl) (.inr ⟨_, vs.toArray, _, q, rfl, rfl, rfl, by rw [List.size_toArray, cnt]; exact fits, by simpa using rel⟩) (fun b u z => nomatch (show (none : Option HO) = some u from z)) (fun b z => absurd rfl z) fun z => absurd rfl z
    | none =>
      let H : Hp := fun b => if b = a then some (.frz { cls := .type "list", data := .seq vs.toArray } (.lst (ns.map V.int))) else none
      have hA : H a = some (.frz { cls := .type "list", data := .seq vs.toArray } (.lst (ns.map V.int))) := if_pos rfl
      have hN : ∀ b, b ≠ a → H b = none := fun b hb => if_neg hb
      refine core H (fun b => ?_) (.inl ⟨_, hA⟩) (fun b u z => ?_) (fun b z => ?_) fun _ => q
      · by_cases hb : b = a
        · subst hb; exact .inr ⟨_, _, hA⟩
        · exact .inl (hN b hb)
      · by_cases hb : b = a
        · subst hb
          rw [hA] at z
          cases z
          exact ⟨at_, by rw [List.length_map]; exact fits, vs, _, rel, at_⟩
        · rw [hN b hb] at z; cases z
      · by_cases hb : b = a
        · exact hb
        · exact absurd (hN b hb) z
  intro H only scr hok alone apart
  have get : ∀ {b : Addr} {o : Obj}, s₁.heap.get? b = some o → H b = none → (hidT s₁.heap H).get? b = some o := fun e n => hidT_get e n
  have dictN : ∀ {b : Addr} {o : Obj} {es : Array DictEntry} {ep : Nat}, s₁.heap.get? b = some o → o.data = .dict es ep → H b = none := by
    intro b o es ep e d
    by_cases z : H b = none
    · exact z
    · have e' := alone b z
      subst e'
      rw [at_] at e
      cases e
      exact nomatch (show Data.seq vs.toArray _ = Data.dict es ep from d)
  have nsK : ∀ {b : Addr} {m : Str → Option Value}, s₁.heap.Ns b m → (hidT s₁.heap H).Ns b m := fun ⟨o, es, ep, e, d, r⟩ => ⟨o, es, ep, get e (dictN e d), d, r⟩
  have kb : K.In (hidT s₁.heap H) := fun b o e => get (inK b o e) (by
    by_cases z : H b = none
    · exact z
    · have e' := alone b z
      subst e'
      rw [apart z] at e
      cases e)
  have mod : Mod K mg (hidT s₁.heap H) := ⟨kb, nsK glob, ⟨mb, nsK blt, blt2⟩, noLim.elim fun mc z => ⟨mc, nsK z.1, z.2⟩⟩
  have env0 : Env0 P w K mg (hidT s₁.heap H) callerA [] s₁ H := ⟨rfl, mod, fun b o e => of_hidT e, Nat.le_of_eq (hidT_size _ _), trivial, fun b hb => (List.not_mem_nil (show b ∈ ([] : List Addr) from hb)).elim, hok, .of_eq noGen⟩
  refine codeAny_mono ((F (hidT s₁.heap H)).run callerA [] s₁ H ⟨[.ref a], []⟩ [.ref a] [.ref a] _ _ room rfl env0 (bnd s₁ (.ref a)) (.cons rfl .nil) (prom H scr)) fun r s' ends => ?_
  cases r with
  | error e => exact ends.elim
  | ok fl =>
    cases fl with
    | ret u =>
      obtain ⟨v, H', os, bare, un, hok', ru, ev⟩ := ends
      have ev : v = .bl true := ev
      subst ev
      obtain rfl : u = Value.bool true := ru
      refine ⟨rfl, OldK.of_keep fun b o e => ?_, os, bare⟩
      rcases only b with z | ⟨ob, xs, z⟩
      · exact un.keep b o e z (by intro z; exact (List.not_mem_nil (show b ∈ ([] : List Addr) from z)).elim) (by simp)
      · have e1 := (hok b _ z).1
        rw [e] at e1
        cases e1
        exact (hok' b _ (un.frzs b _ _ z)).1
    | _ => exact ends.elim
end NB
end
section
set_option Elab.async false
set_option linter.all false
set_option maxRecDepth 100000
set_option maxHeartbeats 1000000
/-! Core 18: a law's row, from what its def gives. -/
namespace NB
open PySem PySem.Spec PyProof.Rows L2
open Classical

theorem so_empty {M : Mo} {H : Hp} : StoreOk M ⟨[], []⟩ [] H :=
  ⟨rfl, List.nodup_nil, fun _ h => (List.not_mem_nil h).elim, fun _ h => (List.not_mem_nil h).elim, fun l a c h _ => (by simp at h), fun l c h => (by simp at h)⟩
theorem law_prom {M : Mo} {H : Hp} {a : Addr} {ns : List Int} {g : List Val → Sto → Res Val} {S' : Sto} (hs : ScrL M.K H a (ns.map V.int)) (hz : ns.length ≤ sizeLine) (h : g [.scr ns] [] = .ok (.dat (.bool true)) S') : spG M g [.ref a] H (fun v _ => v = .bl true) noE :=
  ⟨⟨[], []⟩, [], [.scr ns], so_empty, .cons (.scr hs hz) .nil, by
    rw [h]
    intro v ι' H' _ _ r
    cases r with
    | dat r => cases r; rfl⟩
theorem law_walk {l : PySem.W.OpenLaw} {q : Program} {loose : List Str} {XP : (Str → Option Value) → Heap → Prop} {YP : World → Heap → Prop} {d : DefRec} {T : Tb} {ds : List Fd} {k : Nat} {x : Str}
    (hn : l.most = some 63) (hdf : d.params.defaults = []) (room : Room k callerA) (known : T.defs.contains d.name = true) (one : ∀ dd, findFd ds d.name = some dd → dd.ps = [x])
    (F : ∀ (w : World) (mg : Str → Option Value) (h : Heap), YP w h → h.Ns mainGlobals mg → ∃ K : PySem.W.Frag, K.In h ∧ MoOk T ds l.prog w K mg)
    (bnd : ∀ (K : PySem.W.Frag) (f : Addr) (fd : FuncData) (dd : Fd), findFd ds d.name = some dd → FunD K dd.name dd.name dd.params dd.body dd.scope [] [] f fd → ∀ (s : Shared) (u : Value), BindsTo s fd ⟨[u], []⟩ [(x, u)])
    (math : ∀ ns : List Int, ns.length ≤ 63 → (∀ k ∈ ns, Builtin.Int.intBits k ≤ 1048576) → ∃ S', fns T ds k d.name [.scr ns] [] = .ok (.dat (.bool true)) S') :
    PySem.W.WalkO q loose XP YP l.row.toRowW d [] (fun f vs => PySem.call f vs) := by
  refine Att.attach_callB hn hdf fun w s₀ s₁ mg mb fa o pm cd doc a vs ns G Y ho hd hcd hmg hobj hints hlen hbits hg => ?_
  obtain ⟨K, inK, M⟩ := F w mg _ Y G.T.g
  obtain ⟨dd, f, fd, h1, h2, h3, _, _⟩ := fns_ok (base := s₁.heap) M k d.name known
  have ef : f = fa := by
    rw [hmg] at h2
    cases h2
    rfl
  subst ef
  obtain ⟨S', hS⟩ := math ns hlen hbits
  have fits : ns.length ≤ sizeLine := Nat.le_trans hlen (by decide)
  refine law_end (x := x) (sp := spG ⟨l.prog, w, K, mg⟩ (fns T ds k d.name)) inK G.T.g G.T.b G.T.builtins G.T.nolimit hg hobj hints fits room (fun base => ?_) (bnd K f fd dd h1 h3) fun H hs => law_prom hs fits hS
  obtain ⟨dd', f', fd', g1, g2, g3, g4, g5⟩ := fns_ok (base := base) M k d.name known
  rw [h1] at g1
  cases g1
  rw [h2] at g2
  cases g2
  obtain ⟨oc, od, dV, kV, doc, pm, an, cdv, ct, osl, e1, lk1, _⟩ := h3.ex
  obtain ⟨oc', od', dV', kV', doc', pm', an', cdv', ct', osl', e2, lk2, _⟩ := g3.ex
  rw [lk1] at lk2
  cases lk2
  rw [one dd h1] at g4
  exact g4
end NB
end
section
set_option Elab.async false
set_option linter.all false
set_option maxRecDepth 100000
set_option maxHeartbeats 1000000
/-! Core 19: what stands behind the top, from the head's look. -/
namespace NB
open PySem PySem.Spec PyProof.Rows L2

def faOf (T : Tb) : List He.Fa := T.defs.map .glo ++ (T.free.map .free ++ T.nums.map fun p => .int p.1 p.2)
def fnOfL (ds : List Fd) : List He.DefD := ds.map fun d => ⟨(d.name, none), d.name, d.name, d.params, d.body, d.scope, [], []⟩
theorem findFd_mem : ∀ {ds : List Fd} {x : Str} {d : Fd}, findFd ds x = some d → d ∈ ds ∧ d.name = x
  | e :: r, x, d, h => by
    have h : (if e.name = x then some e else findFd r x) = some d := h
    by_cases q : e.name = x
    · rw [if_pos q] at h; cases h; exact ⟨List.mem_cons_self, q⟩
    · rw [if_neg q] at h
      obtain ⟨h1, h2⟩ := findFd_mem h
      exact ⟨List.mem_cons_of_mem _ h1, h2⟩
theorem lookup_mem {α : Type} : ∀ {l : List (Str × α)} {x : Str} {a : α}, l.lookup x = some a → (x, a) ∈ l
  | (y, b) :: r, x, a, h => by
    rw [List.lookup_cons] at h
    cases q : x == y with
    | true =>
      rw [q] at h
      cases h
      rw [eq_of_beq q]
      exact List.mem_cons_self
    | false => rw [q] at h; exact List.mem_cons_of_mem _ (lookup_mem h)
/-- every def binds what is given by position -/
def BindAll (ds : List Fd) : Prop := ∀ d ∈ ds, ∀ (kV doc pm : Value) (an : Option Addr) (cdv ct : Value) (us : List Value), us.length = d.ps.length → bindArgs (PySem.W.fnOf d.name d.name d.params d.body d.scope .none kV doc pm an cdv ct) ⟨us, []⟩ = pure (d.ps.zip us)
theorem moOk_of {T : Tb} {ds : List Fd} {P : Program} {w : World} {K : PySem.W.Frag} {mg : Str → Option Value} {h : Heap} (X : K.In h) (G : h.Ns mainGlobals mg) (c : He.SaysD (faOf T) (fnOfL ds) K)
    (hd : T.defs.all (fun x => (findFd ds x).isSome) = true) (hb : BindAll ds) (hs : ds.all (fun d => C8.scC d.N d.ps d.scope) = true) : MoOk T ds P w K mg where
  free := fun x hx => He.free_ok X G (c.facts (List.mem_append_right _ (List.mem_append_left _ (List.mem_map_of_mem (by simpa using hx)))))
  nums := fun x i hx => He.int_ok X G (c.facts (List.mem_append_right _ (List.mem_append_right _ (List.mem_map.mpr ⟨_, lookup_mem hx, rfl⟩))))
  defs := fun x hx => by
    have hm : x ∈ T.defs := by simpa using hx
    obtain ⟨d, hf⟩ := Option.isSome_iff_exists.mp (List.all_eq_true.mp hd x hm)
    obtain ⟨h1, h2⟩ := findFd_mem hf
    obtain ⟨fd, FD⟩ := c.defs (List.mem_map_of_mem (f := fun d : Fd => (⟨(d.name, none), d.name, d.name, d.params, d.body, d.scope, [], []⟩ : He.DefD)) h1)
    have hg := He.glo_ok X G (c.facts (List.mem_append_left _ (List.mem_map_of_mem (f := He.Fa.glo) hm)))
    subst h2
    exact ⟨d, _, fd, hf, hg, FD, FD.bindsN (hb d h1)⟩
  scs := fun x d hf => C8.fnScope_by (List.all_eq_true.mp hs d (findFd_mem hf).1)
theorem bnd_of {ds : List Fd} (hb : BindAll ds) {nm x : Str} (one : ∀ dd, findFd ds nm = some dd → dd.ps = [x]) (K : PySem.W.Frag) (f : Addr) (fd : FuncData) (dd : Fd) (hf : findFd ds nm = some dd) (FD : FunD K dd.name dd.name dd.params dd.body dd.scope [] [] f fd) (s : Shared) (u : Value) : BindsTo s fd ⟨[u], []⟩ [(x, u)] := by
  have := FD.bindsA (ps := dd.ps) (hb dd (findFd_mem hf).1) s [u] (by rw [one dd hf]; rfl)
  rw [one dd hf] at this
  exact this
end NB
end
section
set_option Elab.async false
set_option linter.all false
set_option maxRecDepth 100000
set_option maxHeartbeats 1000000
/-! Core 20: what must be true ahead of an expression, a statement, so that it ends well. -/
namespace NB
open PySem L2

def okR {α : Type} (r : Res α) (Q : α → Sto → Prop) : Prop := match r with
  | .ok v S => Q v S
  | _ => False
def okF (r : SRes) (D : Flw → Env → Sto → Prop) : Prop := match r with
  | .ok f ρ S => D f ρ S
  | _ => False
section
variable {α β : Type} {ρ : Env} {S : Sto} {Q : Val → Sto → Prop} {D : Flw → Env → Sto → Prop}
theorem okR_get {r : Res α} {Q : α → Sto → Prop} (h : okR r Q) : ∃ v S', r = .ok v S' ∧ Q v S' := by
  cases r with
  | ok v S' => exact ⟨v, S', rfl, h⟩
  | raise _ _ => exact h.elim
  | fail => exact h.elim
theorem okR_of {r : Res α} {Q : α → Sto → Prop} {v : α} {S' : Sto} (e : r = .ok v S') (h : Q v S') : okR r Q := by rw [e]; exact h
theorem okR_ex {r : Res α} {Q : α → Sto → Prop} (h : ∃ v S', r = .ok v S' ∧ Q v S') : okR r Q := by
  obtain ⟨v, S', e, h⟩ := h
  rw [e]; exact h
theorem okR_mono {r : Res α} {Q R : α → Sto → Prop} (h : okR r Q) (k : ∀ v S, Q v S → R v S) : okR r R := by
  cases r with
  | ok v S' => exact k _ _ h
  | raise _ _ => exact h.elim
  | fail => exact h.elim
theorem okR_bind {r : Res α} {f : α → Sto → Res β} {Q : β → Sto → Prop} (h : okR r fun a S1 => okR (f a S1) Q) : okR (r.bind f) Q := by
  cases r with
  | ok v S' => exact h
  | raise _ _ => exact h.elim
  | fail => exact h.elim
theorem okR_some {o : Option α} {Q : α → Sto → Prop} (h : ∃ z, o = some z ∧ Q z S) : okR (Res.of S o) Q := by
  obtain ⟨z, e, q⟩ := h
  rw [e]; exact q
theorem okF_mono {r : SRes} {E : Flw → Env → Sto → Prop} (h : okF r D) (k : ∀ f ρ S, D f ρ S → E f ρ S) : okF r E := by
  cases r with
  | ok f ρ S' => exact k _ _ _ h
  | raise _ _ _ => exact h.elim
  | fail => exact h.elim
theorem okF_get {r : SRes} (h : okF r D) : ∃ f ρ S, r = .ok f ρ S ∧ D f ρ S := by
  cases r with
  | ok f ρ S' => exact ⟨f, ρ, S', rfl, h⟩
  | raise _ _ _ => exact h.elim
  | fail => exact h.elim
theorem okF_of {r : SRes} {f : Flw} {ρ : Env} {S' : Sto} (e : r = .ok f ρ S') (h : D f ρ S') : okF r D := by rw [e]; exact h
/-! ### expressions -/
theorem w_slot {i : Nat} {x : Val} (h : ρ[i]? = some (some x)) (q : Q x S) : okR (xSlot i ρ S) Q := by
  unfold xSlot; rw [h]; exact q
theorem w_c {d : PyData} (q : Q (.dat d) S) : okR (xC d ρ S) Q := q
theorem w_bin {g : Sto → Val → Val → Option Val} {a b : XE} (h : okR (a ρ S) fun x S1 => okR (b ρ S1) fun y S2 => ∃ z, g S2 x y = some z ∧ Q z S2) : okR (xBin g a b ρ S) Q :=
  okR_bind (okR_mono h fun _ _ h => okR_bind (okR_mono h fun _ _ h => okR_some h))
theorem w_un {g : Sto → Val → Option Val} {a : XE} (h : okR (a ρ S) fun x S1 => ∃ z, g S1 x = some z ∧ Q z S1) : okR (xUn g a ρ S) Q :=
  okR_bind (okR_mono h fun _ _ h => okR_some h)
theorem w_call {f : List Val → Sto → Res Val} {m : XA} (h : okR (m ρ S) fun xs S1 => okR (f xs S1) Q) : okR (xCall f m ρ S) Q := okR_bind h
theorem w_nil {Q : List Val → Sto → Prop} (q : Q [] S) : okR (aNil ρ S) Q := q
theorem w_cons {a : XE} {r : XA} {Q : List Val → Sto → Prop} (h : okR (a ρ S) fun x S1 => okR (r ρ S1) fun xs S2 => Q (x :: xs) S2) : okR (aCons a r ρ S) Q :=
  okR_bind (okR_mono h fun _ _ h => okR_bind (okR_mono h fun _ _ h => h))
theorem w_tup {m : XA} (h : okR (m ρ S) fun xs S1 => ∃ ds : List PyData, xs = ds.map .dat ∧ Q (.dat (.tuple ds)) S1) : okR (xTup m ρ S) Q :=
  okR_bind (okR_mono h fun xs S1 ⟨ds, e, h⟩ => by subst e; show Q (mkTup (ds.map .dat)) S1; rw [mkTup_dat]; exact h)
theorem w_lst {m : XA} (h : okR (m ρ S) fun xs S1 => ∃ ds : List PyData, xs = ds.map .dat ∧ Q (.dat (.list ds)) S1) : okR (xLst m ρ S) Q :=
  okR_bind (okR_mono h fun xs S1 ⟨ds, e, h⟩ => okR_some ⟨_, by rw [e, allDat_map]; rfl, h⟩)
theorem w_newCell {c : Cell} (hu : c.under S.length = true) (h : Q (.loc S.length) (S ++ [c])) : okR (newCell c S) Q := by
  unfold newCell; rw [if_pos hu]; exact h
theorem w_lstC {m : XA} (h : okR (m ρ S) fun xs S1 => (Cell.lst xs).under S1.length = true ∧ Q (.loc S1.length) (S1 ++ [.lst xs])) : okR (xLstC m ρ S) Q :=
  okR_bind (okR_mono h fun xs S1 ⟨a, b⟩ => w_newCell a b)
theorem w_if {t : XT} {a b : XE} (h : okR (t ρ S) fun c S1 => (c = true → okR (a ρ S1) Q) ∧ (c = false → okR (b ρ S1) Q)) : okR (xIf t a b ρ S) Q :=
  okR_bind (okR_mono h fun c S1 ⟨h1, h2⟩ => by
    cases c with
    | true => exact h1 rfl
    | false => exact h2 rfl)
theorem w_val {m : XE} {Q : Bool → Sto → Prop} (h : okR (m ρ S) fun x S1 => ∃ c, x = .dat (.bool c) ∧ Q c S1) : okR (tVal m ρ S) Q :=
  okR_bind (okR_mono h fun x S1 ⟨c, e, h⟩ => by subst e; exact h)
theorem w_not {m : XT} {Q : Bool → Sto → Prop} (h : okR (m ρ S) fun c S1 => Q (!c) S1) : okR (tNotX m ρ S) Q := okR_bind h
theorem w_and {a b : XT} {Q : Bool → Sto → Prop} (h : okR (a ρ S) fun c S1 => (c = true → okR (b ρ S1) Q) ∧ (c = false → Q false S1)) : okR (tAndX a b ρ S) Q :=
  okR_bind (okR_mono h fun c S1 ⟨h1, h2⟩ => by
    cases c with
    | true => exact h1 rfl
    | false => exact h2 rfl)
theorem w_or {a b : XT} {Q : Bool → Sto → Prop} (h : okR (a ρ S) fun c S1 => (c = false → okR (b ρ S1) Q) ∧ (c = true → Q true S1)) : okR (tOrX a b ρ S) Q :=
  okR_bind (okR_mono h fun c S1 ⟨h1, h2⟩ => by
    cases c with
    | true => exact h2 rfl
    | false => exact h1 rfl)
theorem w_xand {a b : XE} (h : okR (a ρ S) fun x S1 => ∃ c, x = .dat (.bool c) ∧ (c = true → okR (b ρ S1) Q) ∧ (c = false → Q (.dat (.bool false)) S1)) : okR (xAnd a b ρ S) Q :=
  okR_bind (okR_mono h fun x S1 ⟨c, e, h1, h2⟩ => by
    subst e
    cases c with
    | true => exact h1 rfl
    | false => exact h2 rfl)
theorem w_xor {a b : XE} (h : okR (a ρ S) fun x S1 => ∃ c, x = .dat (.bool c) ∧ (c = false → okR (b ρ S1) Q) ∧ (c = true → Q (.dat (.bool true)) S1)) : okR (xOr a b ρ S) Q :=
  okR_bind (okR_mono h fun x S1 ⟨c, e, h1, h2⟩ => by
    subst e
    cases c with
    | true => exact h2 rfl
    | false => exact h1 rfl)
theorem w_no {Q : Option Int → Sto → Prop} (q : Q none S) : okR (oNo ρ S) Q := q
theorem w_so {m : XE} {Q : Option Int → Sto → Prop} (h : okR (m ρ S) fun x S1 => ∃ i, x = .dat (.int i) ∧ Q (some i) S1) : okR (oSo m ρ S) Q :=
  okR_bind (okR_mono h fun x S1 ⟨c, e, h⟩ => by subst e; exact h)
theorem w_sl {m : XE} {lo hi : XO} (h : okR (m ρ S) fun x S1 => okR (lo ρ S1) fun l S2 => okR (hi ρ S2) fun u S3 => ∃ z, gSl S3 x l u = some z ∧ Q z S3) : okR (xSl m lo hi ρ S) Q :=
  okR_bind (okR_mono h fun _ _ h => okR_bind (okR_mono h fun _ _ h => okR_bind (okR_mono h fun _ _ h => okR_some h)))
theorem w_meth {g : Sto → Val → Val → Option Sto} {o m : XE} (h : okR (o ρ S) fun x S1 => isLstC S1 x = true ∧ okR (m ρ S1) fun y S2 => ∃ S3, g S2 x y = some S3 ∧ Q (.dat .none) S3) : okR (xMeth g o m ρ S) Q :=
  okR_bind (okR_mono h fun x S1 ⟨e, h⟩ => by
    rw [if_pos e]
    exact okR_bind (okR_mono h fun y S2 ⟨S3, e3, h⟩ => by rw [e3]; exact h))
/-! ### what is walked -/
theorem w_iseq {m : XE} {Q : Itv → Sto → Prop} (h : okR (m ρ S) fun x S1 => ∃ xs, items S1 x = some xs ∧ Q ⟨xs, okSrc x xs⟩ S1) : okR (iSeq m ρ S) Q :=
  okR_bind (okR_mono h fun x S1 ⟨xs, e, h⟩ => by rw [e]; exact h)
theorem w_range1 {m : XE} {Q : Itv → Sto → Prop} (h : okR (m ρ S) fun x S1 => ∃ n : Int, x = .dat (.int n) ∧ rOk n = true ∧ Q ⟨upTo 0 n.toNat, fun _ => True⟩ S1) : okR (iRange1 m ρ S) Q :=
  okR_bind (okR_mono h fun x S1 ⟨n, e, r, h⟩ => by
    subst e
    show okR (if rOk n then _ else _) Q
    rw [if_pos r]; exact h)
/-! ### comprehensions -/
theorem lc_inv {vs : List Nat} {g : Tg} {t : XT} {e : XE} {ok : Sto → Prop} (J : Sto → Prop) (G : PyData → Prop) (hok : ∀ S, J S → ok S) : ∀ {xs : List Val} {S : Sto}, J S → (∀ x ∈ xs, ∀ S, J S → ∃ ρ2, g.set x (wipeE ρ vs) = some ρ2 ∧ okR (t ρ2 S) fun b S1 => (b = true → okR (e ρ2 S1) fun y S2 => ∃ d, y = .dat d ∧ G d ∧ J S2) ∧ (b = false → J S1)) →
    okR (lcGo vs g t e ρ ok xs S) fun ys S' => ∃ ds : List PyData, ys = ds.map .dat ∧ (∀ d ∈ ds, G d) ∧ ds.length ≤ xs.length ∧ J S'
  | [], S, j, _ => by
    unfold lcGo
    rw [if_pos (hok _ j)]
    exact ⟨[], rfl, fun d hd => (by cases hd), Nat.le_refl _, j⟩
  | x :: xs, S, j, h => by
    obtain ⟨ρ2, h1, h2⟩ := h x List.mem_cons_self S j
    unfold lcGo
    rw [if_pos (hok _ j), h1]
    refine okR_bind (okR_mono h2 fun b S1 ⟨k1, k2⟩ => ?_)
    cases b with
    | false =>
      refine okR_mono (lc_inv J G hok (k2 rfl) fun y hy => h y (List.mem_cons_of_mem _ hy)) fun ys S' ⟨ds, e1, e2, e3, e4⟩ => ⟨ds, e1, e2, by simp; omega, e4⟩
    | true =>
      refine okR_bind (okR_mono (k1 rfl) fun y S2 ⟨d, ed, gd, j2⟩ => ?_)
      subst ed
      refine okR_bind (okR_mono (lc_inv J G hok j2 fun y hy => h y (List.mem_cons_of_mem _ hy)) fun ys S' ⟨ds, e1, e2, e3, e4⟩ => ?_)
      subst e1
      refine ⟨d :: ds, rfl, fun z hz => ?_, by simp; omega, e4⟩
      rcases List.mem_cons.mp hz with q | q
      · rw [q]; exact gd
      · exact e2 z q
/-- where nothing is left out -/
theorem lc_all {vs : List Nat} {g : Tg} {e : XE} {ok : Sto → Prop} (J : Sto → Prop) (G : PyData → Prop) (hok : ∀ S, J S → ok S) : ∀ {xs : List Val} {S : Sto}, J S → (∀ x ∈ xs, ∀ S, J S → ∃ ρ2, g.set x (wipeE ρ vs) = some ρ2 ∧ okR (e ρ2 S) fun y S2 => ∃ d, y = .dat d ∧ G d ∧ J S2) →
    okR (lcGo vs g xTrue e ρ ok xs S) fun ys S' => ∃ ds : List PyData, ys = ds.map .dat ∧ (∀ d ∈ ds, G d) ∧ ds.length = xs.length ∧ J S'
  | [], S, j, _ => by
    unfold lcGo
    rw [if_pos (hok _ j)]
    exact ⟨[], rfl, fun d hd => (by cases hd), rfl, j⟩
  | x :: xs, S, j, h => by
    obtain ⟨ρ2, h1, h2⟩ := h x List.mem_cons_self S j
    unfold lcGo
    rw [if_pos (hok _ j), h1]
    refine okR_bind (r := xTrue ρ2 S) ?_
    show okR ((e ρ2 S).bind _) _
    refine okR_bind (okR_mono h2 fun y S2 ⟨d, ed, gd, j2⟩ => ?_)
    subst ed
    refine okR_bind (okR_mono (lc_all J G hok j2 fun y hy => h y (List.mem_cons_of_mem _ hy)) fun ys S' ⟨ds, e1, e2, e3, e4⟩ => ?_)
    subst e1
    refine ⟨d :: ds, rfl, fun z hz => ?_, by simp [e3], e4⟩
    rcases List.mem_cons.mp hz with q | q
    · rw [q]; exact gd
    · exact e2 z q
/-- without draws: the very items -/
theorem lc_pureW {vs : List Nat} {g : Tg} {t : XT} {e : XE} {ok : Sto → Prop} (hok : ok S) (f : PyData → Bool) (k : PyData → PyData) : ∀ {xs : List PyData}, (∀ x ∈ xs, ∃ ρ2, g.set (.dat x) (wipeE ρ vs) = some ρ2 ∧ t ρ2 S = .ok (f x) S ∧ (f x = true → e ρ2 S = .ok (.dat (k x)) S)) →
    lcGo vs g t e ρ ok (xs.map .dat) S = .ok (((xs.filter f).map k).map .dat) S
  | [], _ => by rw [List.map_nil]; unfold lcGo; rw [if_pos hok]; rfl
  | x :: xs, h => by
    obtain ⟨ρ2, h1, h2, h3⟩ := h x List.mem_cons_self
    have ih := lc_pureW hok f k (xs := xs) fun y hy => h y (List.mem_cons_of_mem _ hy)
    rw [List.map_cons]
    unfold lcGo
    rw [if_pos hok, h1]
    simp only [h2, Res.bind_ok, List.filter_cons]
    cases hf : f x with
    | true => simp only [if_true, h3 hf, ih, Res.bind_ok, List.map_cons]
    | false => simp only [Bool.false_eq_true, if_false, ih]
theorem w_lc {vs : List Nat} {m : XI} {g : Tg} {t : XT} {e : XE} (h : okR (m ρ S) fun w S1 => okR (lcGo vs g t e ρ w.ok w.xs S1) fun ys S2 => ∃ ds : List PyData, ys = ds.map .dat ∧ ds.length ≤ sizeLine ∧ Q (.dat (.list ds)) S2) : okR (xLc vs m g t e ρ S) Q := by
  unfold xLc
  refine w_lst ?_
  unfold lcRun
  refine okR_bind (okR_mono h fun w S1 h => ?_)
  obtain ⟨ys, S2, e1, ds, rfl, hz, q⟩ := okR_get h
  rw [e1]
  show okR (if (ds.map Val.dat).length ≤ sizeLine then _ else _) _
  rw [if_pos (by rw [List.length_map]; exact hz)]
  exact ⟨ds, rfl, q⟩
/-! ### statements -/
theorem f_nil (h : D .next ρ S) : okF (sNil ρ S) D := h
theorem f_brk (h : D .brk ρ S) : okF (sBrk ρ S) D := h
theorem f_cnt (h : D .cont ρ S) : okF (sCnt ρ S) D := h
theorem f_seq {a b : XSt} (h : okF (a ρ S) fun f ρ1 S1 => match f with
    | .next => okF (b ρ1 S1) D
    | f => D f ρ1 S1) : okF (sSeq a b ρ S) D := by
  unfold sSeq
  obtain ⟨f, ρ1, S1, e, h⟩ := okF_get h
  rw [e]
  cases f with
  | next => exact h
  | brk => exact h
  | cont => exact h
  | ret v => exact h
theorem okF_bind {r : Res α} {f : α → Sto → SRes} (h : okR r fun x S1 => okF (f x S1) D) : okF (bindS r ρ f) D := by
  obtain ⟨v, S', e, h⟩ := okR_get h
  rw [e]; exact h
theorem f_asg {m : XE} {g : Tg} (h : okR (m ρ S) fun x S1 => ∃ ρ', g.set x ρ = some ρ' ∧ D .next ρ' S1) : okF (sAsg m g ρ S) D :=
  okF_bind (okR_mono h fun x S1 ⟨ρ', e, h⟩ => by rw [e]; exact h)
theorem f_set {m : XE} {i : Nat} (h : okR (m ρ S) fun x S1 => D .next (ρ.set i (some x)) S1) : okF (sAsg m (gN i) ρ S) D := f_asg (okR_mono h fun x S1 h => ⟨_, rfl, h⟩)
theorem f_drop {m : XE} (h : okR (m ρ S) fun _ S1 => D .next ρ S1) : okF (sDrop m ρ S) D := okF_bind h
theorem f_ret {m : XE} (h : okR (m ρ S) fun x S1 => D (.ret x) ρ S1) : okF (sRet m ρ S) D := okF_bind h
theorem f_retN (h : D (.ret (.dat .none)) ρ S) : okF (sRetN ρ S) D := h
theorem f_if {t : XT} {a b : XSt} (h : okR (t ρ S) fun c S1 => (c = true → okF (a ρ S1) D) ∧ (c = false → okF (b ρ S1) D)) : okF (sIf t a b ρ S) D :=
  okF_bind (okR_mono h fun c S1 ⟨h1, h2⟩ => by
    cases c with
    | true => exact h1 rfl
    | false => exact h2 rfl)
theorem f_par2 {i j : Nat} {m : XA} (h : okR (m ρ S) fun xs S1 => ∃ x y, xs = [x, y] ∧ D .next ((ρ.set i (some x)).set j (some y)) S1) : okF (sPar2 i j m ρ S) D :=
  okF_bind (okR_mono h fun xs S1 ⟨x, y, e, h⟩ => by subst e; exact h)
theorem f_put {o i m : XE} (h : okR (m ρ S) fun v S1 => okR (o ρ S1) fun x S2 => okR (i ρ S2) fun y S3 => ∃ S4, putIx S3 x y v = some S4 ∧ D .next ρ S4) : okF (sPut o i m ρ S) D :=
  okF_bind (okR_mono h fun v S1 h => okF_bind (okR_mono h fun x S2 h => okF_bind (okR_mono h fun y S3 ⟨S4, e, h⟩ => by rw [e]; exact h)))
theorem forGo_w {g : Tg} {b : XSt} {ok : Sto → Prop} (J : Env → Sto → Prop) (hok : ∀ ρ S, J ρ S → ok S) : ∀ {xs : List Val} {ρ : Env} {S : Sto}, J ρ S →
    (∀ x ∈ xs, ∀ ρ S, J ρ S → ∃ ρ1, g.set x ρ = some ρ1 ∧ okF (b ρ1 S) fun f ρ2 S2 => match f with
      | .next => J ρ2 S2
      | .cont => J ρ2 S2
      | .brk => D .next ρ2 S2
      | .ret v => D (.ret v) ρ2 S2) → (∀ ρ S, J ρ S → D .next ρ S) → okF (forGo g b ok xs ρ S) D
  | [], ρ, S, j, _, fin => by
    unfold forGo
    rw [if_pos (hok _ _ j)]
    exact fin _ _ j
  | x :: xs, ρ, S, j, h, fin => by
    obtain ⟨ρ1, h1, h2⟩ := h x List.mem_cons_self ρ S j
    obtain ⟨f, ρ2, S2, e, h2⟩ := okF_get h2
    unfold forGo
    rw [if_pos (hok _ _ j), h1]
    simp only [e]
    cases f with
    | next => exact forGo_w J hok h2 (fun y hy => h y (List.mem_cons_of_mem _ hy)) fin
    | cont => exact forGo_w J hok h2 (fun y hy => h y (List.mem_cons_of_mem _ hy)) fin
    | brk => exact h2
    | ret v => exact h2
theorem f_for {m : XI} {g : Tg} {b : XSt} (J : Env → Sto → Prop) (h : okR (m ρ S) fun w S1 => (∀ ρ S, J ρ S → w.ok S) ∧ J ρ S1 ∧ ∀ x ∈ w.xs, ∀ ρ S, J ρ S → ∃ ρ1, g.set x ρ = some ρ1 ∧ okF (b ρ1 S) fun f ρ2 S2 => match f with
      | .next => J ρ2 S2
      | .cont => J ρ2 S2
      | .brk => D .next ρ2 S2
      | .ret v => D (.ret v) ρ2 S2) (fin : ∀ ρ S, J ρ S → D .next ρ S) : okF (sFor m g b ρ S) D :=
  okF_bind (okR_mono h fun w S1 ⟨h1, h2, h3⟩ => forGo_w J h1 h2 h3 fin)
theorem forGo_wi {g : Tg} {b : XSt} {ok : Sto → Prop} (J : Nat → Env → Sto → Prop) (hok : ∀ i ρ S, J i ρ S → ok S) : ∀ {xs : List Val} {j : Nat} {ρ : Env} {S : Sto}, J j ρ S →
    (∀ i x, xs[i]? = some x → ∀ ρ S, J (j + i) ρ S → ∃ ρ1, g.set x ρ = some ρ1 ∧ okF (b ρ1 S) fun f ρ2 S2 => match f with
      | .next => J (j + i + 1) ρ2 S2
      | .cont => J (j + i + 1) ρ2 S2
      | .brk => D .next ρ2 S2
      | .ret v => D (.ret v) ρ2 S2) → (∀ ρ S, J (j + xs.length) ρ S → D .next ρ S) → okF (forGo g b ok xs ρ S) D
  | [], j, ρ, S, h0, _, fin => by
    unfold forGo
    rw [if_pos (hok _ _ _ h0)]
    exact fin _ _ h0
  | x :: xs, j, ρ, S, h0, h, fin => by
    obtain ⟨ρ1, h1, h2⟩ := h 0 x rfl ρ S h0
    obtain ⟨f, ρ2, S2, e, h2⟩ := okF_get h2
    have go : J (j + 1) ρ2 S2 → okF (forGo g b ok xs ρ2 S2) D := fun h3 => forGo_wi J hok h3 (fun i y hy ρ S hS => by
      have := h (i + 1) y (by simpa using hy) ρ S (by rw [show j + (i + 1) = j + 1 + i from by omega]; exact hS)
      rw [show j + (i + 1) + 1 = j + 1 + i + 1 from by omega] at this
      exact this) fun ρ S hS => fin ρ S (by rw [List.length_cons, show j + (xs.length + 1) = j + 1 + xs.length from by omega]; exact hS)
    unfold forGo
    rw [if_pos (hok _ _ _ h0), h1]
    simp only [e]
    cases f with
    | next => exact go h2
    | cont => exact go h2
    | brk => exact h2
    | ret v => exact h2
/-- .. with the count of laps -/
theorem f_fori {m : XI} {g : Tg} {b : XSt} (J : Nat → Env → Sto → Prop) (h : okR (m ρ S) fun w S1 => (∀ i ρ S, J i ρ S → w.ok S) ∧ J 0 ρ S1 ∧ (∀ i x, w.xs[i]? = some x → ∀ ρ S, J i ρ S → ∃ ρ1, g.set x ρ = some ρ1 ∧ okF (b ρ1 S) fun f ρ2 S2 => match f with
      | .next => J (i + 1) ρ2 S2
      | .cont => J (i + 1) ρ2 S2
      | .brk => D .next ρ2 S2
      | .ret v => D (.ret v) ρ2 S2) ∧ ∀ ρ S, J w.xs.length ρ S → D .next ρ S) : okF (sFor m g b ρ S) D :=
  okF_bind (okR_mono h fun w S1 ⟨h1, h2, h3, h4⟩ => forGo_wi J h1 h2 (fun i x hx ρ S hS => by
    rw [Nat.zero_add] at hS ⊢
    exact h3 i x hx ρ S hS) fun ρ S hS => h4 ρ S (by rw [Nat.zero_add] at hS; exact hS))
/-! ### defs -/
theorem w_fn {N ps : List Str} {keep : Bool} {body : XSt} {xs : List Val} (hl : xs.length = ps.length) (h : okF (body (xs.map some ++ List.replicate (N.length - xs.length) none) S) fun f _ S' => match f with
    | .next => okR (finish keep S.length (.dat .none) S') Q
    | .ret v => okR (finish keep S.length v S') Q
    | _ => False) : okR (runFn N ps keep body xs S) Q := by
  unfold runFn
  rw [if_pos hl]
  obtain ⟨f, ρ1, S1, e, h⟩ := okF_get h
  rw [e]
  cases f with
  | next => exact h
  | brk => exact h.elim
  | cont => exact h.elim
  | ret v => exact h
theorem fin_dat {n : Nat} {d : PyData} (h : Q (.dat d) (S.take n)) : okR (finish false n (.dat d) S) Q := h
theorem fin_same {d : PyData} (h : Q (.dat d) S) : okR (finish false S.length (.dat d) S) Q := fin_dat (by rw [List.take_length]; exact h)
theorem fin_keep {n : Nat} {v : Val} (h : Q v S) : okR (finish true n v S) Q := h
/-! ### operators -/
section
variable {q0 : Val → Prop}
theorem z_add (a b : Int) (q : q0 (.dat (.int (a + b)))) : ∃ z, lift2 dAdd S (.dat (.int a)) (.dat (.int b)) = some z ∧ q0 z := ⟨_, rfl, q⟩
theorem z_sub (a b : Int) (q : q0 (.dat (.int (a - b)))) : ∃ z, lift2 dSub S (.dat (.int a)) (.dat (.int b)) = some z ∧ q0 z := ⟨_, rfl, q⟩
theorem z_mul (a b : Int) (h : mulOk a b = true) (q : q0 (.dat (.int (a * b)))) : ∃ z, lift2 dMul S (.dat (.int a)) (.dat (.int b)) = some z ∧ q0 z :=
  ⟨_, by rw [lift2_dat]; show ((if mulOk a b then _ else _) : Option PyData).map _ = _; rw [if_pos h]; rfl, q⟩
theorem z_fdiv (a b : Int) (h : 0 < b ∧ b.natAbs.log2 < 9000) (q : q0 (.dat (.int (a / b)))) : ∃ z, lift2 dFdiv S (.dat (.int a)) (.dat (.int b)) = some z ∧ q0 z :=
  ⟨_, by rw [lift2_dat]; show ((if _ then _ else _) : Option PyData).map _ = _; rw [if_pos h]; rfl, q⟩
theorem z_lt (a b : Int) (q : q0 (.dat (.bool (decide (a < b))))) : ∃ z, lift2 dLt S (.dat (.int a)) (.dat (.int b)) = some z ∧ q0 z := ⟨_, rfl, q⟩
theorem z_le (a b : Int) (q : q0 (.dat (.bool (decide (a ≤ b))))) : ∃ z, lift2 dLe S (.dat (.int a)) (.dat (.int b)) = some z ∧ q0 z := ⟨_, rfl, q⟩
theorem z_gt (a b : Int) (q : q0 (.dat (.bool (decide (b < a))))) : ∃ z, lift2 dGt S (.dat (.int a)) (.dat (.int b)) = some z ∧ q0 z := ⟨_, rfl, q⟩
theorem z_ge (a b : Int) (q : q0 (.dat (.bool (decide (b ≤ a))))) : ∃ z, lift2 dGe S (.dat (.int a)) (.dat (.int b)) = some z ∧ q0 z := ⟨_, rfl, q⟩
theorem eqOk_int (n : Int) : eqOk (.int n) = true := by simp [eqOk, PyData.plain, PyData.depth]
theorem eqOk_str (n : Str) : eqOk (.str n) = true := by simp [eqOk, PyData.plain, PyData.depth]
theorem dEq_int (a b : Int) : dEq (.int a) (.int b) = some (.bool (decide (a = b))) := by
  unfold dEq
  rw [eqOk_int, eqOk_int, if_pos (by rfl)]
  show some (PyData.bool (a == b)) = _
  by_cases h : a = b <;> simp [h]
theorem dEq_str (a b : Str) : dEq (.str a) (.str b) = some (.bool (decide (a = b))) := by
  unfold dEq
  rw [eqOk_str, eqOk_str, if_pos (by rfl)]
  show some (PyData.bool (a == b)) = _
  by_cases h : a = b <;> simp [h]
theorem dNe_str (a b : Str) : dNe (.str a) (.str b) = some (.bool (!decide (a = b))) := by
  unfold dNe
  rw [eqOk_str, eqOk_str, if_pos (by rfl)]
  show some (PyData.bool (!(a == b))) = _
  by_cases h : a = b <;> simp [h]
theorem z_eq (a b : Int) (q : q0 (.dat (.bool (decide (a = b))))) : ∃ z, lift2 dEq S (.dat (.int a)) (.dat (.int b)) = some z ∧ q0 z := ⟨_, by rw [lift2_dat, dEq_int]; rfl, q⟩
theorem z_eqS (a b : Str) (q : q0 (.dat (.bool (decide (a = b))))) : ∃ z, lift2 dEq S (.dat (.str a)) (.dat (.str b)) = some z ∧ q0 z := ⟨_, by rw [lift2_dat, dEq_str]; rfl, q⟩
theorem z_neS (a b : Str) (q : q0 (.dat (.bool (!decide (a = b))))) : ∃ z, lift2 dNe S (.dat (.str a)) (.dat (.str b)) = some z ∧ q0 z := ⟨_, by rw [lift2_dat, dNe_str]; rfl, q⟩
theorem z_max (a b : Int) (q : q0 (.dat (.int (if b > a then b else a)))) : ∃ z, gMax2 S (.dat (.int a)) (.dat (.int b)) = some z ∧ q0 z := ⟨_, rfl, q⟩
theorem z_min (a b : Int) (q : q0 (.dat (.int (if b < a then b else a)))) : ∃ z, gMin2 S (.dat (.int a)) (.dat (.int b)) = some z ∧ q0 z := ⟨_, rfl, q⟩
theorem rOk_i {i : Int} (h0 : 0 ≤ i) (h1 : i ≤ 1000000) : rOk i = true := by
  unfold rOk
  have a : -(2 ^ 62) ≤ i := by omega
  have b : i < 2 ^ 62 := by omega
  rw [decide_eq_true a, decide_eq_true b]; rfl
theorem z_addT (a b : List PyData) (h : a.length + b.length ≤ sizeLine) (q : q0 (.dat (.tuple (a ++ b)))) : ∃ z, lift2 dAdd S (.dat (.tuple a)) (.dat (.tuple b)) = some z ∧ q0 z :=
  ⟨_, by rw [lift2_dat]; show ((if _ then _ else _) : Option PyData).map _ = _; rw [if_pos h]; rfl, q⟩
theorem z_addL (a b : List PyData) (h : a.length + b.length ≤ sizeLine) (q : q0 (.dat (.list (a ++ b)))) : ∃ z, lift2 dAdd S (.dat (.list a)) (.dat (.list b)) = some z ∧ q0 z :=
  ⟨_, by rw [lift2_dat]; show ((if _ then _ else _) : Option PyData).map _ = _; rw [if_pos h]; rfl, q⟩
theorem z_ixT (ds : List PyData) (i : Int) {d : PyData} (h : L2.atI ds i = some d) (q : q0 (.dat d)) : ∃ z, gIx S (.dat (.tuple ds)) (.dat (.int i)) = some z ∧ q0 z :=
  ⟨_, by show (L2.atI ds i).map Val.dat = _; rw [h]; rfl, q⟩
theorem z_ixL (ds : List PyData) (i : Int) {d : PyData} (h : L2.atI ds i = some d) (q : q0 (.dat d)) : ∃ z, gIx S (.dat (.list ds)) (.dat (.int i)) = some z ∧ q0 z :=
  ⟨_, by show (L2.atI ds i).map Val.dat = _; rw [h]; rfl, q⟩
theorem z_slT (ds : List PyData) (lo hi : Option Int) (q : q0 (.dat (.tuple (cutL ds lo hi)))) : ∃ z, gSl S (.dat (.tuple ds)) lo hi = some z ∧ q0 z := ⟨_, rfl, q⟩
theorem z_slL (ds : List PyData) (lo hi : Option Int) (q : q0 (.dat (.list (cutL ds lo hi)))) : ∃ z, gSl S (.dat (.list ds)) lo hi = some z ∧ q0 z := ⟨_, rfl, q⟩
theorem z_lenL (ds : List PyData) (q : q0 (.dat (.int ds.length))) : ∃ z, gLen S (.dat (.list ds)) = some z ∧ q0 z := ⟨_, by simp [gLen], q⟩
theorem z_lenT (ds : List PyData) (q : q0 (.dat (.int ds.length))) : ∃ z, gLen S (.dat (.tuple ds)) = some z ∧ q0 z := ⟨_, by simp [gLen], q⟩
theorem z_tupL (ds : List PyData) (q : q0 (.dat (.tuple ds))) : ∃ z, gTuple S (.dat (.list ds)) = some z ∧ q0 z := ⟨_, by simp [gTuple], q⟩
theorem z_lstT (ds : List PyData) (q : q0 (.dat (.list ds))) : ∃ z, gList S (.dat (.tuple ds)) = some z ∧ q0 z := ⟨_, by simp [gList], q⟩
theorem z_repr (d : PyData) (h : reprOk d = true) (q : q0 (.dat (.str d.shown))) : ∃ z, gRepr S (.dat d) = some z ∧ q0 z :=
  ⟨_, by unfold gRepr; rw [view_dat, Option.bind_some, if_pos h], q⟩
end
end
end NB
end
section
set_option Elab.async false
set_option linter.all false
set_option maxRecDepth 100000
set_option maxHeartbeats 1000000
/-! Core 21: sizes of data; sorted(set(..)), in. -/
namespace NB
open PySem L2

theorem layAll_eq : ∀ xs : List PyData, PyData.canLayAll0 xs = xs.all PyData.canLay0
  | [] => rfl
  | d :: xs => by show (d.canLay0 && PyData.canLayAll0 xs) = _; rw [layAll_eq xs]; rfl
theorem plainAll_eq : ∀ xs : List PyData, PyData.plainAll xs = xs.all PyData.plain
  | [] => rfl
  | d :: xs => by show (d.plain && PyData.plainAll xs) = _; rw [plainAll_eq xs]; rfl
theorem showAll_eq : ∀ xs : List PyData, PyData.showableAll xs = xs.all PyData.showable
  | [] => rfl
  | d :: xs => by show (d.showable && PyData.showableAll xs) = _; rw [showAll_eq xs]; rfl
theorem depthAll_le {b : Nat} : ∀ {xs : List PyData}, (∀ x ∈ xs, x.depth ≤ b) → PyData.depthAll xs ≤ b
  | [], _ => Nat.zero_le _
  | d :: xs, h => by
    show max d.depth (PyData.depthAll xs) ≤ b
    exact Nat.max_le.mpr ⟨h d List.mem_cons_self, depthAll_le fun x hx => h x (List.mem_cons_of_mem _ hx)⟩
theorem shownAll_le {b : Nat} : ∀ {xs : List PyData}, (∀ x ∈ xs, x.shown.length ≤ b) → ((PyData.shownAll xs).map (·.length)).sum ≤ b * xs.length ∧ (PyData.shownAll xs).length = xs.length
  | [], _ => ⟨Nat.zero_le _, rfl⟩
  | d :: xs, h => by
    obtain ⟨i1, i2⟩ := shownAll_le (b := b) fun x hx => h x (List.mem_cons_of_mem _ hx)
    have := h d List.mem_cons_self
    constructor
    · show d.shown.length + ((PyData.shownAll xs).map (·.length)).sum ≤ b * (xs.length + 1)
      rw [Nat.mul_succ]; omega
    · show (PyData.shownAll xs).length + 1 = xs.length + 1
      rw [i2]
/-- laid, not deeper than a, shown by at most b letters -/
structure Fit (a b : Nat) (d : PyData) : Prop where
  show_ : d.showable = true
  dep : d.depth ≤ a
  len : d.shown.length ≤ b
  lay : d.canLay0 = true
theorem Fit.mono {a b a' b' : Nat} {d : PyData} (h : Fit a b d) (ha : a ≤ a') (hb : b ≤ b') : Fit a' b' d := ⟨h.show_, Nat.le_trans h.dep ha, Nat.le_trans h.len hb, h.lay⟩
theorem fit_none : Fit 0 4 .none := ⟨by decide, by decide, by decide +kernel, by decide⟩
theorem fit_bool (b : Bool) : Fit 0 5 (.bool b) := by cases b <;> exact ⟨by decide, by decide, by decide +kernel, by decide⟩
theorem fit_big {i : Int} (h : i.natAbs.log2 < 1920) : Fit 0 2000 (.int i) := by
  refine ⟨decide_eq_true h, Nat.zero_le _, ?_, rfl⟩
  show (Str.ofString (toString i)).length ≤ 2000
  rw [PySem.ofString_length]
  have := int_text_length_le (k := 1920) (by decide) h
  omega
theorem fit_int {i : Int} (h0 : 0 ≤ i) (h1 : i ≤ 4) : Fit 0 4 (.int i) := by
  have : i = 0 ∨ i = 1 ∨ i = 2 ∨ i = 3 ∨ i = 4 := by omega
  rcases this with rfl | rfl | rfl | rfl | rfl <;> exact ⟨by decide, by decide, by decide +kernel, by decide⟩
theorem fit_tup {a b n : Nat} {xs : List PyData} (h : ∀ x ∈ xs, Fit a b x) (hl : xs.length ≤ n) : Fit (a + 1) (b * n + 2 * n + 3) (.tuple xs) := by
  refine ⟨?_, ?_, ?_, ?_⟩
  · show PyData.showableAll xs = true
    rw [showAll_eq]; exact List.all_eq_true.mpr fun x hx => (h x hx).show_
  · have := depthAll_le fun x hx => (h x hx).dep
    show PyData.depthAll xs + 1 ≤ _
    omega
  · obtain ⟨s1, s2⟩ := shownAll_le fun x hx => (h x hx).len
    have := tupleText_len_le (PyData.shownAll xs)
    have m := Nat.mul_le_mul_left b hl
    show (tupleText (PyData.shownAll xs)).length ≤ _
    omega
  · show PyData.canLayAll0 xs = true
    rw [layAll_eq]; exact List.all_eq_true.mpr fun x hx => (h x hx).lay
theorem fit_lst {a b n : Nat} {xs : List PyData} (h : ∀ x ∈ xs, Fit a b x) (hl : xs.length ≤ n) : Fit (a + 1) (b * n + 2 * n + 3) (.list xs) := by
  refine ⟨?_, ?_, ?_, ?_⟩
  · show PyData.showableAll xs = true
    rw [showAll_eq]; exact List.all_eq_true.mpr fun x hx => (h x hx).show_
  · have := depthAll_le fun x hx => (h x hx).dep
    show PyData.depthAll xs + 1 ≤ _
    omega
  · obtain ⟨s1, s2⟩ := shownAll_le fun x hx => (h x hx).len
    have := listText_len_le (PyData.shownAll xs)
    have m := Nat.mul_le_mul_left b hl
    show (listText (PyData.shownAll xs)).length ≤ _
    omega
  · show PyData.canLayAll0 xs = true
    rw [layAll_eq]; exact List.all_eq_true.mpr fun x hx => (h x hx).lay
theorem Fit.rep {a b : Nat} {d : PyData} (h : Fit a b d) (ha : a ≤ 100) (hb : b ≤ 16777216) : reprOk d = true := by
  unfold reprOk
  rw [h.show_, h.lay, decide_eq_true (Nat.le_trans h.dep ha), decide_eq_true (show d.shown.length ≤ sizeLine by rw [sizeLine_eq]; exact Nat.le_trans h.len hb)]
  rfl
theorem Fit.plain {a b : Nat} {d : PyData} (h : Fit a b d) : d.plain = true := PyData.plain_of_canLay0 d h.lay
theorem Fit.eq {a b : Nat} {d : PyData} (h : Fit a b d) (ha : a ≤ 64) : eqOk d = true := by
  unfold eqOk
  rw [h.plain, decide_eq_true (Nat.le_trans h.dep ha)]
  rfl
/-! ### sets of keys -/
theorem sortOk_of {ds : List PyData} (h : ∀ d ∈ ds, tup1 d = true ∧ d.canLay0 = true ∧ d.depth ≤ 60) (al : ∀ d ∈ ds, ∀ e ∈ ds, PySem.W.alike d e = true) : sortOk ds = true := by
  unfold sortOk
  simp only [Bool.and_eq_true, Bool.or_eq_true, List.all_eq_true, decide_eq_true_eq]
  exact ⟨al, .inl fun d hd => (h d hd).1, fun d hd => (h d hd).2⟩
theorem z_sset {S : Sto} {x : Val} {ds : List PyData} {q0 : Val → Prop} (h : seqD S x = some ds) (hk : ∀ d ∈ ds, keyOk d = true) (hs : sortOk ds = true) (hl : ds.length ≤ 1299) (q : q0 (.dat (.list (sortD (dedupD ds))))) :
    ∃ z, orG gSortSet (compG gSet gSortS) S x = some z ∧ q0 z := by
  have key : compG gSet gSortS S x = some (.dat (.list (sortD (dedupD ds)))) := by
    unfold compG gSet
    rw [h, Option.bind_some, if_pos (by rw [Bool.and_eq_true, List.all_eq_true, decide_eq_true_eq]; exact ⟨hk, hl⟩)]
    show (if sortOk ds then _ else _) = _
    rw [if_pos hs]
  have alt : gSortSet S x = none ∨ ds = [] ∧ gSortSet S x = some (.dat (.list [])) := by
    unfold gSortSet
    unfold seqD at h
    split at h
    · rename_i es ev
      rw [ev]
      exact .inl rfl
    · rename_i es ev
      cases h
      rw [ev]
      cases ds with
      | nil => exact .inr ⟨rfl, rfl⟩
      | cons d r =>
        obtain ⟨es, rfl⟩ := keyOk_tup (hk d List.mem_cons_self)
        exact .inl rfl
    · cases h
  unfold orG
  rcases alt with e | ⟨e1, e2⟩
  · rw [e]
    exact ⟨_, key, q⟩
  · rw [e2]
    subst e1
    have : sortD (dedupD []) = [] := by simp [sortD, dedupD]
    rw [this] at q
    exact ⟨_, rfl, q⟩
theorem dedup_len : ∀ ds : List PyData, (dedupD ds).length ≤ ds.length
  | [] => Nat.le_refl _
  | d :: ds => by
    have := dedup_len ds
    unfold dedupD
    split
    · rw [List.length_cons]; omega
    · rw [List.length_cons, List.length_cons]; omega
theorem sset_len (ds : List PyData) : (sortD (dedupD ds)).length ≤ ds.length := by
  unfold sortD
  rw [List.length_mergeSort]
  exact dedup_len ds
theorem sset_mem {ds : List PyData} (hk : ∀ d ∈ ds, keyOk d = true) {x : PyData} : x ∈ sortD (dedupD ds) ↔ x ∈ ds := by
  rw [sortD_mem, mem_dedupD fun d hd => keyOk_k (hk d hd)]
/-! ### in -/
theorem has_tup {S : Sto} {ds : List PyData} {d : PyData} (hp : ∀ e ∈ ds, e.plain = true) (hd : d.plain = true) (hz : d.depth ≤ 60) : hasD S (.dat d) (.dat (.tuple ds)) = some (ds.any fun e => PyData.eqv e d) := by
  show (Option.some ds).bind (fun ds => (Option.some d).bind fun d => if PyData.plainAll ds && (d.plain && decide (d.depth ≤ 60)) then some (ds.any fun e => PyData.eqv e d) else none) = _
  rw [Option.bind_some, Option.bind_some, if_pos (by rw [plainAll_eq, List.all_eq_true.mpr hp, hd, decide_eq_true hz]; rfl)]
theorem z_inT {S : Sto} {ds : List PyData} {d : PyData} {q0 : Val → Prop} (hp : ∀ e ∈ ds, e.plain = true) (hd : d.plain = true) (hz : d.depth ≤ 60) (q : q0 (.dat (.bool (ds.any fun e => PyData.eqv e d)))) : ∃ z, gIn S (.dat d) (.dat (.tuple ds)) = some z ∧ q0 z :=
  ⟨_, by unfold gIn; rw [has_tup hp hd hz]; rfl, q⟩
theorem z_notInT {S : Sto} {ds : List PyData} {d : PyData} {q0 : Val → Prop} (hp : ∀ e ∈ ds, e.plain = true) (hd : d.plain = true) (hz : d.depth ≤ 60) (q : q0 (.dat (.bool (!ds.any fun e => PyData.eqv e d)))) : ∃ z, gNotIn S (.dat d) (.dat (.tuple ds)) = some z ∧ q0 z :=
  ⟨_, by unfold gNotIn; rw [has_tup hp hd hz]; rfl, q⟩
end NB
end
section
set_option Elab.async false
set_option linter.all false
set_option maxRecDepth 100000
set_option maxHeartbeats 0
namespace Lw
open PySem PySem.Spec PyProof.Rows L2 NB
abbrev PR : Program := PySem.Challenge.pw_nevergoback_k29_cuts_and_kept_tables
def top (i : Nat) : Stmt := PR.main.body.getD i (.Pass ⟨0, 0, 0, 0⟩)
def d1 : Fd := ⟨"halves", ["order"], ["order", "many"], [], false, defArgs (top 1), defBody (top 1), defScope (top 1)⟩
def d2 : Fd := ⟨"turned", ["order"], ["order", "first", "second"], [], false, defArgs (top 2), defBody (top 2), defScope (top 2)⟩
def d6 : Fd := ⟨"waits_table", ["waits"], ["waits", "order"], [], false, defArgs (top 6), defBody (top 6), defScope (top 6)⟩
def d7 : Fd := ⟨"is_cut", ["waits", "look"], ["waits", "look"], [], false, defArgs (top 7), defBody (top 7), defScope (top 7)⟩
def d8 : Fd := ⟨"kept_table", ["table", "waits"], ["table", "waits", "look"], [], false, defArgs (top 8), defBody (top 8), defScope (top 8)⟩
def d10 : Fd := ⟨"_law_pen", ["script"], ["script"], ["return"], true, defArgs (top 10), defBody (top 10), defScope (top 10)⟩
def d11 : Fd := ⟨"_law_fresh", ["pen"], ["pen", "cell", "prime", "state", "found", "lap", "seat", "given"], ["pen"], false, defArgs (top 11), defBody (top 11), defScope (top 11)⟩
def d12 : Fd := ⟨"_law_draw", ["pen", "bound"], ["pen", "bound", "digit"], ["pen"], false, defArgs (top 12), defBody (top 12), defScope (top 12)⟩
def d13 : Fd := ⟨"_law_ranks", ["numbers"], ["numbers", "number", "other"], [], false, defArgs (top 13), defBody (top 13), defScope (top 13)⟩
def d14 : Fd := ⟨"_law_orders", ["many"], ["many", "rows", "lap", "longer", "row", "rank"], ["longer"], false, defArgs (top 14), defBody (top 14), defScope (top 14)⟩
def d15 : Fd := ⟨"_law_half", ["ranks", "at"], ["ranks", "at", "many"], [], false, defArgs (top 15), defBody (top 15), defScope (top 15)⟩
def d16 : Fd := ⟨"_law_some_order", ["pen", "many"], ["pen", "many", "lap"], [], false, defArgs (top 16), defBody (top 16), defScope (top 16)⟩
def d17 : Fd := ⟨"_law_some_look", ["pen", "many"], ["pen", "many"], [], false, defArgs (top 17), defBody (top 17), defScope (top 17)⟩
def d18 : Fd := ⟨"_law_kept_orders", ["pen", "many"], ["pen", "many", "orders", "lap", "one", "other", "row"], [], false, defArgs (top 18), defBody (top 18), defScope (top 18)⟩
def d19 : Fd := ⟨"_law_natural", ["pen", "many"], ["pen", "many", "found", "lap", "s", "t", "row"], ["found"], false, defArgs (top 19), defBody (top 19), defScope (top 19)⟩
def d20 : Fd := ⟨"_law_some_table", ["pen", "many", "most"], ["pen", "many", "most", "lap"], [], false, defArgs (top 20), defBody (top 20), defScope (top 20)⟩
def d21 : Fd := ⟨"_law_falling", ["pen", "many", "most"], ["pen", "many", "most", "lap", "at", "found", "s", "t", "row"], ["found"], false, defArgs (top 21), defBody (top 21), defScope (top 21)⟩
def d22 : Fd := ⟨"_law_any_table", ["pen", "many", "most"], ["pen", "many", "most"], [], false, defArgs (top 22), defBody (top 22), defScope (top 22)⟩
def d23 : Fd := ⟨"_law_some_waits", ["pen", "many", "most"], ["pen", "many", "most", "lap"], [], false, defArgs (top 23), defBody (top 23), defScope (top 23)⟩
def d24 : Fd := ⟨"_law_turned", ["row"], ["row"], [], false, defArgs (top 24), defBody (top 24), defScope (top 24)⟩
def d25 : Fd := ⟨"_law_cut", ["waits", "look"], ["waits", "look"], [], false, defArgs (top 25), defBody (top 25), defScope (top 25)⟩
def d26 : Fd := ⟨"_law_kept", ["table", "waits"], ["table", "waits", "look"], [], false, defArgs (top 26), defBody (top 26), defScope (top 26)⟩
def d27 : Fd := ⟨"_law_waiting", ["waits"], ["waits", "row"], [], false, defArgs (top 27), defBody (top 27), defScope (top 27)⟩
def d28 : Fd := ⟨"_law_needed", ["table"], ["table", "one", "look"], [], false, defArgs (top 28), defBody (top 28), defScope (top 28)⟩
def d29 : Fd := ⟨"law", ["script"], ["script", "pen", "turn", "many", "table", "needed", "waits", "before", "look", "row", "lap"], [], false, defArgs (top 29), defBody (top 29), defScope (top 29)⟩
def ds : List Fd := [d1, d2, d6, d7, d8, d10, d11, d12, d13, d14, d15, d16, d17, d18, d19, d20, d21, d22, d23, d24, d25, d26, d27, d28, d29]
def T : Tb := ⟨["halves", "turned", "waits_table", "is_cut", "kept_table", "_law_pen", "_law_fresh", "_law_draw", "_law_ranks", "_law_orders", "_law_half", "_law_some_order", "_law_some_look", "_law_kept_orders", "_law_natural", "_law_some_table", "_law_falling", "_law_any_table", "_law_some_waits", "_law_turned", "_law_cut", "_law_kept", "_law_waiting", "_law_needed", "law"], ["len", "max", "min", "tuple", "list", "int", "range", "sorted", "set", "repr"], [("OLD", 0), ("NEW", 1)]⟩
theorem binds : BindAll ds := by
  intro d hd
  simp only [ds, List.mem_cons, List.not_mem_nil, or_false] at hd
  rcases hd with rfl | rfl | rfl | rfl | rfl | rfl | rfl | rfl | rfl | rfl | rfl | rfl | rfl | rfl | rfl | rfl | rfl | rfl | rfl | rfl | rfl | rfl | rfl | rfl | rfl
  · exact fun _ _ _ _ _ _ us hl => match us, hl with | [_], _ => rfl
  · exact fun _ _ _ _ _ _ us hl => match us, hl with | [_], _ => rfl
  · exact fun _ _ _ _ _ _ us hl => match us, hl with | [_], _ => rfl
  · exact fun _ _ _ _ _ _ us hl => match us, hl with | [_, _], _ => rfl
  · exact fun _ _ _ _ _ _ us hl => match us, hl with | [_, _], _ => rfl
  · exact fun _ _ _ _ _ _ us hl => match us, hl with | [_], _ => rfl
  · exact fun _ _ _ _ _ _ us hl => match us, hl with | [_], _ => rfl
  · exact fun _ _ _ _ _ _ us hl => match us, hl with | [_, _], _ => rfl
  · exact fun _ _ _ _ _ _ us hl => match us, hl with | [_], _ => rfl
  · exact fun _ _ _ _ _ _ us hl => match us, hl with | [_], _ => rfl
  · exact fun _ _ _ _ _ _ us hl => match us, hl with | [_, _], _ => rfl
  · exact fun _ _ _ _ _ _ us hl => match us, hl with | [_, _], _ => rfl
  · exact fun _ _ _ _ _ _ us hl => match us, hl with | [_, _], _ => rfl
  · exact fun _ _ _ _ _ _ us hl => match us, hl with | [_, _], _ => rfl
  · exact fun _ _ _ _ _ _ us hl => match us, hl with | [_, _], _ => rfl
  · exact fun _ _ _ _ _ _ us hl => match us, hl with | [_, _, _], _ => rfl
  · exact fun _ _ _ _ _ _ us hl => match us, hl with | [_, _, _], _ => rfl
  · exact fun _ _ _ _ _ _ us hl => match us, hl with | [_, _, _], _ => rfl
  · exact fun _ _ _ _ _ _ us hl => match us, hl with | [_, _, _], _ => rfl
  · exact fun _ _ _ _ _ _ us hl => match us, hl with | [_], _ => rfl
  · exact fun _ _ _ _ _ _ us hl => match us, hl with | [_, _], _ => rfl
  · exact fun _ _ _ _ _ _ us hl => match us, hl with | [_, _], _ => rfl
  · exact fun _ _ _ _ _ _ us hl => match us, hl with | [_], _ => rfl
  · exact fun _ _ _ _ _ _ us hl => match us, hl with | [_], _ => rfl
  · exact fun _ _ _ _ _ _ us hl => match us, hl with | [_], _ => rfl
abbrev R : PySem.W.OpenRow := PySem.W.OpenLaw.row PySem.Challenge.rw_nevergoback_k29_cuts_and_kept_tables
abbrev hk : PySem.W.Hook := He.hookD 4 (faOf T) (fnOfL ds)
def ob (s : PySem.W.SharedT) : He.AlD := He.obsDG 4 (faOf T) (fnOfL ds) (HandSHeadRun.getT s)
theorem ob_eq (s : PySem.W.SharedT) : ob s = hk.obs s.abs := He.obsDG_eq (HandSHeadRun.getT_eq s)
abbrev lawAt : Nat := 29
def names : List Str := (PR.main.scope.names.map (·.1)).filter fun x => decide (x ≠ "law" ∧ x ≠ "__name__")
theorem run (w : World) : HandSHeadRun.RunEq R (PySem.W.view R.prog [lawAt]) hk ob 4000 names w := by
  intro os
  kernel_rfl
theorem one : ∀ dd, findFd ds "law" = some dd → dd.ps = [("script" : Str)] := by
  intro dd h
  have e : findFd ds "law" = some d29 := rfl
  rw [e] at h
  cases h
  rfl
theorem found : T.defs.all (fun x => (findFd ds x).isSome) = true := by decide +kernel
theorem scopes : ds.all (fun d => C8.scC d.N d.ps d.scope) = true := by decide +kernel
end Lw
open PySem PySem.W PySem.Calls PyProof.Rows
theorem PySem.Challenge.cw_nevergoback_k29_cuts_and_kept_tables_holds_of (math : ∀ ns : List Int, ns.length ≤ 63 → (∀ k ∈ ns, Builtin.Int.intBits k ≤ 1048576) → ∃ S', NB.fns Lw.T Lw.ds 16 "law" [.scr ns] [] = .ok (.dat (.bool true)) S') : PySem.Challenge.rw_nevergoback_k29_cuts_and_kept_tables.Holds := by
  w_on; o_law
  refine HandSHeadRun.head_any (r := OpenLaw.row PySem.Challenge.rw_nevergoback_k29_cuts_and_kept_tables) (q := view (OpenLaw.row PySem.Challenge.rw_nevergoback_k29_cuts_and_kept_tables).prog [Lw.lawAt]) (H := Lw.hk) (ob := Lw.ob) (M := 4000) (loose := Lw.names) (d := HandSHeadRun.topDef (OpenLaw.row PySem.Challenge.rw_nevergoback_k29_cuts_and_kept_tables).prog Lw.lawAt) (kwd := []) Lw.ob_eq
    (by kernel_rfl) (fun s => by kernel_rfl) Lw.run (by kernel_rfl) (by kernel_rfl) (by kernel_rfl) (by rfl) (by first | assumption | decide +kernel) (by decide +kernel) ⟨rfl, rfl, rfl, rfl, rfl, by decide +kernel⟩ ?hw ?hc
  case hw => w_witness2
  case hc =>
    have nm : (HandSHeadRun.topDef (OpenLaw.row PySem.Challenge.rw_nevergoback_k29_cuts_and_kept_tables).prog Lw.lawAt).name = ("law" : PySem.Str) := by kernel_rfl
    refine NB.law_walk (l := PySem.Challenge.rw_nevergoback_k29_cuts_and_kept_tables) (T := Lw.T) (ds := Lw.ds) (k := 16) (x := "script") rfl (by kernel_rfl) ⟨rfl, by decide, by decide⟩ (by rw [nm]; rfl) (fun dd h => Lw.one dd (by rw [← nm]; exact h)) ?F (fun K f fd dd h FD => NB.bnd_of Lw.binds Lw.one K f fd dd (by rw [← nm]; exact h) FD) (fun ns h1 h2 => by rw [nm]; exact math ns h1 h2)
    intro w mg h Y G
    obtain ⟨K, KX, c⟩ := Y
    exact ⟨K, KX, NB.moOk_of KX G c Lw.found Lw.binds Lw.scopes⟩
end
section
set_option Elab.async false
set_option linter.all false
set_option maxRecDepth 100000
set_option maxHeartbeats 0
namespace Lw
open PySem NB
theorem b1 (Γ : FT) : denF T Γ d1 = runFn ["order", "many"] ["order"] false
    (sSeq (sAsg (xBin (lift2 dFdiv) (xUn gLen (xSlot 0)) (xC (.int 2))) (gN 1)) (sRet (xTup (aCons (xSl (xSlot 0) oNo (oSo (xSlot 1))) (aCons (xSl (xSlot 0) (oSo (xSlot 1)) oNo) aNil))))) := rfl
theorem f_halves (n : Nat) : fns T ds (n + 1) "halves" = runFn ["order", "many"] ["order"] false
    (sSeq (sAsg (xBin (lift2 dFdiv) (xUn gLen (xSlot 0)) (xC (.int 2))) (gN 1)) (sRet (xTup (aCons (xSl (xSlot 0) oNo (oSo (xSlot 1))) (aCons (xSl (xSlot 0) (oSo (xSlot 1)) oNo) aNil))))) := b1 (fns T ds n)
theorem b2 (Γ : FT) : denF T Γ d2 = runFn ["order", "first", "second"] ["order"] false
    (sSeq (sAsg (xCall (Γ "halves") (aCons (xSlot 0) aNil)) (gT (gsCons (gN 1) (gsCons (gN 2) gsNil)))) (sRet (xBin (lift2 dAdd) (xSlot 2) (xSlot 1)))) := rfl
theorem f_turned (n : Nat) : fns T ds (n + 1) "turned" = runFn ["order", "first", "second"] ["order"] false
    (sSeq (sAsg (xCall (fns T ds n "halves") (aCons (xSlot 0) aNil)) (gT (gsCons (gN 1) (gsCons (gN 2) gsNil)))) (sRet (xBin (lift2 dAdd) (xSlot 2) (xSlot 1)))) := b2 (fns T ds n)
theorem b6 (Γ : FT) : denF T Γ d6 = runFn ["waits", "order"] ["waits"] false
    (sRet (xUn gTuple (xLc [1] (iSeq (xSlot 0)) (gN 1) xTrue (xTup (aCons (xC (.int 0)) (aCons (xC (.int 0)) (aCons (xSlot 1) aNil))))))) := rfl
theorem f_waits_table (n : Nat) : fns T ds (n + 1) "waits_table" = runFn ["waits", "order"] ["waits"] false
    (sRet (xUn gTuple (xLc [1] (iSeq (xSlot 0)) (gN 1) xTrue (xTup (aCons (xC (.int 0)) (aCons (xC (.int 0)) (aCons (xSlot 1) aNil))))))) := b6 (fns T ds n)
theorem b7 (Γ : FT) : denF T Γ d7 = runFn ["waits", "look"] ["waits", "look"] false
    (sSeq (sIf (tAndX (tVal (xBin (lift2 dEq) (xBin gIx (xSlot 1) (xC (.int 0))) (xC (.int 1)))) (tVal (xBin (lift2 dEq) (xBin gIx (xSlot 1) (xC (.int 1))) (xC (.int 0))))) (sRet (xBin gIn (xBin gIx (xSlot 1) (xC (.int 2))) (xSlot 0))) sNil) (sSeq (sIf (tAndX (tVal (xBin (lift2 dEq) (xBin gIx (xSlot 1) (xC (.int 0))) (xC (.int 0)))) (tVal (xBin (lift2 dEq) (xBin gIx (xSlot 1) (xC (.int 1))) (xC (.int 1))))) (sRet (xBin gIn (xCall (Γ "turned") (aCons (xBin gIx (xSlot 1) (xC (.int 2))) aNil)) (xSlot 0))) sNil) (sRet (xC (.bool false))))) := rfl
theorem f_is_cut (n : Nat) : fns T ds (n + 1) "is_cut" = runFn ["waits", "look"] ["waits", "look"] false
    (sSeq (sIf (tAndX (tVal (xBin (lift2 dEq) (xBin gIx (xSlot 1) (xC (.int 0))) (xC (.int 1)))) (tVal (xBin (lift2 dEq) (xBin gIx (xSlot 1) (xC (.int 1))) (xC (.int 0))))) (sRet (xBin gIn (xBin gIx (xSlot 1) (xC (.int 2))) (xSlot 0))) sNil) (sSeq (sIf (tAndX (tVal (xBin (lift2 dEq) (xBin gIx (xSlot 1) (xC (.int 0))) (xC (.int 0)))) (tVal (xBin (lift2 dEq) (xBin gIx (xSlot 1) (xC (.int 1))) (xC (.int 1))))) (sRet (xBin gIn (xCall (fns T ds n "turned") (aCons (xBin gIx (xSlot 1) (xC (.int 2))) aNil)) (xSlot 0))) sNil) (sRet (xC (.bool false))))) := b7 (fns T ds n)
theorem b8 (Γ : FT) : denF T Γ d8 = runFn ["table", "waits", "look"] ["table", "waits"] false
    (sRet (xUn gTuple (xLc [2] (iSeq (xSlot 0)) (gN 2) (tNotX (tVal (xCall (Γ "is_cut") (aCons (xSlot 1) (aCons (xSlot 2) aNil))))) (xSlot 2)))) := rfl
theorem f_kept_table (n : Nat) : fns T ds (n + 1) "kept_table" = runFn ["table", "waits", "look"] ["table", "waits"] false
    (sRet (xUn gTuple (xLc [2] (iSeq (xSlot 0)) (gN 2) (tNotX (tVal (xCall (fns T ds n "is_cut") (aCons (xSlot 1) (aCons (xSlot 2) aNil))))) (xSlot 2)))) := b8 (fns T ds n)
theorem b10 (Γ : FT) : denF T Γ d10 = runFn ["script"] ["script"] true
    (sRet (xLstC (aCons (xUn gList (xSl (xSlot 0) oNo (oSo (xC (.int 63))))) (aCons (xC (.int 0)) (aCons (xC (.int 0)) aNil))))) := rfl
theorem f_law_pen (n : Nat) : fns T ds (n + 1) "_law_pen" = runFn ["script"] ["script"] true
    (sRet (xLstC (aCons (xUn gList (xSl (xSlot 0) oNo (oSo (xC (.int 63))))) (aCons (xC (.int 0)) (aCons (xC (.int 0)) aNil))))) := b10 (fns T ds n)
theorem b11 (Γ : FT) : denF T Γ d11 = runFn ["pen", "cell", "prime", "state", "found", "lap", "seat", "given"] ["pen"] false
    (sSeq (sPar2 6 7 (aCons (xBin gIx (xSlot 0) (xC (.int 1))) (aCons (xBin gIx (xSlot 0) (xC (.int 0))) aNil))) (sSeq (sPut (xSlot 0) (xC (.int 1)) (xBin (lift2 dAdd) (xSlot 6) (xC (.int 1)))) (sSeq (sAsg (xIf (tVal (xBin (lift2 dNe) (xSlot 7) (xLst aNil))) (xBin gIx (xSlot 7) (xBin (lift2 dMod) (xUn gInt (xSlot 6)) (xUn gLen (xSlot 7)))) (xC (.int 0))) (gN 1)) (sSeq (sIf (tAndX (tVal (xBin (lift2 dLt) (xSlot 6) (xUn gLen (xSlot 7)))) (tVal (xBin (lift2 dGe) (xSlot 1) (xBin (lift2 dPow) (xC (.int 10)) (xC (.int 18)))))) (sRet (xBin (lift2 dSub) (xSlot 1) (xBin (lift2 dPow) (xC (.int 10)) (xC (.int 18))))) sNil) (sSeq (sAsg (xC (.int 2305843009213693951)) (gN 2)) (sSeq (sAsg (xBin (lift2 dMod) (xUn gInt (xBin (lift2 dAdd) (xBin (lift2 dAdd) (xBin (lift2 dMul) (xSlot 1) (xC (.int 48271))) (xBin (lift2 dMul) (xC (.int 60013)) (xSlot 6))) (xC (.int 31)))) (xSlot 2)) (gN 3)) (sSeq (sAsg (xSlot 3) (gN 4)) (sSeq (sFor (iRange1 (xC (.int 6))) (gN 5) (sSeq (sAsg (xBin (lift2 dMod) (xUn gInt (xBin (lift2 dAdd) (xBin (lift2 dAdd) (xBin (lift2 dMul) (xSlot 3) (xSlot 3)) (xBin (lift2 dMul) (xBin (lift2 dMul) (xC (.int 70139)) (xBin (lift2 dAdd) (xSlot 5) (xC (.int 5)))) (xBin (lift2 dAdd) (xSlot 6) (xC (.int 1))))) (xSlot 1))) (xSlot 2)) (gN 3)) (sAsg (xBin (lift2 dAdd) (xBin (lift2 dMul) (xSlot 4) (xSlot 2)) (xSlot 3)) (gN 4)))) (sRet (xSlot 4)))))))))) := rfl
theorem f_law_fresh (n : Nat) : fns T ds (n + 1) "_law_fresh" = runFn ["pen", "cell", "prime", "state", "found", "lap", "seat", "given"] ["pen"] false
    (sSeq (sPar2 6 7 (aCons (xBin gIx (xSlot 0) (xC (.int 1))) (aCons (xBin gIx (xSlot 0) (xC (.int 0))) aNil))) (sSeq (sPut (xSlot 0) (xC (.int 1)) (xBin (lift2 dAdd) (xSlot 6) (xC (.int 1)))) (sSeq (sAsg (xIf (tVal (xBin (lift2 dNe) (xSlot 7) (xLst aNil))) (xBin gIx (xSlot 7) (xBin (lift2 dMod) (xUn gInt (xSlot 6)) (xUn gLen (xSlot 7)))) (xC (.int 0))) (gN 1)) (sSeq (sIf (tAndX (tVal (xBin (lift2 dLt) (xSlot 6) (xUn gLen (xSlot 7)))) (tVal (xBin (lift2 dGe) (xSlot 1) (xBin (lift2 dPow) (xC (.int 10)) (xC (.int 18)))))) (sRet (xBin (lift2 dSub) (xSlot 1) (xBin (lift2 dPow) (xC (.int 10)) (xC (.int 18))))) sNil) (sSeq (sAsg (xC (.int 2305843009213693951)) (gN 2)) (sSeq (sAsg (xBin (lift2 dMod) (xUn gInt (xBin (lift2 dAdd) (xBin (lift2 dAdd) (xBin (lift2 dMul) (xSlot 1) (xC (.int 48271))) (xBin (lift2 dMul) (xC (.int 60013)) (xSlot 6))) (xC (.int 31)))) (xSlot 2)) (gN 3)) (sSeq (sAsg (xSlot 3) (gN 4)) (sSeq (sFor (iRange1 (xC (.int 6))) (gN 5) (sSeq (sAsg (xBin (lift2 dMod) (xUn gInt (xBin (lift2 dAdd) (xBin (lift2 dAdd) (xBin (lift2 dMul) (xSlot 3) (xSlot 3)) (xBin (lift2 dMul) (xBin (lift2 dMul) (xC (.int 70139)) (xBin (lift2 dAdd) (xSlot 5) (xC (.int 5)))) (xBin (lift2 dAdd) (xSlot 6) (xC (.int 1))))) (xSlot 1))) (xSlot 2)) (gN 3)) (sAsg (xBin (lift2 dAdd) (xBin (lift2 dMul) (xSlot 4) (xSlot 2)) (xSlot 3)) (gN 4)))) (sRet (xSlot 4)))))))))) := b11 (fns T ds n)
theorem b12 (Γ : FT) : denF T Γ d12 = runFn ["pen", "bound", "digit"] ["pen", "bound"] false
    (sSeq (sIf (tVal (xBin (lift2 dLt) (xBin gIx (xSlot 0) (xC (.int 2))) (xSlot 1))) (sPut (xSlot 0) (xC (.int 2)) (xCall (Γ "_law_fresh") (aCons (xSlot 0) aNil))) sNil) (sSeq (sAsg (xBin (lift2 dMod) (xUn gInt (xBin gIx (xSlot 0) (xC (.int 2)))) (xSlot 1)) (gN 2)) (sSeq (sPut (xSlot 0) (xC (.int 2)) (xBin (lift2 dFdiv) (xUn gInt (xBin gIx (xSlot 0) (xC (.int 2)))) (xSlot 1))) (sRet (xSlot 2))))) := rfl
theorem f_law_draw (n : Nat) : fns T ds (n + 1) "_law_draw" = runFn ["pen", "bound", "digit"] ["pen", "bound"] false
    (sSeq (sIf (tVal (xBin (lift2 dLt) (xBin gIx (xSlot 0) (xC (.int 2))) (xSlot 1))) (sPut (xSlot 0) (xC (.int 2)) (xCall (fns T ds n "_law_fresh") (aCons (xSlot 0) aNil))) sNil) (sSeq (sAsg (xBin (lift2 dMod) (xUn gInt (xBin gIx (xSlot 0) (xC (.int 2)))) (xSlot 1)) (gN 2)) (sSeq (sPut (xSlot 0) (xC (.int 2)) (xBin (lift2 dFdiv) (xUn gInt (xBin gIx (xSlot 0) (xC (.int 2)))) (xSlot 1))) (sRet (xSlot 2))))) := b12 (fns T ds n)
theorem b13 (Γ : FT) : denF T Γ d13 = runFn ["numbers", "number", "other"] ["numbers"] false
    (sRet (xUn gTuple (xLc [1] (iSeq (xSlot 0)) (gN 1) xTrue (xUn gLenSet (xLc [2] (iSeq (xSlot 0)) (gN 2) (tVal (xBin (lift2 dLt) (xSlot 2) (xSlot 1))) (xSlot 2)))))) := rfl
theorem f_law_ranks (n : Nat) : fns T ds (n + 1) "_law_ranks" = runFn ["numbers", "number", "other"] ["numbers"] false
    (sRet (xUn gTuple (xLc [1] (iSeq (xSlot 0)) (gN 1) xTrue (xUn gLenSet (xLc [2] (iSeq (xSlot 0)) (gN 2) (tVal (xBin (lift2 dLt) (xSlot 2) (xSlot 1))) (xSlot 2)))))) := b13 (fns T ds n)
theorem b14 (Γ : FT) : denF T Γ d14 = runFn ["many", "rows", "lap", "longer", "row", "rank"] ["many"] false
    (sSeq (sAsg (xLst (aCons (xTup aNil) aNil)) (gN 1)) (sSeq (sFor (iRange1 (xBin (lift2 dMul) (xC (.int 2)) (xSlot 0))) (gN 2) (sSeq (sAsg (xLstC aNil) (gN 3)) (sSeq (sFor (iSeq (xSlot 1)) (gN 4) (sDrop (xMeth putExt (xSlot 3) (xLc [5] (iRange1 (xBin (lift2 dMul) (xC (.int 2)) (xSlot 0))) (gN 5) xTrue (xBin (lift2 dAdd) (xSlot 4) (xTup (aCons (xSlot 5) aNil))))))) (sAsg (xSlot 3) (gN 1))))) (sRet (xLc [4] (iSeq (xSlot 1)) (gN 4) (tVal (xBin (lift2 dEq) (xCall (Γ "_law_ranks") (aCons (xSlot 4) aNil)) (xSlot 4))) (xSlot 4))))) := rfl
theorem f_law_orders (n : Nat) : fns T ds (n + 1) "_law_orders" = runFn ["many", "rows", "lap", "longer", "row", "rank"] ["many"] false
    (sSeq (sAsg (xLst (aCons (xTup aNil) aNil)) (gN 1)) (sSeq (sFor (iRange1 (xBin (lift2 dMul) (xC (.int 2)) (xSlot 0))) (gN 2) (sSeq (sAsg (xLstC aNil) (gN 3)) (sSeq (sFor (iSeq (xSlot 1)) (gN 4) (sDrop (xMeth putExt (xSlot 3) (xLc [5] (iRange1 (xBin (lift2 dMul) (xC (.int 2)) (xSlot 0))) (gN 5) xTrue (xBin (lift2 dAdd) (xSlot 4) (xTup (aCons (xSlot 5) aNil))))))) (sAsg (xSlot 3) (gN 1))))) (sRet (xLc [4] (iSeq (xSlot 1)) (gN 4) (tVal (xBin (lift2 dEq) (xCall (fns T ds n "_law_ranks") (aCons (xSlot 4) aNil)) (xSlot 4))) (xSlot 4))))) := b14 (fns T ds n)
theorem b15 (Γ : FT) : denF T Γ d15 = runFn ["ranks", "at", "many"] ["ranks", "at"] false
    (sSeq (sAsg (xBin (lift2 dFdiv) (xUn gLen (xSlot 0)) (xC (.int 2))) (gN 2)) (sRet (xIf (tVal (xBin (lift2 dEq) (xSlot 1) (xC (.int 0)))) (xSl (xSlot 0) oNo (oSo (xSlot 2))) (xSl (xSlot 0) (oSo (xSlot 2)) oNo)))) := rfl
theorem f_law_half (n : Nat) : fns T ds (n + 1) "_law_half" = runFn ["ranks", "at", "many"] ["ranks", "at"] false
    (sSeq (sAsg (xBin (lift2 dFdiv) (xUn gLen (xSlot 0)) (xC (.int 2))) (gN 2)) (sRet (xIf (tVal (xBin (lift2 dEq) (xSlot 1) (xC (.int 0)))) (xSl (xSlot 0) oNo (oSo (xSlot 2))) (xSl (xSlot 0) (oSo (xSlot 2)) oNo)))) := b15 (fns T ds n)
theorem b16 (Γ : FT) : denF T Γ d16 = runFn ["pen", "many", "lap"] ["pen", "many"] false
    (sRet (xCall (Γ "_law_ranks") (aCons (xLc [2] (iRange1 (xBin (lift2 dMul) (xC (.int 2)) (xSlot 1))) (gN 2) xTrue (xCall (Γ "_law_draw") (aCons (xSlot 0) (aCons (xBin (lift2 dMul) (xC (.int 2)) (xSlot 1)) aNil)))) aNil))) := rfl
theorem f_law_some_order (n : Nat) : fns T ds (n + 1) "_law_some_order" = runFn ["pen", "many", "lap"] ["pen", "many"] false
    (sRet (xCall (fns T ds n "_law_ranks") (aCons (xLc [2] (iRange1 (xBin (lift2 dMul) (xC (.int 2)) (xSlot 1))) (gN 2) xTrue (xCall (fns T ds n "_law_draw") (aCons (xSlot 0) (aCons (xBin (lift2 dMul) (xC (.int 2)) (xSlot 1)) aNil)))) aNil))) := b16 (fns T ds n)
theorem b17 (Γ : FT) : denF T Γ d17 = runFn ["pen", "many"] ["pen", "many"] false
    (sRet (xTup (aCons (xCall (Γ "_law_draw") (aCons (xSlot 0) (aCons (xC (.int 2)) aNil))) (aCons (xCall (Γ "_law_draw") (aCons (xSlot 0) (aCons (xC (.int 2)) aNil))) (aCons (xCall (Γ "_law_some_order") (aCons (xSlot 0) (aCons (xSlot 1) aNil))) aNil))))) := rfl
theorem f_law_some_look (n : Nat) : fns T ds (n + 1) "_law_some_look" = runFn ["pen", "many"] ["pen", "many"] false
    (sRet (xTup (aCons (xCall (fns T ds n "_law_draw") (aCons (xSlot 0) (aCons (xC (.int 2)) aNil))) (aCons (xCall (fns T ds n "_law_draw") (aCons (xSlot 0) (aCons (xC (.int 2)) aNil))) (aCons (xCall (fns T ds n "_law_some_order") (aCons (xSlot 0) (aCons (xSlot 1) aNil))) aNil))))) := b17 (fns T ds n)
theorem b18 (Γ : FT) : denF T Γ d18 = runFn ["pen", "many", "orders", "lap", "one", "other", "row"] ["pen", "many"] false
    (sSeq (sAsg (xCall (Γ "_law_orders") (aCons (xSlot 1) aNil)) (gN 2)) (sSeq (sFor (iRange1 (xBin (lift2 dAdd) (xC (.int 1)) (xCall (Γ "_law_draw") (aCons (xSlot 0) (aCons (xC (.int 2)) aNil))))) (gN 3) (sSeq (sAsg (xTup (aCons (xCall (Γ "_law_draw") (aCons (xSlot 0) (aCons (xBin (lift2 dMul) (xC (.int 2)) (xSlot 1)) aNil))) (aCons (xCall (Γ "_law_draw") (aCons (xSlot 0) (aCons (xBin (lift2 dMul) (xC (.int 2)) (xSlot 1)) aNil))) aNil))) (gT (gsCons (gN 4) (gsCons (gN 5) gsNil)))) (sIf (tVal (xBin (lift2 dEq) (xCall (Γ "_law_draw") (aCons (xSlot 0) (aCons (xC (.int 2)) aNil))) (xC (.int 0)))) (sAsg (xLc [6] (iSeq (xSlot 2)) (gN 6) (tVal (xBin (lift2 dLt) (xBin gIx (xSlot 6) (xSlot 4)) (xBin gIx (xSlot 6) (xSlot 5)))) (xSlot 6)) (gN 2)) (sAsg (xLc [6] (iSeq (xSlot 2)) (gN 6) (tVal (xBin (lift2 dLe) (xBin gIx (xSlot 6) (xSlot 4)) (xBin gIx (xSlot 6) (xSlot 5)))) (xSlot 6)) (gN 2))))) (sRet (xSlot 2)))) := rfl
theorem f_law_kept_orders (n : Nat) : fns T ds (n + 1) "_law_kept_orders" = runFn ["pen", "many", "orders", "lap", "one", "other", "row"] ["pen", "many"] false
    (sSeq (sAsg (xCall (fns T ds n "_law_orders") (aCons (xSlot 1) aNil)) (gN 2)) (sSeq (sFor (iRange1 (xBin (lift2 dAdd) (xC (.int 1)) (xCall (fns T ds n "_law_draw") (aCons (xSlot 0) (aCons (xC (.int 2)) aNil))))) (gN 3) (sSeq (sAsg (xTup (aCons (xCall (fns T ds n "_law_draw") (aCons (xSlot 0) (aCons (xBin (lift2 dMul) (xC (.int 2)) (xSlot 1)) aNil))) (aCons (xCall (fns T ds n "_law_draw") (aCons (xSlot 0) (aCons (xBin (lift2 dMul) (xC (.int 2)) (xSlot 1)) aNil))) aNil))) (gT (gsCons (gN 4) (gsCons (gN 5) gsNil)))) (sIf (tVal (xBin (lift2 dEq) (xCall (fns T ds n "_law_draw") (aCons (xSlot 0) (aCons (xC (.int 2)) aNil))) (xC (.int 0)))) (sAsg (xLc [6] (iSeq (xSlot 2)) (gN 6) (tVal (xBin (lift2 dLt) (xBin gIx (xSlot 6) (xSlot 4)) (xBin gIx (xSlot 6) (xSlot 5)))) (xSlot 6)) (gN 2)) (sAsg (xLc [6] (iSeq (xSlot 2)) (gN 6) (tVal (xBin (lift2 dLe) (xBin gIx (xSlot 6) (xSlot 4)) (xBin gIx (xSlot 6) (xSlot 5)))) (xSlot 6)) (gN 2))))) (sRet (xSlot 2)))) := b18 (fns T ds n)
theorem b19 (Γ : FT) : denF T Γ d19 = runFn ["pen", "many", "found", "lap", "s", "t", "row"] ["pen", "many"] false
    (sSeq (sAsg (xLstC aNil) (gN 2)) (sSeq (sFor (iRange1 (xBin (lift2 dAdd) (xC (.int 1)) (xCall (Γ "_law_draw") (aCons (xSlot 0) (aCons (xC (.int 2)) aNil))))) (gN 3) (sSeq (sAsg (xTup (aCons (xCall (Γ "_law_draw") (aCons (xSlot 0) (aCons (xC (.int 2)) aNil))) (aCons (xCall (Γ "_law_draw") (aCons (xSlot 0) (aCons (xC (.int 2)) aNil))) aNil))) (gT (gsCons (gN 4) (gsCons (gN 5) gsNil)))) (sDrop (xMeth putExt (xSlot 2) (xLc [6] (iSeq (xCall (Γ "_law_kept_orders") (aCons (xSlot 0) (aCons (xSlot 1) aNil)))) (gN 6) xTrue (xTup (aCons (xSlot 4) (aCons (xSlot 5) (aCons (xSlot 6) aNil))))))))) (sRet (xUn gTuple (xUn (orG gSortSet (compG gSet gSortS)) (xSlot 2)))))) := rfl
theorem f_law_natural (n : Nat) : fns T ds (n + 1) "_law_natural" = runFn ["pen", "many", "found", "lap", "s", "t", "row"] ["pen", "many"] false
    (sSeq (sAsg (xLstC aNil) (gN 2)) (sSeq (sFor (iRange1 (xBin (lift2 dAdd) (xC (.int 1)) (xCall (fns T ds n "_law_draw") (aCons (xSlot 0) (aCons (xC (.int 2)) aNil))))) (gN 3) (sSeq (sAsg (xTup (aCons (xCall (fns T ds n "_law_draw") (aCons (xSlot 0) (aCons (xC (.int 2)) aNil))) (aCons (xCall (fns T ds n "_law_draw") (aCons (xSlot 0) (aCons (xC (.int 2)) aNil))) aNil))) (gT (gsCons (gN 4) (gsCons (gN 5) gsNil)))) (sDrop (xMeth putExt (xSlot 2) (xLc [6] (iSeq (xCall (fns T ds n "_law_kept_orders") (aCons (xSlot 0) (aCons (xSlot 1) aNil)))) (gN 6) xTrue (xTup (aCons (xSlot 4) (aCons (xSlot 5) (aCons (xSlot 6) aNil))))))))) (sRet (xUn gTuple (xUn (orG gSortSet (compG gSet gSortS)) (xSlot 2)))))) := b19 (fns T ds n)
theorem b20 (Γ : FT) : denF T Γ d20 = runFn ["pen", "many", "most", "lap"] ["pen", "many", "most"] false
    (sRet (xUn gTuple (xUn (orG gSortSet (compG gSet gSortS)) (xLc [3] (iRange1 (xCall (Γ "_law_draw") (aCons (xSlot 0) (aCons (xBin (lift2 dAdd) (xSlot 2) (xC (.int 1))) aNil)))) (gN 3) xTrue (xCall (Γ "_law_some_look") (aCons (xSlot 0) (aCons (xSlot 1) aNil))))))) := rfl
theorem f_law_some_table (n : Nat) : fns T ds (n + 1) "_law_some_table" = runFn ["pen", "many", "most", "lap"] ["pen", "many", "most"] false
    (sRet (xUn gTuple (xUn (orG gSortSet (compG gSet gSortS)) (xLc [3] (iRange1 (xCall (fns T ds n "_law_draw") (aCons (xSlot 0) (aCons (xBin (lift2 dAdd) (xSlot 2) (xC (.int 1))) aNil)))) (gN 3) xTrue (xCall (fns T ds n "_law_some_look") (aCons (xSlot 0) (aCons (xSlot 1) aNil))))))) := b20 (fns T ds n)
theorem b21 (Γ : FT) : denF T Γ d21 = runFn ["pen", "many", "most", "lap", "at", "found", "s", "t", "row"] ["pen", "many", "most"] false
    (sSeq (sPar2 4 5 (aCons (xCall (Γ "_law_draw") (aCons (xSlot 0) (aCons (xSlot 1) aNil))) (aCons (xLstC aNil) aNil))) (sSeq (sFor (iRange1 (xCall (Γ "_law_draw") (aCons (xSlot 0) (aCons (xBin (lift2 dAdd) (xSlot 2) (xC (.int 1))) aNil)))) (gN 3) (sSeq (sAsg (xCall (Γ "_law_some_look") (aCons (xSlot 0) (aCons (xSlot 1) aNil))) (gT (gsCons (gN 6) (gsCons (gN 7) (gsCons (gN 8) gsNil))))) (sIf (tOrX (tVal (xBin (lift2 dGt) (xBin gIx (xSlot 8) (xSlot 4)) (xBin gIx (xSlot 8) (xBin (lift2 dAdd) (xSlot 1) (xSlot 4))))) (tVal (xBin (lift2 dEq) (xCall (Γ "_law_draw") (aCons (xSlot 0) (aCons (xC (.int 9)) aNil))) (xC (.int 0))))) (sDrop (xMeth putApp (xSlot 5) (xTup (aCons (xSlot 6) (aCons (xSlot 7) (aCons (xSlot 8) aNil)))))) (sIf (tVal (xBin (lift2 dLt) (xBin gIx (xSlot 8) (xSlot 4)) (xBin gIx (xSlot 8) (xBin (lift2 dAdd) (xSlot 1) (xSlot 4))))) (sDrop (xMeth putApp (xSlot 5) (xTup (aCons (xSlot 6) (aCons (xSlot 7) (aCons (xBin (lift2 dAdd) (xSl (xSlot 8) (oSo (xSlot 1)) oNo) (xSl (xSlot 8) oNo (oSo (xSlot 1)))) aNil)))))) sNil)))) (sRet (xUn gTuple (xUn (orG gSortSet (compG gSet gSortS)) (xSlot 5)))))) := rfl
theorem f_law_falling (n : Nat) : fns T ds (n + 1) "_law_falling" = runFn ["pen", "many", "most", "lap", "at", "found", "s", "t", "row"] ["pen", "many", "most"] false
    (sSeq (sPar2 4 5 (aCons (xCall (fns T ds n "_law_draw") (aCons (xSlot 0) (aCons (xSlot 1) aNil))) (aCons (xLstC aNil) aNil))) (sSeq (sFor (iRange1 (xCall (fns T ds n "_law_draw") (aCons (xSlot 0) (aCons (xBin (lift2 dAdd) (xSlot 2) (xC (.int 1))) aNil)))) (gN 3) (sSeq (sAsg (xCall (fns T ds n "_law_some_look") (aCons (xSlot 0) (aCons (xSlot 1) aNil))) (gT (gsCons (gN 6) (gsCons (gN 7) (gsCons (gN 8) gsNil))))) (sIf (tOrX (tVal (xBin (lift2 dGt) (xBin gIx (xSlot 8) (xSlot 4)) (xBin gIx (xSlot 8) (xBin (lift2 dAdd) (xSlot 1) (xSlot 4))))) (tVal (xBin (lift2 dEq) (xCall (fns T ds n "_law_draw") (aCons (xSlot 0) (aCons (xC (.int 9)) aNil))) (xC (.int 0))))) (sDrop (xMeth putApp (xSlot 5) (xTup (aCons (xSlot 6) (aCons (xSlot 7) (aCons (xSlot 8) aNil)))))) (sIf (tVal (xBin (lift2 dLt) (xBin gIx (xSlot 8) (xSlot 4)) (xBin gIx (xSlot 8) (xBin (lift2 dAdd) (xSlot 1) (xSlot 4))))) (sDrop (xMeth putApp (xSlot 5) (xTup (aCons (xSlot 6) (aCons (xSlot 7) (aCons (xBin (lift2 dAdd) (xSl (xSlot 8) (oSo (xSlot 1)) oNo) (xSl (xSlot 8) oNo (oSo (xSlot 1)))) aNil)))))) sNil)))) (sRet (xUn gTuple (xUn (orG gSortSet (compG gSet gSortS)) (xSlot 5)))))) := b21 (fns T ds n)
theorem b22 (Γ : FT) : denF T Γ d22 = runFn ["pen", "many", "most"] ["pen", "many", "most"] false
    (sSeq (sIf (tVal (xBin (lift2 dEq) (xCall (Γ "_law_draw") (aCons (xSlot 0) (aCons (xC (.int 3)) aNil))) (xC (.int 0)))) (sRet (xCall (Γ "_law_some_table") (aCons (xSlot 0) (aCons (xSlot 1) (aCons (xSlot 2) aNil))))) sNil) (sRet (xCall (Γ "_law_falling") (aCons (xSlot 0) (aCons (xSlot 1) (aCons (xSlot 2) aNil)))))) := rfl
theorem f_law_any_table (n : Nat) : fns T ds (n + 1) "_law_any_table" = runFn ["pen", "many", "most"] ["pen", "many", "most"] false
    (sSeq (sIf (tVal (xBin (lift2 dEq) (xCall (fns T ds n "_law_draw") (aCons (xSlot 0) (aCons (xC (.int 3)) aNil))) (xC (.int 0)))) (sRet (xCall (fns T ds n "_law_some_table") (aCons (xSlot 0) (aCons (xSlot 1) (aCons (xSlot 2) aNil))))) sNil) (sRet (xCall (fns T ds n "_law_falling") (aCons (xSlot 0) (aCons (xSlot 1) (aCons (xSlot 2) aNil)))))) := b22 (fns T ds n)
theorem b23 (Γ : FT) : denF T Γ d23 = runFn ["pen", "many", "most", "lap"] ["pen", "many", "most"] false
    (sRet (xUn gTuple (xUn (orG gSortSet (compG gSet gSortS)) (xLc [3] (iRange1 (xCall (Γ "_law_draw") (aCons (xSlot 0) (aCons (xBin (lift2 dAdd) (xSlot 2) (xC (.int 1))) aNil)))) (gN 3) xTrue (xCall (Γ "_law_some_order") (aCons (xSlot 0) (aCons (xSlot 1) aNil))))))) := rfl
theorem f_law_some_waits (n : Nat) : fns T ds (n + 1) "_law_some_waits" = runFn ["pen", "many", "most", "lap"] ["pen", "many", "most"] false
    (sRet (xUn gTuple (xUn (orG gSortSet (compG gSet gSortS)) (xLc [3] (iRange1 (xCall (fns T ds n "_law_draw") (aCons (xSlot 0) (aCons (xBin (lift2 dAdd) (xSlot 2) (xC (.int 1))) aNil)))) (gN 3) xTrue (xCall (fns T ds n "_law_some_order") (aCons (xSlot 0) (aCons (xSlot 1) aNil))))))) := b23 (fns T ds n)
theorem b24 (Γ : FT) : denF T Γ d24 = runFn ["row"] ["row"] false
    (sRet (xBin (lift2 dAdd) (xCall (Γ "_law_half") (aCons (xSlot 0) (aCons (xC (.int 1)) aNil))) (xCall (Γ "_law_half") (aCons (xSlot 0) (aCons (xC (.int 0)) aNil))))) := rfl
theorem f_law_turned (n : Nat) : fns T ds (n + 1) "_law_turned" = runFn ["row"] ["row"] false
    (sRet (xBin (lift2 dAdd) (xCall (fns T ds n "_law_half") (aCons (xSlot 0) (aCons (xC (.int 1)) aNil))) (xCall (fns T ds n "_law_half") (aCons (xSlot 0) (aCons (xC (.int 0)) aNil))))) := b24 (fns T ds n)
theorem b25 (Γ : FT) : denF T Γ d25 = runFn ["waits", "look"] ["waits", "look"] false
    (sSeq (sIf (tAndX (tVal (xBin (lift2 dEq) (xBin gIx (xSlot 1) (xC (.int 0))) (xC (.int 1)))) (tVal (xBin (lift2 dEq) (xBin gIx (xSlot 1) (xC (.int 1))) (xC (.int 0))))) (sRet (xBin gIn (xBin gIx (xSlot 1) (xC (.int 2))) (xSlot 0))) sNil) (sRet (xAnd (xBin (lift2 dEq) (xBin gIx (xSlot 1) (xC (.int 0))) (xC (.int 0))) (xAnd (xBin (lift2 dEq) (xBin gIx (xSlot 1) (xC (.int 1))) (xC (.int 1))) (xBin gIn (xCall (Γ "_law_turned") (aCons (xBin gIx (xSlot 1) (xC (.int 2))) aNil)) (xSlot 0)))))) := rfl
theorem f_law_cut (n : Nat) : fns T ds (n + 1) "_law_cut" = runFn ["waits", "look"] ["waits", "look"] false
    (sSeq (sIf (tAndX (tVal (xBin (lift2 dEq) (xBin gIx (xSlot 1) (xC (.int 0))) (xC (.int 1)))) (tVal (xBin (lift2 dEq) (xBin gIx (xSlot 1) (xC (.int 1))) (xC (.int 0))))) (sRet (xBin gIn (xBin gIx (xSlot 1) (xC (.int 2))) (xSlot 0))) sNil) (sRet (xAnd (xBin (lift2 dEq) (xBin gIx (xSlot 1) (xC (.int 0))) (xC (.int 0))) (xAnd (xBin (lift2 dEq) (xBin gIx (xSlot 1) (xC (.int 1))) (xC (.int 1))) (xBin gIn (xCall (fns T ds n "_law_turned") (aCons (xBin gIx (xSlot 1) (xC (.int 2))) aNil)) (xSlot 0)))))) := b25 (fns T ds n)
theorem b26 (Γ : FT) : denF T Γ d26 = runFn ["table", "waits", "look"] ["table", "waits"] false
    (sRet (xUn gTuple (xLc [2] (iSeq (xSlot 0)) (gN 2) (tNotX (tVal (xCall (Γ "_law_cut") (aCons (xSlot 1) (aCons (xSlot 2) aNil))))) (xSlot 2)))) := rfl
theorem f_law_kept (n : Nat) : fns T ds (n + 1) "_law_kept" = runFn ["table", "waits", "look"] ["table", "waits"] false
    (sRet (xUn gTuple (xLc [2] (iSeq (xSlot 0)) (gN 2) (tNotX (tVal (xCall (fns T ds n "_law_cut") (aCons (xSlot 1) (aCons (xSlot 2) aNil))))) (xSlot 2)))) := b26 (fns T ds n)
theorem b27 (Γ : FT) : denF T Γ d27 = runFn ["waits", "row"] ["waits"] false
    (sRet (xUn gTuple (xLc [1] (iSeq (xSlot 0)) (gN 1) xTrue (xTup (aCons (xC (.int 0)) (aCons (xC (.int 0)) (aCons (xSlot 1) aNil))))))) := rfl
theorem f_law_waiting (n : Nat) : fns T ds (n + 1) "_law_waiting" = runFn ["waits", "row"] ["waits"] false
    (sRet (xUn gTuple (xLc [1] (iSeq (xSlot 0)) (gN 1) xTrue (xTup (aCons (xC (.int 0)) (aCons (xC (.int 0)) (aCons (xSlot 1) aNil))))))) := b27 (fns T ds n)
theorem b28 (Γ : FT) : denF T Γ d28 = runFn ["table", "one", "look"] ["table"] false
    (sSeq (sAsg (xLc [2] (iSeq (xSlot 0)) (gN 2) (tVal (xBin (lift2 dEq) (xSl (xSlot 2) oNo (oSo (xC (.int 2)))) (xTup (aCons (xC (.int 1)) (aCons (xC (.int 0)) aNil))))) (xBin gIx (xSlot 2) (xC (.int 2)))) (gN 1)) (sRet (xBin (lift2 dAdd) (xSlot 1) (xLc [2] (iSeq (xSlot 0)) (gN 2) (tVal (xBin (lift2 dEq) (xSl (xSlot 2) oNo (oSo (xC (.int 2)))) (xTup (aCons (xC (.int 0)) (aCons (xC (.int 1)) aNil))))) (xCall (Γ "_law_turned") (aCons (xBin gIx (xSlot 2) (xC (.int 2))) aNil)))))) := rfl
theorem f_law_needed (n : Nat) : fns T ds (n + 1) "_law_needed" = runFn ["table", "one", "look"] ["table"] false
    (sSeq (sAsg (xLc [2] (iSeq (xSlot 0)) (gN 2) (tVal (xBin (lift2 dEq) (xSl (xSlot 2) oNo (oSo (xC (.int 2)))) (xTup (aCons (xC (.int 1)) (aCons (xC (.int 0)) aNil))))) (xBin gIx (xSlot 2) (xC (.int 2)))) (gN 1)) (sRet (xBin (lift2 dAdd) (xSlot 1) (xLc [2] (iSeq (xSlot 0)) (gN 2) (tVal (xBin (lift2 dEq) (xSl (xSlot 2) oNo (oSo (xC (.int 2)))) (xTup (aCons (xC (.int 0)) (aCons (xC (.int 1)) aNil))))) (xCall (fns T ds n "_law_turned") (aCons (xBin gIx (xSlot 2) (xC (.int 2))) aNil)))))) := b28 (fns T ds n)
theorem b29 (Γ : FT) : denF T Γ d29 = runFn ["script", "pen", "turn", "many", "table", "needed", "waits", "before", "look", "row", "lap"] ["script"] false
    (sSeq (sAsg (xCall (Γ "_law_pen") (aCons (xSlot 0) aNil)) (gN 1)) (sSeq (sFor (iRange1 (xBin gMax2 (xC (.int 3)) (xBin gMin2 (xC (.int 7)) (xUn gLen (xSlot 0))))) (gN 2) (sSeq (sAsg (xBin (lift2 dAdd) (xC (.int 1)) (xCall (Γ "_law_draw") (aCons (xSlot 1) (aCons (xC (.int 2)) aNil)))) (gN 3)) (sSeq (sAsg (xIf (tVal (xBin (lift2 dGt) (xCall (Γ "_law_draw") (aCons (xSlot 1) (aCons (xC (.int 3)) aNil))) (xC (.int 0)))) (xCall (Γ "_law_any_table") (aCons (xSlot 1) (aCons (xSlot 3) (aCons (xC (.int 12)) aNil)))) (xCall (Γ "_law_natural") (aCons (xSlot 1) (aCons (xSlot 3) aNil)))) (gN 4)) (sSeq (sAsg (xLc [9] (iSeq (xCall (Γ "_law_needed") (aCons (xSlot 4) aNil))) (gN 9) (tVal (xBin (lift2 dEq) (xCall (Γ "_law_draw") (aCons (xSlot 1) (aCons (xC (.int 3)) aNil))) (xC (.int 0)))) (xSlot 9)) (gN 5)) (sSeq (sAsg (xUn gTuple (xUn (orG gSortSet (compG gSet gSortS)) (xBin (lift2 dAdd) (xSl (xSlot 5) oNo (oSo (xC (.int 5)))) (xUn gList (xCall (Γ "_law_some_waits") (aCons (xSlot 1) (aCons (xSlot 3) (aCons (xC (.int 3)) aNil)))))))) (gN 6)) (sSeq (sAsg (xUn gRepr (xTup (aCons (xSlot 4) (aCons (xSlot 6) aNil)))) (gN 7)) (sSeq (sIf (tVal (xBin (lift2 dNe) (xUn gRepr (xCall (Γ "waits_table") (aCons (xSlot 6) aNil))) (xUn gRepr (xCall (Γ "_law_waiting") (aCons (xSlot 6) aNil))))) (sRet (xC (.bool false))) sNil) (sSeq (sIf (tVal (xBin (lift2 dNe) (xUn gRepr (xCall (Γ "kept_table") (aCons (xSlot 4) (aCons (xSlot 6) aNil)))) (xUn gRepr (xCall (Γ "_law_kept") (aCons (xSlot 4) (aCons (xSlot 6) aNil)))))) (sRet (xC (.bool false))) sNil) (sSeq (sFor (iSeq (xBin (lift2 dAdd) (xUn gList (xSl (xSlot 4) oNo (oSo (xC (.int 12))))) (xLc [10] (iRange1 (xC (.int 6))) (gN 10) xTrue (xCall (Γ "_law_some_look") (aCons (xSlot 1) (aCons (xSlot 3) aNil)))))) (gN 8) (sIf (tVal (xBin (lift2 dNe) (xUn gRepr (xCall (Γ "is_cut") (aCons (xSlot 6) (aCons (xSlot 8) aNil)))) (xUn gRepr (xCall (Γ "_law_cut") (aCons (xSlot 6) (aCons (xSlot 8) aNil)))))) (sRet (xC (.bool false))) sNil)) (sIf (tVal (xBin (lift2 dNe) (xUn gRepr (xTup (aCons (xSlot 4) (aCons (xSlot 6) aNil)))) (xSlot 7))) (sRet (xC (.bool false))) sNil)))))))))) (sRet (xC (.bool true))))) := rfl
theorem f_law (n : Nat) : fns T ds (n + 1) "law" = runFn ["script", "pen", "turn", "many", "table", "needed", "waits", "before", "look", "row", "lap"] ["script"] false
    (sSeq (sAsg (xCall (fns T ds n "_law_pen") (aCons (xSlot 0) aNil)) (gN 1)) (sSeq (sFor (iRange1 (xBin gMax2 (xC (.int 3)) (xBin gMin2 (xC (.int 7)) (xUn gLen (xSlot 0))))) (gN 2) (sSeq (sAsg (xBin (lift2 dAdd) (xC (.int 1)) (xCall (fns T ds n "_law_draw") (aCons (xSlot 1) (aCons (xC (.int 2)) aNil)))) (gN 3)) (sSeq (sAsg (xIf (tVal (xBin (lift2 dGt) (xCall (fns T ds n "_law_draw") (aCons (xSlot 1) (aCons (xC (.int 3)) aNil))) (xC (.int 0)))) (xCall (fns T ds n "_law_any_table") (aCons (xSlot 1) (aCons (xSlot 3) (aCons (xC (.int 12)) aNil)))) (xCall (fns T ds n "_law_natural") (aCons (xSlot 1) (aCons (xSlot 3) aNil)))) (gN 4)) (sSeq (sAsg (xLc [9] (iSeq (xCall (fns T ds n "_law_needed") (aCons (xSlot 4) aNil))) (gN 9) (tVal (xBin (lift2 dEq) (xCall (fns T ds n "_law_draw") (aCons (xSlot 1) (aCons (xC (.int 3)) aNil))) (xC (.int 0)))) (xSlot 9)) (gN 5)) (sSeq (sAsg (xUn gTuple (xUn (orG gSortSet (compG gSet gSortS)) (xBin (lift2 dAdd) (xSl (xSlot 5) oNo (oSo (xC (.int 5)))) (xUn gList (xCall (fns T ds n "_law_some_waits") (aCons (xSlot 1) (aCons (xSlot 3) (aCons (xC (.int 3)) aNil)))))))) (gN 6)) (sSeq (sAsg (xUn gRepr (xTup (aCons (xSlot 4) (aCons (xSlot 6) aNil)))) (gN 7)) (sSeq (sIf (tVal (xBin (lift2 dNe) (xUn gRepr (xCall (fns T ds n "waits_table") (aCons (xSlot 6) aNil))) (xUn gRepr (xCall (fns T ds n "_law_waiting") (aCons (xSlot 6) aNil))))) (sRet (xC (.bool false))) sNil) (sSeq (sIf (tVal (xBin (lift2 dNe) (xUn gRepr (xCall (fns T ds n "kept_table") (aCons (xSlot 4) (aCons (xSlot 6) aNil)))) (xUn gRepr (xCall (fns T ds n "_law_kept") (aCons (xSlot 4) (aCons (xSlot 6) aNil)))))) (sRet (xC (.bool false))) sNil) (sSeq (sFor (iSeq (xBin (lift2 dAdd) (xUn gList (xSl (xSlot 4) oNo (oSo (xC (.int 12))))) (xLc [10] (iRange1 (xC (.int 6))) (gN 10) xTrue (xCall (fns T ds n "_law_some_look") (aCons (xSlot 1) (aCons (xSlot 3) aNil)))))) (gN 8) (sIf (tVal (xBin (lift2 dNe) (xUn gRepr (xCall (fns T ds n "is_cut") (aCons (xSlot 6) (aCons (xSlot 8) aNil)))) (xUn gRepr (xCall (fns T ds n "_law_cut") (aCons (xSlot 6) (aCons (xSlot 8) aNil)))))) (sRet (xC (.bool false))) sNil)) (sIf (tVal (xBin (lift2 dNe) (xUn gRepr (xTup (aCons (xSlot 4) (aCons (xSlot 6) aNil)))) (xSlot 7))) (sRet (xC (.bool false))) sNil)))))))))) (sRet (xC (.bool true))))) := b29 (fns T ds n)
end Lw
end
section
set_option Elab.async false
set_option linter.all false
set_option maxRecDepth 100000
set_option maxHeartbeats 1000000
namespace Lw
open PySem NB
/-- the pen: what is given, the seat, the rest -/
def P (g : List Int) (s r : Int) : Cell := .lst [.dat (.list (g.map .int)), .dat (.int s), .dat (.int r)]
theorem fin0 {n : Nat} {d : PyData} {S : Sto} (h : S.length = n) : finish false n (.dat d) S = .ok (.dat d) S := by
  subst h
  show Res.ok (Val.dat d) (S.take S.length) = _
  rw [List.take_length]
theorem ix0 {α : Type} (ds : List α) (i : Int) (h0 : 0 ≤ i) (h1 : i < ds.length) : ∃ x, ds[i.toNat]? = some x ∧ L2.atI ds i = some x := by
  have hl : i.toNat < ds.length := by omega
  refine ⟨ds[i.toNat], List.getElem?_eq_getElem hl, ?_⟩
  unfold L2.atI L2.ixN
  simp [h0, h1, hl]
theorem draw1 (n : Nat) {g : List Int} {s r b : Int} {R : Sto} (hf : ∀ r, ∃ v s', 0 ≤ v ∧ 0 ≤ s' ∧ fns T ds n "_law_fresh" [.loc 0] (P g s r :: R) = .ok (.dat (.int v)) (P g s' r :: R)) (hs : 0 ≤ s) (hb : 1 ≤ b) (hl : b.natAbs.log2 < 9000) :
    ∃ v s' r', 0 ≤ v ∧ v < b ∧ 0 ≤ s' ∧ fns T ds (n + 1) "_law_draw" [.loc 0, .dat (.int b)] (P g s r :: R) = .ok (.dat (.int v)) (P g s' r' :: R) := by
  obtain ⟨v, s', h1, h2, h3⟩ := hf r
  rw [f_law_draw]
  by_cases hr : r < b
  · refine ⟨v % b, s', v / b, Int.emod_nonneg _ (by omega), Int.emod_lt_of_pos _ (by omega), h2, ?_⟩
    have hb' : 0 < b := by omega
    simp [runFn, sSeq, sIf, tVal, xBin, xSlot, xC, P, gIx, L2.atI, L2.ixN, lift2, dLt, hr, sPut, xCall, aCons, aNil, bindS]
    rw [show (Cell.lst [.dat (.list (g.map .int)), .dat (.int s), .dat (.int r)]) = P g s r from rfl, h3]
    simp [P, putIx, sAsg, xUn, gN, gIx, L2.atI, L2.ixN, lift2, dMod, dFdiv, hb', hl, sRet, xSlot, xC, xBin, bindS, gInt, xUn, sPut]
    exact fin0 (by simp)
  · refine ⟨r % b, s, r / b, Int.emod_nonneg _ (by omega), Int.emod_lt_of_pos _ (by omega), hs, ?_⟩
    have hb' : 0 < b := by omega
    simp [runFn, sSeq, sIf, sNil, tVal, xBin, xSlot, xC, P, gIx, L2.atI, L2.ixN, lift2, dLt, hr, bindS, putIx, sAsg, xUn, gN, dMod, dFdiv, hb', hl, sRet, gInt, sPut]
    exact fin0 (by simp)
theorem forGo_inv {g : Tg} {b : XSt} {ok : Sto → Prop} (J : NB.Env → Sto → Prop) (hok : ∀ ρ S, J ρ S → ok S) : ∀ {xs : List Val}, (∀ x ∈ xs, ∀ ρ S, J ρ S → ∃ ρ1, g.set x ρ = some ρ1 ∧ ∃ ρ2 S2, b ρ1 S = .ok .next ρ2 S2 ∧ J ρ2 S2) → ∀ ρ S, J ρ S → ∃ ρ' S', forGo g b ok xs ρ S = .ok .next ρ' S' ∧ J ρ' S'
  | [], _, ρ, S, j => ⟨ρ, S, by unfold forGo; rw [if_pos (hok _ _ j)], j⟩
  | x :: xs, h, ρ, S, j => by
    obtain ⟨ρ1, h1, ρ2, S2, h2, j2⟩ := h x List.mem_cons_self ρ S j
    obtain ⟨ρ', S', h3, j3⟩ := forGo_inv J hok (fun y hy => h y (List.mem_cons_of_mem _ hy)) ρ2 S2 j2
    refine ⟨ρ', S', ?_, j3⟩
    unfold forGo
    rw [if_pos (hok _ _ j), h1]
    simp only [h2]
    exact h3
theorem lcGo_pure {vs : List Nat} {g : Tg} {t : XT} {e : XE} {ρ : NB.Env} {ok : Sto → Prop} {S : Sto} (hok : ok S) (f : Val → Bool) (k : Val → Val) : ∀ {xs : List Val}, (∀ x ∈ xs, ∃ ρ2, g.set x (wipeE ρ vs) = some ρ2 ∧ t ρ2 S = .ok (f x) S ∧ (f x = true → e ρ2 S = .ok (k x) S)) → lcGo vs g t e ρ ok xs S = .ok ((xs.filter f).map k) S
  | [], _ => by unfold lcGo; rw [if_pos hok]; rfl
  | x :: xs, h => by
    obtain ⟨ρ2, h1, h2, h3⟩ := h x List.mem_cons_self
    have ih := lcGo_pure hok f k (fun y hy => h y (List.mem_cons_of_mem _ hy))
    unfold lcGo
    rw [if_pos hok, h1]
    simp only [h2, Res.bind_ok, List.filter_cons]
    cases hf : f x with
    | true => simp [h3 hf, ih]
    | false => simp [ih]
theorem lcGo_draw {vs : List Nat} {g : Tg} {t : XT} {e : XE} {ρ : NB.Env} {ok : Sto → Prop} (J : Sto → Prop) (G : Val → Prop) (hok : ∀ S, J S → ok S) : ∀ {xs : List Val}, (∀ x ∈ xs, ∀ S, J S → ∃ ρ2, g.set x (wipeE ρ vs) = some ρ2 ∧ t ρ2 S = .ok true S ∧ ∃ y S', e ρ2 S = .ok y S' ∧ G y ∧ J S') → ∀ S, J S → ∃ ys S', lcGo vs g t e ρ ok xs S = .ok ys S' ∧ (∀ y ∈ ys, G y) ∧ ys.length = xs.length ∧ J S'
  | [], _, S, j => ⟨[], S, by unfold lcGo; rw [if_pos (hok _ j)], by simp, rfl, j⟩
  | x :: xs, h, S, j => by
    obtain ⟨ρ2, h1, h2, y, S1, h3, gy, j1⟩ := h x List.mem_cons_self S j
    obtain ⟨ys, S', h4, gs, l, j2⟩ := lcGo_draw J G hok (fun y hy => h y (List.mem_cons_of_mem _ hy)) S1 j1
    refine ⟨y :: ys, S', ?_, ?_, by simp [l], j2⟩
    · unfold lcGo
      rw [if_pos (hok _ j), h1]
      simp only [h2, Res.bind_ok, if_true, h3, h4]
    · intro z hz
      rcases List.mem_cons.mp hz with e | e
      · rw [e]; exact gy
      · exact gs z e
theorem mem_upTo {lo : Int} {n : Nat} {x : Val} (h : x ∈ NB.upTo lo n) : ∃ k : Int, x = .dat (.int k) ∧ lo ≤ k ∧ k < lo + n := by
  unfold NB.upTo at h
  obtain ⟨k, hk, e⟩ := List.mem_map.mp h
  have := List.mem_range.mp hk
  exact ⟨lo + (k : Nat), e.symm, by omega, by omega⟩
theorem lay_ints : ∀ ns : List Int, PyData.plainAll (ns.map .int) = true
  | [] => rfl
  | n :: ns => by
    show (true && PyData.plainAll (ns.map .int)) = true
    rw [lay_ints ns]; rfl
theorem dep_ints : ∀ ns : List Int, PyData.depthAll (ns.map .int) = 0
  | [] => by simp [PyData.depthAll]
  | n :: ns => by simp [PyData.depthAll, PyData.depth, dep_ints ns]
theorem sh_tup (ns : List Int) : eqOk (.tuple (ns.map .int)) = true := by
  simp [eqOk, PyData.plain, PyData.depth, lay_ints, dep_ints]
theorem sh_lst (ns : List Int) : eqOk (.list (ns.map .int)) = true := by
  simp [eqOk, PyData.plain, PyData.depth, lay_ints, dep_ints]
theorem sh_int (n : Int) : eqOk (.int n) = true := by simp [eqOk, PyData.plain, PyData.depth]
theorem sh_str (n : Str) : eqOk (.str n) = true := by simp [eqOk, PyData.plain, PyData.depth]
theorem sh_nilL : eqOk (.list []) = true := sh_lst []
theorem sh_nilT : eqOk (.tuple []) = true := sh_tup []
theorem eqv_ints : ∀ ns ms : List Int, PyData.eqvAll (ns.map .int) (ms.map .int) = decide (ns = ms)
  | [], [] => by simp [PyData.eqvAll]
  | [], _ :: _ => by simp [PyData.eqvAll]
  | _ :: _, [] => by simp [PyData.eqvAll]
  | n :: ns, m :: ms => by
    simp only [List.map_cons, PyData.eqvAll, PyData.eqv, eqv_ints ns ms, List.cons.injEq]
    by_cases h : n = m <;> simp [h]
theorem mulOk_l {i j : Int} (h1 : -(2 ^ 64) < i) (h2 : i < 2 ^ 64) : mulOk i j = true := by
  unfold mulOk; rw [decide_eq_true (show -(2 ^ 64) < i ∧ i < 2 ^ 64 from ⟨h1, h2⟩)]; rfl
theorem mulOk_r {i j : Int} (h1 : -(2 ^ 64) < j) (h2 : j < 2 ^ 64) : mulOk i j = true := by
  unfold mulOk; rw [decide_eq_true (show -(2 ^ 64) < j ∧ j < 2 ^ 64 from ⟨h1, h2⟩), Bool.true_or, Bool.or_true]
theorem atI_mem {α : Type} {ds : List α} {i : Int} (h0 : 0 ≤ i) (h1 : i < ds.length) : ∃ x, x ∈ ds ∧ L2.atI ds i = some x := by
  obtain ⟨x, h, e⟩ := ix0 ds i h0 h1
  exact ⟨x, List.mem_of_getElem? h, e⟩
/-- what the pen's cell gives -/
def cellOf (g : List Int) (s : Int) : Int := if g = [] then 0 else g.getD (s % g.length).toNat 0
theorem cell_ix {g : List Int} {s : Int} (h : g ≠ []) : L2.atI (g.map fun n => PyData.int n) (s % g.length) = some (.int (cellOf g s)) := by
  have hl : 0 < g.length := List.length_pos_iff.mpr h
  have h0 : 0 ≤ s % (g.length : Int) := Int.emod_nonneg _ (by omega)
  have h1 : s % (g.length : Int) < (g.map fun n => PyData.int n).length := by rw [List.length_map]; exact Int.emod_lt_of_pos _ (by omega)
  obtain ⟨x, h2, e⟩ := ix0 _ _ h0 h1
  rw [e]
  rw [List.getElem?_map] at h2
  obtain ⟨y, h3, h4⟩ := Option.map_eq_some_iff.mp h2
  unfold cellOf
  rw [if_neg h, List.getD_eq_getElem?_getD, h3, ← h4]
  rfl
def iLoop (c s : Int) : XSt := (sSeq (sAsg (xBin (lift2 dMod) (xUn gInt (xBin (lift2 dAdd) (xBin (lift2 dAdd) (xBin (lift2 dMul) (xSlot 3) (xSlot 3)) (xBin (lift2 dMul) (xBin (lift2 dMul) (xC (.int 70139)) (xBin (lift2 dAdd) (xSlot 5) (xC (.int 5)))) (xBin (lift2 dAdd) (xSlot 6) (xC (.int 1))))) (xSlot 1))) (xSlot 2)) (gN 3)) (sAsg (xBin (lift2 dAdd) (xBin (lift2 dMul) (xSlot 4) (xSlot 2)) (xSlot 3)) (gN 4)))
def Jf (S0 : Sto) (a b : Option Val) (c s : Int) (ρ : NB.Env) (S : Sto) : Prop := S = S0 ∧ ∃ st fo l, 0 ≤ st ∧ st < 2305843009213693951 ∧ 0 ≤ fo ∧ ρ = [a, some (.dat (.int c)), some (.dat (.int 2305843009213693951)), some (.dat (.int st)), some (.dat (.int fo)), l, some (.dat (.int s)), b]
theorem loop_ok (S0 : Sto) (a b : Option Val) (c s : Int) : ∀ x ∈ NB.upTo 0 6, ∀ ρ S, Jf S0 a b c s ρ S → ∃ ρ1, (gN 5).set x ρ = some ρ1 ∧ ∃ ρ2 S2, iLoop c s ρ1 S = .ok .next ρ2 S2 ∧ Jf S0 a b c s ρ2 S2 := by
  rintro x hx ρ S ⟨rfl, st, fo, l, h0, h1, h2, rfl⟩
  obtain ⟨k, rfl, hk0, hk1⟩ := mem_upTo hx
  refine ⟨_, rfl, ?_⟩
  have m1 : mulOk st st = true := mulOk_l (by omega) (by omega)
  have m2 : mulOk 70139 (k + 5) = true := mulOk_l (by decide) (by decide)
  have m3 : mulOk (70139 * (k + 5)) (s + 1) = true := mulOk_l (by omega) (by omega)
  have m4 : mulOk fo 2305843009213693951 = true := mulOk_r (by decide) (by decide)
  have e : iLoop c s ([a, some (.dat (.int c)), some (.dat (.int 2305843009213693951)), some (.dat (.int st)), some (.dat (.int fo)), l, some (.dat (.int s)), b].set 5 (some (.dat (.int k)))) S = .ok .next [a, some (.dat (.int c)), some (.dat (.int 2305843009213693951)), some (.dat (.int ((st * st + 70139 * (k + 5) * (s + 1) + c) % 2305843009213693951))), some (.dat (.int (fo * 2305843009213693951 + (st * st + 70139 * (k + 5) * (s + 1) + c) % 2305843009213693951))), some (.dat (.int k)), some (.dat (.int s)), b] S := by
    simp [iLoop, sSeq, sAsg, xBin, xUn, xSlot, xC, gN, bindS, lift2, dMul, m1, m2, m3, m4, dAdd, gInt, dMod]
  refine ⟨_, _, e, rfl, _, _, _, ?_, ?_, ?_, rfl⟩
  · exact Int.emod_nonneg _ (by decide)
  · exact Int.emod_lt_of_pos _ (by decide)
  · have := Int.emod_nonneg (st * st + 70139 * (k + 5) * (s + 1) + c) (b := 2305843009213693951) (by decide)
    have : 0 ≤ fo * 2305843009213693951 := by omega
    omega
theorem gix_l (S : Sto) (ds : List PyData) (i : Int) : gIx S (.dat (.list ds)) (.dat (.int i)) = (L2.atI ds i).map .dat := rfl
theorem gix_t (S : Sto) (ds : List PyData) (i : Int) : gIx S (.dat (.tuple ds)) (.dat (.int i)) = (L2.atI ds i).map .dat := rfl
theorem gix_p0 (g : List Int) (s r : Int) (R : Sto) : gIx (P g s r :: R) (.loc 0) (.dat (.int 0)) = some (.dat (.list (g.map .int))) := rfl
theorem gix_p1 (g : List Int) (s r : Int) (R : Sto) : gIx (P g s r :: R) (.loc 0) (.dat (.int 1)) = some (.dat (.int s)) := rfl
theorem gix_p2 (g : List Int) (s r : Int) (R : Sto) : gIx (P g s r :: R) (.loc 0) (.dat (.int 2)) = some (.dat (.int r)) := rfl
theorem put_p1 (g : List Int) (s r s' : Int) (R : Sto) : putIx (P g s r :: R) (.loc 0) (.dat (.int 1)) (.dat (.int s')) = some (P g s' r :: R) := rfl
theorem put_p2 (g : List Int) (s r s' : Int) (R : Sto) : putIx (P g s r :: R) (.loc 0) (.dat (.int 2)) (.dat (.int s')) = some (P g s s' :: R) := rfl
theorem glen_l (S : Sto) (ds : List PyData) : gLen S (.dat (.list ds)) = some (.dat (.int ds.length)) := by
  simp [gLen]
theorem glen_t (S : Sto) (ds : List PyData) : gLen S (.dat (.tuple ds)) = some (.dat (.int ds.length)) := by
  simp [gLen]
theorem seq_next {a b : XSt} {ρ ρ' : NB.Env} {S S' : Sto} (h : a ρ S = .ok .next ρ' S') : sSeq a b ρ S = b ρ' S' := by unfold sSeq; rw [h]
theorem asg_next {m : XE} {i : Nat} {ρ : NB.Env} {S S' : Sto} {x : Val} (h : m ρ S = .ok x S') : sAsg m (gN i) ρ S = .ok .next (ρ.set i (some x)) S' := by
  unfold sAsg; rw [h]; rfl
theorem ret_eq {m : XE} {ρ : NB.Env} {S S' : Sto} {x : Val} (h : m ρ S = .ok x S') : sRet m ρ S = .ok (.ret x) ρ S' := by
  unfold sRet; rw [h]; rfl
theorem runFn_ret {N ps : List Str} {body : XSt} {xs : List Val} {S S' : Sto} {d : PyData} {ρ' : NB.Env} (hl : xs.length = ps.length) (hb : body (xs.map some ++ List.replicate (N.length - xs.length) none) S = .ok (.ret (.dat d)) ρ' S') (hS : S'.length = S.length) : runFn N ps false body xs S = .ok (.dat d) S' := by
  unfold runFn
  rw [if_pos hl, hb]
  exact fin0 hS
theorem fresh1 (n : Nat) {g : List Int} {s r : Int} {R : Sto} (hs : 0 ≤ s) : ∃ v s', 0 ≤ v ∧ 0 ≤ s' ∧ fns T ds (n + 1) "_law_fresh" [.loc 0] (P g s r :: R) = .ok (.dat (.int v)) (P g s' r :: R) := by
  rw [f_law_fresh]
  have e1 : eqOk (.list (g.map .int)) = true := sh_lst g
  have e2 : PyData.eqv (.list (g.map .int)) (.list []) = decide (g = []) := by
    have := eqv_ints g []
    simpa [PyData.eqv] using this
  have m1 : mulOk (cellOf g s) 48271 = true := mulOk_r (by decide) (by decide)
  have m2 : mulOk 60013 s = true := mulOk_l (by decide) (by decide)
  have hcell : (xIf (tVal (xBin (lift2 dNe) (xSlot 7) (xLst aNil))) (xBin gIx (xSlot 7) (xBin (lift2 dMod) (xUn gInt (xSlot 6)) (xUn gLen (xSlot 7)))) (xC (.int 0))) [some (.loc 0), none, none, none, none, none, some (.dat (.int s)), some (.dat (.list (g.map .int)))] (P g (s + 1) r :: R) = .ok (.dat (.int (cellOf g s))) (P g (s + 1) r :: R) := by
    by_cases hg : g = []
    · subst hg
      simp [sSeq, sIf, sAsg, sPut, sPar2, sRet, sNil, sDrop, bindS, xBin, xUn, xSlot, xC, xTup, xLst, xLstC, xIf, xAnd, xOr, xChain, xCall, aCons, aNil, tVal, tNotX, tAndX, tOrX, gN, gT, gsCons, gsNil, unT, lift2, lift1, dAdd, dSub, dMod, dLt, dLe, dGt, dGe, dNot, dNeg, gInt, gix_l, gix_t, glen_l, glen_t, xTrue, dNe, sh_nilL, cellOf, PyData.eqv, PyData.eqvAll]
    · have hl : 0 < g.length := List.length_pos_iff.mpr hg
      have hc := cell_ix (s := s) hg
      simp [sSeq, sIf, sAsg, sPut, sPar2, sRet, sNil, sDrop, bindS, xBin, xUn, xSlot, xC, xTup, xLst, xLstC, xIf, xAnd, xOr, xChain, xCall, aCons, aNil, tVal, tNotX, tAndX, tOrX, gN, gT, gsCons, gsNil, unT, lift2, lift1, dAdd, dSub, dMod, dLt, dLe, dGt, dGe, dNot, dNeg, gInt, gix_l, gix_t, glen_l, glen_t, xTrue, dNe, sh_nilL, e1, e2, hg, hl, hc]
  by_cases hb : s < g.length ∧ 1000000000000000000 ≤ cellOf g s
  · refine ⟨cellOf g s - 1000000000000000000, s + 1, by omega, by omega, ?_⟩
    refine runFn_ret rfl (ρ' := [some (.loc 0), some (.dat (.int (cellOf g s))), none, none, none, none, some (.dat (.int s)), some (.dat (.list (g.map .int)))]) ?_ rfl
    refine (seq_next (ρ' := [some (.loc 0), none, none, none, none, none, some (.dat (.int s)), some (.dat (.list (g.map .int)))]) (S' := P g s r :: R) (by simp [sSeq, sIf, sAsg, sPut, sPar2, sRet, sNil, sDrop, bindS, xBin, xUn, xSlot, xC, xTup, xLst, xLstC, xIf, xAnd, xOr, xChain, xCall, aCons, aNil, tVal, tNotX, tAndX, tOrX, gN, gT, gsCons, gsNil, unT, lift2, lift1, dAdd, dSub, dMod, dLt, dLe, dGt, dGe, dNot, dNeg, gInt, gix_l, gix_t, glen_l, glen_t, xTrue, gix_p0, gix_p1])).trans ?_
    refine (seq_next (ρ' := [some (.loc 0), none, none, none, none, none, some (.dat (.int s)), some (.dat (.list (g.map .int)))]) (S' := P g (s + 1) r :: R) (by simp [sSeq, sIf, sAsg, sPut, sPar2, sRet, sNil, sDrop, bindS, xBin, xUn, xSlot, xC, xTup, xLst, xLstC, xIf, xAnd, xOr, xChain, xCall, aCons, aNil, tVal, tNotX, tAndX, tOrX, gN, gT, gsCons, gsNil, unT, lift2, lift1, dAdd, dSub, dMod, dLt, dLe, dGt, dGe, dNot, dNeg, gInt, gix_l, gix_t, glen_l, glen_t, xTrue, put_p1])).trans ?_
    refine (seq_next (asg_next hcell)).trans ?_
    simp [sSeq, sIf, sAsg, sPut, sPar2, sRet, sNil, sDrop, bindS, xBin, xUn, xSlot, xC, xTup, xLst, xLstC, xIf, xAnd, xOr, xChain, xCall, aCons, aNil, tVal, tNotX, tAndX, tOrX, gN, gT, gsCons, gsNil, unT, lift2, lift1, dAdd, dSub, dMod, dLt, dLe, dGt, dGe, dNot, dNeg, gInt, gix_l, gix_t, glen_l, glen_t, xTrue, hb.1, hb.2, dPow]
  · have hp : ∃ st, 0 ≤ st ∧ st < 2305843009213693951 ∧ st = (cellOf g s * 48271 + 60013 * s + 31) % 2305843009213693951 := ⟨_, Int.emod_nonneg _ (by decide), Int.emod_lt_of_pos _ (by decide), rfl⟩
    obtain ⟨st, h0, h1, h2⟩ := hp
    obtain ⟨ρ', S', hf, rfl, st', fo', l, k0, k1, k2, rfl⟩ := forGo_inv (g := gN 5) (b := iLoop (cellOf g s) s) (ok := fun _ => True) (Jf (P g (s + 1) r :: R) (some (.loc 0)) (some (.dat (.list (g.map .int)))) (cellOf g s) s) (fun _ _ _ => trivial) (loop_ok _ _ _ _ _) [some (.loc 0), some (.dat (.int (cellOf g s))), some (.dat (.int 2305843009213693951)), some (.dat (.int st)), some (.dat (.int st)), none, some (.dat (.int s)), some (.dat (.list (g.map .int)))] (P g (s + 1) r :: R) ⟨rfl, st, st, none, h0, h1, h0, rfl⟩
    refine ⟨fo', s + 1, k2, by omega, ?_⟩
    refine runFn_ret rfl (ρ' := [some (.loc 0), some (.dat (.int (cellOf g s))), some (.dat (.int 2305843009213693951)), some (.dat (.int st')), some (.dat (.int fo')), l, some (.dat (.int s)), some (.dat (.list (g.map .int)))]) ?_ rfl
    refine (seq_next (ρ' := [some (.loc 0), none, none, none, none, none, some (.dat (.int s)), some (.dat (.list (g.map .int)))]) (S' := P g s r :: R) (by simp [sSeq, sIf, sAsg, sPut, sPar2, sRet, sNil, sDrop, bindS, xBin, xUn, xSlot, xC, xTup, xLst, xLstC, xIf, xAnd, xOr, xChain, xCall, aCons, aNil, tVal, tNotX, tAndX, tOrX, gN, gT, gsCons, gsNil, unT, lift2, lift1, dAdd, dSub, dMod, dLt, dLe, dGt, dGe, dNot, dNeg, gInt, gix_l, gix_t, glen_l, glen_t, xTrue, gix_p0, gix_p1])).trans ?_
    refine (seq_next (ρ' := [some (.loc 0), none, none, none, none, none, some (.dat (.int s)), some (.dat (.list (g.map .int)))]) (S' := P g (s + 1) r :: R) (by simp [sSeq, sIf, sAsg, sPut, sPar2, sRet, sNil, sDrop, bindS, xBin, xUn, xSlot, xC, xTup, xLst, xLstC, xIf, xAnd, xOr, xChain, xCall, aCons, aNil, tVal, tNotX, tAndX, tOrX, gN, gT, gsCons, gsNil, unT, lift2, lift1, dAdd, dSub, dMod, dLt, dLe, dGt, dGe, dNot, dNeg, gInt, gix_l, gix_t, glen_l, glen_t, xTrue, put_p1])).trans ?_
    refine (seq_next (asg_next hcell)).trans ?_
    refine (seq_next (ρ' := [some (.loc 0), some (.dat (.int (cellOf g s))), none, none, none, none, some (.dat (.int s)), some (.dat (.list (g.map .int)))]) (S' := P g (s + 1) r :: R) (by
      by_cases h3 : s < g.length
      · have h4 : ¬ 1000000000000000000 ≤ cellOf g s := fun h => hb ⟨h3, h⟩
        simp [sSeq, sIf, sAsg, sPut, sPar2, sRet, sNil, sDrop, bindS, xBin, xUn, xSlot, xC, xTup, xLst, xLstC, xIf, xAnd, xOr, xChain, xCall, aCons, aNil, tVal, tNotX, tAndX, tOrX, gN, gT, gsCons, gsNil, unT, lift2, lift1, dAdd, dSub, dMod, dLt, dLe, dGt, dGe, dNot, dNeg, gInt, gix_l, gix_t, glen_l, glen_t, xTrue, h3, h4, dPow]
      · simp [sSeq, sIf, sAsg, sPut, sPar2, sRet, sNil, sDrop, bindS, xBin, xUn, xSlot, xC, xTup, xLst, xLstC, xIf, xAnd, xOr, xChain, xCall, aCons, aNil, tVal, tNotX, tAndX, tOrX, gN, gT, gsCons, gsNil, unT, lift2, lift1, dAdd, dSub, dMod, dLt, dLe, dGt, dGe, dNot, dNeg, gInt, gix_l, gix_t, glen_l, glen_t, xTrue, h3])).trans ?_
    refine (seq_next (asg_next rfl)).trans ?_
    refine (seq_next (asg_next (x := .dat (.int st)) (S' := P g (s + 1) r :: R) (by simp [sSeq, sIf, sAsg, sPut, sPar2, sRet, sNil, sDrop, bindS, xBin, xUn, xSlot, xC, xTup, xLst, xLstC, xIf, xAnd, xOr, xChain, xCall, aCons, aNil, tVal, tNotX, tAndX, tOrX, gN, gT, gsCons, gsNil, unT, lift2, lift1, dAdd, dSub, dMod, dLt, dLe, dGt, dGe, dNot, dNeg, gInt, gix_l, gix_t, glen_l, glen_t, xTrue, dMul, m1, m2, h2]))).trans ?_
    refine (seq_next (asg_next rfl)).trans ?_
    refine (seq_next (ρ' := [some (.loc 0), some (.dat (.int (cellOf g s))), some (.dat (.int 2305843009213693951)), some (.dat (.int st')), some (.dat (.int fo')), l, some (.dat (.int s)), some (.dat (.list (g.map .int)))]) (S' := P g (s + 1) r :: R) hf).trans ?_
    rfl
theorem draw (n : Nat) {g : List Int} {s r b : Int} {R : Sto} (hs : 0 ≤ s) (hb : 1 ≤ b) (hl : b.natAbs.log2 < 9000) :
    ∃ v s' r', 0 ≤ v ∧ v < b ∧ 0 ≤ s' ∧ fns T ds (n + 2) "_law_draw" [.loc 0, .dat (.int b)] (P g s r :: R) = .ok (.dat (.int v)) (P g s' r' :: R) :=
  draw1 (n + 1) (fun r => fresh1 n hs) hs hb hl
/-! the pen, by what must be true ahead -/
/-- the store: the pen and what more -/
def SP (g : List Int) (R : Sto) (S : Sto) : Prop := ∃ s r, 0 ≤ s ∧ S = P g s r :: R
theorem w_draw {n : Nat} {g : List Int} {R : Sto} {b : Int} {S : Sto} {Q : Val → Sto → Prop} (h : SP g R S) (hb : 1 ≤ b) (hl : b < 18446744073709551616) (q : ∀ v S', 0 ≤ v → v < b → SP g R S' → Q (.dat (.int v)) S') : okR (fns T ds (n + 2) "_law_draw" [.loc 0, .dat (.int b)] S) Q := by
  obtain ⟨s, r, hs, rfl⟩ := h
  obtain ⟨v, s', r', h1, h2, h3, e⟩ := draw n (g := g) (s := s) (r := r) (b := b) (R := R) hs hb (by
    have : b.natAbs.log2 < 64 := by
      rw [Nat.log2_lt (by omega)]
      show b.natAbs < 18446744073709551616
      omega
    omega)
  rw [e]
  exact q _ _ h1 h2 ⟨s', r', h3, rfl⟩
/-- the store's end: the pen alone, other cells gone -/
theorem SP.take {g : List Int} {R : Sto} {S S' : Sto} (h : SP g R S) (h' : SP g R S') : S'.take S.length = S' := by
  obtain ⟨s, r, _, rfl⟩ := h
  obtain ⟨s2, r2, _, rfl⟩ := h'
  simp
theorem fin_sp {g : List Int} {R : Sto} {S S' : Sto} {d : PyData} {Q : Val → Sto → Prop} (h : SP g R S) (h' : SP g R S') (q : Q (.dat d) S') : okR (finish false S.length (.dat d) S') Q := fin_dat (by rw [h.take h']; exact q)
theorem fin_sp1 {g : List Int} {R : Sto} {c : Cell} {S S' : Sto} {d : PyData} {Q : Val → Sto → Prop} (h : SP g R S) (h' : SP g (R ++ [c]) S') (q : ∀ S1, SP g R S1 → Q (.dat d) S1) : okR (finish false S.length (.dat d) S') Q := by
  obtain ⟨s, r, _, rfl⟩ := h
  obtain ⟨s2, r2, k2, rfl⟩ := h'
  refine fin_dat ?_
  have e : (P g s2 r2 :: (R ++ [c])).take (P g s r :: R).length = P g s2 r2 :: R := by simp
  rw [e]
  exact q _ ⟨s2, r2, k2, rfl⟩
theorem SP.len {g : List Int} {R : Sto} {S : Sto} (h : SP g R S) : S.length = R.length + 1 := by
  obtain ⟨s, r, _, rfl⟩ := h
  rfl
theorem SP.cell {g : List Int} {R : Sto} {c : Cell} {S : Sto} (h : SP g (R ++ [c]) S) : S[R.length + 1]? = some c := by
  obtain ⟨s, r, _, rfl⟩ := h
  simp
theorem SP.put {g : List Int} {R : Sto} {c c' : Cell} {S : Sto} (h : SP g (R ++ [c]) S) : SP g (R ++ [c']) (S.set (R.length + 1) c') := by
  obtain ⟨s, r, k, rfl⟩ := h
  exact ⟨s, r, k, by simp⟩
theorem SP.new {g : List Int} {R : Sto} {c : Cell} {S : Sto} (h : SP g R S) : SP g (R ++ [c]) (S ++ [c]) := by
  obtain ⟨s, r, k, rfl⟩ := h
  exact ⟨s, r, k, rfl⟩
theorem under_dats (n : Nat) (es : List PyData) : (es.map Val.dat).all (Val.under n) = true := by
  rw [List.all_eq_true]
  intro x hx
  obtain ⟨d, _, rfl⟩ := List.mem_map.mp hx
  exact under_dat n d
theorem z_app {g : List Int} {R : Sto} {es : List PyData} {d : PyData} {S : Sto} {q0 : Sto → Prop} (h : SP g (R ++ [.lst (es.map .dat)]) S) (hl : es.length < 1000000) (q : ∀ S3, SP g (R ++ [.lst ((es ++ [d]).map .dat)]) S3 → q0 S3) : ∃ S3, putApp S (.loc (R.length + 1)) (.dat d) = some S3 ∧ q0 S3 := by
  refine ⟨S.set (R.length + 1) (.lst ((es ++ [d]).map .dat)), ?_, q _ h.put⟩
  show (match S[R.length + 1]? with
    | some (.lst xs) => if xs.length < sizeLine ∧ (Val.dat d).under (R.length + 1) = true then some (S.set (R.length + 1) (.lst (xs ++ [Val.dat d]))) else none
    | _ => none) = _
  rw [h.cell]
  show (if (es.map Val.dat).length < sizeLine ∧ (Val.dat d).under (R.length + 1) = true then some (S.set (R.length + 1) (.lst (es.map Val.dat ++ [Val.dat d]))) else none) = _
  rw [if_pos ⟨by rw [List.length_map, sizeLine_eq]; omega, under_dat _ _⟩, List.map_append]
  rfl
theorem z_ext {g : List Int} {R : Sto} {es fs : List PyData} {S : Sto} {q0 : Sto → Prop} (h : SP g (R ++ [.lst (es.map .dat)]) S) (hl : es.length + fs.length < 1000000) (q : ∀ S3, SP g (R ++ [.lst ((es ++ fs).map .dat)]) S3 → q0 S3) : ∃ S3, putExt S (.loc (R.length + 1)) (.dat (.list fs)) = some S3 ∧ q0 S3 := by
  refine ⟨S.set (R.length + 1) (.lst ((es ++ fs).map .dat)), ?_, q _ h.put⟩
  show (match S[R.length + 1]? with
    | some (.lst xs) => (lItems S (.dat (.list fs))).bind fun ys => if xs.length + ys.length ≤ sizeLine ∧ ys.all (Val.under (R.length + 1)) = true then some (S.set (R.length + 1) (.lst (xs ++ ys))) else none
    | _ => none) = _
  rw [h.cell]
  show (if (es.map Val.dat).length + (fs.map Val.dat).length ≤ sizeLine ∧ (fs.map Val.dat).all (Val.under (R.length + 1)) = true then some (S.set (R.length + 1) (.lst (es.map Val.dat ++ fs.map Val.dat))) else none) = _
  rw [if_pos ⟨by rw [List.length_map, List.length_map, sizeLine_eq]; omega, under_dats _ _⟩, List.map_append]
theorem SP.isL {g : List Int} {R : Sto} {es : List PyData} {S : Sto} (h : SP g (R ++ [.lst (es.map .dat)]) S) : isLstC S (.loc (R.length + 1)) = true := by
  show (match S[R.length + 1]? with
    | some (.lst _) => true
    | _ => false) = true
  rw [h.cell]
theorem SP.seq {g : List Int} {R : Sto} {es : List PyData} {S : Sto} (h : SP g (R ++ [.lst (es.map .dat)]) S) : seqD S (.loc (R.length + 1)) = some es := by
  have e : view S (.loc (R.length + 1)) = some (.list es) := by
    show (match S[R.length + 1]? with
      | some (.lst xs) => (allDat xs).map PyData.list
      | _ => none) = _
    rw [h.cell]
    show (allDat (es.map Val.dat)).map PyData.list = _
    rw [allDat_map]
    rfl
  unfold seqD
  rw [e]
end Lw
end
section
set_option Elab.async false
set_option linter.all false
set_option maxRecDepth 100000
set_option maxHeartbeats 1000000
namespace Lw
open PySem NB
theorem filt_true {α : Type} (xs : List α) : xs.filter (fun _ => true) = xs := List.filter_eq_self.mpr fun _ _ => rfl
theorem lc_pure {ρ : NB.Env} {S : Sto} {m : XE} {x : PyData} {ds : List PyData} {i : Nat} {t : XT} {e : XE} (hm : m ρ S = .ok (.dat x) S) (hx : items S (.dat x) = some (ds.map .dat)) (hl : ds.length ≤ sizeLine) (f : PyData → Bool) (k : PyData → PyData)
    (h : ∀ d ∈ ds, t (ρ.set i (some (.dat d))) S = .ok (f d) S ∧ (f d = true → e (ρ.set i (some (.dat d))) S = .ok (.dat (k d)) S)) : xLc [i] (iSeq m) (gN i) t e ρ S = .ok (.dat (.list ((ds.filter f).map k))) S := by
  unfold xLc xLst lcRun iSeq
  rw [hm]
  simp only [Res.bind_ok, hx]
  rw [lcGo_pure (S := S) (by simp) (fun v => match v with | .dat d => f d | _ => false) (fun v => match v with | .dat d => .dat (k d) | w => w) (xs := ds.map .dat) ?_]
  · have el : ((ds.map Val.dat).filter fun v => match v with | .dat d => f d | _ => false).map (fun v => match v with | .dat d => Val.dat (k d) | w => w) = ((ds.filter f).map k).map .dat := by
      rw [List.filter_map, List.map_map, List.map_map]
      rfl
    simp only [el]
    have hz : (((ds.filter f).map k).map Val.dat).length ≤ sizeLine := by
      rw [List.length_map, List.length_map]
      exact Nat.le_trans (List.length_filter_le _ _) hl
    rw [if_pos hz]
    simp only [Res.bind_ok, allDat_map, Option.map_some, Res.of_some]
  · intro v hv
    obtain ⟨d, hd, rfl⟩ := List.mem_map.mp hv
    refine ⟨ρ.set i (some (.dat d)), ?_, (h d hd).1, (h d hd).2⟩
    show some ((wipeE ρ [i]).set i (some (.dat d))) = _
    show some (((ρ.set i none)).set i (some (.dat d))) = _
    rw [List.set_set]
def rk (ns : List Int) (n : Int) : Int := ((sortI (ns.filter fun b => decide (b < n))).length : Nat)
def rks (ns : List Int) : List Int := ns.map (rk ns)
def asI : PyData → Int
  | .int b => b
  | _ => 0
theorem rks_map (ns : List Int) : ns.map ((fun d => PyData.int (rk ns (asI d))) ∘ PyData.int) = (rks ns).map .int := by
  unfold rks; rw [List.map_map]; rfl
theorem glenset (S : Sto) (ms : List Int) (h : ms.length ≤ 4000) : gLenSet S (.dat (.list (ms.map .int))) = some (.dat (.int ((sortI ms).length : Nat))) := by
  unfold gLenSet
  rw [lData_list, Option.bind_some, intsOf_map, Option.bind_some, if_pos h]
def ltI (n : Int) : PyData → Bool
  | .int b => decide (b < n)
  | _ => false
theorem filt_lt (n : Int) (ns : List Int) : (ns.map PyData.int).filter (ltI n) = (ns.filter fun b => decide (b < n)).map .int := by
  rw [List.filter_map]; rfl
theorem ranks (n : Nat) {ns : List Int} {x : PyData} {S : Sto} (hx : items S (.dat x) = some ((ns.map PyData.int).map .dat)) (hl : ns.length ≤ 4000) : fns T ds (n + 1) "_law_ranks" [.dat x] S = .ok (.dat (.tuple ((rks ns).map .int))) S := by
  rw [f_law_ranks]
  have hz : (ns.map PyData.int).length ≤ sizeLine := by rw [List.length_map, sizeLine_eq]; omega
  refine runFn_ret rfl (ρ' := [some (.dat x), none, none]) (ret_eq ?_) rfl
  show xUn gTuple _ [some (.dat x), none, none] S = _
  unfold xUn
  rw [lc_pure (x := x) (ds := ns.map .int) rfl hx hz (fun _ => true) (fun d => .int (rk ns (asI d))) fun d hd => ⟨rfl, fun _ => ?_⟩]
  · simp only [Res.bind_ok, filt_true, List.map_map]
    unfold gTuple
    simp only [items_list, Option.map_some, mkTup_dat, Res.of_some, rks_map]
  · obtain ⟨b, hb, rfl⟩ := List.mem_map.mp hd
    show (xLc [2] (iSeq (xSlot 0)) (gN 2) (tVal (xBin (lift2 dLt) (xSlot 2) (xSlot 1))) (xSlot 2) [some (.dat x), some (.dat (.int b)), none] S).bind _ = _
    rw [lc_pure (x := x) (ds := ns.map .int) rfl hx hz (ltI b) id fun d hd => ?_]
    · simp only [Res.bind_ok, List.map_id, filt_lt]
      rw [glenset _ _ (by have := List.length_filter_le (fun c => decide (c < b)) ns; omega)]
      rfl
    · obtain ⟨c, hc, rfl⟩ := List.mem_map.mp hd
      exact ⟨rfl, fun _ => rfl⟩
theorem sortI_len (ns : List Int) : (sortI ns).length ≤ ns.length := by
  induction ns with
  | nil => simp [sortI]
  | cons n ns ih =>
    have : ∀ l : List Int, (insI n l).length ≤ l.length + 1 := by
      intro l
      induction l with
      | nil => simp [insI]
      | cons h t ih =>
        unfold insI
        split
        · simp
        · split
          · simp; exact ih
          · simp
    show (insI n (sortI ns)).length ≤ _
    have := this (sortI ns)
    rw [List.length_cons]; omega
theorem rk_le (ns : List Int) (b : Int) : 0 ≤ rk ns b ∧ rk ns b ≤ ns.length := by
  unfold rk
  have h1 := sortI_len (ns.filter fun c => decide (c < b))
  have h2 := List.length_filter_le (fun c => decide (c < b)) ns
  constructor <;> omega
theorem ranks_l (n : Nat) {ns : List Int} {S : Sto} (hl : ns.length ≤ 4000) : fns T ds (n + 1) "_law_ranks" [.dat (.list (ns.map .int))] S = .ok (.dat (.tuple ((rks ns).map .int))) S := ranks n (by rw [items_list]) hl
theorem ranks_t (n : Nat) {ns : List Int} {S : Sto} (hl : ns.length ≤ 4000) : fns T ds (n + 1) "_law_ranks" [.dat (.tuple (ns.map .int))] S = .ok (.dat (.tuple ((rks ns).map .int))) S := ranks n (by rw [items_tuple]) hl
theorem rks_len (vs : List Int) : (rks vs).length = vs.length := by unfold rks; rw [List.length_map]
theorem xbin_eq {f : PyData → PyData → Option PyData} {a b : XE} {ρ : NB.Env} {S S1 S2 : Sto} {x y z : PyData} (ha : a ρ S = .ok (.dat x) S1) (hb : b ρ S1 = .ok (.dat y) S2) (hf : f x y = some z) : xBin (lift2 f) a b ρ S = .ok (.dat z) S2 := by
  unfold xBin
  rw [ha]; simp only [Res.bind_ok]; rw [hb]; simp only [Res.bind_ok, lift2_dat, hf, Option.map_some, Res.of_some]
theorem xun_eq {f : Sto → Val → Option Val} {a : XE} {ρ : NB.Env} {S S1 : Sto} {x z : Val} (ha : a ρ S = .ok x S1) (hf : f S1 x = some z) : xUn f a ρ S = .ok z S1 := by
  unfold xUn
  rw [ha]; simp only [Res.bind_ok, hf, Res.of_some]
theorem acons_eq {a : XE} {r : XA} {ρ : NB.Env} {S S1 S2 : Sto} {x : Val} {xs : List Val} (ha : a ρ S = .ok x S1) (hr : r ρ S1 = .ok xs S2) : aCons a r ρ S = .ok (x :: xs) S2 := by
  unfold aCons
  rw [ha]; simp only [Res.bind_ok]; rw [hr]; simp only [Res.bind_ok]
theorem xcall_eq {f : List Val → Sto → Res Val} {m : XA} {ρ : NB.Env} {S S1 : Sto} {xs : List Val} {r : Res Val} (ha : m ρ S = .ok xs S1) (hf : f xs S1 = r) : xCall f m ρ S = r := by
  unfold xCall
  rw [ha]; simp only [Res.bind_ok]; exact hf
theorem xtup_eq {a : XA} {ρ : NB.Env} {S S1 : Sto} {ds : List PyData} (ha : a ρ S = .ok (ds.map .dat) S1) : xTup a ρ S = .ok (.dat (.tuple ds)) S1 := by
  unfold xTup
  rw [ha]; simp only [Res.bind_ok, mkTup_dat]
theorem xlst_eq {a : XA} {ρ : NB.Env} {S S1 : Sto} {ds : List PyData} (ha : a ρ S = .ok (ds.map .dat) S1) : xLst a ρ S = .ok (.dat (.list ds)) S1 := by
  unfold xLst
  rw [ha]; simp only [Res.bind_ok, allDat_map, Option.map_some, Res.of_some]
theorem dadd_t {a b : List PyData} (h : a.length + b.length ≤ 16777216) : dAdd (.tuple a) (.tuple b) = some (.tuple (a ++ b)) := by
  show (if a.length + b.length ≤ sizeLine then _ else _) = _
  rw [if_pos (by rw [sizeLine_eq]; exact h)]
theorem cutL_map {α β : Type} (f : α → β) (xs : List α) (lo hi : Option Int) : cutL (xs.map f) lo hi = (cutL xs lo hi).map f := by
  unfold cutL
  rw [List.length_map, List.map_take, List.map_drop]
theorem cutL_mem {α : Type} {xs : List α} {lo hi : Option Int} {x : α} (h : x ∈ cutL xs lo hi) : x ∈ xs := List.mem_of_mem_drop (List.mem_of_mem_take h)
theorem tval_eq {m : XE} {ρ : NB.Env} {S S1 : Sto} {b : Bool} (h : m ρ S = .ok (.dat (.bool b)) S1) : tVal m ρ S = .ok b S1 := by
  unfold tVal; rw [h]; rfl
def ext1 (k : Nat) (row : List Int) : List (List Int) := (List.range k).map fun (r : Nat) => row ++ [Int.ofNat r]
def rowsN (k : Nat) : Nat → List (List Int)
  | 0 => [[]]
  | n + 1 => (rowsN k n).flatMap (ext1 k)
def ordL (k : Nat) : List (List Int) := (rowsN k k).filter fun row => decide (rks row = row)
def tup (row : List Int) : PyData := .tuple (row.map .int)
theorem len2 : (ordL 2).length = 3 := by decide +kernel
theorem len4 : (ordL 4).length = 75 := by decide +kernel
theorem forGo_idx {g : Tg} {b : XSt} {ok : Sto → Prop} (J : Nat → NB.Env → Sto → Prop) (hok : ∀ i ρ S, J i ρ S → ok S) : ∀ (xs : List Val) (j : Nat), (∀ i x, xs[i]? = some x → ∀ ρ S, J (j + i) ρ S → ∃ ρ1, g.set x ρ = some ρ1 ∧ ∃ ρ2 S2, b ρ1 S = .ok .next ρ2 S2 ∧ J (j + i + 1) ρ2 S2) → ∀ ρ S, J j ρ S → ∃ ρ' S', forGo g b ok xs ρ S = .ok .next ρ' S' ∧ J (j + xs.length) ρ' S'
  | [], j, _, ρ, S, h => ⟨ρ, S, by unfold forGo; rw [if_pos (hok _ _ _ h)], h⟩
  | x :: xs, j, hb, ρ, S, h => by
    obtain ⟨ρ1, h1, ρ2, S2, h2, j2⟩ := hb 0 x rfl ρ S h
    obtain ⟨ρ', S', h3, j3⟩ := forGo_idx J hok xs (j + 1) (fun i y hy ρ S hJ => by
      have := hb (i + 1) y hy ρ S (by rw [show j + (i + 1) = j + 1 + i from by omega]; exact hJ)
      rw [show j + (i + 1) + 1 = j + 1 + i + 1 from by omega] at this
      exact this) ρ2 S2 j2
    refine ⟨ρ', S', ?_, by rw [List.length_cons, show j + (xs.length + 1) = j + 1 + xs.length from by omega]; exact j3⟩
    unfold forGo
    rw [if_pos (hok _ _ _ h), h1]
    simp only [h2]
    exact h3
theorem lc_pureV {ρ : NB.Env} {S : Sto} {m : XE} {x : Val} {ds : List PyData} {i : Nat} {t : XT} {e : XE} (hm : m ρ S = .ok x S) (hx : items S x = some (ds.map .dat)) (hok : okSrc x (ds.map .dat) S) (hl : ds.length ≤ sizeLine) (f : PyData → Bool) (k : PyData → PyData)
    (h : ∀ d ∈ ds, t (ρ.set i (some (.dat d))) S = .ok (f d) S ∧ (f d = true → e (ρ.set i (some (.dat d))) S = .ok (.dat (k d)) S)) : xLc [i] (iSeq m) (gN i) t e ρ S = .ok (.dat (.list ((ds.filter f).map k))) S := by
  unfold xLc xLst lcRun iSeq
  rw [hm]
  simp only [Res.bind_ok, hx]
  rw [lcGo_pure (S := S) hok (fun v => match v with | .dat d => f d | _ => false) (fun v => match v with | .dat d => .dat (k d) | w => w) (xs := ds.map .dat) ?_]
  · have el : ((ds.map Val.dat).filter fun v => match v with | .dat d => f d | _ => false).map (fun v => match v with | .dat d => Val.dat (k d) | w => w) = ((ds.filter f).map k).map .dat := by
      rw [List.filter_map, List.map_map, List.map_map]
      rfl
    simp only [el]
    have hz : (((ds.filter f).map k).map Val.dat).length ≤ sizeLine := by
      rw [List.length_map, List.length_map]
      exact Nat.le_trans (List.length_filter_le _ _) hl
    rw [if_pos hz]
    simp only [Res.bind_ok, allDat_map, Option.map_some, Res.of_some]
  · intro v hv
    obtain ⟨d, hd, rfl⟩ := List.mem_map.mp hv
    refine ⟨ρ.set i (some (.dat d)), ?_, (h d hd).1, (h d hd).2⟩
    show some (((ρ.set i none)).set i (some (.dat d))) = _
    rw [List.set_set]
def vtup (row : List Int) : Val := .dat (tup row)
theorem map_vtup (rows : List (List Int)) : rows.map vtup = (rows.map tup).map .dat := by rw [List.map_map]; rfl
abbrev E45 : XE := xBin (lift2 dAdd) (xSlot 4) (xTup (aCons (xSlot 5) aNil))
theorem rOk_small {k : Nat} (h : k ≤ 1000) : rOk (k : Int) = true := by
  unfold rOk
  rw [decide_eq_true (show -(2 ^ 62) ≤ (k : Int) from by omega), decide_eq_true (show (k : Int) < 2 ^ 62 from by omega)]; rfl
theorem range1_eq {m : XE} {ρ : NB.Env} {S S1 : Sto} {k : Int} (h : m ρ S = .ok (.dat (.int k)) S1) (hk : rOk k = true) : iRange1 m ρ S = .ok ⟨NB.upTo 0 k.toNat, fun _ => True⟩ S1 := by
  unfold iRange1
  rw [h]
  simp only [Res.bind_ok]
  rw [if_pos hk]
theorem row_go {k : Nat} {row : List Int} {ρ : NB.Env} {S : Sto} {ok : Sto → Prop} (hok : ok S) (h4 : ρ[4]? = some (some (vtup row))) (h5 : 5 < ρ.length) (hl : row.length ≤ 1000) : lcGo [5] (gN 5) xTrue E45 ρ ok (NB.upTo 0 k) S = .ok ((ext1 k row).map vtup) S := by
  rw [lcGo_pure hok (fun _ => true) (fun v => match v with | .dat (.int i) => vtup (row ++ [i]) | w => w) fun x hx => ?_]
  · rw [filt_true]
    congr 1
    unfold NB.upTo ext1
    rw [List.map_map, List.map_map]
    refine List.map_congr_left fun i _ => ?_
    show vtup (row ++ [0 + (i : Int)]) = vtup (row ++ [Int.ofNat i])
    rw [Int.zero_add]; rfl
  · obtain ⟨i, rfl, _⟩ := mem_upTo hx
    refine ⟨ρ.set 5 (some (.dat (.int i))), ?_, rfl, fun _ => ?_⟩
    · show some (((ρ.set 5 none)).set 5 (some (.dat (.int i)))) = _
      rw [List.set_set]
    · have g4 : (ρ.set 5 (some (.dat (.int i))))[4]? = some (some (vtup row)) := by rw [List.getElem?_set_ne (by decide)]; exact h4
      have g5 : (ρ.set 5 (some (.dat (.int i))))[5]? = some (some (.dat (.int i))) := List.getElem?_set_self h5
      refine (xbin_eq (S1 := S) (x := tup row) (y := .tuple [.int i]) (z := tup (row ++ [i])) ?_ (xtup_eq (ds := [.int i]) (acons_eq ?_ rfl)) ?_)
      · unfold xSlot; rw [g4]; rfl
      · unfold xSlot; rw [g5]
      · unfold tup
        rw [List.map_append]
        exact dadd_t (by simp; omega)
theorem sum_const {α : Type} (k : Nat) : ∀ l : List α, (l.map fun _ => k).sum = l.length * k
  | [] => by simp
  | a :: l => by rw [List.map_cons, List.sum_cons, sum_const k l, List.length_cons, Nat.succ_mul, Nat.add_comm]
theorem rows_len {k : Nat} : ∀ n, (rowsN k n).length = k ^ n
  | 0 => rfl
  | n + 1 => by
    show ((rowsN k n).flatMap (ext1 k)).length = _
    rw [List.length_flatMap]
    have : ((rowsN k n).map fun a => (ext1 k a).length) = (rowsN k n).map fun _ => k := List.map_congr_left fun a _ => by unfold ext1; rw [List.length_map, List.length_range]
    rw [this, sum_const, rows_len n, Nat.pow_succ]
theorem row_len {k : Nat} : ∀ n, ∀ row ∈ rowsN k n, row.length = n
  | 0, row, h => by
    have : row = [] := List.mem_singleton.mp h
    rw [this]; rfl
  | n + 1, row, h => by
    obtain ⟨r0, h0, h1⟩ := List.mem_flatMap.mp h
    obtain ⟨i, _, rfl⟩ := List.mem_map.mp h1
    rw [List.length_append, row_len n r0 h0]; rfl
theorem pow_small {k j : Nat} (hk : k ≤ 4) (hj : j ≤ 4) : k ^ j ≤ 256 := Nat.le_trans (Nat.pow_le_pow_left hk j) (Nat.le_trans (Nat.pow_le_pow_right (by decide) hj) (by decide))
theorem er1 {k : Nat} {x1 x2 x3 x4 : Option Val} {S : Sto} (hk : k ≤ 1000) : iRange1 (xSlot 1) [x1, some (.dat (.int k)), x2, x3, x4, none] S = .ok ⟨NB.upTo 0 k, fun _ => True⟩ S := by
      have h0 : (xSlot 1) [x1, some (.dat (.int k)), x2, x3, x4, none] S = .ok (.dat (.int (k : Int))) S := rfl
      have := range1_eq h0 (rOk_small hk)
      rw [Int.toNat_natCast] at this
      exact this
theorem eg1 {k : Nat} {row : List Int} {x1 x2 x3 : Option Val} {S : Sto} (hl : row.length ≤ 1000) : lcGo [5] (gN 5) xTrue E45 [x1, some (.dat (.int k)), x2, x3, some (vtup row), none] (fun _ => True) (NB.upTo 0 k) S = .ok ((ext1 k row).map vtup) S := row_go (k := k) (row := row) (S := S) (ok := fun _ => True) trivial rfl (by show 5 < 6; omega) hl
theorem dmul_i {a b : Int} (h : mulOk a b = true) : dMul (.int a) (.int b) = some (.int (a * b)) := by
  show (if mulOk a b = true then some (PyData.int (a * b)) else none) = _
  rw [if_pos h]
theorem gtuple_l {S : Sto} {ds : List PyData} : gTuple S (.dat (.list ds)) = some (.dat (.tuple ds)) := by
  unfold gTuple
  rw [items_list, Option.map_some, mkTup_dat]
def okD : PyData → Bool
  | .tuple xs => (match intsOf xs with
    | some ns => decide (rks ns = ns)
    | none => false)
  | _ => false
theorem okD_tup (row : List Int) : okD (tup row) = decide (rks row = row) := by
  show (match intsOf (row.map .int) with | some ns => decide (rks ns = ns) | none => false) = _
  rw [intsOf_map]
theorem ord_filt (k : Nat) : (((rowsN k k).map tup).filter okD).map id = (ordL k).map tup := by
  rw [List.map_id, List.filter_map]
  exact congrArg (List.map tup) (List.filter_congr fun row _ => okD_tup row)
theorem deq_tup (as bs : List Int) : dEq (.tuple (as.map .int)) (.tuple (bs.map .int)) = some (.bool (decide (as = bs))) := by
  unfold dEq
  rw [sh_tup, sh_tup, if_pos (by rfl)]
  show some (PyData.bool (PyData.eqvAll _ _)) = _
  rw [eqv_ints]
theorem at_end {S1 : Sto} {c : Cell} {L : Nat} (h : S1.length = L) : (S1 ++ [c])[L]? = some c := by
  subst h; simp
theorem set_end {S1 : Sto} {c c' : Cell} {L : Nat} (h : S1.length = L) : (S1 ++ [c]).set L c' = S1 ++ [c'] := by
  subst h; simp
theorem two_m {k : Nat} {m : Int} (hm : 2 * m = k) {ρ : NB.Env} {S : Sto} (h : ρ[0]? = some (some (.dat (.int m)))) : xBin (lift2 dMul) (xC (.int 2)) (xSlot 0) ρ S = .ok (.dat (.int (k : Int))) S := by
  refine xbin_eq (S1 := S) rfl (y := .int m) ?_ ?_
  · unfold xSlot; rw [h]
  · rw [dmul_i (mulOk_l (by decide) (by decide)), hm]
theorem range_m {k : Nat} {m : Int} (hk : k ≤ 4) (hm : 2 * m = k) {ρ : NB.Env} {S : Sto} (h : ρ[0]? = some (some (.dat (.int m)))) : iRange1 (xBin (lift2 dMul) (xC (.int 2)) (xSlot 0)) ρ S = .ok ⟨NB.upTo 0 k, fun _ => True⟩ S := by
  have := range1_eq (two_m hm h (S := S)) (rOk_small (by omega))
  rw [Int.toNat_natCast] at this
  exact this
noncomputable abbrev ADD : XSt := sDrop (xMeth putExt (xSlot 3) (xLc [5] (iRange1 (xBin (lift2 dMul) (xC (.int 2)) (xSlot 0))) (gN 5) xTrue E45))
noncomputable abbrev LAP : XSt := sSeq (sAsg (xLstC aNil) (gN 3)) (sSeq (sFor (iSeq (xSlot 1)) (gN 4) ADD) (sAsg (xSlot 3) (gN 1)))
theorem put_end {S1 : Sto} {acc : List Val} {ds : List PyData} {L : Nat} (h : S1.length = L) (hl : acc.length + ds.length ≤ 16777216) : putExt (S1 ++ [.lst acc]) (.loc L) (.dat (.list ds)) = some (S1 ++ [.lst (acc ++ ds.map .dat)]) := by
  unfold putExt
  simp only [at_end h, lItems, Option.bind_some]
  rw [if_pos ⟨by rw [List.length_map, sizeLine_eq]; exact hl, by simp⟩, set_end h]
theorem add_row {k : Nat} {m : Int} {x l b : Option Val} {L : Nat} {row : List Int} {S1 : Sto} {acc : List Val} (hk : k ≤ 4) (hm : 2 * m = k) (h : S1.length = L) (hr : row.length ≤ 1000) (ha : acc.length ≤ 1000) :
    ADD [some (.dat (.int m)), x, l, some (.loc L), some (vtup row), b] (S1 ++ [.lst acc]) = .ok .next [some (.dat (.int m)), x, l, some (.loc L), some (vtup row), b] (S1 ++ [.lst (acc ++ (ext1 k row).map vtup)]) := by
  have hlc : (xLc [5] (iRange1 (xBin (lift2 dMul) (xC (.int 2)) (xSlot 0))) (gN 5) xTrue E45) [some (.dat (.int m)), x, l, some (.loc L), some (vtup row), b] (S1 ++ [.lst acc]) = .ok (.dat (.list ((ext1 k row).map tup))) (S1 ++ [.lst acc]) := by
    unfold xLc
    refine xlst_eq ?_
    unfold lcRun
    rw [range_m hk hm rfl]
    simp only [Res.bind_ok]
    rw [row_go (k := k) (row := row) trivial rfl (by show 5 < 6; omega) hr]
    simp only []
    rw [if_pos (by rw [List.length_map, sizeLine_eq]; unfold ext1; rw [List.length_map, List.length_range]; omega), map_vtup]
  have he : (ext1 k row).length = k := by unfold ext1; rw [List.length_map, List.length_range]
  have hp := put_end (S1 := S1) (acc := acc) (ds := (ext1 k row).map tup) h (by rw [List.length_map, he]; omega)
  rw [← map_vtup] at hp
  have hmeth : (xMeth putExt (xSlot 3) (xLc [5] (iRange1 (xBin (lift2 dMul) (xC (.int 2)) (xSlot 0))) (gN 5) xTrue E45)) [some (.dat (.int m)), x, l, some (.loc L), some (vtup row), b] (S1 ++ [.lst acc]) = .ok (.dat .none) (S1 ++ [.lst (acc ++ (ext1 k row).map vtup)]) := by
    unfold xMeth
    have e3 : (xSlot 3) [some (.dat (.int m)), x, l, some (.loc L), some (vtup row), b] (S1 ++ [.lst acc]) = .ok (.loc L) (S1 ++ [.lst acc]) := rfl
    rw [e3]
    simp only [Res.bind_ok]
    have ei : isLstC (S1 ++ [.lst acc]) (.loc L) = true := by
      unfold isLstC
      simp only [at_end h]
    rw [if_pos ei, hlc]
    simp only [Res.bind_ok, hp]
  show bindS _ _ _ = _
  rw [hmeth]
  rfl
theorem items_more {S : Sto} {x : Val} {xs : List Val} {c : Cell} (h : items S x = some xs) : items (S ++ [c]) x = some xs := by
  cases x with
  | loc l =>
    have h' : (match S[l]? with
      | some (.lst xs) => some xs
      | _ => none) = some xs := h
    show (match (S ++ [c])[l]? with
      | some (.lst xs) => some xs
      | _ => none) = some xs
    have hl : l < S.length := by
      by_cases q : l < S.length
      · exact q
      · rw [List.getElem?_eq_none (by omega)] at h'; cases h'
    rw [List.getElem?_append_left hl]
    exact h'
  | dat d => cases d <;> first | exact h | cases h
  | mix ys => exact h
  | scr ns => exact h
  | fn y => cases h
  | set ks => cases h
theorem okSrc_of {S : Sto} {x : Val} {xs : List Val} (h : items S x = some xs) : okSrc x xs S := by
  cases x with
  | loc l => exact h
  | _ => trivial
theorem iseq_eq {m : XE} {ρ : NB.Env} {S S1 : Sto} {x : Val} {xs : List Val} (h : m ρ S = .ok x S1) (hx : items S1 x = some xs) : iSeq m ρ S = .ok ⟨xs, okSrc x xs⟩ S1 := by
  unfold iSeq
  rw [h]; simp only [Res.bind_ok, hx]
theorem lap_orders {k j : Nat} {m : Int} {x : Val} {l a b c : Option Val} {S : Sto} (hk : k ≤ 4) (hj : j < 4) (hm : 2 * m = k) (hx : items S x = some ((rowsN k j).map vtup)) :
    ∃ x' a' b' c' c2, LAP [some (.dat (.int m)), some x, l, a, b, c] S = .ok .next [some (.dat (.int m)), some x', l, a', b', c'] (S ++ [c2]) ∧ items (S ++ [c2]) x' = some ((rowsN k (j + 1)).map vtup) := by
  have hpw : ∀ i, ((rowsN k j).take i).length ≤ 256 := fun i => by
    have := pow_small (k := k) (j := j) hk (by omega)
    have := rows_len (k := k) j
    rw [List.length_take]; omega
  have hfl : ∀ i, (((rowsN k j).take i).flatMap (ext1 k)).length ≤ 1000 := fun i => by
    rw [List.length_flatMap]
    have e : (((rowsN k j).take i).map fun a => (ext1 k a).length) = ((rowsN k j).take i).map fun _ => k := List.map_congr_left fun a _ => by unfold ext1; rw [List.length_map, List.length_range]
    rw [e, sum_const]
    have h1 := pow_small (k := k) (j := j + 1) hk (by omega)
    have h2 := rows_len (k := k) j
    have h3 : ((rowsN k j).take i).length ≤ (rowsN k j).length := by rw [List.length_take]; omega
    have h4 : ((rowsN k j).take i).length * k ≤ k ^ j * k := Nat.mul_le_mul_right k (by omega)
    rw [← Nat.pow_succ] at h4
    exact Nat.le_trans h4 (Nat.le_trans h1 (by decide))
  obtain ⟨ρ', S', hf, rfl, b2, rfl⟩ := forGo_idx (g := gN 4) (b := ADD) (ok := okSrc x ((rowsN k j).map vtup))
    (fun i ρ S' => S' = S ++ [.lst ((((rowsN k j).take i).flatMap (ext1 k)).map vtup)] ∧ ∃ b, ρ = [some (.dat (.int m)), some x, l, some (.loc S.length), b, c])
    (by rintro i ρ S' ⟨rfl, _⟩; exact okSrc_of (items_more hx)) ((rowsN k j).map vtup) 0
    (by
      rintro i y hy ρ S' ⟨rfl, b, rfl⟩
      rw [List.getElem?_map] at hy
      obtain ⟨row, hrow, rfl⟩ := Option.map_eq_some_iff.mp hy
      have hmem := List.mem_of_getElem? hrow
      have hl := row_len j row hmem
      rw [Nat.zero_add]
      refine ⟨_, rfl, _, _, add_row (k := k) (S1 := S) (L := S.length) hk hm rfl (by omega) (by rw [List.length_map]; exact hfl i), ?_, _, rfl⟩
      rw [List.take_add_one, hrow, List.flatMap_append, List.map_append]
      simp only [Option.toList_some, List.flatMap_cons, List.flatMap_nil, List.append_nil])
    [some (.dat (.int m)), some x, l, some (.loc S.length), b, c] (S ++ [.lst []]) ⟨rfl, b, rfl⟩
  rw [List.length_map, Nat.zero_add, List.take_length] at hf
  refine ⟨.loc S.length, some (.loc S.length), b2, c, .lst (((rowsN k j).flatMap (ext1 k)).map vtup), ?_, ?_⟩
  · refine (seq_next (asg_next (x := .loc S.length) (S' := S ++ [.lst []]) rfl)).trans ?_
    refine (seq_next (ρ' := [some (.dat (.int m)), some x, l, some (.loc S.length), b2, c]) (S' := S ++ [.lst (((rowsN k j).flatMap (ext1 k)).map vtup)]) ?_).trans ?_
    · unfold sFor
      rw [iseq_eq (x := x) (S1 := S ++ [.lst []]) rfl (items_more hx)]
      exact hf
    · exact asg_next rfl
  · show (match (S ++ [Cell.lst (((rowsN k j).flatMap (ext1 k)).map vtup)])[S.length]? with
      | some (.lst xs) => some xs
      | _ => none) = _
    rw [at_end rfl]
    rfl
theorem runFn_take {N ps : List Str} {body : XSt} {xs : List Val} {S S' : Sto} {d : PyData} {ρ' : NB.Env} (hl : xs.length = ps.length) (hb : body (xs.map some ++ List.replicate (N.length - xs.length) none) S = .ok (.ret (.dat d)) ρ' (S ++ S')) : runFn N ps false body xs S = .ok (.dat d) S := by
  unfold runFn
  rw [if_pos hl, hb]
  show Res.ok (Val.dat d) ((S ++ S').take S.length) = _
  rw [List.take_left']
  rfl
theorem law_orders (n : Nat) {k : Nat} {m : Int} {S : Sto} (hk : k ≤ 4) (hm : 2 * m = k) : fns T ds (n + 2) "_law_orders" [.dat (.int m)] S = .ok (.dat (.list ((ordL k).map tup))) S := by
  rw [f_law_orders]
  obtain ⟨ρ', S', hf, hj, x, l, a, b, c, R, rfl, rfl, hx⟩ := forGo_idx (g := gN 2) (b := LAP) (ok := fun _ => True)
    (fun j ρ S' => j ≤ k ∧ ∃ x l a b c R, ρ = [some (.dat (.int m)), some x, l, a, b, c] ∧ S' = S ++ R ∧ items S' x = some ((rowsN k j).map vtup)) (fun _ _ _ _ => trivial) (NB.upTo 0 k) 0
    (by
      rintro i y hy ρ S' ⟨hi, x, l, a, b, c, R, rfl, rfl, hx⟩
      have hi2 : i < (NB.upTo 0 k).length := (List.getElem?_eq_some_iff.mp hy).1
      have hi3 : (NB.upTo 0 k).length = k := by unfold NB.upTo; rw [List.length_map, List.length_range]
      rw [Nat.zero_add] at *
      obtain ⟨x', a', b', c', c2, e, hx'⟩ := lap_orders (k := k) (j := i) (m := m) (x := x) (l := some y) (a := a) (b := b) (c := c) (S := S ++ R) hk (by omega) hm hx
      exact ⟨_, rfl, _, _, e, by omega, x', some y, a', b', c', R ++ [c2], rfl, by rw [List.append_assoc], hx'⟩)
    [some (.dat (.int m)), some (.dat (.list ((rowsN k 0).map tup))), none, none, none, none] S ⟨Nat.zero_le _, _, none, none, none, none, [], rfl, by rw [List.append_nil], by rw [items_list, map_vtup]⟩
  have hi3 : (NB.upTo 0 k).length = k := by unfold NB.upTo; rw [List.length_map, List.length_range]
  rw [hi3, Nat.zero_add] at hx
  refine runFn_take rfl (S' := R) (ρ' := [some (.dat (.int m)), some x, l, a, b, c]) ((seq_next (asg_next (x := .dat (.list ((rowsN k 0).map tup))) (S' := S) rfl)).trans ((seq_next (ρ' := [some (.dat (.int m)), some x, l, a, b, c]) (S' := S ++ R) ?_).trans (ret_eq ?_)))
  · unfold sFor
    have hr := range_m hk hm (ρ := [some (.dat (.int m)), some (.dat (.list ((rowsN k 0).map tup))), none, none, none, none]) (S := S) rfl
    show bindS (iRange1 (xBin (lift2 dMul) (xC (.int 2)) (xSlot 0)) [some (.dat (.int m)), some (.dat (.list ((rowsN k 0).map tup))), none, none, none, none] S) _ _ = _
    rw [hr]
    exact hf
  · have hl : ((rowsN k k).map tup).length ≤ sizeLine := by
      rw [List.length_map, rows_len, sizeLine_eq]
      have := pow_small (k := k) (j := k) hk hk
      omega
    rw [map_vtup] at hx
    rw [lc_pureV (x := x) (ds := (rowsN k k).map tup) rfl hx (okSrc_of hx) hl okD id fun d hd => ?_, ord_filt]
    obtain ⟨row, hr, rfl⟩ := List.mem_map.mp hd
    refine ⟨?_, fun _ => rfl⟩
    have hlen := row_len k row hr
    refine tval_eq ?_
    rw [okD_tup]
    exact xbin_eq (xcall_eq (acons_eq rfl rfl) (ranks n (ns := row) (x := tup row) (S := S ++ R) (by unfold tup; rw [items_tuple]) (by omega))) rfl (deq_tup _ _)
/-! orders, by what must be true ahead -/
theorem w_ranks {n : Nat} {ns : List Int} {S : Sto} {Q : Val → Sto → Prop} (hl : ns.length ≤ 4000) (q : Q (.dat (tup (rks ns))) S) : okR (fns T ds (n + 1) "_law_ranks" [.dat (.list (ns.map .int))] S) Q := okR_of (ranks_l n hl) q
theorem w_ranksT {n : Nat} {ns : List Int} {S : Sto} {Q : Val → Sto → Prop} (hl : ns.length ≤ 4000) (q : Q (.dat (tup (rks ns))) S) : okR (fns T ds (n + 1) "_law_ranks" [.dat (.tuple (ns.map .int))] S) Q := okR_of (ranks_t n hl) q
theorem w_orders {n : Nat} {k : Nat} {m : Int} {S : Sto} {Q : Val → Sto → Prop} (hk : k ≤ 4) (hm : 2 * m = k) (q : Q (.dat (.list ((ordL k).map tup))) S) : okR (fns T ds (n + 2) "_law_orders" [.dat (.int m)] S) Q := okR_of (law_orders n hk hm) q
theorem ints_dat {P : Int → Prop} : ∀ {ds : List PyData}, (∀ d ∈ ds, ∃ v : Int, d = .int v ∧ P v) → ∃ vs : List Int, ds = vs.map .int ∧ (∀ v ∈ vs, P v) ∧ vs.length = ds.length
  | [], _ => ⟨[], rfl, fun v hv => (by cases hv), rfl⟩
  | d :: ds, h => by
    obtain ⟨v, e, p⟩ := h d List.mem_cons_self
    obtain ⟨vs, e2, h2, h3⟩ := ints_dat (P := P) (ds := ds) fun x hx => h x (List.mem_cons_of_mem _ hx)
    refine ⟨v :: vs, by rw [List.map_cons, e, e2], fun x hx => ?_, by simp [h3]⟩
    rcases List.mem_cons.mp hx with z | z
    · rw [z]; exact p
    · exact h2 x z
theorem upTo_len (k : Nat) : (NB.upTo 0 k).length = k := by unfold NB.upTo; rw [List.length_map, List.length_range]
theorem w_some_order {n : Nat} {g : List Int} {R : Sto} {k : Nat} {m : Int} {S : Sto} {Q : Val → Sto → Prop} (h : SP g R S) (hk0 : 0 < k) (hk : k ≤ 4) (hm : 2 * m = k) (q : ∀ ns S', ns.length = k → (∀ x ∈ ns, 0 ≤ x ∧ x < (k : Int)) → SP g R S' → Q (.dat (tup (rks ns))) S') :
    okR (fns T ds (n + 3) "_law_some_order" [.loc 0, .dat (.int m)] S) Q := by
  have m2 : mulOk 2 m = true := mulOk_l (by decide) (by decide)
  rw [f_law_some_order]
  refine w_fn rfl ?_
  repeat (first | refine w_slot rfl ?_ | refine w_lc ?_ | refine w_c ?_ | refine w_bin ?_ | refine w_un ?_ | refine w_tup ?_ | refine w_lst ?_ | refine w_call ?_ | refine w_nil ?_ | refine w_cons ?_ | refine w_if ?_ | refine w_val ?_ | refine w_not ?_ | refine w_and ?_ | refine w_or ?_ | refine w_xand ?_ | refine w_xor ?_ | refine w_no ?_ | refine w_so ?_ | refine w_sl ?_ | refine w_meth ?_ | refine w_iseq ?_ | refine w_range1 ?_ | refine f_seq ?_ | refine f_set ?_ | refine f_drop ?_ | refine f_ret ?_ | refine f_if ?_ | refine f_nil ?_ | refine f_par2 ?_ | refine f_put ?_ | refine f_asg ?_ | refine z_add _ _ ?_ | refine z_sub _ _ ?_ | refine z_lt _ _ ?_ | refine z_le _ _ ?_ | refine z_gt _ _ ?_ | refine z_ge _ _ ?_ | refine z_eq _ _ ?_ | refine z_eqS _ _ ?_ | refine z_neS _ _ ?_ | refine z_slT _ _ _ ?_ | refine z_slL _ _ _ ?_ | refine z_lenL _ ?_ | refine z_lenT _ ?_ | refine z_tupL _ ?_ | refine z_lstT _ ?_)
  refine z_mul _ _ m2 ?_
  refine ⟨_, rfl, by rw [hm]; exact rOk_small (by omega), ?_⟩
  rw [hm]
  refine okR_mono (lc_all (SP g R) (fun d => ∃ v : Int, d = .int v ∧ 0 ≤ v ∧ v < (k : Int)) (fun _ _ => trivial) h fun x hx S1 h1 => ⟨_, rfl, ?_⟩) fun ys S2 ⟨es, e1, e2, e3, h2⟩ => ?_
  · repeat (first | refine w_slot rfl ?_ | refine w_lc ?_ | refine w_c ?_ | refine w_bin ?_ | refine w_un ?_ | refine w_tup ?_ | refine w_lst ?_ | refine w_call ?_ | refine w_nil ?_ | refine w_cons ?_ | refine w_if ?_ | refine w_val ?_ | refine w_not ?_ | refine w_and ?_ | refine w_or ?_ | refine w_xand ?_ | refine w_xor ?_ | refine w_no ?_ | refine w_so ?_ | refine w_sl ?_ | refine w_meth ?_ | refine w_iseq ?_ | refine w_range1 ?_ | refine f_seq ?_ | refine f_set ?_ | refine f_drop ?_ | refine f_ret ?_ | refine f_if ?_ | refine f_nil ?_ | refine f_par2 ?_ | refine f_put ?_ | refine f_asg ?_ | refine z_add _ _ ?_ | refine z_sub _ _ ?_ | refine z_lt _ _ ?_ | refine z_le _ _ ?_ | refine z_gt _ _ ?_ | refine z_ge _ _ ?_ | refine z_eq _ _ ?_ | refine z_eqS _ _ ?_ | refine z_neS _ _ ?_ | refine z_slT _ _ _ ?_ | refine z_slL _ _ _ ?_ | refine z_lenL _ ?_ | refine z_lenT _ ?_ | refine z_tupL _ ?_ | refine z_lstT _ ?_)
    refine z_mul _ _ m2 ?_
    repeat (first | refine w_slot rfl ?_ | refine w_lc ?_ | refine w_c ?_ | refine w_bin ?_ | refine w_un ?_ | refine w_tup ?_ | refine w_lst ?_ | refine w_call ?_ | refine w_nil ?_ | refine w_cons ?_ | refine w_if ?_ | refine w_val ?_ | refine w_not ?_ | refine w_and ?_ | refine w_or ?_ | refine w_xand ?_ | refine w_xor ?_ | refine w_no ?_ | refine w_so ?_ | refine w_sl ?_ | refine w_meth ?_ | refine w_iseq ?_ | refine w_range1 ?_ | refine f_seq ?_ | refine f_set ?_ | refine f_drop ?_ | refine f_ret ?_ | refine f_if ?_ | refine f_nil ?_ | refine f_par2 ?_ | refine f_put ?_ | refine f_asg ?_ | refine z_add _ _ ?_ | refine z_sub _ _ ?_ | refine z_lt _ _ ?_ | refine z_le _ _ ?_ | refine z_gt _ _ ?_ | refine z_ge _ _ ?_ | refine z_eq _ _ ?_ | refine z_eqS _ _ ?_ | refine z_neS _ _ ?_ | refine z_slT _ _ _ ?_ | refine z_slL _ _ _ ?_ | refine z_lenL _ ?_ | refine z_lenT _ ?_ | refine z_tupL _ ?_ | refine z_lstT _ ?_)
    rw [hm]
    exact w_draw h1 (by omega) (by omega) fun v S' v1 v2 hS => ⟨_, rfl, ⟨v, rfl, v1, v2⟩, hS⟩
  · subst e1
    obtain ⟨vs, e4, e5, e6⟩ := ints_dat e2
    subst e4
    have hl : vs.length = k := by rw [e6, e3]; show (NB.upTo 0 (k : Int).toNat).length = k; rw [Int.toNat_natCast, upTo_len]
    refine ⟨_, rfl, by rw [List.length_map, hl, sizeLine_eq]; omega, ?_⟩
    repeat (first | refine w_slot rfl ?_ | refine w_lc ?_ | refine w_c ?_ | refine w_bin ?_ | refine w_un ?_ | refine w_tup ?_ | refine w_lst ?_ | refine w_call ?_ | refine w_nil ?_ | refine w_cons ?_ | refine w_if ?_ | refine w_val ?_ | refine w_not ?_ | refine w_and ?_ | refine w_or ?_ | refine w_xand ?_ | refine w_xor ?_ | refine w_no ?_ | refine w_so ?_ | refine w_sl ?_ | refine w_meth ?_ | refine w_iseq ?_ | refine w_range1 ?_ | refine f_seq ?_ | refine f_set ?_ | refine f_drop ?_ | refine f_ret ?_ | refine f_if ?_ | refine f_nil ?_ | refine f_par2 ?_ | refine f_put ?_ | refine f_asg ?_ | refine z_add _ _ ?_ | refine z_sub _ _ ?_ | refine z_lt _ _ ?_ | refine z_le _ _ ?_ | refine z_gt _ _ ?_ | refine z_ge _ _ ?_ | refine z_eq _ _ ?_ | refine z_eqS _ _ ?_ | refine z_neS _ _ ?_ | refine z_slT _ _ _ ?_ | refine z_slL _ _ _ ?_ | refine z_lenL _ ?_ | refine z_lenT _ ?_ | refine z_tupL _ ?_ | refine z_lstT _ ?_)
    refine w_ranks (by omega) (fin_dat ?_)
    obtain ⟨s, r, hs, rfl⟩ := h
    obtain ⟨s2, r2, hs2, rfl⟩ := h2
    exact q _ _ hl e5 ⟨s2, r2, hs2, by simp⟩
end Lw
end
section
set_option Elab.async false
set_option linter.all false
set_option maxRecDepth 100000
set_option maxHeartbeats 1000000
namespace Lw
open PySem NB
/-! looks -/
def OrdOk (k : Nat) (r : List Int) : Prop := r.length = k ∧ ∀ x ∈ r, 0 ≤ x ∧ x ≤ 4
def lkD (s t : Int) (r : List Int) : PyData := .tuple [.int s, .int t, tup r]
def IsO (k : Nat) (d : PyData) : Prop := ∃ r, d = tup r ∧ OrdOk k r
def IsL (k : Nat) (d : PyData) : Prop := ∃ s t r, d = lkD s t r ∧ (0 ≤ s ∧ s ≤ 1) ∧ (0 ≤ t ∧ t ≤ 1) ∧ OrdOk k r
/-- how many numbers the nodes have -/
structure MK (m : Int) (k : Nat) : Prop where
  two : 2 * m = k
  kk : k = 2 ∨ k = 4
theorem MK.pos {m : Int} {k : Nat} (h : MK m k) : 0 < k := by rcases h.kk with e | e <;> omega
theorem MK.le {m : Int} {k : Nat} (h : MK m k) : k ≤ 4 := by rcases h.kk with e | e <;> omega
theorem MK.m0 {m : Int} {k : Nat} (h : MK m k) : 1 ≤ m ∧ m ≤ 2 := by have := h.two; rcases h.kk with e | e <;> omega
theorem ord_rks {ns : List Int} {k : Nat} (hl : ns.length = k) (hk : k ≤ 4) : OrdOk k (rks ns) := by
  refine ⟨by rw [rks_len, hl], fun x hx => ?_⟩
  obtain ⟨b, _, rfl⟩ := List.mem_map.mp hx
  have := rk_le ns b
  omega
theorem fit_tupI {r : List Int} {k : Nat} (h : OrdOk k r) (hk : k ≤ 4) : Fit 1 27 (tup r) :=
  (fit_tup (a := 0) (b := 4) (n := 4) (xs := r.map .int) (fun x hx => by
    obtain ⟨i, hi, rfl⟩ := List.mem_map.mp hx
    exact fit_int (h.2 i hi).1 (h.2 i hi).2) (by rw [List.length_map, h.1]; exact hk)).mono (by omega) (by omega)
theorem fitO {k : Nat} {d : PyData} (h : IsO k d) (hk : k ≤ 4) : Fit 1 27 d := by
  obtain ⟨r, rfl, h⟩ := h
  exact fit_tupI h hk
theorem fitL {k : Nat} {d : PyData} (h : IsL k d) (hk : k ≤ 4) : Fit 2 90 d := by
  obtain ⟨s, t, r, rfl, hs, ht, h⟩ := h
  refine (fit_tup (a := 1) (b := 27) (n := 3) (xs := [.int s, .int t, tup r]) (fun x hx => ?_) (Nat.le_refl _)).mono (by omega) (by omega)
  simp only [List.mem_cons, List.not_mem_nil, or_false] at hx
  rcases hx with rfl | rfl | rfl
  · exact (fit_int hs.1 (by omega)).mono (by omega) (by omega)
  · exact (fit_int ht.1 (by omega)).mono (by omega) (by omega)
  · exact fit_tupI h hk
theorem kOks_ints : ∀ r : List Int, kOks (r.map .int) = true
  | [] => rfl
  | i :: r => by show (true && kOks (r.map .int)) = true; rw [kOks_ints r]; rfl
theorem keyO {k : Nat} {d : PyData} (h : IsO k d) (hk : k ≤ 4) : keyOk d = true := by
  have f := (fitO h hk).dep
  obtain ⟨r, rfl, h⟩ := h
  show (true && (kOks (r.map .int) && decide ((tup r).depth ≤ 8))) = true
  rw [kOks_ints, decide_eq_true (by omega)]
  rfl
theorem keyL {k : Nat} {d : PyData} (h : IsL k d) (hk : k ≤ 4) : keyOk d = true := by
  have f := (fitL h hk).dep
  obtain ⟨s, t, r, rfl, _, _, h⟩ := h
  show (true && ((true && (true && (kOks (r.map .int) && true))) && decide ((lkD s t r).depth ≤ 8))) = true
  rw [kOks_ints, decide_eq_true (by omega)]
  rfl
theorem alike_tup (r r' : List Int) : PySem.W.alike (tup r) (tup r') = true := PySem.W.alike_ints r r'
theorem sokO {k : Nat} {ds : List PyData} (h : ∀ d ∈ ds, IsO k d) (h0 : 0 < k) (hk : k ≤ 4) : sortOk ds = true := by
  refine sortOk_of (fun d hd => ?_) fun d hd e he => ?_
  · have f := fitO (h d hd) hk
    refine ⟨?_, f.lay, by have := f.dep; omega⟩
    obtain ⟨r, rfl, hr⟩ := h d hd
    cases r with
    | nil => have := hr.1; simp at this; omega
    | cons i r => rfl
  · obtain ⟨r, rfl, _⟩ := h d hd
    obtain ⟨r', rfl, _⟩ := h e he
    exact alike_tup r r'
theorem sokL {k : Nat} {ds : List PyData} (h : ∀ d ∈ ds, IsL k d) (hk : k ≤ 4) : sortOk ds = true := by
  refine sortOk_of (fun d hd => ?_) fun d hd e he => ?_
  · have f := fitL (h d hd) hk
    refine ⟨?_, f.lay, by have := f.dep; omega⟩
    obtain ⟨s, t, r, rfl, _⟩ := h d hd
    rfl
  · obtain ⟨s, t, r, rfl, _⟩ := h d hd
    obtain ⟨s', t', r', rfl, _⟩ := h e he
    show (true && (true && (PySem.W.alike (tup r) (tup r') && true))) = true
    rw [alike_tup]
    rfl
theorem z_ssetL {S : Sto} {x : Val} {ds : List PyData} {k : Nat} {q0 : Val → Prop} (e : seqD S x = some ds) (h : ∀ d ∈ ds, IsL k d) (hk : k ≤ 4) (hl : ds.length ≤ 1299) (q : ∀ fs : List PyData, (∀ d ∈ fs, IsL k d) → fs.length ≤ ds.length → q0 (.dat (.list fs))) :
    ∃ z, orG gSortSet (compG gSet gSortS) S x = some z ∧ q0 z :=
  z_sset e (fun d hd => keyL (h d hd) hk) (sokL h hk) hl (q _ (fun d hd => h d ((sset_mem fun d hd => keyL (h d hd) hk).mp hd)) (sset_len ds))
theorem z_ssetO {S : Sto} {x : Val} {ds : List PyData} {k : Nat} {q0 : Val → Prop} (e : seqD S x = some ds) (h : ∀ d ∈ ds, IsO k d) (h0 : 0 < k) (hk : k ≤ 4) (hl : ds.length ≤ 1299) (q : ∀ fs : List PyData, (∀ d ∈ fs, IsO k d) → fs.length ≤ ds.length → q0 (.dat (.list fs))) :
    ∃ z, orG gSortSet (compG gSet gSortS) S x = some z ∧ q0 z :=
  z_sset e (fun d hd => keyO (h d hd) hk) (sokO h h0 hk) hl (q _ (fun d hd => h d ((sset_mem fun d hd => keyO (h d hd) hk).mp hd)) (sset_len ds))
section
variable {n : Nat} {g : List Int} {R : Sto} {k : Nat} {m : Int} {S : Sto} {Q : Val → Sto → Prop}
theorem w_order (h : SP g R S) (M : MK m k) (q : ∀ d S', IsO k d → SP g R S' → Q (.dat d) S') : okR (fns T ds (n + 3) "_law_some_order" [.loc 0, .dat (.int m)] S) Q :=
  w_some_order h M.pos M.le M.two fun ns S' hl _ hS => q _ _ ⟨_, rfl, ord_rks hl M.le⟩ hS
theorem w_look (h : SP g R S) (M : MK m k) (q : ∀ d S', IsL k d → SP g R S' → Q (.dat d) S') : okR (fns T ds (n + 4) "_law_some_look" [.loc 0, .dat (.int m)] S) Q := by
  rw [f_law_some_look]
  refine w_fn rfl ?_
  repeat (first | refine w_slot rfl ?_ | refine w_lc ?_ | refine w_c ?_ | refine w_bin ?_ | refine w_un ?_ | refine w_tup ?_ | refine w_lst ?_ | refine w_call ?_ | refine w_nil ?_ | refine w_cons ?_ | refine w_if ?_ | refine w_val ?_ | refine w_not ?_ | refine w_and ?_ | refine w_or ?_ | refine w_xand ?_ | refine w_xor ?_ | refine w_no ?_ | refine w_so ?_ | refine w_sl ?_ | refine w_meth ?_ | refine w_iseq ?_ | refine w_range1 ?_ | refine f_seq ?_ | refine f_set ?_ | refine f_drop ?_ | refine f_ret ?_ | refine f_if ?_ | refine f_nil ?_ | refine f_par2 ?_ | refine f_put ?_ | refine f_asg ?_ | refine z_add _ _ ?_ | refine z_sub _ _ ?_ | refine z_lt _ _ ?_ | refine z_le _ _ ?_ | refine z_gt _ _ ?_ | refine z_ge _ _ ?_ | refine z_eq _ _ ?_ | refine z_eqS _ _ ?_ | refine z_neS _ _ ?_ | refine z_slT _ _ _ ?_ | refine z_slL _ _ _ ?_ | refine z_lenL _ ?_ | refine z_lenT _ ?_ | refine z_tupL _ ?_ | refine z_lstT _ ?_)
  refine w_draw h (by decide) (by decide) fun s S1 s0 s1 h1 => ?_
  repeat (first | refine w_slot rfl ?_ | refine w_lc ?_ | refine w_c ?_ | refine w_bin ?_ | refine w_un ?_ | refine w_tup ?_ | refine w_lst ?_ | refine w_call ?_ | refine w_nil ?_ | refine w_cons ?_ | refine w_if ?_ | refine w_val ?_ | refine w_not ?_ | refine w_and ?_ | refine w_or ?_ | refine w_xand ?_ | refine w_xor ?_ | refine w_no ?_ | refine w_so ?_ | refine w_sl ?_ | refine w_meth ?_ | refine w_iseq ?_ | refine w_range1 ?_ | refine f_seq ?_ | refine f_set ?_ | refine f_drop ?_ | refine f_ret ?_ | refine f_if ?_ | refine f_nil ?_ | refine f_par2 ?_ | refine f_put ?_ | refine f_asg ?_ | refine z_add _ _ ?_ | refine z_sub _ _ ?_ | refine z_lt _ _ ?_ | refine z_le _ _ ?_ | refine z_gt _ _ ?_ | refine z_ge _ _ ?_ | refine z_eq _ _ ?_ | refine z_eqS _ _ ?_ | refine z_neS _ _ ?_ | refine z_slT _ _ _ ?_ | refine z_slL _ _ _ ?_ | refine z_lenL _ ?_ | refine z_lenT _ ?_ | refine z_tupL _ ?_ | refine z_lstT _ ?_)
  refine w_draw h1 (by decide) (by decide) fun t S2 t0 t1 h2 => ?_
  repeat (first | refine w_slot rfl ?_ | refine w_lc ?_ | refine w_c ?_ | refine w_bin ?_ | refine w_un ?_ | refine w_tup ?_ | refine w_lst ?_ | refine w_call ?_ | refine w_nil ?_ | refine w_cons ?_ | refine w_if ?_ | refine w_val ?_ | refine w_not ?_ | refine w_and ?_ | refine w_or ?_ | refine w_xand ?_ | refine w_xor ?_ | refine w_no ?_ | refine w_so ?_ | refine w_sl ?_ | refine w_meth ?_ | refine w_iseq ?_ | refine w_range1 ?_ | refine f_seq ?_ | refine f_set ?_ | refine f_drop ?_ | refine f_ret ?_ | refine f_if ?_ | refine f_nil ?_ | refine f_par2 ?_ | refine f_put ?_ | refine f_asg ?_ | refine z_add _ _ ?_ | refine z_sub _ _ ?_ | refine z_lt _ _ ?_ | refine z_le _ _ ?_ | refine z_gt _ _ ?_ | refine z_ge _ _ ?_ | refine z_eq _ _ ?_ | refine z_eqS _ _ ?_ | refine z_neS _ _ ?_ | refine z_slT _ _ _ ?_ | refine z_slL _ _ _ ?_ | refine z_lenL _ ?_ | refine z_lenT _ ?_ | refine z_tupL _ ?_ | refine z_lstT _ ?_)
  refine w_order h2 M fun d S3 hd h3 => ?_
  refine ⟨[.int s, .int t, d], rfl, fin_sp h h3 (q _ _ ?_ h3)⟩
  obtain ⟨r, rfl, hr⟩ := hd
  exact ⟨s, t, r, rfl, ⟨s0, by omega⟩, ⟨t0, by omega⟩, hr⟩
theorem w_some_table {most : Int} (h : SP g R S) (M : MK m k) (b0 : 0 ≤ most) (b1 : most ≤ 100) (q : ∀ ds S', (∀ d ∈ ds, IsL k d) → (ds.length : Int) ≤ most → SP g R S' → Q (.dat (.tuple ds)) S') : okR (fns T ds (n + 5) "_law_some_table" [.loc 0, .dat (.int m), .dat (.int most)] S) Q := by
  rw [f_law_some_table]
  refine w_fn rfl ?_
  repeat (first | refine w_slot rfl ?_ | refine w_lc ?_ | refine w_c ?_ | refine w_bin ?_ | refine w_un ?_ | refine w_tup ?_ | refine w_lst ?_ | refine w_call ?_ | refine w_nil ?_ | refine w_cons ?_ | refine w_if ?_ | refine w_val ?_ | refine w_not ?_ | refine w_and ?_ | refine w_or ?_ | refine w_xand ?_ | refine w_xor ?_ | refine w_no ?_ | refine w_so ?_ | refine w_sl ?_ | refine w_meth ?_ | refine w_iseq ?_ | refine w_range1 ?_ | refine f_seq ?_ | refine f_set ?_ | refine f_drop ?_ | refine f_ret ?_ | refine f_if ?_ | refine f_nil ?_ | refine f_par2 ?_ | refine f_put ?_ | refine f_asg ?_ | refine z_add _ _ ?_ | refine z_sub _ _ ?_ | refine z_lt _ _ ?_ | refine z_le _ _ ?_ | refine z_gt _ _ ?_ | refine z_ge _ _ ?_ | refine z_eq _ _ ?_ | refine z_eqS _ _ ?_ | refine z_neS _ _ ?_ | refine z_slT _ _ _ ?_ | refine z_slL _ _ _ ?_ | refine z_lenL _ ?_ | refine z_lenT _ ?_ | refine z_tupL _ ?_ | refine z_lstT _ ?_)
  refine w_draw h (by omega) (by omega) fun v S1 v0 v1 h1 => ?_
  refine ⟨v, rfl, rOk_i v0 (by omega), ?_⟩
  refine okR_mono (lc_all (SP g R) (IsL k) (fun _ _ => trivial) h1 fun x hx S2 h2 => ⟨_, rfl, ?_⟩) fun ys S2 ⟨es, e1, e2, e3, h2⟩ => ?_
  · repeat (first | refine w_slot rfl ?_ | refine w_lc ?_ | refine w_c ?_ | refine w_bin ?_ | refine w_un ?_ | refine w_tup ?_ | refine w_lst ?_ | refine w_call ?_ | refine w_nil ?_ | refine w_cons ?_ | refine w_if ?_ | refine w_val ?_ | refine w_not ?_ | refine w_and ?_ | refine w_or ?_ | refine w_xand ?_ | refine w_xor ?_ | refine w_no ?_ | refine w_so ?_ | refine w_sl ?_ | refine w_meth ?_ | refine w_iseq ?_ | refine w_range1 ?_ | refine f_seq ?_ | refine f_set ?_ | refine f_drop ?_ | refine f_ret ?_ | refine f_if ?_ | refine f_nil ?_ | refine f_par2 ?_ | refine f_put ?_ | refine f_asg ?_ | refine z_add _ _ ?_ | refine z_sub _ _ ?_ | refine z_lt _ _ ?_ | refine z_le _ _ ?_ | refine z_gt _ _ ?_ | refine z_ge _ _ ?_ | refine z_eq _ _ ?_ | refine z_eqS _ _ ?_ | refine z_neS _ _ ?_ | refine z_slT _ _ _ ?_ | refine z_slL _ _ _ ?_ | refine z_lenL _ ?_ | refine z_lenT _ ?_ | refine z_tupL _ ?_ | refine z_lstT _ ?_)
    exact w_look h2 M fun d S3 hd h3 => ⟨d, rfl, hd, h3⟩
  · have hl : es.length = v.toNat := by rw [e3]; exact upTo_len _
    refine ⟨es, e1, by rw [sizeLine_eq]; omega, ?_⟩
    refine z_ssetL (show seqD S2 (.dat (.list es)) = some es from rfl) e2 M.le (by omega) fun fs f1 f2 => ?_
    repeat (first | refine w_slot rfl ?_ | refine w_lc ?_ | refine w_c ?_ | refine w_bin ?_ | refine w_un ?_ | refine w_tup ?_ | refine w_lst ?_ | refine w_call ?_ | refine w_nil ?_ | refine w_cons ?_ | refine w_if ?_ | refine w_val ?_ | refine w_not ?_ | refine w_and ?_ | refine w_or ?_ | refine w_xand ?_ | refine w_xor ?_ | refine w_no ?_ | refine w_so ?_ | refine w_sl ?_ | refine w_meth ?_ | refine w_iseq ?_ | refine w_range1 ?_ | refine f_seq ?_ | refine f_set ?_ | refine f_drop ?_ | refine f_ret ?_ | refine f_if ?_ | refine f_nil ?_ | refine f_par2 ?_ | refine f_put ?_ | refine f_asg ?_ | refine z_add _ _ ?_ | refine z_sub _ _ ?_ | refine z_lt _ _ ?_ | refine z_le _ _ ?_ | refine z_gt _ _ ?_ | refine z_ge _ _ ?_ | refine z_eq _ _ ?_ | refine z_eqS _ _ ?_ | refine z_neS _ _ ?_ | refine z_slT _ _ _ ?_ | refine z_slL _ _ _ ?_ | refine z_lenL _ ?_ | refine z_lenT _ ?_ | refine z_tupL _ ?_ | refine z_lstT _ ?_)
    exact fin_sp h h2 (q _ _ f1 (by omega) h2)
theorem w_some_waits {most : Int} (h : SP g R S) (M : MK m k) (b0 : 0 ≤ most) (b1 : most ≤ 100) (q : ∀ ds S', (∀ d ∈ ds, IsO k d) → (ds.length : Int) ≤ most → SP g R S' → Q (.dat (.tuple ds)) S') : okR (fns T ds (n + 4) "_law_some_waits" [.loc 0, .dat (.int m), .dat (.int most)] S) Q := by
  rw [f_law_some_waits]
  refine w_fn rfl ?_
  repeat (first | refine w_slot rfl ?_ | refine w_lc ?_ | refine w_c ?_ | refine w_bin ?_ | refine w_un ?_ | refine w_tup ?_ | refine w_lst ?_ | refine w_call ?_ | refine w_nil ?_ | refine w_cons ?_ | refine w_if ?_ | refine w_val ?_ | refine w_not ?_ | refine w_and ?_ | refine w_or ?_ | refine w_xand ?_ | refine w_xor ?_ | refine w_no ?_ | refine w_so ?_ | refine w_sl ?_ | refine w_meth ?_ | refine w_iseq ?_ | refine w_range1 ?_ | refine f_seq ?_ | refine f_set ?_ | refine f_drop ?_ | refine f_ret ?_ | refine f_if ?_ | refine f_nil ?_ | refine f_par2 ?_ | refine f_put ?_ | refine f_asg ?_ | refine z_add _ _ ?_ | refine z_sub _ _ ?_ | refine z_lt _ _ ?_ | refine z_le _ _ ?_ | refine z_gt _ _ ?_ | refine z_ge _ _ ?_ | refine z_eq _ _ ?_ | refine z_eqS _ _ ?_ | refine z_neS _ _ ?_ | refine z_slT _ _ _ ?_ | refine z_slL _ _ _ ?_ | refine z_lenL _ ?_ | refine z_lenT _ ?_ | refine z_tupL _ ?_ | refine z_lstT _ ?_)
  refine w_draw h (by omega) (by omega) fun v S1 v0 v1 h1 => ?_
  refine ⟨v, rfl, rOk_i v0 (by omega), ?_⟩
  refine okR_mono (lc_all (SP g R) (IsO k) (fun _ _ => trivial) h1 fun x hx S2 h2 => ⟨_, rfl, ?_⟩) fun ys S2 ⟨es, e1, e2, e3, h2⟩ => ?_
  · repeat (first | refine w_slot rfl ?_ | refine w_lc ?_ | refine w_c ?_ | refine w_bin ?_ | refine w_un ?_ | refine w_tup ?_ | refine w_lst ?_ | refine w_call ?_ | refine w_nil ?_ | refine w_cons ?_ | refine w_if ?_ | refine w_val ?_ | refine w_not ?_ | refine w_and ?_ | refine w_or ?_ | refine w_xand ?_ | refine w_xor ?_ | refine w_no ?_ | refine w_so ?_ | refine w_sl ?_ | refine w_meth ?_ | refine w_iseq ?_ | refine w_range1 ?_ | refine f_seq ?_ | refine f_set ?_ | refine f_drop ?_ | refine f_ret ?_ | refine f_if ?_ | refine f_nil ?_ | refine f_par2 ?_ | refine f_put ?_ | refine f_asg ?_ | refine z_add _ _ ?_ | refine z_sub _ _ ?_ | refine z_lt _ _ ?_ | refine z_le _ _ ?_ | refine z_gt _ _ ?_ | refine z_ge _ _ ?_ | refine z_eq _ _ ?_ | refine z_eqS _ _ ?_ | refine z_neS _ _ ?_ | refine z_slT _ _ _ ?_ | refine z_slL _ _ _ ?_ | refine z_lenL _ ?_ | refine z_lenT _ ?_ | refine z_tupL _ ?_ | refine z_lstT _ ?_)
    exact w_order h2 M fun d S3 hd h3 => ⟨d, rfl, hd, h3⟩
  · have hl : es.length = v.toNat := by rw [e3]; exact upTo_len _
    refine ⟨es, e1, by rw [sizeLine_eq]; omega, ?_⟩
    refine z_ssetO (show seqD S2 (.dat (.list es)) = some es from rfl) e2 M.pos M.le (by omega) fun fs f1 f2 => ?_
    repeat (first | refine w_slot rfl ?_ | refine w_lc ?_ | refine w_c ?_ | refine w_bin ?_ | refine w_un ?_ | refine w_tup ?_ | refine w_lst ?_ | refine w_call ?_ | refine w_nil ?_ | refine w_cons ?_ | refine w_if ?_ | refine w_val ?_ | refine w_not ?_ | refine w_and ?_ | refine w_or ?_ | refine w_xand ?_ | refine w_xor ?_ | refine w_no ?_ | refine w_so ?_ | refine w_sl ?_ | refine w_meth ?_ | refine w_iseq ?_ | refine w_range1 ?_ | refine f_seq ?_ | refine f_set ?_ | refine f_drop ?_ | refine f_ret ?_ | refine f_if ?_ | refine f_nil ?_ | refine f_par2 ?_ | refine f_put ?_ | refine f_asg ?_ | refine z_add _ _ ?_ | refine z_sub _ _ ?_ | refine z_lt _ _ ?_ | refine z_le _ _ ?_ | refine z_gt _ _ ?_ | refine z_ge _ _ ?_ | refine z_eq _ _ ?_ | refine z_eqS _ _ ?_ | refine z_neS _ _ ?_ | refine z_slT _ _ _ ?_ | refine z_slL _ _ _ ?_ | refine z_lenL _ ?_ | refine z_lenT _ ?_ | refine z_tupL _ ?_ | refine z_lstT _ ?_)
    exact fin_sp h h2 (q _ _ f1 (by omega) h2)
theorem at_ord {r : List Int} {i : Int} (h : OrdOk k r) (h0 : 0 ≤ i) (h1 : i < (k : Int)) : ∃ v : Int, L2.atI (r.map PyData.int) i = some (.int v) := by
  obtain ⟨x, hm, e⟩ := atI_mem (ds := r.map PyData.int) (i := i) h0 (by rw [List.length_map, h.1]; exact h1)
  obtain ⟨v, _, rfl⟩ := List.mem_map.mp hm
  exact ⟨v, e⟩
/-- an order with its halves exchanged -/
def turnR (r : List Int) : List Int := cutL r (some ((r.length : Int) / 2)) none ++ cutL r none (some ((r.length : Int) / 2))
theorem turnR_ok {r : List Int} (h : OrdOk k r) (hk : k = 2 ∨ k = 4) : OrdOk k (turnR r) := by
  have hm : ∀ x ∈ turnR r, 0 ≤ x ∧ x ≤ 4 := fun x hx => by
    rcases List.mem_append.mp hx with e | e
    · exact h.2 x (cutL_mem e)
    · exact h.2 x (cutL_mem e)
  refine ⟨?_, hm⟩
  rcases hk with rfl | rfl
  · match r, h.1 with
    | [a, b], _ => simp [turnR, cutL, HT.sIx]
  · match r, h.1 with
    | [a, b, c, d], _ => simp [turnR, cutL, HT.sIx]
theorem turn_map (r : List Int) : cutL (r.map PyData.int) (some (((r.map PyData.int).length : Int) / 2)) none ++ cutL (r.map PyData.int) none (some (((r.map PyData.int).length : Int) / 2)) = (turnR r).map .int := by
  unfold turnR
  rw [List.length_map, cutL_map, cutL_map, List.map_append]
end
end Lw
end
section
set_option Elab.async false
set_option linter.all false
set_option maxRecDepth 100000
set_option maxHeartbeats 1000000
namespace Lw
open PySem NB
/-! drawn tables -/
section
variable {n : Nat} {g : List Int} {R : Sto} {k : Nat} {m : Int} {S : Sto} {Q : Val → Sto → Prop} {D : Flw → NB.Env → Sto → Prop}
/-- whichever way it goes -/
theorem f_ifP {t : XT} {a b : XSt} {ρ : NB.Env} (P : Sto → Prop) (h : okR (t ρ S) fun _ S1 => P S1) (ha : ∀ S1, P S1 → okF (a ρ S1) D) (hb : ∀ S1, P S1 → okF (b ρ S1) D) : okF (sIf t a b ρ S) D :=
  f_if (okR_mono h fun _ S1 p => ⟨fun _ => ha S1 p, fun _ => hb S1 p⟩)
theorem w_falling {most : Int} (h : SP g R S) (M : MK m k) (b0 : 0 ≤ most) (b1 : most ≤ 100) (q : ∀ ds S', (∀ d ∈ ds, IsL k d) → (ds.length : Int) ≤ most → SP g R S' → Q (.dat (.tuple ds)) S') : okR (fns T ds (n + 5) "_law_falling" [.loc 0, .dat (.int m), .dat (.int most)] S) Q := by
  have hm := M.m0
  have h2m := M.two
  rw [f_law_falling]
  refine w_fn rfl ?_
  repeat (first | with_reducible refine w_slot rfl ?_ | with_reducible refine w_slot (by with_unfolding_all rfl) ?_ | with_reducible refine w_lc ?_ | with_reducible refine w_c ?_ | with_reducible refine w_bin ?_ | with_reducible refine w_un ?_ | with_reducible refine w_tup ?_ | with_reducible refine w_lst ?_ | with_reducible refine w_lstC ?_ | with_reducible refine w_call ?_ | with_reducible refine w_nil ?_ | with_reducible refine w_cons ?_ | with_reducible refine w_if ?_ | with_reducible refine w_val ?_ | with_reducible refine w_not ?_ | with_reducible refine w_and ?_ | with_reducible refine w_or ?_ | with_reducible refine w_xand ?_ | with_reducible refine w_xor ?_ | with_reducible refine w_no ?_ | with_reducible refine w_so ?_ | with_reducible refine w_sl ?_ | with_reducible refine w_meth ?_ | with_reducible refine w_iseq ?_ | with_reducible refine w_range1 ?_ | with_reducible refine f_seq ?_ | with_reducible refine f_set ?_ | with_reducible refine f_drop ?_ | with_reducible refine f_ret ?_ | with_reducible refine f_if ?_ | with_reducible refine f_nil ?_ | with_reducible refine f_par2 ?_ | with_reducible refine f_put ?_ | with_reducible refine f_asg ?_ | refine z_add _ _ ?_ | refine z_sub _ _ ?_ | refine z_lt _ _ ?_ | refine z_le _ _ ?_ | refine z_gt _ _ ?_ | refine z_ge _ _ ?_ | refine z_eq _ _ ?_ | refine z_eqS _ _ ?_ | refine z_neS _ _ ?_ | refine z_slT _ _ _ ?_ | refine z_slL _ _ _ ?_ | refine z_lenL _ ?_ | refine z_lenT _ ?_ | refine z_tupL _ ?_ | refine z_lstT _ ?_)
  refine w_draw h (by omega) (by omega) fun at_ S1 at0 at1 h1 => ?_
  repeat (first | with_reducible refine w_slot rfl ?_ | with_reducible refine w_slot (by with_unfolding_all rfl) ?_ | with_reducible refine w_lc ?_ | with_reducible refine w_c ?_ | with_reducible refine w_bin ?_ | with_reducible refine w_un ?_ | with_reducible refine w_tup ?_ | with_reducible refine w_lst ?_ | with_reducible refine w_lstC ?_ | with_reducible refine w_call ?_ | with_reducible refine w_nil ?_ | with_reducible refine w_cons ?_ | with_reducible refine w_if ?_ | with_reducible refine w_val ?_ | with_reducible refine w_not ?_ | with_reducible refine w_and ?_ | with_reducible refine w_or ?_ | with_reducible refine w_xand ?_ | with_reducible refine w_xor ?_ | with_reducible refine w_no ?_ | with_reducible refine w_so ?_ | with_reducible refine w_sl ?_ | with_reducible refine w_meth ?_ | with_reducible refine w_iseq ?_ | with_reducible refine w_range1 ?_ | with_reducible refine f_seq ?_ | with_reducible refine f_set ?_ | with_reducible refine f_drop ?_ | with_reducible refine f_ret ?_ | with_reducible refine f_if ?_ | with_reducible refine f_nil ?_ | with_reducible refine f_par2 ?_ | with_reducible refine f_put ?_ | with_reducible refine f_asg ?_ | refine z_add _ _ ?_ | refine z_sub _ _ ?_ | refine z_lt _ _ ?_ | refine z_le _ _ ?_ | refine z_gt _ _ ?_ | refine z_ge _ _ ?_ | refine z_eq _ _ ?_ | refine z_eqS _ _ ?_ | refine z_neS _ _ ?_ | refine z_slT _ _ _ ?_ | refine z_slL _ _ _ ?_ | refine z_lenL _ ?_ | refine z_lenT _ ?_ | refine z_tupL _ ?_ | refine z_lstT _ ?_)
  refine ⟨rfl, ?_⟩
  repeat (first | with_reducible refine w_slot rfl ?_ | with_reducible refine w_slot (by with_unfolding_all rfl) ?_ | with_reducible refine w_lc ?_ | with_reducible refine w_c ?_ | with_reducible refine w_bin ?_ | with_reducible refine w_un ?_ | with_reducible refine w_tup ?_ | with_reducible refine w_lst ?_ | with_reducible refine w_lstC ?_ | with_reducible refine w_call ?_ | with_reducible refine w_nil ?_ | with_reducible refine w_cons ?_ | with_reducible refine w_if ?_ | with_reducible refine w_val ?_ | with_reducible refine w_not ?_ | with_reducible refine w_and ?_ | with_reducible refine w_or ?_ | with_reducible refine w_xand ?_ | with_reducible refine w_xor ?_ | with_reducible refine w_no ?_ | with_reducible refine w_so ?_ | with_reducible refine w_sl ?_ | with_reducible refine w_meth ?_ | with_reducible refine w_iseq ?_ | with_reducible refine w_range1 ?_ | with_reducible refine f_seq ?_ | with_reducible refine f_set ?_ | with_reducible refine f_drop ?_ | with_reducible refine f_ret ?_ | with_reducible refine f_if ?_ | with_reducible refine f_nil ?_ | with_reducible refine f_par2 ?_ | with_reducible refine f_put ?_ | with_reducible refine f_asg ?_ | refine z_add _ _ ?_ | refine z_sub _ _ ?_ | refine z_lt _ _ ?_ | refine z_le _ _ ?_ | refine z_gt _ _ ?_ | refine z_ge _ _ ?_ | refine z_eq _ _ ?_ | refine z_eqS _ _ ?_ | refine z_neS _ _ ?_ | refine z_slT _ _ _ ?_ | refine z_slL _ _ _ ?_ | refine z_lenL _ ?_ | refine z_lenT _ ?_ | refine z_tupL _ ?_ | refine z_lstT _ ?_)
  refine ⟨_, _, rfl, ?_⟩
  rw [h1.len]
  refine f_seq ?_
  refine f_fori (fun i ρ S => ∃ (a b c d : Option Val) (es : List PyData), ρ = [some (.loc 0), some (.dat (.int m)), some (.dat (.int most)), a, some (.dat (.int at_)), some (.loc (R.length + 1)), b, c, d] ∧ SP g (R ++ [.lst (es.map .dat)]) S ∧ (∀ e ∈ es, IsL k e) ∧ es.length ≤ i) ?_
  repeat (first | with_reducible refine w_slot rfl ?_ | with_reducible refine w_slot (by with_unfolding_all rfl) ?_ | with_reducible refine w_lc ?_ | with_reducible refine w_c ?_ | with_reducible refine w_bin ?_ | with_reducible refine w_un ?_ | with_reducible refine w_tup ?_ | with_reducible refine w_lst ?_ | with_reducible refine w_lstC ?_ | with_reducible refine w_call ?_ | with_reducible refine w_nil ?_ | with_reducible refine w_cons ?_ | with_reducible refine w_if ?_ | with_reducible refine w_val ?_ | with_reducible refine w_not ?_ | with_reducible refine w_and ?_ | with_reducible refine w_or ?_ | with_reducible refine w_xand ?_ | with_reducible refine w_xor ?_ | with_reducible refine w_no ?_ | with_reducible refine w_so ?_ | with_reducible refine w_sl ?_ | with_reducible refine w_meth ?_ | with_reducible refine w_iseq ?_ | with_reducible refine w_range1 ?_ | with_reducible refine f_seq ?_ | with_reducible refine f_set ?_ | with_reducible refine f_drop ?_ | with_reducible refine f_ret ?_ | with_reducible refine f_if ?_ | with_reducible refine f_nil ?_ | with_reducible refine f_par2 ?_ | with_reducible refine f_put ?_ | with_reducible refine f_asg ?_ | refine z_add _ _ ?_ | refine z_sub _ _ ?_ | refine z_lt _ _ ?_ | refine z_le _ _ ?_ | refine z_gt _ _ ?_ | refine z_ge _ _ ?_ | refine z_eq _ _ ?_ | refine z_eqS _ _ ?_ | refine z_neS _ _ ?_ | refine z_slT _ _ _ ?_ | refine z_slL _ _ _ ?_ | refine z_lenL _ ?_ | refine z_lenT _ ?_ | refine z_tupL _ ?_ | refine z_lstT _ ?_)
  refine w_draw (h1.new (c := .lst [])) (by omega) (by omega) fun v S2 v0 v1 h2 => ?_
  refine ⟨v, rfl, rOk_i v0 (by omega), fun _ _ _ _ => trivial, ⟨none, none, none, none, [], rfl, h2, fun e he => (by cases he), Nat.le_refl _⟩, ?_, ?_⟩
  · rintro i x hx ρ S3 ⟨a, b, c, d, es, rfl, h3, he, hl⟩
    have hi : i < (NB.upTo 0 v.toNat).length := (List.getElem?_eq_some_iff.mp hx).1
    rw [upTo_len] at hi
    refine ⟨_, rfl, ?_⟩
    repeat (first | with_reducible refine w_slot rfl ?_ | with_reducible refine w_slot (by with_unfolding_all rfl) ?_ | with_reducible refine w_lc ?_ | with_reducible refine w_c ?_ | with_reducible refine w_bin ?_ | with_reducible refine w_un ?_ | with_reducible refine w_tup ?_ | with_reducible refine w_lst ?_ | with_reducible refine w_lstC ?_ | with_reducible refine w_call ?_ | with_reducible refine w_nil ?_ | with_reducible refine w_cons ?_ | with_reducible refine w_if ?_ | with_reducible refine w_val ?_ | with_reducible refine w_not ?_ | with_reducible refine w_and ?_ | with_reducible refine w_or ?_ | with_reducible refine w_xand ?_ | with_reducible refine w_xor ?_ | with_reducible refine w_no ?_ | with_reducible refine w_so ?_ | with_reducible refine w_sl ?_ | with_reducible refine w_meth ?_ | with_reducible refine w_iseq ?_ | with_reducible refine w_range1 ?_ | with_reducible refine f_seq ?_ | with_reducible refine f_set ?_ | with_reducible refine f_drop ?_ | with_reducible refine f_ret ?_ | with_reducible refine f_if ?_ | with_reducible refine f_nil ?_ | with_reducible refine f_par2 ?_ | with_reducible refine f_put ?_ | with_reducible refine f_asg ?_ | refine z_add _ _ ?_ | refine z_sub _ _ ?_ | refine z_lt _ _ ?_ | refine z_le _ _ ?_ | refine z_gt _ _ ?_ | refine z_ge _ _ ?_ | refine z_eq _ _ ?_ | refine z_eqS _ _ ?_ | refine z_neS _ _ ?_ | refine z_slT _ _ _ ?_ | refine z_slL _ _ _ ?_ | refine z_lenL _ ?_ | refine z_lenT _ ?_ | refine z_tupL _ ?_ | refine z_lstT _ ?_)
    refine w_look h3 M fun d4 S4 hd h4 => ?_
    obtain ⟨s, t, r, rfl, hs, ht, hr⟩ := hd
    refine ⟨_, rfl, ?_⟩
    obtain ⟨x1, e1⟩ := at_ord hr at0 (by omega)
    obtain ⟨x2, e2⟩ := at_ord (i := m + at_) hr (by omega) (by omega)
    have lr := hr.1
    refine f_ifP (SP g (R ++ [.lst (es.map .dat)])) ?_ (fun S5 h5 => ?_) fun S5 h5 => ?_
    · repeat (first | with_reducible refine w_slot rfl ?_ | with_reducible refine w_slot (by with_unfolding_all rfl) ?_ | with_reducible refine w_lc ?_ | with_reducible refine w_c ?_ | with_reducible refine w_bin ?_ | with_reducible refine w_un ?_ | with_reducible refine w_tup ?_ | with_reducible refine w_lst ?_ | with_reducible refine w_lstC ?_ | with_reducible refine w_call ?_ | with_reducible refine w_nil ?_ | with_reducible refine w_cons ?_ | with_reducible refine w_if ?_ | with_reducible refine w_val ?_ | with_reducible refine w_not ?_ | with_reducible refine w_and ?_ | with_reducible refine w_or ?_ | with_reducible refine w_xand ?_ | with_reducible refine w_xor ?_ | with_reducible refine w_no ?_ | with_reducible refine w_so ?_ | with_reducible refine w_sl ?_ | with_reducible refine w_meth ?_ | with_reducible refine w_iseq ?_ | with_reducible refine w_range1 ?_ | with_reducible refine f_seq ?_ | with_reducible refine f_set ?_ | with_reducible refine f_drop ?_ | with_reducible refine f_ret ?_ | with_reducible refine f_if ?_ | with_reducible refine f_nil ?_ | with_reducible refine f_par2 ?_ | with_reducible refine f_put ?_ | with_reducible refine f_asg ?_ | refine z_add _ _ ?_ | refine z_sub _ _ ?_ | refine z_lt _ _ ?_ | refine z_le _ _ ?_ | refine z_gt _ _ ?_ | refine z_ge _ _ ?_ | refine z_eq _ _ ?_ | refine z_eqS _ _ ?_ | refine z_neS _ _ ?_ | refine z_slT _ _ _ ?_ | refine z_slL _ _ _ ?_ | refine z_lenL _ ?_ | refine z_lenT _ ?_ | refine z_tupL _ ?_ | refine z_lstT _ ?_)
      refine z_ixT _ _ e1 ?_
      repeat (first | with_reducible refine w_slot rfl ?_ | with_reducible refine w_slot (by with_unfolding_all rfl) ?_ | with_reducible refine w_lc ?_ | with_reducible refine w_c ?_ | with_reducible refine w_bin ?_ | with_reducible refine w_un ?_ | with_reducible refine w_tup ?_ | with_reducible refine w_lst ?_ | with_reducible refine w_lstC ?_ | with_reducible refine w_call ?_ | with_reducible refine w_nil ?_ | with_reducible refine w_cons ?_ | with_reducible refine w_if ?_ | with_reducible refine w_val ?_ | with_reducible refine w_not ?_ | with_reducible refine w_and ?_ | with_reducible refine w_or ?_ | with_reducible refine w_xand ?_ | with_reducible refine w_xor ?_ | with_reducible refine w_no ?_ | with_reducible refine w_so ?_ | with_reducible refine w_sl ?_ | with_reducible refine w_meth ?_ | with_reducible refine w_iseq ?_ | with_reducible refine w_range1 ?_ | with_reducible refine f_seq ?_ | with_reducible refine f_set ?_ | with_reducible refine f_drop ?_ | with_reducible refine f_ret ?_ | with_reducible refine f_if ?_ | with_reducible refine f_nil ?_ | with_reducible refine f_par2 ?_ | with_reducible refine f_put ?_ | with_reducible refine f_asg ?_ | refine z_add _ _ ?_ | refine z_sub _ _ ?_ | refine z_lt _ _ ?_ | refine z_le _ _ ?_ | refine z_gt _ _ ?_ | refine z_ge _ _ ?_ | refine z_eq _ _ ?_ | refine z_eqS _ _ ?_ | refine z_neS _ _ ?_ | refine z_slT _ _ _ ?_ | refine z_slL _ _ _ ?_ | refine z_lenL _ ?_ | refine z_lenT _ ?_ | refine z_tupL _ ?_ | refine z_lstT _ ?_)
      refine z_ixT _ _ e2 ?_
      repeat (first | with_reducible refine w_slot rfl ?_ | with_reducible refine w_slot (by with_unfolding_all rfl) ?_ | with_reducible refine w_lc ?_ | with_reducible refine w_c ?_ | with_reducible refine w_bin ?_ | with_reducible refine w_un ?_ | with_reducible refine w_tup ?_ | with_reducible refine w_lst ?_ | with_reducible refine w_lstC ?_ | with_reducible refine w_call ?_ | with_reducible refine w_nil ?_ | with_reducible refine w_cons ?_ | with_reducible refine w_if ?_ | with_reducible refine w_val ?_ | with_reducible refine w_not ?_ | with_reducible refine w_and ?_ | with_reducible refine w_or ?_ | with_reducible refine w_xand ?_ | with_reducible refine w_xor ?_ | with_reducible refine w_no ?_ | with_reducible refine w_so ?_ | with_reducible refine w_sl ?_ | with_reducible refine w_meth ?_ | with_reducible refine w_iseq ?_ | with_reducible refine w_range1 ?_ | with_reducible refine f_seq ?_ | with_reducible refine f_set ?_ | with_reducible refine f_drop ?_ | with_reducible refine f_ret ?_ | with_reducible refine f_if ?_ | with_reducible refine f_nil ?_ | with_reducible refine f_par2 ?_ | with_reducible refine f_put ?_ | with_reducible refine f_asg ?_ | refine z_add _ _ ?_ | refine z_sub _ _ ?_ | refine z_lt _ _ ?_ | refine z_le _ _ ?_ | refine z_gt _ _ ?_ | refine z_ge _ _ ?_ | refine z_eq _ _ ?_ | refine z_eqS _ _ ?_ | refine z_neS _ _ ?_ | refine z_slT _ _ _ ?_ | refine z_slL _ _ _ ?_ | refine z_lenL _ ?_ | refine z_lenT _ ?_ | refine z_tupL _ ?_ | refine z_lstT _ ?_)
      refine ⟨_, rfl, fun _ => ?_, fun _ => h4⟩
      repeat (first | with_reducible refine w_slot rfl ?_ | with_reducible refine w_slot (by with_unfolding_all rfl) ?_ | with_reducible refine w_lc ?_ | with_reducible refine w_c ?_ | with_reducible refine w_bin ?_ | with_reducible refine w_un ?_ | with_reducible refine w_tup ?_ | with_reducible refine w_lst ?_ | with_reducible refine w_lstC ?_ | with_reducible refine w_call ?_ | with_reducible refine w_nil ?_ | with_reducible refine w_cons ?_ | with_reducible refine w_if ?_ | with_reducible refine w_val ?_ | with_reducible refine w_not ?_ | with_reducible refine w_and ?_ | with_reducible refine w_or ?_ | with_reducible refine w_xand ?_ | with_reducible refine w_xor ?_ | with_reducible refine w_no ?_ | with_reducible refine w_so ?_ | with_reducible refine w_sl ?_ | with_reducible refine w_meth ?_ | with_reducible refine w_iseq ?_ | with_reducible refine w_range1 ?_ | with_reducible refine f_seq ?_ | with_reducible refine f_set ?_ | with_reducible refine f_drop ?_ | with_reducible refine f_ret ?_ | with_reducible refine f_if ?_ | with_reducible refine f_nil ?_ | with_reducible refine f_par2 ?_ | with_reducible refine f_put ?_ | with_reducible refine f_asg ?_ | refine z_add _ _ ?_ | refine z_sub _ _ ?_ | refine z_lt _ _ ?_ | refine z_le _ _ ?_ | refine z_gt _ _ ?_ | refine z_ge _ _ ?_ | refine z_eq _ _ ?_ | refine z_eqS _ _ ?_ | refine z_neS _ _ ?_ | refine z_slT _ _ _ ?_ | refine z_slL _ _ _ ?_ | refine z_lenL _ ?_ | refine z_lenT _ ?_ | refine z_tupL _ ?_ | refine z_lstT _ ?_)
      refine w_draw h4 (by decide) (by decide) fun v5 S5 _ _ h5 => ?_
      repeat (first | with_reducible refine w_slot rfl ?_ | with_reducible refine w_slot (by with_unfolding_all rfl) ?_ | with_reducible refine w_lc ?_ | with_reducible refine w_c ?_ | with_reducible refine w_bin ?_ | with_reducible refine w_un ?_ | with_reducible refine w_tup ?_ | with_reducible refine w_lst ?_ | with_reducible refine w_lstC ?_ | with_reducible refine w_call ?_ | with_reducible refine w_nil ?_ | with_reducible refine w_cons ?_ | with_reducible refine w_if ?_ | with_reducible refine w_val ?_ | with_reducible refine w_not ?_ | with_reducible refine w_and ?_ | with_reducible refine w_or ?_ | with_reducible refine w_xand ?_ | with_reducible refine w_xor ?_ | with_reducible refine w_no ?_ | with_reducible refine w_so ?_ | with_reducible refine w_sl ?_ | with_reducible refine w_meth ?_ | with_reducible refine w_iseq ?_ | with_reducible refine w_range1 ?_ | with_reducible refine f_seq ?_ | with_reducible refine f_set ?_ | with_reducible refine f_drop ?_ | with_reducible refine f_ret ?_ | with_reducible refine f_if ?_ | with_reducible refine f_nil ?_ | with_reducible refine f_par2 ?_ | with_reducible refine f_put ?_ | with_reducible refine f_asg ?_ | refine z_add _ _ ?_ | refine z_sub _ _ ?_ | refine z_lt _ _ ?_ | refine z_le _ _ ?_ | refine z_gt _ _ ?_ | refine z_ge _ _ ?_ | refine z_eq _ _ ?_ | refine z_eqS _ _ ?_ | refine z_neS _ _ ?_ | refine z_slT _ _ _ ?_ | refine z_slL _ _ _ ?_ | refine z_lenL _ ?_ | refine z_lenT _ ?_ | refine z_tupL _ ?_ | refine z_lstT _ ?_)
      exact ⟨_, rfl, h5⟩
    · repeat (first | with_reducible refine w_slot rfl ?_ | with_reducible refine w_slot (by with_unfolding_all rfl) ?_ | with_reducible refine w_lc ?_ | with_reducible refine w_c ?_ | with_reducible refine w_bin ?_ | with_reducible refine w_un ?_ | with_reducible refine w_tup ?_ | with_reducible refine w_lst ?_ | with_reducible refine w_lstC ?_ | with_reducible refine w_call ?_ | with_reducible refine w_nil ?_ | with_reducible refine w_cons ?_ | with_reducible refine w_if ?_ | with_reducible refine w_val ?_ | with_reducible refine w_not ?_ | with_reducible refine w_and ?_ | with_reducible refine w_or ?_ | with_reducible refine w_xand ?_ | with_reducible refine w_xor ?_ | with_reducible refine w_no ?_ | with_reducible refine w_so ?_ | with_reducible refine w_sl ?_ | with_reducible refine w_meth ?_ | with_reducible refine w_iseq ?_ | with_reducible refine w_range1 ?_ | with_reducible refine f_seq ?_ | with_reducible refine f_set ?_ | with_reducible refine f_drop ?_ | with_reducible refine f_ret ?_ | with_reducible refine f_if ?_ | with_reducible refine f_nil ?_ | with_reducible refine f_par2 ?_ | with_reducible refine f_put ?_ | with_reducible refine f_asg ?_ | refine z_add _ _ ?_ | refine z_sub _ _ ?_ | refine z_lt _ _ ?_ | refine z_le _ _ ?_ | refine z_gt _ _ ?_ | refine z_ge _ _ ?_ | refine z_eq _ _ ?_ | refine z_eqS _ _ ?_ | refine z_neS _ _ ?_ | refine z_slT _ _ _ ?_ | refine z_slL _ _ _ ?_ | refine z_lenL _ ?_ | refine z_lenT _ ?_ | refine z_tupL _ ?_ | refine z_lstT _ ?_)
      refine ⟨h5.isL, ?_⟩
      repeat (first | with_reducible refine w_slot rfl ?_ | with_reducible refine w_slot (by with_unfolding_all rfl) ?_ | with_reducible refine w_lc ?_ | with_reducible refine w_c ?_ | with_reducible refine w_bin ?_ | with_reducible refine w_un ?_ | with_reducible refine w_tup ?_ | with_reducible refine w_lst ?_ | with_reducible refine w_lstC ?_ | with_reducible refine w_call ?_ | with_reducible refine w_nil ?_ | with_reducible refine w_cons ?_ | with_reducible refine w_if ?_ | with_reducible refine w_val ?_ | with_reducible refine w_not ?_ | with_reducible refine w_and ?_ | with_reducible refine w_or ?_ | with_reducible refine w_xand ?_ | with_reducible refine w_xor ?_ | with_reducible refine w_no ?_ | with_reducible refine w_so ?_ | with_reducible refine w_sl ?_ | with_reducible refine w_meth ?_ | with_reducible refine w_iseq ?_ | with_reducible refine w_range1 ?_ | with_reducible refine f_seq ?_ | with_reducible refine f_set ?_ | with_reducible refine f_drop ?_ | with_reducible refine f_ret ?_ | with_reducible refine f_if ?_ | with_reducible refine f_nil ?_ | with_reducible refine f_par2 ?_ | with_reducible refine f_put ?_ | with_reducible refine f_asg ?_ | refine z_add _ _ ?_ | refine z_sub _ _ ?_ | refine z_lt _ _ ?_ | refine z_le _ _ ?_ | refine z_gt _ _ ?_ | refine z_ge _ _ ?_ | refine z_eq _ _ ?_ | refine z_eqS _ _ ?_ | refine z_neS _ _ ?_ | refine z_slT _ _ _ ?_ | refine z_slL _ _ _ ?_ | refine z_lenL _ ?_ | refine z_lenT _ ?_ | refine z_tupL _ ?_ | refine z_lstT _ ?_)
      refine ⟨[.int s, .int t, tup r], rfl, ?_⟩
      refine z_app h5 (by omega) fun S6 h6 => ?_
      refine ⟨_, _, _, _, es ++ [lkD s t r], rfl, h6, fun e hh => ?_, by simp; exact hl⟩
      rcases List.mem_append.mp hh with z | z
      · exact he e z
      · rw [List.mem_singleton.mp z]; exact ⟨s, t, r, rfl, hs, ht, hr⟩
    · refine f_ifP (SP g (R ++ [.lst (es.map .dat)])) ?_ (fun S6 h6 => ?_) fun S6 h6 => ?_
      · repeat (first | with_reducible refine w_slot rfl ?_ | with_reducible refine w_slot (by with_unfolding_all rfl) ?_ | with_reducible refine w_lc ?_ | with_reducible refine w_c ?_ | with_reducible refine w_bin ?_ | with_reducible refine w_un ?_ | with_reducible refine w_tup ?_ | with_reducible refine w_lst ?_ | with_reducible refine w_lstC ?_ | with_reducible refine w_call ?_ | with_reducible refine w_nil ?_ | with_reducible refine w_cons ?_ | with_reducible refine w_if ?_ | with_reducible refine w_val ?_ | with_reducible refine w_not ?_ | with_reducible refine w_and ?_ | with_reducible refine w_or ?_ | with_reducible refine w_xand ?_ | with_reducible refine w_xor ?_ | with_reducible refine w_no ?_ | with_reducible refine w_so ?_ | with_reducible refine w_sl ?_ | with_reducible refine w_meth ?_ | with_reducible refine w_iseq ?_ | with_reducible refine w_range1 ?_ | with_reducible refine f_seq ?_ | with_reducible refine f_set ?_ | with_reducible refine f_drop ?_ | with_reducible refine f_ret ?_ | with_reducible refine f_if ?_ | with_reducible refine f_nil ?_ | with_reducible refine f_par2 ?_ | with_reducible refine f_put ?_ | with_reducible refine f_asg ?_ | refine z_add _ _ ?_ | refine z_sub _ _ ?_ | refine z_lt _ _ ?_ | refine z_le _ _ ?_ | refine z_gt _ _ ?_ | refine z_ge _ _ ?_ | refine z_eq _ _ ?_ | refine z_eqS _ _ ?_ | refine z_neS _ _ ?_ | refine z_slT _ _ _ ?_ | refine z_slL _ _ _ ?_ | refine z_lenL _ ?_ | refine z_lenT _ ?_ | refine z_tupL _ ?_ | refine z_lstT _ ?_)
        refine z_ixT _ _ e1 ?_
        repeat (first | with_reducible refine w_slot rfl ?_ | with_reducible refine w_slot (by with_unfolding_all rfl) ?_ | with_reducible refine w_lc ?_ | with_reducible refine w_c ?_ | with_reducible refine w_bin ?_ | with_reducible refine w_un ?_ | with_reducible refine w_tup ?_ | with_reducible refine w_lst ?_ | with_reducible refine w_lstC ?_ | with_reducible refine w_call ?_ | with_reducible refine w_nil ?_ | with_reducible refine w_cons ?_ | with_reducible refine w_if ?_ | with_reducible refine w_val ?_ | with_reducible refine w_not ?_ | with_reducible refine w_and ?_ | with_reducible refine w_or ?_ | with_reducible refine w_xand ?_ | with_reducible refine w_xor ?_ | with_reducible refine w_no ?_ | with_reducible refine w_so ?_ | with_reducible refine w_sl ?_ | with_reducible refine w_meth ?_ | with_reducible refine w_iseq ?_ | with_reducible refine w_range1 ?_ | with_reducible refine f_seq ?_ | with_reducible refine f_set ?_ | with_reducible refine f_drop ?_ | with_reducible refine f_ret ?_ | with_reducible refine f_if ?_ | with_reducible refine f_nil ?_ | with_reducible refine f_par2 ?_ | with_reducible refine f_put ?_ | with_reducible refine f_asg ?_ | refine z_add _ _ ?_ | refine z_sub _ _ ?_ | refine z_lt _ _ ?_ | refine z_le _ _ ?_ | refine z_gt _ _ ?_ | refine z_ge _ _ ?_ | refine z_eq _ _ ?_ | refine z_eqS _ _ ?_ | refine z_neS _ _ ?_ | refine z_slT _ _ _ ?_ | refine z_slL _ _ _ ?_ | refine z_lenL _ ?_ | refine z_lenT _ ?_ | refine z_tupL _ ?_ | refine z_lstT _ ?_)
        refine z_ixT _ _ e2 ?_
        repeat (first | with_reducible refine w_slot rfl ?_ | with_reducible refine w_slot (by with_unfolding_all rfl) ?_ | with_reducible refine w_lc ?_ | with_reducible refine w_c ?_ | with_reducible refine w_bin ?_ | with_reducible refine w_un ?_ | with_reducible refine w_tup ?_ | with_reducible refine w_lst ?_ | with_reducible refine w_lstC ?_ | with_reducible refine w_call ?_ | with_reducible refine w_nil ?_ | with_reducible refine w_cons ?_ | with_reducible refine w_if ?_ | with_reducible refine w_val ?_ | with_reducible refine w_not ?_ | with_reducible refine w_and ?_ | with_reducible refine w_or ?_ | with_reducible refine w_xand ?_ | with_reducible refine w_xor ?_ | with_reducible refine w_no ?_ | with_reducible refine w_so ?_ | with_reducible refine w_sl ?_ | with_reducible refine w_meth ?_ | with_reducible refine w_iseq ?_ | with_reducible refine w_range1 ?_ | with_reducible refine f_seq ?_ | with_reducible refine f_set ?_ | with_reducible refine f_drop ?_ | with_reducible refine f_ret ?_ | with_reducible refine f_if ?_ | with_reducible refine f_nil ?_ | with_reducible refine f_par2 ?_ | with_reducible refine f_put ?_ | with_reducible refine f_asg ?_ | refine z_add _ _ ?_ | refine z_sub _ _ ?_ | refine z_lt _ _ ?_ | refine z_le _ _ ?_ | refine z_gt _ _ ?_ | refine z_ge _ _ ?_ | refine z_eq _ _ ?_ | refine z_eqS _ _ ?_ | refine z_neS _ _ ?_ | refine z_slT _ _ _ ?_ | refine z_slL _ _ _ ?_ | refine z_lenL _ ?_ | refine z_lenT _ ?_ | refine z_tupL _ ?_ | refine z_lstT _ ?_)
        exact ⟨_, rfl, h5⟩
      · have la := cutL_len (r.map PyData.int) (some m) none
        have lb := cutL_len (r.map PyData.int) none (some m)
        repeat (first | with_reducible refine w_slot rfl ?_ | with_reducible refine w_slot (by with_unfolding_all rfl) ?_ | with_reducible refine w_lc ?_ | with_reducible refine w_c ?_ | with_reducible refine w_bin ?_ | with_reducible refine w_un ?_ | with_reducible refine w_tup ?_ | with_reducible refine w_lst ?_ | with_reducible refine w_lstC ?_ | with_reducible refine w_call ?_ | with_reducible refine w_nil ?_ | with_reducible refine w_cons ?_ | with_reducible refine w_if ?_ | with_reducible refine w_val ?_ | with_reducible refine w_not ?_ | with_reducible refine w_and ?_ | with_reducible refine w_or ?_ | with_reducible refine w_xand ?_ | with_reducible refine w_xor ?_ | with_reducible refine w_no ?_ | with_reducible refine w_so ?_ | with_reducible refine w_sl ?_ | with_reducible refine w_meth ?_ | with_reducible refine w_iseq ?_ | with_reducible refine w_range1 ?_ | with_reducible refine f_seq ?_ | with_reducible refine f_set ?_ | with_reducible refine f_drop ?_ | with_reducible refine f_ret ?_ | with_reducible refine f_if ?_ | with_reducible refine f_nil ?_ | with_reducible refine f_par2 ?_ | with_reducible refine f_put ?_ | with_reducible refine f_asg ?_ | refine z_add _ _ ?_ | refine z_sub _ _ ?_ | refine z_lt _ _ ?_ | refine z_le _ _ ?_ | refine z_gt _ _ ?_ | refine z_ge _ _ ?_ | refine z_eq _ _ ?_ | refine z_eqS _ _ ?_ | refine z_neS _ _ ?_ | refine z_slT _ _ _ ?_ | refine z_slL _ _ _ ?_ | refine z_lenL _ ?_ | refine z_lenT _ ?_ | refine z_tupL _ ?_ | refine z_lstT _ ?_)
        refine ⟨h6.isL, ?_⟩
        repeat (first | with_reducible refine w_slot rfl ?_ | with_reducible refine w_slot (by with_unfolding_all rfl) ?_ | with_reducible refine w_lc ?_ | with_reducible refine w_c ?_ | with_reducible refine w_bin ?_ | with_reducible refine w_un ?_ | with_reducible refine w_tup ?_ | with_reducible refine w_lst ?_ | with_reducible refine w_lstC ?_ | with_reducible refine w_call ?_ | with_reducible refine w_nil ?_ | with_reducible refine w_cons ?_ | with_reducible refine w_if ?_ | with_reducible refine w_val ?_ | with_reducible refine w_not ?_ | with_reducible refine w_and ?_ | with_reducible refine w_or ?_ | with_reducible refine w_xand ?_ | with_reducible refine w_xor ?_ | with_reducible refine w_no ?_ | with_reducible refine w_so ?_ | with_reducible refine w_sl ?_ | with_reducible refine w_meth ?_ | with_reducible refine w_iseq ?_ | with_reducible refine w_range1 ?_ | with_reducible refine f_seq ?_ | with_reducible refine f_set ?_ | with_reducible refine f_drop ?_ | with_reducible refine f_ret ?_ | with_reducible refine f_if ?_ | with_reducible refine f_nil ?_ | with_reducible refine f_par2 ?_ | with_reducible refine f_put ?_ | with_reducible refine f_asg ?_ | refine z_add _ _ ?_ | refine z_sub _ _ ?_ | refine z_lt _ _ ?_ | refine z_le _ _ ?_ | refine z_gt _ _ ?_ | refine z_ge _ _ ?_ | refine z_eq _ _ ?_ | refine z_eqS _ _ ?_ | refine z_neS _ _ ?_ | refine z_slT _ _ _ ?_ | refine z_slL _ _ _ ?_ | refine z_lenL _ ?_ | refine z_lenT _ ?_ | refine z_tupL _ ?_ | refine z_lstT _ ?_)
        refine ⟨_, rfl, ?_⟩
        repeat (first | with_reducible refine w_slot rfl ?_ | with_reducible refine w_slot (by with_unfolding_all rfl) ?_ | with_reducible refine w_lc ?_ | with_reducible refine w_c ?_ | with_reducible refine w_bin ?_ | with_reducible refine w_un ?_ | with_reducible refine w_tup ?_ | with_reducible refine w_lst ?_ | with_reducible refine w_lstC ?_ | with_reducible refine w_call ?_ | with_reducible refine w_nil ?_ | with_reducible refine w_cons ?_ | with_reducible refine w_if ?_ | with_reducible refine w_val ?_ | with_reducible refine w_not ?_ | with_reducible refine w_and ?_ | with_reducible refine w_or ?_ | with_reducible refine w_xand ?_ | with_reducible refine w_xor ?_ | with_reducible refine w_no ?_ | with_reducible refine w_so ?_ | with_reducible refine w_sl ?_ | with_reducible refine w_meth ?_ | with_reducible refine w_iseq ?_ | with_reducible refine w_range1 ?_ | with_reducible refine f_seq ?_ | with_reducible refine f_set ?_ | with_reducible refine f_drop ?_ | with_reducible refine f_ret ?_ | with_reducible refine f_if ?_ | with_reducible refine f_nil ?_ | with_reducible refine f_par2 ?_ | with_reducible refine f_put ?_ | with_reducible refine f_asg ?_ | refine z_add _ _ ?_ | refine z_sub _ _ ?_ | refine z_lt _ _ ?_ | refine z_le _ _ ?_ | refine z_gt _ _ ?_ | refine z_ge _ _ ?_ | refine z_eq _ _ ?_ | refine z_eqS _ _ ?_ | refine z_neS _ _ ?_ | refine z_slT _ _ _ ?_ | refine z_slL _ _ _ ?_ | refine z_lenL _ ?_ | refine z_lenT _ ?_ | refine z_tupL _ ?_ | refine z_lstT _ ?_)
        refine ⟨_, rfl, ?_⟩
        repeat (first | with_reducible refine w_slot rfl ?_ | with_reducible refine w_slot (by with_unfolding_all rfl) ?_ | with_reducible refine w_lc ?_ | with_reducible refine w_c ?_ | with_reducible refine w_bin ?_ | with_reducible refine w_un ?_ | with_reducible refine w_tup ?_ | with_reducible refine w_lst ?_ | with_reducible refine w_lstC ?_ | with_reducible refine w_call ?_ | with_reducible refine w_nil ?_ | with_reducible refine w_cons ?_ | with_reducible refine w_if ?_ | with_reducible refine w_val ?_ | with_reducible refine w_not ?_ | with_reducible refine w_and ?_ | with_reducible refine w_or ?_ | with_reducible refine w_xand ?_ | with_reducible refine w_xor ?_ | with_reducible refine w_no ?_ | with_reducible refine w_so ?_ | with_reducible refine w_sl ?_ | with_reducible refine w_meth ?_ | with_reducible refine w_iseq ?_ | with_reducible refine w_range1 ?_ | with_reducible refine f_seq ?_ | with_reducible refine f_set ?_ | with_reducible refine f_drop ?_ | with_reducible refine f_ret ?_ | with_reducible refine f_if ?_ | with_reducible refine f_nil ?_ | with_reducible refine f_par2 ?_ | with_reducible refine f_put ?_ | with_reducible refine f_asg ?_ | refine z_add _ _ ?_ | refine z_sub _ _ ?_ | refine z_lt _ _ ?_ | refine z_le _ _ ?_ | refine z_gt _ _ ?_ | refine z_ge _ _ ?_ | refine z_eq _ _ ?_ | refine z_eqS _ _ ?_ | refine z_neS _ _ ?_ | refine z_slT _ _ _ ?_ | refine z_slL _ _ _ ?_ | refine z_lenL _ ?_ | refine z_lenT _ ?_ | refine z_tupL _ ?_ | refine z_lstT _ ?_)
        refine z_addT _ _ (by rw [List.length_map] at la lb; rw [sizeLine_eq]; have := M.le; omega) ?_
        repeat (first | with_reducible refine w_slot rfl ?_ | with_reducible refine w_slot (by with_unfolding_all rfl) ?_ | with_reducible refine w_lc ?_ | with_reducible refine w_c ?_ | with_reducible refine w_bin ?_ | with_reducible refine w_un ?_ | with_reducible refine w_tup ?_ | with_reducible refine w_lst ?_ | with_reducible refine w_lstC ?_ | with_reducible refine w_call ?_ | with_reducible refine w_nil ?_ | with_reducible refine w_cons ?_ | with_reducible refine w_if ?_ | with_reducible refine w_val ?_ | with_reducible refine w_not ?_ | with_reducible refine w_and ?_ | with_reducible refine w_or ?_ | with_reducible refine w_xand ?_ | with_reducible refine w_xor ?_ | with_reducible refine w_no ?_ | with_reducible refine w_so ?_ | with_reducible refine w_sl ?_ | with_reducible refine w_meth ?_ | with_reducible refine w_iseq ?_ | with_reducible refine w_range1 ?_ | with_reducible refine f_seq ?_ | with_reducible refine f_set ?_ | with_reducible refine f_drop ?_ | with_reducible refine f_ret ?_ | with_reducible refine f_if ?_ | with_reducible refine f_nil ?_ | with_reducible refine f_par2 ?_ | with_reducible refine f_put ?_ | with_reducible refine f_asg ?_ | refine z_add _ _ ?_ | refine z_sub _ _ ?_ | refine z_lt _ _ ?_ | refine z_le _ _ ?_ | refine z_gt _ _ ?_ | refine z_ge _ _ ?_ | refine z_eq _ _ ?_ | refine z_eqS _ _ ?_ | refine z_neS _ _ ?_ | refine z_slT _ _ _ ?_ | refine z_slL _ _ _ ?_ | refine z_lenL _ ?_ | refine z_lenT _ ?_ | refine z_tupL _ ?_ | refine z_lstT _ ?_)
        refine ⟨[.int s, .int t, tup (cutL r (some m) none ++ cutL r none (some m))], ?_, ?_⟩
        · rw [cutL_map, cutL_map, ← List.map_append]
          rfl
        refine z_app h6 (by omega) fun S7 h7 => ?_
        refine ⟨_, _, _, _, es ++ [lkD s t (cutL r (some m) none ++ cutL r none (some m))], rfl, h7, fun e hh => ?_, by simp; exact hl⟩
        rcases List.mem_append.mp hh with z | z
        · exact he e z
        · rw [List.mem_singleton.mp z]
          refine ⟨s, t, _, rfl, hs, ht, ?_⟩
          have em : (r.length : Int) / 2 = m := by omega
          have := turnR_ok hr M.kk
          unfold turnR at this
          rw [em] at this
          exact this
      · exact ⟨_, _, _, _, es, rfl, h6, he, by omega⟩
  · rintro ρ S3 ⟨a, b, c, d, es, rfl, h3, he, hl⟩
    rw [upTo_len] at hl
    repeat (first | with_reducible refine w_slot rfl ?_ | with_reducible refine w_slot (by with_unfolding_all rfl) ?_ | with_reducible refine w_lc ?_ | with_reducible refine w_c ?_ | with_reducible refine w_bin ?_ | with_reducible refine w_un ?_ | with_reducible refine w_tup ?_ | with_reducible refine w_lst ?_ | with_reducible refine w_lstC ?_ | with_reducible refine w_call ?_ | with_reducible refine w_nil ?_ | with_reducible refine w_cons ?_ | with_reducible refine w_if ?_ | with_reducible refine w_val ?_ | with_reducible refine w_not ?_ | with_reducible refine w_and ?_ | with_reducible refine w_or ?_ | with_reducible refine w_xand ?_ | with_reducible refine w_xor ?_ | with_reducible refine w_no ?_ | with_reducible refine w_so ?_ | with_reducible refine w_sl ?_ | with_reducible refine w_meth ?_ | with_reducible refine w_iseq ?_ | with_reducible refine w_range1 ?_ | with_reducible refine f_seq ?_ | with_reducible refine f_set ?_ | with_reducible refine f_drop ?_ | with_reducible refine f_ret ?_ | with_reducible refine f_if ?_ | with_reducible refine f_nil ?_ | with_reducible refine f_par2 ?_ | with_reducible refine f_put ?_ | with_reducible refine f_asg ?_ | refine z_add _ _ ?_ | refine z_sub _ _ ?_ | refine z_lt _ _ ?_ | refine z_le _ _ ?_ | refine z_gt _ _ ?_ | refine z_ge _ _ ?_ | refine z_eq _ _ ?_ | refine z_eqS _ _ ?_ | refine z_neS _ _ ?_ | refine z_slT _ _ _ ?_ | refine z_slL _ _ _ ?_ | refine z_lenL _ ?_ | refine z_lenT _ ?_ | refine z_tupL _ ?_ | refine z_lstT _ ?_)
    refine z_ssetL h3.seq he M.le (by omega) fun fs f1 f2 => ?_
    repeat (first | with_reducible refine w_slot rfl ?_ | with_reducible refine w_slot (by with_unfolding_all rfl) ?_ | with_reducible refine w_lc ?_ | with_reducible refine w_c ?_ | with_reducible refine w_bin ?_ | with_reducible refine w_un ?_ | with_reducible refine w_tup ?_ | with_reducible refine w_lst ?_ | with_reducible refine w_lstC ?_ | with_reducible refine w_call ?_ | with_reducible refine w_nil ?_ | with_reducible refine w_cons ?_ | with_reducible refine w_if ?_ | with_reducible refine w_val ?_ | with_reducible refine w_not ?_ | with_reducible refine w_and ?_ | with_reducible refine w_or ?_ | with_reducible refine w_xand ?_ | with_reducible refine w_xor ?_ | with_reducible refine w_no ?_ | with_reducible refine w_so ?_ | with_reducible refine w_sl ?_ | with_reducible refine w_meth ?_ | with_reducible refine w_iseq ?_ | with_reducible refine w_range1 ?_ | with_reducible refine f_seq ?_ | with_reducible refine f_set ?_ | with_reducible refine f_drop ?_ | with_reducible refine f_ret ?_ | with_reducible refine f_if ?_ | with_reducible refine f_nil ?_ | with_reducible refine f_par2 ?_ | with_reducible refine f_put ?_ | with_reducible refine f_asg ?_ | refine z_add _ _ ?_ | refine z_sub _ _ ?_ | refine z_lt _ _ ?_ | refine z_le _ _ ?_ | refine z_gt _ _ ?_ | refine z_ge _ _ ?_ | refine z_eq _ _ ?_ | refine z_eqS _ _ ?_ | refine z_neS _ _ ?_ | refine z_slT _ _ _ ?_ | refine z_slL _ _ _ ?_ | refine z_lenL _ ?_ | refine z_lenT _ ?_ | refine z_tupL _ ?_ | refine z_lstT _ ?_)
    exact fin_sp1 h h3 fun S5 h5 => q _ _ f1 (by omega) h5
theorem w_any_table {most : Int} (h : SP g R S) (M : MK m k) (b0 : 0 ≤ most) (b1 : most ≤ 100) (q : ∀ ds S', (∀ d ∈ ds, IsL k d) → (ds.length : Int) ≤ most → SP g R S' → Q (.dat (.tuple ds)) S') : okR (fns T ds (n + 6) "_law_any_table" [.loc 0, .dat (.int m), .dat (.int most)] S) Q := by
  rw [f_law_any_table]
  refine w_fn rfl ?_
  refine f_seq (f_ifP (SP g R) ?_ (fun S1 h1 => ?_) fun S1 h1 => ?_)
  · repeat (first | with_reducible refine w_slot rfl ?_ | with_reducible refine w_slot (by with_unfolding_all rfl) ?_ | with_reducible refine w_lc ?_ | with_reducible refine w_c ?_ | with_reducible refine w_bin ?_ | with_reducible refine w_un ?_ | with_reducible refine w_tup ?_ | with_reducible refine w_lst ?_ | with_reducible refine w_lstC ?_ | with_reducible refine w_call ?_ | with_reducible refine w_nil ?_ | with_reducible refine w_cons ?_ | with_reducible refine w_if ?_ | with_reducible refine w_val ?_ | with_reducible refine w_not ?_ | with_reducible refine w_and ?_ | with_reducible refine w_or ?_ | with_reducible refine w_xand ?_ | with_reducible refine w_xor ?_ | with_reducible refine w_no ?_ | with_reducible refine w_so ?_ | with_reducible refine w_sl ?_ | with_reducible refine w_meth ?_ | with_reducible refine w_iseq ?_ | with_reducible refine w_range1 ?_ | with_reducible refine f_seq ?_ | with_reducible refine f_set ?_ | with_reducible refine f_drop ?_ | with_reducible refine f_ret ?_ | with_reducible refine f_if ?_ | with_reducible refine f_nil ?_ | with_reducible refine f_par2 ?_ | with_reducible refine f_put ?_ | with_reducible refine f_asg ?_ | refine z_add _ _ ?_ | refine z_sub _ _ ?_ | refine z_lt _ _ ?_ | refine z_le _ _ ?_ | refine z_gt _ _ ?_ | refine z_ge _ _ ?_ | refine z_eq _ _ ?_ | refine z_eqS _ _ ?_ | refine z_neS _ _ ?_ | refine z_slT _ _ _ ?_ | refine z_slL _ _ _ ?_ | refine z_lenL _ ?_ | refine z_lenT _ ?_ | refine z_tupL _ ?_ | refine z_lstT _ ?_)
    refine w_draw h (by decide) (by decide) fun v S1 _ _ h1 => ?_
    repeat (first | with_reducible refine w_slot rfl ?_ | with_reducible refine w_slot (by with_unfolding_all rfl) ?_ | with_reducible refine w_lc ?_ | with_reducible refine w_c ?_ | with_reducible refine w_bin ?_ | with_reducible refine w_un ?_ | with_reducible refine w_tup ?_ | with_reducible refine w_lst ?_ | with_reducible refine w_lstC ?_ | with_reducible refine w_call ?_ | with_reducible refine w_nil ?_ | with_reducible refine w_cons ?_ | with_reducible refine w_if ?_ | with_reducible refine w_val ?_ | with_reducible refine w_not ?_ | with_reducible refine w_and ?_ | with_reducible refine w_or ?_ | with_reducible refine w_xand ?_ | with_reducible refine w_xor ?_ | with_reducible refine w_no ?_ | with_reducible refine w_so ?_ | with_reducible refine w_sl ?_ | with_reducible refine w_meth ?_ | with_reducible refine w_iseq ?_ | with_reducible refine w_range1 ?_ | with_reducible refine f_seq ?_ | with_reducible refine f_set ?_ | with_reducible refine f_drop ?_ | with_reducible refine f_ret ?_ | with_reducible refine f_if ?_ | with_reducible refine f_nil ?_ | with_reducible refine f_par2 ?_ | with_reducible refine f_put ?_ | with_reducible refine f_asg ?_ | refine z_add _ _ ?_ | refine z_sub _ _ ?_ | refine z_lt _ _ ?_ | refine z_le _ _ ?_ | refine z_gt _ _ ?_ | refine z_ge _ _ ?_ | refine z_eq _ _ ?_ | refine z_eqS _ _ ?_ | refine z_neS _ _ ?_ | refine z_slT _ _ _ ?_ | refine z_slL _ _ _ ?_ | refine z_lenL _ ?_ | refine z_lenT _ ?_ | refine z_tupL _ ?_ | refine z_lstT _ ?_)
    exact ⟨_, rfl, h1⟩
  · repeat (first | with_reducible refine w_slot rfl ?_ | with_reducible refine w_slot (by with_unfolding_all rfl) ?_ | with_reducible refine w_lc ?_ | with_reducible refine w_c ?_ | with_reducible refine w_bin ?_ | with_reducible refine w_un ?_ | with_reducible refine w_tup ?_ | with_reducible refine w_lst ?_ | with_reducible refine w_lstC ?_ | with_reducible refine w_call ?_ | with_reducible refine w_nil ?_ | with_reducible refine w_cons ?_ | with_reducible refine w_if ?_ | with_reducible refine w_val ?_ | with_reducible refine w_not ?_ | with_reducible refine w_and ?_ | with_reducible refine w_or ?_ | with_reducible refine w_xand ?_ | with_reducible refine w_xor ?_ | with_reducible refine w_no ?_ | with_reducible refine w_so ?_ | with_reducible refine w_sl ?_ | with_reducible refine w_meth ?_ | with_reducible refine w_iseq ?_ | with_reducible refine w_range1 ?_ | with_reducible refine f_seq ?_ | with_reducible refine f_set ?_ | with_reducible refine f_drop ?_ | with_reducible refine f_ret ?_ | with_reducible refine f_if ?_ | with_reducible refine f_nil ?_ | with_reducible refine f_par2 ?_ | with_reducible refine f_put ?_ | with_reducible refine f_asg ?_ | refine z_add _ _ ?_ | refine z_sub _ _ ?_ | refine z_lt _ _ ?_ | refine z_le _ _ ?_ | refine z_gt _ _ ?_ | refine z_ge _ _ ?_ | refine z_eq _ _ ?_ | refine z_eqS _ _ ?_ | refine z_neS _ _ ?_ | refine z_slT _ _ _ ?_ | refine z_slL _ _ _ ?_ | refine z_lenL _ ?_ | refine z_lenT _ ?_ | refine z_tupL _ ?_ | refine z_lstT _ ?_)
    exact w_some_table h1 M b0 b1 fun ds S2 f1 f2 h2 => fin_sp h h2 (q _ _ f1 f2 h2)
  · repeat (first | with_reducible refine w_slot rfl ?_ | with_reducible refine w_slot (by with_unfolding_all rfl) ?_ | with_reducible refine w_lc ?_ | with_reducible refine w_c ?_ | with_reducible refine w_bin ?_ | with_reducible refine w_un ?_ | with_reducible refine w_tup ?_ | with_reducible refine w_lst ?_ | with_reducible refine w_lstC ?_ | with_reducible refine w_call ?_ | with_reducible refine w_nil ?_ | with_reducible refine w_cons ?_ | with_reducible refine w_if ?_ | with_reducible refine w_val ?_ | with_reducible refine w_not ?_ | with_reducible refine w_and ?_ | with_reducible refine w_or ?_ | with_reducible refine w_xand ?_ | with_reducible refine w_xor ?_ | with_reducible refine w_no ?_ | with_reducible refine w_so ?_ | with_reducible refine w_sl ?_ | with_reducible refine w_meth ?_ | with_reducible refine w_iseq ?_ | with_reducible refine w_range1 ?_ | with_reducible refine f_seq ?_ | with_reducible refine f_set ?_ | with_reducible refine f_drop ?_ | with_reducible refine f_ret ?_ | with_reducible refine f_if ?_ | with_reducible refine f_nil ?_ | with_reducible refine f_par2 ?_ | with_reducible refine f_put ?_ | with_reducible refine f_asg ?_ | refine z_add _ _ ?_ | refine z_sub _ _ ?_ | refine z_lt _ _ ?_ | refine z_le _ _ ?_ | refine z_gt _ _ ?_ | refine z_ge _ _ ?_ | refine z_eq _ _ ?_ | refine z_eqS _ _ ?_ | refine z_neS _ _ ?_ | refine z_slT _ _ _ ?_ | refine z_slL _ _ _ ?_ | refine z_lenL _ ?_ | refine z_lenT _ ?_ | refine z_tupL _ ?_ | refine z_lstT _ ?_)
    exact w_falling h1 M b0 b1 fun ds S2 f1 f2 h2 => fin_sp h h2 (q _ _ f1 f2 h2)
end
end Lw
end
section
set_option Elab.async false
set_option linter.all false
set_option maxRecDepth 100000
set_option maxHeartbeats 1000000
namespace Lw
open PySem NB
/-! looks that waits cut -/
def turnD : PyData → PyData
  | .tuple xs => .tuple (cutL xs (some ((xs.length : Int) / 2)) none ++ cutL xs none (some ((xs.length : Int) / 2)))
  | d => d
theorem turnD_tup (r : List Int) : turnD (tup r) = tup (turnR r) := by
  show PyData.tuple (cutL (r.map PyData.int) (some (((r.map PyData.int).length : Int) / 2)) none ++ cutL (r.map PyData.int) none (some (((r.map PyData.int).length : Int) / 2))) = _
  rw [turn_map]
  rfl
def cutD (ws : List PyData) : PyData → Bool
  | .tuple [.int s, .int t, o] => if s = 1 ∧ t = 0 then ws.any fun e => PyData.eqv e o else if s = 0 ∧ t = 1 then ws.any fun e => PyData.eqv e (turnD o) else false
  | _ => false
section
variable {n : Nat} {k : Nat} {m : Int} {S : Sto} {Q : Val → Sto → Prop}
theorem z_div2 {a : Int} {q0 : Val → Prop} (q : q0 (.dat (.int (a / 2)))) : ∃ z, lift2 dFdiv S (.dat (.int a)) (.dat (.int 2)) = some z ∧ q0 z := z_fdiv _ _ ⟨by decide, by decide⟩ q
theorem w_half0 {xs : List PyData} (q : Q (.dat (.tuple (cutL xs none (some ((xs.length : Int) / 2))))) S) : okR (fns T ds (n + 1) "_law_half" [.dat (.tuple xs), .dat (.int 0)] S) Q := by
  rw [f_law_half]
  refine w_fn rfl ?_
  repeat (first | with_reducible refine w_slot rfl ?_ | with_reducible refine w_slot (by with_unfolding_all rfl) ?_ | with_reducible refine w_lc ?_ | with_reducible refine w_c ?_ | with_reducible refine w_bin ?_ | with_reducible refine w_un ?_ | with_reducible refine w_tup ?_ | with_reducible refine w_lst ?_ | with_reducible refine w_lstC ?_ | with_reducible refine w_call ?_ | with_reducible refine w_nil ?_ | with_reducible refine w_cons ?_ | with_reducible refine w_if ?_ | with_reducible refine w_val ?_ | with_reducible refine w_not ?_ | with_reducible refine w_and ?_ | with_reducible refine w_or ?_ | with_reducible refine w_xand ?_ | with_reducible refine w_xor ?_ | with_reducible refine w_no ?_ | with_reducible refine w_so ?_ | with_reducible refine w_sl ?_ | with_reducible refine w_meth ?_ | with_reducible refine w_iseq ?_ | with_reducible refine w_range1 ?_ | with_reducible refine f_seq ?_ | with_reducible refine f_set ?_ | with_reducible refine f_drop ?_ | with_reducible refine f_ret ?_ | with_reducible refine f_if ?_ | with_reducible refine f_nil ?_ | with_reducible refine f_par2 ?_ | with_reducible refine f_put ?_ | with_reducible refine f_asg ?_ | refine z_add _ _ ?_ | refine z_sub _ _ ?_ | refine z_lt _ _ ?_ | refine z_le _ _ ?_ | refine z_gt _ _ ?_ | refine z_ge _ _ ?_ | refine z_eq _ _ ?_ | refine z_eqS _ _ ?_ | refine z_neS _ _ ?_ | refine z_slT _ _ _ ?_ | refine z_slL _ _ _ ?_ | refine z_lenL _ ?_ | refine z_lenT _ ?_ | refine z_tupL _ ?_ | refine z_lstT _ ?_)
  refine z_div2 ?_
  repeat (first | with_reducible refine w_slot rfl ?_ | with_reducible refine w_slot (by with_unfolding_all rfl) ?_ | with_reducible refine w_lc ?_ | with_reducible refine w_c ?_ | with_reducible refine w_bin ?_ | with_reducible refine w_un ?_ | with_reducible refine w_tup ?_ | with_reducible refine w_lst ?_ | with_reducible refine w_lstC ?_ | with_reducible refine w_call ?_ | with_reducible refine w_nil ?_ | with_reducible refine w_cons ?_ | with_reducible refine w_if ?_ | with_reducible refine w_val ?_ | with_reducible refine w_not ?_ | with_reducible refine w_and ?_ | with_reducible refine w_or ?_ | with_reducible refine w_xand ?_ | with_reducible refine w_xor ?_ | with_reducible refine w_no ?_ | with_reducible refine w_so ?_ | with_reducible refine w_sl ?_ | with_reducible refine w_meth ?_ | with_reducible refine w_iseq ?_ | with_reducible refine w_range1 ?_ | with_reducible refine f_seq ?_ | with_reducible refine f_set ?_ | with_reducible refine f_drop ?_ | with_reducible refine f_ret ?_ | with_reducible refine f_if ?_ | with_reducible refine f_nil ?_ | with_reducible refine f_par2 ?_ | with_reducible refine f_put ?_ | with_reducible refine f_asg ?_ | refine z_add _ _ ?_ | refine z_sub _ _ ?_ | refine z_lt _ _ ?_ | refine z_le _ _ ?_ | refine z_gt _ _ ?_ | refine z_ge _ _ ?_ | refine z_eq _ _ ?_ | refine z_eqS _ _ ?_ | refine z_neS _ _ ?_ | refine z_slT _ _ _ ?_ | refine z_slL _ _ _ ?_ | refine z_lenL _ ?_ | refine z_lenT _ ?_ | refine z_tupL _ ?_ | refine z_lstT _ ?_)
  refine ⟨_, rfl, fun _ => ?_, fun z => (by cases z)⟩
  repeat (first | with_reducible refine w_slot rfl ?_ | with_reducible refine w_slot (by with_unfolding_all rfl) ?_ | with_reducible refine w_lc ?_ | with_reducible refine w_c ?_ | with_reducible refine w_bin ?_ | with_reducible refine w_un ?_ | with_reducible refine w_tup ?_ | with_reducible refine w_lst ?_ | with_reducible refine w_lstC ?_ | with_reducible refine w_call ?_ | with_reducible refine w_nil ?_ | with_reducible refine w_cons ?_ | with_reducible refine w_if ?_ | with_reducible refine w_val ?_ | with_reducible refine w_not ?_ | with_reducible refine w_and ?_ | with_reducible refine w_or ?_ | with_reducible refine w_xand ?_ | with_reducible refine w_xor ?_ | with_reducible refine w_no ?_ | with_reducible refine w_so ?_ | with_reducible refine w_sl ?_ | with_reducible refine w_meth ?_ | with_reducible refine w_iseq ?_ | with_reducible refine w_range1 ?_ | with_reducible refine f_seq ?_ | with_reducible refine f_set ?_ | with_reducible refine f_drop ?_ | with_reducible refine f_ret ?_ | with_reducible refine f_if ?_ | with_reducible refine f_nil ?_ | with_reducible refine f_par2 ?_ | with_reducible refine f_put ?_ | with_reducible refine f_asg ?_ | refine z_add _ _ ?_ | refine z_sub _ _ ?_ | refine z_lt _ _ ?_ | refine z_le _ _ ?_ | refine z_gt _ _ ?_ | refine z_ge _ _ ?_ | refine z_eq _ _ ?_ | refine z_eqS _ _ ?_ | refine z_neS _ _ ?_ | refine z_slT _ _ _ ?_ | refine z_slL _ _ _ ?_ | refine z_lenL _ ?_ | refine z_lenT _ ?_ | refine z_tupL _ ?_ | refine z_lstT _ ?_)
  refine ⟨_, rfl, ?_⟩
  refine z_slT _ _ _ ?_
  exact fin_same q
theorem w_half1 {xs : List PyData} (q : Q (.dat (.tuple (cutL xs (some ((xs.length : Int) / 2)) none))) S) : okR (fns T ds (n + 1) "_law_half" [.dat (.tuple xs), .dat (.int 1)] S) Q := by
  rw [f_law_half]
  refine w_fn rfl ?_
  repeat (first | with_reducible refine w_slot rfl ?_ | with_reducible refine w_slot (by with_unfolding_all rfl) ?_ | with_reducible refine w_lc ?_ | with_reducible refine w_c ?_ | with_reducible refine w_bin ?_ | with_reducible refine w_un ?_ | with_reducible refine w_tup ?_ | with_reducible refine w_lst ?_ | with_reducible refine w_lstC ?_ | with_reducible refine w_call ?_ | with_reducible refine w_nil ?_ | with_reducible refine w_cons ?_ | with_reducible refine w_if ?_ | with_reducible refine w_val ?_ | with_reducible refine w_not ?_ | with_reducible refine w_and ?_ | with_reducible refine w_or ?_ | with_reducible refine w_xand ?_ | with_reducible refine w_xor ?_ | with_reducible refine w_no ?_ | with_reducible refine w_so ?_ | with_reducible refine w_sl ?_ | with_reducible refine w_meth ?_ | with_reducible refine w_iseq ?_ | with_reducible refine w_range1 ?_ | with_reducible refine f_seq ?_ | with_reducible refine f_set ?_ | with_reducible refine f_drop ?_ | with_reducible refine f_ret ?_ | with_reducible refine f_if ?_ | with_reducible refine f_nil ?_ | with_reducible refine f_par2 ?_ | with_reducible refine f_put ?_ | with_reducible refine f_asg ?_ | refine z_add _ _ ?_ | refine z_sub _ _ ?_ | refine z_lt _ _ ?_ | refine z_le _ _ ?_ | refine z_gt _ _ ?_ | refine z_ge _ _ ?_ | refine z_eq _ _ ?_ | refine z_eqS _ _ ?_ | refine z_neS _ _ ?_ | refine z_slT _ _ _ ?_ | refine z_slL _ _ _ ?_ | refine z_lenL _ ?_ | refine z_lenT _ ?_ | refine z_tupL _ ?_ | refine z_lstT _ ?_)
  refine z_div2 ?_
  repeat (first | with_reducible refine w_slot rfl ?_ | with_reducible refine w_slot (by with_unfolding_all rfl) ?_ | with_reducible refine w_lc ?_ | with_reducible refine w_c ?_ | with_reducible refine w_bin ?_ | with_reducible refine w_un ?_ | with_reducible refine w_tup ?_ | with_reducible refine w_lst ?_ | with_reducible refine w_lstC ?_ | with_reducible refine w_call ?_ | with_reducible refine w_nil ?_ | with_reducible refine w_cons ?_ | with_reducible refine w_if ?_ | with_reducible refine w_val ?_ | with_reducible refine w_not ?_ | with_reducible refine w_and ?_ | with_reducible refine w_or ?_ | with_reducible refine w_xand ?_ | with_reducible refine w_xor ?_ | with_reducible refine w_no ?_ | with_reducible refine w_so ?_ | with_reducible refine w_sl ?_ | with_reducible refine w_meth ?_ | with_reducible refine w_iseq ?_ | with_reducible refine w_range1 ?_ | with_reducible refine f_seq ?_ | with_reducible refine f_set ?_ | with_reducible refine f_drop ?_ | with_reducible refine f_ret ?_ | with_reducible refine f_if ?_ | with_reducible refine f_nil ?_ | with_reducible refine f_par2 ?_ | with_reducible refine f_put ?_ | with_reducible refine f_asg ?_ | refine z_add _ _ ?_ | refine z_sub _ _ ?_ | refine z_lt _ _ ?_ | refine z_le _ _ ?_ | refine z_gt _ _ ?_ | refine z_ge _ _ ?_ | refine z_eq _ _ ?_ | refine z_eqS _ _ ?_ | refine z_neS _ _ ?_ | refine z_slT _ _ _ ?_ | refine z_slL _ _ _ ?_ | refine z_lenL _ ?_ | refine z_lenT _ ?_ | refine z_tupL _ ?_ | refine z_lstT _ ?_)
  refine ⟨_, rfl, fun z => (by cases z), fun _ => ?_⟩
  repeat (first | with_reducible refine w_slot rfl ?_ | with_reducible refine w_slot (by with_unfolding_all rfl) ?_ | with_reducible refine w_lc ?_ | with_reducible refine w_c ?_ | with_reducible refine w_bin ?_ | with_reducible refine w_un ?_ | with_reducible refine w_tup ?_ | with_reducible refine w_lst ?_ | with_reducible refine w_lstC ?_ | with_reducible refine w_call ?_ | with_reducible refine w_nil ?_ | with_reducible refine w_cons ?_ | with_reducible refine w_if ?_ | with_reducible refine w_val ?_ | with_reducible refine w_not ?_ | with_reducible refine w_and ?_ | with_reducible refine w_or ?_ | with_reducible refine w_xand ?_ | with_reducible refine w_xor ?_ | with_reducible refine w_no ?_ | with_reducible refine w_so ?_ | with_reducible refine w_sl ?_ | with_reducible refine w_meth ?_ | with_reducible refine w_iseq ?_ | with_reducible refine w_range1 ?_ | with_reducible refine f_seq ?_ | with_reducible refine f_set ?_ | with_reducible refine f_drop ?_ | with_reducible refine f_ret ?_ | with_reducible refine f_if ?_ | with_reducible refine f_nil ?_ | with_reducible refine f_par2 ?_ | with_reducible refine f_put ?_ | with_reducible refine f_asg ?_ | refine z_add _ _ ?_ | refine z_sub _ _ ?_ | refine z_lt _ _ ?_ | refine z_le _ _ ?_ | refine z_gt _ _ ?_ | refine z_ge _ _ ?_ | refine z_eq _ _ ?_ | refine z_eqS _ _ ?_ | refine z_neS _ _ ?_ | refine z_slT _ _ _ ?_ | refine z_slL _ _ _ ?_ | refine z_lenL _ ?_ | refine z_lenT _ ?_ | refine z_tupL _ ?_ | refine z_lstT _ ?_)
  refine ⟨_, rfl, ?_⟩
  repeat (first | with_reducible refine w_slot rfl ?_ | with_reducible refine w_slot (by with_unfolding_all rfl) ?_ | with_reducible refine w_lc ?_ | with_reducible refine w_c ?_ | with_reducible refine w_bin ?_ | with_reducible refine w_un ?_ | with_reducible refine w_tup ?_ | with_reducible refine w_lst ?_ | with_reducible refine w_lstC ?_ | with_reducible refine w_call ?_ | with_reducible refine w_nil ?_ | with_reducible refine w_cons ?_ | with_reducible refine w_if ?_ | with_reducible refine w_val ?_ | with_reducible refine w_not ?_ | with_reducible refine w_and ?_ | with_reducible refine w_or ?_ | with_reducible refine w_xand ?_ | with_reducible refine w_xor ?_ | with_reducible refine w_no ?_ | with_reducible refine w_so ?_ | with_reducible refine w_sl ?_ | with_reducible refine w_meth ?_ | with_reducible refine w_iseq ?_ | with_reducible refine w_range1 ?_ | with_reducible refine f_seq ?_ | with_reducible refine f_set ?_ | with_reducible refine f_drop ?_ | with_reducible refine f_ret ?_ | with_reducible refine f_if ?_ | with_reducible refine f_nil ?_ | with_reducible refine f_par2 ?_ | with_reducible refine f_put ?_ | with_reducible refine f_asg ?_ | refine z_add _ _ ?_ | refine z_sub _ _ ?_ | refine z_lt _ _ ?_ | refine z_le _ _ ?_ | refine z_gt _ _ ?_ | refine z_ge _ _ ?_ | refine z_eq _ _ ?_ | refine z_eqS _ _ ?_ | refine z_neS _ _ ?_ | refine z_slT _ _ _ ?_ | refine z_slL _ _ _ ?_ | refine z_lenL _ ?_ | refine z_lenT _ ?_ | refine z_tupL _ ?_ | refine z_lstT _ ?_)
  exact fin_same q
theorem w_halves {xs : List PyData} (q : Q (.dat (.tuple [.tuple (cutL xs none (some ((xs.length : Int) / 2))), .tuple (cutL xs (some ((xs.length : Int) / 2)) none)])) S) : okR (fns T ds (n + 1) "halves" [.dat (.tuple xs)] S) Q := by
  rw [f_halves]
  refine w_fn rfl ?_
  repeat (first | with_reducible refine w_slot rfl ?_ | with_reducible refine w_slot (by with_unfolding_all rfl) ?_ | with_reducible refine w_lc ?_ | with_reducible refine w_c ?_ | with_reducible refine w_bin ?_ | with_reducible refine w_un ?_ | with_reducible refine w_tup ?_ | with_reducible refine w_lst ?_ | with_reducible refine w_lstC ?_ | with_reducible refine w_call ?_ | with_reducible refine w_nil ?_ | with_reducible refine w_cons ?_ | with_reducible refine w_if ?_ | with_reducible refine w_val ?_ | with_reducible refine w_not ?_ | with_reducible refine w_and ?_ | with_reducible refine w_or ?_ | with_reducible refine w_xand ?_ | with_reducible refine w_xor ?_ | with_reducible refine w_no ?_ | with_reducible refine w_so ?_ | with_reducible refine w_sl ?_ | with_reducible refine w_meth ?_ | with_reducible refine w_iseq ?_ | with_reducible refine w_range1 ?_ | with_reducible refine f_seq ?_ | with_reducible refine f_set ?_ | with_reducible refine f_drop ?_ | with_reducible refine f_ret ?_ | with_reducible refine f_if ?_ | with_reducible refine f_nil ?_ | with_reducible refine f_par2 ?_ | with_reducible refine f_put ?_ | with_reducible refine f_asg ?_ | refine z_add _ _ ?_ | refine z_sub _ _ ?_ | refine z_lt _ _ ?_ | refine z_le _ _ ?_ | refine z_gt _ _ ?_ | refine z_ge _ _ ?_ | refine z_eq _ _ ?_ | refine z_eqS _ _ ?_ | refine z_neS _ _ ?_ | refine z_slT _ _ _ ?_ | refine z_slL _ _ _ ?_ | refine z_lenL _ ?_ | refine z_lenT _ ?_ | refine z_tupL _ ?_ | refine z_lstT _ ?_)
  refine z_div2 ?_
  repeat (first | with_reducible refine w_slot rfl ?_ | with_reducible refine w_slot (by with_unfolding_all rfl) ?_ | with_reducible refine w_lc ?_ | with_reducible refine w_c ?_ | with_reducible refine w_bin ?_ | with_reducible refine w_un ?_ | with_reducible refine w_tup ?_ | with_reducible refine w_lst ?_ | with_reducible refine w_lstC ?_ | with_reducible refine w_call ?_ | with_reducible refine w_nil ?_ | with_reducible refine w_cons ?_ | with_reducible refine w_if ?_ | with_reducible refine w_val ?_ | with_reducible refine w_not ?_ | with_reducible refine w_and ?_ | with_reducible refine w_or ?_ | with_reducible refine w_xand ?_ | with_reducible refine w_xor ?_ | with_reducible refine w_no ?_ | with_reducible refine w_so ?_ | with_reducible refine w_sl ?_ | with_reducible refine w_meth ?_ | with_reducible refine w_iseq ?_ | with_reducible refine w_range1 ?_ | with_reducible refine f_seq ?_ | with_reducible refine f_set ?_ | with_reducible refine f_drop ?_ | with_reducible refine f_ret ?_ | with_reducible refine f_if ?_ | with_reducible refine f_nil ?_ | with_reducible refine f_par2 ?_ | with_reducible refine f_put ?_ | with_reducible refine f_asg ?_ | refine z_add _ _ ?_ | refine z_sub _ _ ?_ | refine z_lt _ _ ?_ | refine z_le _ _ ?_ | refine z_gt _ _ ?_ | refine z_ge _ _ ?_ | refine z_eq _ _ ?_ | refine z_eqS _ _ ?_ | refine z_neS _ _ ?_ | refine z_slT _ _ _ ?_ | refine z_slL _ _ _ ?_ | refine z_lenL _ ?_ | refine z_lenT _ ?_ | refine z_tupL _ ?_ | refine z_lstT _ ?_)
  refine ⟨_, rfl, ?_⟩
  refine z_slT _ _ _ ?_
  repeat (first | with_reducible refine w_slot rfl ?_ | with_reducible refine w_slot (by with_unfolding_all rfl) ?_ | with_reducible refine w_lc ?_ | with_reducible refine w_c ?_ | with_reducible refine w_bin ?_ | with_reducible refine w_un ?_ | with_reducible refine w_tup ?_ | with_reducible refine w_lst ?_ | with_reducible refine w_lstC ?_ | with_reducible refine w_call ?_ | with_reducible refine w_nil ?_ | with_reducible refine w_cons ?_ | with_reducible refine w_if ?_ | with_reducible refine w_val ?_ | with_reducible refine w_not ?_ | with_reducible refine w_and ?_ | with_reducible refine w_or ?_ | with_reducible refine w_xand ?_ | with_reducible refine w_xor ?_ | with_reducible refine w_no ?_ | with_reducible refine w_so ?_ | with_reducible refine w_sl ?_ | with_reducible refine w_meth ?_ | with_reducible refine w_iseq ?_ | with_reducible refine w_range1 ?_ | with_reducible refine f_seq ?_ | with_reducible refine f_set ?_ | with_reducible refine f_drop ?_ | with_reducible refine f_ret ?_ | with_reducible refine f_if ?_ | with_reducible refine f_nil ?_ | with_reducible refine f_par2 ?_ | with_reducible refine f_put ?_ | with_reducible refine f_asg ?_ | refine z_add _ _ ?_ | refine z_sub _ _ ?_ | refine z_lt _ _ ?_ | refine z_le _ _ ?_ | refine z_gt _ _ ?_ | refine z_ge _ _ ?_ | refine z_eq _ _ ?_ | refine z_eqS _ _ ?_ | refine z_neS _ _ ?_ | refine z_slT _ _ _ ?_ | refine z_slL _ _ _ ?_ | refine z_lenL _ ?_ | refine z_lenT _ ?_ | refine z_tupL _ ?_ | refine z_lstT _ ?_)
  refine ⟨_, rfl, ?_⟩
  repeat (first | with_reducible refine w_slot rfl ?_ | with_reducible refine w_slot (by with_unfolding_all rfl) ?_ | with_reducible refine w_lc ?_ | with_reducible refine w_c ?_ | with_reducible refine w_bin ?_ | with_reducible refine w_un ?_ | with_reducible refine w_tup ?_ | with_reducible refine w_lst ?_ | with_reducible refine w_lstC ?_ | with_reducible refine w_call ?_ | with_reducible refine w_nil ?_ | with_reducible refine w_cons ?_ | with_reducible refine w_if ?_ | with_reducible refine w_val ?_ | with_reducible refine w_not ?_ | with_reducible refine w_and ?_ | with_reducible refine w_or ?_ | with_reducible refine w_xand ?_ | with_reducible refine w_xor ?_ | with_reducible refine w_no ?_ | with_reducible refine w_so ?_ | with_reducible refine w_sl ?_ | with_reducible refine w_meth ?_ | with_reducible refine w_iseq ?_ | with_reducible refine w_range1 ?_ | with_reducible refine f_seq ?_ | with_reducible refine f_set ?_ | with_reducible refine f_drop ?_ | with_reducible refine f_ret ?_ | with_reducible refine f_if ?_ | with_reducible refine f_nil ?_ | with_reducible refine f_par2 ?_ | with_reducible refine f_put ?_ | with_reducible refine f_asg ?_ | refine z_add _ _ ?_ | refine z_sub _ _ ?_ | refine z_lt _ _ ?_ | refine z_le _ _ ?_ | refine z_gt _ _ ?_ | refine z_ge _ _ ?_ | refine z_eq _ _ ?_ | refine z_eqS _ _ ?_ | refine z_neS _ _ ?_ | refine z_slT _ _ _ ?_ | refine z_slL _ _ _ ?_ | refine z_lenL _ ?_ | refine z_lenT _ ?_ | refine z_tupL _ ?_ | refine z_lstT _ ?_)
  exact ⟨[.tuple (cutL xs none (some ((xs.length : Int) / 2))), .tuple (cutL xs (some ((xs.length : Int) / 2)) none)], rfl, fin_same q⟩
theorem w_turned {xs : List PyData} (hl : xs.length ≤ 1000) (q : Q (.dat (turnD (.tuple xs))) S) : okR (fns T ds (n + 2) "turned" [.dat (.tuple xs)] S) Q := by
  have la := cutL_len xs (some ((xs.length : Int) / 2)) none
  have lb := cutL_len xs none (some ((xs.length : Int) / 2))
  rw [f_turned]
  refine w_fn rfl ?_
  repeat (first | with_reducible refine w_slot rfl ?_ | with_reducible refine w_slot (by with_unfolding_all rfl) ?_ | with_reducible refine w_lc ?_ | with_reducible refine w_c ?_ | with_reducible refine w_bin ?_ | with_reducible refine w_un ?_ | with_reducible refine w_tup ?_ | with_reducible refine w_lst ?_ | with_reducible refine w_lstC ?_ | with_reducible refine w_call ?_ | with_reducible refine w_nil ?_ | with_reducible refine w_cons ?_ | with_reducible refine w_if ?_ | with_reducible refine w_val ?_ | with_reducible refine w_not ?_ | with_reducible refine w_and ?_ | with_reducible refine w_or ?_ | with_reducible refine w_xand ?_ | with_reducible refine w_xor ?_ | with_reducible refine w_no ?_ | with_reducible refine w_so ?_ | with_reducible refine w_sl ?_ | with_reducible refine w_meth ?_ | with_reducible refine w_iseq ?_ | with_reducible refine w_range1 ?_ | with_reducible refine f_seq ?_ | with_reducible refine f_set ?_ | with_reducible refine f_drop ?_ | with_reducible refine f_ret ?_ | with_reducible refine f_if ?_ | with_reducible refine f_nil ?_ | with_reducible refine f_par2 ?_ | with_reducible refine f_put ?_ | with_reducible refine f_asg ?_ | refine z_add _ _ ?_ | refine z_sub _ _ ?_ | refine z_lt _ _ ?_ | refine z_le _ _ ?_ | refine z_gt _ _ ?_ | refine z_ge _ _ ?_ | refine z_eq _ _ ?_ | refine z_eqS _ _ ?_ | refine z_neS _ _ ?_ | refine z_slT _ _ _ ?_ | refine z_slL _ _ _ ?_ | refine z_lenL _ ?_ | refine z_lenT _ ?_ | refine z_tupL _ ?_ | refine z_lstT _ ?_)
  refine w_halves ?_
  refine ⟨_, rfl, ?_⟩
  repeat (first | with_reducible refine w_slot rfl ?_ | with_reducible refine w_slot (by with_unfolding_all rfl) ?_ | with_reducible refine w_lc ?_ | with_reducible refine w_c ?_ | with_reducible refine w_bin ?_ | with_reducible refine w_un ?_ | with_reducible refine w_tup ?_ | with_reducible refine w_lst ?_ | with_reducible refine w_lstC ?_ | with_reducible refine w_call ?_ | with_reducible refine w_nil ?_ | with_reducible refine w_cons ?_ | with_reducible refine w_if ?_ | with_reducible refine w_val ?_ | with_reducible refine w_not ?_ | with_reducible refine w_and ?_ | with_reducible refine w_or ?_ | with_reducible refine w_xand ?_ | with_reducible refine w_xor ?_ | with_reducible refine w_no ?_ | with_reducible refine w_so ?_ | with_reducible refine w_sl ?_ | with_reducible refine w_meth ?_ | with_reducible refine w_iseq ?_ | with_reducible refine w_range1 ?_ | with_reducible refine f_seq ?_ | with_reducible refine f_set ?_ | with_reducible refine f_drop ?_ | with_reducible refine f_ret ?_ | with_reducible refine f_if ?_ | with_reducible refine f_nil ?_ | with_reducible refine f_par2 ?_ | with_reducible refine f_put ?_ | with_reducible refine f_asg ?_ | refine z_add _ _ ?_ | refine z_sub _ _ ?_ | refine z_lt _ _ ?_ | refine z_le _ _ ?_ | refine z_gt _ _ ?_ | refine z_ge _ _ ?_ | refine z_eq _ _ ?_ | refine z_eqS _ _ ?_ | refine z_neS _ _ ?_ | refine z_slT _ _ _ ?_ | refine z_slL _ _ _ ?_ | refine z_lenL _ ?_ | refine z_lenT _ ?_ | refine z_tupL _ ?_ | refine z_lstT _ ?_)
  refine z_addT _ _ (by rw [sizeLine_eq]; omega) ?_
  exact fin_same q
theorem w_lturned {xs : List PyData} (hl : xs.length ≤ 1000) (q : Q (.dat (turnD (.tuple xs))) S) : okR (fns T ds (n + 2) "_law_turned" [.dat (.tuple xs)] S) Q := by
  have la := cutL_len xs (some ((xs.length : Int) / 2)) none
  have lb := cutL_len xs none (some ((xs.length : Int) / 2))
  rw [f_law_turned]
  refine w_fn rfl ?_
  repeat (first | with_reducible refine w_slot rfl ?_ | with_reducible refine w_slot (by with_unfolding_all rfl) ?_ | with_reducible refine w_lc ?_ | with_reducible refine w_c ?_ | with_reducible refine w_bin ?_ | with_reducible refine w_un ?_ | with_reducible refine w_tup ?_ | with_reducible refine w_lst ?_ | with_reducible refine w_lstC ?_ | with_reducible refine w_call ?_ | with_reducible refine w_nil ?_ | with_reducible refine w_cons ?_ | with_reducible refine w_if ?_ | with_reducible refine w_val ?_ | with_reducible refine w_not ?_ | with_reducible refine w_and ?_ | with_reducible refine w_or ?_ | with_reducible refine w_xand ?_ | with_reducible refine w_xor ?_ | with_reducible refine w_no ?_ | with_reducible refine w_so ?_ | with_reducible refine w_sl ?_ | with_reducible refine w_meth ?_ | with_reducible refine w_iseq ?_ | with_reducible refine w_range1 ?_ | with_reducible refine f_seq ?_ | with_reducible refine f_set ?_ | with_reducible refine f_drop ?_ | with_reducible refine f_ret ?_ | with_reducible refine f_if ?_ | with_reducible refine f_nil ?_ | with_reducible refine f_par2 ?_ | with_reducible refine f_put ?_ | with_reducible refine f_asg ?_ | refine z_add _ _ ?_ | refine z_sub _ _ ?_ | refine z_lt _ _ ?_ | refine z_le _ _ ?_ | refine z_gt _ _ ?_ | refine z_ge _ _ ?_ | refine z_eq _ _ ?_ | refine z_eqS _ _ ?_ | refine z_neS _ _ ?_ | refine z_slT _ _ _ ?_ | refine z_slL _ _ _ ?_ | refine z_lenL _ ?_ | refine z_lenT _ ?_ | refine z_tupL _ ?_ | refine z_lstT _ ?_)
  refine w_half1 ?_
  repeat (first | with_reducible refine w_slot rfl ?_ | with_reducible refine w_slot (by with_unfolding_all rfl) ?_ | with_reducible refine w_lc ?_ | with_reducible refine w_c ?_ | with_reducible refine w_bin ?_ | with_reducible refine w_un ?_ | with_reducible refine w_tup ?_ | with_reducible refine w_lst ?_ | with_reducible refine w_lstC ?_ | with_reducible refine w_call ?_ | with_reducible refine w_nil ?_ | with_reducible refine w_cons ?_ | with_reducible refine w_if ?_ | with_reducible refine w_val ?_ | with_reducible refine w_not ?_ | with_reducible refine w_and ?_ | with_reducible refine w_or ?_ | with_reducible refine w_xand ?_ | with_reducible refine w_xor ?_ | with_reducible refine w_no ?_ | with_reducible refine w_so ?_ | with_reducible refine w_sl ?_ | with_reducible refine w_meth ?_ | with_reducible refine w_iseq ?_ | with_reducible refine w_range1 ?_ | with_reducible refine f_seq ?_ | with_reducible refine f_set ?_ | with_reducible refine f_drop ?_ | with_reducible refine f_ret ?_ | with_reducible refine f_if ?_ | with_reducible refine f_nil ?_ | with_reducible refine f_par2 ?_ | with_reducible refine f_put ?_ | with_reducible refine f_asg ?_ | refine z_add _ _ ?_ | refine z_sub _ _ ?_ | refine z_lt _ _ ?_ | refine z_le _ _ ?_ | refine z_gt _ _ ?_ | refine z_ge _ _ ?_ | refine z_eq _ _ ?_ | refine z_eqS _ _ ?_ | refine z_neS _ _ ?_ | refine z_slT _ _ _ ?_ | refine z_slL _ _ _ ?_ | refine z_lenL _ ?_ | refine z_lenT _ ?_ | refine z_tupL _ ?_ | refine z_lstT _ ?_)
  refine w_half0 ?_
  refine z_addT _ _ (by rw [sizeLine_eq]; omega) ?_
  exact fin_same q
theorem turn_plain {r : List Int} (hr : OrdOk k r) (kk : k = 2 ∨ k = 4) : (turnD (tup r)).plain = true ∧ (turnD (tup r)).depth ≤ 60 := by
  rw [turnD_tup]
  have f := fit_tupI (turnR_ok hr kk) (by rcases kk with e | e <;> omega)
  exact ⟨f.plain, by have := f.dep; omega⟩
theorem w_is_cut {ws : List PyData} {d : PyData} (kk : k = 2 ∨ k = 4) (hw : ∀ e ∈ ws, IsO k e) (hd : IsL k d) (q : Q (.dat (.bool (cutD ws d))) S) : okR (fns T ds (n + 3) "is_cut" [.dat (.tuple ws), .dat d] S) Q := by
  obtain ⟨s, t, r, rfl, hs, ht, hr⟩ := hd
  have h4 : k ≤ 4 := by rcases kk with e | e <;> omega
  have hp : ∀ e ∈ ws, e.plain = true := fun e he => (fitO (hw e he) h4).plain
  have ho := fit_tupI hr h4
  have lr : (r.map PyData.int).length ≤ 1000 := by rw [List.length_map, hr.1]; omega
  have tp := turn_plain hr kk
  have q : Q (.dat (.bool (if s = 1 ∧ t = 0 then ws.any fun e => PyData.eqv e (tup r) else if s = 0 ∧ t = 1 then ws.any fun e => PyData.eqv e (turnD (tup r)) else false))) S := q
  rw [f_is_cut]
  refine w_fn rfl ?_
  by_cases hA : s = 1 ∧ t = 0
  · rw [if_pos hA] at q
    obtain ⟨rfl, rfl⟩ := hA
    refine f_seq (f_if ?_)
    repeat (first | with_reducible refine w_slot rfl ?_ | with_reducible refine w_slot (by with_unfolding_all rfl) ?_ | with_reducible refine w_lc ?_ | with_reducible refine w_c ?_ | with_reducible refine w_bin ?_ | with_reducible refine w_un ?_ | with_reducible refine w_tup ?_ | with_reducible refine w_lst ?_ | with_reducible refine w_lstC ?_ | with_reducible refine w_call ?_ | with_reducible refine w_nil ?_ | with_reducible refine w_cons ?_ | with_reducible refine w_if ?_ | with_reducible refine w_val ?_ | with_reducible refine w_not ?_ | with_reducible refine w_and ?_ | with_reducible refine w_or ?_ | with_reducible refine w_xand ?_ | with_reducible refine w_xor ?_ | with_reducible refine w_no ?_ | with_reducible refine w_so ?_ | with_reducible refine w_sl ?_ | with_reducible refine w_meth ?_ | with_reducible refine w_iseq ?_ | with_reducible refine w_range1 ?_ | with_reducible refine f_seq ?_ | with_reducible refine f_set ?_ | with_reducible refine f_drop ?_ | with_reducible refine f_ret ?_ | with_reducible refine f_if ?_ | with_reducible refine f_nil ?_ | with_reducible refine f_par2 ?_ | with_reducible refine f_put ?_ | with_reducible refine f_asg ?_ | refine z_add _ _ ?_ | refine z_sub _ _ ?_ | refine z_lt _ _ ?_ | refine z_le _ _ ?_ | refine z_gt _ _ ?_ | refine z_ge _ _ ?_ | refine z_eq _ _ ?_ | refine z_eqS _ _ ?_ | refine z_neS _ _ ?_ | refine z_slT _ _ _ ?_ | refine z_slL _ _ _ ?_ | refine z_lenL _ ?_ | refine z_lenT _ ?_ | refine z_tupL _ ?_ | refine z_lstT _ ?_)
    refine z_ixT _ _ rfl ?_
    repeat (first | with_reducible refine w_slot rfl ?_ | with_reducible refine w_slot (by with_unfolding_all rfl) ?_ | with_reducible refine w_lc ?_ | with_reducible refine w_c ?_ | with_reducible refine w_bin ?_ | with_reducible refine w_un ?_ | with_reducible refine w_tup ?_ | with_reducible refine w_lst ?_ | with_reducible refine w_lstC ?_ | with_reducible refine w_call ?_ | with_reducible refine w_nil ?_ | with_reducible refine w_cons ?_ | with_reducible refine w_if ?_ | with_reducible refine w_val ?_ | with_reducible refine w_not ?_ | with_reducible refine w_and ?_ | with_reducible refine w_or ?_ | with_reducible refine w_xand ?_ | with_reducible refine w_xor ?_ | with_reducible refine w_no ?_ | with_reducible refine w_so ?_ | with_reducible refine w_sl ?_ | with_reducible refine w_meth ?_ | with_reducible refine w_iseq ?_ | with_reducible refine w_range1 ?_ | with_reducible refine f_seq ?_ | with_reducible refine f_set ?_ | with_reducible refine f_drop ?_ | with_reducible refine f_ret ?_ | with_reducible refine f_if ?_ | with_reducible refine f_nil ?_ | with_reducible refine f_par2 ?_ | with_reducible refine f_put ?_ | with_reducible refine f_asg ?_ | refine z_add _ _ ?_ | refine z_sub _ _ ?_ | refine z_lt _ _ ?_ | refine z_le _ _ ?_ | refine z_gt _ _ ?_ | refine z_ge _ _ ?_ | refine z_eq _ _ ?_ | refine z_eqS _ _ ?_ | refine z_neS _ _ ?_ | refine z_slT _ _ _ ?_ | refine z_slL _ _ _ ?_ | refine z_lenL _ ?_ | refine z_lenT _ ?_ | refine z_tupL _ ?_ | refine z_lstT _ ?_)
    refine ⟨_, rfl, fun _ => ?_, fun z => (by cases z)⟩
    repeat (first | with_reducible refine w_slot rfl ?_ | with_reducible refine w_slot (by with_unfolding_all rfl) ?_ | with_reducible refine w_lc ?_ | with_reducible refine w_c ?_ | with_reducible refine w_bin ?_ | with_reducible refine w_un ?_ | with_reducible refine w_tup ?_ | with_reducible refine w_lst ?_ | with_reducible refine w_lstC ?_ | with_reducible refine w_call ?_ | with_reducible refine w_nil ?_ | with_reducible refine w_cons ?_ | with_reducible refine w_if ?_ | with_reducible refine w_val ?_ | with_reducible refine w_not ?_ | with_reducible refine w_and ?_ | with_reducible refine w_or ?_ | with_reducible refine w_xand ?_ | with_reducible refine w_xor ?_ | with_reducible refine w_no ?_ | with_reducible refine w_so ?_ | with_reducible refine w_sl ?_ | with_reducible refine w_meth ?_ | with_reducible refine w_iseq ?_ | with_reducible refine w_range1 ?_ | with_reducible refine f_seq ?_ | with_reducible refine f_set ?_ | with_reducible refine f_drop ?_ | with_reducible refine f_ret ?_ | with_reducible refine f_if ?_ | with_reducible refine f_nil ?_ | with_reducible refine f_par2 ?_ | with_reducible refine f_put ?_ | with_reducible refine f_asg ?_ | refine z_add _ _ ?_ | refine z_sub _ _ ?_ | refine z_lt _ _ ?_ | refine z_le _ _ ?_ | refine z_gt _ _ ?_ | refine z_ge _ _ ?_ | refine z_eq _ _ ?_ | refine z_eqS _ _ ?_ | refine z_neS _ _ ?_ | refine z_slT _ _ _ ?_ | refine z_slL _ _ _ ?_ | refine z_lenL _ ?_ | refine z_lenT _ ?_ | refine z_tupL _ ?_ | refine z_lstT _ ?_)
    refine z_ixT _ _ rfl ?_
    repeat (first | with_reducible refine w_slot rfl ?_ | with_reducible refine w_slot (by with_unfolding_all rfl) ?_ | with_reducible refine w_lc ?_ | with_reducible refine w_c ?_ | with_reducible refine w_bin ?_ | with_reducible refine w_un ?_ | with_reducible refine w_tup ?_ | with_reducible refine w_lst ?_ | with_reducible refine w_lstC ?_ | with_reducible refine w_call ?_ | with_reducible refine w_nil ?_ | with_reducible refine w_cons ?_ | with_reducible refine w_if ?_ | with_reducible refine w_val ?_ | with_reducible refine w_not ?_ | with_reducible refine w_and ?_ | with_reducible refine w_or ?_ | with_reducible refine w_xand ?_ | with_reducible refine w_xor ?_ | with_reducible refine w_no ?_ | with_reducible refine w_so ?_ | with_reducible refine w_sl ?_ | with_reducible refine w_meth ?_ | with_reducible refine w_iseq ?_ | with_reducible refine w_range1 ?_ | with_reducible refine f_seq ?_ | with_reducible refine f_set ?_ | with_reducible refine f_drop ?_ | with_reducible refine f_ret ?_ | with_reducible refine f_if ?_ | with_reducible refine f_nil ?_ | with_reducible refine f_par2 ?_ | with_reducible refine f_put ?_ | with_reducible refine f_asg ?_ | refine z_add _ _ ?_ | refine z_sub _ _ ?_ | refine z_lt _ _ ?_ | refine z_le _ _ ?_ | refine z_gt _ _ ?_ | refine z_ge _ _ ?_ | refine z_eq _ _ ?_ | refine z_eqS _ _ ?_ | refine z_neS _ _ ?_ | refine z_slT _ _ _ ?_ | refine z_slL _ _ _ ?_ | refine z_lenL _ ?_ | refine z_lenT _ ?_ | refine z_tupL _ ?_ | refine z_lstT _ ?_)
    refine ⟨_, rfl, fun _ => ?_, fun z => (by cases z)⟩
    repeat (first | with_reducible refine w_slot rfl ?_ | with_reducible refine w_slot (by with_unfolding_all rfl) ?_ | with_reducible refine w_lc ?_ | with_reducible refine w_c ?_ | with_reducible refine w_bin ?_ | with_reducible refine w_un ?_ | with_reducible refine w_tup ?_ | with_reducible refine w_lst ?_ | with_reducible refine w_lstC ?_ | with_reducible refine w_call ?_ | with_reducible refine w_nil ?_ | with_reducible refine w_cons ?_ | with_reducible refine w_if ?_ | with_reducible refine w_val ?_ | with_reducible refine w_not ?_ | with_reducible refine w_and ?_ | with_reducible refine w_or ?_ | with_reducible refine w_xand ?_ | with_reducible refine w_xor ?_ | with_reducible refine w_no ?_ | with_reducible refine w_so ?_ | with_reducible refine w_sl ?_ | with_reducible refine w_meth ?_ | with_reducible refine w_iseq ?_ | with_reducible refine w_range1 ?_ | with_reducible refine f_seq ?_ | with_reducible refine f_set ?_ | with_reducible refine f_drop ?_ | with_reducible refine f_ret ?_ | with_reducible refine f_if ?_ | with_reducible refine f_nil ?_ | with_reducible refine f_par2 ?_ | with_reducible refine f_put ?_ | with_reducible refine f_asg ?_ | refine z_add _ _ ?_ | refine z_sub _ _ ?_ | refine z_lt _ _ ?_ | refine z_le _ _ ?_ | refine z_gt _ _ ?_ | refine z_ge _ _ ?_ | refine z_eq _ _ ?_ | refine z_eqS _ _ ?_ | refine z_neS _ _ ?_ | refine z_slT _ _ _ ?_ | refine z_slL _ _ _ ?_ | refine z_lenL _ ?_ | refine z_lenT _ ?_ | refine z_tupL _ ?_ | refine z_lstT _ ?_)
    refine z_ixT _ _ rfl ?_
    repeat (first | with_reducible refine w_slot rfl ?_ | with_reducible refine w_slot (by with_unfolding_all rfl) ?_ | with_reducible refine w_lc ?_ | with_reducible refine w_c ?_ | with_reducible refine w_bin ?_ | with_reducible refine w_un ?_ | with_reducible refine w_tup ?_ | with_reducible refine w_lst ?_ | with_reducible refine w_lstC ?_ | with_reducible refine w_call ?_ | with_reducible refine w_nil ?_ | with_reducible refine w_cons ?_ | with_reducible refine w_if ?_ | with_reducible refine w_val ?_ | with_reducible refine w_not ?_ | with_reducible refine w_and ?_ | with_reducible refine w_or ?_ | with_reducible refine w_xand ?_ | with_reducible refine w_xor ?_ | with_reducible refine w_no ?_ | with_reducible refine w_so ?_ | with_reducible refine w_sl ?_ | with_reducible refine w_meth ?_ | with_reducible refine w_iseq ?_ | with_reducible refine w_range1 ?_ | with_reducible refine f_seq ?_ | with_reducible refine f_set ?_ | with_reducible refine f_drop ?_ | with_reducible refine f_ret ?_ | with_reducible refine f_if ?_ | with_reducible refine f_nil ?_ | with_reducible refine f_par2 ?_ | with_reducible refine f_put ?_ | with_reducible refine f_asg ?_ | refine z_add _ _ ?_ | refine z_sub _ _ ?_ | refine z_lt _ _ ?_ | refine z_le _ _ ?_ | refine z_gt _ _ ?_ | refine z_ge _ _ ?_ | refine z_eq _ _ ?_ | refine z_eqS _ _ ?_ | refine z_neS _ _ ?_ | refine z_slT _ _ _ ?_ | refine z_slL _ _ _ ?_ | refine z_lenL _ ?_ | refine z_lenT _ ?_ | refine z_tupL _ ?_ | refine z_lstT _ ?_)
    exact z_inT hp ho.plain (by have := ho.dep; omega) (fin_same q)
  rw [if_neg hA] at q
  refine f_seq (f_if (okR_mono (Q := fun c S1 => c = false ∧ S1 = S) ?_ fun c S1 ⟨e1, e2⟩ => ⟨fun z => (by rw [e1] at z; cases z), fun _ => ?_⟩))
  · repeat (first | with_reducible refine w_slot rfl ?_ | with_reducible refine w_slot (by with_unfolding_all rfl) ?_ | with_reducible refine w_lc ?_ | with_reducible refine w_c ?_ | with_reducible refine w_bin ?_ | with_reducible refine w_un ?_ | with_reducible refine w_tup ?_ | with_reducible refine w_lst ?_ | with_reducible refine w_lstC ?_ | with_reducible refine w_call ?_ | with_reducible refine w_nil ?_ | with_reducible refine w_cons ?_ | with_reducible refine w_if ?_ | with_reducible refine w_val ?_ | with_reducible refine w_not ?_ | with_reducible refine w_and ?_ | with_reducible refine w_or ?_ | with_reducible refine w_xand ?_ | with_reducible refine w_xor ?_ | with_reducible refine w_no ?_ | with_reducible refine w_so ?_ | with_reducible refine w_sl ?_ | with_reducible refine w_meth ?_ | with_reducible refine w_iseq ?_ | with_reducible refine w_range1 ?_ | with_reducible refine f_seq ?_ | with_reducible refine f_set ?_ | with_reducible refine f_drop ?_ | with_reducible refine f_ret ?_ | with_reducible refine f_if ?_ | with_reducible refine f_nil ?_ | with_reducible refine f_par2 ?_ | with_reducible refine f_put ?_ | with_reducible refine f_asg ?_ | refine z_add _ _ ?_ | refine z_sub _ _ ?_ | refine z_lt _ _ ?_ | refine z_le _ _ ?_ | refine z_gt _ _ ?_ | refine z_ge _ _ ?_ | refine z_eq _ _ ?_ | refine z_eqS _ _ ?_ | refine z_neS _ _ ?_ | refine z_slT _ _ _ ?_ | refine z_slL _ _ _ ?_ | refine z_lenL _ ?_ | refine z_lenT _ ?_ | refine z_tupL _ ?_ | refine z_lstT _ ?_)
    refine z_ixT _ _ rfl ?_
    repeat (first | with_reducible refine w_slot rfl ?_ | with_reducible refine w_slot (by with_unfolding_all rfl) ?_ | with_reducible refine w_lc ?_ | with_reducible refine w_c ?_ | with_reducible refine w_bin ?_ | with_reducible refine w_un ?_ | with_reducible refine w_tup ?_ | with_reducible refine w_lst ?_ | with_reducible refine w_lstC ?_ | with_reducible refine w_call ?_ | with_reducible refine w_nil ?_ | with_reducible refine w_cons ?_ | with_reducible refine w_if ?_ | with_reducible refine w_val ?_ | with_reducible refine w_not ?_ | with_reducible refine w_and ?_ | with_reducible refine w_or ?_ | with_reducible refine w_xand ?_ | with_reducible refine w_xor ?_ | with_reducible refine w_no ?_ | with_reducible refine w_so ?_ | with_reducible refine w_sl ?_ | with_reducible refine w_meth ?_ | with_reducible refine w_iseq ?_ | with_reducible refine w_range1 ?_ | with_reducible refine f_seq ?_ | with_reducible refine f_set ?_ | with_reducible refine f_drop ?_ | with_reducible refine f_ret ?_ | with_reducible refine f_if ?_ | with_reducible refine f_nil ?_ | with_reducible refine f_par2 ?_ | with_reducible refine f_put ?_ | with_reducible refine f_asg ?_ | refine z_add _ _ ?_ | refine z_sub _ _ ?_ | refine z_lt _ _ ?_ | refine z_le _ _ ?_ | refine z_gt _ _ ?_ | refine z_ge _ _ ?_ | refine z_eq _ _ ?_ | refine z_eqS _ _ ?_ | refine z_neS _ _ ?_ | refine z_slT _ _ _ ?_ | refine z_slL _ _ _ ?_ | refine z_lenL _ ?_ | refine z_lenT _ ?_ | refine z_tupL _ ?_ | refine z_lstT _ ?_)
    refine ⟨_, rfl, fun c1 => ?_, fun _ => ⟨rfl, rfl⟩⟩
    repeat (first | with_reducible refine w_slot rfl ?_ | with_reducible refine w_slot (by with_unfolding_all rfl) ?_ | with_reducible refine w_lc ?_ | with_reducible refine w_c ?_ | with_reducible refine w_bin ?_ | with_reducible refine w_un ?_ | with_reducible refine w_tup ?_ | with_reducible refine w_lst ?_ | with_reducible refine w_lstC ?_ | with_reducible refine w_call ?_ | with_reducible refine w_nil ?_ | with_reducible refine w_cons ?_ | with_reducible refine w_if ?_ | with_reducible refine w_val ?_ | with_reducible refine w_not ?_ | with_reducible refine w_and ?_ | with_reducible refine w_or ?_ | with_reducible refine w_xand ?_ | with_reducible refine w_xor ?_ | with_reducible refine w_no ?_ | with_reducible refine w_so ?_ | with_reducible refine w_sl ?_ | with_reducible refine w_meth ?_ | with_reducible refine w_iseq ?_ | with_reducible refine w_range1 ?_ | with_reducible refine f_seq ?_ | with_reducible refine f_set ?_ | with_reducible refine f_drop ?_ | with_reducible refine f_ret ?_ | with_reducible refine f_if ?_ | with_reducible refine f_nil ?_ | with_reducible refine f_par2 ?_ | with_reducible refine f_put ?_ | with_reducible refine f_asg ?_ | refine z_add _ _ ?_ | refine z_sub _ _ ?_ | refine z_lt _ _ ?_ | refine z_le _ _ ?_ | refine z_gt _ _ ?_ | refine z_ge _ _ ?_ | refine z_eq _ _ ?_ | refine z_eqS _ _ ?_ | refine z_neS _ _ ?_ | refine z_slT _ _ _ ?_ | refine z_slL _ _ _ ?_ | refine z_lenL _ ?_ | refine z_lenT _ ?_ | refine z_tupL _ ?_ | refine z_lstT _ ?_)
    refine z_ixT _ _ rfl ?_
    repeat (first | with_reducible refine w_slot rfl ?_ | with_reducible refine w_slot (by with_unfolding_all rfl) ?_ | with_reducible refine w_lc ?_ | with_reducible refine w_c ?_ | with_reducible refine w_bin ?_ | with_reducible refine w_un ?_ | with_reducible refine w_tup ?_ | with_reducible refine w_lst ?_ | with_reducible refine w_lstC ?_ | with_reducible refine w_call ?_ | with_reducible refine w_nil ?_ | with_reducible refine w_cons ?_ | with_reducible refine w_if ?_ | with_reducible refine w_val ?_ | with_reducible refine w_not ?_ | with_reducible refine w_and ?_ | with_reducible refine w_or ?_ | with_reducible refine w_xand ?_ | with_reducible refine w_xor ?_ | with_reducible refine w_no ?_ | with_reducible refine w_so ?_ | with_reducible refine w_sl ?_ | with_reducible refine w_meth ?_ | with_reducible refine w_iseq ?_ | with_reducible refine w_range1 ?_ | with_reducible refine f_seq ?_ | with_reducible refine f_set ?_ | with_reducible refine f_drop ?_ | with_reducible refine f_ret ?_ | with_reducible refine f_if ?_ | with_reducible refine f_nil ?_ | with_reducible refine f_par2 ?_ | with_reducible refine f_put ?_ | with_reducible refine f_asg ?_ | refine z_add _ _ ?_ | refine z_sub _ _ ?_ | refine z_lt _ _ ?_ | refine z_le _ _ ?_ | refine z_gt _ _ ?_ | refine z_ge _ _ ?_ | refine z_eq _ _ ?_ | refine z_eqS _ _ ?_ | refine z_neS _ _ ?_ | refine z_slT _ _ _ ?_ | refine z_slL _ _ _ ?_ | refine z_lenL _ ?_ | refine z_lenT _ ?_ | refine z_tupL _ ?_ | refine z_lstT _ ?_)
    refine ⟨_, rfl, ?_, rfl⟩
    simp only [decide_eq_true_eq, decide_eq_false_iff_not] at c1 ⊢
    exact fun c2 => hA ⟨c1, c2⟩
  subst e2
  refine f_nil ?_
  by_cases hB : s = 0 ∧ t = 1
  · rw [if_pos hB] at q
    obtain ⟨rfl, rfl⟩ := hB
    refine f_seq (f_if ?_)
    repeat (first | with_reducible refine w_slot rfl ?_ | with_reducible refine w_slot (by with_unfolding_all rfl) ?_ | with_reducible refine w_lc ?_ | with_reducible refine w_c ?_ | with_reducible refine w_bin ?_ | with_reducible refine w_un ?_ | with_reducible refine w_tup ?_ | with_reducible refine w_lst ?_ | with_reducible refine w_lstC ?_ | with_reducible refine w_call ?_ | with_reducible refine w_nil ?_ | with_reducible refine w_cons ?_ | with_reducible refine w_if ?_ | with_reducible refine w_val ?_ | with_reducible refine w_not ?_ | with_reducible refine w_and ?_ | with_reducible refine w_or ?_ | with_reducible refine w_xand ?_ | with_reducible refine w_xor ?_ | with_reducible refine w_no ?_ | with_reducible refine w_so ?_ | with_reducible refine w_sl ?_ | with_reducible refine w_meth ?_ | with_reducible refine w_iseq ?_ | with_reducible refine w_range1 ?_ | with_reducible refine f_seq ?_ | with_reducible refine f_set ?_ | with_reducible refine f_drop ?_ | with_reducible refine f_ret ?_ | with_reducible refine f_if ?_ | with_reducible refine f_nil ?_ | with_reducible refine f_par2 ?_ | with_reducible refine f_put ?_ | with_reducible refine f_asg ?_ | refine z_add _ _ ?_ | refine z_sub _ _ ?_ | refine z_lt _ _ ?_ | refine z_le _ _ ?_ | refine z_gt _ _ ?_ | refine z_ge _ _ ?_ | refine z_eq _ _ ?_ | refine z_eqS _ _ ?_ | refine z_neS _ _ ?_ | refine z_slT _ _ _ ?_ | refine z_slL _ _ _ ?_ | refine z_lenL _ ?_ | refine z_lenT _ ?_ | refine z_tupL _ ?_ | refine z_lstT _ ?_)
    refine z_ixT _ _ rfl ?_
    repeat (first | with_reducible refine w_slot rfl ?_ | with_reducible refine w_slot (by with_unfolding_all rfl) ?_ | with_reducible refine w_lc ?_ | with_reducible refine w_c ?_ | with_reducible refine w_bin ?_ | with_reducible refine w_un ?_ | with_reducible refine w_tup ?_ | with_reducible refine w_lst ?_ | with_reducible refine w_lstC ?_ | with_reducible refine w_call ?_ | with_reducible refine w_nil ?_ | with_reducible refine w_cons ?_ | with_reducible refine w_if ?_ | with_reducible refine w_val ?_ | with_reducible refine w_not ?_ | with_reducible refine w_and ?_ | with_reducible refine w_or ?_ | with_reducible refine w_xand ?_ | with_reducible refine w_xor ?_ | with_reducible refine w_no ?_ | with_reducible refine w_so ?_ | with_reducible refine w_sl ?_ | with_reducible refine w_meth ?_ | with_reducible refine w_iseq ?_ | with_reducible refine w_range1 ?_ | with_reducible refine f_seq ?_ | with_reducible refine f_set ?_ | with_reducible refine f_drop ?_ | with_reducible refine f_ret ?_ | with_reducible refine f_if ?_ | with_reducible refine f_nil ?_ | with_reducible refine f_par2 ?_ | with_reducible refine f_put ?_ | with_reducible refine f_asg ?_ | refine z_add _ _ ?_ | refine z_sub _ _ ?_ | refine z_lt _ _ ?_ | refine z_le _ _ ?_ | refine z_gt _ _ ?_ | refine z_ge _ _ ?_ | refine z_eq _ _ ?_ | refine z_eqS _ _ ?_ | refine z_neS _ _ ?_ | refine z_slT _ _ _ ?_ | refine z_slL _ _ _ ?_ | refine z_lenL _ ?_ | refine z_lenT _ ?_ | refine z_tupL _ ?_ | refine z_lstT _ ?_)
    refine ⟨_, rfl, fun _ => ?_, fun z => (by cases z)⟩
    repeat (first | with_reducible refine w_slot rfl ?_ | with_reducible refine w_slot (by with_unfolding_all rfl) ?_ | with_reducible refine w_lc ?_ | with_reducible refine w_c ?_ | with_reducible refine w_bin ?_ | with_reducible refine w_un ?_ | with_reducible refine w_tup ?_ | with_reducible refine w_lst ?_ | with_reducible refine w_lstC ?_ | with_reducible refine w_call ?_ | with_reducible refine w_nil ?_ | with_reducible refine w_cons ?_ | with_reducible refine w_if ?_ | with_reducible refine w_val ?_ | with_reducible refine w_not ?_ | with_reducible refine w_and ?_ | with_reducible refine w_or ?_ | with_reducible refine w_xand ?_ | with_reducible refine w_xor ?_ | with_reducible refine w_no ?_ | with_reducible refine w_so ?_ | with_reducible refine w_sl ?_ | with_reducible refine w_meth ?_ | with_reducible refine w_iseq ?_ | with_reducible refine w_range1 ?_ | with_reducible refine f_seq ?_ | with_reducible refine f_set ?_ | with_reducible refine f_drop ?_ | with_reducible refine f_ret ?_ | with_reducible refine f_if ?_ | with_reducible refine f_nil ?_ | with_reducible refine f_par2 ?_ | with_reducible refine f_put ?_ | with_reducible refine f_asg ?_ | refine z_add _ _ ?_ | refine z_sub _ _ ?_ | refine z_lt _ _ ?_ | refine z_le _ _ ?_ | refine z_gt _ _ ?_ | refine z_ge _ _ ?_ | refine z_eq _ _ ?_ | refine z_eqS _ _ ?_ | refine z_neS _ _ ?_ | refine z_slT _ _ _ ?_ | refine z_slL _ _ _ ?_ | refine z_lenL _ ?_ | refine z_lenT _ ?_ | refine z_tupL _ ?_ | refine z_lstT _ ?_)
    refine z_ixT _ _ rfl ?_
    repeat (first | with_reducible refine w_slot rfl ?_ | with_reducible refine w_slot (by with_unfolding_all rfl) ?_ | with_reducible refine w_lc ?_ | with_reducible refine w_c ?_ | with_reducible refine w_bin ?_ | with_reducible refine w_un ?_ | with_reducible refine w_tup ?_ | with_reducible refine w_lst ?_ | with_reducible refine w_lstC ?_ | with_reducible refine w_call ?_ | with_reducible refine w_nil ?_ | with_reducible refine w_cons ?_ | with_reducible refine w_if ?_ | with_reducible refine w_val ?_ | with_reducible refine w_not ?_ | with_reducible refine w_and ?_ | with_reducible refine w_or ?_ | with_reducible refine w_xand ?_ | with_reducible refine w_xor ?_ | with_reducible refine w_no ?_ | with_reducible refine w_so ?_ | with_reducible refine w_sl ?_ | with_reducible refine w_meth ?_ | with_reducible refine w_iseq ?_ | with_reducible refine w_range1 ?_ | with_reducible refine f_seq ?_ | with_reducible refine f_set ?_ | with_reducible refine f_drop ?_ | with_reducible refine f_ret ?_ | with_reducible refine f_if ?_ | with_reducible refine f_nil ?_ | with_reducible refine f_par2 ?_ | with_reducible refine f_put ?_ | with_reducible refine f_asg ?_ | refine z_add _ _ ?_ | refine z_sub _ _ ?_ | refine z_lt _ _ ?_ | refine z_le _ _ ?_ | refine z_gt _ _ ?_ | refine z_ge _ _ ?_ | refine z_eq _ _ ?_ | refine z_eqS _ _ ?_ | refine z_neS _ _ ?_ | refine z_slT _ _ _ ?_ | refine z_slL _ _ _ ?_ | refine z_lenL _ ?_ | refine z_lenT _ ?_ | refine z_tupL _ ?_ | refine z_lstT _ ?_)
    refine ⟨_, rfl, fun _ => ?_, fun z => (by cases z)⟩
    repeat (first | with_reducible refine w_slot rfl ?_ | with_reducible refine w_slot (by with_unfolding_all rfl) ?_ | with_reducible refine w_lc ?_ | with_reducible refine w_c ?_ | with_reducible refine w_bin ?_ | with_reducible refine w_un ?_ | with_reducible refine w_tup ?_ | with_reducible refine w_lst ?_ | with_reducible refine w_lstC ?_ | with_reducible refine w_call ?_ | with_reducible refine w_nil ?_ | with_reducible refine w_cons ?_ | with_reducible refine w_if ?_ | with_reducible refine w_val ?_ | with_reducible refine w_not ?_ | with_reducible refine w_and ?_ | with_reducible refine w_or ?_ | with_reducible refine w_xand ?_ | with_reducible refine w_xor ?_ | with_reducible refine w_no ?_ | with_reducible refine w_so ?_ | with_reducible refine w_sl ?_ | with_reducible refine w_meth ?_ | with_reducible refine w_iseq ?_ | with_reducible refine w_range1 ?_ | with_reducible refine f_seq ?_ | with_reducible refine f_set ?_ | with_reducible refine f_drop ?_ | with_reducible refine f_ret ?_ | with_reducible refine f_if ?_ | with_reducible refine f_nil ?_ | with_reducible refine f_par2 ?_ | with_reducible refine f_put ?_ | with_reducible refine f_asg ?_ | refine z_add _ _ ?_ | refine z_sub _ _ ?_ | refine z_lt _ _ ?_ | refine z_le _ _ ?_ | refine z_gt _ _ ?_ | refine z_ge _ _ ?_ | refine z_eq _ _ ?_ | refine z_eqS _ _ ?_ | refine z_neS _ _ ?_ | refine z_slT _ _ _ ?_ | refine z_slL _ _ _ ?_ | refine z_lenL _ ?_ | refine z_lenT _ ?_ | refine z_tupL _ ?_ | refine z_lstT _ ?_)
    refine z_ixT _ _ rfl ?_
    repeat (first | with_reducible refine w_slot rfl ?_ | with_reducible refine w_slot (by with_unfolding_all rfl) ?_ | with_reducible refine w_lc ?_ | with_reducible refine w_c ?_ | with_reducible refine w_bin ?_ | with_reducible refine w_un ?_ | with_reducible refine w_tup ?_ | with_reducible refine w_lst ?_ | with_reducible refine w_lstC ?_ | with_reducible refine w_call ?_ | with_reducible refine w_nil ?_ | with_reducible refine w_cons ?_ | with_reducible refine w_if ?_ | with_reducible refine w_val ?_ | with_reducible refine w_not ?_ | with_reducible refine w_and ?_ | with_reducible refine w_or ?_ | with_reducible refine w_xand ?_ | with_reducible refine w_xor ?_ | with_reducible refine w_no ?_ | with_reducible refine w_so ?_ | with_reducible refine w_sl ?_ | with_reducible refine w_meth ?_ | with_reducible refine w_iseq ?_ | with_reducible refine w_range1 ?_ | with_reducible refine f_seq ?_ | with_reducible refine f_set ?_ | with_reducible refine f_drop ?_ | with_reducible refine f_ret ?_ | with_reducible refine f_if ?_ | with_reducible refine f_nil ?_ | with_reducible refine f_par2 ?_ | with_reducible refine f_put ?_ | with_reducible refine f_asg ?_ | refine z_add _ _ ?_ | refine z_sub _ _ ?_ | refine z_lt _ _ ?_ | refine z_le _ _ ?_ | refine z_gt _ _ ?_ | refine z_ge _ _ ?_ | refine z_eq _ _ ?_ | refine z_eqS _ _ ?_ | refine z_neS _ _ ?_ | refine z_slT _ _ _ ?_ | refine z_slL _ _ _ ?_ | refine z_lenL _ ?_ | refine z_lenT _ ?_ | refine z_tupL _ ?_ | refine z_lstT _ ?_)
    refine w_turned lr ?_
    repeat (first | with_reducible refine w_slot rfl ?_ | with_reducible refine w_slot (by with_unfolding_all rfl) ?_ | with_reducible refine w_lc ?_ | with_reducible refine w_c ?_ | with_reducible refine w_bin ?_ | with_reducible refine w_un ?_ | with_reducible refine w_tup ?_ | with_reducible refine w_lst ?_ | with_reducible refine w_lstC ?_ | with_reducible refine w_call ?_ | with_reducible refine w_nil ?_ | with_reducible refine w_cons ?_ | with_reducible refine w_if ?_ | with_reducible refine w_val ?_ | with_reducible refine w_not ?_ | with_reducible refine w_and ?_ | with_reducible refine w_or ?_ | with_reducible refine w_xand ?_ | with_reducible refine w_xor ?_ | with_reducible refine w_no ?_ | with_reducible refine w_so ?_ | with_reducible refine w_sl ?_ | with_reducible refine w_meth ?_ | with_reducible refine w_iseq ?_ | with_reducible refine w_range1 ?_ | with_reducible refine f_seq ?_ | with_reducible refine f_set ?_ | with_reducible refine f_drop ?_ | with_reducible refine f_ret ?_ | with_reducible refine f_if ?_ | with_reducible refine f_nil ?_ | with_reducible refine f_par2 ?_ | with_reducible refine f_put ?_ | with_reducible refine f_asg ?_ | refine z_add _ _ ?_ | refine z_sub _ _ ?_ | refine z_lt _ _ ?_ | refine z_le _ _ ?_ | refine z_gt _ _ ?_ | refine z_ge _ _ ?_ | refine z_eq _ _ ?_ | refine z_eqS _ _ ?_ | refine z_neS _ _ ?_ | refine z_slT _ _ _ ?_ | refine z_slL _ _ _ ?_ | refine z_lenL _ ?_ | refine z_lenT _ ?_ | refine z_tupL _ ?_ | refine z_lstT _ ?_)
    exact z_inT hp tp.1 tp.2 (fin_same q)
  rw [if_neg hB] at q
  refine f_seq (f_if (okR_mono (Q := fun c S2 => c = false ∧ S2 = S1) ?_ fun c S2 ⟨e1, e2⟩ => ⟨fun z => (by rw [e1] at z; cases z), fun _ => ?_⟩))
  · repeat (first | with_reducible refine w_slot rfl ?_ | with_reducible refine w_slot (by with_unfolding_all rfl) ?_ | with_reducible refine w_lc ?_ | with_reducible refine w_c ?_ | with_reducible refine w_bin ?_ | with_reducible refine w_un ?_ | with_reducible refine w_tup ?_ | with_reducible refine w_lst ?_ | with_reducible refine w_lstC ?_ | with_reducible refine w_call ?_ | with_reducible refine w_nil ?_ | with_reducible refine w_cons ?_ | with_reducible refine w_if ?_ | with_reducible refine w_val ?_ | with_reducible refine w_not ?_ | with_reducible refine w_and ?_ | with_reducible refine w_or ?_ | with_reducible refine w_xand ?_ | with_reducible refine w_xor ?_ | with_reducible refine w_no ?_ | with_reducible refine w_so ?_ | with_reducible refine w_sl ?_ | with_reducible refine w_meth ?_ | with_reducible refine w_iseq ?_ | with_reducible refine w_range1 ?_ | with_reducible refine f_seq ?_ | with_reducible refine f_set ?_ | with_reducible refine f_drop ?_ | with_reducible refine f_ret ?_ | with_reducible refine f_if ?_ | with_reducible refine f_nil ?_ | with_reducible refine f_par2 ?_ | with_reducible refine f_put ?_ | with_reducible refine f_asg ?_ | refine z_add _ _ ?_ | refine z_sub _ _ ?_ | refine z_lt _ _ ?_ | refine z_le _ _ ?_ | refine z_gt _ _ ?_ | refine z_ge _ _ ?_ | refine z_eq _ _ ?_ | refine z_eqS _ _ ?_ | refine z_neS _ _ ?_ | refine z_slT _ _ _ ?_ | refine z_slL _ _ _ ?_ | refine z_lenL _ ?_ | refine z_lenT _ ?_ | refine z_tupL _ ?_ | refine z_lstT _ ?_)
    refine z_ixT _ _ rfl ?_
    repeat (first | with_reducible refine w_slot rfl ?_ | with_reducible refine w_slot (by with_unfolding_all rfl) ?_ | with_reducible refine w_lc ?_ | with_reducible refine w_c ?_ | with_reducible refine w_bin ?_ | with_reducible refine w_un ?_ | with_reducible refine w_tup ?_ | with_reducible refine w_lst ?_ | with_reducible refine w_lstC ?_ | with_reducible refine w_call ?_ | with_reducible refine w_nil ?_ | with_reducible refine w_cons ?_ | with_reducible refine w_if ?_ | with_reducible refine w_val ?_ | with_reducible refine w_not ?_ | with_reducible refine w_and ?_ | with_reducible refine w_or ?_ | with_reducible refine w_xand ?_ | with_reducible refine w_xor ?_ | with_reducible refine w_no ?_ | with_reducible refine w_so ?_ | with_reducible refine w_sl ?_ | with_reducible refine w_meth ?_ | with_reducible refine w_iseq ?_ | with_reducible refine w_range1 ?_ | with_reducible refine f_seq ?_ | with_reducible refine f_set ?_ | with_reducible refine f_drop ?_ | with_reducible refine f_ret ?_ | with_reducible refine f_if ?_ | with_reducible refine f_nil ?_ | with_reducible refine f_par2 ?_ | with_reducible refine f_put ?_ | with_reducible refine f_asg ?_ | refine z_add _ _ ?_ | refine z_sub _ _ ?_ | refine z_lt _ _ ?_ | refine z_le _ _ ?_ | refine z_gt _ _ ?_ | refine z_ge _ _ ?_ | refine z_eq _ _ ?_ | refine z_eqS _ _ ?_ | refine z_neS _ _ ?_ | refine z_slT _ _ _ ?_ | refine z_slL _ _ _ ?_ | refine z_lenL _ ?_ | refine z_lenT _ ?_ | refine z_tupL _ ?_ | refine z_lstT _ ?_)
    refine ⟨_, rfl, fun c1 => ?_, fun _ => ⟨rfl, rfl⟩⟩
    repeat (first | with_reducible refine w_slot rfl ?_ | with_reducible refine w_slot (by with_unfolding_all rfl) ?_ | with_reducible refine w_lc ?_ | with_reducible refine w_c ?_ | with_reducible refine w_bin ?_ | with_reducible refine w_un ?_ | with_reducible refine w_tup ?_ | with_reducible refine w_lst ?_ | with_reducible refine w_lstC ?_ | with_reducible refine w_call ?_ | with_reducible refine w_nil ?_ | with_reducible refine w_cons ?_ | with_reducible refine w_if ?_ | with_reducible refine w_val ?_ | with_reducible refine w_not ?_ | with_reducible refine w_and ?_ | with_reducible refine w_or ?_ | with_reducible refine w_xand ?_ | with_reducible refine w_xor ?_ | with_reducible refine w_no ?_ | with_reducible refine w_so ?_ | with_reducible refine w_sl ?_ | with_reducible refine w_meth ?_ | with_reducible refine w_iseq ?_ | with_reducible refine w_range1 ?_ | with_reducible refine f_seq ?_ | with_reducible refine f_set ?_ | with_reducible refine f_drop ?_ | with_reducible refine f_ret ?_ | with_reducible refine f_if ?_ | with_reducible refine f_nil ?_ | with_reducible refine f_par2 ?_ | with_reducible refine f_put ?_ | with_reducible refine f_asg ?_ | refine z_add _ _ ?_ | refine z_sub _ _ ?_ | refine z_lt _ _ ?_ | refine z_le _ _ ?_ | refine z_gt _ _ ?_ | refine z_ge _ _ ?_ | refine z_eq _ _ ?_ | refine z_eqS _ _ ?_ | refine z_neS _ _ ?_ | refine z_slT _ _ _ ?_ | refine z_slL _ _ _ ?_ | refine z_lenL _ ?_ | refine z_lenT _ ?_ | refine z_tupL _ ?_ | refine z_lstT _ ?_)
    refine z_ixT _ _ rfl ?_
    repeat (first | with_reducible refine w_slot rfl ?_ | with_reducible refine w_slot (by with_unfolding_all rfl) ?_ | with_reducible refine w_lc ?_ | with_reducible refine w_c ?_ | with_reducible refine w_bin ?_ | with_reducible refine w_un ?_ | with_reducible refine w_tup ?_ | with_reducible refine w_lst ?_ | with_reducible refine w_lstC ?_ | with_reducible refine w_call ?_ | with_reducible refine w_nil ?_ | with_reducible refine w_cons ?_ | with_reducible refine w_if ?_ | with_reducible refine w_val ?_ | with_reducible refine w_not ?_ | with_reducible refine w_and ?_ | with_reducible refine w_or ?_ | with_reducible refine w_xand ?_ | with_reducible refine w_xor ?_ | with_reducible refine w_no ?_ | with_reducible refine w_so ?_ | with_reducible refine w_sl ?_ | with_reducible refine w_meth ?_ | with_reducible refine w_iseq ?_ | with_reducible refine w_range1 ?_ | with_reducible refine f_seq ?_ | with_reducible refine f_set ?_ | with_reducible refine f_drop ?_ | with_reducible refine f_ret ?_ | with_reducible refine f_if ?_ | with_reducible refine f_nil ?_ | with_reducible refine f_par2 ?_ | with_reducible refine f_put ?_ | with_reducible refine f_asg ?_ | refine z_add _ _ ?_ | refine z_sub _ _ ?_ | refine z_lt _ _ ?_ | refine z_le _ _ ?_ | refine z_gt _ _ ?_ | refine z_ge _ _ ?_ | refine z_eq _ _ ?_ | refine z_eqS _ _ ?_ | refine z_neS _ _ ?_ | refine z_slT _ _ _ ?_ | refine z_slL _ _ _ ?_ | refine z_lenL _ ?_ | refine z_lenT _ ?_ | refine z_tupL _ ?_ | refine z_lstT _ ?_)
    refine ⟨_, rfl, ?_, rfl⟩
    simp only [decide_eq_true_eq, decide_eq_false_iff_not] at c1 ⊢
    exact fun c2 => hB ⟨c1, c2⟩
  subst e2
  refine f_nil ?_
  repeat (first | with_reducible refine w_slot rfl ?_ | with_reducible refine w_slot (by with_unfolding_all rfl) ?_ | with_reducible refine w_lc ?_ | with_reducible refine w_c ?_ | with_reducible refine w_bin ?_ | with_reducible refine w_un ?_ | with_reducible refine w_tup ?_ | with_reducible refine w_lst ?_ | with_reducible refine w_lstC ?_ | with_reducible refine w_call ?_ | with_reducible refine w_nil ?_ | with_reducible refine w_cons ?_ | with_reducible refine w_if ?_ | with_reducible refine w_val ?_ | with_reducible refine w_not ?_ | with_reducible refine w_and ?_ | with_reducible refine w_or ?_ | with_reducible refine w_xand ?_ | with_reducible refine w_xor ?_ | with_reducible refine w_no ?_ | with_reducible refine w_so ?_ | with_reducible refine w_sl ?_ | with_reducible refine w_meth ?_ | with_reducible refine w_iseq ?_ | with_reducible refine w_range1 ?_ | with_reducible refine f_seq ?_ | with_reducible refine f_set ?_ | with_reducible refine f_drop ?_ | with_reducible refine f_ret ?_ | with_reducible refine f_if ?_ | with_reducible refine f_nil ?_ | with_reducible refine f_par2 ?_ | with_reducible refine f_put ?_ | with_reducible refine f_asg ?_ | refine z_add _ _ ?_ | refine z_sub _ _ ?_ | refine z_lt _ _ ?_ | refine z_le _ _ ?_ | refine z_gt _ _ ?_ | refine z_ge _ _ ?_ | refine z_eq _ _ ?_ | refine z_eqS _ _ ?_ | refine z_neS _ _ ?_ | refine z_slT _ _ _ ?_ | refine z_slL _ _ _ ?_ | refine z_lenL _ ?_ | refine z_lenT _ ?_ | refine z_tupL _ ?_ | refine z_lstT _ ?_)
  exact fin_same q
theorem w_lcut {ws : List PyData} {d : PyData} (kk : k = 2 ∨ k = 4) (hw : ∀ e ∈ ws, IsO k e) (hd : IsL k d) (q : Q (.dat (.bool (cutD ws d))) S) : okR (fns T ds (n + 3) "_law_cut" [.dat (.tuple ws), .dat d] S) Q := by
  obtain ⟨s, t, r, rfl, hs, ht, hr⟩ := hd
  have h4 : k ≤ 4 := by rcases kk with e | e <;> omega
  have hp : ∀ e ∈ ws, e.plain = true := fun e he => (fitO (hw e he) h4).plain
  have ho := fit_tupI hr h4
  have lr : (r.map PyData.int).length ≤ 1000 := by rw [List.length_map, hr.1]; omega
  have tp := turn_plain hr kk
  have q : Q (.dat (.bool (if s = 1 ∧ t = 0 then ws.any fun e => PyData.eqv e (tup r) else if s = 0 ∧ t = 1 then ws.any fun e => PyData.eqv e (turnD (tup r)) else false))) S := q
  rw [f_law_cut]
  refine w_fn rfl ?_
  by_cases hA : s = 1 ∧ t = 0
  · rw [if_pos hA] at q
    obtain ⟨rfl, rfl⟩ := hA
    refine f_seq (f_if ?_)
    repeat (first | with_reducible refine w_slot rfl ?_ | with_reducible refine w_slot (by with_unfolding_all rfl) ?_ | with_reducible refine w_lc ?_ | with_reducible refine w_c ?_ | with_reducible refine w_bin ?_ | with_reducible refine w_un ?_ | with_reducible refine w_tup ?_ | with_reducible refine w_lst ?_ | with_reducible refine w_lstC ?_ | with_reducible refine w_call ?_ | with_reducible refine w_nil ?_ | with_reducible refine w_cons ?_ | with_reducible refine w_if ?_ | with_reducible refine w_val ?_ | with_reducible refine w_not ?_ | with_reducible refine w_and ?_ | with_reducible refine w_or ?_ | with_reducible refine w_xand ?_ | with_reducible refine w_xor ?_ | with_reducible refine w_no ?_ | with_reducible refine w_so ?_ | with_reducible refine w_sl ?_ | with_reducible refine w_meth ?_ | with_reducible refine w_iseq ?_ | with_reducible refine w_range1 ?_ | with_reducible refine f_seq ?_ | with_reducible refine f_set ?_ | with_reducible refine f_drop ?_ | with_reducible refine f_ret ?_ | with_reducible refine f_if ?_ | with_reducible refine f_nil ?_ | with_reducible refine f_par2 ?_ | with_reducible refine f_put ?_ | with_reducible refine f_asg ?_ | refine z_add _ _ ?_ | refine z_sub _ _ ?_ | refine z_lt _ _ ?_ | refine z_le _ _ ?_ | refine z_gt _ _ ?_ | refine z_ge _ _ ?_ | refine z_eq _ _ ?_ | refine z_eqS _ _ ?_ | refine z_neS _ _ ?_ | refine z_slT _ _ _ ?_ | refine z_slL _ _ _ ?_ | refine z_lenL _ ?_ | refine z_lenT _ ?_ | refine z_tupL _ ?_ | refine z_lstT _ ?_)
    refine z_ixT _ _ rfl ?_
    repeat (first | with_reducible refine w_slot rfl ?_ | with_reducible refine w_slot (by with_unfolding_all rfl) ?_ | with_reducible refine w_lc ?_ | with_reducible refine w_c ?_ | with_reducible refine w_bin ?_ | with_reducible refine w_un ?_ | with_reducible refine w_tup ?_ | with_reducible refine w_lst ?_ | with_reducible refine w_lstC ?_ | with_reducible refine w_call ?_ | with_reducible refine w_nil ?_ | with_reducible refine w_cons ?_ | with_reducible refine w_if ?_ | with_reducible refine w_val ?_ | with_reducible refine w_not ?_ | with_reducible refine w_and ?_ | with_reducible refine w_or ?_ | with_reducible refine w_xand ?_ | with_reducible refine w_xor ?_ | with_reducible refine w_no ?_ | with_reducible refine w_so ?_ | with_reducible refine w_sl ?_ | with_reducible refine w_meth ?_ | with_reducible refine w_iseq ?_ | with_reducible refine w_range1 ?_ | with_reducible refine f_seq ?_ | with_reducible refine f_set ?_ | with_reducible refine f_drop ?_ | with_reducible refine f_ret ?_ | with_reducible refine f_if ?_ | with_reducible refine f_nil ?_ | with_reducible refine f_par2 ?_ | with_reducible refine f_put ?_ | with_reducible refine f_asg ?_ | refine z_add _ _ ?_ | refine z_sub _ _ ?_ | refine z_lt _ _ ?_ | refine z_le _ _ ?_ | refine z_gt _ _ ?_ | refine z_ge _ _ ?_ | refine z_eq _ _ ?_ | refine z_eqS _ _ ?_ | refine z_neS _ _ ?_ | refine z_slT _ _ _ ?_ | refine z_slL _ _ _ ?_ | refine z_lenL _ ?_ | refine z_lenT _ ?_ | refine z_tupL _ ?_ | refine z_lstT _ ?_)
    refine ⟨_, rfl, fun _ => ?_, fun z => (by cases z)⟩
    repeat (first | with_reducible refine w_slot rfl ?_ | with_reducible refine w_slot (by with_unfolding_all rfl) ?_ | with_reducible refine w_lc ?_ | with_reducible refine w_c ?_ | with_reducible refine w_bin ?_ | with_reducible refine w_un ?_ | with_reducible refine w_tup ?_ | with_reducible refine w_lst ?_ | with_reducible refine w_lstC ?_ | with_reducible refine w_call ?_ | with_reducible refine w_nil ?_ | with_reducible refine w_cons ?_ | with_reducible refine w_if ?_ | with_reducible refine w_val ?_ | with_reducible refine w_not ?_ | with_reducible refine w_and ?_ | with_reducible refine w_or ?_ | with_reducible refine w_xand ?_ | with_reducible refine w_xor ?_ | with_reducible refine w_no ?_ | with_reducible refine w_so ?_ | with_reducible refine w_sl ?_ | with_reducible refine w_meth ?_ | with_reducible refine w_iseq ?_ | with_reducible refine w_range1 ?_ | with_reducible refine f_seq ?_ | with_reducible refine f_set ?_ | with_reducible refine f_drop ?_ | with_reducible refine f_ret ?_ | with_reducible refine f_if ?_ | with_reducible refine f_nil ?_ | with_reducible refine f_par2 ?_ | with_reducible refine f_put ?_ | with_reducible refine f_asg ?_ | refine z_add _ _ ?_ | refine z_sub _ _ ?_ | refine z_lt _ _ ?_ | refine z_le _ _ ?_ | refine z_gt _ _ ?_ | refine z_ge _ _ ?_ | refine z_eq _ _ ?_ | refine z_eqS _ _ ?_ | refine z_neS _ _ ?_ | refine z_slT _ _ _ ?_ | refine z_slL _ _ _ ?_ | refine z_lenL _ ?_ | refine z_lenT _ ?_ | refine z_tupL _ ?_ | refine z_lstT _ ?_)
    refine z_ixT _ _ rfl ?_
    repeat (first | with_reducible refine w_slot rfl ?_ | with_reducible refine w_slot (by with_unfolding_all rfl) ?_ | with_reducible refine w_lc ?_ | with_reducible refine w_c ?_ | with_reducible refine w_bin ?_ | with_reducible refine w_un ?_ | with_reducible refine w_tup ?_ | with_reducible refine w_lst ?_ | with_reducible refine w_lstC ?_ | with_reducible refine w_call ?_ | with_reducible refine w_nil ?_ | with_reducible refine w_cons ?_ | with_reducible refine w_if ?_ | with_reducible refine w_val ?_ | with_reducible refine w_not ?_ | with_reducible refine w_and ?_ | with_reducible refine w_or ?_ | with_reducible refine w_xand ?_ | with_reducible refine w_xor ?_ | with_reducible refine w_no ?_ | with_reducible refine w_so ?_ | with_reducible refine w_sl ?_ | with_reducible refine w_meth ?_ | with_reducible refine w_iseq ?_ | with_reducible refine w_range1 ?_ | with_reducible refine f_seq ?_ | with_reducible refine f_set ?_ | with_reducible refine f_drop ?_ | with_reducible refine f_ret ?_ | with_reducible refine f_if ?_ | with_reducible refine f_nil ?_ | with_reducible refine f_par2 ?_ | with_reducible refine f_put ?_ | with_reducible refine f_asg ?_ | refine z_add _ _ ?_ | refine z_sub _ _ ?_ | refine z_lt _ _ ?_ | refine z_le _ _ ?_ | refine z_gt _ _ ?_ | refine z_ge _ _ ?_ | refine z_eq _ _ ?_ | refine z_eqS _ _ ?_ | refine z_neS _ _ ?_ | refine z_slT _ _ _ ?_ | refine z_slL _ _ _ ?_ | refine z_lenL _ ?_ | refine z_lenT _ ?_ | refine z_tupL _ ?_ | refine z_lstT _ ?_)
    refine ⟨_, rfl, fun _ => ?_, fun z => (by cases z)⟩
    repeat (first | with_reducible refine w_slot rfl ?_ | with_reducible refine w_slot (by with_unfolding_all rfl) ?_ | with_reducible refine w_lc ?_ | with_reducible refine w_c ?_ | with_reducible refine w_bin ?_ | with_reducible refine w_un ?_ | with_reducible refine w_tup ?_ | with_reducible refine w_lst ?_ | with_reducible refine w_lstC ?_ | with_reducible refine w_call ?_ | with_reducible refine w_nil ?_ | with_reducible refine w_cons ?_ | with_reducible refine w_if ?_ | with_reducible refine w_val ?_ | with_reducible refine w_not ?_ | with_reducible refine w_and ?_ | with_reducible refine w_or ?_ | with_reducible refine w_xand ?_ | with_reducible refine w_xor ?_ | with_reducible refine w_no ?_ | with_reducible refine w_so ?_ | with_reducible refine w_sl ?_ | with_reducible refine w_meth ?_ | with_reducible refine w_iseq ?_ | with_reducible refine w_range1 ?_ | with_reducible refine f_seq ?_ | with_reducible refine f_set ?_ | with_reducible refine f_drop ?_ | with_reducible refine f_ret ?_ | with_reducible refine f_if ?_ | with_reducible refine f_nil ?_ | with_reducible refine f_par2 ?_ | with_reducible refine f_put ?_ | with_reducible refine f_asg ?_ | refine z_add _ _ ?_ | refine z_sub _ _ ?_ | refine z_lt _ _ ?_ | refine z_le _ _ ?_ | refine z_gt _ _ ?_ | refine z_ge _ _ ?_ | refine z_eq _ _ ?_ | refine z_eqS _ _ ?_ | refine z_neS _ _ ?_ | refine z_slT _ _ _ ?_ | refine z_slL _ _ _ ?_ | refine z_lenL _ ?_ | refine z_lenT _ ?_ | refine z_tupL _ ?_ | refine z_lstT _ ?_)
    refine z_ixT _ _ rfl ?_
    repeat (first | with_reducible refine w_slot rfl ?_ | with_reducible refine w_slot (by with_unfolding_all rfl) ?_ | with_reducible refine w_lc ?_ | with_reducible refine w_c ?_ | with_reducible refine w_bin ?_ | with_reducible refine w_un ?_ | with_reducible refine w_tup ?_ | with_reducible refine w_lst ?_ | with_reducible refine w_lstC ?_ | with_reducible refine w_call ?_ | with_reducible refine w_nil ?_ | with_reducible refine w_cons ?_ | with_reducible refine w_if ?_ | with_reducible refine w_val ?_ | with_reducible refine w_not ?_ | with_reducible refine w_and ?_ | with_reducible refine w_or ?_ | with_reducible refine w_xand ?_ | with_reducible refine w_xor ?_ | with_reducible refine w_no ?_ | with_reducible refine w_so ?_ | with_reducible refine w_sl ?_ | with_reducible refine w_meth ?_ | with_reducible refine w_iseq ?_ | with_reducible refine w_range1 ?_ | with_reducible refine f_seq ?_ | with_reducible refine f_set ?_ | with_reducible refine f_drop ?_ | with_reducible refine f_ret ?_ | with_reducible refine f_if ?_ | with_reducible refine f_nil ?_ | with_reducible refine f_par2 ?_ | with_reducible refine f_put ?_ | with_reducible refine f_asg ?_ | refine z_add _ _ ?_ | refine z_sub _ _ ?_ | refine z_lt _ _ ?_ | refine z_le _ _ ?_ | refine z_gt _ _ ?_ | refine z_ge _ _ ?_ | refine z_eq _ _ ?_ | refine z_eqS _ _ ?_ | refine z_neS _ _ ?_ | refine z_slT _ _ _ ?_ | refine z_slL _ _ _ ?_ | refine z_lenL _ ?_ | refine z_lenT _ ?_ | refine z_tupL _ ?_ | refine z_lstT _ ?_)
    exact z_inT hp ho.plain (by have := ho.dep; omega) (fin_same q)
  rw [if_neg hA] at q
  refine f_seq (f_if (okR_mono (Q := fun c S1 => c = false ∧ S1 = S) ?_ fun c S1 ⟨e1, e2⟩ => ⟨fun z => (by rw [e1] at z; cases z), fun _ => ?_⟩))
  · repeat (first | with_reducible refine w_slot rfl ?_ | with_reducible refine w_slot (by with_unfolding_all rfl) ?_ | with_reducible refine w_lc ?_ | with_reducible refine w_c ?_ | with_reducible refine w_bin ?_ | with_reducible refine w_un ?_ | with_reducible refine w_tup ?_ | with_reducible refine w_lst ?_ | with_reducible refine w_lstC ?_ | with_reducible refine w_call ?_ | with_reducible refine w_nil ?_ | with_reducible refine w_cons ?_ | with_reducible refine w_if ?_ | with_reducible refine w_val ?_ | with_reducible refine w_not ?_ | with_reducible refine w_and ?_ | with_reducible refine w_or ?_ | with_reducible refine w_xand ?_ | with_reducible refine w_xor ?_ | with_reducible refine w_no ?_ | with_reducible refine w_so ?_ | with_reducible refine w_sl ?_ | with_reducible refine w_meth ?_ | with_reducible refine w_iseq ?_ | with_reducible refine w_range1 ?_ | with_reducible refine f_seq ?_ | with_reducible refine f_set ?_ | with_reducible refine f_drop ?_ | with_reducible refine f_ret ?_ | with_reducible refine f_if ?_ | with_reducible refine f_nil ?_ | with_reducible refine f_par2 ?_ | with_reducible refine f_put ?_ | with_reducible refine f_asg ?_ | refine z_add _ _ ?_ | refine z_sub _ _ ?_ | refine z_lt _ _ ?_ | refine z_le _ _ ?_ | refine z_gt _ _ ?_ | refine z_ge _ _ ?_ | refine z_eq _ _ ?_ | refine z_eqS _ _ ?_ | refine z_neS _ _ ?_ | refine z_slT _ _ _ ?_ | refine z_slL _ _ _ ?_ | refine z_lenL _ ?_ | refine z_lenT _ ?_ | refine z_tupL _ ?_ | refine z_lstT _ ?_)
    refine z_ixT _ _ rfl ?_
    repeat (first | with_reducible refine w_slot rfl ?_ | with_reducible refine w_slot (by with_unfolding_all rfl) ?_ | with_reducible refine w_lc ?_ | with_reducible refine w_c ?_ | with_reducible refine w_bin ?_ | with_reducible refine w_un ?_ | with_reducible refine w_tup ?_ | with_reducible refine w_lst ?_ | with_reducible refine w_lstC ?_ | with_reducible refine w_call ?_ | with_reducible refine w_nil ?_ | with_reducible refine w_cons ?_ | with_reducible refine w_if ?_ | with_reducible refine w_val ?_ | with_reducible refine w_not ?_ | with_reducible refine w_and ?_ | with_reducible refine w_or ?_ | with_reducible refine w_xand ?_ | with_reducible refine w_xor ?_ | with_reducible refine w_no ?_ | with_reducible refine w_so ?_ | with_reducible refine w_sl ?_ | with_reducible refine w_meth ?_ | with_reducible refine w_iseq ?_ | with_reducible refine w_range1 ?_ | with_reducible refine f_seq ?_ | with_reducible refine f_set ?_ | with_reducible refine f_drop ?_ | with_reducible refine f_ret ?_ | with_reducible refine f_if ?_ | with_reducible refine f_nil ?_ | with_reducible refine f_par2 ?_ | with_reducible refine f_put ?_ | with_reducible refine f_asg ?_ | refine z_add _ _ ?_ | refine z_sub _ _ ?_ | refine z_lt _ _ ?_ | refine z_le _ _ ?_ | refine z_gt _ _ ?_ | refine z_ge _ _ ?_ | refine z_eq _ _ ?_ | refine z_eqS _ _ ?_ | refine z_neS _ _ ?_ | refine z_slT _ _ _ ?_ | refine z_slL _ _ _ ?_ | refine z_lenL _ ?_ | refine z_lenT _ ?_ | refine z_tupL _ ?_ | refine z_lstT _ ?_)
    refine ⟨_, rfl, fun c1 => ?_, fun _ => ⟨rfl, rfl⟩⟩
    repeat (first | with_reducible refine w_slot rfl ?_ | with_reducible refine w_slot (by with_unfolding_all rfl) ?_ | with_reducible refine w_lc ?_ | with_reducible refine w_c ?_ | with_reducible refine w_bin ?_ | with_reducible refine w_un ?_ | with_reducible refine w_tup ?_ | with_reducible refine w_lst ?_ | with_reducible refine w_lstC ?_ | with_reducible refine w_call ?_ | with_reducible refine w_nil ?_ | with_reducible refine w_cons ?_ | with_reducible refine w_if ?_ | with_reducible refine w_val ?_ | with_reducible refine w_not ?_ | with_reducible refine w_and ?_ | with_reducible refine w_or ?_ | with_reducible refine w_xand ?_ | with_reducible refine w_xor ?_ | with_reducible refine w_no ?_ | with_reducible refine w_so ?_ | with_reducible refine w_sl ?_ | with_reducible refine w_meth ?_ | with_reducible refine w_iseq ?_ | with_reducible refine w_range1 ?_ | with_reducible refine f_seq ?_ | with_reducible refine f_set ?_ | with_reducible refine f_drop ?_ | with_reducible refine f_ret ?_ | with_reducible refine f_if ?_ | with_reducible refine f_nil ?_ | with_reducible refine f_par2 ?_ | with_reducible refine f_put ?_ | with_reducible refine f_asg ?_ | refine z_add _ _ ?_ | refine z_sub _ _ ?_ | refine z_lt _ _ ?_ | refine z_le _ _ ?_ | refine z_gt _ _ ?_ | refine z_ge _ _ ?_ | refine z_eq _ _ ?_ | refine z_eqS _ _ ?_ | refine z_neS _ _ ?_ | refine z_slT _ _ _ ?_ | refine z_slL _ _ _ ?_ | refine z_lenL _ ?_ | refine z_lenT _ ?_ | refine z_tupL _ ?_ | refine z_lstT _ ?_)
    refine z_ixT _ _ rfl ?_
    repeat (first | with_reducible refine w_slot rfl ?_ | with_reducible refine w_slot (by with_unfolding_all rfl) ?_ | with_reducible refine w_lc ?_ | with_reducible refine w_c ?_ | with_reducible refine w_bin ?_ | with_reducible refine w_un ?_ | with_reducible refine w_tup ?_ | with_reducible refine w_lst ?_ | with_reducible refine w_lstC ?_ | with_reducible refine w_call ?_ | with_reducible refine w_nil ?_ | with_reducible refine w_cons ?_ | with_reducible refine w_if ?_ | with_reducible refine w_val ?_ | with_reducible refine w_not ?_ | with_reducible refine w_and ?_ | with_reducible refine w_or ?_ | with_reducible refine w_xand ?_ | with_reducible refine w_xor ?_ | with_reducible refine w_no ?_ | with_reducible refine w_so ?_ | with_reducible refine w_sl ?_ | with_reducible refine w_meth ?_ | with_reducible refine w_iseq ?_ | with_reducible refine w_range1 ?_ | with_reducible refine f_seq ?_ | with_reducible refine f_set ?_ | with_reducible refine f_drop ?_ | with_reducible refine f_ret ?_ | with_reducible refine f_if ?_ | with_reducible refine f_nil ?_ | with_reducible refine f_par2 ?_ | with_reducible refine f_put ?_ | with_reducible refine f_asg ?_ | refine z_add _ _ ?_ | refine z_sub _ _ ?_ | refine z_lt _ _ ?_ | refine z_le _ _ ?_ | refine z_gt _ _ ?_ | refine z_ge _ _ ?_ | refine z_eq _ _ ?_ | refine z_eqS _ _ ?_ | refine z_neS _ _ ?_ | refine z_slT _ _ _ ?_ | refine z_slL _ _ _ ?_ | refine z_lenL _ ?_ | refine z_lenT _ ?_ | refine z_tupL _ ?_ | refine z_lstT _ ?_)
    refine ⟨_, rfl, ?_, rfl⟩
    simp only [decide_eq_true_eq, decide_eq_false_iff_not] at c1 ⊢
    exact fun c2 => hA ⟨c1, c2⟩
  subst e2
  refine f_nil ?_
  repeat (first | with_reducible refine w_slot rfl ?_ | with_reducible refine w_slot (by with_unfolding_all rfl) ?_ | with_reducible refine w_lc ?_ | with_reducible refine w_c ?_ | with_reducible refine w_bin ?_ | with_reducible refine w_un ?_ | with_reducible refine w_tup ?_ | with_reducible refine w_lst ?_ | with_reducible refine w_lstC ?_ | with_reducible refine w_call ?_ | with_reducible refine w_nil ?_ | with_reducible refine w_cons ?_ | with_reducible refine w_if ?_ | with_reducible refine w_val ?_ | with_reducible refine w_not ?_ | with_reducible refine w_and ?_ | with_reducible refine w_or ?_ | with_reducible refine w_xand ?_ | with_reducible refine w_xor ?_ | with_reducible refine w_no ?_ | with_reducible refine w_so ?_ | with_reducible refine w_sl ?_ | with_reducible refine w_meth ?_ | with_reducible refine w_iseq ?_ | with_reducible refine w_range1 ?_ | with_reducible refine f_seq ?_ | with_reducible refine f_set ?_ | with_reducible refine f_drop ?_ | with_reducible refine f_ret ?_ | with_reducible refine f_if ?_ | with_reducible refine f_nil ?_ | with_reducible refine f_par2 ?_ | with_reducible refine f_put ?_ | with_reducible refine f_asg ?_ | refine z_add _ _ ?_ | refine z_sub _ _ ?_ | refine z_lt _ _ ?_ | refine z_le _ _ ?_ | refine z_gt _ _ ?_ | refine z_ge _ _ ?_ | refine z_eq _ _ ?_ | refine z_eqS _ _ ?_ | refine z_neS _ _ ?_ | refine z_slT _ _ _ ?_ | refine z_slL _ _ _ ?_ | refine z_lenL _ ?_ | refine z_lenT _ ?_ | refine z_tupL _ ?_ | refine z_lstT _ ?_)
  refine z_ixT _ _ rfl ?_
  repeat (first | with_reducible refine w_slot rfl ?_ | with_reducible refine w_slot (by with_unfolding_all rfl) ?_ | with_reducible refine w_lc ?_ | with_reducible refine w_c ?_ | with_reducible refine w_bin ?_ | with_reducible refine w_un ?_ | with_reducible refine w_tup ?_ | with_reducible refine w_lst ?_ | with_reducible refine w_lstC ?_ | with_reducible refine w_call ?_ | with_reducible refine w_nil ?_ | with_reducible refine w_cons ?_ | with_reducible refine w_if ?_ | with_reducible refine w_val ?_ | with_reducible refine w_not ?_ | with_reducible refine w_and ?_ | with_reducible refine w_or ?_ | with_reducible refine w_xand ?_ | with_reducible refine w_xor ?_ | with_reducible refine w_no ?_ | with_reducible refine w_so ?_ | with_reducible refine w_sl ?_ | with_reducible refine w_meth ?_ | with_reducible refine w_iseq ?_ | with_reducible refine w_range1 ?_ | with_reducible refine f_seq ?_ | with_reducible refine f_set ?_ | with_reducible refine f_drop ?_ | with_reducible refine f_ret ?_ | with_reducible refine f_if ?_ | with_reducible refine f_nil ?_ | with_reducible refine f_par2 ?_ | with_reducible refine f_put ?_ | with_reducible refine f_asg ?_ | refine z_add _ _ ?_ | refine z_sub _ _ ?_ | refine z_lt _ _ ?_ | refine z_le _ _ ?_ | refine z_gt _ _ ?_ | refine z_ge _ _ ?_ | refine z_eq _ _ ?_ | refine z_eqS _ _ ?_ | refine z_neS _ _ ?_ | refine z_slT _ _ _ ?_ | refine z_slL _ _ _ ?_ | refine z_lenL _ ?_ | refine z_lenT _ ?_ | refine z_tupL _ ?_ | refine z_lstT _ ?_)
  refine ⟨_, rfl, fun c1 => ?_, fun c1 => ?_⟩
  · repeat (first | with_reducible refine w_slot rfl ?_ | with_reducible refine w_slot (by with_unfolding_all rfl) ?_ | with_reducible refine w_lc ?_ | with_reducible refine w_c ?_ | with_reducible refine w_bin ?_ | with_reducible refine w_un ?_ | with_reducible refine w_tup ?_ | with_reducible refine w_lst ?_ | with_reducible refine w_lstC ?_ | with_reducible refine w_call ?_ | with_reducible refine w_nil ?_ | with_reducible refine w_cons ?_ | with_reducible refine w_if ?_ | with_reducible refine w_val ?_ | with_reducible refine w_not ?_ | with_reducible refine w_and ?_ | with_reducible refine w_or ?_ | with_reducible refine w_xand ?_ | with_reducible refine w_xor ?_ | with_reducible refine w_no ?_ | with_reducible refine w_so ?_ | with_reducible refine w_sl ?_ | with_reducible refine w_meth ?_ | with_reducible refine w_iseq ?_ | with_reducible refine w_range1 ?_ | with_reducible refine f_seq ?_ | with_reducible refine f_set ?_ | with_reducible refine f_drop ?_ | with_reducible refine f_ret ?_ | with_reducible refine f_if ?_ | with_reducible refine f_nil ?_ | with_reducible refine f_par2 ?_ | with_reducible refine f_put ?_ | with_reducible refine f_asg ?_ | refine z_add _ _ ?_ | refine z_sub _ _ ?_ | refine z_lt _ _ ?_ | refine z_le _ _ ?_ | refine z_gt _ _ ?_ | refine z_ge _ _ ?_ | refine z_eq _ _ ?_ | refine z_eqS _ _ ?_ | refine z_neS _ _ ?_ | refine z_slT _ _ _ ?_ | refine z_slL _ _ _ ?_ | refine z_lenL _ ?_ | refine z_lenT _ ?_ | refine z_tupL _ ?_ | refine z_lstT _ ?_)
    refine z_ixT _ _ rfl ?_
    repeat (first | with_reducible refine w_slot rfl ?_ | with_reducible refine w_slot (by with_unfolding_all rfl) ?_ | with_reducible refine w_lc ?_ | with_reducible refine w_c ?_ | with_reducible refine w_bin ?_ | with_reducible refine w_un ?_ | with_reducible refine w_tup ?_ | with_reducible refine w_lst ?_ | with_reducible refine w_lstC ?_ | with_reducible refine w_call ?_ | with_reducible refine w_nil ?_ | with_reducible refine w_cons ?_ | with_reducible refine w_if ?_ | with_reducible refine w_val ?_ | with_reducible refine w_not ?_ | with_reducible refine w_and ?_ | with_reducible refine w_or ?_ | with_reducible refine w_xand ?_ | with_reducible refine w_xor ?_ | with_reducible refine w_no ?_ | with_reducible refine w_so ?_ | with_reducible refine w_sl ?_ | with_reducible refine w_meth ?_ | with_reducible refine w_iseq ?_ | with_reducible refine w_range1 ?_ | with_reducible refine f_seq ?_ | with_reducible refine f_set ?_ | with_reducible refine f_drop ?_ | with_reducible refine f_ret ?_ | with_reducible refine f_if ?_ | with_reducible refine f_nil ?_ | with_reducible refine f_par2 ?_ | with_reducible refine f_put ?_ | with_reducible refine f_asg ?_ | refine z_add _ _ ?_ | refine z_sub _ _ ?_ | refine z_lt _ _ ?_ | refine z_le _ _ ?_ | refine z_gt _ _ ?_ | refine z_ge _ _ ?_ | refine z_eq _ _ ?_ | refine z_eqS _ _ ?_ | refine z_neS _ _ ?_ | refine z_slT _ _ _ ?_ | refine z_slL _ _ _ ?_ | refine z_lenL _ ?_ | refine z_lenT _ ?_ | refine z_tupL _ ?_ | refine z_lstT _ ?_)
    refine ⟨_, rfl, fun c2 => ?_, fun c2 => ?_⟩
    · rw [if_pos ⟨of_decide_eq_true c1, of_decide_eq_true c2⟩] at q
      repeat (first | with_reducible refine w_slot rfl ?_ | with_reducible refine w_slot (by with_unfolding_all rfl) ?_ | with_reducible refine w_lc ?_ | with_reducible refine w_c ?_ | with_reducible refine w_bin ?_ | with_reducible refine w_un ?_ | with_reducible refine w_tup ?_ | with_reducible refine w_lst ?_ | with_reducible refine w_lstC ?_ | with_reducible refine w_call ?_ | with_reducible refine w_nil ?_ | with_reducible refine w_cons ?_ | with_reducible refine w_if ?_ | with_reducible refine w_val ?_ | with_reducible refine w_not ?_ | with_reducible refine w_and ?_ | with_reducible refine w_or ?_ | with_reducible refine w_xand ?_ | with_reducible refine w_xor ?_ | with_reducible refine w_no ?_ | with_reducible refine w_so ?_ | with_reducible refine w_sl ?_ | with_reducible refine w_meth ?_ | with_reducible refine w_iseq ?_ | with_reducible refine w_range1 ?_ | with_reducible refine f_seq ?_ | with_reducible refine f_set ?_ | with_reducible refine f_drop ?_ | with_reducible refine f_ret ?_ | with_reducible refine f_if ?_ | with_reducible refine f_nil ?_ | with_reducible refine f_par2 ?_ | with_reducible refine f_put ?_ | with_reducible refine f_asg ?_ | refine z_add _ _ ?_ | refine z_sub _ _ ?_ | refine z_lt _ _ ?_ | refine z_le _ _ ?_ | refine z_gt _ _ ?_ | refine z_ge _ _ ?_ | refine z_eq _ _ ?_ | refine z_eqS _ _ ?_ | refine z_neS _ _ ?_ | refine z_slT _ _ _ ?_ | refine z_slL _ _ _ ?_ | refine z_lenL _ ?_ | refine z_lenT _ ?_ | refine z_tupL _ ?_ | refine z_lstT _ ?_)
      refine z_ixT _ _ rfl ?_
      repeat (first | with_reducible refine w_slot rfl ?_ | with_reducible refine w_slot (by with_unfolding_all rfl) ?_ | with_reducible refine w_lc ?_ | with_reducible refine w_c ?_ | with_reducible refine w_bin ?_ | with_reducible refine w_un ?_ | with_reducible refine w_tup ?_ | with_reducible refine w_lst ?_ | with_reducible refine w_lstC ?_ | with_reducible refine w_call ?_ | with_reducible refine w_nil ?_ | with_reducible refine w_cons ?_ | with_reducible refine w_if ?_ | with_reducible refine w_val ?_ | with_reducible refine w_not ?_ | with_reducible refine w_and ?_ | with_reducible refine w_or ?_ | with_reducible refine w_xand ?_ | with_reducible refine w_xor ?_ | with_reducible refine w_no ?_ | with_reducible refine w_so ?_ | with_reducible refine w_sl ?_ | with_reducible refine w_meth ?_ | with_reducible refine w_iseq ?_ | with_reducible refine w_range1 ?_ | with_reducible refine f_seq ?_ | with_reducible refine f_set ?_ | with_reducible refine f_drop ?_ | with_reducible refine f_ret ?_ | with_reducible refine f_if ?_ | with_reducible refine f_nil ?_ | with_reducible refine f_par2 ?_ | with_reducible refine f_put ?_ | with_reducible refine f_asg ?_ | refine z_add _ _ ?_ | refine z_sub _ _ ?_ | refine z_lt _ _ ?_ | refine z_le _ _ ?_ | refine z_gt _ _ ?_ | refine z_ge _ _ ?_ | refine z_eq _ _ ?_ | refine z_eqS _ _ ?_ | refine z_neS _ _ ?_ | refine z_slT _ _ _ ?_ | refine z_slL _ _ _ ?_ | refine z_lenL _ ?_ | refine z_lenT _ ?_ | refine z_tupL _ ?_ | refine z_lstT _ ?_)
      refine w_lturned lr ?_
      repeat (first | with_reducible refine w_slot rfl ?_ | with_reducible refine w_slot (by with_unfolding_all rfl) ?_ | with_reducible refine w_lc ?_ | with_reducible refine w_c ?_ | with_reducible refine w_bin ?_ | with_reducible refine w_un ?_ | with_reducible refine w_tup ?_ | with_reducible refine w_lst ?_ | with_reducible refine w_lstC ?_ | with_reducible refine w_call ?_ | with_reducible refine w_nil ?_ | with_reducible refine w_cons ?_ | with_reducible refine w_if ?_ | with_reducible refine w_val ?_ | with_reducible refine w_not ?_ | with_reducible refine w_and ?_ | with_reducible refine w_or ?_ | with_reducible refine w_xand ?_ | with_reducible refine w_xor ?_ | with_reducible refine w_no ?_ | with_reducible refine w_so ?_ | with_reducible refine w_sl ?_ | with_reducible refine w_meth ?_ | with_reducible refine w_iseq ?_ | with_reducible refine w_range1 ?_ | with_reducible refine f_seq ?_ | with_reducible refine f_set ?_ | with_reducible refine f_drop ?_ | with_reducible refine f_ret ?_ | with_reducible refine f_if ?_ | with_reducible refine f_nil ?_ | with_reducible refine f_par2 ?_ | with_reducible refine f_put ?_ | with_reducible refine f_asg ?_ | refine z_add _ _ ?_ | refine z_sub _ _ ?_ | refine z_lt _ _ ?_ | refine z_le _ _ ?_ | refine z_gt _ _ ?_ | refine z_ge _ _ ?_ | refine z_eq _ _ ?_ | refine z_eqS _ _ ?_ | refine z_neS _ _ ?_ | refine z_slT _ _ _ ?_ | refine z_slL _ _ _ ?_ | refine z_lenL _ ?_ | refine z_lenT _ ?_ | refine z_tupL _ ?_ | refine z_lstT _ ?_)
      exact z_inT hp tp.1 tp.2 (fin_same q)
    · rw [if_neg fun z => of_decide_eq_false c2 z.2] at q
      exact fin_same q
  · rw [if_neg fun z => of_decide_eq_false c1 z.1] at q
    exact fin_same q
end
end Lw
end
section
set_option Elab.async false
set_option linter.all false
set_option maxRecDepth 100000
set_option maxHeartbeats 1000000
namespace Lw
open PySem NB
def fewB (k m : Nat) : Bool := decide ((ordL k).length ≤ m) && (ordL k).all fun row => decide (row.length ≤ 4) && row.all fun i => decide (0 ≤ i) && decide (i < 4)
theorem few2 : fewB 2 80 = true := by decide +kernel
theorem few4 : fewB 4 80 = true := by decide +kernel
theorem runFn_keep {N ps : List Str} {body : XSt} {xs : List Val} {S S' : Sto} {v : Val} {ρ' : NB.Env} (hl : xs.length = ps.length) (hb : body (xs.map some ++ List.replicate (N.length - xs.length) none) S = .ok (.ret v) ρ' S') : runFn N ps true body xs S = .ok v S' := by
  unfold runFn
  rw [if_pos hl, hb]
  rfl
theorem pen_ok (n : Nat) (ns : List Int) : fns T ds (n + 1) "_law_pen" [.scr ns] [] = .ok (.loc 0) [P (cutL ns none (some 63)) 0 0] := by
  rw [f_law_pen]
  have e1 : (xUn gList (xSl (xSlot 0) oNo (oSo (xC (.int 63))))) [some (.scr ns)] [] = .ok (.dat (.list (cutL (ns.map .int) none (some 63)))) [] := by
    refine xun_eq (x := .dat (.list (cutL (ns.map .int) none (some 63)))) (S1 := []) rfl ?_
    unfold gList
    rw [items_list, Option.bind_some, allDat_map]; rfl
  have e2 : (xLstC (aCons (xUn gList (xSl (xSlot 0) oNo (oSo (xC (.int 63))))) (aCons (xC (.int 0)) (aCons (xC (.int 0)) aNil)))) [some (.scr ns)] [] = .ok (.loc 0) [P (cutL ns none (some 63)) 0 0] := by
    unfold xLstC
    rw [acons_eq e1 (acons_eq rfl (acons_eq rfl rfl)), cutL_map]
    simp only [Res.bind_ok]
    unfold newCell
    rw [if_pos (by simp [Cell.under])]
    rfl
  exact runFn_keep rfl (ret_eq e2)
theorem w_penStart {n : Nat} {ns : List Int} {Q : Val → Sto → Prop} (q : ∀ g S', SP g [] S' → Q (.loc 0) S') : okR (fns T ds (n + 1) "_law_pen" [.scr ns] []) Q :=
  okR_of (pen_ok n ns) (q _ _ ⟨0, 0, Int.le_refl _, rfl⟩)
theorem okR_eq {α : Type} {r : Res α} {a : α} {S0 : Sto} (h : okR r fun v S' => v = a ∧ S' = S0) : r = .ok a S0 := by
  obtain ⟨v, S', e, rfl, rfl⟩ := okR_get h
  exact e
theorem z_lenS {S : Sto} {ns : List Int} {q0 : Val → Prop} (q : q0 (.dat (.int ns.length))) : ∃ z, gLen S (.scr ns) = some z ∧ q0 z := ⟨_, by show some (Val.dat (.int ((ns.map fun n => Val.dat (.int n)).length : Nat))) = _; rw [List.length_map], q⟩
theorem ordL_ok {m : Int} {k : Nat} (M : MK m k) : (∀ d ∈ (ordL k).map tup, IsO k d) ∧ ((ordL k).map tup).length ≤ 80 := by
  have hf : fewB k 80 = true := by
    rcases M.kk with rfl | rfl
    · exact few2
    · exact few4
  unfold fewB at hf
  simp only [Bool.and_eq_true, decide_eq_true_eq, List.all_eq_true] at hf
  refine ⟨fun d hd => ?_, by rw [List.length_map]; exact hf.1⟩
  obtain ⟨row, hr, rfl⟩ := List.mem_map.mp hd
  refine ⟨row, rfl, row_len k row (List.mem_filter.mp hr).1, fun x hx => ?_⟩
  have := (hf.2 row hr).2 x hx
  omega
/-! tables by comparisons -/
section
variable {n : Nat} {g : List Int} {R : Sto} {k : Nat} {m : Int} {S : Sto} {Q : Val → Sto → Prop} {D : Flw → NB.Env → Sto → Prop}
theorem w_kept_orders (h : SP g R S) (M : MK m k) (q : ∀ fs S', (∀ d ∈ fs, IsO k d) → fs.length ≤ 80 → SP g R S' → Q (.dat (.list fs)) S') : okR (fns T ds (n + 3) "_law_kept_orders" [.loc 0, .dat (.int m)] S) Q := by
  have m2 : mulOk 2 m = true := mulOk_l (by decide) (by decide)
  have hk := M.pos
  have hm := M.two
  have hk4 := M.le
  rw [f_law_kept_orders]
  refine w_fn rfl ?_
  repeat (first | with_reducible refine w_slot rfl ?_ | with_reducible refine w_slot (by with_unfolding_all rfl) ?_ | with_reducible refine w_lc ?_ | with_reducible refine w_c ?_ | with_reducible refine w_bin ?_ | with_reducible refine w_un ?_ | with_reducible refine w_tup ?_ | with_reducible refine w_lst ?_ | with_reducible refine w_lstC ?_ | with_reducible refine w_call ?_ | with_reducible refine w_nil ?_ | with_reducible refine w_cons ?_ | with_reducible refine w_if ?_ | with_reducible refine w_val ?_ | with_reducible refine w_not ?_ | with_reducible refine w_and ?_ | with_reducible refine w_or ?_ | with_reducible refine w_xand ?_ | with_reducible refine w_xor ?_ | with_reducible refine w_no ?_ | with_reducible refine w_so ?_ | with_reducible refine w_sl ?_ | with_reducible refine w_meth ?_ | with_reducible refine w_iseq ?_ | with_reducible refine w_range1 ?_ | with_reducible refine f_seq ?_ | with_reducible refine f_set ?_ | with_reducible refine f_drop ?_ | with_reducible refine f_ret ?_ | with_reducible refine f_if ?_ | with_reducible refine f_nil ?_ | with_reducible refine f_par2 ?_ | with_reducible refine f_put ?_ | with_reducible refine f_asg ?_ | refine z_add _ _ ?_ | refine z_sub _ _ ?_ | refine z_lt _ _ ?_ | refine z_le _ _ ?_ | refine z_gt _ _ ?_ | refine z_ge _ _ ?_ | refine z_eq _ _ ?_ | refine z_eqS _ _ ?_ | refine z_neS _ _ ?_ | refine z_slT _ _ _ ?_ | refine z_slL _ _ _ ?_ | refine z_lenL _ ?_ | refine z_lenT _ ?_ | refine z_tupL _ ?_ | refine z_lstT _ ?_)
  refine w_orders M.le M.two ?_
  refine f_seq (f_for (fun ρ S => ∃ (a b c d : Option Val) (es : List PyData), ρ = [some (.loc 0), some (.dat (.int m)), some (.dat (.list es)), a, b, c, d] ∧ SP g R S ∧ (∀ e ∈ es, IsO k e) ∧ es.length ≤ 80) ?_ ?_)
  · repeat (first | with_reducible refine w_slot rfl ?_ | with_reducible refine w_slot (by with_unfolding_all rfl) ?_ | with_reducible refine w_lc ?_ | with_reducible refine w_c ?_ | with_reducible refine w_bin ?_ | with_reducible refine w_un ?_ | with_reducible refine w_tup ?_ | with_reducible refine w_lst ?_ | with_reducible refine w_lstC ?_ | with_reducible refine w_call ?_ | with_reducible refine w_nil ?_ | with_reducible refine w_cons ?_ | with_reducible refine w_if ?_ | with_reducible refine w_val ?_ | with_reducible refine w_not ?_ | with_reducible refine w_and ?_ | with_reducible refine w_or ?_ | with_reducible refine w_xand ?_ | with_reducible refine w_xor ?_ | with_reducible refine w_no ?_ | with_reducible refine w_so ?_ | with_reducible refine w_sl ?_ | with_reducible refine w_meth ?_ | with_reducible refine w_iseq ?_ | with_reducible refine w_range1 ?_ | with_reducible refine f_seq ?_ | with_reducible refine f_set ?_ | with_reducible refine f_drop ?_ | with_reducible refine f_ret ?_ | with_reducible refine f_if ?_ | with_reducible refine f_nil ?_ | with_reducible refine f_par2 ?_ | with_reducible refine f_put ?_ | with_reducible refine f_asg ?_ | refine z_add _ _ ?_ | refine z_sub _ _ ?_ | refine z_lt _ _ ?_ | refine z_le _ _ ?_ | refine z_gt _ _ ?_ | refine z_ge _ _ ?_ | refine z_eq _ _ ?_ | refine z_eqS _ _ ?_ | refine z_neS _ _ ?_ | refine z_slT _ _ _ ?_ | refine z_slL _ _ _ ?_ | refine z_lenL _ ?_ | refine z_lenT _ ?_ | refine z_tupL _ ?_ | refine z_lstT _ ?_)
    refine w_draw h (by decide) (by decide) fun v S1 v0 v1 h1 => ?_
    repeat (first | with_reducible refine w_slot rfl ?_ | with_reducible refine w_slot (by with_unfolding_all rfl) ?_ | with_reducible refine w_lc ?_ | with_reducible refine w_c ?_ | with_reducible refine w_bin ?_ | with_reducible refine w_un ?_ | with_reducible refine w_tup ?_ | with_reducible refine w_lst ?_ | with_reducible refine w_lstC ?_ | with_reducible refine w_call ?_ | with_reducible refine w_nil ?_ | with_reducible refine w_cons ?_ | with_reducible refine w_if ?_ | with_reducible refine w_val ?_ | with_reducible refine w_not ?_ | with_reducible refine w_and ?_ | with_reducible refine w_or ?_ | with_reducible refine w_xand ?_ | with_reducible refine w_xor ?_ | with_reducible refine w_no ?_ | with_reducible refine w_so ?_ | with_reducible refine w_sl ?_ | with_reducible refine w_meth ?_ | with_reducible refine w_iseq ?_ | with_reducible refine w_range1 ?_ | with_reducible refine f_seq ?_ | with_reducible refine f_set ?_ | with_reducible refine f_drop ?_ | with_reducible refine f_ret ?_ | with_reducible refine f_if ?_ | with_reducible refine f_nil ?_ | with_reducible refine f_par2 ?_ | with_reducible refine f_put ?_ | with_reducible refine f_asg ?_ | refine z_add _ _ ?_ | refine z_sub _ _ ?_ | refine z_lt _ _ ?_ | refine z_le _ _ ?_ | refine z_gt _ _ ?_ | refine z_ge _ _ ?_ | refine z_eq _ _ ?_ | refine z_eqS _ _ ?_ | refine z_neS _ _ ?_ | refine z_slT _ _ _ ?_ | refine z_slL _ _ _ ?_ | refine z_lenL _ ?_ | refine z_lenT _ ?_ | refine z_tupL _ ?_ | refine z_lstT _ ?_)
    refine ⟨_, rfl, rOk_i (by omega) (by omega), fun _ _ _ => trivial, ⟨none, none, none, none, (ordL k).map tup, rfl, h1, (ordL_ok M).1, (ordL_ok M).2⟩, ?_⟩
    rintro x hx ρ S2 ⟨a, b, c, d, es, rfl, h2, he, hl⟩
    refine ⟨_, rfl, ?_⟩
    repeat (first | with_reducible refine w_slot rfl ?_ | with_reducible refine w_slot (by with_unfolding_all rfl) ?_ | with_reducible refine w_lc ?_ | with_reducible refine w_c ?_ | with_reducible refine w_bin ?_ | with_reducible refine w_un ?_ | with_reducible refine w_tup ?_ | with_reducible refine w_lst ?_ | with_reducible refine w_lstC ?_ | with_reducible refine w_call ?_ | with_reducible refine w_nil ?_ | with_reducible refine w_cons ?_ | with_reducible refine w_if ?_ | with_reducible refine w_val ?_ | with_reducible refine w_not ?_ | with_reducible refine w_and ?_ | with_reducible refine w_or ?_ | with_reducible refine w_xand ?_ | with_reducible refine w_xor ?_ | with_reducible refine w_no ?_ | with_reducible refine w_so ?_ | with_reducible refine w_sl ?_ | with_reducible refine w_meth ?_ | with_reducible refine w_iseq ?_ | with_reducible refine w_range1 ?_ | with_reducible refine f_seq ?_ | with_reducible refine f_set ?_ | with_reducible refine f_drop ?_ | with_reducible refine f_ret ?_ | with_reducible refine f_if ?_ | with_reducible refine f_nil ?_ | with_reducible refine f_par2 ?_ | with_reducible refine f_put ?_ | with_reducible refine f_asg ?_ | refine z_add _ _ ?_ | refine z_sub _ _ ?_ | refine z_lt _ _ ?_ | refine z_le _ _ ?_ | refine z_gt _ _ ?_ | refine z_ge _ _ ?_ | refine z_eq _ _ ?_ | refine z_eqS _ _ ?_ | refine z_neS _ _ ?_ | refine z_slT _ _ _ ?_ | refine z_slL _ _ _ ?_ | refine z_lenL _ ?_ | refine z_lenT _ ?_ | refine z_tupL _ ?_ | refine z_lstT _ ?_)
    refine z_mul _ _ m2 ?_
    repeat (first | with_reducible refine w_slot rfl ?_ | with_reducible refine w_slot (by with_unfolding_all rfl) ?_ | with_reducible refine w_lc ?_ | with_reducible refine w_c ?_ | with_reducible refine w_bin ?_ | with_reducible refine w_un ?_ | with_reducible refine w_tup ?_ | with_reducible refine w_lst ?_ | with_reducible refine w_lstC ?_ | with_reducible refine w_call ?_ | with_reducible refine w_nil ?_ | with_reducible refine w_cons ?_ | with_reducible refine w_if ?_ | with_reducible refine w_val ?_ | with_reducible refine w_not ?_ | with_reducible refine w_and ?_ | with_reducible refine w_or ?_ | with_reducible refine w_xand ?_ | with_reducible refine w_xor ?_ | with_reducible refine w_no ?_ | with_reducible refine w_so ?_ | with_reducible refine w_sl ?_ | with_reducible refine w_meth ?_ | with_reducible refine w_iseq ?_ | with_reducible refine w_range1 ?_ | with_reducible refine f_seq ?_ | with_reducible refine f_set ?_ | with_reducible refine f_drop ?_ | with_reducible refine f_ret ?_ | with_reducible refine f_if ?_ | with_reducible refine f_nil ?_ | with_reducible refine f_par2 ?_ | with_reducible refine f_put ?_ | with_reducible refine f_asg ?_ | refine z_add _ _ ?_ | refine z_sub _ _ ?_ | refine z_lt _ _ ?_ | refine z_le _ _ ?_ | refine z_gt _ _ ?_ | refine z_ge _ _ ?_ | refine z_eq _ _ ?_ | refine z_eqS _ _ ?_ | refine z_neS _ _ ?_ | refine z_slT _ _ _ ?_ | refine z_slL _ _ _ ?_ | refine z_lenL _ ?_ | refine z_lenT _ ?_ | refine z_tupL _ ?_ | refine z_lstT _ ?_)
    rw [hm]
    refine w_draw h2 (by omega) (by omega) fun one S3 o0 o1 h3 => ?_
    repeat (first | with_reducible refine w_slot rfl ?_ | with_reducible refine w_slot (by with_unfolding_all rfl) ?_ | with_reducible refine w_lc ?_ | with_reducible refine w_c ?_ | with_reducible refine w_bin ?_ | with_reducible refine w_un ?_ | with_reducible refine w_tup ?_ | with_reducible refine w_lst ?_ | with_reducible refine w_lstC ?_ | with_reducible refine w_call ?_ | with_reducible refine w_nil ?_ | with_reducible refine w_cons ?_ | with_reducible refine w_if ?_ | with_reducible refine w_val ?_ | with_reducible refine w_not ?_ | with_reducible refine w_and ?_ | with_reducible refine w_or ?_ | with_reducible refine w_xand ?_ | with_reducible refine w_xor ?_ | with_reducible refine w_no ?_ | with_reducible refine w_so ?_ | with_reducible refine w_sl ?_ | with_reducible refine w_meth ?_ | with_reducible refine w_iseq ?_ | with_reducible refine w_range1 ?_ | with_reducible refine f_seq ?_ | with_reducible refine f_set ?_ | with_reducible refine f_drop ?_ | with_reducible refine f_ret ?_ | with_reducible refine f_if ?_ | with_reducible refine f_nil ?_ | with_reducible refine f_par2 ?_ | with_reducible refine f_put ?_ | with_reducible refine f_asg ?_ | refine z_add _ _ ?_ | refine z_sub _ _ ?_ | refine z_lt _ _ ?_ | refine z_le _ _ ?_ | refine z_gt _ _ ?_ | refine z_ge _ _ ?_ | refine z_eq _ _ ?_ | refine z_eqS _ _ ?_ | refine z_neS _ _ ?_ | refine z_slT _ _ _ ?_ | refine z_slL _ _ _ ?_ | refine z_lenL _ ?_ | refine z_lenT _ ?_ | refine z_tupL _ ?_ | refine z_lstT _ ?_)
    refine z_mul _ _ m2 ?_
    repeat (first | with_reducible refine w_slot rfl ?_ | with_reducible refine w_slot (by with_unfolding_all rfl) ?_ | with_reducible refine w_lc ?_ | with_reducible refine w_c ?_ | with_reducible refine w_bin ?_ | with_reducible refine w_un ?_ | with_reducible refine w_tup ?_ | with_reducible refine w_lst ?_ | with_reducible refine w_lstC ?_ | with_reducible refine w_call ?_ | with_reducible refine w_nil ?_ | with_reducible refine w_cons ?_ | with_reducible refine w_if ?_ | with_reducible refine w_val ?_ | with_reducible refine w_not ?_ | with_reducible refine w_and ?_ | with_reducible refine w_or ?_ | with_reducible refine w_xand ?_ | with_reducible refine w_xor ?_ | with_reducible refine w_no ?_ | with_reducible refine w_so ?_ | with_reducible refine w_sl ?_ | with_reducible refine w_meth ?_ | with_reducible refine w_iseq ?_ | with_reducible refine w_range1 ?_ | with_reducible refine f_seq ?_ | with_reducible refine f_set ?_ | with_reducible refine f_drop ?_ | with_reducible refine f_ret ?_ | with_reducible refine f_if ?_ | with_reducible refine f_nil ?_ | with_reducible refine f_par2 ?_ | with_reducible refine f_put ?_ | with_reducible refine f_asg ?_ | refine z_add _ _ ?_ | refine z_sub _ _ ?_ | refine z_lt _ _ ?_ | refine z_le _ _ ?_ | refine z_gt _ _ ?_ | refine z_ge _ _ ?_ | refine z_eq _ _ ?_ | refine z_eqS _ _ ?_ | refine z_neS _ _ ?_ | refine z_slT _ _ _ ?_ | refine z_slL _ _ _ ?_ | refine z_lenL _ ?_ | refine z_lenT _ ?_ | refine z_tupL _ ?_ | refine z_lstT _ ?_)
    rw [hm]
    refine w_draw h3 (by omega) (by omega) fun oth S4 p0 p1 h4 => ?_
    repeat (first | with_reducible refine w_slot rfl ?_ | with_reducible refine w_slot (by with_unfolding_all rfl) ?_ | with_reducible refine w_lc ?_ | with_reducible refine w_c ?_ | with_reducible refine w_bin ?_ | with_reducible refine w_un ?_ | with_reducible refine w_tup ?_ | with_reducible refine w_lst ?_ | with_reducible refine w_lstC ?_ | with_reducible refine w_call ?_ | with_reducible refine w_nil ?_ | with_reducible refine w_cons ?_ | with_reducible refine w_if ?_ | with_reducible refine w_val ?_ | with_reducible refine w_not ?_ | with_reducible refine w_and ?_ | with_reducible refine w_or ?_ | with_reducible refine w_xand ?_ | with_reducible refine w_xor ?_ | with_reducible refine w_no ?_ | with_reducible refine w_so ?_ | with_reducible refine w_sl ?_ | with_reducible refine w_meth ?_ | with_reducible refine w_iseq ?_ | with_reducible refine w_range1 ?_ | with_reducible refine f_seq ?_ | with_reducible refine f_set ?_ | with_reducible refine f_drop ?_ | with_reducible refine f_ret ?_ | with_reducible refine f_if ?_ | with_reducible refine f_nil ?_ | with_reducible refine f_par2 ?_ | with_reducible refine f_put ?_ | with_reducible refine f_asg ?_ | refine z_add _ _ ?_ | refine z_sub _ _ ?_ | refine z_lt _ _ ?_ | refine z_le _ _ ?_ | refine z_gt _ _ ?_ | refine z_ge _ _ ?_ | refine z_eq _ _ ?_ | refine z_eqS _ _ ?_ | refine z_neS _ _ ?_ | refine z_slT _ _ _ ?_ | refine z_slL _ _ _ ?_ | refine z_lenL _ ?_ | refine z_lenT _ ?_ | refine z_tupL _ ?_ | refine z_lstT _ ?_)
    refine ⟨[.int one, .int oth], rfl, ?_⟩
    refine ⟨_, rfl, ?_⟩
    refine f_ifP (SP g R) ?_ (fun S5 h5 => ?_) fun S5 h5 => ?_
    · repeat (first | with_reducible refine w_slot rfl ?_ | with_reducible refine w_slot (by with_unfolding_all rfl) ?_ | with_reducible refine w_lc ?_ | with_reducible refine w_c ?_ | with_reducible refine w_bin ?_ | with_reducible refine w_un ?_ | with_reducible refine w_tup ?_ | with_reducible refine w_lst ?_ | with_reducible refine w_lstC ?_ | with_reducible refine w_call ?_ | with_reducible refine w_nil ?_ | with_reducible refine w_cons ?_ | with_reducible refine w_if ?_ | with_reducible refine w_val ?_ | with_reducible refine w_not ?_ | with_reducible refine w_and ?_ | with_reducible refine w_or ?_ | with_reducible refine w_xand ?_ | with_reducible refine w_xor ?_ | with_reducible refine w_no ?_ | with_reducible refine w_so ?_ | with_reducible refine w_sl ?_ | with_reducible refine w_meth ?_ | with_reducible refine w_iseq ?_ | with_reducible refine w_range1 ?_ | with_reducible refine f_seq ?_ | with_reducible refine f_set ?_ | with_reducible refine f_drop ?_ | with_reducible refine f_ret ?_ | with_reducible refine f_if ?_ | with_reducible refine f_nil ?_ | with_reducible refine f_par2 ?_ | with_reducible refine f_put ?_ | with_reducible refine f_asg ?_ | refine z_add _ _ ?_ | refine z_sub _ _ ?_ | refine z_lt _ _ ?_ | refine z_le _ _ ?_ | refine z_gt _ _ ?_ | refine z_ge _ _ ?_ | refine z_eq _ _ ?_ | refine z_eqS _ _ ?_ | refine z_neS _ _ ?_ | refine z_slT _ _ _ ?_ | refine z_slL _ _ _ ?_ | refine z_lenL _ ?_ | refine z_lenT _ ?_ | refine z_tupL _ ?_ | refine z_lstT _ ?_)
      refine w_draw h4 (by decide) (by decide) fun v5 S5 _ _ h5 => ?_
      repeat (first | with_reducible refine w_slot rfl ?_ | with_reducible refine w_slot (by with_unfolding_all rfl) ?_ | with_reducible refine w_lc ?_ | with_reducible refine w_c ?_ | with_reducible refine w_bin ?_ | with_reducible refine w_un ?_ | with_reducible refine w_tup ?_ | with_reducible refine w_lst ?_ | with_reducible refine w_lstC ?_ | with_reducible refine w_call ?_ | with_reducible refine w_nil ?_ | with_reducible refine w_cons ?_ | with_reducible refine w_if ?_ | with_reducible refine w_val ?_ | with_reducible refine w_not ?_ | with_reducible refine w_and ?_ | with_reducible refine w_or ?_ | with_reducible refine w_xand ?_ | with_reducible refine w_xor ?_ | with_reducible refine w_no ?_ | with_reducible refine w_so ?_ | with_reducible refine w_sl ?_ | with_reducible refine w_meth ?_ | with_reducible refine w_iseq ?_ | with_reducible refine w_range1 ?_ | with_reducible refine f_seq ?_ | with_reducible refine f_set ?_ | with_reducible refine f_drop ?_ | with_reducible refine f_ret ?_ | with_reducible refine f_if ?_ | with_reducible refine f_nil ?_ | with_reducible refine f_par2 ?_ | with_reducible refine f_put ?_ | with_reducible refine f_asg ?_ | refine z_add _ _ ?_ | refine z_sub _ _ ?_ | refine z_lt _ _ ?_ | refine z_le _ _ ?_ | refine z_gt _ _ ?_ | refine z_ge _ _ ?_ | refine z_eq _ _ ?_ | refine z_eqS _ _ ?_ | refine z_neS _ _ ?_ | refine z_slT _ _ _ ?_ | refine z_slL _ _ _ ?_ | refine z_lenL _ ?_ | refine z_lenT _ ?_ | refine z_tupL _ ?_ | refine z_lstT _ ?_)
      exact ⟨_, rfl, h5⟩
    · repeat (first | with_reducible refine w_slot rfl ?_ | with_reducible refine w_slot (by with_unfolding_all rfl) ?_ | with_reducible refine w_lc ?_ | with_reducible refine w_c ?_ | with_reducible refine w_bin ?_ | with_reducible refine w_un ?_ | with_reducible refine w_tup ?_ | with_reducible refine w_lst ?_ | with_reducible refine w_lstC ?_ | with_reducible refine w_call ?_ | with_reducible refine w_nil ?_ | with_reducible refine w_cons ?_ | with_reducible refine w_if ?_ | with_reducible refine w_val ?_ | with_reducible refine w_not ?_ | with_reducible refine w_and ?_ | with_reducible refine w_or ?_ | with_reducible refine w_xand ?_ | with_reducible refine w_xor ?_ | with_reducible refine w_no ?_ | with_reducible refine w_so ?_ | with_reducible refine w_sl ?_ | with_reducible refine w_meth ?_ | with_reducible refine w_iseq ?_ | with_reducible refine w_range1 ?_ | with_reducible refine f_seq ?_ | with_reducible refine f_set ?_ | with_reducible refine f_drop ?_ | with_reducible refine f_ret ?_ | with_reducible refine f_if ?_ | with_reducible refine f_nil ?_ | with_reducible refine f_par2 ?_ | with_reducible refine f_put ?_ | with_reducible refine f_asg ?_ | refine z_add _ _ ?_ | refine z_sub _ _ ?_ | refine z_lt _ _ ?_ | refine z_le _ _ ?_ | refine z_gt _ _ ?_ | refine z_ge _ _ ?_ | refine z_eq _ _ ?_ | refine z_eqS _ _ ?_ | refine z_neS _ _ ?_ | refine z_slT _ _ _ ?_ | refine z_slL _ _ _ ?_ | refine z_lenL _ ?_ | refine z_lenT _ ?_ | refine z_tupL _ ?_ | refine z_lstT _ ?_)
      refine ⟨_, rfl, ?_⟩
      refine okR_mono (lc_inv (fun S' => S' = S5) (IsO k) (fun _ _ => trivial) rfl fun x hx S6 e6 => ?_) fun ys S6 ⟨fs, f1, f2, f3, f4⟩ => ?_
      · obtain ⟨o, ho, rfl⟩ := List.mem_map.mp hx
        obtain ⟨r, rfl, hr⟩ := he o ho
        obtain ⟨x1, e1⟩ := at_ord hr o0 o1
        obtain ⟨x2, e2⟩ := at_ord hr p0 p1
        refine ⟨_, rfl, ?_⟩
        repeat (first | with_reducible refine w_slot rfl ?_ | with_reducible refine w_slot (by with_unfolding_all rfl) ?_ | with_reducible refine w_lc ?_ | with_reducible refine w_c ?_ | with_reducible refine w_bin ?_ | with_reducible refine w_un ?_ | with_reducible refine w_tup ?_ | with_reducible refine w_lst ?_ | with_reducible refine w_lstC ?_ | with_reducible refine w_call ?_ | with_reducible refine w_nil ?_ | with_reducible refine w_cons ?_ | with_reducible refine w_if ?_ | with_reducible refine w_val ?_ | with_reducible refine w_not ?_ | with_reducible refine w_and ?_ | with_reducible refine w_or ?_ | with_reducible refine w_xand ?_ | with_reducible refine w_xor ?_ | with_reducible refine w_no ?_ | with_reducible refine w_so ?_ | with_reducible refine w_sl ?_ | with_reducible refine w_meth ?_ | with_reducible refine w_iseq ?_ | with_reducible refine w_range1 ?_ | with_reducible refine f_seq ?_ | with_reducible refine f_set ?_ | with_reducible refine f_drop ?_ | with_reducible refine f_ret ?_ | with_reducible refine f_if ?_ | with_reducible refine f_nil ?_ | with_reducible refine f_par2 ?_ | with_reducible refine f_put ?_ | with_reducible refine f_asg ?_ | refine z_add _ _ ?_ | refine z_sub _ _ ?_ | refine z_lt _ _ ?_ | refine z_le _ _ ?_ | refine z_gt _ _ ?_ | refine z_ge _ _ ?_ | refine z_eq _ _ ?_ | refine z_eqS _ _ ?_ | refine z_neS _ _ ?_ | refine z_slT _ _ _ ?_ | refine z_slL _ _ _ ?_ | refine z_lenL _ ?_ | refine z_lenT _ ?_ | refine z_tupL _ ?_ | refine z_lstT _ ?_)
        refine z_ixT _ _ e1 ?_
        repeat (first | with_reducible refine w_slot rfl ?_ | with_reducible refine w_slot (by with_unfolding_all rfl) ?_ | with_reducible refine w_lc ?_ | with_reducible refine w_c ?_ | with_reducible refine w_bin ?_ | with_reducible refine w_un ?_ | with_reducible refine w_tup ?_ | with_reducible refine w_lst ?_ | with_reducible refine w_lstC ?_ | with_reducible refine w_call ?_ | with_reducible refine w_nil ?_ | with_reducible refine w_cons ?_ | with_reducible refine w_if ?_ | with_reducible refine w_val ?_ | with_reducible refine w_not ?_ | with_reducible refine w_and ?_ | with_reducible refine w_or ?_ | with_reducible refine w_xand ?_ | with_reducible refine w_xor ?_ | with_reducible refine w_no ?_ | with_reducible refine w_so ?_ | with_reducible refine w_sl ?_ | with_reducible refine w_meth ?_ | with_reducible refine w_iseq ?_ | with_reducible refine w_range1 ?_ | with_reducible refine f_seq ?_ | with_reducible refine f_set ?_ | with_reducible refine f_drop ?_ | with_reducible refine f_ret ?_ | with_reducible refine f_if ?_ | with_reducible refine f_nil ?_ | with_reducible refine f_par2 ?_ | with_reducible refine f_put ?_ | with_reducible refine f_asg ?_ | refine z_add _ _ ?_ | refine z_sub _ _ ?_ | refine z_lt _ _ ?_ | refine z_le _ _ ?_ | refine z_gt _ _ ?_ | refine z_ge _ _ ?_ | refine z_eq _ _ ?_ | refine z_eqS _ _ ?_ | refine z_neS _ _ ?_ | refine z_slT _ _ _ ?_ | refine z_slL _ _ _ ?_ | refine z_lenL _ ?_ | refine z_lenT _ ?_ | refine z_tupL _ ?_ | refine z_lstT _ ?_)
        refine z_ixT _ _ e2 ?_
        repeat (first | with_reducible refine w_slot rfl ?_ | with_reducible refine w_slot (by with_unfolding_all rfl) ?_ | with_reducible refine w_lc ?_ | with_reducible refine w_c ?_ | with_reducible refine w_bin ?_ | with_reducible refine w_un ?_ | with_reducible refine w_tup ?_ | with_reducible refine w_lst ?_ | with_reducible refine w_lstC ?_ | with_reducible refine w_call ?_ | with_reducible refine w_nil ?_ | with_reducible refine w_cons ?_ | with_reducible refine w_if ?_ | with_reducible refine w_val ?_ | with_reducible refine w_not ?_ | with_reducible refine w_and ?_ | with_reducible refine w_or ?_ | with_reducible refine w_xand ?_ | with_reducible refine w_xor ?_ | with_reducible refine w_no ?_ | with_reducible refine w_so ?_ | with_reducible refine w_sl ?_ | with_reducible refine w_meth ?_ | with_reducible refine w_iseq ?_ | with_reducible refine w_range1 ?_ | with_reducible refine f_seq ?_ | with_reducible refine f_set ?_ | with_reducible refine f_drop ?_ | with_reducible refine f_ret ?_ | with_reducible refine f_if ?_ | with_reducible refine f_nil ?_ | with_reducible refine f_par2 ?_ | with_reducible refine f_put ?_ | with_reducible refine f_asg ?_ | refine z_add _ _ ?_ | refine z_sub _ _ ?_ | refine z_lt _ _ ?_ | refine z_le _ _ ?_ | refine z_gt _ _ ?_ | refine z_ge _ _ ?_ | refine z_eq _ _ ?_ | refine z_eqS _ _ ?_ | refine z_neS _ _ ?_ | refine z_slT _ _ _ ?_ | refine z_slL _ _ _ ?_ | refine z_lenL _ ?_ | refine z_lenT _ ?_ | refine z_tupL _ ?_ | refine z_lstT _ ?_)
        refine ⟨_, rfl, fun _ => ?_, fun _ => e6⟩
        repeat (first | with_reducible refine w_slot rfl ?_ | with_reducible refine w_slot (by with_unfolding_all rfl) ?_ | with_reducible refine w_lc ?_ | with_reducible refine w_c ?_ | with_reducible refine w_bin ?_ | with_reducible refine w_un ?_ | with_reducible refine w_tup ?_ | with_reducible refine w_lst ?_ | with_reducible refine w_lstC ?_ | with_reducible refine w_call ?_ | with_reducible refine w_nil ?_ | with_reducible refine w_cons ?_ | with_reducible refine w_if ?_ | with_reducible refine w_val ?_ | with_reducible refine w_not ?_ | with_reducible refine w_and ?_ | with_reducible refine w_or ?_ | with_reducible refine w_xand ?_ | with_reducible refine w_xor ?_ | with_reducible refine w_no ?_ | with_reducible refine w_so ?_ | with_reducible refine w_sl ?_ | with_reducible refine w_meth ?_ | with_reducible refine w_iseq ?_ | with_reducible refine w_range1 ?_ | with_reducible refine f_seq ?_ | with_reducible refine f_set ?_ | with_reducible refine f_drop ?_ | with_reducible refine f_ret ?_ | with_reducible refine f_if ?_ | with_reducible refine f_nil ?_ | with_reducible refine f_par2 ?_ | with_reducible refine f_put ?_ | with_reducible refine f_asg ?_ | refine z_add _ _ ?_ | refine z_sub _ _ ?_ | refine z_lt _ _ ?_ | refine z_le _ _ ?_ | refine z_gt _ _ ?_ | refine z_ge _ _ ?_ | refine z_eq _ _ ?_ | refine z_eqS _ _ ?_ | refine z_neS _ _ ?_ | refine z_slT _ _ _ ?_ | refine z_slL _ _ _ ?_ | refine z_lenL _ ?_ | refine z_lenT _ ?_ | refine z_tupL _ ?_ | refine z_lstT _ ?_)
        exact ⟨_, rfl, ⟨r, rfl, hr⟩, e6⟩
      · rw [List.length_map] at f3
        subst f4
        exact ⟨fs, f1, by rw [sizeLine_eq]; omega, _, _, _, _, fs, rfl, h5, f2, by omega⟩
    · repeat (first | with_reducible refine w_slot rfl ?_ | with_reducible refine w_slot (by with_unfolding_all rfl) ?_ | with_reducible refine w_lc ?_ | with_reducible refine w_c ?_ | with_reducible refine w_bin ?_ | with_reducible refine w_un ?_ | with_reducible refine w_tup ?_ | with_reducible refine w_lst ?_ | with_reducible refine w_lstC ?_ | with_reducible refine w_call ?_ | with_reducible refine w_nil ?_ | with_reducible refine w_cons ?_ | with_reducible refine w_if ?_ | with_reducible refine w_val ?_ | with_reducible refine w_not ?_ | with_reducible refine w_and ?_ | with_reducible refine w_or ?_ | with_reducible refine w_xand ?_ | with_reducible refine w_xor ?_ | with_reducible refine w_no ?_ | with_reducible refine w_so ?_ | with_reducible refine w_sl ?_ | with_reducible refine w_meth ?_ | with_reducible refine w_iseq ?_ | with_reducible refine w_range1 ?_ | with_reducible refine f_seq ?_ | with_reducible refine f_set ?_ | with_reducible refine f_drop ?_ | with_reducible refine f_ret ?_ | with_reducible refine f_if ?_ | with_reducible refine f_nil ?_ | with_reducible refine f_par2 ?_ | with_reducible refine f_put ?_ | with_reducible refine f_asg ?_ | refine z_add _ _ ?_ | refine z_sub _ _ ?_ | refine z_lt _ _ ?_ | refine z_le _ _ ?_ | refine z_gt _ _ ?_ | refine z_ge _ _ ?_ | refine z_eq _ _ ?_ | refine z_eqS _ _ ?_ | refine z_neS _ _ ?_ | refine z_slT _ _ _ ?_ | refine z_slL _ _ _ ?_ | refine z_lenL _ ?_ | refine z_lenT _ ?_ | refine z_tupL _ ?_ | refine z_lstT _ ?_)
      refine ⟨_, rfl, ?_⟩
      refine okR_mono (lc_inv (fun S' => S' = S5) (IsO k) (fun _ _ => trivial) rfl fun x hx S6 e6 => ?_) fun ys S6 ⟨fs, f1, f2, f3, f4⟩ => ?_
      · obtain ⟨o, ho, rfl⟩ := List.mem_map.mp hx
        obtain ⟨r, rfl, hr⟩ := he o ho
        obtain ⟨x1, e1⟩ := at_ord hr o0 o1
        obtain ⟨x2, e2⟩ := at_ord hr p0 p1
        refine ⟨_, rfl, ?_⟩
        repeat (first | with_reducible refine w_slot rfl ?_ | with_reducible refine w_slot (by with_unfolding_all rfl) ?_ | with_reducible refine w_lc ?_ | with_reducible refine w_c ?_ | with_reducible refine w_bin ?_ | with_reducible refine w_un ?_ | with_reducible refine w_tup ?_ | with_reducible refine w_lst ?_ | with_reducible refine w_lstC ?_ | with_reducible refine w_call ?_ | with_reducible refine w_nil ?_ | with_reducible refine w_cons ?_ | with_reducible refine w_if ?_ | with_reducible refine w_val ?_ | with_reducible refine w_not ?_ | with_reducible refine w_and ?_ | with_reducible refine w_or ?_ | with_reducible refine w_xand ?_ | with_reducible refine w_xor ?_ | with_reducible refine w_no ?_ | with_reducible refine w_so ?_ | with_reducible refine w_sl ?_ | with_reducible refine w_meth ?_ | with_reducible refine w_iseq ?_ | with_reducible refine w_range1 ?_ | with_reducible refine f_seq ?_ | with_reducible refine f_set ?_ | with_reducible refine f_drop ?_ | with_reducible refine f_ret ?_ | with_reducible refine f_if ?_ | with_reducible refine f_nil ?_ | with_reducible refine f_par2 ?_ | with_reducible refine f_put ?_ | with_reducible refine f_asg ?_ | refine z_add _ _ ?_ | refine z_sub _ _ ?_ | refine z_lt _ _ ?_ | refine z_le _ _ ?_ | refine z_gt _ _ ?_ | refine z_ge _ _ ?_ | refine z_eq _ _ ?_ | refine z_eqS _ _ ?_ | refine z_neS _ _ ?_ | refine z_slT _ _ _ ?_ | refine z_slL _ _ _ ?_ | refine z_lenL _ ?_ | refine z_lenT _ ?_ | refine z_tupL _ ?_ | refine z_lstT _ ?_)
        refine z_ixT _ _ e1 ?_
        repeat (first | with_reducible refine w_slot rfl ?_ | with_reducible refine w_slot (by with_unfolding_all rfl) ?_ | with_reducible refine w_lc ?_ | with_reducible refine w_c ?_ | with_reducible refine w_bin ?_ | with_reducible refine w_un ?_ | with_reducible refine w_tup ?_ | with_reducible refine w_lst ?_ | with_reducible refine w_lstC ?_ | with_reducible refine w_call ?_ | with_reducible refine w_nil ?_ | with_reducible refine w_cons ?_ | with_reducible refine w_if ?_ | with_reducible refine w_val ?_ | with_reducible refine w_not ?_ | with_reducible refine w_and ?_ | with_reducible refine w_or ?_ | with_reducible refine w_xand ?_ | with_reducible refine w_xor ?_ | with_reducible refine w_no ?_ | with_reducible refine w_so ?_ | with_reducible refine w_sl ?_ | with_reducible refine w_meth ?_ | with_reducible refine w_iseq ?_ | with_reducible refine w_range1 ?_ | with_reducible refine f_seq ?_ | with_reducible refine f_set ?_ | with_reducible refine f_drop ?_ | with_reducible refine f_ret ?_ | with_reducible refine f_if ?_ | with_reducible refine f_nil ?_ | with_reducible refine f_par2 ?_ | with_reducible refine f_put ?_ | with_reducible refine f_asg ?_ | refine z_add _ _ ?_ | refine z_sub _ _ ?_ | refine z_lt _ _ ?_ | refine z_le _ _ ?_ | refine z_gt _ _ ?_ | refine z_ge _ _ ?_ | refine z_eq _ _ ?_ | refine z_eqS _ _ ?_ | refine z_neS _ _ ?_ | refine z_slT _ _ _ ?_ | refine z_slL _ _ _ ?_ | refine z_lenL _ ?_ | refine z_lenT _ ?_ | refine z_tupL _ ?_ | refine z_lstT _ ?_)
        refine z_ixT _ _ e2 ?_
        repeat (first | with_reducible refine w_slot rfl ?_ | with_reducible refine w_slot (by with_unfolding_all rfl) ?_ | with_reducible refine w_lc ?_ | with_reducible refine w_c ?_ | with_reducible refine w_bin ?_ | with_reducible refine w_un ?_ | with_reducible refine w_tup ?_ | with_reducible refine w_lst ?_ | with_reducible refine w_lstC ?_ | with_reducible refine w_call ?_ | with_reducible refine w_nil ?_ | with_reducible refine w_cons ?_ | with_reducible refine w_if ?_ | with_reducible refine w_val ?_ | with_reducible refine w_not ?_ | with_reducible refine w_and ?_ | with_reducible refine w_or ?_ | with_reducible refine w_xand ?_ | with_reducible refine w_xor ?_ | with_reducible refine w_no ?_ | with_reducible refine w_so ?_ | with_reducible refine w_sl ?_ | with_reducible refine w_meth ?_ | with_reducible refine w_iseq ?_ | with_reducible refine w_range1 ?_ | with_reducible refine f_seq ?_ | with_reducible refine f_set ?_ | with_reducible refine f_drop ?_ | with_reducible refine f_ret ?_ | with_reducible refine f_if ?_ | with_reducible refine f_nil ?_ | with_reducible refine f_par2 ?_ | with_reducible refine f_put ?_ | with_reducible refine f_asg ?_ | refine z_add _ _ ?_ | refine z_sub _ _ ?_ | refine z_lt _ _ ?_ | refine z_le _ _ ?_ | refine z_gt _ _ ?_ | refine z_ge _ _ ?_ | refine z_eq _ _ ?_ | refine z_eqS _ _ ?_ | refine z_neS _ _ ?_ | refine z_slT _ _ _ ?_ | refine z_slL _ _ _ ?_ | refine z_lenL _ ?_ | refine z_lenT _ ?_ | refine z_tupL _ ?_ | refine z_lstT _ ?_)
        refine ⟨_, rfl, fun _ => ?_, fun _ => e6⟩
        repeat (first | with_reducible refine w_slot rfl ?_ | with_reducible refine w_slot (by with_unfolding_all rfl) ?_ | with_reducible refine w_lc ?_ | with_reducible refine w_c ?_ | with_reducible refine w_bin ?_ | with_reducible refine w_un ?_ | with_reducible refine w_tup ?_ | with_reducible refine w_lst ?_ | with_reducible refine w_lstC ?_ | with_reducible refine w_call ?_ | with_reducible refine w_nil ?_ | with_reducible refine w_cons ?_ | with_reducible refine w_if ?_ | with_reducible refine w_val ?_ | with_reducible refine w_not ?_ | with_reducible refine w_and ?_ | with_reducible refine w_or ?_ | with_reducible refine w_xand ?_ | with_reducible refine w_xor ?_ | with_reducible refine w_no ?_ | with_reducible refine w_so ?_ | with_reducible refine w_sl ?_ | with_reducible refine w_meth ?_ | with_reducible refine w_iseq ?_ | with_reducible refine w_range1 ?_ | with_reducible refine f_seq ?_ | with_reducible refine f_set ?_ | with_reducible refine f_drop ?_ | with_reducible refine f_ret ?_ | with_reducible refine f_if ?_ | with_reducible refine f_nil ?_ | with_reducible refine f_par2 ?_ | with_reducible refine f_put ?_ | with_reducible refine f_asg ?_ | refine z_add _ _ ?_ | refine z_sub _ _ ?_ | refine z_lt _ _ ?_ | refine z_le _ _ ?_ | refine z_gt _ _ ?_ | refine z_ge _ _ ?_ | refine z_eq _ _ ?_ | refine z_eqS _ _ ?_ | refine z_neS _ _ ?_ | refine z_slT _ _ _ ?_ | refine z_slL _ _ _ ?_ | refine z_lenL _ ?_ | refine z_lenT _ ?_ | refine z_tupL _ ?_ | refine z_lstT _ ?_)
        exact ⟨_, rfl, ⟨r, rfl, hr⟩, e6⟩
      · rw [List.length_map] at f3
        subst f4
        exact ⟨fs, f1, by rw [sizeLine_eq]; omega, _, _, _, _, fs, rfl, h5, f2, by omega⟩
  · rintro ρ S2 ⟨a, b, c, d, es, rfl, h2, he, hl⟩
    repeat (first | with_reducible refine w_slot rfl ?_ | with_reducible refine w_slot (by with_unfolding_all rfl) ?_ | with_reducible refine w_lc ?_ | with_reducible refine w_c ?_ | with_reducible refine w_bin ?_ | with_reducible refine w_un ?_ | with_reducible refine w_tup ?_ | with_reducible refine w_lst ?_ | with_reducible refine w_lstC ?_ | with_reducible refine w_call ?_ | with_reducible refine w_nil ?_ | with_reducible refine w_cons ?_ | with_reducible refine w_if ?_ | with_reducible refine w_val ?_ | with_reducible refine w_not ?_ | with_reducible refine w_and ?_ | with_reducible refine w_or ?_ | with_reducible refine w_xand ?_ | with_reducible refine w_xor ?_ | with_reducible refine w_no ?_ | with_reducible refine w_so ?_ | with_reducible refine w_sl ?_ | with_reducible refine w_meth ?_ | with_reducible refine w_iseq ?_ | with_reducible refine w_range1 ?_ | with_reducible refine f_seq ?_ | with_reducible refine f_set ?_ | with_reducible refine f_drop ?_ | with_reducible refine f_ret ?_ | with_reducible refine f_if ?_ | with_reducible refine f_nil ?_ | with_reducible refine f_par2 ?_ | with_reducible refine f_put ?_ | with_reducible refine f_asg ?_ | refine z_add _ _ ?_ | refine z_sub _ _ ?_ | refine z_lt _ _ ?_ | refine z_le _ _ ?_ | refine z_gt _ _ ?_ | refine z_ge _ _ ?_ | refine z_eq _ _ ?_ | refine z_eqS _ _ ?_ | refine z_neS _ _ ?_ | refine z_slT _ _ _ ?_ | refine z_slL _ _ _ ?_ | refine z_lenL _ ?_ | refine z_lenT _ ?_ | refine z_tupL _ ?_ | refine z_lstT _ ?_)
    exact fin_sp h h2 (q _ _ he hl h2)
theorem w_natural (h : SP g R S) (M : MK m k) (q : ∀ ds S', (∀ d ∈ ds, IsL k d) → ds.length ≤ 160 → SP g R S' → Q (.dat (.tuple ds)) S') : okR (fns T ds (n + 4) "_law_natural" [.loc 0, .dat (.int m)] S) Q := by
  rw [f_law_natural]
  refine w_fn rfl ?_
  repeat (first | with_reducible refine w_slot rfl ?_ | with_reducible refine w_slot (by with_unfolding_all rfl) ?_ | with_reducible refine w_lc ?_ | with_reducible refine w_c ?_ | with_reducible refine w_bin ?_ | with_reducible refine w_un ?_ | with_reducible refine w_tup ?_ | with_reducible refine w_lst ?_ | with_reducible refine w_lstC ?_ | with_reducible refine w_call ?_ | with_reducible refine w_nil ?_ | with_reducible refine w_cons ?_ | with_reducible refine w_if ?_ | with_reducible refine w_val ?_ | with_reducible refine w_not ?_ | with_reducible refine w_and ?_ | with_reducible refine w_or ?_ | with_reducible refine w_xand ?_ | with_reducible refine w_xor ?_ | with_reducible refine w_no ?_ | with_reducible refine w_so ?_ | with_reducible refine w_sl ?_ | with_reducible refine w_meth ?_ | with_reducible refine w_iseq ?_ | with_reducible refine w_range1 ?_ | with_reducible refine f_seq ?_ | with_reducible refine f_set ?_ | with_reducible refine f_drop ?_ | with_reducible refine f_ret ?_ | with_reducible refine f_if ?_ | with_reducible refine f_nil ?_ | with_reducible refine f_par2 ?_ | with_reducible refine f_put ?_ | with_reducible refine f_asg ?_ | refine z_add _ _ ?_ | refine z_sub _ _ ?_ | refine z_lt _ _ ?_ | refine z_le _ _ ?_ | refine z_gt _ _ ?_ | refine z_ge _ _ ?_ | refine z_eq _ _ ?_ | refine z_eqS _ _ ?_ | refine z_neS _ _ ?_ | refine z_slT _ _ _ ?_ | refine z_slL _ _ _ ?_ | refine z_lenL _ ?_ | refine z_lenT _ ?_ | refine z_tupL _ ?_ | refine z_lstT _ ?_)
  refine ⟨rfl, ?_⟩
  rw [h.len]
  refine f_seq (f_fori (fun i ρ S => ∃ (a b c d : Option Val) (es : List PyData), ρ = [some (.loc 0), some (.dat (.int m)), some (.loc (R.length + 1)), a, b, c, d] ∧ SP g (R ++ [.lst (es.map .dat)]) S ∧ (∀ e ∈ es, IsL k e) ∧ es.length ≤ 80 * i) ?_)
  repeat (first | with_reducible refine w_slot rfl ?_ | with_reducible refine w_slot (by with_unfolding_all rfl) ?_ | with_reducible refine w_lc ?_ | with_reducible refine w_c ?_ | with_reducible refine w_bin ?_ | with_reducible refine w_un ?_ | with_reducible refine w_tup ?_ | with_reducible refine w_lst ?_ | with_reducible refine w_lstC ?_ | with_reducible refine w_call ?_ | with_reducible refine w_nil ?_ | with_reducible refine w_cons ?_ | with_reducible refine w_if ?_ | with_reducible refine w_val ?_ | with_reducible refine w_not ?_ | with_reducible refine w_and ?_ | with_reducible refine w_or ?_ | with_reducible refine w_xand ?_ | with_reducible refine w_xor ?_ | with_reducible refine w_no ?_ | with_reducible refine w_so ?_ | with_reducible refine w_sl ?_ | with_reducible refine w_meth ?_ | with_reducible refine w_iseq ?_ | with_reducible refine w_range1 ?_ | with_reducible refine f_seq ?_ | with_reducible refine f_set ?_ | with_reducible refine f_drop ?_ | with_reducible refine f_ret ?_ | with_reducible refine f_if ?_ | with_reducible refine f_nil ?_ | with_reducible refine f_par2 ?_ | with_reducible refine f_put ?_ | with_reducible refine f_asg ?_ | refine z_add _ _ ?_ | refine z_sub _ _ ?_ | refine z_lt _ _ ?_ | refine z_le _ _ ?_ | refine z_gt _ _ ?_ | refine z_ge _ _ ?_ | refine z_eq _ _ ?_ | refine z_eqS _ _ ?_ | refine z_neS _ _ ?_ | refine z_slT _ _ _ ?_ | refine z_slL _ _ _ ?_ | refine z_lenL _ ?_ | refine z_lenT _ ?_ | refine z_tupL _ ?_ | refine z_lstT _ ?_)
  refine w_draw (h.new (c := .lst [])) (by decide) (by decide) fun v S1 v0 v1 h1 => ?_
  repeat (first | with_reducible refine w_slot rfl ?_ | with_reducible refine w_slot (by with_unfolding_all rfl) ?_ | with_reducible refine w_lc ?_ | with_reducible refine w_c ?_ | with_reducible refine w_bin ?_ | with_reducible refine w_un ?_ | with_reducible refine w_tup ?_ | with_reducible refine w_lst ?_ | with_reducible refine w_lstC ?_ | with_reducible refine w_call ?_ | with_reducible refine w_nil ?_ | with_reducible refine w_cons ?_ | with_reducible refine w_if ?_ | with_reducible refine w_val ?_ | with_reducible refine w_not ?_ | with_reducible refine w_and ?_ | with_reducible refine w_or ?_ | with_reducible refine w_xand ?_ | with_reducible refine w_xor ?_ | with_reducible refine w_no ?_ | with_reducible refine w_so ?_ | with_reducible refine w_sl ?_ | with_reducible refine w_meth ?_ | with_reducible refine w_iseq ?_ | with_reducible refine w_range1 ?_ | with_reducible refine f_seq ?_ | with_reducible refine f_set ?_ | with_reducible refine f_drop ?_ | with_reducible refine f_ret ?_ | with_reducible refine f_if ?_ | with_reducible refine f_nil ?_ | with_reducible refine f_par2 ?_ | with_reducible refine f_put ?_ | with_reducible refine f_asg ?_ | refine z_add _ _ ?_ | refine z_sub _ _ ?_ | refine z_lt _ _ ?_ | refine z_le _ _ ?_ | refine z_gt _ _ ?_ | refine z_ge _ _ ?_ | refine z_eq _ _ ?_ | refine z_eqS _ _ ?_ | refine z_neS _ _ ?_ | refine z_slT _ _ _ ?_ | refine z_slL _ _ _ ?_ | refine z_lenL _ ?_ | refine z_lenT _ ?_ | refine z_tupL _ ?_ | refine z_lstT _ ?_)
  refine ⟨_, rfl, rOk_i (by omega) (by omega), fun _ _ _ _ => trivial, ⟨none, none, none, none, [], rfl, h1, fun e he => (by cases he), Nat.le_refl _⟩, ?_, ?_⟩
  · rintro i x hx ρ S3 ⟨a, b, c, d, es, rfl, h3, he, hl⟩
    have hi : i < (NB.upTo 0 (1 + v).toNat).length := (List.getElem?_eq_some_iff.mp hx).1
    rw [upTo_len] at hi
    refine ⟨_, rfl, ?_⟩
    repeat (first | with_reducible refine w_slot rfl ?_ | with_reducible refine w_slot (by with_unfolding_all rfl) ?_ | with_reducible refine w_lc ?_ | with_reducible refine w_c ?_ | with_reducible refine w_bin ?_ | with_reducible refine w_un ?_ | with_reducible refine w_tup ?_ | with_reducible refine w_lst ?_ | with_reducible refine w_lstC ?_ | with_reducible refine w_call ?_ | with_reducible refine w_nil ?_ | with_reducible refine w_cons ?_ | with_reducible refine w_if ?_ | with_reducible refine w_val ?_ | with_reducible refine w_not ?_ | with_reducible refine w_and ?_ | with_reducible refine w_or ?_ | with_reducible refine w_xand ?_ | with_reducible refine w_xor ?_ | with_reducible refine w_no ?_ | with_reducible refine w_so ?_ | with_reducible refine w_sl ?_ | with_reducible refine w_meth ?_ | with_reducible refine w_iseq ?_ | with_reducible refine w_range1 ?_ | with_reducible refine f_seq ?_ | with_reducible refine f_set ?_ | with_reducible refine f_drop ?_ | with_reducible refine f_ret ?_ | with_reducible refine f_if ?_ | with_reducible refine f_nil ?_ | with_reducible refine f_par2 ?_ | with_reducible refine f_put ?_ | with_reducible refine f_asg ?_ | refine z_add _ _ ?_ | refine z_sub _ _ ?_ | refine z_lt _ _ ?_ | refine z_le _ _ ?_ | refine z_gt _ _ ?_ | refine z_ge _ _ ?_ | refine z_eq _ _ ?_ | refine z_eqS _ _ ?_ | refine z_neS _ _ ?_ | refine z_slT _ _ _ ?_ | refine z_slL _ _ _ ?_ | refine z_lenL _ ?_ | refine z_lenT _ ?_ | refine z_tupL _ ?_ | refine z_lstT _ ?_)
    refine w_draw h3 (by decide) (by decide) fun s S4 s0 s1 h4 => ?_
    repeat (first | with_reducible refine w_slot rfl ?_ | with_reducible refine w_slot (by with_unfolding_all rfl) ?_ | with_reducible refine w_lc ?_ | with_reducible refine w_c ?_ | with_reducible refine w_bin ?_ | with_reducible refine w_un ?_ | with_reducible refine w_tup ?_ | with_reducible refine w_lst ?_ | with_reducible refine w_lstC ?_ | with_reducible refine w_call ?_ | with_reducible refine w_nil ?_ | with_reducible refine w_cons ?_ | with_reducible refine w_if ?_ | with_reducible refine w_val ?_ | with_reducible refine w_not ?_ | with_reducible refine w_and ?_ | with_reducible refine w_or ?_ | with_reducible refine w_xand ?_ | with_reducible refine w_xor ?_ | with_reducible refine w_no ?_ | with_reducible refine w_so ?_ | with_reducible refine w_sl ?_ | with_reducible refine w_meth ?_ | with_reducible refine w_iseq ?_ | with_reducible refine w_range1 ?_ | with_reducible refine f_seq ?_ | with_reducible refine f_set ?_ | with_reducible refine f_drop ?_ | with_reducible refine f_ret ?_ | with_reducible refine f_if ?_ | with_reducible refine f_nil ?_ | with_reducible refine f_par2 ?_ | with_reducible refine f_put ?_ | with_reducible refine f_asg ?_ | refine z_add _ _ ?_ | refine z_sub _ _ ?_ | refine z_lt _ _ ?_ | refine z_le _ _ ?_ | refine z_gt _ _ ?_ | refine z_ge _ _ ?_ | refine z_eq _ _ ?_ | refine z_eqS _ _ ?_ | refine z_neS _ _ ?_ | refine z_slT _ _ _ ?_ | refine z_slL _ _ _ ?_ | refine z_lenL _ ?_ | refine z_lenT _ ?_ | refine z_tupL _ ?_ | refine z_lstT _ ?_)
    refine w_draw h4 (by decide) (by decide) fun t S5 t0 t1 h5 => ?_
    repeat (first | with_reducible refine w_slot rfl ?_ | with_reducible refine w_slot (by with_unfolding_all rfl) ?_ | with_reducible refine w_lc ?_ | with_reducible refine w_c ?_ | with_reducible refine w_bin ?_ | with_reducible refine w_un ?_ | with_reducible refine w_tup ?_ | with_reducible refine w_lst ?_ | with_reducible refine w_lstC ?_ | with_reducible refine w_call ?_ | with_reducible refine w_nil ?_ | with_reducible refine w_cons ?_ | with_reducible refine w_if ?_ | with_reducible refine w_val ?_ | with_reducible refine w_not ?_ | with_reducible refine w_and ?_ | with_reducible refine w_or ?_ | with_reducible refine w_xand ?_ | with_reducible refine w_xor ?_ | with_reducible refine w_no ?_ | with_reducible refine w_so ?_ | with_reducible refine w_sl ?_ | with_reducible refine w_meth ?_ | with_reducible refine w_iseq ?_ | with_reducible refine w_range1 ?_ | with_reducible refine f_seq ?_ | with_reducible refine f_set ?_ | with_reducible refine f_drop ?_ | with_reducible refine f_ret ?_ | with_reducible refine f_if ?_ | with_reducible refine f_nil ?_ | with_reducible refine f_par2 ?_ | with_reducible refine f_put ?_ | with_reducible refine f_asg ?_ | refine z_add _ _ ?_ | refine z_sub _ _ ?_ | refine z_lt _ _ ?_ | refine z_le _ _ ?_ | refine z_gt _ _ ?_ | refine z_ge _ _ ?_ | refine z_eq _ _ ?_ | refine z_eqS _ _ ?_ | refine z_neS _ _ ?_ | refine z_slT _ _ _ ?_ | refine z_slL _ _ _ ?_ | refine z_lenL _ ?_ | refine z_lenT _ ?_ | refine z_tupL _ ?_ | refine z_lstT _ ?_)
    refine ⟨[.int s, .int t], rfl, ?_⟩
    refine ⟨_, rfl, ?_⟩
    repeat (first | with_reducible refine w_slot rfl ?_ | with_reducible refine w_slot (by with_unfolding_all rfl) ?_ | with_reducible refine w_lc ?_ | with_reducible refine w_c ?_ | with_reducible refine w_bin ?_ | with_reducible refine w_un ?_ | with_reducible refine w_tup ?_ | with_reducible refine w_lst ?_ | with_reducible refine w_lstC ?_ | with_reducible refine w_call ?_ | with_reducible refine w_nil ?_ | with_reducible refine w_cons ?_ | with_reducible refine w_if ?_ | with_reducible refine w_val ?_ | with_reducible refine w_not ?_ | with_reducible refine w_and ?_ | with_reducible refine w_or ?_ | with_reducible refine w_xand ?_ | with_reducible refine w_xor ?_ | with_reducible refine w_no ?_ | with_reducible refine w_so ?_ | with_reducible refine w_sl ?_ | with_reducible refine w_meth ?_ | with_reducible refine w_iseq ?_ | with_reducible refine w_range1 ?_ | with_reducible refine f_seq ?_ | with_reducible refine f_set ?_ | with_reducible refine f_drop ?_ | with_reducible refine f_ret ?_ | with_reducible refine f_if ?_ | with_reducible refine f_nil ?_ | with_reducible refine f_par2 ?_ | with_reducible refine f_put ?_ | with_reducible refine f_asg ?_ | refine z_add _ _ ?_ | refine z_sub _ _ ?_ | refine z_lt _ _ ?_ | refine z_le _ _ ?_ | refine z_gt _ _ ?_ | refine z_ge _ _ ?_ | refine z_eq _ _ ?_ | refine z_eqS _ _ ?_ | refine z_neS _ _ ?_ | refine z_slT _ _ _ ?_ | refine z_slL _ _ _ ?_ | refine z_lenL _ ?_ | refine z_lenT _ ?_ | refine z_tupL _ ?_ | refine z_lstT _ ?_)
    refine ⟨h5.isL, ?_⟩
    repeat (first | with_reducible refine w_slot rfl ?_ | with_reducible refine w_slot (by with_unfolding_all rfl) ?_ | with_reducible refine w_lc ?_ | with_reducible refine w_c ?_ | with_reducible refine w_bin ?_ | with_reducible refine w_un ?_ | with_reducible refine w_tup ?_ | with_reducible refine w_lst ?_ | with_reducible refine w_lstC ?_ | with_reducible refine w_call ?_ | with_reducible refine w_nil ?_ | with_reducible refine w_cons ?_ | with_reducible refine w_if ?_ | with_reducible refine w_val ?_ | with_reducible refine w_not ?_ | with_reducible refine w_and ?_ | with_reducible refine w_or ?_ | with_reducible refine w_xand ?_ | with_reducible refine w_xor ?_ | with_reducible refine w_no ?_ | with_reducible refine w_so ?_ | with_reducible refine w_sl ?_ | with_reducible refine w_meth ?_ | with_reducible refine w_iseq ?_ | with_reducible refine w_range1 ?_ | with_reducible refine f_seq ?_ | with_reducible refine f_set ?_ | with_reducible refine f_drop ?_ | with_reducible refine f_ret ?_ | with_reducible refine f_if ?_ | with_reducible refine f_nil ?_ | with_reducible refine f_par2 ?_ | with_reducible refine f_put ?_ | with_reducible refine f_asg ?_ | refine z_add _ _ ?_ | refine z_sub _ _ ?_ | refine z_lt _ _ ?_ | refine z_le _ _ ?_ | refine z_gt _ _ ?_ | refine z_ge _ _ ?_ | refine z_eq _ _ ?_ | refine z_eqS _ _ ?_ | refine z_neS _ _ ?_ | refine z_slT _ _ _ ?_ | refine z_slL _ _ _ ?_ | refine z_lenL _ ?_ | refine z_lenT _ ?_ | refine z_tupL _ ?_ | refine z_lstT _ ?_)
    refine w_kept_orders h5 M fun fs S6 f1 f2 h6 => ?_
    refine ⟨_, rfl, ?_⟩
    refine okR_mono (lc_all (fun S' => S' = S6) (IsL k) (fun _ _ => trivial) rfl fun x hx S7 e7 => ?_) fun ys S7 ⟨gs, g1, g2, g3, g4⟩ => ?_
    · obtain ⟨o, ho, rfl⟩ := List.mem_map.mp hx
      obtain ⟨r, rfl, hr⟩ := f1 o ho
      refine ⟨_, rfl, ?_⟩
      repeat (first | with_reducible refine w_slot rfl ?_ | with_reducible refine w_slot (by with_unfolding_all rfl) ?_ | with_reducible refine w_lc ?_ | with_reducible refine w_c ?_ | with_reducible refine w_bin ?_ | with_reducible refine w_un ?_ | with_reducible refine w_tup ?_ | with_reducible refine w_lst ?_ | with_reducible refine w_lstC ?_ | with_reducible refine w_call ?_ | with_reducible refine w_nil ?_ | with_reducible refine w_cons ?_ | with_reducible refine w_if ?_ | with_reducible refine w_val ?_ | with_reducible refine w_not ?_ | with_reducible refine w_and ?_ | with_reducible refine w_or ?_ | with_reducible refine w_xand ?_ | with_reducible refine w_xor ?_ | with_reducible refine w_no ?_ | with_reducible refine w_so ?_ | with_reducible refine w_sl ?_ | with_reducible refine w_meth ?_ | with_reducible refine w_iseq ?_ | with_reducible refine w_range1 ?_ | with_reducible refine f_seq ?_ | with_reducible refine f_set ?_ | with_reducible refine f_drop ?_ | with_reducible refine f_ret ?_ | with_reducible refine f_if ?_ | with_reducible refine f_nil ?_ | with_reducible refine f_par2 ?_ | with_reducible refine f_put ?_ | with_reducible refine f_asg ?_ | refine z_add _ _ ?_ | refine z_sub _ _ ?_ | refine z_lt _ _ ?_ | refine z_le _ _ ?_ | refine z_gt _ _ ?_ | refine z_ge _ _ ?_ | refine z_eq _ _ ?_ | refine z_eqS _ _ ?_ | refine z_neS _ _ ?_ | refine z_slT _ _ _ ?_ | refine z_slL _ _ _ ?_ | refine z_lenL _ ?_ | refine z_lenT _ ?_ | refine z_tupL _ ?_ | refine z_lstT _ ?_)
      exact ⟨[.int s, .int t, tup r], rfl, _, rfl, ⟨s, t, r, rfl, ⟨s0, by omega⟩, ⟨t0, by omega⟩, hr⟩, e7⟩
    · have lg : gs.length ≤ 80 := by
        have : (fs.map Val.dat).length = fs.length := List.length_map _
        have q3 : gs.length = (fs.map Val.dat).length := g3
        omega
      subst g4
      refine ⟨gs, g1, by rw [sizeLine_eq]; omega, ?_⟩
      refine z_ext h6 (by omega) fun S8 h8 => ?_
      refine ⟨_, _, _, _, es ++ gs, rfl, h8, fun e hh => ?_, by rw [List.length_append]; omega⟩
      rcases List.mem_append.mp hh with z | z
      · exact he e z
      · exact g2 e z
  · rintro ρ S3 ⟨a, b, c, d, es, rfl, h3, he, hl⟩
    rw [upTo_len] at hl
    repeat (first | with_reducible refine w_slot rfl ?_ | with_reducible refine w_slot (by with_unfolding_all rfl) ?_ | with_reducible refine w_lc ?_ | with_reducible refine w_c ?_ | with_reducible refine w_bin ?_ | with_reducible refine w_un ?_ | with_reducible refine w_tup ?_ | with_reducible refine w_lst ?_ | with_reducible refine w_lstC ?_ | with_reducible refine w_call ?_ | with_reducible refine w_nil ?_ | with_reducible refine w_cons ?_ | with_reducible refine w_if ?_ | with_reducible refine w_val ?_ | with_reducible refine w_not ?_ | with_reducible refine w_and ?_ | with_reducible refine w_or ?_ | with_reducible refine w_xand ?_ | with_reducible refine w_xor ?_ | with_reducible refine w_no ?_ | with_reducible refine w_so ?_ | with_reducible refine w_sl ?_ | with_reducible refine w_meth ?_ | with_reducible refine w_iseq ?_ | with_reducible refine w_range1 ?_ | with_reducible refine f_seq ?_ | with_reducible refine f_set ?_ | with_reducible refine f_drop ?_ | with_reducible refine f_ret ?_ | with_reducible refine f_if ?_ | with_reducible refine f_nil ?_ | with_reducible refine f_par2 ?_ | with_reducible refine f_put ?_ | with_reducible refine f_asg ?_ | refine z_add _ _ ?_ | refine z_sub _ _ ?_ | refine z_lt _ _ ?_ | refine z_le _ _ ?_ | refine z_gt _ _ ?_ | refine z_ge _ _ ?_ | refine z_eq _ _ ?_ | refine z_eqS _ _ ?_ | refine z_neS _ _ ?_ | refine z_slT _ _ _ ?_ | refine z_slL _ _ _ ?_ | refine z_lenL _ ?_ | refine z_lenT _ ?_ | refine z_tupL _ ?_ | refine z_lstT _ ?_)
    refine z_ssetL h3.seq he M.le (by omega) fun fs f1 f2 => ?_
    repeat (first | with_reducible refine w_slot rfl ?_ | with_reducible refine w_slot (by with_unfolding_all rfl) ?_ | with_reducible refine w_lc ?_ | with_reducible refine w_c ?_ | with_reducible refine w_bin ?_ | with_reducible refine w_un ?_ | with_reducible refine w_tup ?_ | with_reducible refine w_lst ?_ | with_reducible refine w_lstC ?_ | with_reducible refine w_call ?_ | with_reducible refine w_nil ?_ | with_reducible refine w_cons ?_ | with_reducible refine w_if ?_ | with_reducible refine w_val ?_ | with_reducible refine w_not ?_ | with_reducible refine w_and ?_ | with_reducible refine w_or ?_ | with_reducible refine w_xand ?_ | with_reducible refine w_xor ?_ | with_reducible refine w_no ?_ | with_reducible refine w_so ?_ | with_reducible refine w_sl ?_ | with_reducible refine w_meth ?_ | with_reducible refine w_iseq ?_ | with_reducible refine w_range1 ?_ | with_reducible refine f_seq ?_ | with_reducible refine f_set ?_ | with_reducible refine f_drop ?_ | with_reducible refine f_ret ?_ | with_reducible refine f_if ?_ | with_reducible refine f_nil ?_ | with_reducible refine f_par2 ?_ | with_reducible refine f_put ?_ | with_reducible refine f_asg ?_ | refine z_add _ _ ?_ | refine z_sub _ _ ?_ | refine z_lt _ _ ?_ | refine z_le _ _ ?_ | refine z_gt _ _ ?_ | refine z_ge _ _ ?_ | refine z_eq _ _ ?_ | refine z_eqS _ _ ?_ | refine z_neS _ _ ?_ | refine z_slT _ _ _ ?_ | refine z_slL _ _ _ ?_ | refine z_lenL _ ?_ | refine z_lenT _ ?_ | refine z_tupL _ ?_ | refine z_lstT _ ?_)
    show okR (NB.finish false (R.length + 1) (.dat (.tuple fs)) S3) Q
    rw [← h.len]
    exact fin_sp1 h h3 fun S5 h5 => q _ _ f1 (by omega) h5
end
end Lw
end
section
set_option Elab.async false
set_option linter.all false
set_option maxRecDepth 100000
set_option maxHeartbeats 1000000
namespace Lw
open PySem NB
/-! the program's part and the law's -/
section
variable {n : Nat} {k : Nat} {S : Sto} {Q : Val → Sto → Prop}
theorem filt_okId (ds : List PyData) (f : PyData → Bool) : ((ds.filter f).map id) = ds.filter f := List.map_id _
theorem w_kept {ws tb : List PyData} (kk : k = 2 ∨ k = 4) (hw : ∀ e ∈ ws, IsO k e) (ht : ∀ d ∈ tb, IsL k d) (hl : tb.length ≤ 1000) (q : Q (.dat (.tuple (tb.filter fun d => !cutD ws d))) S) : okR (fns T ds (n + 4) "kept_table" [.dat (.tuple tb), .dat (.tuple ws)] S) Q := by
  rw [f_kept_table]
  refine w_fn rfl ?_
  repeat (first | with_reducible refine w_slot rfl ?_ | with_reducible refine w_slot (by with_unfolding_all rfl) ?_ | with_reducible refine w_lc ?_ | with_reducible refine w_c ?_ | with_reducible refine w_bin ?_ | with_reducible refine w_un ?_ | with_reducible refine w_tup ?_ | with_reducible refine w_lst ?_ | with_reducible refine w_lstC ?_ | with_reducible refine w_call ?_ | with_reducible refine w_nil ?_ | with_reducible refine w_cons ?_ | with_reducible refine w_if ?_ | with_reducible refine w_val ?_ | with_reducible refine w_not ?_ | with_reducible refine w_and ?_ | with_reducible refine w_or ?_ | with_reducible refine w_xand ?_ | with_reducible refine w_xor ?_ | with_reducible refine w_no ?_ | with_reducible refine w_so ?_ | with_reducible refine w_sl ?_ | with_reducible refine w_meth ?_ | with_reducible refine w_iseq ?_ | with_reducible refine w_range1 ?_ | with_reducible refine f_seq ?_ | with_reducible refine f_set ?_ | with_reducible refine f_drop ?_ | with_reducible refine f_ret ?_ | with_reducible refine f_if ?_ | with_reducible refine f_nil ?_ | with_reducible refine f_par2 ?_ | with_reducible refine f_put ?_ | with_reducible refine f_asg ?_ | refine z_add _ _ ?_ | refine z_sub _ _ ?_ | refine z_lt _ _ ?_ | refine z_le _ _ ?_ | refine z_gt _ _ ?_ | refine z_ge _ _ ?_ | refine z_eq _ _ ?_ | refine z_eqS _ _ ?_ | refine z_neS _ _ ?_ | refine z_slT _ _ _ ?_ | refine z_slL _ _ _ ?_ | refine z_lenL _ ?_ | refine z_lenT _ ?_ | refine z_tupL _ ?_ | refine z_lstT _ ?_)
  refine ⟨_, rfl, ?_⟩
  refine okR_of (lc_pureW (S := S) (xs := tb) trivial (fun d => !cutD ws d) id fun d hd => ⟨_, rfl, ?_, fun _ => rfl⟩) ?_
  · refine okR_eq ?_
    repeat (first | with_reducible refine w_slot rfl ?_ | with_reducible refine w_slot (by with_unfolding_all rfl) ?_ | with_reducible refine w_lc ?_ | with_reducible refine w_c ?_ | with_reducible refine w_bin ?_ | with_reducible refine w_un ?_ | with_reducible refine w_tup ?_ | with_reducible refine w_lst ?_ | with_reducible refine w_lstC ?_ | with_reducible refine w_call ?_ | with_reducible refine w_nil ?_ | with_reducible refine w_cons ?_ | with_reducible refine w_if ?_ | with_reducible refine w_val ?_ | with_reducible refine w_not ?_ | with_reducible refine w_and ?_ | with_reducible refine w_or ?_ | with_reducible refine w_xand ?_ | with_reducible refine w_xor ?_ | with_reducible refine w_no ?_ | with_reducible refine w_so ?_ | with_reducible refine w_sl ?_ | with_reducible refine w_meth ?_ | with_reducible refine w_iseq ?_ | with_reducible refine w_range1 ?_ | with_reducible refine f_seq ?_ | with_reducible refine f_set ?_ | with_reducible refine f_drop ?_ | with_reducible refine f_ret ?_ | with_reducible refine f_if ?_ | with_reducible refine f_nil ?_ | with_reducible refine f_par2 ?_ | with_reducible refine f_put ?_ | with_reducible refine f_asg ?_ | refine z_add _ _ ?_ | refine z_sub _ _ ?_ | refine z_lt _ _ ?_ | refine z_le _ _ ?_ | refine z_gt _ _ ?_ | refine z_ge _ _ ?_ | refine z_eq _ _ ?_ | refine z_eqS _ _ ?_ | refine z_neS _ _ ?_ | refine z_slT _ _ _ ?_ | refine z_slL _ _ _ ?_ | refine z_lenL _ ?_ | refine z_lenT _ ?_ | refine z_tupL _ ?_ | refine z_lstT _ ?_)
    refine w_is_cut kk hw (ht d hd) ?_
    exact ⟨_, rfl, rfl, rfl⟩
  · rw [filt_okId]
    have := List.length_filter_le (fun d => !cutD ws d) tb
    refine ⟨_, rfl, by rw [sizeLine_eq]; omega, ?_⟩
    repeat (first | with_reducible refine w_slot rfl ?_ | with_reducible refine w_slot (by with_unfolding_all rfl) ?_ | with_reducible refine w_lc ?_ | with_reducible refine w_c ?_ | with_reducible refine w_bin ?_ | with_reducible refine w_un ?_ | with_reducible refine w_tup ?_ | with_reducible refine w_lst ?_ | with_reducible refine w_lstC ?_ | with_reducible refine w_call ?_ | with_reducible refine w_nil ?_ | with_reducible refine w_cons ?_ | with_reducible refine w_if ?_ | with_reducible refine w_val ?_ | with_reducible refine w_not ?_ | with_reducible refine w_and ?_ | with_reducible refine w_or ?_ | with_reducible refine w_xand ?_ | with_reducible refine w_xor ?_ | with_reducible refine w_no ?_ | with_reducible refine w_so ?_ | with_reducible refine w_sl ?_ | with_reducible refine w_meth ?_ | with_reducible refine w_iseq ?_ | with_reducible refine w_range1 ?_ | with_reducible refine f_seq ?_ | with_reducible refine f_set ?_ | with_reducible refine f_drop ?_ | with_reducible refine f_ret ?_ | with_reducible refine f_if ?_ | with_reducible refine f_nil ?_ | with_reducible refine f_par2 ?_ | with_reducible refine f_put ?_ | with_reducible refine f_asg ?_ | refine z_add _ _ ?_ | refine z_sub _ _ ?_ | refine z_lt _ _ ?_ | refine z_le _ _ ?_ | refine z_gt _ _ ?_ | refine z_ge _ _ ?_ | refine z_eq _ _ ?_ | refine z_eqS _ _ ?_ | refine z_neS _ _ ?_ | refine z_slT _ _ _ ?_ | refine z_slL _ _ _ ?_ | refine z_lenL _ ?_ | refine z_lenT _ ?_ | refine z_tupL _ ?_ | refine z_lstT _ ?_)
    exact fin_same q
theorem w_lkept {ws tb : List PyData} (kk : k = 2 ∨ k = 4) (hw : ∀ e ∈ ws, IsO k e) (ht : ∀ d ∈ tb, IsL k d) (hl : tb.length ≤ 1000) (q : Q (.dat (.tuple (tb.filter fun d => !cutD ws d))) S) : okR (fns T ds (n + 4) "_law_kept" [.dat (.tuple tb), .dat (.tuple ws)] S) Q := by
  rw [f_law_kept]
  refine w_fn rfl ?_
  repeat (first | with_reducible refine w_slot rfl ?_ | with_reducible refine w_slot (by with_unfolding_all rfl) ?_ | with_reducible refine w_lc ?_ | with_reducible refine w_c ?_ | with_reducible refine w_bin ?_ | with_reducible refine w_un ?_ | with_reducible refine w_tup ?_ | with_reducible refine w_lst ?_ | with_reducible refine w_lstC ?_ | with_reducible refine w_call ?_ | with_reducible refine w_nil ?_ | with_reducible refine w_cons ?_ | with_reducible refine w_if ?_ | with_reducible refine w_val ?_ | with_reducible refine w_not ?_ | with_reducible refine w_and ?_ | with_reducible refine w_or ?_ | with_reducible refine w_xand ?_ | with_reducible refine w_xor ?_ | with_reducible refine w_no ?_ | with_reducible refine w_so ?_ | with_reducible refine w_sl ?_ | with_reducible refine w_meth ?_ | with_reducible refine w_iseq ?_ | with_reducible refine w_range1 ?_ | with_reducible refine f_seq ?_ | with_reducible refine f_set ?_ | with_reducible refine f_drop ?_ | with_reducible refine f_ret ?_ | with_reducible refine f_if ?_ | with_reducible refine f_nil ?_ | with_reducible refine f_par2 ?_ | with_reducible refine f_put ?_ | with_reducible refine f_asg ?_ | refine z_add _ _ ?_ | refine z_sub _ _ ?_ | refine z_lt _ _ ?_ | refine z_le _ _ ?_ | refine z_gt _ _ ?_ | refine z_ge _ _ ?_ | refine z_eq _ _ ?_ | refine z_eqS _ _ ?_ | refine z_neS _ _ ?_ | refine z_slT _ _ _ ?_ | refine z_slL _ _ _ ?_ | refine z_lenL _ ?_ | refine z_lenT _ ?_ | refine z_tupL _ ?_ | refine z_lstT _ ?_)
  refine ⟨_, rfl, ?_⟩
  refine okR_of (lc_pureW (S := S) (xs := tb) trivial (fun d => !cutD ws d) id fun d hd => ⟨_, rfl, ?_, fun _ => rfl⟩) ?_
  · refine okR_eq ?_
    repeat (first | with_reducible refine w_slot rfl ?_ | with_reducible refine w_slot (by with_unfolding_all rfl) ?_ | with_reducible refine w_lc ?_ | with_reducible refine w_c ?_ | with_reducible refine w_bin ?_ | with_reducible refine w_un ?_ | with_reducible refine w_tup ?_ | with_reducible refine w_lst ?_ | with_reducible refine w_lstC ?_ | with_reducible refine w_call ?_ | with_reducible refine w_nil ?_ | with_reducible refine w_cons ?_ | with_reducible refine w_if ?_ | with_reducible refine w_val ?_ | with_reducible refine w_not ?_ | with_reducible refine w_and ?_ | with_reducible refine w_or ?_ | with_reducible refine w_xand ?_ | with_reducible refine w_xor ?_ | with_reducible refine w_no ?_ | with_reducible refine w_so ?_ | with_reducible refine w_sl ?_ | with_reducible refine w_meth ?_ | with_reducible refine w_iseq ?_ | with_reducible refine w_range1 ?_ | with_reducible refine f_seq ?_ | with_reducible refine f_set ?_ | with_reducible refine f_drop ?_ | with_reducible refine f_ret ?_ | with_reducible refine f_if ?_ | with_reducible refine f_nil ?_ | with_reducible refine f_par2 ?_ | with_reducible refine f_put ?_ | with_reducible refine f_asg ?_ | refine z_add _ _ ?_ | refine z_sub _ _ ?_ | refine z_lt _ _ ?_ | refine z_le _ _ ?_ | refine z_gt _ _ ?_ | refine z_ge _ _ ?_ | refine z_eq _ _ ?_ | refine z_eqS _ _ ?_ | refine z_neS _ _ ?_ | refine z_slT _ _ _ ?_ | refine z_slL _ _ _ ?_ | refine z_lenL _ ?_ | refine z_lenT _ ?_ | refine z_tupL _ ?_ | refine z_lstT _ ?_)
    refine w_lcut kk hw (ht d hd) ?_
    exact ⟨_, rfl, rfl, rfl⟩
  · rw [filt_okId]
    have := List.length_filter_le (fun d => !cutD ws d) tb
    refine ⟨_, rfl, by rw [sizeLine_eq]; omega, ?_⟩
    repeat (first | with_reducible refine w_slot rfl ?_ | with_reducible refine w_slot (by with_unfolding_all rfl) ?_ | with_reducible refine w_lc ?_ | with_reducible refine w_c ?_ | with_reducible refine w_bin ?_ | with_reducible refine w_un ?_ | with_reducible refine w_tup ?_ | with_reducible refine w_lst ?_ | with_reducible refine w_lstC ?_ | with_reducible refine w_call ?_ | with_reducible refine w_nil ?_ | with_reducible refine w_cons ?_ | with_reducible refine w_if ?_ | with_reducible refine w_val ?_ | with_reducible refine w_not ?_ | with_reducible refine w_and ?_ | with_reducible refine w_or ?_ | with_reducible refine w_xand ?_ | with_reducible refine w_xor ?_ | with_reducible refine w_no ?_ | with_reducible refine w_so ?_ | with_reducible refine w_sl ?_ | with_reducible refine w_meth ?_ | with_reducible refine w_iseq ?_ | with_reducible refine w_range1 ?_ | with_reducible refine f_seq ?_ | with_reducible refine f_set ?_ | with_reducible refine f_drop ?_ | with_reducible refine f_ret ?_ | with_reducible refine f_if ?_ | with_reducible refine f_nil ?_ | with_reducible refine f_par2 ?_ | with_reducible refine f_put ?_ | with_reducible refine f_asg ?_ | refine z_add _ _ ?_ | refine z_sub _ _ ?_ | refine z_lt _ _ ?_ | refine z_le _ _ ?_ | refine z_gt _ _ ?_ | refine z_ge _ _ ?_ | refine z_eq _ _ ?_ | refine z_eqS _ _ ?_ | refine z_neS _ _ ?_ | refine z_slT _ _ _ ?_ | refine z_slL _ _ _ ?_ | refine z_lenL _ ?_ | refine z_lenT _ ?_ | refine z_tupL _ ?_ | refine z_lstT _ ?_)
    exact fin_same q
def wlook (o : PyData) : PyData := .tuple [.int 0, .int 0, o]
theorem w_waits_table {ws : List PyData} (hl : ws.length ≤ 1000) (q : Q (.dat (.tuple (ws.map wlook))) S) : okR (fns T ds (n + 1) "waits_table" [.dat (.tuple ws)] S) Q := by
  rw [f_waits_table]
  refine w_fn rfl ?_
  repeat (first | with_reducible refine w_slot rfl ?_ | with_reducible refine w_slot (by with_unfolding_all rfl) ?_ | with_reducible refine w_lc ?_ | with_reducible refine w_c ?_ | with_reducible refine w_bin ?_ | with_reducible refine w_un ?_ | with_reducible refine w_tup ?_ | with_reducible refine w_lst ?_ | with_reducible refine w_lstC ?_ | with_reducible refine w_call ?_ | with_reducible refine w_nil ?_ | with_reducible refine w_cons ?_ | with_reducible refine w_if ?_ | with_reducible refine w_val ?_ | with_reducible refine w_not ?_ | with_reducible refine w_and ?_ | with_reducible refine w_or ?_ | with_reducible refine w_xand ?_ | with_reducible refine w_xor ?_ | with_reducible refine w_no ?_ | with_reducible refine w_so ?_ | with_reducible refine w_sl ?_ | with_reducible refine w_meth ?_ | with_reducible refine w_iseq ?_ | with_reducible refine w_range1 ?_ | with_reducible refine f_seq ?_ | with_reducible refine f_set ?_ | with_reducible refine f_drop ?_ | with_reducible refine f_ret ?_ | with_reducible refine f_if ?_ | with_reducible refine f_nil ?_ | with_reducible refine f_par2 ?_ | with_reducible refine f_put ?_ | with_reducible refine f_asg ?_ | refine z_add _ _ ?_ | refine z_sub _ _ ?_ | refine z_lt _ _ ?_ | refine z_le _ _ ?_ | refine z_gt _ _ ?_ | refine z_ge _ _ ?_ | refine z_eq _ _ ?_ | refine z_eqS _ _ ?_ | refine z_neS _ _ ?_ | refine z_slT _ _ _ ?_ | refine z_slL _ _ _ ?_ | refine z_lenL _ ?_ | refine z_lenT _ ?_ | refine z_tupL _ ?_ | refine z_lstT _ ?_)
  refine ⟨_, rfl, ?_⟩
  refine okR_of (lc_pureW (S := S) (xs := ws) trivial (fun _ => true) wlook fun d hd => ⟨_, rfl, rfl, fun _ => rfl⟩) ?_
  rw [filt_true]
  refine ⟨_, rfl, by rw [List.length_map, sizeLine_eq]; omega, ?_⟩
  repeat (first | with_reducible refine w_slot rfl ?_ | with_reducible refine w_slot (by with_unfolding_all rfl) ?_ | with_reducible refine w_lc ?_ | with_reducible refine w_c ?_ | with_reducible refine w_bin ?_ | with_reducible refine w_un ?_ | with_reducible refine w_tup ?_ | with_reducible refine w_lst ?_ | with_reducible refine w_lstC ?_ | with_reducible refine w_call ?_ | with_reducible refine w_nil ?_ | with_reducible refine w_cons ?_ | with_reducible refine w_if ?_ | with_reducible refine w_val ?_ | with_reducible refine w_not ?_ | with_reducible refine w_and ?_ | with_reducible refine w_or ?_ | with_reducible refine w_xand ?_ | with_reducible refine w_xor ?_ | with_reducible refine w_no ?_ | with_reducible refine w_so ?_ | with_reducible refine w_sl ?_ | with_reducible refine w_meth ?_ | with_reducible refine w_iseq ?_ | with_reducible refine w_range1 ?_ | with_reducible refine f_seq ?_ | with_reducible refine f_set ?_ | with_reducible refine f_drop ?_ | with_reducible refine f_ret ?_ | with_reducible refine f_if ?_ | with_reducible refine f_nil ?_ | with_reducible refine f_par2 ?_ | with_reducible refine f_put ?_ | with_reducible refine f_asg ?_ | refine z_add _ _ ?_ | refine z_sub _ _ ?_ | refine z_lt _ _ ?_ | refine z_le _ _ ?_ | refine z_gt _ _ ?_ | refine z_ge _ _ ?_ | refine z_eq _ _ ?_ | refine z_eqS _ _ ?_ | refine z_neS _ _ ?_ | refine z_slT _ _ _ ?_ | refine z_slL _ _ _ ?_ | refine z_lenL _ ?_ | refine z_lenT _ ?_ | refine z_tupL _ ?_ | refine z_lstT _ ?_)
  exact fin_same q
theorem w_waiting {ws : List PyData} (hl : ws.length ≤ 1000) (q : Q (.dat (.tuple (ws.map wlook))) S) : okR (fns T ds (n + 1) "_law_waiting" [.dat (.tuple ws)] S) Q := by
  rw [f_law_waiting]
  refine w_fn rfl ?_
  repeat (first | with_reducible refine w_slot rfl ?_ | with_reducible refine w_slot (by with_unfolding_all rfl) ?_ | with_reducible refine w_lc ?_ | with_reducible refine w_c ?_ | with_reducible refine w_bin ?_ | with_reducible refine w_un ?_ | with_reducible refine w_tup ?_ | with_reducible refine w_lst ?_ | with_reducible refine w_lstC ?_ | with_reducible refine w_call ?_ | with_reducible refine w_nil ?_ | with_reducible refine w_cons ?_ | with_reducible refine w_if ?_ | with_reducible refine w_val ?_ | with_reducible refine w_not ?_ | with_reducible refine w_and ?_ | with_reducible refine w_or ?_ | with_reducible refine w_xand ?_ | with_reducible refine w_xor ?_ | with_reducible refine w_no ?_ | with_reducible refine w_so ?_ | with_reducible refine w_sl ?_ | with_reducible refine w_meth ?_ | with_reducible refine w_iseq ?_ | with_reducible refine w_range1 ?_ | with_reducible refine f_seq ?_ | with_reducible refine f_set ?_ | with_reducible refine f_drop ?_ | with_reducible refine f_ret ?_ | with_reducible refine f_if ?_ | with_reducible refine f_nil ?_ | with_reducible refine f_par2 ?_ | with_reducible refine f_put ?_ | with_reducible refine f_asg ?_ | refine z_add _ _ ?_ | refine z_sub _ _ ?_ | refine z_lt _ _ ?_ | refine z_le _ _ ?_ | refine z_gt _ _ ?_ | refine z_ge _ _ ?_ | refine z_eq _ _ ?_ | refine z_eqS _ _ ?_ | refine z_neS _ _ ?_ | refine z_slT _ _ _ ?_ | refine z_slL _ _ _ ?_ | refine z_lenL _ ?_ | refine z_lenT _ ?_ | refine z_tupL _ ?_ | refine z_lstT _ ?_)
  refine ⟨_, rfl, ?_⟩
  refine okR_of (lc_pureW (S := S) (xs := ws) trivial (fun _ => true) wlook fun d hd => ⟨_, rfl, rfl, fun _ => rfl⟩) ?_
  rw [filt_true]
  refine ⟨_, rfl, by rw [List.length_map, sizeLine_eq]; omega, ?_⟩
  repeat (first | with_reducible refine w_slot rfl ?_ | with_reducible refine w_slot (by with_unfolding_all rfl) ?_ | with_reducible refine w_lc ?_ | with_reducible refine w_c ?_ | with_reducible refine w_bin ?_ | with_reducible refine w_un ?_ | with_reducible refine w_tup ?_ | with_reducible refine w_lst ?_ | with_reducible refine w_lstC ?_ | with_reducible refine w_call ?_ | with_reducible refine w_nil ?_ | with_reducible refine w_cons ?_ | with_reducible refine w_if ?_ | with_reducible refine w_val ?_ | with_reducible refine w_not ?_ | with_reducible refine w_and ?_ | with_reducible refine w_or ?_ | with_reducible refine w_xand ?_ | with_reducible refine w_xor ?_ | with_reducible refine w_no ?_ | with_reducible refine w_so ?_ | with_reducible refine w_sl ?_ | with_reducible refine w_meth ?_ | with_reducible refine w_iseq ?_ | with_reducible refine w_range1 ?_ | with_reducible refine f_seq ?_ | with_reducible refine f_set ?_ | with_reducible refine f_drop ?_ | with_reducible refine f_ret ?_ | with_reducible refine f_if ?_ | with_reducible refine f_nil ?_ | with_reducible refine f_par2 ?_ | with_reducible refine f_put ?_ | with_reducible refine f_asg ?_ | refine z_add _ _ ?_ | refine z_sub _ _ ?_ | refine z_lt _ _ ?_ | refine z_le _ _ ?_ | refine z_gt _ _ ?_ | refine z_ge _ _ ?_ | refine z_eq _ _ ?_ | refine z_eqS _ _ ?_ | refine z_neS _ _ ?_ | refine z_slT _ _ _ ?_ | refine z_slL _ _ _ ?_ | refine z_lenL _ ?_ | refine z_lenT _ ?_ | refine z_tupL _ ?_ | refine z_lstT _ ?_)
  exact fin_same q
theorem w_needed {tb : List PyData} (kk : k = 2 ∨ k = 4) (ht : ∀ d ∈ tb, IsL k d) (hl : tb.length ≤ 200) (q : ∀ fs : List PyData, (∀ d ∈ fs, IsO k d) → fs.length ≤ 400 → Q (.dat (.list fs)) S) : okR (fns T ds (n + 3) "_law_needed" [.dat (.tuple tb)] S) Q := by
  rw [f_law_needed]
  refine w_fn rfl ?_
  repeat (first | with_reducible refine w_slot rfl ?_ | with_reducible refine w_slot (by with_unfolding_all rfl) ?_ | with_reducible refine w_lc ?_ | with_reducible refine w_c ?_ | with_reducible refine w_bin ?_ | with_reducible refine w_un ?_ | with_reducible refine w_tup ?_ | with_reducible refine w_lst ?_ | with_reducible refine w_lstC ?_ | with_reducible refine w_call ?_ | with_reducible refine w_nil ?_ | with_reducible refine w_cons ?_ | with_reducible refine w_if ?_ | with_reducible refine w_val ?_ | with_reducible refine w_not ?_ | with_reducible refine w_and ?_ | with_reducible refine w_or ?_ | with_reducible refine w_xand ?_ | with_reducible refine w_xor ?_ | with_reducible refine w_no ?_ | with_reducible refine w_so ?_ | with_reducible refine w_sl ?_ | with_reducible refine w_meth ?_ | with_reducible refine w_iseq ?_ | with_reducible refine w_range1 ?_ | with_reducible refine f_seq ?_ | with_reducible refine f_set ?_ | with_reducible refine f_drop ?_ | with_reducible refine f_ret ?_ | with_reducible refine f_if ?_ | with_reducible refine f_nil ?_ | with_reducible refine f_par2 ?_ | with_reducible refine f_put ?_ | with_reducible refine f_asg ?_ | refine z_add _ _ ?_ | refine z_sub _ _ ?_ | refine z_lt _ _ ?_ | refine z_le _ _ ?_ | refine z_gt _ _ ?_ | refine z_ge _ _ ?_ | refine z_eq _ _ ?_ | refine z_eqS _ _ ?_ | refine z_neS _ _ ?_ | refine z_slT _ _ _ ?_ | refine z_slL _ _ _ ?_ | refine z_lenL _ ?_ | refine z_lenT _ ?_ | refine z_tupL _ ?_ | refine z_lstT _ ?_)
  refine ⟨_, rfl, ?_⟩
  refine okR_mono (lc_inv (fun S' => S' = S) (IsO k) (fun _ _ => trivial) rfl fun x hx S6 e6 => ?_) fun ys S6 ⟨fs, f1, f2, f3, f4⟩ => ?_
  · obtain ⟨d, hd, rfl⟩ := List.mem_map.mp hx
    obtain ⟨s, t, r, rfl, hs, ht, hr⟩ := ht d hd
    refine ⟨_, rfl, ?_⟩
    repeat (first | with_reducible refine w_slot rfl ?_ | with_reducible refine w_slot (by with_unfolding_all rfl) ?_ | with_reducible refine w_lc ?_ | with_reducible refine w_c ?_ | with_reducible refine w_bin ?_ | with_reducible refine w_un ?_ | with_reducible refine w_tup ?_ | with_reducible refine w_lst ?_ | with_reducible refine w_lstC ?_ | with_reducible refine w_call ?_ | with_reducible refine w_nil ?_ | with_reducible refine w_cons ?_ | with_reducible refine w_if ?_ | with_reducible refine w_val ?_ | with_reducible refine w_not ?_ | with_reducible refine w_and ?_ | with_reducible refine w_or ?_ | with_reducible refine w_xand ?_ | with_reducible refine w_xor ?_ | with_reducible refine w_no ?_ | with_reducible refine w_so ?_ | with_reducible refine w_sl ?_ | with_reducible refine w_meth ?_ | with_reducible refine w_iseq ?_ | with_reducible refine w_range1 ?_ | with_reducible refine f_seq ?_ | with_reducible refine f_set ?_ | with_reducible refine f_drop ?_ | with_reducible refine f_ret ?_ | with_reducible refine f_if ?_ | with_reducible refine f_nil ?_ | with_reducible refine f_par2 ?_ | with_reducible refine f_put ?_ | with_reducible refine f_asg ?_ | refine z_add _ _ ?_ | refine z_sub _ _ ?_ | refine z_lt _ _ ?_ | refine z_le _ _ ?_ | refine z_gt _ _ ?_ | refine z_ge _ _ ?_ | refine z_eq _ _ ?_ | refine z_eqS _ _ ?_ | refine z_neS _ _ ?_ | refine z_slT _ _ _ ?_ | refine z_slL _ _ _ ?_ | refine z_lenL _ ?_ | refine z_lenT _ ?_ | refine z_tupL _ ?_ | refine z_lstT _ ?_)
    refine ⟨_, rfl, ?_⟩
    repeat (first | with_reducible refine w_slot rfl ?_ | with_reducible refine w_slot (by with_unfolding_all rfl) ?_ | with_reducible refine w_lc ?_ | with_reducible refine w_c ?_ | with_reducible refine w_bin ?_ | with_reducible refine w_un ?_ | with_reducible refine w_tup ?_ | with_reducible refine w_lst ?_ | with_reducible refine w_lstC ?_ | with_reducible refine w_call ?_ | with_reducible refine w_nil ?_ | with_reducible refine w_cons ?_ | with_reducible refine w_if ?_ | with_reducible refine w_val ?_ | with_reducible refine w_not ?_ | with_reducible refine w_and ?_ | with_reducible refine w_or ?_ | with_reducible refine w_xand ?_ | with_reducible refine w_xor ?_ | with_reducible refine w_no ?_ | with_reducible refine w_so ?_ | with_reducible refine w_sl ?_ | with_reducible refine w_meth ?_ | with_reducible refine w_iseq ?_ | with_reducible refine w_range1 ?_ | with_reducible refine f_seq ?_ | with_reducible refine f_set ?_ | with_reducible refine f_drop ?_ | with_reducible refine f_ret ?_ | with_reducible refine f_if ?_ | with_reducible refine f_nil ?_ | with_reducible refine f_par2 ?_ | with_reducible refine f_put ?_ | with_reducible refine f_asg ?_ | refine z_add _ _ ?_ | refine z_sub _ _ ?_ | refine z_lt _ _ ?_ | refine z_le _ _ ?_ | refine z_gt _ _ ?_ | refine z_ge _ _ ?_ | refine z_eq _ _ ?_ | refine z_eqS _ _ ?_ | refine z_neS _ _ ?_ | refine z_slT _ _ _ ?_ | refine z_slL _ _ _ ?_ | refine z_lenL _ ?_ | refine z_lenT _ ?_ | refine z_tupL _ ?_ | refine z_lstT _ ?_)
    refine ⟨[.int 1, .int 0], rfl, ?_⟩
    refine ⟨_, (congrArg (Option.map Val.dat) (deq_tup [s, t] [1, 0])), ?_⟩
    refine ⟨_, rfl, fun _ => ?_, fun _ => e6⟩
    repeat (first | with_reducible refine w_slot rfl ?_ | with_reducible refine w_slot (by with_unfolding_all rfl) ?_ | with_reducible refine w_lc ?_ | with_reducible refine w_c ?_ | with_reducible refine w_bin ?_ | with_reducible refine w_un ?_ | with_reducible refine w_tup ?_ | with_reducible refine w_lst ?_ | with_reducible refine w_lstC ?_ | with_reducible refine w_call ?_ | with_reducible refine w_nil ?_ | with_reducible refine w_cons ?_ | with_reducible refine w_if ?_ | with_reducible refine w_val ?_ | with_reducible refine w_not ?_ | with_reducible refine w_and ?_ | with_reducible refine w_or ?_ | with_reducible refine w_xand ?_ | with_reducible refine w_xor ?_ | with_reducible refine w_no ?_ | with_reducible refine w_so ?_ | with_reducible refine w_sl ?_ | with_reducible refine w_meth ?_ | with_reducible refine w_iseq ?_ | with_reducible refine w_range1 ?_ | with_reducible refine f_seq ?_ | with_reducible refine f_set ?_ | with_reducible refine f_drop ?_ | with_reducible refine f_ret ?_ | with_reducible refine f_if ?_ | with_reducible refine f_nil ?_ | with_reducible refine f_par2 ?_ | with_reducible refine f_put ?_ | with_reducible refine f_asg ?_ | refine z_add _ _ ?_ | refine z_sub _ _ ?_ | refine z_lt _ _ ?_ | refine z_le _ _ ?_ | refine z_gt _ _ ?_ | refine z_ge _ _ ?_ | refine z_eq _ _ ?_ | refine z_eqS _ _ ?_ | refine z_neS _ _ ?_ | refine z_slT _ _ _ ?_ | refine z_slL _ _ _ ?_ | refine z_lenL _ ?_ | refine z_lenT _ ?_ | refine z_tupL _ ?_ | refine z_lstT _ ?_)
    refine z_ixT _ _ rfl ?_
    exact ⟨_, rfl, ⟨r, rfl, hr⟩, e6⟩
  · rw [List.length_map] at f3
    subst f4
    refine ⟨fs, f1, by rw [sizeLine_eq]; omega, ?_⟩
    repeat (first | with_reducible refine w_slot rfl ?_ | with_reducible refine w_slot (by with_unfolding_all rfl) ?_ | with_reducible refine w_lc ?_ | with_reducible refine w_c ?_ | with_reducible refine w_bin ?_ | with_reducible refine w_un ?_ | with_reducible refine w_tup ?_ | with_reducible refine w_lst ?_ | with_reducible refine w_lstC ?_ | with_reducible refine w_call ?_ | with_reducible refine w_nil ?_ | with_reducible refine w_cons ?_ | with_reducible refine w_if ?_ | with_reducible refine w_val ?_ | with_reducible refine w_not ?_ | with_reducible refine w_and ?_ | with_reducible refine w_or ?_ | with_reducible refine w_xand ?_ | with_reducible refine w_xor ?_ | with_reducible refine w_no ?_ | with_reducible refine w_so ?_ | with_reducible refine w_sl ?_ | with_reducible refine w_meth ?_ | with_reducible refine w_iseq ?_ | with_reducible refine w_range1 ?_ | with_reducible refine f_seq ?_ | with_reducible refine f_set ?_ | with_reducible refine f_drop ?_ | with_reducible refine f_ret ?_ | with_reducible refine f_if ?_ | with_reducible refine f_nil ?_ | with_reducible refine f_par2 ?_ | with_reducible refine f_put ?_ | with_reducible refine f_asg ?_ | refine z_add _ _ ?_ | refine z_sub _ _ ?_ | refine z_lt _ _ ?_ | refine z_le _ _ ?_ | refine z_gt _ _ ?_ | refine z_ge _ _ ?_ | refine z_eq _ _ ?_ | refine z_eqS _ _ ?_ | refine z_neS _ _ ?_ | refine z_slT _ _ _ ?_ | refine z_slL _ _ _ ?_ | refine z_lenL _ ?_ | refine z_lenT _ ?_ | refine z_tupL _ ?_ | refine z_lstT _ ?_)
    refine ⟨_, rfl, ?_⟩
    refine okR_mono (lc_inv (fun S' => S' = S6) (IsO k) (fun _ _ => trivial) rfl fun x hx S7 e7 => ?_) fun ys S7 ⟨gs, g1, g2, g3, g4⟩ => ?_
    · obtain ⟨d, hd, rfl⟩ := List.mem_map.mp hx
      obtain ⟨s, t, r, rfl, hs, ht, hr⟩ := ht d hd
      refine ⟨_, rfl, ?_⟩
      repeat (first | with_reducible refine w_slot rfl ?_ | with_reducible refine w_slot (by with_unfolding_all rfl) ?_ | with_reducible refine w_lc ?_ | with_reducible refine w_c ?_ | with_reducible refine w_bin ?_ | with_reducible refine w_un ?_ | with_reducible refine w_tup ?_ | with_reducible refine w_lst ?_ | with_reducible refine w_lstC ?_ | with_reducible refine w_call ?_ | with_reducible refine w_nil ?_ | with_reducible refine w_cons ?_ | with_reducible refine w_if ?_ | with_reducible refine w_val ?_ | with_reducible refine w_not ?_ | with_reducible refine w_and ?_ | with_reducible refine w_or ?_ | with_reducible refine w_xand ?_ | with_reducible refine w_xor ?_ | with_reducible refine w_no ?_ | with_reducible refine w_so ?_ | with_reducible refine w_sl ?_ | with_reducible refine w_meth ?_ | with_reducible refine w_iseq ?_ | with_reducible refine w_range1 ?_ | with_reducible refine f_seq ?_ | with_reducible refine f_set ?_ | with_reducible refine f_drop ?_ | with_reducible refine f_ret ?_ | with_reducible refine f_if ?_ | with_reducible refine f_nil ?_ | with_reducible refine f_par2 ?_ | with_reducible refine f_put ?_ | with_reducible refine f_asg ?_ | refine z_add _ _ ?_ | refine z_sub _ _ ?_ | refine z_lt _ _ ?_ | refine z_le _ _ ?_ | refine z_gt _ _ ?_ | refine z_ge _ _ ?_ | refine z_eq _ _ ?_ | refine z_eqS _ _ ?_ | refine z_neS _ _ ?_ | refine z_slT _ _ _ ?_ | refine z_slL _ _ _ ?_ | refine z_lenL _ ?_ | refine z_lenT _ ?_ | refine z_tupL _ ?_ | refine z_lstT _ ?_)
      refine ⟨_, rfl, ?_⟩
      repeat (first | with_reducible refine w_slot rfl ?_ | with_reducible refine w_slot (by with_unfolding_all rfl) ?_ | with_reducible refine w_lc ?_ | with_reducible refine w_c ?_ | with_reducible refine w_bin ?_ | with_reducible refine w_un ?_ | with_reducible refine w_tup ?_ | with_reducible refine w_lst ?_ | with_reducible refine w_lstC ?_ | with_reducible refine w_call ?_ | with_reducible refine w_nil ?_ | with_reducible refine w_cons ?_ | with_reducible refine w_if ?_ | with_reducible refine w_val ?_ | with_reducible refine w_not ?_ | with_reducible refine w_and ?_ | with_reducible refine w_or ?_ | with_reducible refine w_xand ?_ | with_reducible refine w_xor ?_ | with_reducible refine w_no ?_ | with_reducible refine w_so ?_ | with_reducible refine w_sl ?_ | with_reducible refine w_meth ?_ | with_reducible refine w_iseq ?_ | with_reducible refine w_range1 ?_ | with_reducible refine f_seq ?_ | with_reducible refine f_set ?_ | with_reducible refine f_drop ?_ | with_reducible refine f_ret ?_ | with_reducible refine f_if ?_ | with_reducible refine f_nil ?_ | with_reducible refine f_par2 ?_ | with_reducible refine f_put ?_ | with_reducible refine f_asg ?_ | refine z_add _ _ ?_ | refine z_sub _ _ ?_ | refine z_lt _ _ ?_ | refine z_le _ _ ?_ | refine z_gt _ _ ?_ | refine z_ge _ _ ?_ | refine z_eq _ _ ?_ | refine z_eqS _ _ ?_ | refine z_neS _ _ ?_ | refine z_slT _ _ _ ?_ | refine z_slL _ _ _ ?_ | refine z_lenL _ ?_ | refine z_lenT _ ?_ | refine z_tupL _ ?_ | refine z_lstT _ ?_)
      refine ⟨[.int 0, .int 1], rfl, ?_⟩
      refine ⟨_, (congrArg (Option.map Val.dat) (deq_tup [s, t] [0, 1])), ?_⟩
      refine ⟨_, rfl, fun _ => ?_, fun _ => e7⟩
      repeat (first | with_reducible refine w_slot rfl ?_ | with_reducible refine w_slot (by with_unfolding_all rfl) ?_ | with_reducible refine w_lc ?_ | with_reducible refine w_c ?_ | with_reducible refine w_bin ?_ | with_reducible refine w_un ?_ | with_reducible refine w_tup ?_ | with_reducible refine w_lst ?_ | with_reducible refine w_lstC ?_ | with_reducible refine w_call ?_ | with_reducible refine w_nil ?_ | with_reducible refine w_cons ?_ | with_reducible refine w_if ?_ | with_reducible refine w_val ?_ | with_reducible refine w_not ?_ | with_reducible refine w_and ?_ | with_reducible refine w_or ?_ | with_reducible refine w_xand ?_ | with_reducible refine w_xor ?_ | with_reducible refine w_no ?_ | with_reducible refine w_so ?_ | with_reducible refine w_sl ?_ | with_reducible refine w_meth ?_ | with_reducible refine w_iseq ?_ | with_reducible refine w_range1 ?_ | with_reducible refine f_seq ?_ | with_reducible refine f_set ?_ | with_reducible refine f_drop ?_ | with_reducible refine f_ret ?_ | with_reducible refine f_if ?_ | with_reducible refine f_nil ?_ | with_reducible refine f_par2 ?_ | with_reducible refine f_put ?_ | with_reducible refine f_asg ?_ | refine z_add _ _ ?_ | refine z_sub _ _ ?_ | refine z_lt _ _ ?_ | refine z_le _ _ ?_ | refine z_gt _ _ ?_ | refine z_ge _ _ ?_ | refine z_eq _ _ ?_ | refine z_eqS _ _ ?_ | refine z_neS _ _ ?_ | refine z_slT _ _ _ ?_ | refine z_slL _ _ _ ?_ | refine z_lenL _ ?_ | refine z_lenT _ ?_ | refine z_tupL _ ?_ | refine z_lstT _ ?_)
      refine z_ixT _ _ rfl ?_
      repeat (first | with_reducible refine w_slot rfl ?_ | with_reducible refine w_slot (by with_unfolding_all rfl) ?_ | with_reducible refine w_lc ?_ | with_reducible refine w_c ?_ | with_reducible refine w_bin ?_ | with_reducible refine w_un ?_ | with_reducible refine w_tup ?_ | with_reducible refine w_lst ?_ | with_reducible refine w_lstC ?_ | with_reducible refine w_call ?_ | with_reducible refine w_nil ?_ | with_reducible refine w_cons ?_ | with_reducible refine w_if ?_ | with_reducible refine w_val ?_ | with_reducible refine w_not ?_ | with_reducible refine w_and ?_ | with_reducible refine w_or ?_ | with_reducible refine w_xand ?_ | with_reducible refine w_xor ?_ | with_reducible refine w_no ?_ | with_reducible refine w_so ?_ | with_reducible refine w_sl ?_ | with_reducible refine w_meth ?_ | with_reducible refine w_iseq ?_ | with_reducible refine w_range1 ?_ | with_reducible refine f_seq ?_ | with_reducible refine f_set ?_ | with_reducible refine f_drop ?_ | with_reducible refine f_ret ?_ | with_reducible refine f_if ?_ | with_reducible refine f_nil ?_ | with_reducible refine f_par2 ?_ | with_reducible refine f_put ?_ | with_reducible refine f_asg ?_ | refine z_add _ _ ?_ | refine z_sub _ _ ?_ | refine z_lt _ _ ?_ | refine z_le _ _ ?_ | refine z_gt _ _ ?_ | refine z_ge _ _ ?_ | refine z_eq _ _ ?_ | refine z_eqS _ _ ?_ | refine z_neS _ _ ?_ | refine z_slT _ _ _ ?_ | refine z_slL _ _ _ ?_ | refine z_lenL _ ?_ | refine z_lenT _ ?_ | refine z_tupL _ ?_ | refine z_lstT _ ?_)
      refine w_lturned (by rw [List.length_map, hr.1]; rcases kk with e | e <;> omega) ?_
      exact ⟨_, rfl, ⟨_, turnD_tup r, turnR_ok hr kk⟩, e7⟩
    · rw [List.length_map] at g3
      subst g4
      refine ⟨gs, g1, by rw [sizeLine_eq]; omega, ?_⟩
      refine z_addL _ _ (by rw [sizeLine_eq]; omega) ?_
      refine fin_same (q _ (fun d hd => ?_) (by rw [List.length_append]; omega))
      rcases List.mem_append.mp hd with z | z
      · exact f2 d z
      · exact g2 d z
end
end Lw
end
section
set_option Elab.async false
set_option linter.all false
set_option maxRecDepth 100000
set_option maxHeartbeats 0
namespace Lw
open PySem NB
/-! the law -/
noncomputable def BODY : XSt := (sSeq (sAsg (xLc [9] (iSeq (xCall (fns T ds 15 "_law_needed") (aCons (xSlot 4) aNil))) (gN 9) (tVal (xBin (lift2 dEq) (xCall (fns T ds 15 "_law_draw") (aCons (xSlot 1) (aCons (xC (.int 3)) aNil))) (xC (.int 0)))) (xSlot 9)) (gN 5)) (sSeq (sAsg (xUn gTuple (xUn (orG gSortSet (compG gSet gSortS)) (xBin (lift2 dAdd) (xSl (xSlot 5) oNo (oSo (xC (.int 5)))) (xUn gList (xCall (fns T ds 15 "_law_some_waits") (aCons (xSlot 1) (aCons (xSlot 3) (aCons (xC (.int 3)) aNil)))))))) (gN 6)) (sSeq (sAsg (xUn gRepr (xTup (aCons (xSlot 4) (aCons (xSlot 6) aNil)))) (gN 7)) (sSeq (sIf (tVal (xBin (lift2 dNe) (xUn gRepr (xCall (fns T ds 15 "waits_table") (aCons (xSlot 6) aNil))) (xUn gRepr (xCall (fns T ds 15 "_law_waiting") (aCons (xSlot 6) aNil))))) (sRet (xC (.bool false))) sNil) (sSeq (sIf (tVal (xBin (lift2 dNe) (xUn gRepr (xCall (fns T ds 15 "kept_table") (aCons (xSlot 4) (aCons (xSlot 6) aNil)))) (xUn gRepr (xCall (fns T ds 15 "_law_kept") (aCons (xSlot 4) (aCons (xSlot 6) aNil)))))) (sRet (xC (.bool false))) sNil) (sSeq (sFor (iSeq (xBin (lift2 dAdd) (xUn gList (xSl (xSlot 4) oNo (oSo (xC (.int 12))))) (xLc [10] (iRange1 (xC (.int 6))) (gN 10) xTrue (xCall (fns T ds 15 "_law_some_look") (aCons (xSlot 1) (aCons (xSlot 3) aNil)))))) (gN 8) (sIf (tVal (xBin (lift2 dNe) (xUn gRepr (xCall (fns T ds 15 "is_cut") (aCons (xSlot 6) (aCons (xSlot 8) aNil)))) (xUn gRepr (xCall (fns T ds 15 "_law_cut") (aCons (xSlot 6) (aCons (xSlot 8) aNil)))))) (sRet (xC (.bool false))) sNil)) (sIf (tVal (xBin (lift2 dNe) (xUn gRepr (xTup (aCons (xSlot 4) (aCons (xSlot 6) aNil)))) (xSlot 7))) (sRet (xC (.bool false))) sNil)))))))
section
variable {k : Nat} {S : Sto}
theorem ne_selfW (x : Str) : (!decide (x = x)) = false := by simp
theorem fit_pair {tb ws : List PyData} (kk : k ≤ 4) (ht : ∀ d ∈ tb, IsL k d) (hw : ∀ e ∈ ws, IsO k e) (l1 : tb.length ≤ 1000) (l2 : ws.length ≤ 1000) : reprOk (.tuple [.tuple tb, .tuple ws]) = true := by
  have a := fit_tup (a := 2) (b := 90) (n := 1000) (xs := tb) (fun d hd => fitL (ht d hd) kk) l1
  have b := fit_tup (a := 1) (b := 27) (n := 1000) (xs := ws) (fun d hd => fitO (hw d hd) kk) l2
  refine (fit_tup (a := 3) (b := 92003) (n := 2) (xs := [.tuple tb, .tuple ws]) (fun x hx => ?_) (Nat.le_refl _)).rep (by decide) (by decide)
  simp only [List.mem_cons, List.not_mem_nil, or_false] at hx
  rcases hx with rfl | rfl
  · exact a.mono (by decide) (by decide)
  · exact b.mono (by decide) (by decide)
theorem rep_table {tb : List PyData} (kk : k ≤ 4) (ht : ∀ d ∈ tb, IsL k d) (l1 : tb.length ≤ 1000) : reprOk (.tuple tb) = true :=
  (fit_tup (a := 2) (b := 90) (n := 1000) (xs := tb) (fun d hd => fitL (ht d hd) kk) l1).rep (by decide) (by decide)
theorem rep_b (b : Bool) : reprOk (.bool b) = true := (fit_bool b).rep (by decide) (by decide)
theorem wlook_ok {o : PyData} (h : IsO k o) : IsL k (wlook o) := by
  obtain ⟨r, rfl, hr⟩ := h
  exact ⟨0, 0, r, rfl, by decide, by decide, hr⟩
theorem law_true (ns : List Int) (hn : ns.length ≤ 63) : ∃ S', fns T ds 16 "law" [.scr ns] [] = .ok (.dat (.bool true)) S' := by
  suffices h : okR (fns T ds 16 "law" [.scr ns] []) fun v _ => v = .dat (.bool true) by
    obtain ⟨v, S', e, rfl⟩ := okR_get h
    exact ⟨S', e⟩
  rw [show (16 : Nat) = 15 + 1 from rfl, f_law]
  refine w_fn rfl ?_
  repeat (first | with_reducible refine w_slot rfl ?_ | with_reducible refine w_slot (by with_unfolding_all rfl) ?_ | with_reducible refine w_lc ?_ | with_reducible refine w_c ?_ | with_reducible refine w_bin ?_ | with_reducible refine w_un ?_ | with_reducible refine w_tup ?_ | with_reducible refine w_lst ?_ | with_reducible refine w_lstC ?_ | with_reducible refine w_call ?_ | with_reducible refine w_nil ?_ | with_reducible refine w_cons ?_ | with_reducible refine w_if ?_ | with_reducible refine w_val ?_ | with_reducible refine w_not ?_ | with_reducible refine w_and ?_ | with_reducible refine w_or ?_ | with_reducible refine w_xand ?_ | with_reducible refine w_xor ?_ | with_reducible refine w_no ?_ | with_reducible refine w_so ?_ | with_reducible refine w_sl ?_ | with_reducible refine w_meth ?_ | with_reducible refine w_iseq ?_ | with_reducible refine w_range1 ?_ | with_reducible refine f_seq ?_ | with_reducible refine f_set ?_ | with_reducible refine f_drop ?_ | with_reducible refine f_ret ?_ | with_reducible refine f_if ?_ | with_reducible refine f_nil ?_ | with_reducible refine f_par2 ?_ | with_reducible refine f_put ?_ | with_reducible refine f_asg ?_ | refine z_add _ _ ?_ | refine z_sub _ _ ?_ | refine z_lt _ _ ?_ | refine z_le _ _ ?_ | refine z_gt _ _ ?_ | refine z_ge _ _ ?_ | refine z_eq _ _ ?_ | refine z_eqS _ _ ?_ | refine z_neS _ _ ?_ | refine z_slT _ _ _ ?_ | refine z_slL _ _ _ ?_ | refine z_lenL _ ?_ | refine z_lenT _ ?_ | refine z_tupL _ ?_ | refine z_lstT _ ?_)
  refine w_penStart fun g S1 h1 => ?_
  refine f_seq (f_for (fun ρ S => ∃ a2 a3 a4 a5 a6 a7 a8 a9 a10 : Option Val, ρ = [some (.scr ns), some (.loc 0), a2, a3, a4, a5, a6, a7, a8, a9, a10] ∧ SP g [] S) ?_ ?_)
  · repeat (first | with_reducible refine w_slot rfl ?_ | with_reducible refine w_slot (by with_unfolding_all rfl) ?_ | with_reducible refine w_lc ?_ | with_reducible refine w_c ?_ | with_reducible refine w_bin ?_ | with_reducible refine w_un ?_ | with_reducible refine w_tup ?_ | with_reducible refine w_lst ?_ | with_reducible refine w_lstC ?_ | with_reducible refine w_call ?_ | with_reducible refine w_nil ?_ | with_reducible refine w_cons ?_ | with_reducible refine w_if ?_ | with_reducible refine w_val ?_ | with_reducible refine w_not ?_ | with_reducible refine w_and ?_ | with_reducible refine w_or ?_ | with_reducible refine w_xand ?_ | with_reducible refine w_xor ?_ | with_reducible refine w_no ?_ | with_reducible refine w_so ?_ | with_reducible refine w_sl ?_ | with_reducible refine w_meth ?_ | with_reducible refine w_iseq ?_ | with_reducible refine w_range1 ?_ | with_reducible refine f_seq ?_ | with_reducible refine f_set ?_ | with_reducible refine f_drop ?_ | with_reducible refine f_ret ?_ | with_reducible refine f_if ?_ | with_reducible refine f_nil ?_ | with_reducible refine f_par2 ?_ | with_reducible refine f_put ?_ | with_reducible refine f_asg ?_ | refine z_add _ _ ?_ | refine z_sub _ _ ?_ | refine z_lt _ _ ?_ | refine z_le _ _ ?_ | refine z_gt _ _ ?_ | refine z_ge _ _ ?_ | refine z_eq _ _ ?_ | refine z_eqS _ _ ?_ | refine z_neS _ _ ?_ | refine z_slT _ _ _ ?_ | refine z_slL _ _ _ ?_ | refine z_lenL _ ?_ | refine z_lenT _ ?_ | refine z_tupL _ ?_ | refine z_lstT _ ?_)
    refine z_lenS ?_
    refine z_min _ _ ?_
    refine z_max _ _ ?_
    refine ⟨_, rfl, rOk_i (by split <;> split <;> omega) (by split <;> split <;> omega), fun _ _ _ => trivial, ⟨_, _, _, _, _, _, _, _, _, rfl, h1⟩, ?_⟩
    rintro x hx ρ S2 ⟨a2, a3, a4, a5, a6, a7, a8, a9, a10, rfl, h2⟩
    refine ⟨_, rfl, ?_⟩
    repeat (first | with_reducible refine w_slot rfl ?_ | with_reducible refine w_slot (by with_unfolding_all rfl) ?_ | with_reducible refine w_lc ?_ | with_reducible refine w_c ?_ | with_reducible refine w_bin ?_ | with_reducible refine w_un ?_ | with_reducible refine w_tup ?_ | with_reducible refine w_lst ?_ | with_reducible refine w_lstC ?_ | with_reducible refine w_call ?_ | with_reducible refine w_nil ?_ | with_reducible refine w_cons ?_ | with_reducible refine w_if ?_ | with_reducible refine w_val ?_ | with_reducible refine w_not ?_ | with_reducible refine w_and ?_ | with_reducible refine w_or ?_ | with_reducible refine w_xand ?_ | with_reducible refine w_xor ?_ | with_reducible refine w_no ?_ | with_reducible refine w_so ?_ | with_reducible refine w_sl ?_ | with_reducible refine w_meth ?_ | with_reducible refine w_iseq ?_ | with_reducible refine w_range1 ?_ | with_reducible refine f_seq ?_ | with_reducible refine f_set ?_ | with_reducible refine f_drop ?_ | with_reducible refine f_ret ?_ | with_reducible refine f_if ?_ | with_reducible refine f_nil ?_ | with_reducible refine f_par2 ?_ | with_reducible refine f_put ?_ | with_reducible refine f_asg ?_ | refine z_add _ _ ?_ | refine z_sub _ _ ?_ | refine z_lt _ _ ?_ | refine z_le _ _ ?_ | refine z_gt _ _ ?_ | refine z_ge _ _ ?_ | refine z_eq _ _ ?_ | refine z_eqS _ _ ?_ | refine z_neS _ _ ?_ | refine z_slT _ _ _ ?_ | refine z_slL _ _ _ ?_ | refine z_lenL _ ?_ | refine z_lenT _ ?_ | refine z_tupL _ ?_ | refine z_lstT _ ?_)
    refine w_draw h2 (by decide) (by decide) fun v S3 v0 v1 h3 => ?_
    repeat (first | with_reducible refine w_slot rfl ?_ | with_reducible refine w_slot (by with_unfolding_all rfl) ?_ | with_reducible refine w_lc ?_ | with_reducible refine w_c ?_ | with_reducible refine w_bin ?_ | with_reducible refine w_un ?_ | with_reducible refine w_tup ?_ | with_reducible refine w_lst ?_ | with_reducible refine w_lstC ?_ | with_reducible refine w_call ?_ | with_reducible refine w_nil ?_ | with_reducible refine w_cons ?_ | with_reducible refine w_if ?_ | with_reducible refine w_val ?_ | with_reducible refine w_not ?_ | with_reducible refine w_and ?_ | with_reducible refine w_or ?_ | with_reducible refine w_xand ?_ | with_reducible refine w_xor ?_ | with_reducible refine w_no ?_ | with_reducible refine w_so ?_ | with_reducible refine w_sl ?_ | with_reducible refine w_meth ?_ | with_reducible refine w_iseq ?_ | with_reducible refine w_range1 ?_ | with_reducible refine f_seq ?_ | with_reducible refine f_set ?_ | with_reducible refine f_drop ?_ | with_reducible refine f_ret ?_ | with_reducible refine f_if ?_ | with_reducible refine f_nil ?_ | with_reducible refine f_par2 ?_ | with_reducible refine f_put ?_ | with_reducible refine f_asg ?_ | refine z_add _ _ ?_ | refine z_sub _ _ ?_ | refine z_lt _ _ ?_ | refine z_le _ _ ?_ | refine z_gt _ _ ?_ | refine z_ge _ _ ?_ | refine z_eq _ _ ?_ | refine z_eqS _ _ ?_ | refine z_neS _ _ ?_ | refine z_slT _ _ _ ?_ | refine z_slL _ _ _ ?_ | refine z_lenL _ ?_ | refine z_lenT _ ?_ | refine z_tupL _ ?_ | refine z_lstT _ ?_)
    obtain ⟨k, M⟩ : ∃ k, MK (1 + v) k := by
      rcases (show v = 0 ∨ v = 1 by omega) with rfl | rfl
      · exact ⟨2, by decide, .inl rfl⟩
      · exact ⟨4, by decide, .inr rfl⟩
    generalize hm : 1 + v = m at M ⊢
    refine w_draw h3 (by decide) (by decide) fun v4 S4 _ _ h4 => ?_
    repeat (first | with_reducible refine w_slot rfl ?_ | with_reducible refine w_slot (by with_unfolding_all rfl) ?_ | with_reducible refine w_lc ?_ | with_reducible refine w_c ?_ | with_reducible refine w_bin ?_ | with_reducible refine w_un ?_ | with_reducible refine w_tup ?_ | with_reducible refine w_lst ?_ | with_reducible refine w_lstC ?_ | with_reducible refine w_call ?_ | with_reducible refine w_nil ?_ | with_reducible refine w_cons ?_ | with_reducible refine w_if ?_ | with_reducible refine w_val ?_ | with_reducible refine w_not ?_ | with_reducible refine w_and ?_ | with_reducible refine w_or ?_ | with_reducible refine w_xand ?_ | with_reducible refine w_xor ?_ | with_reducible refine w_no ?_ | with_reducible refine w_so ?_ | with_reducible refine w_sl ?_ | with_reducible refine w_meth ?_ | with_reducible refine w_iseq ?_ | with_reducible refine w_range1 ?_ | with_reducible refine f_seq ?_ | with_reducible refine f_set ?_ | with_reducible refine f_drop ?_ | with_reducible refine f_ret ?_ | with_reducible refine f_if ?_ | with_reducible refine f_nil ?_ | with_reducible refine f_par2 ?_ | with_reducible refine f_put ?_ | with_reducible refine f_asg ?_ | refine z_add _ _ ?_ | refine z_sub _ _ ?_ | refine z_lt _ _ ?_ | refine z_le _ _ ?_ | refine z_gt _ _ ?_ | refine z_ge _ _ ?_ | refine z_eq _ _ ?_ | refine z_eqS _ _ ?_ | refine z_neS _ _ ?_ | refine z_slT _ _ _ ?_ | refine z_slL _ _ _ ?_ | refine z_lenL _ ?_ | refine z_lenT _ ?_ | refine z_tupL _ ?_ | refine z_lstT _ ?_)
    refine ⟨_, rfl, ?_⟩
    have rest : ∀ (tb : List PyData) (S5 : Sto), (∀ d ∈ tb, IsL k d) → tb.length ≤ 160 → SP g [] S5 → okF (BODY [some (.scr ns), some (.loc 0), some x, some (.dat (.int m)), some (.dat (.tuple tb)), a5, a6, a7, a8, a9, a10] S5) fun f ρ2 S2 => match f with
      | .next => ∃ a2 a3 a4 a5 a6 a7 a8 a9 a10 : Option Val, ρ2 = [some (.scr ns), some (.loc 0), a2, a3, a4, a5, a6, a7, a8, a9, a10] ∧ SP g [] S2
      | _ => False := by
      intro tb S5 ht hl h5
      unfold BODY
      repeat (first | with_reducible refine w_slot rfl ?_ | with_reducible refine w_slot (by with_unfolding_all rfl) ?_ | with_reducible refine w_lc ?_ | with_reducible refine w_c ?_ | with_reducible refine w_bin ?_ | with_reducible refine w_un ?_ | with_reducible refine w_tup ?_ | with_reducible refine w_lst ?_ | with_reducible refine w_lstC ?_ | with_reducible refine w_call ?_ | with_reducible refine w_nil ?_ | with_reducible refine w_cons ?_ | with_reducible refine w_if ?_ | with_reducible refine w_val ?_ | with_reducible refine w_not ?_ | with_reducible refine w_and ?_ | with_reducible refine w_or ?_ | with_reducible refine w_xand ?_ | with_reducible refine w_xor ?_ | with_reducible refine w_no ?_ | with_reducible refine w_so ?_ | with_reducible refine w_sl ?_ | with_reducible refine w_meth ?_ | with_reducible refine w_iseq ?_ | with_reducible refine w_range1 ?_ | with_reducible refine f_seq ?_ | with_reducible refine f_set ?_ | with_reducible refine f_drop ?_ | with_reducible refine f_ret ?_ | with_reducible refine f_if ?_ | with_reducible refine f_nil ?_ | with_reducible refine f_par2 ?_ | with_reducible refine f_put ?_ | with_reducible refine f_asg ?_ | refine z_add _ _ ?_ | refine z_sub _ _ ?_ | refine z_lt _ _ ?_ | refine z_le _ _ ?_ | refine z_gt _ _ ?_ | refine z_ge _ _ ?_ | refine z_eq _ _ ?_ | refine z_eqS _ _ ?_ | refine z_neS _ _ ?_ | refine z_slT _ _ _ ?_ | refine z_slL _ _ _ ?_ | refine z_lenL _ ?_ | refine z_lenT _ ?_ | refine z_tupL _ ?_ | refine z_lstT _ ?_)
      refine w_needed M.kk ht (by omega) fun fs f1 f2 => ?_
      refine ⟨_, rfl, ?_⟩
      refine okR_mono (lc_inv (SP g []) (IsO k) (fun _ _ => trivial) h5 fun y hy S6 h6 => ⟨_, rfl, ?_⟩) fun ys S6 ⟨es, e1, e2, e3, h6⟩ => ?_
      · repeat (first | with_reducible refine w_slot rfl ?_ | with_reducible refine w_slot (by with_unfolding_all rfl) ?_ | with_reducible refine w_lc ?_ | with_reducible refine w_c ?_ | with_reducible refine w_bin ?_ | with_reducible refine w_un ?_ | with_reducible refine w_tup ?_ | with_reducible refine w_lst ?_ | with_reducible refine w_lstC ?_ | with_reducible refine w_call ?_ | with_reducible refine w_nil ?_ | with_reducible refine w_cons ?_ | with_reducible refine w_if ?_ | with_reducible refine w_val ?_ | with_reducible refine w_not ?_ | with_reducible refine w_and ?_ | with_reducible refine w_or ?_ | with_reducible refine w_xand ?_ | with_reducible refine w_xor ?_ | with_reducible refine w_no ?_ | with_reducible refine w_so ?_ | with_reducible refine w_sl ?_ | with_reducible refine w_meth ?_ | with_reducible refine w_iseq ?_ | with_reducible refine w_range1 ?_ | with_reducible refine f_seq ?_ | with_reducible refine f_set ?_ | with_reducible refine f_drop ?_ | with_reducible refine f_ret ?_ | with_reducible refine f_if ?_ | with_reducible refine f_nil ?_ | with_reducible refine f_par2 ?_ | with_reducible refine f_put ?_ | with_reducible refine f_asg ?_ | refine z_add _ _ ?_ | refine z_sub _ _ ?_ | refine z_lt _ _ ?_ | refine z_le _ _ ?_ | refine z_gt _ _ ?_ | refine z_ge _ _ ?_ | refine z_eq _ _ ?_ | refine z_eqS _ _ ?_ | refine z_neS _ _ ?_ | refine z_slT _ _ _ ?_ | refine z_slL _ _ _ ?_ | refine z_lenL _ ?_ | refine z_lenT _ ?_ | refine z_tupL _ ?_ | refine z_lstT _ ?_)
        refine w_draw h6 (by decide) (by decide) fun v7 S7 _ _ h7 => ?_
        repeat (first | with_reducible refine w_slot rfl ?_ | with_reducible refine w_slot (by with_unfolding_all rfl) ?_ | with_reducible refine w_lc ?_ | with_reducible refine w_c ?_ | with_reducible refine w_bin ?_ | with_reducible refine w_un ?_ | with_reducible refine w_tup ?_ | with_reducible refine w_lst ?_ | with_reducible refine w_lstC ?_ | with_reducible refine w_call ?_ | with_reducible refine w_nil ?_ | with_reducible refine w_cons ?_ | with_reducible refine w_if ?_ | with_reducible refine w_val ?_ | with_reducible refine w_not ?_ | with_reducible refine w_and ?_ | with_reducible refine w_or ?_ | with_reducible refine w_xand ?_ | with_reducible refine w_xor ?_ | with_reducible refine w_no ?_ | with_reducible refine w_so ?_ | with_reducible refine w_sl ?_ | with_reducible refine w_meth ?_ | with_reducible refine w_iseq ?_ | with_reducible refine w_range1 ?_ | with_reducible refine f_seq ?_ | with_reducible refine f_set ?_ | with_reducible refine f_drop ?_ | with_reducible refine f_ret ?_ | with_reducible refine f_if ?_ | with_reducible refine f_nil ?_ | with_reducible refine f_par2 ?_ | with_reducible refine f_put ?_ | with_reducible refine f_asg ?_ | refine z_add _ _ ?_ | refine z_sub _ _ ?_ | refine z_lt _ _ ?_ | refine z_le _ _ ?_ | refine z_gt _ _ ?_ | refine z_ge _ _ ?_ | refine z_eq _ _ ?_ | refine z_eqS _ _ ?_ | refine z_neS _ _ ?_ | refine z_slT _ _ _ ?_ | refine z_slL _ _ _ ?_ | refine z_lenL _ ?_ | refine z_lenT _ ?_ | refine z_tupL _ ?_ | refine z_lstT _ ?_)
        refine ⟨_, rfl, fun _ => ?_, fun _ => h7⟩
        repeat (first | with_reducible refine w_slot rfl ?_ | with_reducible refine w_slot (by with_unfolding_all rfl) ?_ | with_reducible refine w_lc ?_ | with_reducible refine w_c ?_ | with_reducible refine w_bin ?_ | with_reducible refine w_un ?_ | with_reducible refine w_tup ?_ | with_reducible refine w_lst ?_ | with_reducible refine w_lstC ?_ | with_reducible refine w_call ?_ | with_reducible refine w_nil ?_ | with_reducible refine w_cons ?_ | with_reducible refine w_if ?_ | with_reducible refine w_val ?_ | with_reducible refine w_not ?_ | with_reducible refine w_and ?_ | with_reducible refine w_or ?_ | with_reducible refine w_xand ?_ | with_reducible refine w_xor ?_ | with_reducible refine w_no ?_ | with_reducible refine w_so ?_ | with_reducible refine w_sl ?_ | with_reducible refine w_meth ?_ | with_reducible refine w_iseq ?_ | with_reducible refine w_range1 ?_ | with_reducible refine f_seq ?_ | with_reducible refine f_set ?_ | with_reducible refine f_drop ?_ | with_reducible refine f_ret ?_ | with_reducible refine f_if ?_ | with_reducible refine f_nil ?_ | with_reducible refine f_par2 ?_ | with_reducible refine f_put ?_ | with_reducible refine f_asg ?_ | refine z_add _ _ ?_ | refine z_sub _ _ ?_ | refine z_lt _ _ ?_ | refine z_le _ _ ?_ | refine z_gt _ _ ?_ | refine z_ge _ _ ?_ | refine z_eq _ _ ?_ | refine z_eqS _ _ ?_ | refine z_neS _ _ ?_ | refine z_slT _ _ _ ?_ | refine z_slL _ _ _ ?_ | refine z_lenL _ ?_ | refine z_lenT _ ?_ | refine z_tupL _ ?_ | refine z_lstT _ ?_)
        obtain ⟨d, hd, rfl⟩ := List.mem_map.mp hy
        exact ⟨d, rfl, f1 d hd, h7⟩
      rw [List.length_map] at e3
      refine ⟨es, e1, by rw [sizeLine_eq]; omega, ?_⟩
      repeat (first | with_reducible refine w_slot rfl ?_ | with_reducible refine w_slot (by with_unfolding_all rfl) ?_ | with_reducible refine w_lc ?_ | with_reducible refine w_c ?_ | with_reducible refine w_bin ?_ | with_reducible refine w_un ?_ | with_reducible refine w_tup ?_ | with_reducible refine w_lst ?_ | with_reducible refine w_lstC ?_ | with_reducible refine w_call ?_ | with_reducible refine w_nil ?_ | with_reducible refine w_cons ?_ | with_reducible refine w_if ?_ | with_reducible refine w_val ?_ | with_reducible refine w_not ?_ | with_reducible refine w_and ?_ | with_reducible refine w_or ?_ | with_reducible refine w_xand ?_ | with_reducible refine w_xor ?_ | with_reducible refine w_no ?_ | with_reducible refine w_so ?_ | with_reducible refine w_sl ?_ | with_reducible refine w_meth ?_ | with_reducible refine w_iseq ?_ | with_reducible refine w_range1 ?_ | with_reducible refine f_seq ?_ | with_reducible refine f_set ?_ | with_reducible refine f_drop ?_ | with_reducible refine f_ret ?_ | with_reducible refine f_if ?_ | with_reducible refine f_nil ?_ | with_reducible refine f_par2 ?_ | with_reducible refine f_put ?_ | with_reducible refine f_asg ?_ | refine z_add _ _ ?_ | refine z_sub _ _ ?_ | refine z_lt _ _ ?_ | refine z_le _ _ ?_ | refine z_gt _ _ ?_ | refine z_ge _ _ ?_ | refine z_eq _ _ ?_ | refine z_eqS _ _ ?_ | refine z_neS _ _ ?_ | refine z_slT _ _ _ ?_ | refine z_slL _ _ _ ?_ | refine z_lenL _ ?_ | refine z_lenT _ ?_ | refine z_tupL _ ?_ | refine z_lstT _ ?_)
      refine ⟨_, rfl, ?_⟩
      repeat (first | with_reducible refine w_slot rfl ?_ | with_reducible refine w_slot (by with_unfolding_all rfl) ?_ | with_reducible refine w_lc ?_ | with_reducible refine w_c ?_ | with_reducible refine w_bin ?_ | with_reducible refine w_un ?_ | with_reducible refine w_tup ?_ | with_reducible refine w_lst ?_ | with_reducible refine w_lstC ?_ | with_reducible refine w_call ?_ | with_reducible refine w_nil ?_ | with_reducible refine w_cons ?_ | with_reducible refine w_if ?_ | with_reducible refine w_val ?_ | with_reducible refine w_not ?_ | with_reducible refine w_and ?_ | with_reducible refine w_or ?_ | with_reducible refine w_xand ?_ | with_reducible refine w_xor ?_ | with_reducible refine w_no ?_ | with_reducible refine w_so ?_ | with_reducible refine w_sl ?_ | with_reducible refine w_meth ?_ | with_reducible refine w_iseq ?_ | with_reducible refine w_range1 ?_ | with_reducible refine f_seq ?_ | with_reducible refine f_set ?_ | with_reducible refine f_drop ?_ | with_reducible refine f_ret ?_ | with_reducible refine f_if ?_ | with_reducible refine f_nil ?_ | with_reducible refine f_par2 ?_ | with_reducible refine f_put ?_ | with_reducible refine f_asg ?_ | refine z_add _ _ ?_ | refine z_sub _ _ ?_ | refine z_lt _ _ ?_ | refine z_le _ _ ?_ | refine z_gt _ _ ?_ | refine z_ge _ _ ?_ | refine z_eq _ _ ?_ | refine z_eqS _ _ ?_ | refine z_neS _ _ ?_ | refine z_slT _ _ _ ?_ | refine z_slL _ _ _ ?_ | refine z_lenL _ ?_ | refine z_lenT _ ?_ | refine z_tupL _ ?_ | refine z_lstT _ ?_)
      refine w_some_waits h6 M (by decide) (by decide) fun ws2 S7 w1 w2 h7 => ?_
      repeat (first | with_reducible refine w_slot rfl ?_ | with_reducible refine w_slot (by with_unfolding_all rfl) ?_ | with_reducible refine w_lc ?_ | with_reducible refine w_c ?_ | with_reducible refine w_bin ?_ | with_reducible refine w_un ?_ | with_reducible refine w_tup ?_ | with_reducible refine w_lst ?_ | with_reducible refine w_lstC ?_ | with_reducible refine w_call ?_ | with_reducible refine w_nil ?_ | with_reducible refine w_cons ?_ | with_reducible refine w_if ?_ | with_reducible refine w_val ?_ | with_reducible refine w_not ?_ | with_reducible refine w_and ?_ | with_reducible refine w_or ?_ | with_reducible refine w_xand ?_ | with_reducible refine w_xor ?_ | with_reducible refine w_no ?_ | with_reducible refine w_so ?_ | with_reducible refine w_sl ?_ | with_reducible refine w_meth ?_ | with_reducible refine w_iseq ?_ | with_reducible refine w_range1 ?_ | with_reducible refine f_seq ?_ | with_reducible refine f_set ?_ | with_reducible refine f_drop ?_ | with_reducible refine f_ret ?_ | with_reducible refine f_if ?_ | with_reducible refine f_nil ?_ | with_reducible refine f_par2 ?_ | with_reducible refine f_put ?_ | with_reducible refine f_asg ?_ | refine z_add _ _ ?_ | refine z_sub _ _ ?_ | refine z_lt _ _ ?_ | refine z_le _ _ ?_ | refine z_gt _ _ ?_ | refine z_ge _ _ ?_ | refine z_eq _ _ ?_ | refine z_eqS _ _ ?_ | refine z_neS _ _ ?_ | refine z_slT _ _ _ ?_ | refine z_slL _ _ _ ?_ | refine z_lenL _ ?_ | refine z_lenT _ ?_ | refine z_tupL _ ?_ | refine z_lstT _ ?_)
      have l5 := cutL_len es none (some 5)
      refine z_addL _ _ (by rw [sizeLine_eq]; omega) ?_
      refine z_ssetO (show seqD S7 (.dat (.list (cutL es none (some 5) ++ ws2))) = some _ from rfl) (fun d hd => ?_) M.pos M.le (by rw [List.length_append]; omega) fun ws k1 k2 => ?_
      · rcases List.mem_append.mp hd with z | z
        · exact e2 d (cutL_mem z)
        · exact w1 d z
      rw [List.length_append] at k2
      have lw : ws.length ≤ 1000 := by omega
      have wl : ∀ d ∈ ws.map wlook, IsL k d := fun d hd => by
        obtain ⟨o, ho, rfl⟩ := List.mem_map.mp hd
        exact wlook_ok (k1 o ho)
      have rp := fit_pair M.le ht k1 (by omega) lw
      repeat (first | with_reducible refine w_slot rfl ?_ | with_reducible refine w_slot (by with_unfolding_all rfl) ?_ | with_reducible refine w_lc ?_ | with_reducible refine w_c ?_ | with_reducible refine w_bin ?_ | with_reducible refine w_un ?_ | with_reducible refine w_tup ?_ | with_reducible refine w_lst ?_ | with_reducible refine w_lstC ?_ | with_reducible refine w_call ?_ | with_reducible refine w_nil ?_ | with_reducible refine w_cons ?_ | with_reducible refine w_if ?_ | with_reducible refine w_val ?_ | with_reducible refine w_not ?_ | with_reducible refine w_and ?_ | with_reducible refine w_or ?_ | with_reducible refine w_xand ?_ | with_reducible refine w_xor ?_ | with_reducible refine w_no ?_ | with_reducible refine w_so ?_ | with_reducible refine w_sl ?_ | with_reducible refine w_meth ?_ | with_reducible refine w_iseq ?_ | with_reducible refine w_range1 ?_ | with_reducible refine f_seq ?_ | with_reducible refine f_set ?_ | with_reducible refine f_drop ?_ | with_reducible refine f_ret ?_ | with_reducible refine f_if ?_ | with_reducible refine f_nil ?_ | with_reducible refine f_par2 ?_ | with_reducible refine f_put ?_ | with_reducible refine f_asg ?_ | refine z_add _ _ ?_ | refine z_sub _ _ ?_ | refine z_lt _ _ ?_ | refine z_le _ _ ?_ | refine z_gt _ _ ?_ | refine z_ge _ _ ?_ | refine z_eq _ _ ?_ | refine z_eqS _ _ ?_ | refine z_neS _ _ ?_ | refine z_slT _ _ _ ?_ | refine z_slL _ _ _ ?_ | refine z_lenL _ ?_ | refine z_lenT _ ?_ | refine z_tupL _ ?_ | refine z_lstT _ ?_)
      refine ⟨[.tuple tb, .tuple ws], rfl, ?_⟩
      refine z_repr _ rp ?_
      repeat (first | with_reducible refine w_slot rfl ?_ | with_reducible refine w_slot (by with_unfolding_all rfl) ?_ | with_reducible refine w_lc ?_ | with_reducible refine w_c ?_ | with_reducible refine w_bin ?_ | with_reducible refine w_un ?_ | with_reducible refine w_tup ?_ | with_reducible refine w_lst ?_ | with_reducible refine w_lstC ?_ | with_reducible refine w_call ?_ | with_reducible refine w_nil ?_ | with_reducible refine w_cons ?_ | with_reducible refine w_if ?_ | with_reducible refine w_val ?_ | with_reducible refine w_not ?_ | with_reducible refine w_and ?_ | with_reducible refine w_or ?_ | with_reducible refine w_xand ?_ | with_reducible refine w_xor ?_ | with_reducible refine w_no ?_ | with_reducible refine w_so ?_ | with_reducible refine w_sl ?_ | with_reducible refine w_meth ?_ | with_reducible refine w_iseq ?_ | with_reducible refine w_range1 ?_ | with_reducible refine f_seq ?_ | with_reducible refine f_set ?_ | with_reducible refine f_drop ?_ | with_reducible refine f_ret ?_ | with_reducible refine f_if ?_ | with_reducible refine f_nil ?_ | with_reducible refine f_par2 ?_ | with_reducible refine f_put ?_ | with_reducible refine f_asg ?_ | refine z_add _ _ ?_ | refine z_sub _ _ ?_ | refine z_lt _ _ ?_ | refine z_le _ _ ?_ | refine z_gt _ _ ?_ | refine z_ge _ _ ?_ | refine z_eq _ _ ?_ | refine z_eqS _ _ ?_ | refine z_neS _ _ ?_ | refine z_slT _ _ _ ?_ | refine z_slL _ _ _ ?_ | refine z_lenL _ ?_ | refine z_lenT _ ?_ | refine z_tupL _ ?_ | refine z_lstT _ ?_)
      refine w_waits_table lw ?_
      have r1 := rep_table M.le wl (by rw [List.length_map]; exact lw)
      refine z_repr _ r1 ?_
      repeat (first | with_reducible refine w_slot rfl ?_ | with_reducible refine w_slot (by with_unfolding_all rfl) ?_ | with_reducible refine w_lc ?_ | with_reducible refine w_c ?_ | with_reducible refine w_bin ?_ | with_reducible refine w_un ?_ | with_reducible refine w_tup ?_ | with_reducible refine w_lst ?_ | with_reducible refine w_lstC ?_ | with_reducible refine w_call ?_ | with_reducible refine w_nil ?_ | with_reducible refine w_cons ?_ | with_reducible refine w_if ?_ | with_reducible refine w_val ?_ | with_reducible refine w_not ?_ | with_reducible refine w_and ?_ | with_reducible refine w_or ?_ | with_reducible refine w_xand ?_ | with_reducible refine w_xor ?_ | with_reducible refine w_no ?_ | with_reducible refine w_so ?_ | with_reducible refine w_sl ?_ | with_reducible refine w_meth ?_ | with_reducible refine w_iseq ?_ | with_reducible refine w_range1 ?_ | with_reducible refine f_seq ?_ | with_reducible refine f_set ?_ | with_reducible refine f_drop ?_ | with_reducible refine f_ret ?_ | with_reducible refine f_if ?_ | with_reducible refine f_nil ?_ | with_reducible refine f_par2 ?_ | with_reducible refine f_put ?_ | with_reducible refine f_asg ?_ | refine z_add _ _ ?_ | refine z_sub _ _ ?_ | refine z_lt _ _ ?_ | refine z_le _ _ ?_ | refine z_gt _ _ ?_ | refine z_ge _ _ ?_ | refine z_eq _ _ ?_ | refine z_eqS _ _ ?_ | refine z_neS _ _ ?_ | refine z_slT _ _ _ ?_ | refine z_slL _ _ _ ?_ | refine z_lenL _ ?_ | refine z_lenT _ ?_ | refine z_tupL _ ?_ | refine z_lstT _ ?_)
      refine w_waiting lw ?_
      refine z_repr _ r1 ?_
      repeat (first | with_reducible refine w_slot rfl ?_ | with_reducible refine w_slot (by with_unfolding_all rfl) ?_ | with_reducible refine w_lc ?_ | with_reducible refine w_c ?_ | with_reducible refine w_bin ?_ | with_reducible refine w_un ?_ | with_reducible refine w_tup ?_ | with_reducible refine w_lst ?_ | with_reducible refine w_lstC ?_ | with_reducible refine w_call ?_ | with_reducible refine w_nil ?_ | with_reducible refine w_cons ?_ | with_reducible refine w_if ?_ | with_reducible refine w_val ?_ | with_reducible refine w_not ?_ | with_reducible refine w_and ?_ | with_reducible refine w_or ?_ | with_reducible refine w_xand ?_ | with_reducible refine w_xor ?_ | with_reducible refine w_no ?_ | with_reducible refine w_so ?_ | with_reducible refine w_sl ?_ | with_reducible refine w_meth ?_ | with_reducible refine w_iseq ?_ | with_reducible refine w_range1 ?_ | with_reducible refine f_seq ?_ | with_reducible refine f_set ?_ | with_reducible refine f_drop ?_ | with_reducible refine f_ret ?_ | with_reducible refine f_if ?_ | with_reducible refine f_nil ?_ | with_reducible refine f_par2 ?_ | with_reducible refine f_put ?_ | with_reducible refine f_asg ?_ | refine z_add _ _ ?_ | refine z_sub _ _ ?_ | refine z_lt _ _ ?_ | refine z_le _ _ ?_ | refine z_gt _ _ ?_ | refine z_ge _ _ ?_ | refine z_eq _ _ ?_ | refine z_eqS _ _ ?_ | refine z_neS _ _ ?_ | refine z_slT _ _ _ ?_ | refine z_slL _ _ _ ?_ | refine z_lenL _ ?_ | refine z_lenT _ ?_ | refine z_tupL _ ?_ | refine z_lstT _ ?_)
      refine ⟨_, rfl, fun z => (by rw [ne_selfW] at z; cases z), fun _ => ?_⟩
      have l3 := List.length_filter_le (fun d => !cutD ws d) tb
      have r2 := rep_table (tb := tb.filter fun d => !cutD ws d) M.le (fun d hd => ht d (List.mem_filter.mp hd).1) (by omega)
      repeat (first | with_reducible refine w_slot rfl ?_ | with_reducible refine w_slot (by with_unfolding_all rfl) ?_ | with_reducible refine w_lc ?_ | with_reducible refine w_c ?_ | with_reducible refine w_bin ?_ | with_reducible refine w_un ?_ | with_reducible refine w_tup ?_ | with_reducible refine w_lst ?_ | with_reducible refine w_lstC ?_ | with_reducible refine w_call ?_ | with_reducible refine w_nil ?_ | with_reducible refine w_cons ?_ | with_reducible refine w_if ?_ | with_reducible refine w_val ?_ | with_reducible refine w_not ?_ | with_reducible refine w_and ?_ | with_reducible refine w_or ?_ | with_reducible refine w_xand ?_ | with_reducible refine w_xor ?_ | with_reducible refine w_no ?_ | with_reducible refine w_so ?_ | with_reducible refine w_sl ?_ | with_reducible refine w_meth ?_ | with_reducible refine w_iseq ?_ | with_reducible refine w_range1 ?_ | with_reducible refine f_seq ?_ | with_reducible refine f_set ?_ | with_reducible refine f_drop ?_ | with_reducible refine f_ret ?_ | with_reducible refine f_if ?_ | with_reducible refine f_nil ?_ | with_reducible refine f_par2 ?_ | with_reducible refine f_put ?_ | with_reducible refine f_asg ?_ | refine z_add _ _ ?_ | refine z_sub _ _ ?_ | refine z_lt _ _ ?_ | refine z_le _ _ ?_ | refine z_gt _ _ ?_ | refine z_ge _ _ ?_ | refine z_eq _ _ ?_ | refine z_eqS _ _ ?_ | refine z_neS _ _ ?_ | refine z_slT _ _ _ ?_ | refine z_slL _ _ _ ?_ | refine z_lenL _ ?_ | refine z_lenT _ ?_ | refine z_tupL _ ?_ | refine z_lstT _ ?_)
      refine w_kept M.kk k1 ht (by omega) ?_
      refine z_repr _ r2 ?_
      repeat (first | with_reducible refine w_slot rfl ?_ | with_reducible refine w_slot (by with_unfolding_all rfl) ?_ | with_reducible refine w_lc ?_ | with_reducible refine w_c ?_ | with_reducible refine w_bin ?_ | with_reducible refine w_un ?_ | with_reducible refine w_tup ?_ | with_reducible refine w_lst ?_ | with_reducible refine w_lstC ?_ | with_reducible refine w_call ?_ | with_reducible refine w_nil ?_ | with_reducible refine w_cons ?_ | with_reducible refine w_if ?_ | with_reducible refine w_val ?_ | with_reducible refine w_not ?_ | with_reducible refine w_and ?_ | with_reducible refine w_or ?_ | with_reducible refine w_xand ?_ | with_reducible refine w_xor ?_ | with_reducible refine w_no ?_ | with_reducible refine w_so ?_ | with_reducible refine w_sl ?_ | with_reducible refine w_meth ?_ | with_reducible refine w_iseq ?_ | with_reducible refine w_range1 ?_ | with_reducible refine f_seq ?_ | with_reducible refine f_set ?_ | with_reducible refine f_drop ?_ | with_reducible refine f_ret ?_ | with_reducible refine f_if ?_ | with_reducible refine f_nil ?_ | with_reducible refine f_par2 ?_ | with_reducible refine f_put ?_ | with_reducible refine f_asg ?_ | refine z_add _ _ ?_ | refine z_sub _ _ ?_ | refine z_lt _ _ ?_ | refine z_le _ _ ?_ | refine z_gt _ _ ?_ | refine z_ge _ _ ?_ | refine z_eq _ _ ?_ | refine z_eqS _ _ ?_ | refine z_neS _ _ ?_ | refine z_slT _ _ _ ?_ | refine z_slL _ _ _ ?_ | refine z_lenL _ ?_ | refine z_lenT _ ?_ | refine z_tupL _ ?_ | refine z_lstT _ ?_)
      refine w_lkept M.kk k1 ht (by omega) ?_
      refine z_repr _ r2 ?_
      repeat (first | with_reducible refine w_slot rfl ?_ | with_reducible refine w_slot (by with_unfolding_all rfl) ?_ | with_reducible refine w_lc ?_ | with_reducible refine w_c ?_ | with_reducible refine w_bin ?_ | with_reducible refine w_un ?_ | with_reducible refine w_tup ?_ | with_reducible refine w_lst ?_ | with_reducible refine w_lstC ?_ | with_reducible refine w_call ?_ | with_reducible refine w_nil ?_ | with_reducible refine w_cons ?_ | with_reducible refine w_if ?_ | with_reducible refine w_val ?_ | with_reducible refine w_not ?_ | with_reducible refine w_and ?_ | with_reducible refine w_or ?_ | with_reducible refine w_xand ?_ | with_reducible refine w_xor ?_ | with_reducible refine w_no ?_ | with_reducible refine w_so ?_ | with_reducible refine w_sl ?_ | with_reducible refine w_meth ?_ | with_reducible refine w_iseq ?_ | with_reducible refine w_range1 ?_ | with_reducible refine f_seq ?_ | with_reducible refine f_set ?_ | with_reducible refine f_drop ?_ | with_reducible refine f_ret ?_ | with_reducible refine f_if ?_ | with_reducible refine f_nil ?_ | with_reducible refine f_par2 ?_ | with_reducible refine f_put ?_ | with_reducible refine f_asg ?_ | refine z_add _ _ ?_ | refine z_sub _ _ ?_ | refine z_lt _ _ ?_ | refine z_le _ _ ?_ | refine z_gt _ _ ?_ | refine z_ge _ _ ?_ | refine z_eq _ _ ?_ | refine z_eqS _ _ ?_ | refine z_neS _ _ ?_ | refine z_slT _ _ _ ?_ | refine z_slL _ _ _ ?_ | refine z_lenL _ ?_ | refine z_lenT _ ?_ | refine z_tupL _ ?_ | refine z_lstT _ ?_)
      refine ⟨_, rfl, fun z => (by rw [ne_selfW] at z; cases z), fun _ => ?_⟩
      repeat (first | with_reducible refine w_slot rfl ?_ | with_reducible refine w_slot (by with_unfolding_all rfl) ?_ | with_reducible refine w_lc ?_ | with_reducible refine w_c ?_ | with_reducible refine w_bin ?_ | with_reducible refine w_un ?_ | with_reducible refine w_tup ?_ | with_reducible refine w_lst ?_ | with_reducible refine w_lstC ?_ | with_reducible refine w_call ?_ | with_reducible refine w_nil ?_ | with_reducible refine w_cons ?_ | with_reducible refine w_if ?_ | with_reducible refine w_val ?_ | with_reducible refine w_not ?_ | with_reducible refine w_and ?_ | with_reducible refine w_or ?_ | with_reducible refine w_xand ?_ | with_reducible refine w_xor ?_ | with_reducible refine w_no ?_ | with_reducible refine w_so ?_ | with_reducible refine w_sl ?_ | with_reducible refine w_meth ?_ | with_reducible refine w_iseq ?_ | with_reducible refine w_range1 ?_ | with_reducible refine f_seq ?_ | with_reducible refine f_set ?_ | with_reducible refine f_drop ?_ | with_reducible refine f_ret ?_ | with_reducible refine f_if ?_ | with_reducible refine f_nil ?_ | with_reducible refine f_par2 ?_ | with_reducible refine f_put ?_ | with_reducible refine f_asg ?_ | refine z_add _ _ ?_ | refine z_sub _ _ ?_ | refine z_lt _ _ ?_ | refine z_le _ _ ?_ | refine z_gt _ _ ?_ | refine z_ge _ _ ?_ | refine z_eq _ _ ?_ | refine z_eqS _ _ ?_ | refine z_neS _ _ ?_ | refine z_slT _ _ _ ?_ | refine z_slL _ _ _ ?_ | refine z_lenL _ ?_ | refine z_lenT _ ?_ | refine z_tupL _ ?_ | refine z_lstT _ ?_)
      have l12 := cutL_len tb none (some 12)
      refine f_for (fun ρ S => ∃ a8 a9 a10 : Option Val, ρ = [some (.scr ns), some (.loc 0), some x, some (.dat (.int m)), some (.dat (.tuple tb)), some (.dat (.list es)), some (.dat (.tuple ws)), some (.dat (.str (PyData.tuple [.tuple tb, .tuple ws]).shown)), a8, a9, a10] ∧ SP g [] S) ?_ ?_
      · repeat (first | with_reducible refine w_slot rfl ?_ | with_reducible refine w_slot (by with_unfolding_all rfl) ?_ | with_reducible refine w_lc ?_ | with_reducible refine w_c ?_ | with_reducible refine w_bin ?_ | with_reducible refine w_un ?_ | with_reducible refine w_tup ?_ | with_reducible refine w_lst ?_ | with_reducible refine w_lstC ?_ | with_reducible refine w_call ?_ | with_reducible refine w_nil ?_ | with_reducible refine w_cons ?_ | with_reducible refine w_if ?_ | with_reducible refine w_val ?_ | with_reducible refine w_not ?_ | with_reducible refine w_and ?_ | with_reducible refine w_or ?_ | with_reducible refine w_xand ?_ | with_reducible refine w_xor ?_ | with_reducible refine w_no ?_ | with_reducible refine w_so ?_ | with_reducible refine w_sl ?_ | with_reducible refine w_meth ?_ | with_reducible refine w_iseq ?_ | with_reducible refine w_range1 ?_ | with_reducible refine f_seq ?_ | with_reducible refine f_set ?_ | with_reducible refine f_drop ?_ | with_reducible refine f_ret ?_ | with_reducible refine f_if ?_ | with_reducible refine f_nil ?_ | with_reducible refine f_par2 ?_ | with_reducible refine f_put ?_ | with_reducible refine f_asg ?_ | refine z_add _ _ ?_ | refine z_sub _ _ ?_ | refine z_lt _ _ ?_ | refine z_le _ _ ?_ | refine z_gt _ _ ?_ | refine z_ge _ _ ?_ | refine z_eq _ _ ?_ | refine z_eqS _ _ ?_ | refine z_neS _ _ ?_ | refine z_slT _ _ _ ?_ | refine z_slL _ _ _ ?_ | refine z_lenL _ ?_ | refine z_lenT _ ?_ | refine z_tupL _ ?_ | refine z_lstT _ ?_)
        refine ⟨_, rfl, ?_⟩
        repeat (first | with_reducible refine w_slot rfl ?_ | with_reducible refine w_slot (by with_unfolding_all rfl) ?_ | with_reducible refine w_lc ?_ | with_reducible refine w_c ?_ | with_reducible refine w_bin ?_ | with_reducible refine w_un ?_ | with_reducible refine w_tup ?_ | with_reducible refine w_lst ?_ | with_reducible refine w_lstC ?_ | with_reducible refine w_call ?_ | with_reducible refine w_nil ?_ | with_reducible refine w_cons ?_ | with_reducible refine w_if ?_ | with_reducible refine w_val ?_ | with_reducible refine w_not ?_ | with_reducible refine w_and ?_ | with_reducible refine w_or ?_ | with_reducible refine w_xand ?_ | with_reducible refine w_xor ?_ | with_reducible refine w_no ?_ | with_reducible refine w_so ?_ | with_reducible refine w_sl ?_ | with_reducible refine w_meth ?_ | with_reducible refine w_iseq ?_ | with_reducible refine w_range1 ?_ | with_reducible refine f_seq ?_ | with_reducible refine f_set ?_ | with_reducible refine f_drop ?_ | with_reducible refine f_ret ?_ | with_reducible refine f_if ?_ | with_reducible refine f_nil ?_ | with_reducible refine f_par2 ?_ | with_reducible refine f_put ?_ | with_reducible refine f_asg ?_ | refine z_add _ _ ?_ | refine z_sub _ _ ?_ | refine z_lt _ _ ?_ | refine z_le _ _ ?_ | refine z_gt _ _ ?_ | refine z_ge _ _ ?_ | refine z_eq _ _ ?_ | refine z_eqS _ _ ?_ | refine z_neS _ _ ?_ | refine z_slT _ _ _ ?_ | refine z_slL _ _ _ ?_ | refine z_lenL _ ?_ | refine z_lenT _ ?_ | refine z_tupL _ ?_ | refine z_lstT _ ?_)
        refine ⟨_, rfl, rOk_i (by decide) (by decide), ?_⟩
        refine okR_mono (lc_all (SP g []) (IsL k) (fun _ _ => trivial) h7 fun y hy S8 h8 => ⟨_, rfl, ?_⟩) fun ys S8 ⟨ls, e1, e2, e3, h8⟩ => ?_
        · repeat (first | with_reducible refine w_slot rfl ?_ | with_reducible refine w_slot (by with_unfolding_all rfl) ?_ | with_reducible refine w_lc ?_ | with_reducible refine w_c ?_ | with_reducible refine w_bin ?_ | with_reducible refine w_un ?_ | with_reducible refine w_tup ?_ | with_reducible refine w_lst ?_ | with_reducible refine w_lstC ?_ | with_reducible refine w_call ?_ | with_reducible refine w_nil ?_ | with_reducible refine w_cons ?_ | with_reducible refine w_if ?_ | with_reducible refine w_val ?_ | with_reducible refine w_not ?_ | with_reducible refine w_and ?_ | with_reducible refine w_or ?_ | with_reducible refine w_xand ?_ | with_reducible refine w_xor ?_ | with_reducible refine w_no ?_ | with_reducible refine w_so ?_ | with_reducible refine w_sl ?_ | with_reducible refine w_meth ?_ | with_reducible refine w_iseq ?_ | with_reducible refine w_range1 ?_ | with_reducible refine f_seq ?_ | with_reducible refine f_set ?_ | with_reducible refine f_drop ?_ | with_reducible refine f_ret ?_ | with_reducible refine f_if ?_ | with_reducible refine f_nil ?_ | with_reducible refine f_par2 ?_ | with_reducible refine f_put ?_ | with_reducible refine f_asg ?_ | refine z_add _ _ ?_ | refine z_sub _ _ ?_ | refine z_lt _ _ ?_ | refine z_le _ _ ?_ | refine z_gt _ _ ?_ | refine z_ge _ _ ?_ | refine z_eq _ _ ?_ | refine z_eqS _ _ ?_ | refine z_neS _ _ ?_ | refine z_slT _ _ _ ?_ | refine z_slL _ _ _ ?_ | refine z_lenL _ ?_ | refine z_lenT _ ?_ | refine z_tupL _ ?_ | refine z_lstT _ ?_)
          exact w_look h8 M fun d S9 hd h9 => ⟨d, rfl, hd, h9⟩
        have l6 : ls.length = 6 := by rw [e3]; exact upTo_len 6
        refine ⟨ls, e1, by rw [sizeLine_eq]; omega, ?_⟩
        refine z_addL _ _ (by rw [sizeLine_eq]; omega) ?_
        refine ⟨_, rfl, fun _ _ _ => trivial, ⟨_, _, _, rfl, h8⟩, ?_⟩
        rintro y hy ρ S9 ⟨b8, b9, b10, rfl, h9⟩
        obtain ⟨d, hd, rfl⟩ := List.mem_map.mp hy
        have hd2 : IsL k d := by
          rcases List.mem_append.mp hd with z | z
          · exact ht d (cutL_mem z)
          · exact e2 d z
        refine ⟨_, rfl, ?_⟩
        repeat (first | with_reducible refine w_slot rfl ?_ | with_reducible refine w_slot (by with_unfolding_all rfl) ?_ | with_reducible refine w_lc ?_ | with_reducible refine w_c ?_ | with_reducible refine w_bin ?_ | with_reducible refine w_un ?_ | with_reducible refine w_tup ?_ | with_reducible refine w_lst ?_ | with_reducible refine w_lstC ?_ | with_reducible refine w_call ?_ | with_reducible refine w_nil ?_ | with_reducible refine w_cons ?_ | with_reducible refine w_if ?_ | with_reducible refine w_val ?_ | with_reducible refine w_not ?_ | with_reducible refine w_and ?_ | with_reducible refine w_or ?_ | with_reducible refine w_xand ?_ | with_reducible refine w_xor ?_ | with_reducible refine w_no ?_ | with_reducible refine w_so ?_ | with_reducible refine w_sl ?_ | with_reducible refine w_meth ?_ | with_reducible refine w_iseq ?_ | with_reducible refine w_range1 ?_ | with_reducible refine f_seq ?_ | with_reducible refine f_set ?_ | with_reducible refine f_drop ?_ | with_reducible refine f_ret ?_ | with_reducible refine f_if ?_ | with_reducible refine f_nil ?_ | with_reducible refine f_par2 ?_ | with_reducible refine f_put ?_ | with_reducible refine f_asg ?_ | refine z_add _ _ ?_ | refine z_sub _ _ ?_ | refine z_lt _ _ ?_ | refine z_le _ _ ?_ | refine z_gt _ _ ?_ | refine z_ge _ _ ?_ | refine z_eq _ _ ?_ | refine z_eqS _ _ ?_ | refine z_neS _ _ ?_ | refine z_slT _ _ _ ?_ | refine z_slL _ _ _ ?_ | refine z_lenL _ ?_ | refine z_lenT _ ?_ | refine z_tupL _ ?_ | refine z_lstT _ ?_)
        refine w_is_cut M.kk k1 hd2 ?_
        refine z_repr _ (rep_b _) ?_
        repeat (first | with_reducible refine w_slot rfl ?_ | with_reducible refine w_slot (by with_unfolding_all rfl) ?_ | with_reducible refine w_lc ?_ | with_reducible refine w_c ?_ | with_reducible refine w_bin ?_ | with_reducible refine w_un ?_ | with_reducible refine w_tup ?_ | with_reducible refine w_lst ?_ | with_reducible refine w_lstC ?_ | with_reducible refine w_call ?_ | with_reducible refine w_nil ?_ | with_reducible refine w_cons ?_ | with_reducible refine w_if ?_ | with_reducible refine w_val ?_ | with_reducible refine w_not ?_ | with_reducible refine w_and ?_ | with_reducible refine w_or ?_ | with_reducible refine w_xand ?_ | with_reducible refine w_xor ?_ | with_reducible refine w_no ?_ | with_reducible refine w_so ?_ | with_reducible refine w_sl ?_ | with_reducible refine w_meth ?_ | with_reducible refine w_iseq ?_ | with_reducible refine w_range1 ?_ | with_reducible refine f_seq ?_ | with_reducible refine f_set ?_ | with_reducible refine f_drop ?_ | with_reducible refine f_ret ?_ | with_reducible refine f_if ?_ | with_reducible refine f_nil ?_ | with_reducible refine f_par2 ?_ | with_reducible refine f_put ?_ | with_reducible refine f_asg ?_ | refine z_add _ _ ?_ | refine z_sub _ _ ?_ | refine z_lt _ _ ?_ | refine z_le _ _ ?_ | refine z_gt _ _ ?_ | refine z_ge _ _ ?_ | refine z_eq _ _ ?_ | refine z_eqS _ _ ?_ | refine z_neS _ _ ?_ | refine z_slT _ _ _ ?_ | refine z_slL _ _ _ ?_ | refine z_lenL _ ?_ | refine z_lenT _ ?_ | refine z_tupL _ ?_ | refine z_lstT _ ?_)
        refine w_lcut M.kk k1 hd2 ?_
        refine z_repr _ (rep_b _) ?_
        repeat (first | with_reducible refine w_slot rfl ?_ | with_reducible refine w_slot (by with_unfolding_all rfl) ?_ | with_reducible refine w_lc ?_ | with_reducible refine w_c ?_ | with_reducible refine w_bin ?_ | with_reducible refine w_un ?_ | with_reducible refine w_tup ?_ | with_reducible refine w_lst ?_ | with_reducible refine w_lstC ?_ | with_reducible refine w_call ?_ | with_reducible refine w_nil ?_ | with_reducible refine w_cons ?_ | with_reducible refine w_if ?_ | with_reducible refine w_val ?_ | with_reducible refine w_not ?_ | with_reducible refine w_and ?_ | with_reducible refine w_or ?_ | with_reducible refine w_xand ?_ | with_reducible refine w_xor ?_ | with_reducible refine w_no ?_ | with_reducible refine w_so ?_ | with_reducible refine w_sl ?_ | with_reducible refine w_meth ?_ | with_reducible refine w_iseq ?_ | with_reducible refine w_range1 ?_ | with_reducible refine f_seq ?_ | with_reducible refine f_set ?_ | with_reducible refine f_drop ?_ | with_reducible refine f_ret ?_ | with_reducible refine f_if ?_ | with_reducible refine f_nil ?_ | with_reducible refine f_par2 ?_ | with_reducible refine f_put ?_ | with_reducible refine f_asg ?_ | refine z_add _ _ ?_ | refine z_sub _ _ ?_ | refine z_lt _ _ ?_ | refine z_le _ _ ?_ | refine z_gt _ _ ?_ | refine z_ge _ _ ?_ | refine z_eq _ _ ?_ | refine z_eqS _ _ ?_ | refine z_neS _ _ ?_ | refine z_slT _ _ _ ?_ | refine z_slL _ _ _ ?_ | refine z_lenL _ ?_ | refine z_lenT _ ?_ | refine z_tupL _ ?_ | refine z_lstT _ ?_)
        refine ⟨_, rfl, fun z => (by rw [ne_selfW] at z; cases z), fun _ => ?_⟩
        repeat (first | with_reducible refine w_slot rfl ?_ | with_reducible refine w_slot (by with_unfolding_all rfl) ?_ | with_reducible refine w_lc ?_ | with_reducible refine w_c ?_ | with_reducible refine w_bin ?_ | with_reducible refine w_un ?_ | with_reducible refine w_tup ?_ | with_reducible refine w_lst ?_ | with_reducible refine w_lstC ?_ | with_reducible refine w_call ?_ | with_reducible refine w_nil ?_ | with_reducible refine w_cons ?_ | with_reducible refine w_if ?_ | with_reducible refine w_val ?_ | with_reducible refine w_not ?_ | with_reducible refine w_and ?_ | with_reducible refine w_or ?_ | with_reducible refine w_xand ?_ | with_reducible refine w_xor ?_ | with_reducible refine w_no ?_ | with_reducible refine w_so ?_ | with_reducible refine w_sl ?_ | with_reducible refine w_meth ?_ | with_reducible refine w_iseq ?_ | with_reducible refine w_range1 ?_ | with_reducible refine f_seq ?_ | with_reducible refine f_set ?_ | with_reducible refine f_drop ?_ | with_reducible refine f_ret ?_ | with_reducible refine f_if ?_ | with_reducible refine f_nil ?_ | with_reducible refine f_par2 ?_ | with_reducible refine f_put ?_ | with_reducible refine f_asg ?_ | refine z_add _ _ ?_ | refine z_sub _ _ ?_ | refine z_lt _ _ ?_ | refine z_le _ _ ?_ | refine z_gt _ _ ?_ | refine z_ge _ _ ?_ | refine z_eq _ _ ?_ | refine z_eqS _ _ ?_ | refine z_neS _ _ ?_ | refine z_slT _ _ _ ?_ | refine z_slL _ _ _ ?_ | refine z_lenL _ ?_ | refine z_lenT _ ?_ | refine z_tupL _ ?_ | refine z_lstT _ ?_)
        exact ⟨_, _, _, rfl, h9⟩
      · rintro ρ S9 ⟨b8, b9, b10, rfl, h9⟩
        repeat (first | with_reducible refine w_slot rfl ?_ | with_reducible refine w_slot (by with_unfolding_all rfl) ?_ | with_reducible refine w_lc ?_ | with_reducible refine w_c ?_ | with_reducible refine w_bin ?_ | with_reducible refine w_un ?_ | with_reducible refine w_tup ?_ | with_reducible refine w_lst ?_ | with_reducible refine w_lstC ?_ | with_reducible refine w_call ?_ | with_reducible refine w_nil ?_ | with_reducible refine w_cons ?_ | with_reducible refine w_if ?_ | with_reducible refine w_val ?_ | with_reducible refine w_not ?_ | with_reducible refine w_and ?_ | with_reducible refine w_or ?_ | with_reducible refine w_xand ?_ | with_reducible refine w_xor ?_ | with_reducible refine w_no ?_ | with_reducible refine w_so ?_ | with_reducible refine w_sl ?_ | with_reducible refine w_meth ?_ | with_reducible refine w_iseq ?_ | with_reducible refine w_range1 ?_ | with_reducible refine f_seq ?_ | with_reducible refine f_set ?_ | with_reducible refine f_drop ?_ | with_reducible refine f_ret ?_ | with_reducible refine f_if ?_ | with_reducible refine f_nil ?_ | with_reducible refine f_par2 ?_ | with_reducible refine f_put ?_ | with_reducible refine f_asg ?_ | refine z_add _ _ ?_ | refine z_sub _ _ ?_ | refine z_lt _ _ ?_ | refine z_le _ _ ?_ | refine z_gt _ _ ?_ | refine z_ge _ _ ?_ | refine z_eq _ _ ?_ | refine z_eqS _ _ ?_ | refine z_neS _ _ ?_ | refine z_slT _ _ _ ?_ | refine z_slL _ _ _ ?_ | refine z_lenL _ ?_ | refine z_lenT _ ?_ | refine z_tupL _ ?_ | refine z_lstT _ ?_)
        refine ⟨[.tuple tb, .tuple ws], rfl, ?_⟩
        refine z_repr _ rp ?_
        repeat (first | with_reducible refine w_slot rfl ?_ | with_reducible refine w_slot (by with_unfolding_all rfl) ?_ | with_reducible refine w_lc ?_ | with_reducible refine w_c ?_ | with_reducible refine w_bin ?_ | with_reducible refine w_un ?_ | with_reducible refine w_tup ?_ | with_reducible refine w_lst ?_ | with_reducible refine w_lstC ?_ | with_reducible refine w_call ?_ | with_reducible refine w_nil ?_ | with_reducible refine w_cons ?_ | with_reducible refine w_if ?_ | with_reducible refine w_val ?_ | with_reducible refine w_not ?_ | with_reducible refine w_and ?_ | with_reducible refine w_or ?_ | with_reducible refine w_xand ?_ | with_reducible refine w_xor ?_ | with_reducible refine w_no ?_ | with_reducible refine w_so ?_ | with_reducible refine w_sl ?_ | with_reducible refine w_meth ?_ | with_reducible refine w_iseq ?_ | with_reducible refine w_range1 ?_ | with_reducible refine f_seq ?_ | with_reducible refine f_set ?_ | with_reducible refine f_drop ?_ | with_reducible refine f_ret ?_ | with_reducible refine f_if ?_ | with_reducible refine f_nil ?_ | with_reducible refine f_par2 ?_ | with_reducible refine f_put ?_ | with_reducible refine f_asg ?_ | refine z_add _ _ ?_ | refine z_sub _ _ ?_ | refine z_lt _ _ ?_ | refine z_le _ _ ?_ | refine z_gt _ _ ?_ | refine z_ge _ _ ?_ | refine z_eq _ _ ?_ | refine z_eqS _ _ ?_ | refine z_neS _ _ ?_ | refine z_slT _ _ _ ?_ | refine z_slL _ _ _ ?_ | refine z_lenL _ ?_ | refine z_lenT _ ?_ | refine z_tupL _ ?_ | refine z_lstT _ ?_)
        refine ⟨_, rfl, fun z => (by rw [ne_selfW] at z; cases z), fun _ => ?_⟩
        repeat (first | with_reducible refine w_slot rfl ?_ | with_reducible refine w_slot (by with_unfolding_all rfl) ?_ | with_reducible refine w_lc ?_ | with_reducible refine w_c ?_ | with_reducible refine w_bin ?_ | with_reducible refine w_un ?_ | with_reducible refine w_tup ?_ | with_reducible refine w_lst ?_ | with_reducible refine w_lstC ?_ | with_reducible refine w_call ?_ | with_reducible refine w_nil ?_ | with_reducible refine w_cons ?_ | with_reducible refine w_if ?_ | with_reducible refine w_val ?_ | with_reducible refine w_not ?_ | with_reducible refine w_and ?_ | with_reducible refine w_or ?_ | with_reducible refine w_xand ?_ | with_reducible refine w_xor ?_ | with_reducible refine w_no ?_ | with_reducible refine w_so ?_ | with_reducible refine w_sl ?_ | with_reducible refine w_meth ?_ | with_reducible refine w_iseq ?_ | with_reducible refine w_range1 ?_ | with_reducible refine f_seq ?_ | with_reducible refine f_set ?_ | with_reducible refine f_drop ?_ | with_reducible refine f_ret ?_ | with_reducible refine f_if ?_ | with_reducible refine f_nil ?_ | with_reducible refine f_par2 ?_ | with_reducible refine f_put ?_ | with_reducible refine f_asg ?_ | refine z_add _ _ ?_ | refine z_sub _ _ ?_ | refine z_lt _ _ ?_ | refine z_le _ _ ?_ | refine z_gt _ _ ?_ | refine z_ge _ _ ?_ | refine z_eq _ _ ?_ | refine z_eqS _ _ ?_ | refine z_neS _ _ ?_ | refine z_slT _ _ _ ?_ | refine z_slL _ _ _ ?_ | refine z_lenL _ ?_ | refine z_lenT _ ?_ | refine z_tupL _ ?_ | refine z_lstT _ ?_)
        exact ⟨_, _, _, _, _, _, _, _, _, rfl, h9⟩
    refine ⟨fun _ => ?_, fun _ => ?_⟩
    · repeat (first | with_reducible refine w_slot rfl ?_ | with_reducible refine w_slot (by with_unfolding_all rfl) ?_ | with_reducible refine w_lc ?_ | with_reducible refine w_c ?_ | with_reducible refine w_bin ?_ | with_reducible refine w_un ?_ | with_reducible refine w_tup ?_ | with_reducible refine w_lst ?_ | with_reducible refine w_lstC ?_ | with_reducible refine w_call ?_ | with_reducible refine w_nil ?_ | with_reducible refine w_cons ?_ | with_reducible refine w_if ?_ | with_reducible refine w_val ?_ | with_reducible refine w_not ?_ | with_reducible refine w_and ?_ | with_reducible refine w_or ?_ | with_reducible refine w_xand ?_ | with_reducible refine w_xor ?_ | with_reducible refine w_no ?_ | with_reducible refine w_so ?_ | with_reducible refine w_sl ?_ | with_reducible refine w_meth ?_ | with_reducible refine w_iseq ?_ | with_reducible refine w_range1 ?_ | with_reducible refine f_seq ?_ | with_reducible refine f_set ?_ | with_reducible refine f_drop ?_ | with_reducible refine f_ret ?_ | with_reducible refine f_if ?_ | with_reducible refine f_nil ?_ | with_reducible refine f_par2 ?_ | with_reducible refine f_put ?_ | with_reducible refine f_asg ?_ | refine z_add _ _ ?_ | refine z_sub _ _ ?_ | refine z_lt _ _ ?_ | refine z_le _ _ ?_ | refine z_gt _ _ ?_ | refine z_ge _ _ ?_ | refine z_eq _ _ ?_ | refine z_eqS _ _ ?_ | refine z_neS _ _ ?_ | refine z_slT _ _ _ ?_ | refine z_slL _ _ _ ?_ | refine z_lenL _ ?_ | refine z_lenT _ ?_ | refine z_tupL _ ?_ | refine z_lstT _ ?_)
      refine w_any_table h4 M (by decide) (by decide) fun tb S5 t1 t2 h5 => ?_
      exact okF_mono (rest tb S5 t1 (by omega) h5) fun f ρ S h => by
        cases f with
        | next => exact h
        | cont => exact h.elim
        | brk => exact h.elim
        | ret v => exact h.elim
    · repeat (first | with_reducible refine w_slot rfl ?_ | with_reducible refine w_slot (by with_unfolding_all rfl) ?_ | with_reducible refine w_lc ?_ | with_reducible refine w_c ?_ | with_reducible refine w_bin ?_ | with_reducible refine w_un ?_ | with_reducible refine w_tup ?_ | with_reducible refine w_lst ?_ | with_reducible refine w_lstC ?_ | with_reducible refine w_call ?_ | with_reducible refine w_nil ?_ | with_reducible refine w_cons ?_ | with_reducible refine w_if ?_ | with_reducible refine w_val ?_ | with_reducible refine w_not ?_ | with_reducible refine w_and ?_ | with_reducible refine w_or ?_ | with_reducible refine w_xand ?_ | with_reducible refine w_xor ?_ | with_reducible refine w_no ?_ | with_reducible refine w_so ?_ | with_reducible refine w_sl ?_ | with_reducible refine w_meth ?_ | with_reducible refine w_iseq ?_ | with_reducible refine w_range1 ?_ | with_reducible refine f_seq ?_ | with_reducible refine f_set ?_ | with_reducible refine f_drop ?_ | with_reducible refine f_ret ?_ | with_reducible refine f_if ?_ | with_reducible refine f_nil ?_ | with_reducible refine f_par2 ?_ | with_reducible refine f_put ?_ | with_reducible refine f_asg ?_ | refine z_add _ _ ?_ | refine z_sub _ _ ?_ | refine z_lt _ _ ?_ | refine z_le _ _ ?_ | refine z_gt _ _ ?_ | refine z_ge _ _ ?_ | refine z_eq _ _ ?_ | refine z_eqS _ _ ?_ | refine z_neS _ _ ?_ | refine z_slT _ _ _ ?_ | refine z_slL _ _ _ ?_ | refine z_lenL _ ?_ | refine z_lenT _ ?_ | refine z_tupL _ ?_ | refine z_lstT _ ?_)
      refine w_natural h4 M fun tb S5 t1 t2 h5 => ?_
      exact okF_mono (rest tb S5 t1 (by omega) h5) fun f ρ S h => by
        cases f with
        | next => exact h
        | cont => exact h.elim
        | brk => exact h.elim
        | ret v => exact h.elim
  · rintro ρ S2 ⟨a2, a3, a4, a5, a6, a7, a8, a9, a10, rfl, h2⟩
    repeat (first | with_reducible refine w_slot rfl ?_ | with_reducible refine w_slot (by with_unfolding_all rfl) ?_ | with_reducible refine w_lc ?_ | with_reducible refine w_c ?_ | with_reducible refine w_bin ?_ | with_reducible refine w_un ?_ | with_reducible refine w_tup ?_ | with_reducible refine w_lst ?_ | with_reducible refine w_lstC ?_ | with_reducible refine w_call ?_ | with_reducible refine w_nil ?_ | with_reducible refine w_cons ?_ | with_reducible refine w_if ?_ | with_reducible refine w_val ?_ | with_reducible refine w_not ?_ | with_reducible refine w_and ?_ | with_reducible refine w_or ?_ | with_reducible refine w_xand ?_ | with_reducible refine w_xor ?_ | with_reducible refine w_no ?_ | with_reducible refine w_so ?_ | with_reducible refine w_sl ?_ | with_reducible refine w_meth ?_ | with_reducible refine w_iseq ?_ | with_reducible refine w_range1 ?_ | with_reducible refine f_seq ?_ | with_reducible refine f_set ?_ | with_reducible refine f_drop ?_ | with_reducible refine f_ret ?_ | with_reducible refine f_if ?_ | with_reducible refine f_nil ?_ | with_reducible refine f_par2 ?_ | with_reducible refine f_put ?_ | with_reducible refine f_asg ?_ | refine z_add _ _ ?_ | refine z_sub _ _ ?_ | refine z_lt _ _ ?_ | refine z_le _ _ ?_ | refine z_gt _ _ ?_ | refine z_ge _ _ ?_ | refine z_eq _ _ ?_ | refine z_eqS _ _ ?_ | refine z_neS _ _ ?_ | refine z_slT _ _ _ ?_ | refine z_slL _ _ _ ?_ | refine z_lenL _ ?_ | refine z_lenT _ ?_ | refine z_tupL _ ?_ | refine z_lstT _ ?_)
    exact fin_dat rfl
end
end Lw
end
section
theorem PySem.Challenge.cw_nevergoback_k29_cuts_and_kept_tables_holds : PySem.Challenge.rw_nevergoback_k29_cuts_and_kept_tables.Holds :=
  PySem.Challenge.cw_nevergoback_k29_cuts_and_kept_tables_holds_of fun ns h _ => Lw.law_true ns h
end
