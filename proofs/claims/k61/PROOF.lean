import PyProof.Rows.All
import HandS.TupSets
import HandS.SortOrd
import HandS.NamedTupSort
import HandS.ForMost
import HandS.Walk
import KE.GoesEnum
import HandS.Style
import HandS.TupMul
import HandS.TupAny
import HandS.Conv
import KE.KDictCopyH
import KE.KDictWalk
import HandS.OwnEq
import HandS.Codes
import HandS.Zip
import HandS.DictTup
import KE.KDictZip
import HandS.Deep
import HandS.IsInst
import HandS.Evl
import HandS.Defaults
import HandS.TryOnly
import HandS.ForExc
import PySem.Challenge.RW_lostplaces_k61_whole_doubled_swallowed_m
import HandS.TupLen
section
set_option Elab.async false
set_option linter.all false
set_option maxRecDepth 100000
/-! the round i -> 5 i + 1 modulo a power of two meets every place -/
namespace QT
open PySem L2

theorem odd_cancel : ∀ (k x y : Nat), y % 2 = 1 → 2 ^ k ∣ x * y → 2 ^ k ∣ x
  | 0, x, _, _, _ => Nat.one_dvd x
  | k + 1, x, y, hy, h => by
    obtain ⟨c, hc⟩ := h
    have hev : (x * y) % 2 = 0 := by
      rw [hc, Nat.pow_succ, Nat.mul_comm (2 ^ k) 2, Nat.mul_assoc]
      exact Nat.mul_mod_right 2 _
    have hx : x % 2 = 0 := by
      rw [Nat.mul_mod, hy, Nat.mul_one] at hev
      omega
    obtain ⟨z, rfl⟩ : ∃ z, x = 2 * z := ⟨x / 2, by omega⟩
    have h2 : 2 ^ k ∣ z * y := by
      refine ⟨c, ?_⟩
      have e : 2 * (z * y) = 2 * (2 ^ k * c) := by
        rw [← Nat.mul_assoc, hc, Nat.pow_succ, Nat.mul_comm (2 ^ k) 2, Nat.mul_assoc]
      exact Nat.eq_of_mul_eq_mul_left (by decide) e
    obtain ⟨d, rfl⟩ := odd_cancel k z y hy h2
    exact ⟨d, by rw [Nat.pow_succ, Nat.mul_comm (2 ^ k) 2, Nat.mul_assoc]⟩
theorem five_mod4 (c : Nat) : 5 ^ c % 4 = 1 := by
  induction c with
  | zero => rfl
  | succ c ih => rw [Nat.pow_succ]; omega
theorem five_mod8_odd (c : Nat) : 5 ^ (2 * c) % 8 = 1 := by
  induction c with
  | zero => rfl
  | succ c ih =>
    rw [show 2 * (c + 1) = 2 * c + 2 by omega, Nat.pow_add]
    have : 5 ^ 2 = 25 := rfl
    omega
theorem order5 : ∀ (e d : Nat), 2 ^ (e + 2) ∣ 5 ^ d - 1 → 2 ^ e ∣ d
  | 0, d, _ => Nat.one_dvd d
  | e + 1, d, h => by
    have hpar : d % 2 = 0 := by
      rcases Nat.mod_two_eq_zero_or_one d with z | z
      · exact z
      · exfalso
        obtain ⟨c, rfl⟩ : ∃ c, d = 2 * c + 1 := ⟨d / 2, by omega⟩
        have h8 : (8 : Nat) ∣ 5 ^ (2 * c + 1) - 1 := by
          refine Nat.dvd_trans ?_ h
          refine ⟨2 ^ e, ?_⟩
          rw [show e + 1 + 2 = 3 + e by omega, Nat.pow_add]
        have h9 := five_mod8_odd c
        have hp : 0 < 5 ^ (2 * c) := Nat.pow_pos (by decide)
        rw [Nat.pow_succ] at h8
        omega
    obtain ⟨c, rfl⟩ : ∃ c, d = 2 * c := ⟨d / 2, by omega⟩
    have hp : 0 < 5 ^ c := Nat.pow_pos (by decide)
    have h4 := five_mod4 c
    obtain ⟨o, ho⟩ : ∃ o, 5 ^ c + 1 = 2 * (2 * o + 1) := ⟨5 ^ c / 4, by omega⟩
    have fac : 5 ^ (2 * c) - 1 = (5 ^ c - 1) * (2 * (2 * o + 1)) := by
      rw [← ho, Nat.mul_comm 2 c, Nat.pow_mul]
      obtain ⟨y, hy⟩ : ∃ y, 5 ^ c = y + 1 := ⟨5 ^ c - 1, by omega⟩
      rw [hy, Nat.add_sub_cancel, show (y + 1) ^ 2 = (y + 1) * (y + 1) by rw [Nat.pow_succ, Nat.pow_one]]
      have : (y + 1) * (y + 1) = y * (y + 1 + 1) + 1 := by
        grind
      rw [this, Nat.add_sub_cancel]
    rw [fac] at h
    have h' : 2 ^ (e + 1 + 2) ∣ ((5 ^ c - 1) * 2) * (2 * o + 1) := by
      rw [Nat.mul_assoc]; exact h
    have h2 := odd_cancel _ _ _ (by omega) h'
    have h3 : 2 ^ (e + 2) ∣ 5 ^ c - 1 := by
      obtain ⟨q, hq⟩ := h2
      refine ⟨q, ?_⟩
      have : 2 * (5 ^ c - 1) = 2 * (2 ^ (e + 2) * q) := by
        rw [Nat.mul_comm 2, hq, show e + 1 + 2 = (e + 2) + 1 by omega, Nat.pow_succ, Nat.mul_comm (2 ^ (e + 2)) 2, Nat.mul_assoc]
      exact Nat.eq_of_mul_eq_mul_left (by decide) this
    obtain ⟨q, rfl⟩ := order5 e c h3
    exact ⟨q, by rw [Nat.pow_succ, Nat.mul_comm (2 ^ e) 2, Nat.mul_assoc]⟩
/-- where the round stands, told without the remainder -/
def lin (i : Nat) : Nat → Nat
  | 0 => i
  | k + 1 => lin i k * 5 + 1
theorem lin_mod (m i : Nat) (hi : i ≤ m) : ∀ k, lcgI m i k = lin i k % (m + 1)
  | 0 => by
    show i = i % (m + 1)
    rw [Nat.mod_eq_of_lt (by omega)]
  | k + 1 => by
    show (lcgI m i k * 5 + 1) % (m + 1) = (lin i k * 5 + 1) % (m + 1)
    rw [lin_mod m i hi k, Nat.add_mod, Nat.mul_mod, Nat.mod_mod, ← Nat.mul_mod, ← Nat.add_mod]
theorem lin_four (i : Nat) : ∀ k, 4 * lin i k + 1 = 5 ^ k * (4 * i + 1)
  | 0 => by show 4 * i + 1 = 1 * (4 * i + 1); omega
  | k + 1 => by
    show 4 * (lin i k * 5 + 1) + 1 = 5 ^ (k + 1) * (4 * i + 1)
    rw [Nat.pow_succ, Nat.mul_comm (5 ^ k) 5, Nat.mul_assoc, ← lin_four i k]
    omega
theorem lin_inj {e m i a b : Nat} (hm : m + 1 = 2 ^ e) (hi : i ≤ m) (hab : a < b) (hb : b ≤ m) : lcgI m i a ≠ lcgI m i b := by
  intro h
  rw [lin_mod m i hi, lin_mod m i hi, hm] at h
  have hle : lin i a ≤ lin i b := by
    have mono : ∀ j, lin i a ≤ lin i (a + j) := by
      intro j
      induction j with
      | zero => exact Nat.le_refl _
      | succ j ih =>
        show lin i a ≤ lin i (a + j) * 5 + 1
        omega
    have := mono (b - a)
    rwa [show a + (b - a) = b by omega] at this
  have hd : 2 ^ e ∣ lin i b - lin i a := by
    have h1 : lin i b = 2 ^ e * (lin i b / 2 ^ e) + lin i b % 2 ^ e := (Nat.div_add_mod _ _).symm
    have h2 : lin i a = 2 ^ e * (lin i a / 2 ^ e) + lin i a % 2 ^ e := (Nat.div_add_mod _ _).symm
    refine ⟨lin i b / 2 ^ e - lin i a / 2 ^ e, ?_⟩
    rw [Nat.mul_sub]
    omega
  have hd4 : 2 ^ (e + 2) ∣ 5 ^ b * (4 * i + 1) - 5 ^ a * (4 * i + 1) := by
    rw [← lin_four, ← lin_four]
    obtain ⟨q, hq⟩ := hd
    refine ⟨q, ?_⟩
    rw [show e + 2 = 2 + e by omega, Nat.pow_add, Nat.mul_assoc, ← hq]
    show _ = 4 * _
    omega
  rw [← Nat.sub_mul] at hd4
  have h1 := odd_cancel _ _ _ (by omega) hd4
  have fac : 5 ^ b - 5 ^ a = (5 ^ (b - a) - 1) * 5 ^ a := by
    rw [Nat.sub_mul, Nat.one_mul, ← Nat.pow_add, show b - a + a = b by omega]
  rw [fac] at h1
  have h5 : 5 ^ a % 2 = 1 := by have := five_mod4 a; omega
  have h2 := order5 e (b - a) (odd_cancel _ _ _ h5 h1)
  have := Nat.le_of_dvd (by omega) h2
  omega
/-- masks whose round meets every place -/
structure MOk (m : Nat) : Prop where
  odd : m % 2 = 1
  le : m ≤ 8191
  all : ∀ i j, i ≤ m → j ≤ m → ∃ k, k ≤ m ∧ lcgI m i k = j
theorem mok_pow {e m : Nat} (hm : m + 1 = 2 ^ e) (he : 1 ≤ e) (hl : m ≤ 8191) : MOk m := by
  refine ⟨?_, hl, fun i j hi hj => ?_⟩
  · obtain ⟨f, rfl⟩ : ∃ f, e = f + 1 := ⟨e - 1, by omega⟩
    rw [Nat.pow_succ] at hm
    omega
  · rcases Classical.em (∃ k, k ≤ m ∧ lcgI m i k = j) with c | c
    · exact c
    · exfalso
      have bd : ∀ k, lcgI m i k ≤ m := fun k => by
        rw [lin_mod m i hi]
        exact Nat.le_of_lt_succ (Nat.mod_lt (lin i k) (Nat.succ_pos m))
      have nd : (j :: (List.range (m + 1)).map (lcgI m i)).Nodup := by
        refine List.nodup_cons.mpr ⟨fun h => ?_, ?_⟩
        · obtain ⟨k, hk, ek⟩ := List.mem_map.mp h
          exact c ⟨k, Nat.le_of_lt_succ (List.mem_range.mp hk), ek⟩
        · refine List.pairwise_map.mpr (List.Pairwise.imp_of_mem (fun {a b} ha hb hab => ?_) (List.pairwise_lt_range (n := m + 1)))
          exact lin_inj hm hi hab (Nat.le_of_lt_succ (List.mem_range.mp hb))
      have := nat_nodup_len _ (List.range (m + 1)) nd fun x hx => by
        rcases List.mem_cons.mp hx with z | z
        · rw [z]; exact List.mem_range.mpr (by omega)
        · obtain ⟨k, _, ek⟩ := List.mem_map.mp z
          rw [← ek]
          exact List.mem_range.mpr (Nat.lt_succ_of_le (bd k))
      rw [List.length_cons, List.length_map, List.length_range] at this
      omega
theorem mok7 : MOk 7 := mok_pow (e := 3) rfl (by decide) (by decide)
theorem mok31 : MOk 31 := mok_pow (e := 5) rfl (by decide) (by decide)
theorem mok127 : MOk 127 := mok_pow (e := 7) rfl (by decide) (by decide)
theorem mok511 : MOk 511 := mok_pow (e := 9) rfl (by decide) (by decide)
theorem mok2047 : MOk 2047 := mok_pow (e := 11) rfl (by decide) (by decide)
theorem mok8191 : MOk 8191 := mok_pow (e := 13) rfl (by decide) (by decide)
end QT
end

section
set_option Elab.async false
set_option linter.all false
set_option maxRecDepth 100000
/-! a set's table with any of the masks of QLcg: each hash is found again on its way -/
namespace QT
open PySem L2 PyProof.Rows

theorem start_on_way {m : Nat} (hm : MOk m) (h : Int) {j : Nat} (hj : j ≤ m) : ∃ n, n ≤ m + 12 ∧ runI m (SetTable.bits h) n = j :=
  let ⟨k, hk, e⟩ := hm.all _ _ (runI_le m (SetTable.bits h) 12) hj
  ⟨12 + k, by omega, (runI_tail (bits_lt h) k).trans e⟩
theorem slot_on_way {m : Nat} (hm : MOk m) (h : Int) {j : Nat} (hj : j ≤ m) : ∃ k, k < 10 * SetTable.turns m ∧ way m h k = j := by
  obtain ⟨n, hn, e⟩ := start_on_way hm h hj
  obtain ⟨k, hk, q⟩ := run_nth m (SetTable.bits h) n
  exact ⟨k, by unfold SetTable.turns; omega, (congrArg SetTable.Probe.j q).trans e⟩
theorem way_in (m : Nat) (h : Int) (k : Nat) : way m h k ≤ m := by
  have hb : SetTable.bits h % (m + 1) ≤ m := Nat.le_of_lt_succ (Nat.mod_lt _ (Nat.succ_pos _))
  have := runEnd_bd hb
  have q := nth_in (m := m) k (runAt m (SetTable.bits h % (m + 1)) (SetTable.bits h)) (by unfold runAt; dsimp only; omega)
  exact Nat.le_trans (Nat.le_add_right _ _) q

/-- h is met at j by a way through taken slots -/
def Seat (taken : Nat → Prop) (m : Nat) (h : Int) (j : Nat) : Prop := ∃ k, way m h k = j ∧ ∀ i, i < k → taken (way m h i)
theorem Seat.mono {p q : Nat → Prop} (pq : ∀ x, p x → q x) {m : Nat} {h : Int} {j : Nat} : Seat p m h j → Seat q m h j
  | ⟨k, e, b⟩ => ⟨k, e, fun i hi => pq _ (b i hi)⟩
structure Tab (t : SetTable) (hs : List Int) : Prop where
  up : Ris t.place.toList
  none : t.dummies = #[]
  size : t.place.size = hs.length
  mask : MOk t.mask
  low : ∀ x ∈ t.place.toList, x ≤ t.mask
  seat : ∀ (i : Nat) (h : Int) (j : Nat), hs[i]? = some h → t.place.toList[i]? = some j → Seat (· ∈ t.place.toList) t.mask h j
/-- a place that is not taken, with all that come before it taken -/
def Free (t : SetTable) (h : Int) (K : Nat) : Prop := way t.mask h K ∉ t.place.toList ∧ ∀ k, k < K → way t.mask h k ∈ t.place.toList
theorem Tab.free {t : SetTable} {hs : List Int} (T : Tab t hs) (hl : hs.length ≤ t.mask) (h : Int) : ∃ K, K < 10 * SetTable.turns t.mask ∧ Free t h K := by
  obtain ⟨j, hj, hn⟩ := st_missing t.place.toList (t.mask + 1) (by rw [Array.length_toList, T.size]; omega)
  obtain ⟨k, hk, e⟩ := slot_on_way T.mask h (Nat.le_of_lt_succ hj)
  obtain ⟨K, h1, h2, h3⟩ := st_least (p := fun k => way t.mask h k ∉ t.place.toList) k (fun z => hn (by rw [← show way t.mask h k = j from e]; exact z))
  exact ⟨K, Nat.lt_of_le_of_lt h1 hk, h2, fun i hi => Classical.byContradiction fun c => h3 i hi c⟩
theorem Tab.ahead {t : SetTable} {hs : List Int} (T : Tab t hs) {h : Int} {K i j : Nat} (F : Free t h K) (hi : hs[i]? = some h) (hj : t.place.toList[i]? = some j) : ∃ k, k < K ∧ way t.mask h k = j := by
  obtain ⟨k, e, b⟩ := T.seat i h j hi hj
  refine ⟨k, Nat.lt_of_not_le fun c => F.1 ?_, e⟩
  rcases Nat.lt_or_eq_of_le c with d | d
  · exact b K d
  · rw [d, e]; exact List.mem_of_getElem? hj
/-- what a put leaves -/
structure PutOk (t : SetTable) (hs : List Int) (h : Int) (j : Nat) : Prop where
  pos : (t.put j).2 = SetTable.below t.place j
  le : SetTable.below t.place j ≤ hs.length
  tab : Tab (t.put j).1 (hs.take (SetTable.below t.place j) ++ h :: hs.drop (SetTable.below t.place j))
  msk : (t.put j).1.mask = t.mask
  led : (t.put j).1.led = t.led
  plain : (t.put j).1.plain = t.plain
  fill : (t.put j).1.fill = hs.length + 1
theorem Tab.putOk {t : SetTable} {hs : List Int} (T : Tab t hs) {h : Int} {K : Nat} (F : Free t h K) : PutOk t hs h (way t.mask h K) := by
  have hjm := way_in t.mask h K
  have hseat : ∃ k, way t.mask h k = way t.mask h K ∧ ∀ i, i < k → way t.mask h i ∈ t.place.toList := ⟨K, rfl, F.2⟩
  have hno := F.1
  generalize way t.mask h K = j at hjm hseat hno
  have c1 := (below_cut T.up j).1
  have hs1 : t.place.toList.length = hs.length := (Array.length_toList).trans T.size
  have hp1 : SetTable.below t.place j ≤ t.place.toList.length := by rw [Array.length_toList]; exact c1
  have hp2 : SetTable.below t.place j ≤ hs.length := hs1 ▸ hp1
  have pp := put_place t j
  have szp : (t.put j).1.place.size = hs.length + 1 := by
    rw [← Array.length_toList, pp, len_ins _ hp1, hs1]
  have more : ∀ x, x ∈ t.place.toList → x ∈ (t.put j).1.place.toList := fun x hx => pp ▸ mem_ins.2 (.inr hx)
  refine ⟨rfl, hp2, ⟨ris_insert T.up (fun e => hno (List.mem_of_getElem? ((Array.getElem?_toList).trans e))), put_dm T.none j, szp.trans (len_ins _ hp2 h).symm, T.mask, ?_, ?_⟩, rfl, rfl, rfl, ?_⟩
  · intro x hx
    rw [pp, mem_ins] at hx
    rcases hx with rfl | hx
    · exact hjm
    · exact T.low x hx
  · intro i h' j' h1 h2
    rw [tins_get hs hp2] at h1
    rw [pp, tins_get _ hp1] at h2
    have old : ∀ i', hs[i']? = some h' → t.place.toList[i']? = some j' → Seat (· ∈ (t.put j).1.place.toList) t.mask h' j' := fun i' a b => (T.seat i' h' j' a b).mono more
    rcases Nat.lt_trichotomy i (SetTable.below t.place j) with c | c | c
    · rw [if_pos c] at h1 h2
      exact old i h1 h2
    · rw [if_neg (by omega), if_pos c] at h1 h2
      cases h1
      cases h2
      obtain ⟨k, e, b⟩ := hseat
      exact ⟨k, e, fun i hi => more _ (b i hi)⟩
    · rw [if_neg (by omega), if_neg (by omega)] at h1 h2
      exact old (i - 1) h1 h2
  · unfold SetTable.fill
    rw [szp, put_dm T.none j] <;> rfl

/-! ### a table laid anew -/
theorem first_free {m : Nat} (hm : MOk m) (owner : Array (Option Nat)) (h : Int) {j : Nat} (hj : j ≤ m) (hf : oAt owner j = none) :
    ∃ K, SetTable.layClean.free m owner (SetTable.turns m) (SetTable.bits h % (m + 1)) (SetTable.bits h) = some (way m h K) ∧ oAt owner (way m h K) = none ∧ ∀ k, k < K → oAt owner (way m h k) ≠ none := by
  obtain ⟨n, hn, e⟩ := start_on_way hm h hj
  have hw : oAt owner (way m h (off m (SetTable.bits h % (m + 1)) (SetTable.bits h) n)) = none := by
    have q : way m h (off m (SetTable.bits h % (m + 1)) (SetTable.bits h) n) = j := by
      unfold way
      rw [nth_off, itL_run]
      exact e
    rw [q]; exact hf
  obtain ⟨K, k1, k2, k3⟩ := st_least (p := fun k => oAt owner (way m h k) = none) _ hw
  refine ⟨K, free_spec m owner _ n _ _ K (by unfold SetTable.turns; omega) k1 (fun k hk => ?_) ?_, k2, k3⟩
  · have q := k3 k hk
    exact Option.isNone_eq_false_iff.mpr (Option.isSome_iff_ne_none.mpr q)
  · exact Option.isNone_iff_eq_none.mpr k2
theorem own_more {m : Nat} (hm : MOk m) {done : List Int} {owner : Array (Option Nat)} (W : Own m done owner) (hl : done.length ≤ m) (h : Int) :
    ∃ j, SetTable.layClean.free m owner (SetTable.turns m) (SetTable.bits h % (m + 1)) (SetTable.bits h) = some j ∧ Own m (done ++ [h]) (owner.setIfInBounds j (some done.length)) := by
  obtain ⟨ps, hps, hin⟩ := W.ps
  obtain ⟨j0, h0, hn0⟩ := st_missing ps (m + 1) (by omega)
  have hj0 : oAt owner j0 = none := Classical.byContradiction fun c => hn0 (hin j0 (Nat.le_of_lt_succ h0) c)
  obtain ⟨K, e1, e2, e3⟩ := first_free hm owner h (Nat.le_of_lt_succ h0) hj0
  have hjm : way m h K ≤ m := way_in m h K
  have hself := oAt_set_self (some done.length) (show way m h K < owner.size by rw [W.sz]; omega)
  have len1 : (done ++ [h]).length = done.length + 1 := List.length_append
  have keep : ∀ {i : Nat}, oAt owner i ≠ none → oAt (owner.setIfInBounds (way m h K) (some done.length)) i ≠ none := by
    intro i hi
    by_cases c : i = way m h K
    · rw [c, hself]; simp
    · rw [oAt_set_ne _ c]; exact hi
  refine ⟨way m h K, e1, ⟨(Array.size_setIfInBounds).trans W.sz, ?_, ?_, way m h K :: ps, by rw [List.length_cons, hps, len1], ?_⟩⟩
  · intro j k hj e
    by_cases c : j = way m h K
    · rw [c, hself] at e
      cases e
      exact ⟨h, K, by simp, c.symm, fun k' hk' => keep (e3 k' hk')⟩
    · rw [oAt_set_ne _ c] at e
      obtain ⟨h', K', a1, a2, a3⟩ := W.at_ j k hj e
      exact ⟨h', K', by rw [List.getElem?_append_left (List.getElem?_eq_some_iff.mp a1).1]; exact a1, a2, fun k' hk' => keep (a3 k' hk')⟩
  · intro k hk
    rcases Nat.lt_or_ge k done.length with c | c
    · obtain ⟨j, hj, e⟩ := W.all k c
      refine ⟨j, hj, ?_⟩
      rw [oAt_set_ne _ (fun z => by rw [z, e2] at e; cases e)]
      exact e
    · rw [len1] at hk
      rw [show k = done.length by omega]
      exact ⟨_, hjm, hself⟩
  · intro j hj e
    by_cases c : j = way m h K
    · rw [c]; exact List.mem_cons_self
    · rw [oAt_set_ne _ c] at e
      exact List.mem_cons_of_mem _ (hin j hj e)
theorem fold_own {m : Nat} (hm : MOk m) : ∀ (rest done : List Int) (owner : Array (Option Nat)), Own m done owner → done.length + rest.length ≤ m →
    ∃ o2, rest.foldl (stepF m) (some (owner, done.length)) = some (o2, (done ++ rest).length) ∧ Own m (done ++ rest) o2
  | [], done, owner, W, _ => ⟨owner, by simp, by simpa using W⟩
  | h :: rest, done, owner, W, hl => by
    have hl' : done.length + (rest.length + 1) ≤ m := hl
    obtain ⟨j, e, W1⟩ := own_more hm W (by omega) h
    have len1 : (done ++ [h]).length = done.length + 1 := List.length_append
    obtain ⟨o2, f, W2⟩ := fold_own hm rest _ _ W1 (by rw [len1]; omega)
    have ea : done ++ h :: rest = (done ++ [h]) ++ rest := by simp
    refine ⟨o2, ?_, ea ▸ W2⟩
    rw [List.foldl_cons, stepF_some e, ea, ← f, len1]
theorem lay_own {m : Nat} (hm : MOk m) {hs : Array Int} (hn : hs.size ≤ m) : ∃ owner, SetTable.layClean m hs = some owner ∧ Own m hs.toList owner := by
  obtain ⟨o2, f, W⟩ := fold_own hm hs.toList [] _ (Own.init m) (by simpa using hn)
  refine ⟨o2, ?_, by simpa using W⟩
  rw [layClean_eq]
  exact (congrArg (Option.map (·.1)) f).trans rfl
structure Laid (t : SetTable) (hs : Array Int) (wanted M : Nat) (t' : SetTable) (order : Array Nat) : Prop where
  eq : t.relaid hs wanted = some (t', order)
  perm : order.toList.Perm (List.range hs.size)
  tab : Tab t' (order.toList.map fun i => hs.getD i 0)
  msk : t'.mask = M
  led : t'.led = t.led
  plain : t'.plain = t.plain
theorem relaid_tab (t : SetTable) {hs : Array Int} {wanted M : Nat} (hw : SetTable.sizeAbove wanted - 1 = M) (hM : MOk M) (hn : hs.size ≤ M) : ∃ t' order, Laid t hs wanted M t' order := by
  obtain ⟨owner, e, W⟩ := lay_own hM hn
  obtain ⟨lv, hlv⟩ : ∃ lv, lv = liveOf M owner := ⟨_, rfl⟩
  have mem : ∀ {j k : Nat}, (j, k) ∈ lv ↔ j ≤ M ∧ oAt owner j = some k := by rw [hlv]; exact mem_live W.sz
  have ris := ris_live (fun j => owner.getD j none) (List.range (M + 1)) (by unfold Ris; exact List.pairwise_lt_range)
  have r1 : Ris (lv.map (·.1)) := by rw [hlv]; exact ris.1
  have nd : (lv.map (·.1)).Nodup := List.Pairwise.imp (fun h => Nat.ne_of_lt h) r1
  have inv : ∀ k, k < hs.size → k ∈ lv.map (·.2) := fun k hk => by
    obtain ⟨j, b1, b2⟩ := W.all k (by rw [Array.length_toList]; exact hk)
    exact List.mem_map.mpr ⟨(j, k), mem.2 ⟨b1, b2⟩, rfl⟩
  have hlen : lv.length = hs.size := by
    obtain ⟨ps, p1, p2⟩ := W.ps
    have a := nat_nodup_len (lv.map (·.1)) ps nd fun x hx => by
      obtain ⟨⟨y, k⟩, hq, rfl⟩ := List.mem_map.mp hx
      obtain ⟨b1, b2⟩ := mem.1 hq
      exact p2 y b1 (by rw [b2]; simp)
    have b := nat_nodup_len (List.range hs.size) (lv.map (·.2)) List.nodup_range fun k hk => inv k (List.mem_range.mp hk)
    have hz : hs.toList.length = hs.size := Array.length_toList
    rw [List.length_map, p1] at a
    rw [List.length_map, List.length_range] at b
    omega
  refine ⟨tabOf t M owner, (lv.map (·.2)).toArray, ?_, ?_, ⟨?_, rfl, ?_, hM, ?_, ?_⟩, rfl, rfl, rfl⟩
  · rw [relaid_eq, hw, e, hlv] <;> rfl
  · exact perm_range hs.size _ (by simpa using hlen) inv
  · show Ris ((liveOf M owner).map (·.1))
    rw [← hlv]; exact r1
  · show ((liveOf M owner).map (·.1)).toArray.size = _
    rw [← hlv]; simp
  · intro x hx
    have hx' : x ∈ (liveOf M owner).map (·.1) := hx
    rw [← hlv] at hx'
    obtain ⟨⟨y, k⟩, hq, rfl⟩ := List.mem_map.mp hx'
    exact (mem.1 hq).1
  · intro i h j h1 h2
    have h2' : ((liveOf M owner).map (·.1))[i]? = some j := h2
    have h1' : ((lv.map (·.2)).map fun i => hs.getD i 0)[i]? = some h := h1
    rw [← hlv, List.getElem?_map] at h2'
    rw [List.getElem?_map, List.getElem?_map] at h1'
    cases hq : lv[i]? with
    | none => rw [hq] at h2'; cases h2'
    | some q =>
      obtain ⟨y, k⟩ := q
      rw [hq] at h1' h2'
      cases h1'
      cases h2'
      obtain ⟨b1, b2⟩ := mem.1 (List.mem_of_getElem? hq)
      obtain ⟨h0, K, a1, a2, a3⟩ := W.at_ _ k b1 b2
      have e0 : hs.getD k 0 = h0 := by
        rw [Array.getD_eq_getD_getElem?, ← Array.getElem?_toList, a1] <;> rfl
      refine ⟨K, by show way M (hs.getD k 0) K = y; rw [e0]; exact a2, fun i hi => ?_⟩
      show way M (hs.getD k 0) i ∈ (liveOf M owner).map (·.1)
      rw [← hlv, e0]
      obtain ⟨k2, z⟩ := Option.ne_none_iff_exists'.mp (a3 i hi)
      exact List.mem_map.mpr ⟨(way M h0 i, k2), mem.2 ⟨way_in _ _ _, z⟩, rfl⟩
/-- how a table grows: the mask, the most it holds -/
inductive Grow : Nat → Nat → Nat → Prop
  | a : Grow 7 5 31
  | b : Grow 31 19 127
  | c : Grow 127 77 511
  | d : Grow 511 307 2047
  | e : Grow 2047 1229 8191
theorem Grow.size {m n M : Nat} (g : Grow m n M) : SetTable.sizeAbove (SetTable.grown n) = M + 1 ∧ MOk M ∧ n * 5 < M * 3 ∧ n ≤ m ∧ M ≤ 8191 := by
  cases g
  · exact ⟨by decide +kernel, mok31, by decide, by decide, by decide⟩
  · exact ⟨by decide +kernel, mok127, by decide, by decide, by decide⟩
  · exact ⟨by decide +kernel, mok511, by decide, by decide, by decide⟩
  · exact ⟨by decide +kernel, mok2047, by decide, by decide, by decide⟩
  · exact ⟨by decide +kernel, mok8191, by decide, by decide, by decide⟩
end QT
end

section
set_option Elab.async false
set_option linter.all false
set_option maxRecDepth 100000
set_option maxHeartbeats 4000000
/-! sets of tuples of ints, fewer than 4096: search, add -/
namespace QT
open PySem L2 PyProof.Rows PySem.Spec

def Masks (m : Nat) : Prop := m = 7 ∨ m = 31 ∨ m = 127 ∨ m = 511 ∨ m = 2047 ∨ m = 8191
section
variable {P : Program} {w : World} {A : Around} {E : Value → Shared → Prop} {s : Shared}
abbrev Row := Addr × List Int
abbrev hashes (P : Program) (w : World) (L : List Row) : List Int := L.map fun p => thash P w p.2
structure SR (P : Program) (w : World) (h : Heap) (a : Addr) (L : List Row) (es : Array (Int × Value)) (ep : Nat) (t : SetTable) : Prop where
  obj : ∃ o, h.get? a = some o ∧ o.ExactSet ∧ o.data = .set es ep t
  ents : es.toList = rowsOf P w L
  tab : Tab t (hashes P w L)
  uniq : (L.map (·.2)).Nodup
  tups : ∀ p ∈ L, IsT P w h p.2 p.1
  plain : t.plain = true
  led : w.params.followText "set-order" = true ∨ t.led = true
  room : L.length * 5 < t.mask * 3
  mks : Masks t.mask
variable {a : Addr} {L : List Row} {es : Array (Int × Value)} {ep : Nat} {t : SetTable}
theorem rows_size (h : es.toList = rowsOf P w L) : es.size = L.length := by
  rw [← Array.length_toList, h]
  exact List.length_map _
theorem ent_of (h : es.toList = rowsOf P w L) {i : Nat} {p : Row} (hp : L[i]? = some p) : es[i]? = some (thash P w p.2, Value.ref p.1) := by
  rw [← Array.getElem?_toList, h]
  exact (List.getElem?_map).trans (congrArg (Option.map _) hp)
theorem Tab.len {t : SetTable} (T : Tab t (hashes P w L)) : t.place.size = L.length := T.size.trans (List.length_map _)
theorem fits_of {n : Nat} (h1 : t.place.size = n) (h2 : t.dummies = #[]) (h3 : n ≤ t.mask) : t.fits n = true := by
  unfold SetTable.fits SetTable.fill
  rw [h2, h1]
  simpa using h3
theorem SR.size (R : SR P w s.heap a L es ep t) : es.size = L.length := rows_size R.ents
theorem SR.fits (R : SR P w s.heap a L es ep t) : t.fits es.size = true := by
  have h1 := R.room
  rw [R.size]
  exact fits_of R.tab.len R.tab.none (by omega)
theorem SR.stays (R : SR P w s.heap a L es ep t) : ¬ t.gaveWay = true := by
  unfold SetTable.gaveWay
  rw [R.tab.mask.odd]
  simp
/-- the c-th step of the way of h -/
abbrev onWay (m : Nat) (h : Int) (c : Nat) : SetTable.Probe := nth m (runAt m (SetTable.bits h % (m + 1)) (SetTable.bits h)) c
theorem onWay_dummy (m : Nat) : ∀ (c : Nat) (p : SetTable.Probe), p.dummy = none → (nth m p c).dummy = none
  | 0, _, h => h
  | c + 1, p, h => onWay_dummy m c (adv m p) (by unfold adv; split <;> exact h)
theorem onWay_add (m : Nat) (h : Int) (c q : Nat) : nth m (onWay m h c) q = onWay m h (c + q) := (nth_add m c _ q).symm
theorem j_add (m : Nat) (h : Int) (c q : Nat) : (nth m (onWay m h c) q).j = way m h (c + q) := congrArg SetTable.Probe.j (onWay_add m h c q)

/-- what the search of a tuple of the ints k (its hash H) must lead to -/
structure Wish (L : List Row) (t : SetTable) (k : List Int) (H : Int) (K : Nat) (s : Shared) (Q : SetFound → Shared → Prop) : Prop where
  there : k ∈ L.map (·.2) → Q (.there none) s
  free : k ∉ L.map (·.2) → Q (.free (way t.mask H K) false) s
/-- the row of k, if there is one, is not passed yet -/
def Ahead (L : List Row) (t : SetTable) (k : List Int) (H : Int) (c K : Nat) : Prop :=
  ∀ (i : Nat) (p : Row), L[i]? = some p → p.2 = k → ∃ c', c ≤ c' ∧ c' < K ∧ t.place.toList[i]? = some (way t.mask H c')
abbrev hashAt (es : Array (Int × Value)) (i : Nat) : Int := (es[i]?.map (·.1)).getD 0
theorem seek (R : SR P w s.heap a L es ep t) {x : Addr} {k : List Int} (hx : IsT P w s.heap k x) (hu : A.units < cLine) {H : Int} (hH : H = thash P w k) {K : Nat} (hK : K < 10 * SetTable.turns t.mask) (F : Free t H K)
    {Q : SetFound → Shared → Prop} (W : Wish L t k H K s Q) :
    ∀ (f c : Nat) (stand : Option SetTable.Probe), stand.getD (t.probeStart H) = onWay t.mask H c → c ≤ K → K - c < f → Ahead L t k H c K →
      wpAny (model P w) A (setSearchFrom a (.ref x) H true f stand) Q E s
  | 0, _, _, _, _, hf, _ => absurd hf (Nat.not_lt_zero _)
  | f + 1, c, stand, hst, hc, hf, hre => by
    obtain ⟨o, ho, hex, hd⟩ := R.obj
    rw [setSearchFrom_succ]
    refine wpAny_bind (wpAny_setState_of ho hd R.fits ?_)
    dsimp only
    refine wp_if_neg R.stays ?_
    try refine wpAny_bind (wpAny_pure ?_)
    have hash_at : ∀ (i : Nat) (p : Row), L[i]? = some p → hashAt es i = thash P w p.2 := fun i p hp => by unfold hashAt; rw [ent_of R.ents hp] <;> rfl
    have passed : ∀ {q : Nat} {i : Nat} {p : Row} {c' : Nat}, (∀ k' i', k' < q → t.place.toList[i']? = some (nth t.mask (onWay t.mask H c) k').j → hashAt es i' ≠ H) →
        L[i]? = some p → p.2 = k → c ≤ c' → t.place.toList[i]? = some (way t.mask H c') → ¬ c' < c + q := fun {q i p c'} hno hp hk h1 h2 h3 =>
      hno (c' - c) i (by omega) (by rw [j_add, show c + (c' - c) = c' by omega]; exact h2) ((hash_at i p hp).trans (by rw [hk, hH]))
    rcases go_spec t R.tab.up R.tab.none (hashAt es) H (10 * SetTable.turns t.mask) (K - c) (onWay t.mask H c) (onWay_dummy _ _ _ rfl) (by omega)
        (fun q hq => by rw [j_add]; exact F.2 _ (by omega)) (by rw [j_add, show c + (K - c) = K by omega]; exact F.1) with ⟨q, i, hq, hi, hh, hno, hpr⟩ | ⟨hno, hpr⟩
    · have hpr2 := (congrArg (t.probe (hashAt es) H) hst).trans hpr
      rw [hpr2]
      rw [j_add] at hi ⊢
      rw [onWay_add]
      dsimp only
      have hil : i < L.length := by
        have h1 := (List.getElem?_eq_some_iff.mp hi).1
        rw [Array.length_toList, R.tab.len] at h1
        exact h1
      obtain ⟨p, hp⟩ : ∃ p, L[i]? = some p := ⟨_, List.getElem?_eq_getElem hil⟩
      have pin : p ∈ L := List.mem_of_getElem? hp
      have core : wpAny (model P w) A (searchRest a (.ref x) H true f es t (way t.mask H (c + q)) i (onWay t.mask H (c + (q + 1)))) Q E s := by
        unfold searchRest
        rw [ent_of R.ents hp]
        dsimp only
        refine wpAny_bind (wpAny_holding (wpAny_eqBool_tuple hu (R.tups p pin) hx ?_))
        refine wpAny_bind (wpAny_setState_of ho hd R.fits ?_)
        dsimp only
        by_cases hk : p.2 = k
        · exact wp_if_pos (by simp [hk]) (wpAny_pure (W.there (List.mem_map.mpr ⟨p, pin, hk⟩)))
        · refine wp_if_neg (by simp [hk]) ?_
          try refine wpAny_bind (wpAny_pure ?_)
          rw [sameMem]
          dsimp only
          have live := slot_live R.tab.up hi
          simp only [if_true, live, ent_of R.ents hp]
          refine wpAny_bind (wpAny_isSame_ref_self (wpAny_bind (wpAny_pure ?_)))
          simp only [if_true]
          refine wp_if_neg (by simp [hk]) ?_
          refine seek R hx hu hH hK F W f (c + (q + 1)) (some (onWay t.mask H (c + (q + 1)))) rfl (by omega) (by omega) fun i0 p0 h0 k0 => ?_
          obtain ⟨c', a1, a2, a3⟩ := hre i0 p0 h0 k0
          refine ⟨c', Nat.lt_of_not_le fun z => ?_, a2, a3⟩
          rcases Nat.lt_or_eq_of_le z with y | y
          · exact passed hno h0 k0 a1 a3 (by omega)
          · have l0 := slot_live R.tab.up a3
            rw [show c' = c + q by omega, live] at l0
            cases l0
            rw [hp] at h0
            cases h0
            exact hk k0
      by_cases hl : t.led = true
      · refine wp_if_neg (by simp [hl]) ?_
        try refine wpAny_bind (wpAny_pure ?_)
        exact core
      · refine wp_if_pos (by simp [hl]) (wpAny_bind (seen_tup hx (fun y hy => ?_) ?_))
        · obtain ⟨e, he, rfl⟩ := List.mem_map.mp hy
          have he2 : e ∈ es.toList := by
            have he1 : e ∈ es ∧ e.1 = H := by simpa using he
            simpa using he1.1
          rw [R.ents] at he2
          obtain ⟨p2, hp2, rfl⟩ := List.mem_map.mp he2
          exact ⟨p2.2, p2.1, rfl, R.tups p2 hp2⟩
        · refine wp_if_neg (by decide) ?_
          try refine wpAny_bind (wpAny_pure ?_)
          exact core
    · have hpr2 := (congrArg (t.probe (hashAt es) H) hst).trans hpr
      rw [hpr2, j_add, show c + (K - c) = K by omega]
      dsimp only
      refine wpAny_pure (W.free fun hm => ?_)
      obtain ⟨p0, h0, k0⟩ := List.mem_map.mp hm
      obtain ⟨i0, hi0, e0⟩ := List.getElem_of_mem h0
      have g0 : L[i0]? = some p0 := (List.getElem?_eq_getElem hi0).trans (congrArg some e0)
      obtain ⟨c', a1, a2, a3⟩ := hre i0 p0 g0 k0
      exact passed (q := K - c) hno g0 k0 a1 a3 (by omega)
theorem turns_small {m : Nat} (h : MOk m) : 10 * SetTable.turns m < 100000 := by
  have := h.le
  unfold SetTable.turns
  omega
theorem seek0 (R : SR P w s.heap a L es ep t) {x : Addr} {k : List Int} (hx : IsT P w s.heap k x) (hu : A.units < cLine) {Q : SetFound → Shared → Prop} (hin : k ∈ L.map (·.2) → Q (.there none) s)
    (hout : ∀ K, k ∉ L.map (·.2) → Free t (thash P w k) K → Q (.free (way t.mask (thash P w k) K) false) s) : wpAny (model P w) A (setSearch a (.ref x) (thash P w k) true) Q E s := by
  have hroom := R.room
  obtain ⟨K, hK, F⟩ := R.tab.free (by rw [List.length_map]; omega) (thash P w k)
  have := turns_small R.tab.mask
  unfold setSearch
  refine seek R hx hu rfl hK F ⟨hin, fun hn => hout K hn F⟩ 100000 0 none rfl (Nat.zero_le _) (by omega) fun i p hp hk => ?_
  have hi : (hashes P w L)[i]? = some (thash P w k) := (List.getElem?_map).trans (by rw [hp, ← hk] <;> rfl)
  have hil : i < t.place.toList.length := by
    rw [Array.length_toList, R.tab.len]
    exact (List.getElem?_eq_some_iff.mp hp).1
  have hj := List.getElem?_eq_getElem hil
  obtain ⟨c, hc, e⟩ := R.tab.ahead F hi hj
  exact ⟨c, Nat.zero_le _, hc, by rw [hj, e]⟩
end
end QT
end

section
set_option Elab.async false
set_option linter.all false
set_option maxRecDepth 100000
set_option maxHeartbeats 4000000
/-! sets of tuples of ints: adding, set(list) -/
namespace QT
open PySem L2 PyProof.Rows PySem.Spec
section
variable {P : Program} {w : World} {A : Around} {E : Value → Shared → Prop} {s : Shared} {a : Addr} {L : List Row} {es : Array (Int × Value)} {ep : Nat} {t : SetTable}
/-- all that makes up a set but the room -/
structure Raw (P : Program) (w : World) (h : Heap) (a : Addr) (L : List Row) (es : Array (Int × Value)) (ep : Nat) (t : SetTable) : Prop where
  obj : ∃ o, h.get? a = some o ∧ o.ExactSet ∧ o.data = .set es ep t
  ents : es.toList = rowsOf P w L
  tab : Tab t (hashes P w L)
  uniq : (L.map (·.2)).Nodup
  tups : ∀ p ∈ L, IsT P w h p.2 p.1
  plain : t.plain = true
  led : w.params.followText "set-order" = true ∨ t.led = true
theorem Raw.full (R : Raw P w s.heap a L es ep t) (h1 : L.length * 5 < t.mask * 3) (h2 : Masks t.mask) : SR P w s.heap a L es ep t :=
  ⟨R.obj, R.ents, R.tab, R.uniq, R.tups, R.plain, R.led, h1, h2⟩
theorem relay {wanted M : Nat} (R : Raw P w s.heap a L es ep t) (hfit : L.length ≤ t.mask) (hw : SetTable.sizeAbove wanted = M + 1) (hM : MOk M) (hn : L.length * 5 < M * 3) {Q : Unit → Shared → Prop}
    (hQ : ∀ h' L' es' ep' t', Heap.SameBut a s.heap h' → Raw P w h' a L' es' ep' t' → t'.mask = M → L'.Perm L → Q () { s with heap := h' }) : wpAny (model P w) A (setRelay a wanted) Q E s := by
  obtain ⟨o, ho, hex, hd⟩ := R.obj
  have hsl := rows_size R.ents
  have hMl := hM.le
  have hfits : t.fits es.size = true := by rw [hsl]; exact fits_of R.tab.len R.tab.none hfit
  obtain ⟨t', order, B⟩ := relaid_tab t (hs := es.map (·.1)) (wanted := wanted) (M := M) (by rw [hw]; omega) hM (by rw [Array.size_map, hsl]; omega)
  have hp := B.perm
  rw [Array.size_map, hsl] at hp
  obtain ⟨L2, r1, r2, r3⟩ := order_rows L es order R.ents hp
  have hs2 : (order.filterMap (es[·]?)).size = es.size := by rw [rows_size r1, r2.length_eq, hsl]
  rw [setRelay_eq]
  refine wpAny_bind (wpAny_setState_of ho hd hfits ?_)
  dsimp only
  refine wp_if_neg (by rw [hw, sizeLine_eq]; omega) ?_
  try refine wpAny_bind (wpAny_pure ?_)
  rw [B.eq]
  dsimp only
  refine wpAny_bind ?_
  refine wp_if_neg (by rw [hs2]; simp) ?_
  try refine wpAny_bind (wpAny_pure ?_)
  refine wpAny_pure ?_
  dsimp only
  refine wpAny_storeSet_of ho hd ?_ (by rw [hs2, hsl, sizeLine_eq]; omega)
  have sb : Heap.SameBut a s.heap (s.heap.update a (Obj.putSet (order.filterMap (es[·]?)) t')) := Heap.SameBut.update ..
  refine hQ _ L2 _ (ep + 1) t' sb ⟨⟨_, store_at ho hd, ⟨hex.1, hex.2.1, hex.2.2⟩, rfl⟩, r1, ?_, (r2.map (·.2)).nodup_iff.mpr R.uniq, fun p hpm => isT_same (R.tups p (r2.mem_iff.mp hpm)) ho hd sb, B.plain.trans R.plain, ?_⟩ B.msk r2
  · have T := B.tab
    rw [← r3] at T
    exact T
  · rw [B.led]; exact R.led
theorem masks_grow {m n : Nat} (h : Masks m) (room : n * 5 < m * 3) (full : ¬ (n + 1) * 5 < m * 3) (few : n + 1 < 4096) : ∃ M, Grow m (n + 1) M := by
  have pick : ∀ k, n + 1 = k → ∀ M, Grow m k M → ∃ M, Grow m (n + 1) M := fun k e M g => ⟨M, e ▸ g⟩
  rcases h with e | e | e | e | e | e
  · subst e; exact pick 5 (by omega) 31 .a
  · subst e; exact pick 19 (by omega) 127 .b
  · subst e; exact pick 77 (by omega) 511 .c
  · subst e; exact pick 307 (by omega) 2047 .d
  · subst e; exact pick 1229 (by omega) 8191 .e
  · subst e; omega
theorem Grow.masks {m n M : Nat} (g : Grow m n M) : Masks M := by
  cases g
  · exact .inr (.inl rfl)
  · exact .inr (.inr (.inl rfl))
  · exact .inr (.inr (.inr (.inl rfl)))
  · exact .inr (.inr (.inr (.inr (.inl rfl))))
  · exact .inr (.inr (.inr (.inr (.inr rfl))))
/-- ADDING a tuple -/
theorem add (R : SR P w s.heap a L es ep t) {x : Addr} {k : List Int} (hx : IsT P w s.heap k x) (hu : A.units < cLine) (few : L.length + 1 < 4096) {Q : Bool → Shared → Prop}
    (hQ : ∀ b h' L' es' ep' t', Heap.SameBut a s.heap h' → SR P w h' a L' es' ep' t' → (k ∈ L.map (·.2) → L' = L) → (k ∉ L.map (·.2) → L'.Perm ((x, k) :: L)) → Q b { s with heap := h' }) :
    wpAny (model P w) A (setAddHashed a (.ref x) (thash P w k)) Q E s := by
  obtain ⟨o, ho, hex, hd⟩ := R.obj
  have hsl := R.size
  have hroom := R.room
  unfold setAddHashed
  refine wpAny_holding ?_
  rw [show (100000 : Nat) = 99999 + 1 from rfl, setAddHashedIn_succ]
  refine wpAny_bind (wpAny_setState_of ho hd R.fits ?_)
  dsimp only
  refine wp_if_neg (by simp [byScan, Value.scannable]) ?_
  try refine wpAny_bind (wpAny_pure ?_)
  refine wpAny_bind (seek0 R hx hu (fun hm => ?_) fun K hm F => ?_)
  · exact wpAny_pure (hQ false s.heap L es ep t (Heap.SameBut.refl a s.heap) R (fun _ => rfl) fun z => absurd hm z)
  dsimp only
  refine wpAny_bind (wpAny_setState_of ho hd R.fits ?_)
  dsimp only
  have B := R.tab.putOk F
  obtain ⟨j, hj⟩ : ∃ j, way t.mask (thash P w k) K = j := ⟨_, rfl⟩
  rw [hj] at B ⊢
  obtain ⟨q, hq⟩ : ∃ q, SetTable.below t.place j = q := ⟨_, rfl⟩
  have hpos := B.pos
  have htab := B.tab
  have hplain := B.plain.trans R.plain
  have hmsk := B.msk
  have hled := B.led
  have hfill := B.fill
  rw [hq] at hpos htab
  generalize t.put j = pt at hpos htab hplain hmsk hled hfill ⊢
  obtain ⟨t1, p1⟩ := pt
  dsimp only at hpos htab hplain hmsk hled hfill ⊢
  subst hpos
  first
    | (refine wpAny_bind ?_; refine wp_if_pos hplain ?_; refine hashBy_tup hx ?_)
    | refine wp_if_pos hplain (wpAny_bind (hashBy_tup hx ?_))
  simp only [if_true]
  have pm := put_perm L p1 (x, k)
  have hin : (SetTable.insertAt es p1 (thash P w k, Value.ref x)).toList = rowsOf P w (L.take p1 ++ (x, k) :: L.drop p1) := by
    rw [SetTable.toList_insertAt, rows_put, R.ents]
  have hh : (hashes P w L).take p1 ++ thash P w k :: (hashes P w L).drop p1 = hashes P w (L.take p1 ++ (x, k) :: L.drop p1) := by
    show _ = List.map _ _
    rw [List.map_append, List.map_cons, List.map_take, List.map_drop]
  rw [hh] at htab
  have nd1 : ((L.take p1 ++ (x, k) :: L.drop p1).map (·.2)).Nodup := (pm.map (·.2)).nodup_iff.mpr (List.nodup_cons.mpr ⟨hm, R.uniq⟩)
  have hlen : (L.take p1 ++ (x, k) :: L.drop p1).length = L.length + 1 := pm.length_eq
  have hes := rows_size hin
  rw [hlen] at hes
  generalize SetTable.insertAt es p1 (thash P w k, Value.ref x) = es1 at hin hes ⊢
  generalize L.take p1 ++ (x, k) :: L.drop p1 = L1 at pm hlen htab nd1 hin
  refine wpAny_bind (wpAny_storeSet_of ho hd ?_ (by rw [hes, sizeLine_eq]; omega))
  have sb : Heap.SameBut a s.heap (s.heap.update a (Obj.putSet es1 t1)) := Heap.SameBut.update ..
  have ho1 := store_at (es' := es1) (t' := t1) ho hd
  generalize s.heap.update a (Obj.putSet es1 t1) = h1 at sb ho1 ⊢
  have W1 : Raw P w h1 a L1 es1 (ep + 1) t1 := ⟨⟨_, ho1, ⟨hex.1, hex.2.1, hex.2.2⟩, rfl⟩, hin, htab, nd1, fun r hr => by
    rcases List.mem_cons.mp (pm.mem_iff.mp hr) with rfl | hr
    · exact isT_same hx ho hd sb
    · exact isT_same (R.tups r hr) ho hd sb, hplain, by rw [hled]; exact R.led⟩
  have full_iff : t1.tooFull = true ↔ ¬ (L.length + 1) * 5 < t1.mask * 3 := by
    unfold SetTable.tooFull
    rw [decide_eq_true_eq, hfill, List.length_map]
    omega
  by_cases hf : t1.tooFull = true
  · first
      | (refine wpAny_bind ?_; refine wp_if_pos (by simp [hf]) ?_)
      | (refine wp_if_pos (by simp [hf]) ?_; refine wpAny_bind ?_)
    obtain ⟨M, g⟩ := masks_grow (m := t1.mask) (by rw [hmsk]; exact R.mks) (by rw [hmsk]; exact hroom) (full_iff.mp hf) few
    obtain ⟨g1, g2, g3, g4, _⟩ := g.size
    rw [hsl]
    refine relay (s := { s with heap := h1 }) W1 (by rw [hlen]; exact g4) g1 g2 (by rw [hlen]; exact g3) fun h2 L2 es2 ep2 t2 sb2 R2 e2 pm2 => ?_
    have hl2 : L2.length = L.length + 1 := pm2.length_eq.trans hlen
    exact wpAny_pure (hQ true h2 L2 es2 ep2 t2 (sb.trans sb2) (R2.full (s := { s with heap := h2 }) (by rw [hl2, e2]; exact g3) (e2 ▸ g.masks)) (fun z => absurd z hm) fun _ => pm2.trans pm)
  · first
      | refine wp_if_neg (by simp [hf]) ?_
      | (refine wpAny_bind ?_; refine wp_if_neg (by simp [hf]) ?_; refine wpAny_pure ?_)
    refine wpAny_pure (hQ true h1 L1 es1 (ep + 1) t1 sb (W1.full (s := { s with heap := h1 }) ?_ (by rw [hmsk]; exact R.mks)) (fun z => absurd z hm) fun _ => pm)
    rw [hlen]
    exact Classical.not_not.mp (fun c => hf (full_iff.mpr c))
end
end QT
end

section
set_option Elab.async false
set_option linter.all false
set_option maxRecDepth 100000
set_option maxHeartbeats 4000000
/-! sorted of tuples of ints, of any lengths from 1 on, any number -/
namespace QT
open PySem L2 PyProof.Rows PySem.Spec
section
variable {prog : Program} {w : World} {A : Around} {E : Value → Shared → Prop} {s : Shared}
theorem lex_run {Q : Bool → Shared → Prop} : ∀ {xs ys : List Value} {ns ms : List Int} (i : Nat) {fin : Bool}, IntsAre xs ns → IntsAre ys ms → fin = decide (ns.length < ms.length) → Q (HT.lexLt ns ms) s →
    PySem.W.KatLex prog w A true fin Q (xs.zip ys) i s
  | _, _, _, _, i, fin, .nil, .nil, hf, h => by subst hf; exact PySem.W.kat_nil h
  | _, _, _, _, i, fin, .nil, .cons m t r, hf, h => by
    have : fin = true := by rw [hf]; simp
    subst this
    exact PySem.W.kat_nil h
  | _, _, _, _, i, fin, .cons n t r, .nil, hf, h => by
    have : fin = false := by rw [hf]; simp
    subst this
    exact PySem.W.kat_nil h
  | _, _, _, _, i, fin, .cons n t r, .cons m u r2, hf, h => by
    rw [HT.lexLt_cons] at h
    refine PySem.W.kat_cons (SeqAt.EqAt.int_int n t m u prog w _ _ (PySem.W.kat_go (fun e => ?_) fun e => ?_))
    · have e1 : n = m := by simpa using e
      rw [if_pos e1] at h
      exact PySem.W.kat_yes (lex_run (i + 1) r r2 (by rw [hf]; simp) h)
    · have e1 : ¬ n = m := by simpa using e
      rw [if_neg e1] at h
      refine PySem.W.kat_no ?_
      cases i with
      | zero => exact oneLt_int h
      | succ i => exact PySem.W.kat_one _ _ (PyProof.Rows.lt_int h)
/-- all are tuples of ints; none is empty -/
def Tups (h : Heap) (vs : List Value) : Prop := ∀ v ∈ vs, ∃ ns, TS.TupInts h v ns ∧ ns ≠ []
theorem Tups.keeps {h h' : Heap} {vs : List Value} (x : Tups h vs) (k : ∀ b o, h.get? b = some o → o.cls = .type "tuple" → h'.get? b = some o) : Tups h' vs := fun v hv =>
  let ⟨ns, t, n⟩ := x v hv
  ⟨ns, t.keeps k, n⟩
/-- the order of the ints that stand there -/
def ltH (h : Heap) (v u : Value) : Bool := HT.lexLt (TS.intsOf h v) (TS.intsOf h u)
theorem ltH_of {h : Heap} {v u : Value} {ns ms : List Int} (x : TS.TupInts h v ns) (y : TS.TupInts h u ms) : ltH h v u = HT.lexLt ns ms := by
  unfold ltH
  rw [x.ints, y.ints]
theorem ltH_keeps {h h' : Heap} {vs : List Value} (x : Tups h vs) (k : ∀ b o, h.get? b = some o → o.cls = .type "tuple" → h'.get? b = some o) {v u : Value} (hv : v ∈ vs) (hu : u ∈ vs) : ltH h' v u = ltH h v u := by
  obtain ⟨ns, t, _⟩ := x v hv
  obtain ⟨ms, y, _⟩ := x u hu
  rw [ltH_of t y, ltH_of (t.keeps k) (y.keeps k)]
theorem swoH (h : Heap) : SrtO.Swo (ltH h) := NtL.swo_lexL _
theorem firsts_int {h : Heap} : ∀ (vs : List Value), Tups h vs → ∃ fs, PySem.W.KatTups h vs fs ∧ fs.length = vs.length ∧ ∀ f ∈ fs, ∃ i t, f = Value.int i t
  | [], _ => ⟨[], PySem.W.KatTups.nil, rfl, fun _ h => nomatch h⟩
  | v :: vs, x => by
    obtain ⟨ns, ⟨a, xs, rfl, ⟨o, ho, hc, n, hd⟩, hi⟩, hne⟩ := x v List.mem_cons_self
    obtain ⟨fs, h1, h2, h3⟩ := firsts_int vs fun u hu => x u (List.mem_cons_of_mem _ hu)
    obtain ⟨l⟩ := xs
    cases hi with
    | nil => exact absurd rfl hne
    | cons m t r =>
      exact ⟨.int m t :: fs, PySem.W.KatTups.cons ho hc hd (by rfl) h1, by rw [List.length_cons, List.length_cons, h2], fun f hf => by
        rcases List.mem_cons.mp hf with rfl | hf
        · exact ⟨m, t, rfl⟩
        · exact h3 f hf⟩
theorem sortable {h₀ : Heap} {a : Addr} {vs : List Value} (x0 : Tups h₀ vs) (h2 : 2 ≤ vs.length) (k0 : ∀ b o, h₀.get? b = some o → b ≠ a ∧ s.heap.get? b = some o) : SrtO.SortableO prog w A s a vs (ltH h₀) := by
  intro h' keep
  have keep' : ∀ b o, h₀.get? b = some o → o.cls = .type "tuple" → h'.get? b = some o := fun b o e _ => keep b o (k0 b o e).1 (k0 b o e).2
  have x := x0.keeps keep'
  obtain ⟨fs, k1, k2, k3⟩ := firsts_int vs x
  refine ⟨tuples' true, fun Q E hq => ?_, ?_⟩
  · refine PySem.W.kat_kind (T := .type "int") k1 (by omega) (fun f hf => ?_) (by rfl) ?_
    · obtain ⟨i, t, rfl⟩ := k3 f hf
      exact PySem.W.Looks.now
    · have e : (Value.type "int" != Value.type "tuple") = true := by decide +kernel
      rw [e]
      exact hq
  · intro p q hp hq
    have hp' : p.1 ∈ vs := hp
    have hq' : q.1 ∈ vs := hq
    show wpAny (model prog w) A (keyLt' (tuples' true) p.1 q.1) (fun r s' => s' = _ ∧ r = ltH h₀ p.1 q.1) (fun _ _ => False) _
    rw [← ltH_keeps x0 keep' hp' hq']
    obtain ⟨ns, t1, _⟩ := x _ hp'
    obtain ⟨ms, t2, _⟩ := x _ hq'
    rw [ltH_of t1 t2]
    obtain ⟨a1, xs, e1, ⟨o1, g1, c1, n1, d1⟩, i1⟩ := t1
    obtain ⟨a2, ys, e2, ⟨o2, g2, c2, n2, d2⟩, i2⟩ := t2
    rw [e1, e2]
    refine PySem.W.kat_lt g1 d1 g2 d2 (lex_run 0 i1 i2 ?_ ⟨rfl, rfl⟩)
    have l1 : xs.size = ns.length := by rw [← Array.length_toList]; exact i1.length
    have l2 : ys.size = ms.length := by rw [← Array.length_toList]; exact i2.length
    rw [l1, l2]
end
end QT
end

section
set_option Elab.async false
set_option linter.all false
set_option maxRecDepth 100000
set_option maxHeartbeats 4000000
/-! set(xs), sorted(set), sorted(xs), len(set) of tuples of ints: as rules of the layer -/
namespace QT
open PySem L2 PyProof.Rows PySem.Spec
section
variable {P : Program} {w : World} {A : Around} {E : Value → Shared → Prop} {s : Shared}
theorem SR.keep {h h' : Heap} {a : Addr} {L : List Row} {es : Array (Int × Value)} {ep : Nat} {t : SetTable} (R : SR P w h a L es ep t) (ha : ∀ o, h.get? a = some o → h'.get? a = some o) (ht : ∀ p ∈ L, IsT P w h' p.2 p.1) : SR P w h' a L es ep t :=
  let ⟨o, ho, r⟩ := R.obj
  ⟨⟨o, ha o ho, r⟩, R.ents, R.tab, R.uniq, ht, R.plain, R.led, R.room, R.mks⟩
abbrev freshTab (w : World) : SetTable := .fresh 0 0 (!w.params.followText "set-order")
abbrev freshSet (w : World) : Obj := { cls := .type "set", dict := none, data := .set #[] 0 (freshTab w) }
theorem sr_fresh {h : Heap} {a : Addr} (ho : h.get? a = some (freshSet w)) : SR P w h a [] #[] 0 (freshTab w) where
  obj := ⟨_, ho, ⟨rfl, rfl, rfl⟩, rfl⟩
  ents := rfl
  tab := ⟨List.Pairwise.nil, rfl, rfl, mok7, fun x hx => (by cases hx), fun i h j hi => (by cases hi)⟩
  uniq := List.nodup_nil
  tups := fun p hp => nomatch hp
  plain := rfl
  led := by
    show _ ∨ (!w.params.followText "set-order") = true
    cases w.params.followText "set-order"
    · exact .inr rfl
    · exact .inl rfl
  room := by show 0 * 5 < 7 * 3; decide
  mks := .inl rfl
/-- set.update's loop over a list's iterator -/
theorem set_loop {I l S : Addr} {items : Array Value} {R : Result → Shared → Prop} (hh : A.in1.handled = none) (hSI : S ≠ I) (hSl : S ≠ l) (hlI : l ≠ I) (ks : List Row) (hit : items.toList = ks.map fun p => Value.ref p.1) (few : ks.length < 4096)
    (h0 : Heap) (hk : ∀ p ∈ ks, IsT P w h0 p.2 p.1) (hS0 : h0.get? S = none) (hI0 : h0.get? I = none) (hu : A.in1.units < cLine) :
    ∀ (k i : Nat) (s : Shared), items.size - i = k → i ≤ items.size → (s.heap.IsListIter I l i ∧ s.heap.IsList l items) → (∀ b o, h0.get? b = some o → s.heap.get? b = some o) → (∃ L es ep t, SR P w s.heap S L es ep t ∧ Got ks i L) →
      (∀ h' tk L es ep t, SR P w h' S L es ep t → Got ks ks.length L → (∀ b o, h0.get? b = some o → h'.get? b = some o) → R (.ok (.ret .none)) { s with heap := h', toks := tk }) →
      codeAny (model P w) A (.builtin "set.update.loop" ⟨[.ref S, .ref I], []⟩) R s := by
  have W := Walks.list (prog := P) (w := w) hh I l hlI items
  have hsz : items.size = ks.length := by rw [← Array.length_toList, hit, List.length_map]
  have keepI : ∀ {h h' : Heap}, (∀ b o, b ∉ [I] → h.get? b = some o → h'.get? b = some o) → (∀ b o, h0.get? b = some o → h.get? b = some o) → ∀ b o, h0.get? b = some o → h'.get? b = some o := fun hm hkp b o e =>
    hm b o (fun z => by rw [List.mem_singleton.mp z, hI0] at e; cases e) (hkp b o e)
  intro k
  induction k with
  | zero =>
    intro i s hk' hi hst hkp ⟨L, es, ep, t, hS, g⟩ hR
    obtain rfl : i = items.size := by omega
    refine codeAny_builtin F.entry_set_update_loop ?_
    rw [Around.under_plainId F.plain_set_update_loop _]
    show wpAny _ A.in1 (pyNext (.ref I) >>= _) _ _ s
    refine wpAny_bind (W.done s _ _ hst fun h' tk hm => ?_)
    refine wpAny_pure (hR h' tk L es ep t (hS.keep (fun o e => hm S o (by simpa using hSI) e) fun p hp => isT_keep (hk p (List.mem_of_mem_take (g.sub p hp))) (keepI hm hkp)) (hsz ▸ g) (keepI hm hkp))
  | succ k ih =>
    intro i s hk' hi hst hkp ⟨L, es, ep, t, hS, g⟩ hR
    refine codeAny_builtin F.entry_set_update_loop ?_
    rw [Around.under_plainId F.plain_set_update_loop _]
    show wpAny _ A.in1 (pyNext (.ref I) >>= _) _ _ s
    refine wpAny_bind (W.item i s _ _ (by omega) hst fun v h1 tk hP hst1 hm => ?_)
    obtain ⟨p, hp, rfl⟩ : ∃ p, ks[i]? = some p ∧ v = Value.ref p.1 := by
      have q : items.toList[i]? = some v := (Array.getElem?_toList).trans hP
      rw [hit, List.getElem?_map] at q
      obtain ⟨p, e1, e2⟩ := Option.map_eq_some_iff.mp q
      exact ⟨p, e1, e2.symm⟩
    have hkp1 := keepI hm hkp
    have hS1 : SR P w h1 S L es ep t := hS.keep (fun o e => hm S o (by simpa using hSI) e) fun q hq => isT_keep (hk q (List.mem_of_mem_take (g.sub q hq))) hkp1
    have hx : IsT P w h1 p.2 p.1 := isT_keep (hk p (List.mem_of_getElem? hp)) hkp1
    show wpAny _ A.in1 (holding [Value.ref p.1] (setAdd S (.ref p.1)) >>= _) _ _ _
    refine wpAny_bind (wpAny_holding ?_)
    unfold setAdd
    refine wpAny_holding (wpAny_bind (wpAny_pyHash_tuple hu hx ?_))
    have hil : i < ks.length := by omega
    refine add (s := { s with heap := h1, toks := tk + (p.2.length + 1) }) hS1 hx hu (by have := g.len; omega) fun b h2 L2 es2 ep2 t2 hsb hS2 c1 c2 => ?_
    have g2 : Got ks (i + 1) L2 := by
      by_cases c : p.2 ∈ L.map (·.2)
      · rw [c1 c]; exact g.same hp c
      · exact g.more hp (c2 c)
    refine wpAny_pure ⟨plainId_quiet F.plain_set_update_loop _, ih (i + 1) _ (by omega) (by omega) ⟨hst1.1.at fun o e => (hsb.2 I (Ne.symm hSI)).trans e, hst1.2.at fun o e => (hsb.2 l (Ne.symm hSl)).trans e⟩
      (fun b o e => (hsb.2 b (fun z => by rw [z, hS0] at e; cases e)).trans (hkp1 b o e)) ⟨L2, es2, ep2, t2, hS2, g2⟩ fun h3 tk3 => ?_⟩
    exact hR h3 tk3
theorem call_set {l : Addr} {items : Array Value} (ks : List Row) {Q : Value → Shared → Prop} (hh : A.handled = none) (hl : s.heap.IsList l items) (hit : items.toList = ks.map fun p => Value.ref p.1) (hk : ∀ p ∈ ks, IsT P w s.heap p.2 p.1) (few : ks.length < 4096) (hu : A.units + 3 < cLine)
    (h : ∀ h' tk L es ep t, SR P w h' s.heap.objs.size L es ep t → Got ks ks.length L → (∀ b o, s.heap.get? b = some o → h'.get? b = some o) → Q (.ref s.heap.objs.size) { s with heap := h', toks := tk }) :
    wpAny (model P w) A (call (.type "set") [.ref l]) Q E s := by
  obtain ⟨c, tl, hmro⟩ := F.called_set.mro
  have hmade := F.called_set.made
  have hsub := F.called_set.sub
  refine wpAny_call (codeAny_of_tree ?_)
  show wpAny _ _ (callAny (.type "set") _) _ _ _
  refine wpAny_pure ⟨Code.quiet_builtin _ (by decide +kernel), codeAny_builtin F.entry_type_call ?_⟩
  rw [Around.under_plain (weight_type_call_type "set" [.ref l] []) rfl]
  have c1 := F.called_set.notType
  have c2 := F.called_set.canCreate
  have c3 := F.typeCall_set_1 (.ref l)
  repeat (any_goals (first | assumption | wp_step))
  refine codeAny_mono (code_set_led1 (.ref l) (E := E) (Q₁ := fun o s₁ => o = .ref s.heap.objs.size ∧ s₁ = { s with heap := s.heap.push (freshSet w) }) ⟨rfl, rfl⟩) fun r s₁ hr => ?_
  cases r with
  | error e => exact hr
  | ok fl =>
    cases fl with
    | next => exact hr.elim
    | brk => exact hr.elim
    | cont => exact hr.elim
    | ret o =>
      obtain ⟨rfl, rfl⟩ := hr
      have hS : (s.heap.push (freshSet w)).get? s.heap.objs.size = some (freshSet w) := Heap.get?_push_size _ rfl
      have hT : Shared.TypeIs { s with heap := s.heap.push (freshSet w) } (.ref s.heap.objs.size) "set" := ⟨_, hS, rfl⟩
      have i1 := F.called_set.init.lookup
      have i2 := F.called_set.init.bind (.ref s.heap.objs.size)
      repeat (any_goals (first | assumption | wp_step))
      refine codeAny_mono (codeAny_call_builtin (R := wants (fun r s₂ => r = .none ∧ ∃ h' tk L es ep t, s₂ = { s with heap := h', toks := tk } ∧ SR P w h' s.heap.objs.size L es ep t ∧ Got ks ks.length L ∧ ∀ b o, s.heap.get? b = some o → h'.get? b = some o) E)
        F.called_set.init.plain F.entry_set_init (check_set_init_1 hT ?_)) fun r₂ s₂ hr₂ => ?_
      · obtain ⟨ol, hol, hcl, nl, hdl⟩ := id hl
        obtain ⟨ocls, odict, odata, oslots⟩ := ol
        simp only at hcl hdl
        subst hcl; subst hdl
        have hol' : (s.heap.push (freshSet w)).get? l = some { cls := .type "list", dict := odict, data := .seq items nl, slots := oslots } := Heap.get?_push_of_some _ hol
        have s1 := F.sub_list_set
        have s2 := F.sub_list_frozenset
        have s3 : (Value.type "list" == Value.type "dict") = false := by decide
        have hl1 : (s.heap.push (freshSet w)).IsList l items := ⟨_, hol', rfl, nl, rfl⟩
        unfold Builtin.«set.__init__» noKeywords Builtin.Frozenset.updateFrom
        generalize hPI : pyIter = PI
        wp_walk
        subst hPI
        refine wpAny_pyIter_list hl1 (wpAny_bind (wpAny_runValue ?_))
        have hlS : l < s.heap.objs.size := Heap.lt_size hol
        have z1 : (s.heap.push (freshSet w)).objs.size = s.heap.objs.size + 1 := Heap.size_push ..
        have new_none : ∀ b, s.heap.objs.size ≤ b → s.heap.get? b = none := fun b hb => Heap.get?_none_of_le hb
        refine set_loop (I := (s.heap.push (freshSet w)).objs.size) (by simp [hh]) (by rw [z1]; exact Nat.ne_of_lt (Nat.lt_succ_self _)) (Nat.ne_of_gt hlS) (by rw [z1]; exact Nat.ne_of_lt (Nat.lt_succ_of_lt hlS)) ks hit few
          s.heap hk (new_none _ (Nat.le_refl _)) (new_none _ (by rw [z1]; exact Nat.le_succ _)) hu (items.size - 0) 0 _ rfl (Nat.zero_le _) ⟨⟨_, Heap.get?_push_size _ rfl, rfl, rfl⟩, hl1.push _⟩
          (fun b o e => Heap.get?_push_of_some _ (Heap.get?_push_of_some _ e)) ⟨[], #[], 0, _, sr_fresh (Heap.get?_push_of_some _ hS), Got.zero ks⟩ fun h' tk L es ep t hS' g' hkp => ?_
        refine wpAny_pure ?_
        show wpAny _ _ (ret Value.none) _ _ _
        exact wpAny_pure ⟨rfl, h', tk, L, es, ep, t, rfl, hS', g', hkp⟩
      · cases r₂ with
        | error e => exact hr₂
        | ok fl₂ =>
          cases fl₂ with
          | next => exact hr₂.elim
          | brk => exact hr₂.elim
          | cont => exact hr₂.elim
          | ret r =>
            obtain ⟨rfl, h', tk, L, es, ep, t, rfl, hS', g', hk'⟩ := hr₂
            repeat (any_goals (first | assumption | wp_step))
            exact h _ _ _ _ _ _ hS' g' hk'
end
end QT
end

section
set_option Elab.async false
set_option linter.all false
set_option maxRecDepth 100000
set_option maxHeartbeats 4000000
namespace QT
open PySem L2 PyProof.Rows PySem.Spec
/-! the rules by values -/
def SetS (P : Program) (w : World) (h : Heap) (a : Addr) (L : List Row) : Prop :=
  ∃ es ep t, (∃ o, h.get? a = some o ∧ o.ExactSet ∧ o.data = .set es ep t) ∧ es.toList = rowsOf P w L ∧ Tab t (hashes P w L) ∧ (L.map (·.2)).Nodup ∧ t.plain = true ∧
    (w.params.followText "set-order" = true ∨ t.led = true) ∧ L.length * 5 < t.mask * 3 ∧ Masks t.mask
def SetO (P : Program) (w : World) (a : Addr) (L : List Row) : HO := .ext fun h => SetS P w h a L
theorem SR.sets {P : Program} {w : World} {h : Heap} {a : Addr} {L : List Row} {es : Array (Int × Value)} {ep : Nat} {t : SetTable} (R : SR P w h a L es ep t) : SetS P w h a L :=
  ⟨es, ep, t, R.obj, R.ents, R.tab, R.uniq, R.plain, R.led, R.room, R.mks⟩
theorem setO_ok {P : Program} {w : World} {H : Hp} {h : Heap} {a : Addr} {L : List Row} (R : SetS P w h a L) : ObjOk P w H h a (SetO P w a L) := by
  obtain ⟨es, ep, t, ⟨o, ho, r⟩, q⟩ := id R
  refine ⟨R, ⟨o, ho⟩, fun h1 h2 p k => ?_⟩
  obtain ⟨es', ep', t', ⟨o', ho', r'⟩, q'⟩ := p
  exact ⟨es', ep', t', ⟨o', k o' ho', r'⟩, q'⟩
/-- the references of rows; each a tuple of its ints -/
abbrev refs (ks : List Row) : List V := ks.map fun p => V.ref p.1
def Rows (K : PySem.W.Frag) (H : Hp) (ks : List Row) : Prop := ∀ p ∈ ks, SqT K H p.1 (p.2.map V.int)
/-- a permutation of a map is a map of a permutation -/
theorem perm_map {α β : Type} {f : α → β} {l : List β} {m : List α} (h : l.Perm (m.map f)) : ∃ m' : List α, m'.Perm m ∧ l = m'.map f := by
  generalize hx : m.map f = x at h
  have go : ∀ {x y : List β}, x.Perm y → ∀ m : List α, m.map f = x → ∃ m' : List α, m'.Perm m ∧ m'.map f = y := by
    intro x y p
    induction p with
    | nil => intro m hm; exact ⟨m, .refl _, hm⟩
    | cons b p ih =>
      intro m hm
      match m, hm with
      | c :: m, hm =>
        rw [List.map_cons, List.cons.injEq] at hm
        obtain ⟨m', p', e'⟩ := ih m hm.2
        exact ⟨c :: m', p'.cons c, by rw [List.map_cons, hm.1, e']⟩
    | swap b c l =>
      intro m hm
      match m, hm with
      | d :: e :: m, hm =>
        rw [List.map_cons, List.map_cons, List.cons.injEq, List.cons.injEq] at hm
        exact ⟨e :: d :: m, .swap .., by rw [List.map_cons, List.map_cons, hm.1, hm.2.1, hm.2.2]⟩
    | trans p q ih1 ih2 =>
      intro m hm
      obtain ⟨m1, p1, e1⟩ := ih1 m hm
      obtain ⟨m2, p2, e2⟩ := ih2 m1 e1
      exact ⟨m2, p2.trans p1, e2⟩
  obtain ⟨m', p', e'⟩ := go h.symm m hx
  exact ⟨m', p', e'.symm⟩
section
variable {X : Cx} {pins : List (Addr × Obj)} {σ : L2.St} {H : Hp} {s : Shared}
theorem tupInts_at (I : Inv X pins σ H s) {b : Addr} {k : List Int} (h : SqT X.K H b (k.map V.int)) : TS.TupInts s.heap (.ref b) k := tupInts_of (P := X.prog) (w := X.w) (I.isT h)
/-- set(xs) -/
def rSet (K : PySem.W.Frag) (P : Program) (w : World) : List V → Hp → VK → Prop := fun xs H Q => ∃ (l : Addr) (ks : List Row), xs = [V.ref l] ∧ SqL K H l (refs ks) ∧ Rows K H ks ∧ ks.length < 4096 ∧
  ∀ a L, H a = none → (∀ p ∈ L, p ∈ ks) → (∀ p ∈ ks, p.2 ∈ L.map (·.2)) → (L.map (·.2)).Nodup → L.length ≤ ks.length → Q (.ref a) (upd H a (SetO P w a L))
theorem cr_set (hc : X.calm = true) (hu : X.A.units + 64 < cLine) : CallR X (.type "set") (rSet X.K X.prog X.w) := by
  intro pins s σ H xs us Q I r h
  obtain ⟨l, ks, rfl, hl, hk, few, q⟩ := h
  rw [Vals.ref1 r]
  obtain ⟨its, rv, pl, hz⟩ := I.list hl
  refine call_set (P := X.prog) (w := X.w) ks (I.ok.hd hc) pl.isList (by simpa using refs_of_vals rv) (fun p hp => I.isT (hk p hp)) few (by omega) fun h' tk L es ep t R g k => ?_
  refine ⟨.ref s.heap.objs.size, _, I.laid (t' := tk) k (Nat.le_refl _) (setO_ok R.sets), rfl, q _ L (I.hok.fresh (Nat.le_refl _)) (fun p hp => List.mem_of_mem_take (g.sub p hp)) (fun p hp => g.all p (by rw [List.take_length]; exact hp)) R.uniq g.len⟩
/-- what a sort leaves of rows -/
structure Sorted (ks ks' : List Row) : Prop where
  perm : ks'.Perm ks
  ord : ks'.Pairwise fun p q => HT.lexLt q.2 p.2 = false
/-- from the sort's words to rows -/
theorem sorted_rows {h : Heap} {ks : List Row} {vs out : List Value} (hp : vs.Perm (ks.map fun p => Value.ref p.1)) (hk : ∀ p ∈ ks, TS.TupInts h (.ref p.1) p.2) (hs : SrtO.Srtd (ltH h) out) (hb : SrtO.Stb (ltH h) out vs) :
    ∃ ks', Sorted ks ks' ∧ out = ks'.map fun p => Value.ref p.1 := by
  obtain ⟨ks', p', e'⟩ := perm_map (hb.perm.trans hp)
  refine ⟨ks', ⟨p', ?_⟩, e'⟩
  have hs' : (ks'.map fun p => Value.ref p.1).Pairwise fun x y => ltH h y x = false := by rw [← e']; exact hs
  refine List.Pairwise.imp_of_mem (fun {p q} mp mq hpq => ?_) (List.pairwise_map.mp hs')
  rw [← ltH_of (hk q (p'.mem_iff.mp mq)) (hk p (p'.mem_iff.mp mp))]
  exact hpq
/-- no empty word where there are two -/
def NoEmpty (ks : List Row) : Prop := 2 ≤ ks.length → ∀ p ∈ ks, p.2 ≠ []
def rSortL (K : PySem.W.Frag) : List V → Hp → VK → Prop := fun vs H Q => ∃ (l : Addr) (ks : List Row), vs = [V.ref l] ∧ SqL K H l (refs ks) ∧ Rows K H ks ∧ NoEmpty ks ∧
  ∀ ks' p, Sorted ks ks' → H p = none → Q (.ref p) (upd H p (.lst (refs ks')))
/-- sorted(xs) -/
theorem cr_sortL : CallR X (.builtin "sorted") (rSortL X.K) := by
  intro pins s σ H vs us Q I r h
  obtain ⟨l, ks, rfl, hl, hk, ne, q⟩ := h
  rw [Vals.ref1 r]
  obtain ⟨its, rv, pl, hz⟩ := I.list hl
  have e := refs_of_vals rv
  subst e
  have len : (ks.map fun p => Value.ref p.1).length = ks.length := List.length_map _
  have hz' : ks.length ≤ sizeLine := by rw [← List.length_map (as := ks) fun p => V.ref p.1]; exact hz
  have tk : ∀ p ∈ ks, TS.TupInts s.heap (.ref p.1) p.2 := fun p hp => tupInts_at I (hk p hp)
  refine SrtO.sorted_ord (swoH s.heap) pl.isList (by rw [len]; exact hz') (fun h2 h₁ a ha kk => ?_) fun out hs hb => ?_
  · refine sortable (h₀ := s.heap) (fun v hv => ?_) h2 fun b o e => kk b o e
    obtain ⟨p, hp, rfl⟩ := List.mem_map.mp hv
    exact ⟨p.2, tk p hp, ne (by rw [← len]; exact h2) p hp⟩
  · obtain ⟨ks', S, eo⟩ := sorted_rows (.refl _) tk hs hb
    have hn : H (s.heap.objs.size + 1) = none := I.hok.fresh (Nat.le_succ _)
    obtain ⟨n, hg⟩ := sortedAll_at s.heap (ks.map fun p => Value.ref p.1) out.toArray
    refine ⟨.ref (s.heap.objs.size + 1), _, I.laid (o := .lst (refs ks')) (t' := s.toks) (fun b o e => sortedAll_old e) (Nat.le_succ _) ⟨?_, out, n, ?_, hg⟩, rfl, q ks' _ S hn⟩
    · rw [List.length_map, S.perm.length_eq]; exact hz'
    · rw [eo]; exact vals_of_refs ks'
/-- sorted(set) -/
def rSortS (K : PySem.W.Frag) (P : Program) (w : World) : List V → Hp → VK → Prop := fun vs H Q => ∃ (a : Addr) (L : List Row), vs = [V.ref a] ∧ H a = some (SetO P w a L) ∧ Rows K H L ∧ NoEmpty L ∧ L.length < 4096 ∧
  ∀ L' p, Sorted L L' → H p = none → Q (.ref p) (upd H p (.lst (refs L')))
theorem cr_sortS (hc : X.calm = true) : CallR X (.builtin "sorted") (rSortS X.K X.prog X.w) := by
  intro pins s σ H vs us Q I r h
  obtain ⟨a, L, rfl, ha, hk, ne, few, q⟩ := h
  have hh := I.ok.hd hc
  obtain ⟨es, ep, t, ⟨o, ho, hex, hd⟩, hents, T, uq, pla, led, room, mks⟩ : SetS X.prog X.w s.heap a L := (I.hok a _ ha).1
  rw [Vals.ref1 r]
  have tkL : ∀ p ∈ L, TS.TupInts s.heap (.ref p.1) p.2 := fun p hp => tupInts_at I (hk p hp)
  have hes := rows_size hents
  refine Calls.call_function_entry kind_sorted plain_sorted entry_sorted (args_sorted1 _) ?_
  unfold Builtin.«sorted»
  refine wpAny_bind (m := checkCount "sorted" 1 1 _) (wpAny_pure ?_)
  refine wpAny_bind (collect_set (A := X.A.in1) hh ⟨o, ho, hex.1, hd⟩ (by rw [hes]; exact fits_of T.len T.none (by omega)) (by unfold scanBound; omega) T.up led fun s1 vs k1 hz g1 o1 pm => ?_)
  have e2 : es.toList.map (·.2) = L.map fun p => Value.ref p.1 := by
    rw [hents]
    unfold rowsOf
    rw [List.map_map] <;> rfl
  rw [e2] at pm
  have lenv : vs.length = L.length := by rw [pm.length_eq, List.length_map]
  have vz : vs.length ≤ sizeLine := by rw [lenv, sizeLine_eq]; omega
  refine wpAny_bind (wpAny_newList ?_ vz)
  have hoL : (s1.heap.push (seqObj "list" vs.toArray 0)).get? s1.heap.objs.size = some (seqObj "list" vs.toArray 0) := Heap.get?_push_size _ rfl
  refine wpAny_bind (wpAny_holding (wpAny_call_entry slot_list_sort ⟨_, hoL, rfl⟩ entry_list_sort (SrtO.list_sort_ord (s := { s1 with heap := s1.heap.push (seqObj "list" vs.toArray 0) }) (swoH s.heap) hoL vz (fun h2 => ?_) fun out hs hb => ⟨_, rfl, ?_⟩) (args_list_sort _)))
  · refine sortable (h₀ := s.heap) (fun v hv => ?_) h2 fun b u e => ⟨Nat.ne_of_lt (Nat.lt_of_lt_of_le (Heap.lt_size e) hz), Heap.get?_push_of_some _ (k1 b u e)⟩
    obtain ⟨p, hp, rfl⟩ := List.mem_map.mp (pm.mem_iff.mp hv)
    exact ⟨p.2, tkL p hp, ne (by rw [← lenv]; exact h2) p hp⟩
  · obtain ⟨L', S, eo⟩ := sorted_rows pm tkL hs hb
    obtain ⟨c, hc'⟩ := sortedHeap_at (vs := vs) (out := out.toArray) hoL
    have keep : ∀ b u, s.heap.get? b = some u → (sortedHeap (s1.heap.push (seqObj "list" vs.toArray 0)) s1.heap.objs.size vs out.toArray).get? b = some u := fun b u e => by
      have hlt := Heap.lt_size (k1 b u e)
      rw [sortedHeap_old (Nat.ne_of_lt hlt) (by rw [size_push']; exact Nat.lt_succ_of_lt hlt)]
      exact Heap.get?_push_of_some _ (k1 b u e)
    have hn : H s1.heap.objs.size = none := I.hok.fresh hz
    refine wpAny_pure ⟨_, rfl, ?_⟩
    have J : Inv X pins σ (upd H s1.heap.objs.size (.lst (refs L'))) { s with heap := sortedHeap (s1.heap.push (seqObj "list" vs.toArray 0)) s1.heap.objs.size vs out.toArray, gens := s1.gens, drawn := s1.drawn, toks := s1.toks } :=
      I.call (ch := []) (Un.laid keep hz hn) (I.hok.laid keep hz ⟨by rw [List.length_map, S.perm.length_eq, sizeLine_eq]; omega, out, c, by rw [eo]; exact vals_of_refs L', hc'⟩) (by rw [g1]; exact I.bare) (fun _ z => nomatch z)
    have es1 : ({ s1 with heap := sortedHeap (s1.heap.push (seqObj "list" vs.toArray 0)) s1.heap.objs.size vs out.toArray } : Shared) = { s with heap := sortedHeap (s1.heap.push (seqObj "list" vs.toArray 0)) s1.heap.objs.size vs out.toArray, gens := s1.gens, drawn := s1.drawn, toks := s1.toks } := by
      cases s1
      cases s
      cases o1
      rfl
    rw [es1]
    exact ⟨.ref _, _, J, rfl, q L' _ S hn⟩
/-- len(set) -/
def rLenSet (P : Program) (w : World) : List V → Hp → VK → Prop := fun vs H Q => ∃ (a : Addr) (L : List Row), vs = [V.ref a] ∧ H a = some (SetO P w a L) ∧ Q (.int L.length) H
theorem cr_lenS : CallR X (.builtin "len") (rLenSet X.prog X.w) := by
  intro pins s σ H vs us Q I r h
  obtain ⟨a, L, rfl, ha, q⟩ := h
  obtain ⟨es, ep, t, ⟨o, ho, hex, hd⟩, hents, T, uq, pla, led, room, mks⟩ : SetS X.prog X.w s.heap a L := (I.hok a _ ha).1
  rw [Vals.ref1 r]
  have hes := rows_size hents
  have hm := T.mask.le
  refine call_len_set ho hex hd (by rw [hes]; exact fits_of T.len T.none (by omega)) (by rw [hes]; omega) ?_
  exact ⟨.int L.length, H, I.tok _, ⟨_, by rw [hes]⟩, q⟩
end
end QT
end

section
set_option Elab.async false
set_option linter.all false
set_option maxRecDepth 100000
set_option maxHeartbeats 4000000
/-! enumerate(tuple) -/
namespace QE
open PySem L2 PyProof.Rows PySem.Spec

theorem meets_enum1 {v : Value} {o : Obj} {B : Heap → Prop} (b : Begins v o B) :
    Meets (Builtin.«enumerate.__new__» ⟨[.type "enumerate", v], []⟩) (fun _ R s => B s.heap ∧
      R (.ok (.ret (.ref (s.heap.push o).objs.size))) { s with heap := (s.heap.push o).push { cls := .type "enumerate", data := .fields #[.none, .bool false, .ref s.heap.objs.size, rawInt 0, .none, .none] } }) :=
  .of_wp fun prog w A R s h => by
    obtain ⟨hp, g, d, tk, os⟩ := s
    obtain ⟨h1, h⟩ := h
    have sub1 := sub_enumerate
    have it1 : ∀ {A' : Around} {E : Value → Shared → Prop} {Q : Value → Shared → Prop}, Q (.ref hp.objs.size) ⟨hp.push o, g, d, tk, os⟩ → wpAny (model prog w) A' (pyIter v) Q E ⟨hp, g, d, tk, os⟩ := fun q => b.iter prog w _ _ _ _ h1 q
    wp_walk using it1
    refine wpAny_stack_any fun st => wpAny_pure ?_
    split
    · rename_i c _ _ _ _ _
      cases (c == Value.type "enumerate")
      · wp_walk using it1
        exact ⟨_, rfl, h⟩
      · wp_walk using it1
        exact ⟨_, rfl, h⟩
    · wp_walk using it1
      exact ⟨_, rfl, h⟩
section
variable {prog : Program} {w : World} {A : Around} {E : Value → Shared → Prop} {s : Shared}
theorem enum_tuple {t : Addr} {items : Array Value} {Q : Value → Shared → Prop} (ht : s.heap.IsTuple t items)
    (h : ∀ h', IsEnum h' (s.heap.objs.size + 1) s.heap.objs.size 0 .none → h'.IsTupleIter s.heap.objs.size t 0 → (∀ b o, s.heap.get? b = some o → h'.get? b = some o) → Q (.ref (s.heap.objs.size + 1)) { s with heap := h' }) :
    wpAny (model prog w) A (call (.type "enumerate") [.ref t]) Q E s := by
  obtain ⟨oi, hoi⟩ : ∃ oi : Obj, oi = { cls := .type "tuple_iterator", data := .fields #[.ref t, .int 0 0] } := ⟨_, rfl⟩
  refine callType_new F.called_enumerate (by decide) (F.typeCall_enumerate_1 _) (F.newCall_enumerate_1 _) (fun obj => F.args_object_init_2 obj _) F.entry_enumerate_new (meets_enum1 (begins_tuple t items)) ⟨ht, ?_⟩
  rw [← hoi]
  have hz : (s.heap.push oi).objs.size = s.heap.objs.size + 1 := Heap.size_push ..
  show _ ∧ _
  obtain ⟨oe, hoe⟩ : ∃ oe : Obj, oe = { cls := .type "enumerate", data := .fields #[.none, .bool false, .ref s.heap.objs.size, rawInt 0, .none, .none] } := ⟨_, rfl⟩
  rw [hz, ← hoe]
  have he : ((s.heap.push oi).push oe).get? (s.heap.objs.size + 1) = some oe := by
    have q := Heap.get?_push_size (s.heap.push oi) (o := oe) (by rw [hoe] <;> rfl)
    rw [hz] at q
    exact q
  exact ⟨⟨_, he, by rw [hoe]⟩, h _ (by rw [hoe] at he; rw [hoe]; exact he) ⟨oi, Heap.get?_push_of_some _ (Heap.get?_push_size _ (by rw [hoi] <;> rfl)), by rw [hoi], by rw [hoi] <;> rfl⟩ fun b o x => Heap.get?_push_of_some _ (Heap.get?_push_of_some _ x)⟩
end
/-- the tuple at a, numbered from 0 -/
def ItE (K : PySem.W.Frag) (a : Addr) : It :=
  ⟨fun i H => ∃ (xs : List V) (x : V), SqT K H a xs ∧ xs[i]? = some x, fun i H v H' => ∃ T x, v = .ref T ∧ H T = none ∧ H' = upd H T (.tup [.int (i : Nat), x]) ∧ ∀ xs, SqT K H a xs → xs[i]? = some x, fun i H => ∃ xs : List V, SqT K H a xs ∧ xs.length = i⟩
theorem tup_apart {s : Shared} {a it : Addr} {i : Nat} {xs : Array Value} (h : IsTup s.heap a xs) (hi : s.heap.IsTupleIter it a i) : a ≠ it := by
  rintro rfl
  obtain ⟨o, ho, hc, _⟩ := h
  obtain ⟨o', ho', hc', _⟩ := hi
  rw [ho] at ho'
  cases ho'
  rw [hc] at hc'
  exact absurd (Value.type.inj hc') (by decide)
theorem turn_enumT {P : Program} {w : World} {K : PySem.W.Frag} {elts : List Expr} {kk : Nat} {tpos : Pos} (a e it : Addr) :
    Turn P w K (.Tuple elts kk tpos) (ItE K a) [e, it] e (fun i h => (∃ old, IsEnum h e it ((i : Nat) : Int) old) ∧ h.IsTupleIter it a i ∧ e ≠ it ∧ a ≠ e ∧ a ≠ it) where
  mem := List.mem_cons_self
  obj := fun i h st b hb => by
    obtain ⟨⟨old, he⟩, ⟨o, ho, hc, hd⟩, _⟩ := st
    rcases List.mem_cons.mp hb with rfl | hb
    · exact ⟨_, he, fun v q => nomatch q⟩
    · rw [List.mem_singleton.mp hb]
      exact ⟨o, ho, fun v q => by rw [hd] at q; cases q⟩
  keep := fun i h h' st k =>
    let ⟨⟨old, he⟩, hi, r⟩ := st
    ⟨⟨old, k e List.mem_cons_self _ he⟩, hi.at fun o q => k it (List.mem_cons_of_mem _ List.mem_cons_self) o q, r⟩
  item := by
    intro X hP hw hK hc i pins s σ H E I hf st hg
    subst hP hw hK
    obtain ⟨⟨old, he⟩, hit, hne, hae, hai⟩ := st
    obtain ⟨xs, x, hq, hx⟩ := hg
    obtain ⟨its, rv, p, hz⟩ := I.tuple hq
    obtain ⟨u, hu, ru⟩ := rv.get hx
    have hel : e < s.heap.objs.size := Heap.lt_size he
    have hil : it < s.heap.objs.size := let ⟨_, q, _⟩ := hit; Heap.lt_size q
    have hfin : X.A.in1.handled = none := by simp [I.ok.hd hc]
    have hlt : i < its.length := (List.getElem?_eq_some_iff.mp hu).1
    refine wpAny_pyNext_enum_itemC (Draws.tuple hfin it a hai its.toArray) he ⟨hit, p⟩ (by simpa using hlt) hne (by simp [hne, Ne.symm hae]) fun y h' tk hy ho hst hT hsz hk => ?_
    have ey : y = u := by
      have q : its.toArray[i]? = some u := by simpa using hu
      exact Option.some.inj (hy.symm.trans q)
    subst ey
    refine ⟨_, rfl, wpAny_letOwnedTupleGo_enum (s := { s with heap := h', toks := tk + 1 }) ho fun h2 he' sb => ?_⟩
    have hT2 : h2.get? s.heap.objs.size = some { cls := .type "tuple", data := .seq #[.int i tk, y] } := (sb.2 _ (Nat.ne_of_gt hel)).trans hT
    have new : ObjOk X.prog X.w (upd H s.heap.objs.size (.tup [.int (i : Nat), x])) h2 s.heap.objs.size (.tup [.int (i : Nat), x]) :=
      ⟨show 2 ≤ sizeLine by decide, [.int i tk, y], .cons ⟨_, rfl⟩ (.cons ru .nil), ⟨_, hT2, rfl, _, rfl⟩⟩
    have I2 : Inv X pins σ (upd H s.heap.objs.size (.tup [.int (i : Nat), x])) { s with heap := h2, toks := tk + 1 } :=
      I.turnedNew (ch := [e, it]) (fun b ob hb q => (sb.2 b (fun z => hb (by simp [z]))).trans (hk b ob (fun z => hb (by simp [z])) (fun z => hb (by simp [z])) q)) hf (Nat.le_refl _) new
    refine ⟨.ref s.heap.objs.size, _, I2, rfl, ⟨_, x, rfl, I.hok.fresh (Nat.le_refl _), rfl, fun ys hy2 => by rw [I.tuple_inj hy2 hq]; exact hx⟩, ⟨⟨y, ?_⟩, hst.1.at fun o q => (sb.2 it (Ne.symm hne)).trans q, hne, hae, hai⟩, fun b hb => ?_⟩
    · rw [show ((i + 1 : Nat) : Int) = (i : Int) + 1 by omega]
      exact he'
    · have hb' : b < s.heap.objs.size := by
        rcases List.mem_cons.mp hb with rfl | hb
        · exact hel
        · rw [List.mem_singleton.mp hb]; exact hil
      rw [upd_ne (Nat.ne_of_lt hb')]
      exact (hf b hb).1
  done := by
    intro X hP hw hK hc i pins s σ H E I hf st hg
    subst hP hw hK
    obtain ⟨⟨old, he⟩, hit, hne, hae, hai⟩ := st
    obtain ⟨xs, hq, hx⟩ := hg
    obtain ⟨its, rv, p, hz⟩ := I.tuple hq
    obtain ⟨f0, f1, f2, f3, f4, f5⟩ := hf it (List.mem_cons_of_mem _ List.mem_cons_self)
    have hl : its.toArray.size = i := by rw [List.size_toArray, ← rv.length]; exact hx
    have hfin : X.A.in1.handled = none := by simp [I.ok.hd hc]
    subst hl
    exact wpAny_pyNext_enum_endD (Draws.tuple hfin it a hai its.toArray) he ⟨hit, p⟩ fun h' eb => ⟨rfl, I.turned (t' := s.toks) (fun b o hb q => eb b o hb q) f0 f1 f3 f4 f5⟩
  self := fun A i s Q E st h => let ⟨⟨_, he⟩, _⟩ := st; wpAny_pyIter_enum he h
def iEnumT (K : PySem.W.Frag) (ta : TA) : TI := fun σ H R => ta σ H fun vs H1 => ∃ a xs, vs = [.ref a] ∧ SqT K H1 a xs ∧ R (ItE K a) H1
theorem pi_enumT {X : Cx} {e : Expr} {ta : TA} {p pos tpos : Pos} {elts : List Expr} {kk : Nat} (hg : Gl X "enumerate") (hm : X.mg "enumerate" = none) (ha : PA X [e] ta) (hs : starEach [e] X.env = [(false, eval e X.env)] := by rfl) :
    PI X (.Tuple elts kk tpos) (.Call (.Name "enumerate" p) [e] [] pos) (iEnumT X.K ta) := by
  refine ⟨fun pins s σ H R I h => Call_ (ld_blt I hg hm boot_enumerate (PyProof.Rows.callWith_type1 (thn (ha.run pos pins s σ H _ I h) ?_) hs rfl))⟩
  rintro us s1 ⟨vs, H1, I1, r1, a, xs, rfl, hq, q⟩
  rw [Vals.ref1 r1]
  obtain ⟨its, rv, pt, hz⟩ := I1.tuple hq
  refine enum_tuple pt fun h' he hit hk => wpAny_pyIter_enum he ?_
  have I2 : Inv X pins σ H1 { s1 with heap := h' } := I1.kept (t' := s1.toks) hk
  have al : a < s1.heap.objs.size := let ⟨_, q, _⟩ := pt; Heap.lt_size q
  refine ⟨s1.heap.objs.size + 1, [s1.heap.objs.size + 1, s1.heap.objs.size], _, _, H1, rfl, I2, turn_enumT a _ s1.heap.objs.size, ⟨⟨.none, he⟩, hit, Nat.succ_ne_self _, Nat.ne_of_lt (Nat.lt_succ_of_lt al), Nat.ne_of_lt al⟩, fun b hb => ?_, q⟩
  have hle : s1.heap.objs.size ≤ b := by
    rcases List.mem_cons.mp hb with rfl | hb
    · exact Nat.le_succ _
    · rw [List.mem_singleton.mp hb]; exact Nat.le_refl _
  exact I1.fpOk hle (I1.hok.fresh hle)
theorem walk_enumT {K : PySem.W.Frag} {a : Addr} {xs : List V} : Walk (ItE K a) xs.length (fun H => SqT K H a xs) (YPair (fun i => some (.int (i : Nat))) (fun i => xs[i]?)) where
  goes := fun i H hi h => ⟨xs, xs[i], h, List.getElem?_eq_getElem hi⟩
  stops := fun H h => ⟨xs, h, rfl⟩
  yields := fun i H x H' _ h ⟨T, y, e, n, eH, f⟩ => ⟨T, .int (i : Nat), y, e, n, eH, rfl, f xs h⟩
end QE
end

section
set_option Elab.async false
set_option linter.all false
set_option maxRecDepth 100000
set_option maxHeartbeats 4000000
/-! t[::-1] of a tuple, t * 1, list(d.keys()) of a dict with tuple keys -/
namespace QU
open PySem L2 PyProof.Rows PySem.Spec
section
variable {prog : Program} {w : World} {A : Around} {E : Value → Shared → Prop} {s : Shared}
theorem filterMap_some {α β : Type} {f : α → Option β} {g : α → β} : ∀ {l : List α}, (∀ x ∈ l, f x = some (g x)) → l.filterMap f = l.map g
  | [], _ => rfl
  | x :: l, h => by rw [List.filterMap_cons_some (h x List.mem_cons_self), List.map_cons, filterMap_some fun y hy => h y (List.mem_cons_of_mem _ hy)]
theorem pick_back (xs : Array Value) : ((List.range xs.size).filterMap fun (m : Nat) => xs[(((xs.size : Int) - 1) + (m : Int) * (-1)).toNat]?) = xs.toList.reverse := by
  apply List.ext_getElem?
  intro i
  have e : ((List.range xs.size).filterMap fun (m : Nat) => xs[(((xs.size : Int) - 1) + (m : Int) * (-1)).toNat]?) = (List.range xs.size).map fun m => xs.toList.getD (xs.size - 1 - m) .none := by
    refine filterMap_some fun m hm => ?_
    have hm' := List.mem_range.mp hm
    have h1 : (((xs.size : Int) - 1) + (m : Int) * (-1)).toNat = xs.size - 1 - m := by omega
    have h2 : xs.size - 1 - m < xs.size := by omega
    rw [h1, Array.getElem?_eq_getElem h2]
    rw [List.getD_eq_getElem?_getD, Array.getElem?_toList, Array.getElem?_eq_getElem h2] <;> rfl
  rw [e, List.getElem?_map]
  by_cases hi : i < xs.size
  · rw [List.getElem?_range hi, List.getElem?_reverse (by rw [Array.length_toList]; exact hi), Array.length_toList]
    have h2 : xs.size - 1 - i < xs.size := by omega
    show some (xs.toList.getD (xs.size - 1 - i) Value.none) = _
    rw [List.getD_eq_getElem?_getD, Array.getElem?_toList, Array.getElem?_eq_getElem h2] <;> rfl
  · rw [List.getElem?_eq_none (by rw [List.length_range]; omega), List.getElem?_eq_none (by rw [List.length_reverse, Array.length_toList]; omega)] <;> rfl
theorem getItem_tuple_back {t sl : Addr} {items : Array Value} {vl vu vs : Value} {Q : Value → Shared → Prop} (ht : IsTup s.heap t items) (hs : s.heap.IsSliceOf sl vl vu vs) (pl : IsPart vl none) (pu : IsPart vu none) (ps : IsPart vs (some (-1)))
    (h : Q (.ref s.heap.objs.size) { s with heap := s.heap.push { cls := .type "tuple", data := .seq items.toList.reverse.toArray } }) (hsz : items.size ≤ sizeLine) : wpAny (model prog w) A (getItem (.ref t) (.ref sl)) Q E s := by
  have hok : sizeOk (.seq items.toList.reverse.toArray) := by
    show items.toList.reverse.toArray.size ≤ sizeLine
    rw [List.size_toArray, List.length_reverse, Array.length_toList]
    exact hsz
  obtain ⟨os, hos, hcs, hds⟩ := id hs
  have hTs : s.TypeIs (.ref sl) "slice" := ⟨os, hos, hcs⟩
  unfold getItem
  try with_reducible refine wpAny_holding ?_
  first | refine wpAny_bind (wpAny_pure ?_) | skip
  refine wpAny_bind (wpAny_sequenceKey ht.typeIs (by decide) ?_)
  refine wpAny_bind (wpAny_callSpecial?_slot (name := Str.ofString "__getitem__") ht.typeIs PyProof.Rows.slot_tuple_getitem
    (wpAny_call_entry PyProof.Rows.slot_tuple_getitem ht.typeIs entry_tuple_getitem ?_ (args_tuple_getitem _ _)))
  show wpAny _ _ (Builtin.Tuple.tupleItemsOf (.ref t) >>= _) _ _ s
  refine wpAny_bind (tupleItemsOf_ ht (wpAny_bind (wpAny_typeOf hTs ?_)))
  rw [if_pos (by decide)]
  refine wpAny_bind (m := Builtin.Slice.sliceApplied (.ref sl) (pure (items.size : Int))) ?_
  unfold Builtin.Slice.sliceApplied Builtin.Slice.sliceFields
  refine wpAny_bind (wpAny_bind (wpAny_field hos hds (x := vl) rfl (wpAny_bind (wpAny_field hos hds (x := vu) rfl (wpAny_bind (wpAny_field hos hds (x := vs) rfl (wpAny_pure ?_)))))))
  refine wpAny_bind (HT.slicePart_ ps ?_)
  show wpAny _ _ (if ((-1 : Int) == 0) = true then _ else _) _ _ s
  rw [if_neg (by decide)]
  refine wpAny_bind (HT.slicePart_ pl (wpAny_bind (HT.slicePart_ pu (wpAny_bind (wpAny_pure ?_)))))
  have e1 : Builtin.Slice.sliceAdjust none none (-1) (items.size : Int) = ((items.size : Int) - 1, -1) := rfl
  have e2 : Builtin.Slice.slicePlaces ((items.size : Int) - 1) (-1) (-1) = items.size := by
    unfold Builtin.Slice.slicePlaces
    rw [if_neg (by decide)]
    by_cases hz : items.size = 0
    · rw [hz] <;> rfl
    · rw [if_pos (by omega), show (-(-1) : Int) = 1 from rfl, Int.ediv_one]
      omega
  show wpAny _ _ (match Builtin.Slice.sliceAdjust none none (-1) (items.size : Int) with | (lo, hi) => pure (lo, (-1 : Int), Builtin.Slice.slicePlaces lo hi (-1))) _ _ s
  rw [e1]
  show wpAny _ _ (pure ((items.size : Int) - 1, (-1 : Int), Builtin.Slice.slicePlaces ((items.size : Int) - 1) (-1) (-1))) _ _ s
  rw [e2]
  refine wpAny_pure ?_
  show wpAny _ _ (if (((items.size : Int) - 1) == 0 && (-1 : Int) == 1 && items.size == items.size) = true then _ else _) _ _ s
  rw [if_neg (by simp), pick_back]
  first
    | exact wpAny_bind (m := Builtin.Tuple.tupleExact _) (wpAny_newObj_type (wpAny_pure ⟨_, rfl, wpAny_pure h⟩) hok)
    | exact wpAny_bind (m := Builtin.Tuple.tupleExact _) (wpAny_newObj_type (wpAny_bind (wpAny_pure (wpAny_pure ⟨_, rfl, wpAny_pure h⟩))) hok)
end
def tRevT (K : PySem.W.Frag) (te : TE) : TE := fun σ H Q => te σ H fun x H1 => ∃ a xs, x = .ref a ∧ SqT K H1 a xs ∧ ∀ p, H1 p = none → Q (.ref p) (upd H1 p (.tup xs.reverse))
section
variable {X : Cx}
theorem pe_revT {e : Expr} {te : TE} {k : Nat} {p1 p2 p3 pos : Pos} (he : PE X e te) : PE X (.Subscript e (.Slice none none (some (.UnaryOp .USub (.Constant (.int 1) k p1) p2)) p3) pos) (tRevT X.K te) := by
  refine ⟨fun pins s σ H Q I h => Subscript_ (thn (he.run pins s σ H _ I h) ?_)⟩
  rintro v s1 ⟨x, H1, I1, r1, a, xs, rfl, hx, q⟩
  cases r1
  have step : PO X (some (.UnaryOp .USub (.Constant (.int 1) k p1) p2)) (tPart (tUn (rU fun i => .int (-i)) (tC (.int 1)))) := po_some (pe_un un_neg pe_int)
  refine wpAny_Slice (thn (po_none.run pins s1 σ H1 (fun o H2 => o = none ∧ H2 = H1) I1 ⟨rfl, rfl⟩) ?_)
  rintro vl s2 ⟨l, H2, I2, pl, rfl, rfl⟩
  refine thn (po_none.run pins s2 σ H2 (fun o H3 => o = none ∧ H3 = H2) I2 ⟨rfl, rfl⟩) ?_
  rintro vu s3 ⟨u, H3, I3, pu, rfl, rfl⟩
  refine thn (step.run pins s3 σ H3 (fun o H4 => o = some (-1) ∧ H4 = H3) I3 ⟨1, rfl, -1, rfl, rfl, rfl⟩) ?_
  rintro vs s4 ⟨o, H4, I4, ps, rfl, rfl⟩
  have I5 : Inv X pins σ H4 { s4 with heap := s4.heap.push { cls := .type "slice", data := .fields #[vl, vu, vs] } } := I4.kept (t' := s4.toks) fun b ob q => Heap.get?_push_of_some _ q
  obtain ⟨its, r, ht, hz⟩ := I5.tuple hx
  have hlen := r.length
  show wpAny (model X.prog X.w) X.A (subscriptTail e (.Slice none none (some (.UnaryOp .USub (.Constant (.int 1) k p1) p2)) p3) (.ref a) (.ref s4.heap.objs.size)) (EP X pins σ Q) X.xe _
  refine tail_any (ops := [.ref a, .ref s4.heap.objs.size]) ht.typeIs (PyProof.Rows.slot_tuple_getitem.lookup) ?_ (by with_unfolding_all rfl)
  refine getItem_tuple_back ht (Heap.IsSliceOf.new _ vl vu vs) pl pu ps ?_ (by rw [List.size_toArray]; omega)
  refine ⟨.ref _, _, I5.laid (t' := s4.toks) (o := .tup xs.reverse) (fun b ob q => Heap.get?_push_of_some _ q) (Nat.le_refl _) ?_, rfl, q _ (I5.hok.fresh (Nat.le_refl _))⟩
  exact ⟨by rw [List.length_reverse]; exact hz, _, by simpa using r.reverse, IsTup.new _ _⟩
/-- t * 1: the same tuple -/
theorem tuple_mul1 (l : Addr) (items : Array Value) (n : Nat) (dd : Option Addr) (sl : Array (Option Value)) (u : Tok) :
    Meets (Builtin.«tuple.__mul__» ⟨[.ref l, .int 1 u], []⟩) (fun _ R s => s.heap.get? l = some { cls := .type "tuple", dict := dd, data := .seq items n, slots := sl } ∧ R (.ok (.ret (Value.ref l))) s) :=
  .of_wp fun prog w A R s h => by
    obtain ⟨hp, g, d, tk, os⟩ := s
    obtain ⟨hl, h⟩ := h
    have f1 := AutoSeq1.idx_int
    have c0 : (decide ((1 : Int) < -(2 ^ 63)) || decide ((1 : Int) ≥ 2 ^ 63)) = false := by decide
    have c1 : (items.isEmpty || (1 : Int) == 1) = true := by simp
    wp_walk using wpAny_loadPart' hl
    repeat (first
      | (refine wpAny_ite_false (decide_eq_false (by rw [c0]; exact Bool.false_ne_true)) ?_; wp_walk using wpAny_loadPart' hl)
      | (refine wpAny_ite_true (decide_eq_true (by rw [c1])) ?_; wp_walk using wpAny_loadPart' hl))
    exact ⟨_, rfl, h⟩
def rRepT1 (K : PySem.W.Frag) : R2 := fun x y H Q => ∃ l xs, x = .ref l ∧ y = .int 1 ∧ SqT K H l xs ∧ Q (.ref l) H
theorem op_repT1 : OpR X (binaryOp .Mult) (rRepT1 X.K) := by
  intro pins s σ H x y v u Q I rx ry h
  obtain ⟨l, xs, rfl, rfl, hT, q⟩ := h
  cases rx
  obtain ⟨t, rfl⟩ := ry
  obtain ⟨its, r, ⟨⟨cls, dd, data, sl⟩, ho, hc, n, hd⟩, hs⟩ := I.tuple hT
  simp only at hc hd
  subst hc hd
  refine wpAny_binaryOp_repeat_ref (T := "tuple") (U := "int") (by decide) ⟨_, ho, rfl⟩ (fun s' => typeIs_int s' 1 t) noFill_tuple_mul F.fills_int_mul F.slot_int_rmul repeat_tuple F.slot_int_index.lookup
    (call_meets F.slot_int_rmul (typeIs_int s 1 t) F.entry_int_rmul (F.args_int_rmul_2 _ _) (int_rmul_tuple 1 t l its.toArray n dd sl)
      ⟨ho, rfl, ⟨_, ho, rfl⟩, call_meets F.slot_tuple_mul ⟨_, ho, rfl⟩ F.entry_tuple_mul (F.args_tuple_mul_2 _ _) (tuple_mul1 l its.toArray n dd sl t) ⟨ho, ?_⟩⟩)
  exact ⟨.ref l, H, I, rfl, q⟩
end
end QU
end

section
set_option Elab.async false
set_option linter.all false
set_option maxRecDepth 100000
set_option maxHeartbeats 4000000
/-! d.keys() and list(d.keys()) of a dict with tuple keys; == by an own __eq__ -/
namespace QK
open PySem L2 PyProof.Rows PySem.Spec
open PySem.W (KdlSrc KdlKeysView kdl_call)
def keysO (p d : Addr) : HO := .ext fun h => KdlKeysView h p d
section
variable {X : Cx} {pins : List (Addr × Obj)} {σ : L2.St} {H : Hp} {s : Shared}
theorem dict_raw (I : Inv X pins σ H s) {d : Addr} {kvs : List (List Key × V)} (h : H d = some (.dT kvs)) :
    (d == sysModules) = false ∧ ∃ ks es ep, KT H kvs ks ∧ s.heap.DictRaw d es ep ∧ es.toList = ks.map (entryOfKey (tupleKind (mixKind X.prog X.w))) ∧ kvs.length ≤ sizeLine := by
  obtain ⟨z, hs, ks, pr, o, es, ep, ho, hx, hdt, he, hn⟩ := (show ObjOk X.prog X.w H s.heap d (.dT kvs) from I.hok d _ h)
  exact ⟨hs, ks, es, ep, pr, ⟨o, ho, hx, hdt⟩, he, z⟩
def rKeysT : V → List V → Hp → VK → Prop := fun x xs H Q => ∃ (a : Addr) (kvs : List (List Key × V)), x = .ref a ∧ xs = [] ∧ H a = some (.dT kvs) ∧ ∀ p, H p = none → Q (.ref p) (upd H p (keysO p a))
theorem mt_keysT : MtR X "dict.keys" rKeysT := by
  intro pins s σ H x xs v us Q I rx rxs h
  obtain ⟨a, kvs, rfl, rfl, ha, q⟩ := h
  cases rx
  cases rxs
  obtain ⟨hd, ks, es, ep, _, raw, _⟩ := dict_raw I ha
  refine call_meetsIn PySem.F.slot_dict_keys raw.typeIs PySem.F.entry_dict_keys (PySem.F.args_dict_keys_1 _) (meets_dict_keys_raw a hd) ⟨⟨es, ep, raw⟩, ?_⟩
  have ok : ObjOk X.prog X.w (upd H s.heap.objs.size (keysO s.heap.objs.size a)) (s.heap.push { cls := .type "dict_keys", data := .fields #[.ref a] }) s.heap.objs.size (keysO s.heap.objs.size a) :=
    ⟨⟨_, Heap.get?_push_size _ rfl, rfl, rfl⟩, ⟨_, Heap.get?_push_size _ rfl⟩, fun h1 h2 x k => let ⟨o, ho, r⟩ := x; ⟨o, k o ho, r⟩⟩
  exact ⟨.ref s.heap.objs.size, _, I.laid (t' := s.toks) (fun b u e => Heap.get?_push_of_some _ e) (Nat.le_refl _) ok, rfl, q _ (I.hok.fresh (Nat.le_refl _))⟩
/-- list(view): the keys' tuples, in order -/
theorem call_list_keysT (hc : X.calm = true) : CallR X (.type "list") (fun xs H Q => ∃ v d kvs, xs = [V.ref v] ∧ H v = some (keysO v d) ∧ H d = some (.dT kvs) ∧ ∀ p bs, H p = none → IsKeys H kvs bs → Q (.ref p) (upd H p (.lst (bs.map V.ref)))) := by
  intro pins s σ H xs us Q I r h
  obtain ⟨v, d, kvs, rfl, hv, hd, q⟩ := h
  rw [Vals.ref1 r]
  obtain ⟨hs, ks, es, ep, pr, raw, he, z⟩ := dict_raw I hd
  have view : KdlKeysView s.heap v d := (I.hok v _ hv).1
  have l1 : es.size = ks.length := size_of_entries he
  have l2 : kvs.length = ks.length := Paired.length pr
  refine kdl_call KdlSrc.rawKeys (I.ok.hd hc) ⟨view, raw⟩ (by omega) fun h' tk acc c kp e it => ?_
  have ea : acc.toList = (ks.map fun x => x.2.1).map Value.ref := by
    rw [List.map_map]
    apply List.ext_getElem?
    intro j
    rw [List.getElem?_map, Array.getElem?_toList]
    by_cases hj : j < es.size
    · have hja : j < acc.size := by rw [it.1]; exact hj
      obtain ⟨hi, hv2⟩ := it.2 j acc[j] (Array.getElem?_eq_getElem hja)
      have hk : ks[j]? = some (ks[j]'(by omega)) := List.getElem?_eq_getElem (by omega)
      have qe := entry_at he j
      rw [Array.getElem?_eq_getElem hj, hk] at qe
      have e2 : es[j] = entryOfKey (tupleKind (mixKind X.prog X.w)) (ks[j]'(by omega)) := Option.some.inj qe
      rw [Array.getElem?_eq_getElem hja, hk, hv2, e2] <;> rfl
    · rw [Array.getElem?_eq_none (by rw [it.1]; omega), List.getElem?_eq_none (by omega)] <;> rfl
  refine ⟨.ref s.heap.objs.size, _, I.laid (t' := tk) (o := .lst ((ks.map fun x => x.2.1).map V.ref)) kp (Nat.le_refl _) ⟨?_, acc.toList, c, ?_, by rw [Array.toArray_toList]; exact e⟩, rfl, q _ _ (I.hok.fresh (Nat.le_refl _)) (isKeys_of pr)⟩
  · rw [List.length_map, List.length_map]; omega
  · rw [ea]; exact vals_refs _
/-- x == y of two instances by the class's own __eq__, whatever it answers -/
def rEqO (C : Addr) (sp : Sp) (E : XK) : R2 := fun x y H Q => ∃ a b dx dy fs gs, x = .ref a ∧ y = .ref b ∧ H a = some (.ins C dx fs) ∧ H b = some (.ins C dy gs) ∧ sp [.ref a, .ref b] H (fun v H' => ∃ k, v = .bl k ∧ Q (.bl k) H') E
theorem op_eqO {n : Nat} {CX : CXT} {C f : Addr} {fd : FuncData} {ps : List Str} {sp : Sp} {E : XK} (F : FnOk X.prog X.w X.K X.mg X.base CX n f fd ps sp) (hr : Room n X.A)
    (hs : PySem.W.findIn X.K (.ref C) "__eq__" = some (some (.ref f))) (hf : PySem.W.isFn X.K (.ref f) = true) (hb : Binds X.K fd ps []) (hx : Passes CX X E) : OpR X (compareOp .Eq) (rEqO C sp E) := by
  intro pins s σ H x y v u Q I rx ry hq
  obtain ⟨a, b, dx, dy, fs, gs, rfl, rfl, ha, hb', hsp⟩ := hq
  cases rx
  cases ry
  obtain ⟨mA, J, _⟩ := ins_get I.hok ha
  obtain ⟨mB, J', _⟩ := ins_get I.hok hb'
  obtain ⟨od, J, _⟩ := J.look
  obtain ⟨od', J', _⟩ := J'.look
  obtain ⟨m, hF⟩ := I.fr
  show wpAny (model X.prog X.w) X.A (richCompare .Eq (.ref a) (.ref b)) (EP X pins σ Q) X.xe s
  refine PySem.W.cmp_K (op := .Eq) (tb := .ref C) hr.units0 hF I.ok.mod.kin J J'.type (by simp [PySem.W.notFirst]) hs hf ?_
  have hl := F.len _ _ _ _ hsp
  refine wpAny_call (codeAny_mono (F.run X.A X.stack s H ⟨[.ref a, .ref b], []⟩ [.ref a, .ref b] [.ref a, .ref b] _ E hr I.env0 (by
    have := hb s [.ref a, .ref b] I.kIn (by simpa using hl)
    simpa using this) (.cons rfl (.cons rfl .nil)) hsp) fun r s' hq => ?_)
  cases r with
  | error e => exact hx pins σ H s e s' I hq
  | ok fl =>
    cases fl with
    | ret w =>
      obtain ⟨z, H', I', rz, k, ez, ex⟩ := I.after hq
      subst ez
      cases rz
      exact ⟨.bl k, H', I', rfl, ex⟩
    | next => exact False.elim hq
    | brk => exact False.elim hq
    | cont => exact False.elim hq
end
end QK
end

section
set_option Elab.async false
set_option linter.all false
set_option maxRecDepth 100000
set_option maxHeartbeats 4000000
/-! list(zip(t, u)) of two tuples -/
namespace QZ
open PySem L2 PyProof.Rows PySem.Spec
theorem zip_nolen : typeLookup (.type "zip") "__len__" = pure none := am_miss_of_fast (by decide +kernel)
theorem zip_nohint : typeLookup (.type "zip") "__length_hint__" = pure none := am_miss_of_fast (by decide +kernel)
section
variable {prog : Program} {w : World} {A : Around} {E : Value → Shared → Prop} {s : Shared}
/-- next while the first tuple is still out -/
theorem held_item {z TI TO T i1 i2 l1 l2 : Addr} {f : Bool} {oT : Obj} {k : Nat} {xs ys : Array Value} {x y : Value} {Q : Option Value → Shared → Prop} (D : ZipApart z TI TO i1 i2 l1 l2)
    (hz : IsZipHeld s.heap z TI TO T f) (hT : s.heap.get? T = some oT) (hTI : IsPair s.heap TI (.ref i1) (.ref i2))
    (h1 : s.heap.IsTupleIter i1 l1 k) (h2 : s.heap.IsTupleIter i2 l2 k) (hl1 : s.heap.IsTuple l1 xs) (hl2 : s.heap.IsTuple l2 ys) (hx : xs[k]? = some x) (hy : ys[k]? = some y)
    (hQ : ∀ h', IsZipHeld h' z TI TO T true → h'.IsTupleIter i1 l1 (k + 1) → h'.IsTupleIter i2 l2 (k + 1) → IsPair h' s.heap.objs.size x y → h'.objs.size = s.heap.objs.size + 1 →
      (∀ c o, c ≠ z → c ≠ i1 → c ≠ i2 → s.heap.get? c = some o → h'.get? c = some o) → Q (some (.ref s.heap.objs.size)) { s with heap := h' }) :
    wpAny (model prog w) A (pyNext (.ref z)) Q E s := by
  have hTy : s.TypeIs (.ref z) "zip" := ⟨_, hz, rfl⟩
  unfold pyNext
  refine wpAny_bind (wpAny_attempt (wpAny_callSpecial?_slot (name := Str.ofString "__next__") hTy F.slot_zip_next (wpAny_call_entry F.slot_zip_next hTy F.entry_zip_next ?_ (F.args_zip_next_1 _))))
  show wpAny _ _ (field (.ref z) 2 >>= _) _ _ _
  refine wpAny_bind (wpAny_field hz rfl (x := .bool false) rfl ?_)
  show wpAny _ _ (field (.ref z) 3 >>= _) _ _ _
  refine wpAny_bind (wpAny_field hz rfl (x := .ref TI) rfl (wpAny_bind (wpAny_seqItems hTI rfl ?_)))
  show wpAny _ _ (Builtin.SmallTypes.ownedTupleIsFree (.ref z) >>= _) _ _ _
  refine wpAny_bind (wpAny_tupleHeld_zip hz hT fun ha za sa => ?_)
  simp only [Bool.false_eq_true, if_false]
  refine wpAny_bind ?_
  rw [← Array.forIn_toList]
  simp only [List.forIn_cons, List.forIn_nil]
  refine wpAny_bind (wpAny_bind (wpAny_holding ?_))
  show wpAny _ _ (Builtin.SmallTypes.nextOf (.ref i1) >>= _) _ _ _
  refine wpAny_bind (RZ.nextOf_tuple_item (s := { s with heap := ha }) (h1.extBut sa.extBut D.i1z) (hl1.extBut sa.extBut D.l1z) hx fun hb b1 sb => wpAny_pure (wpAny_pure ?_))
  refine wpAny_bind (wpAny_bind (wpAny_holding ?_))
  show wpAny _ _ (Builtin.SmallTypes.nextOf (.ref i2) >>= _) _ _ _
  refine wpAny_bind (RZ.nextOf_tuple_item (s := { s with heap := hb }) ((h2.extBut sa.extBut D.i2z).extBut sb.extBut D.i12.symm) ((hl2.extBut sa.extBut D.l2z).extBut sb.extBut D.l2i1) hy fun hc c2 sc => wpAny_pure (wpAny_pure (wpAny_pure ?_)))
  show wpAny _ _ (newTuple [x, y] >>= _) _ _ _
  refine wpAny_bind (wpAny_newTuple (wpAny_pure ⟨_, rfl, wpAny_pure ?_⟩))
  have hsz : hc.objs.size = s.heap.objs.size := by rw [sc.1, sb.1, sa.1]
  show Q (some (.ref hc.objs.size)) _
  have hp : IsPair (hc.push { cls := .type "tuple", data := .seq #[x, y] }) hc.objs.size x y := Heap.get?_push_size _ rfl
  have h5 : (hc.push { cls := .type "tuple", data := .seq #[x, y] }).objs.size = hc.objs.size + 1 := Heap.size_push ..
  rw [hsz] at hp h5 ⊢
  exact hQ _ (Heap.get?_push_of_some _ (sc.extBut _ _ D.i2z.symm (sb.extBut _ _ D.i1z.symm za))) ((b1.extBut sc.extBut D.i12).at fun o e => Heap.get?_push_of_some _ e) (c2.at fun o e => Heap.get?_push_of_some _ e) hp h5
    fun c o n1 n2 n3 e => Heap.get?_push_of_some _ (sc.extBut _ _ n3 (sb.extBut _ _ n2 (sa.extBut _ _ n1 e)))
theorem held_end {z TI TO T i1 i2 l1 l2 : Addr} {f : Bool} {oT : Obj} {k : Nat} {xs ys : Array Value} {Q : Option Value → Shared → Prop} (hh : A.handled = none) (D : ZipApart z TI TO i1 i2 l1 l2)
    (hz : IsZipHeld s.heap z TI TO T f) (hT : s.heap.get? T = some oT) (hTI : IsPair s.heap TI (.ref i1) (.ref i2))
    (h1 : s.heap.IsTupleIter i1 l1 k) (hl1 : s.heap.IsTuple l1 xs) (hx : xs[k]? = none)
    (hQ : ∀ h', (∀ c o, c ≠ z → c ≠ i1 → c ≠ i2 → s.heap.get? c = some o → h'.get? c = some o) → Q none { s with heap := h' }) : wpAny (model prog w) A (pyNext (.ref z)) Q E s := by
  have hTy : s.TypeIs (.ref z) "zip" := ⟨_, hz, rfl⟩
  unfold pyNext
  refine wpAny_bind (wpAny_attempt (wpAny_callSpecial?_slot (name := Str.ofString "__next__") hTy F.slot_zip_next (wpAny_call_entry F.slot_zip_next hTy F.entry_zip_next ?_ (F.args_zip_next_1 _))))
  show wpAny _ _ (field (.ref z) 2 >>= _) _ _ _
  refine wpAny_bind (wpAny_field hz rfl (x := .bool false) rfl ?_)
  show wpAny _ _ (field (.ref z) 3 >>= _) _ _ _
  refine wpAny_bind (wpAny_field hz rfl (x := .ref TI) rfl (wpAny_bind (wpAny_seqItems hTI rfl ?_)))
  show wpAny _ _ (Builtin.SmallTypes.ownedTupleIsFree (.ref z) >>= _) _ _ _
  refine wpAny_bind (wpAny_tupleHeld_zip hz hT fun ha za sa => ?_)
  simp only [Bool.false_eq_true, if_false]
  refine wpAny_bind ?_
  rw [← Array.forIn_toList]
  simp only [List.forIn_cons, List.forIn_nil]
  refine wpAny_bind (wpAny_bind (wpAny_holding ?_))
  show wpAny _ _ (Builtin.SmallTypes.nextOf (.ref i1) >>= _) _ _ _
  refine wpAny_bind (RZ.nextOf_tuple_end (s := { s with heap := ha }) hh (h1.extBut sa.extBut D.i1z) (hl1.extBut sa.extBut D.l1z) hx fun hb e sb he => ?_)
  obtain ⟨o, ho, hc⟩ := he
  refine wpAny_bind (wpAny_isInstance (T := "StopIteration") (b := true) ⟨o, ho, hc⟩ isSubtype_stop ?_)
  exact wpAny_pure (hQ _ fun c o n1 n2 _ x => sb _ _ n2 (sa.extBut _ _ n1 x))

/-- amid list.extend over a zip that stands at N + 4; the list at N + 5, the tuples Ts in it -/
structure ZSt (h0 h : Heap) (a b : Addr) (xs ys : Array Value) (i c : Nat) (Ts : List Addr) : Prop where
  zz : (i = 0 ∧ IsZip h (h0.objs.size + 4) (h0.objs.size + 2) (h0.objs.size + 3) .none ∧ ∃ x y, IsPair h (h0.objs.size + 3) x y) ∨ ∃ T f oT, IsZipHeld h (h0.objs.size + 4) (h0.objs.size + 2) (h0.objs.size + 3) T f ∧ h.get? T = some oT ∧ h0.objs.size + 6 ≤ T
  ti : IsPair h (h0.objs.size + 2) (.ref h0.objs.size) (.ref (h0.objs.size + 1))
  it1 : h.IsTupleIter h0.objs.size a i
  it2 : h.IsTupleIter (h0.objs.size + 1) b i
  lst : h.get? (h0.objs.size + 5) = some { cls := .type "list", dict := none, data := .seq (Ts.map Value.ref).toArray c, slots := #[] }
  len : Ts.length = i
  prs : ∀ (j : Nat) (T : Addr), Ts[j]? = some T → h0.objs.size + 6 ≤ T ∧ ∃ x y, xs[j]? = some x ∧ ys[j]? = some y ∧ IsPair h T x y
  nd : Ts.Nodup
  keep : ∀ b o, h0.get? b = some o → h.get? b = some o
  big : h0.objs.size + 6 ≤ h.objs.size
theorem nlt {c : Addr} {n : Nat} (h : (c : Nat) < n) : c ≠ (n : Nat) := Nat.ne_of_lt h
theorem ngt {c : Addr} {n : Nat} (h : n < (c : Nat)) : c ≠ (n : Nat) := Nat.ne_of_gt h
theorem zip_loop {h0 : Heap} {a b : Addr} {xs ys : Array Value} {R : Result → Shared → Prop} {res : Value} (hh : A.in1.handled = none) (ha : h0.IsTuple a xs) (hb : h0.IsTuple b ys) (hlen : ys.size = xs.size) (hsz : xs.size ≤ sizeLine) :
    ∀ (k i : Nat) (s : Shared) (c : Nat) (Ts : List Addr), xs.size - i = k → i ≤ xs.size → ZSt h0 s.heap a b xs ys i c Ts →
      (∀ (h' : Heap) (c' : Nat) (Ts' : List Addr), (∀ b o, h0.get? b = some o → h'.get? b = some o) → h'.get? (h0.objs.size + 5) = some { cls := .type "list", dict := none, data := .seq (Ts'.map Value.ref).toArray c', slots := #[] } → Ts'.length = xs.size → Ts'.Nodup →
        (∀ (j : Nat) (T : Addr), Ts'[j]? = some T → h0.objs.size + 6 ≤ T ∧ ∃ x y, xs[j]? = some x ∧ ys[j]? = some y ∧ IsPair h' T x y) → R (.ok (.ret res)) { s with heap := h' }) →
      codeAny (model prog w) A (.builtin "list.extend.loop" ⟨[.ref (h0.objs.size + 5), .ref (h0.objs.size + 4), res], []⟩) R s := by
  have al : a < h0.objs.size := let ⟨_, e, _⟩ := ha; Heap.lt_size e
  have bl : b < h0.objs.size := let ⟨_, e, _⟩ := hb; Heap.lt_size e
  have D := PySem.W.ktu_apart h0.objs.size a b al bl
  intro k
  induction k with
  | zero =>
    intro i s c Ts hk hi st hR
    obtain rfl : i = xs.size := by omega
    refine codeAny_builtin F.entry_extend_loop ?_
    rw [Around.under_plainId F.plain_extend_loop _]
    show wpAny _ A.in1 (pyNext (.ref (h0.objs.size + 4)) >>= _) _ _ s
    have fin : ∀ h' : Heap, (∀ c o, c ≠ h0.objs.size + 4 → c ≠ h0.objs.size + 3 → c ≠ h0.objs.size → c ≠ h0.objs.size + 1 → s.heap.get? c = some o → h'.get? c = some o) → R (.ok (.ret res)) { s with heap := h' } := fun h' kk => by
      have away : ∀ c, (c < h0.objs.size ∨ h0.objs.size + 5 ≤ c) → ∀ o, s.heap.get? c = some o → h'.get? c = some o := fun c hc o e => by
        obtain ⟨n1, n2, n3, n4⟩ : c ≠ h0.objs.size + 4 ∧ c ≠ h0.objs.size + 3 ∧ c ≠ h0.objs.size ∧ c ≠ h0.objs.size + 1 := by
          rcases hc with q | q
          · exact ⟨Nat.ne_of_lt (by omega), Nat.ne_of_lt (by omega), Nat.ne_of_lt q, Nat.ne_of_lt (by omega)⟩
          · exact ⟨Nat.ne_of_gt (by omega), Nat.ne_of_gt (by omega), Nat.ne_of_gt (by omega), Nat.ne_of_gt (by omega)⟩
        exact kk c o n1 n2 n3 n4 e
      refine hR h' c Ts (fun b o e => away b (.inl (Heap.lt_size e)) o (st.keep b o e)) (away _ (.inr (Nat.le_refl _)) _ st.lst) st.len st.nd fun j T hj => ?_
      obtain ⟨h1, x, y, h2, h3, h4⟩ := st.prs j T hj
      exact ⟨h1, x, y, h2, h3, away T (.inr (by omega)) _ h4⟩
    rcases st.zz with ⟨_, hz, x, y, hTO⟩ | ⟨T, f, oT, hz, hT, _⟩
    · exact wpAny_bind (RZ.pyNext_zipT_end hh D hz st.ti hTO st.it1 st.it2 (ha.at fun o e => st.keep a o e) (hb.at fun o e => st.keep b o e) (.inl (by simp)) fun h' kk => wpAny_pure (fin h' kk))
    · exact wpAny_bind (held_end (ys := ys) hh D hz hT st.ti st.it1 (ha.at fun o e => st.keep a o e) (by simp) fun h' kk => wpAny_pure (fin h' fun c o n1 _ n3 n4 e => kk c o n1 n3 n4 e))
  | succ k ih =>
    intro i s c Ts hk hi st hR
    have hx : xs[i]? = some (xs[i]'(by omega)) := Array.getElem?_eq_getElem (by omega)
    have hy : ys[i]? = some (ys[i]'(by omega)) := Array.getElem?_eq_getElem (by omega)
    generalize xs[i]'(by omega) = x at hx
    generalize ys[i]'(by omega) = y at hy
    refine codeAny_builtin F.entry_extend_loop ?_
    rw [Around.under_plainId F.plain_extend_loop _]
    show wpAny _ A.in1 (pyNext (.ref (h0.objs.size + 4)) >>= _) _ _ s
    have big := st.big
    have go : ∀ h' T f, IsZipHeld h' (h0.objs.size + 4) (h0.objs.size + 2) (h0.objs.size + 3) T f → (∃ oT, h'.get? T = some oT) → h0.objs.size + 6 ≤ T → h'.IsTupleIter h0.objs.size a (i + 1) → h'.IsTupleIter (h0.objs.size + 1) b (i + 1) → IsPair h' s.heap.objs.size x y → h'.objs.size = s.heap.objs.size + 1 →
        (∀ c o, c ≠ h0.objs.size + 4 → c ≠ h0.objs.size + 3 → c ≠ h0.objs.size → c ≠ h0.objs.size + 1 → s.heap.get? c = some o → h'.get? c = some o) →
        wpAny (model prog w) A.in1 (updateSeq (h0.objs.size + 5) (·.push (.ref s.heap.objs.size)) >>= fun _ => again (.builtin "list.extend.loop" ⟨[.ref (h0.objs.size + 5), .ref (h0.objs.size + 4), res], []⟩))
          (fun fin s' => match fin with | .done f => R (.ok f) s' | .again c' => c'.quiet = true ∧ codeAny (model prog w) A c' R s') (fun e s' => R (.error e) s') { s with heap := h' } := by
      intro h' T f hz ⟨oT, hT⟩ hT6 i1' i2' hp hs1 kk
      have away : ∀ c, (c < h0.objs.size ∨ c = h0.objs.size + 2 ∨ h0.objs.size + 5 ≤ c) → ∀ o, s.heap.get? c = some o → h'.get? c = some o := fun c hc o e => by
        obtain ⟨n1, n2, n3, n4⟩ : c ≠ h0.objs.size + 4 ∧ c ≠ h0.objs.size + 3 ∧ c ≠ h0.objs.size ∧ c ≠ h0.objs.size + 1 := by
          rcases hc with q | q | q
          · exact ⟨Nat.ne_of_lt (by omega), Nat.ne_of_lt (by omega), Nat.ne_of_lt q, Nat.ne_of_lt (by omega)⟩
          · rw [q]
            exact ⟨Nat.ne_of_lt (by omega), Nat.ne_of_lt (by omega), Nat.ne_of_gt (by omega), Nat.ne_of_gt (by omega)⟩
          · exact ⟨Nat.ne_of_gt (by omega), Nat.ne_of_gt (by omega), Nat.ne_of_gt (by omega), Nat.ne_of_gt (by omega)⟩
        exact kk c o n1 n2 n3 n4 e
      have hS := away _ (.inr (.inr (Nat.le_refl _))) _ st.lst
      have oth : ∀ (f : Obj → Obj) (b : Addr) (o : Obj), b ≠ h0.objs.size + 5 → h'.get? b = some o → (h'.update (h0.objs.size + 5) f).get? b = some o := fun f b o hb e => (Heap.get?_update_other _ _ (Ne.symm hb)).trans e
      refine wpAny_bind (wpAny_updateSeq hS rfl (wpAny_pure ⟨plainId_quiet F.plain_extend_loop _, ih (i + 1) _ (c + 1) (Ts ++ [s.heap.objs.size]) (by omega) (by omega) ?_ fun h2 c2 Ts2 => hR h2 c2 Ts2⟩) (by rw [List.size_toArray, List.length_map, st.len]; omega)
        (by show ((Ts.map Value.ref).toArray.push _).size ≤ sizeLine + 1; rw [Array.size_push, List.size_toArray, List.length_map, st.len]; omega))
      refine ⟨.inr ⟨T, f, oT, oth _ _ _ (Nat.ne_of_lt (by omega)) hz, oth _ _ _ (Nat.ne_of_gt (by omega)) hT, hT6⟩, oth _ _ _ (Nat.ne_of_lt (by omega)) (away _ (.inr (.inl rfl)) _ st.ti), i1'.at fun o e => oth _ _ _ (Nat.ne_of_lt (by omega)) e, i2'.at fun o e => oth _ _ _ (Nat.ne_of_lt (by omega)) e, ?_, by rw [List.length_append, st.len] <;> rfl, fun j T' hj => ?_, ?_, fun b o e => oth _ b o ?_ (away b (.inl (Heap.lt_size e)) o (st.keep b o e)), by rw [Heap.size_update, hs1]; omega⟩
      · rw [Heap.get?_update_self _ hS rfl]
        simp [Obj.mapSeq]
      · by_cases hjl : j < Ts.length
        · rw [List.getElem?_append_left hjl] at hj
          obtain ⟨p1, x', y', p2, p3, p4⟩ := st.prs j T' hj
          exact ⟨p1, x', y', p2, p3, oth _ _ _ (Nat.ne_of_gt (by omega)) (away T' (.inr (.inr (by omega))) _ p4)⟩
        · have ej : j = i := by
            have := (List.getElem?_eq_some_iff.mp hj).1
            rw [List.length_append] at this
            have l1 := st.len
            simp at this
            omega
          subst ej
          rw [List.getElem?_append_right (by omega), st.len, Nat.sub_self] at hj
          cases hj
          exact ⟨big, x, y, hx, hy, oth _ _ _ (Nat.ne_of_gt (by omega)) hp⟩
      · refine List.nodup_append.mpr ⟨st.nd, by simp, fun T' hT' c hc => ?_⟩
        rw [List.mem_singleton.mp hc]
        obtain ⟨j, hj, ej⟩ := List.getElem_of_mem hT'
        obtain ⟨_, _, _, _, _, p4⟩ := st.prs j T' (by rw [List.getElem?_eq_getElem hj, ej])
        exact Nat.ne_of_lt (Heap.lt_size p4)
      · exact Nat.ne_of_lt (Nat.lt_of_lt_of_le (Heap.lt_size e) (Nat.le_add_right _ _))
    rcases st.zz with ⟨_, hz, x0, y0, hTO⟩ | ⟨T, f, oT, hz, hT, hT6⟩
    · refine wpAny_bind (RZ.pyNext_zipT_item D hz st.ti hTO st.it1 st.it2 (ha.at fun o e => st.keep a o e) (hb.at fun o e => st.keep b o e) hx hy fun h' z' _ i1' i2' hp hs1 kk => ?_)
      exact go h' s.heap.objs.size false z' ⟨_, hp⟩ big i1' i2' hp hs1 kk
    · refine wpAny_bind (held_item D hz hT st.ti st.it1 st.it2 (ha.at fun o e => st.keep a o e) (hb.at fun o e => st.keep b o e) hx hy fun h' z' i1' i2' hp hs1 kk => ?_)
      have n1 : T ≠ h0.objs.size + 4 := Nat.ne_of_gt (by omega)
      have n3 : T ≠ h0.objs.size := Nat.ne_of_gt (by omega)
      have n4 : T ≠ h0.objs.size + 1 := Nat.ne_of_gt (by omega)
      exact go h' T true z' ⟨_, kk T _ n1 n3 n4 hT⟩ hT6 i1' i2' hp hs1 fun c o m1 _ m3 m4 e => kk c o m1 m3 m4 e

/-- list(z) of a fresh zip of two tuples -/
theorem call_list_zip {h0 : Heap} {a b : Addr} {xs ys : Array Value} {Q : Value → Shared → Prop} (hh : A.handled = none) (ha : h0.IsTuple a xs) (hb : h0.IsTuple b ys) (hlen : ys.size = xs.size) (hsz : xs.size ≤ sizeLine)
    (zz : IsZip s.heap (h0.objs.size + 4) (h0.objs.size + 2) (h0.objs.size + 3) .none) (to : ∃ x y, IsPair s.heap (h0.objs.size + 3) x y) (ti : IsPair s.heap (h0.objs.size + 2) (.ref h0.objs.size) (.ref (h0.objs.size + 1)))
    (it1 : s.heap.IsTupleIter h0.objs.size a 0) (it2 : s.heap.IsTupleIter (h0.objs.size + 1) b 0) (kp : ∀ b o, h0.get? b = some o → s.heap.get? b = some o) (hs : s.heap.objs.size = h0.objs.size + 5)
    (hQ : ∀ (h' : Heap) (c' : Nat) (Ts' : List Addr), (∀ b o, h0.get? b = some o → h'.get? b = some o) → h'.get? (h0.objs.size + 5) = some { cls := .type "list", dict := none, data := .seq (Ts'.map Value.ref).toArray c', slots := #[] } → Ts'.length = xs.size → Ts'.Nodup →
        (∀ (j : Nat) (T : Addr), Ts'[j]? = some T → h0.objs.size + 6 ≤ T ∧ ∃ x y, xs[j]? = some x ∧ ys[j]? = some y ∧ IsPair h' T x y) → Q (.ref (h0.objs.size + 5)) { s with heap := h' }) :
    wpAny (model prog w) A (call (.type "list") [.ref (h0.objs.size + 4)]) Q E s := by
  refine callType_codes (Q₁ := fun obj s₁ => obj = .ref s.heap.objs.size ∧ s₁ = { s with heap := s.heap.push { cls := .type "list", data := .seq #[] } }) F.called_list (F.typeCall_list_1 _) F.entry_list_init
    (code_list_new _ ⟨rfl, rfl⟩) fun obj s₁ h₁ => ?_
  obtain ⟨rfl, rfl⟩ := h₁
  rw [hs]
  have hS : (s.heap.push { cls := .type "list", data := .seq #[] }).get? (h0.objs.size + 5) = some { cls := .type "list", data := .seq #[] } := by rw [← hs]; exact Heap.get?_push_size _ rfl
  refine ⟨⟨_, hS, rfl⟩, F.args_list_init_2 _ _, ?_⟩
  show wpAny _ A.in1.in1 (do let old ← Builtin.List.listItems (.ref (h0.objs.size + 5)); Builtin.List.listUpdate (.ref (h0.objs.size + 5)) (fun _ => #[]); letGo old.toList.reverse; Builtin.List.listExtendWith (.ref (h0.objs.size + 5)) (.ref (h0.objs.size + 4)) .none) _ _ _
  refine wpAny_bind ?_
  unfold Builtin.List.listItems
  refine wpAny_bind (wpAny_seqItems hS rfl (wpAny_pure ?_))
  show wpAny _ A.in1.in1 (updateSeq (h0.objs.size + 5) (fun _ => #[]) >>= fun _ => letGo (#[] : Array Value).toList.reverse >>= fun _ => Builtin.List.listExtendWith (.ref (h0.objs.size + 5)) (.ref (h0.objs.size + 4)) .none) _ _ _
  refine wpAny_bind (wpAny_updateSeq hS rfl ?_)
  have hS2 := Heap.get?_update_self (Obj.mapSeq (fun _ => (#[] : Array Value))) hS rfl
  refine wpAny_bind (wpAny_letGo ?_)
  unfold Builtin.List.listExtendWith
  have up : ∀ (h : Heap) (f : Obj → Obj), (∀ b o, s.heap.get? b = some o → h.get? b = some o) → ∀ b o, s.heap.get? b = some o → (h.update (h0.objs.size + 5) f).get? b = some o := fun h f q b o e =>
    (Heap.get?_update_other _ _ (Ne.symm (Nat.ne_of_lt (by rw [← hs]; exact Heap.lt_size e)))).trans (q b o e)
  have k1 : ∀ b o, s.heap.get? b = some o → (s.heap.push { cls := .type "list", data := .seq #[] }).get? b = some o := fun b o e => Heap.get?_push_of_some _ e
  have k2 := up _ (Obj.mapSeq (fun _ => (#[] : Array Value))) k1
  have gty : ∀ {h : Heap}, (∀ b o, s.heap.get? b = some o → h.get? b = some o) → ({ s with heap := h } : Shared).TypeIs (.ref (h0.objs.size + 4)) "zip" := fun {h} q => ⟨_, q _ _ zz, rfl⟩
  refine wpAny_bind (wpAny_typeOf (gty k2) ?_)
  have h1 : Builtin.List.listSameRef (.ref (h0.objs.size + 5)) (.ref (h0.objs.size + 4)) = false := by simp [Builtin.List.listSameRef]
  have h2 : (Value.type "zip" == Value.type "list") = false := by decide
  have h3 : (Value.type "zip" == Value.type "tuple") = false := by decide
  simp only [h1, h2, h3, Bool.or_false, Bool.false_eq_true, if_false]
  refine wpAny_bind (wpAny_pyIter_zip (s := { s with heap := _ }) (k2 _ _ zz) ?_)
  refine wpAny_bind (wpAny_holding ?_)
  unfold Builtin.List.listLengthHint
  refine wpAny_bind (wpAny_specialOf (gty k2) zip_nolen ?_)
  show wpAny _ A.in1.in1 (specialOf (Value.ref (h0.objs.size + 4)) (Str.ofString "__length_hint__") >>= _) _ _ _
  refine wpAny_bind (wpAny_specialOf (gty k2) zip_nohint ?_)
  refine wpAny_pure ?_
  show wpAny _ A.in1.in1 (rule "list.extend.makes-room" >>= fun _ => Builtin.List.listTouch (.ref (h0.objs.size + 5)) >>= fun _ =>
    again (.builtin "list.extend.loop" ⟨[.ref (h0.objs.size + 5), .ref (h0.objs.size + 4), .none], []⟩)) _ _ _
  refine wpAny_bind (wpAny_rule ?_)
  refine wpAny_bind ?_
  show wpAny _ A.in1.in1 (updateSeq (h0.objs.size + 5) (·.push .none) >>= fun _ => updateSeq (h0.objs.size + 5) (·.pop)) _ _ _
  refine wpAny_bind (wpAny_updateSeq hS2 rfl ?_)
  have hS3 := Heap.get?_update_self (Obj.mapSeq (·.push Value.none)) hS2 rfl
  refine wpAny_updateSeq (hz := by seq_fits) hS3 rfl ?_
  have hS4 := Heap.get?_update_self (Obj.mapSeq (·.pop)) hS3 rfl
  have k4 := up _ (Obj.mapSeq (·.pop)) (up _ (Obj.mapSeq (·.push Value.none)) k2)
  refine wpAny_pure ⟨plainId_quiet F.plain_extend_loop _, ?_⟩
  refine zip_loop (A := A.in1) hh ha hb hlen hsz xs.size 0 _ _ [] (by omega) (Nat.zero_le _) ⟨.inl ⟨rfl, k4 _ _ zz, let ⟨x, y, e⟩ := to; ⟨x, y, k4 _ _ e⟩⟩, k4 _ _ ti, it1.at fun o e => k4 _ _ e, it2.at fun o e => k4 _ _ e, hS4, rfl, fun j T e => by simp at e, List.nodup_nil, fun b o e => k4 b o (kp b o e), ?_⟩ fun h' c' Ts' q1 q2 q3 q4 q5 => ⟨rfl, hQ h' c' Ts' q1 q2 q3 q4 q5⟩
  simp only [Heap.size_update, Heap.size_push, hs]
  exact Nat.le_refl _
end

/-- list(zip(e, e2)) of two tuples of one length -/
def tListZip (K : PySem.W.Frag) (ta : TA) : TE := fun σ H Q => ta σ H fun vs H1 => ∃ a b xs ys, vs = [.ref a, .ref b] ∧ SqT K H1 a xs ∧ SqT K H1 b ys ∧ ys.length = xs.length ∧ xs.length ≤ 4000 ∧
  ∀ (H2 : Hp) (p : Addr) (Ts : List Addr), (∀ b o, H1 b = some o → H2 b = some o) → H1 p = none → H2 p = some (.lst (Ts.map V.ref)) → Ts.length = xs.length → (∀ (j : Nat) (T : Addr), Ts[j]? = some T → ∃ x y, xs[j]? = some x ∧ ys[j]? = some y ∧ H2 T = some (.tup [x, y])) → Q (.ref p) H2
theorem pe_listZip {X : Cx} {e e2 : Expr} {ta : TA} {p p2 q pos : Pos} (hg : Gl X "list") (hm : X.mg "list" = none) (hg2 : Gl X "zip") (hm2 : X.mg "zip" = none) (ha : PA X [e, e2] ta) (hc : X.calm = true := by rfl)
    (he : starEach [.Call (.Name "zip" p2) [e, e2] [] q] X.env = (false, eval (.Call (.Name "zip" p2) [e, e2] [] q) X.env) :: starEach [] X.env := by rfl)
    (hs : starEach [e, e2] X.env = (false, eval e X.env) :: starEach [e2] X.env := by rfl) (hpl : (backTo q (starEach [e2] X.env)).any (·.1) = false := by rfl) :
    PE X (.Call (.Name "list" p) [.Call (.Name "zip" p2) [e, e2] [] q] [] pos) (tListZip X.K ta) := by
  refine ⟨fun pins s σ H Q I h => ?_⟩
  refine Call_ (ld_blt I hg hm PyProof.Rows.boot_list (PyProof.Rows.callWith_type1 (PyProof.Rows.args_cons ?_ he) he rfl))
  refine Call_ (ld_blt I hg2 hm2 PyProof.Rows.boot_zip (PyProof.Rows.callWith_type1 (thn (ha.run q pins s σ H _ I h) fun us s1 ⟨vs, H1, I1, r1, q1⟩ => ?_) hs hpl))
  obtain ⟨a, b, xs, ys, ex, hqx, hqy, hl, hz, q1⟩ := q1
  subst ex
  cases r1 with
  | cons r rr =>
    cases rr with
    | cons r' rr =>
      cases rr
      cases r
      cases r'
      obtain ⟨its, rv, p1, _⟩ := I1.tuple hqx
      obtain ⟨its2, rv2, p2, _⟩ := I1.tuple hqy
      have l1 := rv.length
      have l2 := rv2.length
      refine RZ.call_zipT (show s1.heap.IsTuple a its.toArray from p1) (show s1.heap.IsTuple b its2.toArray from p2) fun h' zz ti to it1 it2 hsz hk => ?_
      refine PyProof.Rows.args_nil ?_
      refine call_list_zip (s := { s1 with heap := h' }) (h0 := s1.heap) (I1.ok.hd hc) p1 p2 (by simp; omega) (by simp [sizeLine_eq]; omega) zz ⟨_, _, to⟩ ti it1 it2 hk hsz fun h2 c2 Ts k2 hL hTl hnd hTs => ?_
      have hTl' : Ts.length = xs.length := by rw [hTl, List.size_toArray]; omega
      have I2 : Inv X pins σ (upd H1 (s1.heap.objs.size + 5) (.lst (Ts.map V.ref))) { s1 with heap := h2 } :=
        I1.laid (t' := s1.toks) k2 (Nat.le_add_right _ _) ⟨by rw [List.length_map, hTl', sizeLine_eq]; omega, Ts.map Value.ref, c2, vals_refs Ts, hL⟩
      have hn5 : H1 (s1.heap.objs.size + 5) = none := I1.hok.fresh (Nat.le_add_right _ _)
      obtain ⟨H2, I3, g, qt⟩ := L2.DX.takeT (P := fun T vs => ∃ (j : Nat) (x y : V), Ts[j]? = some T ∧ xs[j]? = some x ∧ ys[j]? = some y ∧ vs = [x, y]) I1 Ts _ I2 hnd fun T hT => by
        obtain ⟨j, hj⟩ := List.mem_iff_getElem?.mp hT
        obtain ⟨hb, u, u2, hu, hu2, hp⟩ := hTs j T hj
        have jl : j < xs.length := by
          have := (List.getElem?_eq_some_iff.mp hj).1
          omega
        have hx : xs[j]? = some xs[j] := List.getElem?_eq_getElem jl
        have hy : ys[j]? = some (ys[j]'(by omega)) := List.getElem?_eq_getElem (by omega)
        obtain ⟨u', hu', ru⟩ := rv.get hx
        obtain ⟨u2', hu2', ru2⟩ := rv2.get hy
        have e1 : u' = u := Option.some.inj (hu'.symm.trans (by simpa using hu))
        have e2 : u2' = u2 := Option.some.inj (hu2'.symm.trans (by simpa using hu2))
        subst e1 e2
        refine ⟨Nat.le_trans (Nat.le_add_right _ 6) hb, ?_, _, ⟨j, _, _, hj, hx, hy, rfl⟩, fun H3 => ⟨by show 2 ≤ sizeLine; decide, [u', u2'], .cons ru (.cons ru2 .nil), ⟨_, hp, rfl, _, rfl⟩⟩⟩
        rw [upd_ne (Nat.ne_of_gt (by omega))]
        exact I1.hok.fresh (Nat.le_trans (Nat.le_add_right _ 6) hb)
      refine ⟨.ref (s1.heap.objs.size + 5), H2, I3, rfl, q1 H2 _ Ts (fun b o e => g b o (by rw [upd_ne (ne_of_none e hn5)]; exact e)) hn5 (g _ _ upd_same) hTl' fun j T hj => ?_⟩
      obtain ⟨vs, ⟨i, x, y, i1, i2, i3, ev⟩, hH⟩ := qt T (List.mem_of_getElem? hj)
      have eij : i = j := (List.getElem?_inj (List.getElem?_eq_some_iff.mp i1).1 hnd).mp (i1.trans hj.symm)
      subst eij
      exact ⟨x, y, i2, i3, by rw [hH, ev]⟩
end QZ
end

section
set_option Elab.async false
set_option linter.all false
set_option maxRecDepth 100000
set_option maxHeartbeats 4000000
/-! for .. in zip(t, xs) of a tuple and a list (the library's lines for two tuples, turned) -/
namespace QM
open PySem L2 PyProof.Rows PySem.Spec
open PySem.Sem (wp)
section
variable {prog : Program} {w : World} {A : Around} {E : Value → Shared → Prop} {s : Shared}
theorem zipM_next_item {z TI TO i1 i2 l1 l2 : Addr} {k1 k2 : Nat} {xs ys : Array Value} {x y a b : Value} {Q : Value → Shared → Prop} (D : ZipApart z TI TO i1 i2 l1 l2)
    (hz : IsZip s.heap z TI TO .none) (hTI : IsPair s.heap TI (.ref i1) (.ref i2)) (hTO : IsPair s.heap TO a b)
    (h1 : s.heap.IsTupleIter i1 l1 k1) (h2 : s.heap.IsListIter i2 l2 k2) (hl1 : s.heap.IsTuple l1 xs) (hl2 : s.heap.IsList l2 ys) (hx : xs[k1]? = some x) (hy : ys[k2]? = some y)
    (hQ : ∀ h', IsZip h' z TI TO (rawInt s.heap.objs.size) → IsPair h' TO x y → h'.IsTupleIter i1 l1 (k1 + 1) → h'.IsListIter i2 l2 (k2 + 1) → IsPair h' s.heap.objs.size x y → h'.objs.size = s.heap.objs.size + 1 →
      (∀ c o, c ≠ z → c ≠ TO → c ≠ i1 → c ≠ i2 → s.heap.get? c = some o → h'.get? c = some o) → Q (.ref s.heap.objs.size) { s with heap := h' }) :
    wpAny (model prog w) A (Builtin.«zip.__next__» ⟨[.ref z], []⟩) (fun fin s' => ∃ v, fin = .done (.ret v) ∧ Q v s') E s := by
  show wpAny _ _ (field (.ref z) 2 >>= _) _ _ _
  refine wpAny_bind (wpAny_field hz rfl (x := .bool false) rfl ?_)
  show wpAny _ _ (field (.ref z) 3 >>= _) _ _ _
  refine wpAny_bind (wpAny_field hz rfl (x := .ref TI) rfl ?_)
  refine wpAny_bind (wpAny_seqItems hTI rfl ?_)
  show wpAny _ _ (Builtin.SmallTypes.ownedTupleIsFree (.ref z) >>= _) _ _ _
  refine wpAny_bind ?_
  unfold Builtin.SmallTypes.ownedTupleIsFree
  refine wpAny_bind (wpAny_field hz rfl (x := .none) rfl (wpAny_pure ?_))
  simp only [if_true]
  refine wpAny_bind (wpAny_rule ?_)
  refine wpAny_bind (wpAny_field hz rfl (x := .ref TO) rfl ?_)
  refine wpAny_bind (wpAny_setField_rec hz (by simp) fun h₁ hz₁ hs₁ => ?_)
  replace hz₁ : IsZip h₁ z TI TO .ellipsis := hz₁
  refine wpAny_bind ?_
  simp only [List.zipIdx_cons, List.zipIdx_nil, List.forIn_cons, List.forIn_nil]

  refine wpAny_bind (wpAny_bind (wpAny_onRaise ?_))
  show wpAny _ _ (Builtin.SmallTypes.nextOf (.ref i1) >>= _) _ _ _
  refine wpAny_bind (RZ.nextOf_tuple_item (h1.extBut hs₁.extBut D.i1z) (hl1.extBut hs₁.extBut D.l1z) hx fun h₂ h1₂ hs₂ => wpAny_pure ?_)
  have hTO₂ : IsPair h₂ TO a b := hs₂.extBut _ _ D.TOi1 (hs₁.extBut _ _ D.TOz hTO)
  refine wpAny_bind (wpAny_seqItems hTO₂ rfl ?_)
  refine wpAny_bind (wpAny_updateSeq_pair hTO₂ fun h₃ hTO₃ hs₃ => ?_)
  replace hTO₃ : IsPair h₃ TO x b := hTO₃
  refine wpAny_bind (wpAny_letGo (wpAny_pure ?_))

  refine wpAny_bind (wpAny_bind (wpAny_onRaise ?_))
  show wpAny _ _ (Builtin.SmallTypes.nextOf (.ref i2) >>= _) _ _ _
  refine wpAny_bind (wpAny_nextOf_list_item (((h2.extBut hs₁.extBut D.i2z).extBut hs₂.extBut D.i12.symm).extBut hs₃.extBut D.TOi2.symm)
    (((hl2.extBut hs₁.extBut D.l2z).extBut hs₂.extBut D.l2i1).extBut hs₃.extBut D.l2TO) hy fun h₄ h2₄ hs₄ => wpAny_pure ?_)
  have hTO₄ : IsPair h₄ TO x b := hs₄.extBut _ _ D.TOi2 hTO₃
  refine wpAny_bind (wpAny_seqItems hTO₄ rfl ?_)
  refine wpAny_bind (wpAny_updateSeq_pair hTO₄ fun h₅ hTO₅ hs₅ => ?_)
  replace hTO₅ : IsPair h₅ TO x y := hTO₅
  refine wpAny_bind (wpAny_letGo (wpAny_pure (wpAny_pure ?_)))

  refine wpAny_bind (wpAny_seqItems hTO₅ rfl ?_)
  refine wpAny_bind (wpAny_newTuple ?_)
  have hsz : h₅.objs.size = s.heap.objs.size := by rw [hs₅.1, hs₄.1, hs₃.1, hs₂.1, hs₁.1]
  have hz₅ : IsZip h₅ z TI TO .ellipsis := hs₅.extBut _ _ D.TOz.symm (hs₄.extBut _ _ D.i2z.symm (hs₃.extBut _ _ D.TOz.symm (hs₂.extBut _ _ D.i1z.symm hz₁)))
  have hk₅ : ∀ c o, c ≠ z → c ≠ TO → c ≠ i1 → c ≠ i2 → s.heap.get? c = some o → h₅.get? c = some o := fun c o c1 c2 c3 c4 e =>
    hs₅.extBut _ _ c2 (hs₄.extBut _ _ c4 (hs₃.extBut _ _ c2 (hs₂.extBut _ _ c3 (hs₁.extBut _ _ c1 e))))
  have h1₅ : h₅.IsTupleIter i1 l1 (k1 + 1) := ((h1₂.extBut hs₃.extBut D.TOi1.symm).extBut hs₄.extBut D.i12).extBut hs₅.extBut D.TOi1.symm
  have h2₅ : h₅.IsListIter i2 l2 (k2 + 1) := h2₄.extBut hs₅.extBut D.TOi2.symm
  have hzlt : z < h₅.objs.size := Heap.lt_size hz₅
  have hTOlt : TO < h₅.objs.size := Heap.lt_size hTO₅
  have hi1lt : i1 < h₅.objs.size := by obtain ⟨_, e, _⟩ := h1₅; exact Heap.lt_size e
  have hi2lt : i2 < h₅.objs.size := by obtain ⟨_, e, _⟩ := h2₅; exact Heap.lt_size e
  show wpAny _ _ (Builtin.SmallTypes.ownedTupleHandOut (.ref z) (.ref h₅.objs.size) >>= _) _ _ _
  refine wpAny_bind ?_
  unfold Builtin.SmallTypes.ownedTupleHandOut
  have hz₆ : IsZip (h₅.push { cls := .type "tuple", data := .seq #[x, y] }) z TI TO .ellipsis := Heap.get?_push_of_some _ hz₅
  refine wpAny_bind (wpAny_setField_rec hz₆ (by simp) fun h₇ hz₇ hs₇ => ?_)
  replace hz₇ : IsZip h₇ z TI TO (rawInt h₅.objs.size) := hz₇
  refine wpAny_setField_rec hz₇ (by simp) fun h₈ hz₈ hs₈ => ?_
  replace hz₈ : IsZip h₈ z TI TO (rawInt h₅.objs.size) := hz₈
  have up : ∀ c o, c ≠ z → h₅.get? c = some o → h₈.get? c = some o := fun c o c1 e => hs₈.extBut _ _ c1 (hs₇.extBut _ _ c1 (Heap.get?_push_of_some _ e))
  have hT₈ : IsPair h₈ h₅.objs.size x y := hs₈.extBut _ _ (Nat.ne_of_gt hzlt) (hs₇.extBut _ _ (Nat.ne_of_gt hzlt) (Heap.get?_push_size _ rfl))
  have hz8 : h₈.objs.size = h₅.objs.size + 1 := by rw [hs₈.1, hs₇.1, Heap.size_push]
  rw [hsz] at hz₈ hT₈ hz8
  refine wpAny_pure ⟨_, rfl, ?_⟩
  show Q (.ref h₅.objs.size) _
  rw [hsz]
  exact hQ h₈ hz₈ (up _ _ D.TOz hTO₅) (h1₅.at fun o e => up _ o D.i1z e) (h2₅.at fun o e => up _ o D.i2z e) hT₈ hz8 fun c o c1 c2 c3 c4 e => up c o c1 (hk₅ c o c1 c2 c3 c4 e)

theorem zipM_next_end {z TI TO i1 i2 l1 l2 : Addr} {k1 k2 : Nat} {xs ys : Array Value} {a b : Value} {Q : Fin → Shared → Prop} (hh : A.handled = none) (D : ZipApart z TI TO i1 i2 l1 l2)
    (hz : IsZip s.heap z TI TO .none) (hTI : IsPair s.heap TI (.ref i1) (.ref i2)) (hTO : IsPair s.heap TO a b)
    (h1 : s.heap.IsTupleIter i1 l1 k1) (h2 : s.heap.IsListIter i2 l2 k2) (hl1 : s.heap.IsTuple l1 xs) (hl2 : s.heap.IsList l2 ys) (hend : xs[k1]? = none ∨ ys[k2]? = none)
    (hE : ∀ h' e, (∀ c o, c ≠ z → c ≠ TO → c ≠ i1 → c ≠ i2 → s.heap.get? c = some o → h'.get? c = some o) → (∃ o, h'.get? e = some o ∧ o.cls = .type "StopIteration") → E (.ref e) { s with heap := h' }) :
    wpAny (model prog w) A (Builtin.«zip.__next__» ⟨[.ref z], []⟩) Q E s := by
  show wpAny _ _ (field (.ref z) 2 >>= _) _ _ _
  refine wpAny_bind (wpAny_field hz rfl (x := .bool false) rfl ?_)
  show wpAny _ _ (field (.ref z) 3 >>= _) _ _ _
  refine wpAny_bind (wpAny_field hz rfl (x := .ref TI) rfl ?_)
  refine wpAny_bind (wpAny_seqItems hTI rfl ?_)
  show wpAny _ _ (Builtin.SmallTypes.ownedTupleIsFree (.ref z) >>= _) _ _ _
  refine wpAny_bind ?_
  unfold Builtin.SmallTypes.ownedTupleIsFree
  refine wpAny_bind (wpAny_field hz rfl (x := .none) rfl (wpAny_pure ?_))
  simp only [if_true]
  refine wpAny_bind (wpAny_rule ?_)
  refine wpAny_bind (wpAny_field hz rfl (x := .ref TO) rfl ?_)
  refine wpAny_bind (wpAny_setField_rec hz (by simp) fun h₁ hz₁ hs₁ => ?_)
  replace hz₁ : IsZip h₁ z TI TO .ellipsis := hz₁
  refine wpAny_bind ?_
  simp only [List.zipIdx_cons, List.zipIdx_nil, List.forIn_cons, List.forIn_nil]
  refine wpAny_bind (wpAny_bind (wpAny_onRaise ?_))
  show wpAny _ _ (Builtin.SmallTypes.nextOf (.ref i1) >>= _) _ _ _
  cases hx : xs[k1]? with
  | none =>
    refine wpAny_bind (RZ.nextOf_tuple_end hh (h1.extBut hs₁.extBut D.i1z) (hl1.extBut hs₁.extBut D.l1z) hx fun h₂ e hs₂ he => ?_)
    obtain ⟨oe, hoe, hce⟩ := he
    have hz₂ : IsZip h₂ z TI TO .ellipsis := hs₂ _ _ D.i1z.symm hz₁
    have hez : e ≠ z := fun x => by subst x; rw [hz₂] at hoe; cases hoe; simp at hce
    refine wpAny_setField_rec hz₂ (by simp) fun h₃ _ hs₃ => hE h₃ e (fun c o c1 _ c3 _ x => hs₃.extBut _ _ c1 (hs₂ _ _ c3 (hs₁.extBut _ _ c1 x))) ⟨oe, hs₃.extBut _ _ hez hoe, hce⟩
  | some x =>
    have hy : ys[k2]? = none := by rcases hend with h | h; rw [hx] at h; cases h; exact h
    refine wpAny_bind (RZ.nextOf_tuple_item (h1.extBut hs₁.extBut D.i1z) (hl1.extBut hs₁.extBut D.l1z) hx fun h₂ h1₂ hs₂ => wpAny_pure ?_)
    have hTO₂ : IsPair h₂ TO a b := hs₂.extBut _ _ D.TOi1 (hs₁.extBut _ _ D.TOz hTO)
    refine wpAny_bind (wpAny_seqItems hTO₂ rfl ?_)
    refine wpAny_bind (wpAny_updateSeq_pair hTO₂ fun h₃ hTO₃ hs₃ => ?_)
    refine wpAny_bind (wpAny_letGo (wpAny_pure ?_))
    refine wpAny_bind (wpAny_bind (wpAny_onRaise ?_))
    show wpAny _ _ (Builtin.SmallTypes.nextOf (.ref i2) >>= _) _ _ _
    refine wpAny_bind (wpAny_nextOf_list_end hh (((h2.extBut hs₁.extBut D.i2z).extBut hs₂.extBut D.i12.symm).extBut hs₃.extBut D.TOi2.symm)
      (((hl2.extBut hs₁.extBut D.l2z).extBut hs₂.extBut D.l2i1).extBut hs₃.extBut D.l2TO) hy fun h₄ e hs₄ he => ?_)
    obtain ⟨oe, hoe, hce⟩ := he
    have hz₄ : IsZip h₄ z TI TO .ellipsis := hs₄ _ _ D.i2z.symm (hs₃.extBut _ _ D.TOz.symm (hs₂.extBut _ _ D.i1z.symm hz₁))
    have hez : e ≠ z := fun x => by subst x; rw [hz₄] at hoe; cases hoe; simp at hce
    refine wpAny_setField_rec hz₄ (by simp) fun h₅ _ hs₅ => hE h₅ e (fun c o c1 c2 c3 c4 x => hs₅.extBut _ _ c1 (hs₄ _ _ c4 (hs₃.extBut _ _ c2 (hs₂.extBut _ _ c3 (hs₁.extBut _ _ c1 x))))) ⟨oe, hs₅.extBut _ _ hez hoe, hce⟩

theorem pyNext_zipM_item {z TI TO i1 i2 l1 l2 : Addr} {k1 k2 : Nat} {xs ys : Array Value} {x y a b : Value} {Q : Option Value → Shared → Prop} (D : ZipApart z TI TO i1 i2 l1 l2)
    (hz : IsZip s.heap z TI TO .none) (hTI : IsPair s.heap TI (.ref i1) (.ref i2)) (hTO : IsPair s.heap TO a b)
    (h1 : s.heap.IsTupleIter i1 l1 k1) (h2 : s.heap.IsListIter i2 l2 k2) (hl1 : s.heap.IsTuple l1 xs) (hl2 : s.heap.IsList l2 ys) (hx : xs[k1]? = some x) (hy : ys[k2]? = some y)
    (hQ : ∀ h', IsZip h' z TI TO (rawInt s.heap.objs.size) → IsPair h' TO x y → h'.IsTupleIter i1 l1 (k1 + 1) → h'.IsListIter i2 l2 (k2 + 1) → IsPair h' s.heap.objs.size x y → h'.objs.size = s.heap.objs.size + 1 →
      (∀ c o, c ≠ z → c ≠ TO → c ≠ i1 → c ≠ i2 → s.heap.get? c = some o → h'.get? c = some o) → Q (some (.ref s.heap.objs.size)) { s with heap := h' }) :
    wpAny (model prog w) A (pyNext (.ref z)) Q E s := by
  have hT : s.TypeIs (.ref z) "zip" := ⟨_, hz, rfl⟩
  unfold pyNext
  exact wpAny_bind (wpAny_attempt (wpAny_callSpecial?_slot (name := Str.ofString "__next__") hT F.slot_zip_next
    (wpAny_call_entry F.slot_zip_next hT F.entry_zip_next
      (zipM_next_item D hz hTI hTO h1 h2 hl1 hl2 hx hy fun h' a1 a2 a3 a4 a5 a6 a7 => wpAny_pure (hQ h' a1 a2 a3 a4 a5 a6 a7)) (F.args_zip_next_1 _))))

theorem pyNext_zipM_end {z TI TO i1 i2 l1 l2 : Addr} {k1 k2 : Nat} {xs ys : Array Value} {a b : Value} {Q : Option Value → Shared → Prop} (hh : A.handled = none) (D : ZipApart z TI TO i1 i2 l1 l2)
    (hz : IsZip s.heap z TI TO .none) (hTI : IsPair s.heap TI (.ref i1) (.ref i2)) (hTO : IsPair s.heap TO a b)
    (h1 : s.heap.IsTupleIter i1 l1 k1) (h2 : s.heap.IsListIter i2 l2 k2) (hl1 : s.heap.IsTuple l1 xs) (hl2 : s.heap.IsList l2 ys) (hend : xs[k1]? = none ∨ ys[k2]? = none)
    (hQ : ∀ h', (∀ c o, c ≠ z → c ≠ TO → c ≠ i1 → c ≠ i2 → s.heap.get? c = some o → h'.get? c = some o) → Q none { s with heap := h' }) : wpAny (model prog w) A (pyNext (.ref z)) Q E s := by
  have hT : s.TypeIs (.ref z) "zip" := ⟨_, hz, rfl⟩
  unfold pyNext
  refine wpAny_bind (wpAny_attempt (wpAny_callSpecial?_slot (name := Str.ofString "__next__") hT F.slot_zip_next
    (wpAny_call_entry F.slot_zip_next hT F.entry_zip_next (zipM_next_end hh D hz hTI hTO h1 h2 hl1 hl2 hend fun h' e hk he => ?_) (F.args_zip_next_1 _))))
  obtain ⟨o, ho, hc⟩ := he
  refine wpAny_bind (wpAny_isInstance (T := "StopIteration") (b := true) ⟨o, ho, hc⟩ isSubtype_stop ?_)
  exact wpAny_pure (hQ _ hk)
end


abbrev zipMH1 (h : Heap) (l1 : Addr) : Heap := h.push { cls := .type "tuple_iterator", data := .fields #[.ref l1, .int 0 0] }
abbrev zipMH2 (h : Heap) (l1 l2 : Addr) : Heap := (zipMH1 h l1).push { cls := .type "list_iterator", data := .fields #[.ref l2, .int 0 0] }
abbrev zipMH3 (h : Heap) (l1 l2 : Addr) : Heap := (zipMH2 h l1 l2).push { cls := .type "tuple", data := .seq #[.ref h.objs.size, .ref (zipMH1 h l1).objs.size] }
abbrev zipMH4 (h : Heap) (l1 l2 : Addr) : Heap := (zipMH3 h l1 l2).push { cls := .type "tuple", data := .seq #[.none, .none] }
abbrev zipMH5 (h : Heap) (l1 l2 : Addr) : Heap := (zipMH4 h l1 l2).push { cls := .type "zip", data := .fields #[.none, .bool false, .bool false, .ref (zipMH2 h l1 l2).objs.size, .ref (zipMH3 h l1 l2).objs.size] }

theorem meets_zipM_new (l1 l2 : Addr) (xs ys : Array Value) :
    Meets (Builtin.«zip.__new__» ⟨[.type "zip", .ref l1, .ref l2], []⟩) (fun _ R s => s.heap.IsTuple l1 xs ∧ s.heap.IsList l2 ys ∧
      R (.ok (.ret (.ref (zipMH4 s.heap l1 l2).objs.size))) { s with heap := zipMH5 s.heap l1 l2 }) :=
  .of_wp fun prog w A R s h => by
    obtain ⟨hp, g, d, tk, os⟩ := s; obtain ⟨hl1, hl2, h⟩ := h
    have hsub := sub_zip
    have hL1 : Heap.IsTuple (Shared.heap ⟨hp, g, d, tk, os⟩) l1 xs := hl1
    have hL2 : Heap.IsList (Shared.heap ⟨hp.push { cls := .type "tuple_iterator", data := .fields #[.ref l1, .int 0 0] }, g, d, tk, os⟩) l2 ys := Heap.IsList.push hl2 _
    wp_walk using wpAny_pyIter_tuple hL1, wpAny_pyIter_list hL2
    exact ⟨_, rfl, h⟩

section
variable {prog : Program} {w : World} {A : Around} {E : Value → Shared → Prop} {s : Shared}

theorem call_zipM {l1 l2 : Addr} {xs ys : Array Value} {Q : Value → Shared → Prop} (hl1 : s.heap.IsTuple l1 xs) (hl2 : s.heap.IsList l2 ys)
    (h : ∀ h', IsZip h' (s.heap.objs.size + 4) (s.heap.objs.size + 2) (s.heap.objs.size + 3) .none → IsPair h' (s.heap.objs.size + 2) (.ref s.heap.objs.size) (.ref (s.heap.objs.size + 1)) →
      IsPair h' (s.heap.objs.size + 3) .none .none → h'.IsTupleIter s.heap.objs.size l1 0 → h'.IsListIter (s.heap.objs.size + 1) l2 0 → h'.objs.size = s.heap.objs.size + 5 →
      (∀ c o, s.heap.get? c = some o → h'.get? c = some o) → Q (.ref (s.heap.objs.size + 4)) { s with heap := h' }) :
    wpAny (model prog w) A (call (.type "zip") [.ref l1, .ref l2]) Q E s := by
  refine callType_new F.called_zip (by decide) (F.typeCall_zip_2 _ _) (F.newCall_zip_2 _ _) (fun obj => F.args_object_init_3 obj _ _) F.entry_zip_new
    (meets_zipM_new l1 l2 xs ys) ⟨hl1, hl2, ?_⟩
  have z1 : (zipMH1 s.heap l1).objs.size = s.heap.objs.size + 1 := Heap.size_push ..
  have z2 : (zipMH2 s.heap l1 l2).objs.size = s.heap.objs.size + 2 := by rw [Heap.size_push, z1]
  have z3 : (zipMH3 s.heap l1 l2).objs.size = s.heap.objs.size + 3 := by rw [Heap.size_push, z2]
  have z4 : (zipMH4 s.heap l1 l2).objs.size = s.heap.objs.size + 4 := by rw [Heap.size_push, z3]
  have z5 : (zipMH5 s.heap l1 l2).objs.size = s.heap.objs.size + 5 := by rw [Heap.size_push, z4]
  have g5 : (zipMH5 s.heap l1 l2).get? (zipMH4 s.heap l1 l2).objs.size = some _ := Heap.get?_push_size _ rfl
  have g4 : (zipMH5 s.heap l1 l2).get? (zipMH3 s.heap l1 l2).objs.size = some _ := Heap.get?_push_of_some _ (Heap.get?_push_size _ rfl)
  have g3 : (zipMH5 s.heap l1 l2).get? (zipMH2 s.heap l1 l2).objs.size = some _ := Heap.get?_push_of_some _ (Heap.get?_push_of_some _ (Heap.get?_push_size _ rfl))
  have g2 : (zipMH5 s.heap l1 l2).get? (zipMH1 s.heap l1).objs.size = some _ := Heap.get?_push_of_some _ (Heap.get?_push_of_some _ (Heap.get?_push_of_some _ (Heap.get?_push_size _ rfl)))
  have g1 : (zipMH5 s.heap l1 l2).get? s.heap.objs.size = some _ := Heap.get?_push_of_some _ (Heap.get?_push_of_some _ (Heap.get?_push_of_some _ (Heap.get?_push_of_some _ (Heap.get?_push_size _ rfl))))
  show _ ∧ _
  rw [z2, z3, z4] at g5
  rw [z1, z2] at g3
  rw [z3] at g4
  rw [z1] at g2
  rw [z4]
  exact ⟨⟨_, g5, rfl⟩, h _ g5 g3 g4 ⟨_, g1, rfl, rfl⟩ ⟨_, g2, rfl, rfl⟩ z5 fun c o x =>
    Heap.get?_push_of_some _ (Heap.get?_push_of_some _ (Heap.get?_push_of_some _ (Heap.get?_push_of_some _ (Heap.get?_push_of_some _ x))))⟩
end
/-- the tuples at a and b as they stand at each turn, the items in new pairs -/
def ItzM (K : PySem.W.Frag) (a b : Addr) : It :=
  ⟨fun i H => ∃ (xs ys : List V) (x y : V), SqT K H a xs ∧ SqL K H b ys ∧ xs[i]? = some x ∧ ys[i]? = some y,
    fun i H v H' => ∃ T x y, v = .ref T ∧ H T = none ∧ H' = upd H T (.tup [x, y]) ∧ (∀ xs, SqT K H a xs → xs[i]? = some x) ∧ ∀ ys, SqL K H b ys → ys[i]? = some y,
    fun i H => ∃ xs ys : List V, SqT K H a xs ∧ SqL K H b ys ∧ (xs.length ≤ i ∨ ys.length ≤ i)⟩
theorem turn_zipM {P : Program} {w : World} {K : PySem.W.Frag} {elts : List Expr} {kk : Nat} {tpos : Pos} {a b z TI TO i1 i2 : Addr} (D : ZipApart z TI TO i1 i2 a b) :
    Turn P w K (.Tuple elts kk tpos) (ItzM K a b) [z, TI, TO, i1, i2] z (fun i h => IsZip h z TI TO .none ∧ IsPair h TI (.ref i1) (.ref i2) ∧ (∃ x y, IsPair h TO x y) ∧ h.IsTupleIter i1 a i ∧ h.IsListIter i2 b i) where
  mem := by simp
  obj := fun i h st c hc => by
    obtain ⟨hz, hTI, ⟨x, y, hTO⟩, ⟨o1, e1, _, d1⟩, ⟨o2, e2, _, d2⟩⟩ := st
    have e' : c = z ∨ c = TI ∨ c = TO ∨ c = i1 ∨ c = i2 := by simpa using hc
    rcases e' with q | q | q | q | q
    · rw [q]; exact ⟨_, hz, fun v q => nomatch q⟩
    · rw [q]; exact ⟨_, hTI, fun v q => nomatch q⟩
    · rw [q]; exact ⟨_, hTO, fun v q => nomatch q⟩
    · rw [q]; exact ⟨o1, e1, fun v q => by rw [d1] at q; cases q⟩
    · rw [q]; exact ⟨o2, e2, fun v q => by rw [d2] at q; cases q⟩
  keep := fun i h h' st k => by
    obtain ⟨hz, hTI, ⟨x, y, hTO⟩, h1, h2⟩ := st
    exact ⟨k z (by simp) _ hz, k TI (by simp) _ hTI, ⟨x, y, k TO (by simp) _ hTO⟩, h1.at fun o q => k i1 (by simp) o q, h2.at fun o q => k i2 (by simp) o q⟩
  item := by
    intro X hP hw hK hc i pins s σ H E I hf st hg
    subst hP hw hK
    obtain ⟨hz, hTI, ⟨x0, y0, hTO⟩, h1, h2⟩ := st
    obtain ⟨xs, ys, x, y, hqx, hqy, hx, hy⟩ := hg
    obtain ⟨its, rv, p, _⟩ := I.tuple hqx
    obtain ⟨its2, rv2, p2, _⟩ := I.list hqy
    obtain ⟨u, hu, ru⟩ := rv.get hx
    obtain ⟨u2, hu2, ru2⟩ := rv2.get hy
    have hzl : z < s.heap.objs.size := Heap.lt_size hz
    refine pyNext_zipM_item D hz hTI hTO h1 h2 p p2.isList (x := u) (y := u2) (by simpa using hu) (by simpa using hu2) fun h' z' TO' h1' h2' hT hsz hk => ?_
    refine ⟨_, rfl, wpAny_letOwnedTupleGo_zip (s := { s with heap := h' }) z' fun h'' z'' sb => ?_⟩
    have hT2 : h''.get? s.heap.objs.size = some { cls := .type "tuple", data := .seq #[u, u2] } := (sb.2 _ (Nat.ne_of_gt hzl)).trans hT
    have new : ObjOk X.prog X.w (upd H s.heap.objs.size (.tup [x, y])) h'' s.heap.objs.size (.tup [x, y]) :=
      ⟨by show 2 ≤ sizeLine; decide, [u, u2], .cons ru (.cons ru2 .nil), ⟨_, hT2, rfl, _, rfl⟩⟩
    have I1 : Inv X pins σ (upd H s.heap.objs.size (.tup [x, y])) { s with heap := h'' } :=
      I.turnedNew (t' := s.toks) (ch := [z, TI, TO, i1, i2]) (fun c o hb q => (sb.2 c (fun q' => hb (by simp [q']))).trans (hk c o (fun q' => hb (by simp [q'])) (fun q' => hb (by simp [q'])) (fun q' => hb (by simp [q'])) (fun q' => hb (by simp [q'])) q)) hf (Nat.le_refl _) new
    refine ⟨.ref s.heap.objs.size, _, I1, rfl, ⟨_, x, y, rfl, I.hok.fresh (Nat.le_refl _), rfl, fun l hl => by rw [I.tuple_inj hl hqx]; exact hx, fun l hl => by rw [I.list_inj hl hqy]; exact hy⟩, ⟨z'', ?_, ⟨u, u2, ?_⟩, ?_, ?_⟩, fun c hcm => ?_⟩
    · exact (sb.2 _ D.TIz).trans (hk _ _ D.TIz D.TITO D.TIi1 D.TIi2 hTI)
    · exact (sb.2 _ D.TOz).trans TO'
    · exact h1'.at fun o q => (sb.2 _ D.i1z).trans q
    · exact h2'.at fun o q => (sb.2 _ D.i2z).trans q
    · have hlt : c < s.heap.objs.size := by
        have e' : c = z ∨ c = TI ∨ c = TO ∨ c = i1 ∨ c = i2 := by simpa using hcm
        rcases e' with q | q | q | q | q
        · rw [q]; exact hzl
        · rw [q]; exact Heap.lt_size hTI
        · rw [q]; exact Heap.lt_size hTO
        · rw [q]; obtain ⟨_, e1, _⟩ := h1; exact Heap.lt_size e1
        · rw [q]; obtain ⟨_, e2, _⟩ := h2; exact Heap.lt_size e2
      rw [upd_ne (Nat.ne_of_lt hlt)]
      exact (hf c hcm).1
  done := by
    intro X hP hw hK hc i pins s σ H E I hf st hg
    subst hP hw hK
    obtain ⟨hz, hTI, ⟨x0, y0, hTO⟩, h1, h2⟩ := st
    obtain ⟨xs, ys, hqx, hqy, hend⟩ := hg
    obtain ⟨its, rv, p, _⟩ := I.tuple hqx
    obtain ⟨its2, rv2, p2, _⟩ := I.list hqy
    have l1 := rv.length
    have l2 := rv2.length
    have he : its.toArray[i]? = none ∨ its2.toArray[i]? = none := by
      rcases hend with q | q
      · exact .inl (by simp; omega)
      · exact .inr (by simp; omega)
    exact pyNext_zipM_end (I.ok.hd hc) D hz hTI hTO h1 h2 p p2.isList he fun h' hk => ⟨rfl, I.turnedL (t' := s.toks) (ch := [z, TI, TO, i1, i2]) (fun c o hb q =>
      hk c o (fun q' => hb (by simp [q'])) (fun q' => hb (by simp [q'])) (fun q' => hb (by simp [q'])) (fun q' => hb (by simp [q'])) q) hf⟩
  self := fun A i s Q E st h => wpAny_pyIter_zip st.1 h


def iZipM (K : PySem.W.Frag) (ta : TA) : TI := fun σ H R => ta σ H fun vs H1 => ∃ a b xs ys, vs = [.ref a, .ref b] ∧ SqT K H1 a xs ∧ SqL K H1 b ys ∧ R (ItzM K a b) H1
theorem pi_zipM {X : Cx} {e e2 : Expr} {ta : TA} {p pos tpos : Pos} {elts : List Expr} {kk : Nat} (hg : Gl X "zip") (hm : X.mg "zip" = none) (ha : PA X [e, e2] ta)
    (hs : starEach [e, e2] X.env = (false, eval e X.env) :: starEach [e2] X.env := by rfl) (hpl : (backTo pos (starEach [e2] X.env)).any (·.1) = false := by rfl) :
    PI X (.Tuple elts kk tpos) (.Call (.Name "zip" p) [e, e2] [] pos) (iZipM X.K ta) := by
  refine ⟨fun pins s σ H R I h => ?_⟩
  refine Call_ (ld_blt I hg hm PyProof.Rows.boot_zip (PyProof.Rows.callWith_type1 (thn (ha.run pos pins s σ H _ I h) fun us s1 ⟨vs, H1, I1, r1, q1⟩ => ?_) hs hpl))
  obtain ⟨a, b, xs, ys, ex, hqx, hqy, q⟩ := q1
  subst ex
  cases r1 with
  | cons r rr =>
    cases rr with
    | cons r' rr =>
      cases rr
      cases r
      cases r'
      have fresh5 : ∀ c, c ∈ [s1.heap.objs.size + 4, s1.heap.objs.size + 2, s1.heap.objs.size + 3, s1.heap.objs.size, s1.heap.objs.size + 1] → FpOk X pins H1 c := fun c hcm => by
        have hle : s1.heap.objs.size ≤ c := by
          have e' : c = s1.heap.objs.size + 4 ∨ c = s1.heap.objs.size + 2 ∨ c = s1.heap.objs.size + 3 ∨ c = s1.heap.objs.size ∨ c = s1.heap.objs.size + 1 := by simpa using hcm
          rcases e' with z | z | z | z | z
          · rw [z]; exact Nat.le_add_right _ _
          · rw [z]; exact Nat.le_add_right _ _
          · rw [z]; exact Nat.le_add_right _ _
          · rw [z]; exact Nat.le_refl _
          · rw [z]; exact Nat.le_add_right _ _
        exact I1.fpOk hle (I1.hok.fresh hle)
      obtain ⟨its, rv, p1, _⟩ := I1.tuple hqx
      obtain ⟨its2, rv2, p2, _⟩ := I1.list hqy
      obtain ⟨o1, ho1, _⟩ := id p1
      refine call_zipM (show s1.heap.IsTuple a its.toArray from p1) p2.isList fun h' hz hTI hTO h1 h2 hsz hk => wpAny_pyIter_zip hz ?_
      have I2 : Inv X pins σ H1 { s1 with heap := h' } := I1.kept (t' := s1.toks) hk
      exact ⟨s1.heap.objs.size + 4, [s1.heap.objs.size + 4, s1.heap.objs.size + 2, s1.heap.objs.size + 3, s1.heap.objs.size, s1.heap.objs.size + 1], _, _, H1, rfl, I2, turn_zipM (PySem.W.ktu_apart s1.heap.objs.size a b (Heap.lt_size ho1) p2.lt), ⟨hz, hTI, ⟨_, _, hTO⟩, h1, h2⟩, fresh5, q⟩
/-- a loop over zip of two tuples of one length -/
theorem for_zipM {K : PySem.W.Frag} {a b : Addr} {xs ys : List V} {g : TG} {tb : TS} {D : Ends} {σ : L2.St} {H : Hp} (hl : xs.length = ys.length) (Pv : Nat → L2.St → Hp → Prop) (h0 : Pv 0 σ H) (hq : ∀ i σ H, Pv i σ H → SqT K H a xs ∧ SqL K H b ys)
    (hs : ∀ (i : Nat) (x y : V) (T : Addr) (σ : L2.St) (H : Hp), xs[i]? = some x → ys[i]? = some y → Pv i σ H → H T = none → g (.ref T) σ (upd H T (.tup [x, y])) fun σ2 H2 => tb { D with nx := Pv (i + 1), ct := Pv (i + 1), bk := D.nx } σ2 H2) (hd : ∀ σ H, Pv xs.length σ H → D.nx σ H) :
    ∃ W : Nat → Nat → L2.St → Hp → Prop, (∃ m, W 0 m σ H) ∧ ∀ i m σ H, W i m σ H →
      ((ItzM K a b).stop i H ∧ D.nx σ H) ∨ ((ItzM K a b).go i H ∧ ∃ N : L2.St → Hp → Prop, (∀ σ' H', N σ' H' → ∃ m', m' < m ∧ W (i + 1) m' σ' H') ∧ ∀ v H', (ItzM K a b).yld i H v H' → g v σ H' fun σ2 H2 => tb { D with nx := N, ct := N, bk := D.nx } σ2 H2) := by
  refine ⟨fun i m σ H => m = xs.length - i ∧ i ≤ xs.length ∧ Pv i σ H, ⟨xs.length, rfl, Nat.zero_le _, h0⟩, ?_⟩
  rintro i m σ H ⟨rfl, hi, p⟩
  obtain ⟨qx, qy⟩ := hq i σ H p
  by_cases hlt : i < xs.length
  · have hx : xs[i]? = some xs[i] := List.getElem?_eq_getElem hlt
    have hlt2 : i < ys.length := by omega
    have hy : ys[i]? = some ys[i] := List.getElem?_eq_getElem hlt2
    refine .inr ⟨⟨xs, ys, _, _, qx, qy, hx, hy⟩, Pv (i + 1), fun σ' H' p' => ⟨xs.length - (i + 1), by omega, rfl, hlt, p'⟩, fun v H' y => ?_⟩
    obtain ⟨T, x', y', rfl, hT, rfl, f1, f2⟩ := y
    exact hs i x' y' T σ H (f1 xs qx) (f2 ys qy) p hT
  · have e : i = xs.length := by omega
    subst e
    exact .inl ⟨⟨xs, ys, qx, qy, Or.inl (Nat.le_refl _)⟩, hd σ H p⟩
end QM
end

section
set_option Elab.async false
set_option linter.all false
set_option maxRecDepth 100000
set_option maxHeartbeats 4000000
/-! the text by places; what the top has left (Facts); rules put together; words and lists of words in the heap -/
namespace LP
open PySem L2 PyProof.Rows PySem.Spec
def top (i : Nat) : Stmt := PySem.Challenge.pw_lostplaces_k61_whole_doubled_swallowed_m.main.body.getD i (.Pass ⟨0, 0, 0, 0⟩)

abbrev st_is_whole : Stmt := top 7
def N_is_whole : List Str := ["thing", "low", "high"]
theorem sc_is_whole : FnScope N_is_whole ["thing", "low", "high"] (C8.fnScope st_is_whole) := C8.fnScope_by (by decide +kernel)
abbrev st_check_number : Stmt := top 8
def N_check_number : List Str := ["thing", "low", "high"]
theorem sc_check_number : FnScope N_check_number ["thing", "low", "high"] (C8.fnScope st_check_number) := C8.fnScope_by (by decide +kernel)
abbrev st_check_word : Stmt := top 9
def N_check_word : List Str := ["letters", "word", "most", "at", "letter"]
theorem sc_check_word : FnScope N_check_word ["letters", "word", "most"] (C8.fnScope st_check_word) := C8.fnScope_by (by decide +kernel)
abbrev st_run_rows : Stmt := top 11
def N_run_rows : List Str := ["word", "rows", "letter"]
theorem sc_run_rows : FnScope N_run_rows ["word"] (C8.fnScope st_run_rows) := C8.fnScope_by (by decide +kernel)
abbrev st_shape_of : Stmt := top 12
def N_shape_of : List Str := ["word", "row"]
theorem sc_shape_of : FnScope N_shape_of ["word"] (C8.fnScope st_shape_of) := C8.fnScope_by (by decide +kernel)
abbrev st_lengths_of : Stmt := top 13
def N_lengths_of : List Str := ["word", "row"]
theorem sc_lengths_of : FnScope N_lengths_of ["word"] (C8.fnScope st_lengths_of) := C8.fnScope_by (by decide +kernel)
abbrev st_RunPair___init__ : Stmt := L2.inClass (top 15) 0
def N_RunPair___init__ : List Str := ["self", "one", "other", "apart", "longer", "shorter"]
theorem sc_RunPair___init__ : FnScope N_RunPair___init__ ["self", "one", "other", "apart", "longer", "shorter"] (C8.fnScope st_RunPair___init__) := C8.fnScope_by (by decide +kernel)
abbrev st_RunPair___eq__ : Stmt := L2.inClass (top 15) 1
def N_RunPair___eq__ : List Str := ["self", "other"]
theorem sc_RunPair___eq__ : FnScope N_RunPair___eq__ ["self", "other"] (C8.fnScope st_RunPair___eq__) := C8.fnScope_by (by decide +kernel)
abbrev st_spelled_word : Stmt := top 16
def N_spelled_word : List Str := ["shape", "lengths", "word", "letter", "length"]
theorem sc_spelled_word : FnScope N_spelled_word ["shape", "lengths"] (C8.fnScope st_spelled_word) := C8.fnScope_by (by decide +kernel)
abbrev st_run_steps : Stmt := top 17
def N_run_steps : List Str := ["one", "other", "here", "there"]
theorem sc_run_steps : FnScope N_run_steps ["one", "other"] (C8.fnScope st_run_steps) := C8.fnScope_by (by decide +kernel)
abbrev st_runs_borne : Stmt := top 18
def N_runs_borne : List Str := ["book", "least", "at", "other", "one", "steps"]
theorem sc_runs_borne : FnScope N_runs_borne ["book"] (C8.fnScope st_runs_borne) := C8.fnScope_by (by decide +kernel)
abbrev st_bears_runs : Stmt := top 19
def N_bears_runs : List Str := ["book", "number"]
theorem sc_bears_runs : FnScope N_bears_runs ["book", "number"] (C8.fnScope st_bears_runs) := C8.fnScope_by (by decide +kernel)
abbrev st_runs_pair : Stmt := top 20
def N_runs_pair : List Str := ["book", "number", "at", "one", "other", "steps", "shape", "both", "longer", "shorter", "here", "there"]
theorem sc_runs_pair : FnScope N_runs_pair ["book", "number"] (C8.fnScope st_runs_pair) := C8.fnScope_by (by decide +kernel)
abbrev st_exact_word : Stmt := top 24
def N_exact_word : List Str := ["letters", "length", "word"]
theorem sc_exact_word : FnScope N_exact_word ["letters", "length", "word"] (C8.fnScope st_exact_word) := C8.fnScope_by (by decide +kernel)
abbrev st_unlike_words : Stmt := top 25
def N_unlike_words : List Str := ["letters", "length", "words", "told", "word"]
theorem sc_unlike_words : FnScope N_unlike_words ["letters", "length", "words"] (C8.fnScope st_unlike_words) := C8.fnScope_by (by decide +kernel)
abbrev st_Book___init__ : Stmt := L2.inClass (top 26) 0
def N_Book___init__ : List Str := ["self", "letters", "length", "words"]
theorem sc_Book___init__ : FnScope N_Book___init__ ["self", "letters", "length", "words"] (C8.fnScope st_Book___init__) := C8.fnScope_by (by decide +kernel)
abbrev st_rest_lengths : Stmt := top 28
def N_rest_lengths : List Str := ["one", "other", "rows", "letter", "under", "row", "at"]
theorem sc_rest_lengths : FnScope N_rest_lengths ["one", "other"] (C8.fnScope st_rest_lengths) := C8.fnScope_by (by decide +kernel)
abbrev st_longest_common : Stmt := top 30
def N_longest_common : List Str := ["one", "other"]
theorem sc_longest_common : FnScope N_longest_common ["one", "other"] (C8.fnScope st_longest_common) := C8.fnScope_by (by decide +kernel)
abbrev st_words_apart : Stmt := top 31
def N_words_apart : List Str := ["one", "other"]
theorem sc_words_apart : FnScope N_words_apart ["one", "other"] (C8.fnScope st_words_apart) := C8.fnScope_by (by decide +kernel)
abbrev st_book_couples : Stmt := top 32
def N_book_couples : List Str := ["book", "at", "one", "other"]
theorem sc_book_couples : FnScope N_book_couples ["book"] (C8.fnScope st_book_couples) := C8.fnScope_by (by decide +kernel)
abbrev st_borne_of : Stmt := top 33
def N_borne_of : List Str := ["book", "least", "one", "other"]
theorem sc_borne_of : FnScope N_borne_of ["book"] (C8.fnScope st_borne_of) := C8.fnScope_by (by decide +kernel)
abbrev st__law_hand : Stmt := top 35
def N__law_hand : List Str := ["_law_script", "_law_total", "_law_cells", "_law_cell"]
theorem sc__law_hand : FnScope N__law_hand ["_law_script"] (C8.fnScope st__law_hand) := C8.fnScope_by (by decide +kernel)
abbrev st__law_mixed : Stmt := top 36
def N__law_mixed : List Str := ["_law_number", "_law_turn", "_law_once", "_law_twice"]
theorem sc__law_mixed : FnScope N__law_mixed ["_law_number", "_law_turn"] (C8.fnScope st__law_mixed) := C8.fnScope_by (by decide +kernel)
abbrev st__law_take : Stmt := top 37
def N__law_take : List Str := ["_law_hand_here", "_law_many", "_law_cell", "_law_rest"]
theorem sc__law_take : FnScope N__law_take ["_law_hand_here", "_law_many"] (C8.fnScope st__law_take) := C8.fnScope_by (by decide +kernel)
abbrev st__law_word : Stmt := top 38
def N__law_word : List Str := ["_law_hand_here", "_law_q", "_law_n", "_law_k"]
theorem sc__law_word : FnScope N__law_word ["_law_hand_here", "_law_q", "_law_n"] (C8.fnScope st__law_word) := C8.fnScope_by (by decide +kernel)
abbrev st__law_runny : Stmt := top 39
def N__law_runny : List Str := ["_law_hand_here", "_law_q", "_law_n", "_law_told", "_law_letter", "_law_k"]
theorem sc__law_runny : FnScope N__law_runny ["_law_hand_here", "_law_q", "_law_n"] (C8.fnScope st__law_runny) := C8.fnScope_by (by decide +kernel)
abbrev st__law_runs : Stmt := top 40
def N__law_runs : List Str := ["_law_word_here", "_law_told", "_law_k"]
theorem sc__law_runs : FnScope N__law_runs ["_law_word_here"] (C8.fnScope st__law_runs) := C8.fnScope_by (by decide +kernel)
abbrev st__law_common : Stmt := top 41
def N__law_common : List Str := ["_law_one", "_law_other", "_law_row", "_law_letter", "_law_last", "_law_k", "_law_here"]
theorem sc__law_common : FnScope N__law_common ["_law_one", "_law_other"] (C8.fnScope st__law_common) := C8.fnScope_by (by decide +kernel)
abbrev st__law_borne : Stmt := top 42
def N__law_borne : List Str := ["_law_n", "_law_words", "_law_least", "_law_i", "_law_j"]
theorem sc__law_borne : FnScope N__law_borne ["_law_n", "_law_words"] (C8.fnScope st__law_borne) := C8.fnScope_by (by decide +kernel)
abbrev st__law_exact : Stmt := top 43
def N__law_exact : List Str := ["_law_told", "_law_due", "_law_k"]
theorem sc__law_exact : FnScope N__law_exact ["_law_told", "_law_due"] (C8.fnScope st__law_exact) := C8.fnScope_by (by decide +kernel)
abbrev st__law_either : Stmt := top 44
def N__law_either : List Str := ["_law_hand_here", "_law_word_here"]
theorem sc__law_either : FnScope N__law_either ["_law_hand_here", "_law_word_here"] (C8.fnScope st__law_either) := C8.fnScope_by (by decide +kernel)
abbrev st__law_shape : Stmt := top 45
def N__law_shape : List Str := ["_law_hand_here", "_law_q", "_law_runs_here", "_law_told", "_law_k"]
theorem sc__law_shape : FnScope N__law_shape ["_law_hand_here", "_law_q", "_law_runs_here"] (C8.fnScope st__law_shape) := C8.fnScope_by (by decide +kernel)
abbrev st__law_lengths : Stmt := top 46
def N__law_lengths : List Str := ["_law_hand_here", "_law_runs_here", "_law_total", "_law_told", "_law_k", "_law_at"]
theorem sc__law_lengths : FnScope N__law_lengths ["_law_hand_here", "_law_runs_here", "_law_total"] (C8.fnScope st__law_lengths) := C8.fnScope_by (by decide +kernel)
abbrev st__law_spelled : Stmt := top 47
def N__law_spelled : List Str := ["_law_shape_here", "_law_lengths_here", "_law_word_here", "_law_k"]
theorem sc__law_spelled : FnScope N__law_spelled ["_law_shape_here", "_law_lengths_here"] (C8.fnScope st__law_spelled) := C8.fnScope_by (by decide +kernel)
abbrev st__law_shape_of : Stmt := top 48
def N__law_shape_of : List Str := ["_law_word_here", "_law_row"]
theorem sc__law_shape_of : FnScope N__law_shape_of ["_law_word_here"] (C8.fnScope st__law_shape_of) := C8.fnScope_by (by decide +kernel)
abbrev st__law_lengths_of : Stmt := top 49
def N__law_lengths_of : List Str := ["_law_word_here", "_law_row"]
theorem sc__law_lengths_of : FnScope N__law_lengths_of ["_law_word_here"] (C8.fnScope st__law_lengths_of) := C8.fnScope_by (by decide +kernel)
abbrev st__law_swollen : Stmt := top 50
def N__law_swollen : List Str := ["_law_word_here", "_law_k"]
theorem sc__law_swollen : FnScope N__law_swollen ["_law_word_here"] (C8.fnScope st__law_swollen) := C8.fnScope_by (by decide +kernel)
abbrev st__law_shrunk : Stmt := top 51
def N__law_shrunk : List Str := ["_law_word_here", "_law_k"]
theorem sc__law_shrunk : FnScope N__law_shrunk ["_law_word_here"] (C8.fnScope st__law_shrunk) := C8.fnScope_by (by decide +kernel)
abbrev st__law_swollen_levels : Stmt := top 52
def N__law_swollen_levels : List Str := ["_law_word_here", "_law_most", "_law_levels", "_law_k", "_law_told", "_law_one"]
theorem sc__law_swollen_levels : FnScope N__law_swollen_levels ["_law_word_here", "_law_most"] (C8.fnScope st__law_swollen_levels) := C8.fnScope_by (by decide +kernel)
abbrev st__law_shrunk_levels : Stmt := top 53
def N__law_shrunk_levels : List Str := ["_law_word_here", "_law_most", "_law_levels", "_law_k", "_law_told", "_law_one"]
theorem sc__law_shrunk_levels : FnScope N__law_shrunk_levels ["_law_word_here", "_law_most"] (C8.fnScope st__law_shrunk_levels) := C8.fnScope_by (by decide +kernel)
abbrev st__law_mixed_levels : Stmt := top 54
def N__law_mixed_levels : List Str := ["_law_word_here", "_law_most", "_law_levels", "_law_k", "_law_told", "_law_one"]
theorem sc__law_mixed_levels : FnScope N__law_mixed_levels ["_law_word_here", "_law_most"] (C8.fnScope st__law_mixed_levels) := C8.fnScope_by (by decide +kernel)
abbrev st__law_apart : Stmt := top 55
def N__law_apart : List Str := ["_law_one", "_law_other", "_law_here", "_law_there", "_law_k"]
theorem sc__law_apart : FnScope N__law_apart ["_law_one", "_law_other"] (C8.fnScope st__law_apart) := C8.fnScope_by (by decide +kernel)
abbrev st__law_runs_borne : Stmt := top 56
def N__law_runs_borne : List Str := ["_law_n", "_law_words", "_law_least", "_law_i", "_law_j", "_law_apart_here"]
theorem sc__law_runs_borne : FnScope N__law_runs_borne ["_law_n", "_law_words"] (C8.fnScope st__law_runs_borne) := C8.fnScope_by (by decide +kernel)
abbrev st__law_run_words : Stmt := top 57
def N__law_run_words : List Str := ["_law_hand_here", "_law_q", "_law_n", "_law_most", "_law_k", "_law_shapes", "_law_told", "_law_shape_here", "_law_word_here"]
theorem sc__law_run_words : FnScope N__law_run_words ["_law_hand_here", "_law_q", "_law_n", "_law_most"] (C8.fnScope st__law_run_words) := C8.fnScope_by (by decide +kernel)
abbrev st__law_united : Stmt := top 58
def N__law_united : List Str := ["_law_levels", "_law_told", "_law_level"]
theorem sc__law_united : FnScope N__law_united ["_law_levels"] (C8.fnScope st__law_united) := C8.fnScope_by (by decide +kernel)
abbrev st__law_unlike_all : Stmt := top 59
def N__law_unlike_all : List Str := ["_law_lists", "_law_told", "_law_some"]
theorem sc__law_unlike_all : FnScope N__law_unlike_all ["_law_lists"] (C8.fnScope st__law_unlike_all) := C8.fnScope_by (by decide +kernel)
abbrev st__law_three_ways : Stmt := top 60
def N__law_three_ways : List Str := ["_law_words", "_law_number", "_law_swollen_here", "_law_shrunk_here", "_law_mixed_here", "_law_word_here"]
theorem sc__law_three_ways : FnScope N__law_three_ways ["_law_words", "_law_number"] (C8.fnScope st__law_three_ways) := C8.fnScope_by (by decide +kernel)
abbrev st__law_first_couple : Stmt := top 61
def N__law_first_couple : List Str := ["_law_words", "_law_number", "_law_i", "_law_one", "_law_j", "_law_other", "_law_deeds", "_law_longer", "_law_below", "_law_shorter", "_law_word_here"]
theorem sc__law_first_couple : FnScope N__law_first_couple ["_law_words", "_law_number"] (C8.fnScope st__law_first_couple) := C8.fnScope_by (by decide +kernel)
abbrev st__law_pair_holds : Stmt := top 62
def N__law_pair_holds : List Str := ["_law_book", "_law_words", "_law_number", "_law_pair", "_law_due", "_law_told", "_law_k", "_law_less"]
theorem sc__law_pair_holds : FnScope N__law_pair_holds ["_law_book", "_law_words", "_law_number"] (C8.fnScope st__law_pair_holds) := C8.fnScope_by (by decide +kernel)
abbrev st__law_book_holds : Stmt := top 63
def N__law_book_holds : List Str := ["_law_hand_here", "_law_q", "_law_length", "_law_words", "_law_book", "_law_borne_here", "_law_due", "_law_number", "_law_bears", "_law_far", "_law_first", "_law_one", "_law_other", "_law_word_here"]
theorem sc__law_book_holds : FnScope N__law_book_holds ["_law_hand_here", "_law_q", "_law_length", "_law_words"] (C8.fnScope st__law_book_holds) := C8.fnScope_by (by decide +kernel)
abbrev st__law_long_pair : Stmt := top 64
def N__law_long_pair : List Str := ["_law_hand_here", "_law_q", "_law_runs_here", "_law_shape_here", "_law_length", "_law_here", "_law_there", "_law_k", "_law_less", "_law_more", "_law_words", "_law_apart_here", "_law_book", "_law_pair", "_law_told", "_law_longer", "_law_shorter"]
theorem sc__law_long_pair : FnScope N__law_long_pair ["_law_hand_here", "_law_q"] (C8.fnScope st__law_long_pair) := C8.fnScope_by (by decide +kernel)
abbrev st_law : Stmt := top 65
def N_law : List Str := ["_law_script", "_law_hand_here", "_law_q", "_law_length", "_law_words", "_law_at", "_law_word_here"]
theorem sc_law : FnScope N_law ["_law_script"] (C8.fnScope st_law) := C8.fnScope_by (by decide +kernel)

/-- a def of the module, all its parameters given -/
structure DB (K : PySem.W.Frag) (mg : Str → Option Value) (x : Str) (st : Stmt) (ps : List Str) : Prop where
  ex : ∃ f fd, C8.Def K mg x st f fd ∧ Binds K fd ps []
structure Facts (K : PySem.W.Frag) (mg : Str → Option Value) (CP CB : Addr) : Prop where
  d_is_whole : DB K mg "is_whole" st_is_whole ["thing", "low", "high"]
  d_check_number : DB K mg "check_number" st_check_number ["thing", "low", "high"]
  d_check_word : DB K mg "check_word" st_check_word ["letters", "word", "most"]
  d_run_rows : DB K mg "run_rows" st_run_rows ["word"]
  d_shape_of : DB K mg "shape_of" st_shape_of ["word"]
  d_lengths_of : DB K mg "lengths_of" st_lengths_of ["word"]
  d_spelled_word : DB K mg "spelled_word" st_spelled_word ["shape", "lengths"]
  d_run_steps : DB K mg "run_steps" st_run_steps ["one", "other"]
  d_runs_borne : DB K mg "runs_borne" st_runs_borne ["book"]
  d_bears_runs : DB K mg "bears_runs" st_bears_runs ["book", "number"]
  d_runs_pair : DB K mg "runs_pair" st_runs_pair ["book", "number"]
  d_exact_word : DB K mg "exact_word" st_exact_word ["letters", "length", "word"]
  d_unlike_words : DB K mg "unlike_words" st_unlike_words ["letters", "length", "words"]
  d_rest_lengths : DB K mg "rest_lengths" st_rest_lengths ["one", "other"]
  d_longest_common : DB K mg "longest_common" st_longest_common ["one", "other"]
  d_words_apart : DB K mg "words_apart" st_words_apart ["one", "other"]
  d_book_couples : DB K mg "book_couples" st_book_couples ["book"]
  d_borne_of : DB K mg "borne_of" st_borne_of ["book"]
  d__law_hand : DB K mg "_law_hand" st__law_hand ["_law_script"]
  d__law_mixed : DB K mg "_law_mixed" st__law_mixed ["_law_number", "_law_turn"]
  d__law_take : DB K mg "_law_take" st__law_take ["_law_hand_here", "_law_many"]
  d__law_word : DB K mg "_law_word" st__law_word ["_law_hand_here", "_law_q", "_law_n"]
  d__law_runny : DB K mg "_law_runny" st__law_runny ["_law_hand_here", "_law_q", "_law_n"]
  d__law_runs : DB K mg "_law_runs" st__law_runs ["_law_word_here"]
  d__law_common : DB K mg "_law_common" st__law_common ["_law_one", "_law_other"]
  d__law_borne : DB K mg "_law_borne" st__law_borne ["_law_n", "_law_words"]
  d__law_exact : DB K mg "_law_exact" st__law_exact ["_law_told", "_law_due"]
  d__law_either : DB K mg "_law_either" st__law_either ["_law_hand_here", "_law_word_here"]
  d__law_shape : DB K mg "_law_shape" st__law_shape ["_law_hand_here", "_law_q", "_law_runs_here"]
  d__law_lengths : DB K mg "_law_lengths" st__law_lengths ["_law_hand_here", "_law_runs_here", "_law_total"]
  d__law_spelled : DB K mg "_law_spelled" st__law_spelled ["_law_shape_here", "_law_lengths_here"]
  d__law_shape_of : DB K mg "_law_shape_of" st__law_shape_of ["_law_word_here"]
  d__law_lengths_of : DB K mg "_law_lengths_of" st__law_lengths_of ["_law_word_here"]
  d__law_swollen : DB K mg "_law_swollen" st__law_swollen ["_law_word_here"]
  d__law_shrunk : DB K mg "_law_shrunk" st__law_shrunk ["_law_word_here"]
  d__law_swollen_levels : DB K mg "_law_swollen_levels" st__law_swollen_levels ["_law_word_here", "_law_most"]
  d__law_shrunk_levels : DB K mg "_law_shrunk_levels" st__law_shrunk_levels ["_law_word_here", "_law_most"]
  d__law_mixed_levels : DB K mg "_law_mixed_levels" st__law_mixed_levels ["_law_word_here", "_law_most"]
  d__law_apart : DB K mg "_law_apart" st__law_apart ["_law_one", "_law_other"]
  d__law_runs_borne : DB K mg "_law_runs_borne" st__law_runs_borne ["_law_n", "_law_words"]
  d__law_run_words : DB K mg "_law_run_words" st__law_run_words ["_law_hand_here", "_law_q", "_law_n", "_law_most"]
  d__law_united : DB K mg "_law_united" st__law_united ["_law_levels"]
  d__law_unlike_all : DB K mg "_law_unlike_all" st__law_unlike_all ["_law_lists"]
  d__law_three_ways : DB K mg "_law_three_ways" st__law_three_ways ["_law_words", "_law_number"]
  d__law_first_couple : DB K mg "_law_first_couple" st__law_first_couple ["_law_words", "_law_number"]
  d__law_pair_holds : DB K mg "_law_pair_holds" st__law_pair_holds ["_law_book", "_law_words", "_law_number"]
  d__law_book_holds : DB K mg "_law_book_holds" st__law_book_holds ["_law_hand_here", "_law_q", "_law_length", "_law_words"]
  d__law_long_pair : DB K mg "_law_long_pair" st__law_long_pair ["_law_hand_here", "_law_q"]
  d_law : DB K mg "law" st_law ["_law_script"]
  d_check_word2 : ∃ f fd ds, C8.Def K mg "check_word" st_check_word f fd ∧ Binds K fd ["letters", "word", "most"] ds ∧ Vals [.int 24] ds
  n_len : mg "len" = none
  n_int : mg "int" = none
  n_abs : mg "abs" = none
  n_range : mg "range" = none
  n_tuple : mg "tuple" = none
  n_list : mg "list" = none
  n_sorted : mg "sorted" = none
  n_set : mg "set" = none
  n_sum : mg "sum" = none
  n_max : mg "max" = none
  n_min : mg "min" = none
  n_all : mg "all" = none
  n_zip : mg "zip" = none
  n_enumerate : mg "enumerate" = none
  n_isinstance : mg "isinstance" = none
  n_bool : mg "bool" = none
  n_str : mg "str" = none
  g_MOST_LENGTH : ∃ u, mg "MOST_LENGTH" = some u ∧ RelV (.int 24) u
  g_MOST_MEMBERS : ∃ u, mg "MOST_MEMBERS" = some u ∧ RelV (.int 64) u
  g_RunPair : ∃ u, mg "RunPair" = some u ∧ RelV (.ref CP) u
  g_Book : ∃ u, mg "Book" = some u ∧ RelV (.ref CB) u
  i_RunPair : C8.InsC K CP
  i_Book : C8.InsC K CB
  bw : ∃ C, mg "BadWord" = some (.ref C)
  pi : ∃ f fd, Mk K CP f ∧ mg "RunPair" = some (.ref CP) ∧ C8.Fun K "__init__" "RunPair.__init__" st_RunPair___init__ f fd ∧ Binds K fd ["self", "one", "other", "apart", "longer", "shorter"] []
  pe : ∃ f fd, PySem.W.findIn K (.ref CP) "__eq__" = some (some (.ref f)) ∧ PySem.W.isFn K (.ref f) = true ∧ C8.Fun K "__eq__" "RunPair.__eq__" st_RunPair___eq__ f fd ∧ Binds K fd ["self", "other"] []
  bi : ∃ f fd, Mk K CB f ∧ mg "Book" = some (.ref CB) ∧ C8.Fun K "__init__" "Book.__init__" st_Book___init__ f fd ∧ Binds K fd ["self", "letters", "length", "words"] []
  p_one : NoAttr K CP "one"
  p_other : NoAttr K CP "other"
  p_apart : NoAttr K CP "apart"
  p_longer : NoAttr K CP "longer"
  p_shorter : NoAttr K CP "shorter"
  b_letters : NoAttr K CB "letters"
  b_length : NoAttr K CB "length"
  b_words : NoAttr K CB "words"
  b_size : NoAttr K CB "size"


section
variable {X : Cx}
theorem hu64 {A : Around} {k : Nat} (hr : Room k A) : A.units + 64 < cLine := Nat.lt_of_le_of_lt (Nat.le_refl _) hr.units
theorem hu65 {A : Around} {k : Nat} (hr : Room k A) : A.units + 65 < cLine := by have := hr.un; omega
/-- one of two readings of an operator -/
theorem op_or {f : Value → Value → Sem Value} {r1 r2 : R2} (h1 : OpR X f r1) (h2 : OpR X f r2) : OpR X f (fun x y H Q => r1 x y H Q ∨ r2 x y H Q) := by
  intro pins s σ H x y v u Q I rx ry h
  rcases h with h | h
  · exact h1 pins s σ H x y v u Q I rx ry h
  · exact h2 pins s σ H x y v u Q I rx ry h
variable {K : PySem.W.Frag}
theorem ix_listK (h : X.K = K) : IxR X (rIxL K) := h ▸ ix_list
theorem ix_tupK (h : X.K = K) : IxR X (rIxT K) := h ▸ ix_tup
theorem sl_tupK (h : X.K = K) : SlR X (rSlA K) := h ▸ sl_tupA
theorem sl_listK (h : X.K = K) : SlR X (rSlL K) := h ▸ sl_list
theorem op_catK (h : X.K = K) : OpR X (binaryOp .Add) (rCatA K) := h ▸ op_catA
theorem op_inK (h : X.K = K) (hu : X.A.units + 65 < cLine) : OpR X (compareOp .In) (rInD K) := h ▸ op_inD hu
theorem op_notInK (h : X.K = K) (hu : X.A.units + 65 < cLine) : OpR X (compareOp .NotIn) (rNotInD K) := h ▸ op_notInD hu
theorem op_eqK (h : X.K = K) (hu : X.A.units + 64 < cLine) : OpR X (compareOp .Eq) (rEqD K) := h ▸ op_eqD hu
theorem op_neK (h : X.K = K) (hu : X.A.units + 64 < cLine) : OpR X (compareOp .NotEq) (rNeD K) := h ▸ op_neD hu
theorem op_ltK (h : X.K = K) (hu : X.A.units < cLine) : OpR X (compareOp .Lt) (rLtT K) := h ▸ op_ltT hu
section
variable {o : Expr} {ta : TE} {f : Str} {pos : Pos}
theorem pe_fldK (h : X.K = K) (he : PE X o ta) (hb : attributeBase o f X.env (eval o X.env) = eval o X.env) : PE X (.Attribute o f pos) (tFld K ta f) := h ▸ pe_fld he hb
theorem pi_tupK {tg l : Expr} {tl : TE} (h : X.K = K) (hl : PE X l tl) : PI X tg l (iTup K tl) := h ▸ pi_tup hl
theorem pi_listK {tg l : Expr} {tl : TE} (h : X.K = K) (hl : PE X l tl) : PI X tg l (iList K tl) := h ▸ pi_list hl
theorem pg_tup2 {es : List Expr} {k : Nat} {t : TGs} (hK : X.K = K) (hc : X.calm = true) (h : PGs X es t) (hn : (assignEach es X.env).length = 2 := by rfl) (hst : (assignEach es X.env).findIdx? (·.1) = none := by rfl) : PG X (.Tuple es k pos) (gTup K 2 t) := hK ▸ pg_tup hc h hn hst
end
def rLenK (K : PySem.W.Frag) : List V → Hp → VK → Prop := fun xs H Q => ∃ p ys, xs = [.ref p] ∧ (SqL K H p ys ∨ SqT K H p ys) ∧ Q (.int ys.length) H
theorem cr_lenK (h : X.K = K) : CallR X (.builtin "len") (rLenK K) := h ▸ call_len_seq
def rListK (K : PySem.W.Frag) : List V → Hp → VK → Prop := fun xs H Q => ∃ p ys, xs = [.ref p] ∧ (SqL K H p ys ∨ SqT K H p ys) ∧ ∀ l, H l = none → Q (.ref l) (upd H l (.lst ys))
theorem cr_listK (h : X.K = K) : CallR X (.type "list") (rListK K) := h ▸ call_list_of
def rTupleK (K : PySem.W.Frag) : List V → Hp → VK → Prop := fun xs H Q => ∃ p ys, xs = [.ref p] ∧ ((SqL K H p ys ∧ ∀ l, H l = none → Q (.ref l) (upd H l (.tup ys))) ∨ (SqT K H p ys ∧ Q (.ref p) H))
theorem cr_tupleK (h : X.K = K) : CallR X (.type "tuple") (rTupleK K) := h ▸ call_tuple_of
theorem cr_sumK (h : X.K = K) (hc : X.calm = true) : CallR X (.builtin "sum") (rSum K) := h ▸ cr_sum hc
theorem cr_allK (h : X.K = K) (hc : X.calm = true) : CallR X (.builtin "all") (rAll K) := h ▸ cr_all hc
theorem cr_isiK (h : X.K = K) : CallR X (.builtin "isinstance") (rIsi K) := h ▸ call_isi
theorem cr_isiTK (h : X.K = K) : CallR X (.builtin "isinstance") (rIsiT K) := h ▸ call_isiT
theorem cr_setK {P : Program} {w : World} (h : X.K = K) (hP : X.prog = P) (hw : X.w = w) (hc : X.calm = true) (hu : X.A.units + 64 < cLine) : CallR X (.type "set") (QT.rSet K P w) := by subst h hP hw; exact QT.cr_set hc hu
theorem cr_sortLK (h : X.K = K) : CallR X (.builtin "sorted") (QT.rSortL K) := h ▸ QT.cr_sortL
theorem cr_sortSK {P : Program} {w : World} (h : X.K = K) (hP : X.prog = P) (hw : X.w = w) (hc : X.calm = true) : CallR X (.builtin "sorted") (QT.rSortS K P w) := by subst h hP hw; exact QT.cr_sortS hc
theorem cr_lenSK {P : Program} {w : World} (hP : X.prog = P) (hw : X.w = w) : CallR X (.builtin "len") (QT.rLenSet P w) := by subst hP hw; exact QT.cr_lenS
def rRepTA (K : PySem.W.Frag) : R2 := fun x y H Q => QU.rRepT1 K x y H Q ∨ rRepT K x y H Q
theorem op_repTA (h : X.K = K) : OpR X (binaryOp .Mult) (rRepTA K) := h ▸ op_or QU.op_repT1 op_repT
end
end LP
end

section
set_option Elab.async false
set_option linter.all false
set_option maxRecDepth 100000
set_option maxHeartbeats 4000000
namespace LP
open PySem L2 PyProof.Rows PySem.Spec Evl
/-! data for == and in -/
structure Sh (k : Nat) (d : PyData) : Prop where
  lay : d.canLay0 = true
  dep : d.depth ≤ k
theorem Sh.shaped {k : Nat} {d : PyData} (h : Sh k d) (hk : k ≤ 64 := by decide) : SeqAt.shaped d = true := by
  show (d.canLay0 && decide (d.depth ≤ 64)) = true
  rw [Bool.and_eq_true]
  exact ⟨h.lay, decide_eq_true (Nat.le_trans h.dep hk)⟩
theorem sh_int {k : Nat} (i : Int) : Sh k (.int i) := ⟨by simp only [PyData.canLay0], by simp only [PyData.depth]; exact Nat.zero_le _⟩
theorem sh_bool {k : Nat} (i : Bool) : Sh k (.bool i) := ⟨by simp only [PyData.canLay0], by simp only [PyData.depth]; exact Nat.zero_le _⟩
theorem sh_none {k : Nat} : Sh k .none := ⟨by simp only [PyData.canLay0], by simp only [PyData.depth]; exact Nat.zero_le _⟩
theorem shAll {k : Nat} : ∀ {ds : List PyData}, (∀ d ∈ ds, Sh k d) → PyData.canLayAll0 ds = true ∧ PyData.depthAll ds ≤ k
  | [], _ => ⟨by simp only [PyData.canLayAll0], by simp only [PyData.depthAll]; exact Nat.zero_le _⟩
  | d :: ds, h => by
    have h1 := h d (List.mem_cons_self ..)
    have h2 := shAll (ds := ds) fun x hx => h x (List.mem_cons_of_mem _ hx)
    refine ⟨?_, ?_⟩
    · simp only [PyData.canLayAll0, Bool.and_eq_true]
      exact ⟨h1.lay, h2.1⟩
    · simp only [PyData.depthAll]
      have a := h1.dep
      have b := h2.2
      omega
theorem sh_list {k : Nat} {ds : List PyData} (h : ∀ d ∈ ds, Sh k d) : Sh (k + 1) (.list ds) := ⟨by simp only [PyData.canLay0]; exact (shAll h).1, by simp only [PyData.depth]; have := (shAll h).2; omega⟩
theorem sh_tup {k : Nat} {ds : List PyData} (h : ∀ d ∈ ds, Sh k d) : Sh (k + 1) (.tuple ds) := ⟨by simp only [PyData.canLay0]; exact (shAll h).1, by simp only [PyData.depth]; have := (shAll h).2; omega⟩
theorem Sh.mono {k j : Nat} {d : PyData} (h : Sh k d) (e : k ≤ j) : Sh j d := ⟨h.lay, Nat.le_trans h.dep e⟩
def dT (ns : List Int) : PyData := .tuple (ns.map PyData.int)
def dL (ns : List Int) : PyData := .list (ns.map PyData.int)
theorem sh_ints {k : Nat} {ns : List Int} : ∀ d ∈ ns.map PyData.int, Sh k d := fun d hd => by
  obtain ⟨n, _, rfl⟩ := List.mem_map.mp hd
  exact sh_int n
theorem sh_dT (ns : List Int) : Sh 1 (dT ns) := sh_tup sh_ints
theorem sh_dL (ns : List Int) : Sh 1 (dL ns) := sh_list sh_ints
theorem eqv_ints : ∀ ns ms : List Int, PyData.eqvAll (ns.map PyData.int) (ms.map PyData.int) = decide (ns = ms)
  | [], [] => by simp only [List.map_nil, PyData.eqvAll]; rfl
  | n :: ns, [] => by simp only [List.map_cons, List.map_nil, PyData.eqvAll]; rfl
  | [], m :: ms => by simp only [List.map_cons, List.map_nil, PyData.eqvAll]; rfl
  | n :: ns, m :: ms => by
    simp only [List.map_cons, PyData.eqvAll, PyData.eqv, eqv_ints ns ms]
    by_cases h : n = m
    · subst h; simp
    · simp [h]
theorem eqv_bools : ∀ ns ms : List Bool, PyData.eqvAll (ns.map PyData.bool) (ms.map PyData.bool) = decide (ns = ms)
  | [], [] => by simp only [List.map_nil, PyData.eqvAll]; rfl
  | n :: ns, [] => by simp only [List.map_cons, List.map_nil, PyData.eqvAll]; rfl
  | [], m :: ms => by simp only [List.map_cons, List.map_nil, PyData.eqvAll]; rfl
  | n :: ns, m :: ms => by
    simp only [List.map_cons, PyData.eqvAll, PyData.eqv, eqv_bools ns ms]
    by_cases h : n = m
    · subst h; simp
    · simp [h]
theorem eqv_dT (ns ms : List Int) : PyData.eqv (dT ns) (dT ms) = decide (ns = ms) := by
  simp only [dT, PyData.eqv]
  exact eqv_ints ns ms
theorem eqv_dL (ns ms : List Int) : PyData.eqv (dL ns) (dL ms) = decide (ns = ms) := by
  simp only [dL, PyData.eqv]
  exact eqv_ints ns ms
theorem eqvAll_map {α : Type} {f : α → PyData} [DecidableEq α] (hf : ∀ a b, PyData.eqv (f a) (f b) = decide (a = b)) : ∀ xs ys : List α, PyData.eqvAll (xs.map f) (ys.map f) = decide (xs = ys)
  | [], [] => by simp only [List.map_nil, PyData.eqvAll]; rfl
  | n :: ns, [] => by simp only [List.map_cons, List.map_nil, PyData.eqvAll]; rfl
  | [], m :: ms => by simp only [List.map_cons, List.map_nil, PyData.eqvAll]; rfl
  | n :: ns, m :: ms => by
    simp only [List.map_cons, PyData.eqvAll, hf, eqvAll_map hf ns ms]
    by_cases h : n = m
    · subst h; simp
    · simp [h]
theorem eqv_dTs (xs ys : List (List Int)) : PyData.eqvAll (xs.map dT) (ys.map dT) = decide (xs = ys) := eqvAll_map eqv_dT xs ys
theorem eqv_nil (xs : List PyData) : PyData.eqv (.list xs) (.list []) = xs.isEmpty := by
  cases xs <;> simp [PyData.eqv, PyData.eqvAll]
section
variable {K : PySem.W.Frag} {H H' : Hp}
theorem dp_ints : ∀ ns : List Int, DpAll K H (ns.map V.int) (ns.map PyData.int)
  | [] => .nil
  | n :: ns => .cons (.int n) (dp_ints ns)
theorem dp_bools : ∀ ns : List Bool, DpAll K H (ns.map V.bl) (ns.map PyData.bool)
  | [] => .nil
  | n :: ns => .cons (.bl n) (dp_bools ns)
theorem dp_T {a : Addr} {ns : List Int} (h : H a = some (.tup (ns.map V.int))) : Dp K H (.ref a) (dT ns) := .tup (SqT.of h) (dp_ints ns)
theorem dp_L {a : Addr} {ns : List Int} (h : H a = some (.lst (ns.map V.int))) : Dp K H (.ref a) (dL ns) := .lst (SqL.of h) (dp_ints ns)
theorem dp_map {α : Type} {f : α → V} {g : α → PyData} : ∀ {xs : List α}, (∀ x ∈ xs, Dp K H (f x) (g x)) → DpAll K H (xs.map f) (xs.map g)
  | [], _ => .nil
  | x :: xs, h => .cons (h x (List.mem_cons_self ..)) (dp_map fun y hy => h y (List.mem_cons_of_mem _ hy))
end
/-- a comprehension without if keeps all -/
theorem lcY {σ : L2.St} {H : Hp} {A B : Hp → Prop} (h : A H) : tYes σ H (fun b H3 => if b = true then A H3 else B H3) := by
  show if true = true then A H else B H
  exact iteT h
/-! words and rows in the heap -/
abbrev Row := QT.Row
abbrev refs := QT.refs
/-- each row's tuple stands -/
def RT (H : Hp) (ks : List Row) : Prop := ∀ p ∈ ks, H p.1 = some (.tup (p.2.map V.int))
theorem RT.mono {H H' : Hp} {ks : List Row} (h : RT H ks) (e : Ex H H') : RT H' ks := fun p hp => e _ _ (h p hp)
theorem RT.rows {K : PySem.W.Frag} {H : Hp} {ks : List Row} (h : RT H ks) : QT.Rows K H ks := fun p hp => SqT.of (h p hp)
theorem RT.nil {H : Hp} : RT H [] := fun p hp => nomatch hp
theorem RT.sub {H : Hp} {ks js : List Row} (h : RT H ks) (e : ∀ p ∈ js, p ∈ ks) : RT H js := fun p hp => h p (e p hp)
theorem RT.app {H : Hp} {ks js : List Row} (h : RT H ks) (h' : RT H js) : RT H (ks ++ js) := fun p hp => (List.mem_append.mp hp).elim (h p) (h' p)
theorem RT.at {H : Hp} {ks : List Row} (h : RT H ks) {i : Nat} {x : V} (e : (refs ks)[i]? = some x) : ∃ a ns, x = .ref a ∧ ks[i]? = some (a, ns) ∧ H a = some (.tup (ns.map V.int)) := by
  rw [List.getElem?_map] at e
  cases q : ks[i]? with
  | none => rw [q] at e; cases e
  | some p =>
    rw [q] at e
    cases e
    exact ⟨p.1, p.2, rfl, rfl, h p (List.mem_of_getElem? q)⟩
/-- a list of words stands at a | a tuple of words -/
structure LW (H : Hp) (a : Addr) (ks : List Row) : Prop where
  at_ : H a = some (.lst (refs ks))
  rt : RT H ks
structure TW (H : Hp) (a : Addr) (ks : List Row) : Prop where
  at_ : H a = some (.tup (refs ks))
  rt : RT H ks
theorem LW.mono {H H' : Hp} {a : Addr} {ks : List Row} (h : LW H a ks) (e : Ex H H') : LW H' a ks := ⟨e _ _ h.at_, h.rt.mono e⟩
theorem TW.mono {H H' : Hp} {a : Addr} {ks : List Row} (h : TW H a ks) (e : Ex H H') : TW H' a ks := ⟨e _ _ h.at_, h.rt.mono e⟩
theorem dp_rows {K : PySem.W.Frag} {H : Hp} {ks : List Row} (h : RT H ks) : DpAll K H (refs ks) (ks.map fun p => dT p.2) := dp_map fun p hp => dp_T (h p hp)
theorem int_at {ns : List Int} {i : Nat} {y : V} (e : (ns.map V.int)[i]? = some y) : ∃ z, y = .int z ∧ ns[i]? = some z := by
  rw [List.getElem?_map] at e
  cases h : ns[i]? with
  | none => rw [h] at e; cases e
  | some z => rw [h] at e; cases e; exact ⟨z, rfl, rfl⟩
theorem map_at {α : Type} {f : α → V} {xs : List α} {i : Nat} {y : V} (e : (xs.map f)[i]? = some y) : ∃ z, y = f z ∧ xs[i]? = some z := by
  rw [List.getElem?_map] at e
  cases h : xs[i]? with
  | none => rw [h] at e; cases e
  | some z => rw [h] at e; cases e; exact ⟨z, rfl, rfl⟩
theorem at_map {α : Type} {f : α → V} {xs : List α} {i : Nat} {z : α} (e : xs[i]? = some z) : (xs.map f)[i]? = some (f z) := by rw [List.getElem?_map, e]; rfl
theorem ne_obj {H : Hp} {a b : Addr} {o u : HO} (h : H a = some o) (h' : H b = some u) (e : o ≠ u) : a ≠ b := fun z => by
  subst z
  rw [h] at h'
  exact e (Option.some.inj h')
theorem ne_no {H : Hp} {a b : Addr} {o : HO} (h : H a = some o) (h' : H b = none) : a ≠ b := fun z => by
  subst z
  rw [h] at h'
  cases h'
theorem ne_lt {H : Hp} {a b : Addr} {xs ys : List V} (h : H a = some (.lst xs)) (h' : H b = some (.tup ys)) : a ≠ b := ne_obj h h' (fun z => by cases z)
end LP
end

section
set_option Elab.async false
set_option linter.all false
set_option maxRecDepth 100000
set_option maxHeartbeats 4000000
namespace LP
open PySem L2 PyProof.Rows PySem.Spec Evl
section
variable {P : Program} {w : World} {K : PySem.W.Frag} {mg : Str → Option Value} {base : Heap} {CP CB : Addr}
theorem ev_T {A B : Prop} {c : Bool} (hc : c = true) (h : A) : if c = true then A else B := by rw [if_pos hc]; exact h
theorem ev_F {A B : Prop} {c : Bool} (hc : c = false) (h : B) : if c = true then A else B := by rw [if_neg (by rw [hc]; exact Bool.false_ne_true)]; exact h
def spIsWhole : Sp := fun vs H Q _ => ∃ i lo hi : Int, vs = [.int i, .int lo, .int hi] ∧ Q (.bl (decide (lo ≤ i ∧ i ≤ hi))) H
theorem c_is_whole (F : Facts K mg CP CB) : C8.Cal P w K mg base 1 "is_whole" spIsWhole [] := by
  obtain ⟨f, fd, D, b⟩ := F.d_is_whole
  refine C8.cal0 D b .nil sc_is_whole (fun vs H Q E h => ?_) (fun cdv A outer s H vs Q E hr h => ?_)
  · obtain ⟨i, lo, hi, rfl, _⟩ := h
    rfl
  · obtain ⟨i, lo, hi, rfl, k⟩ := h
    refine ⟨_, (pss_cons (ps_if (PW.pt (pw_or (pt_not (pt_val (pe_callB (cr_isiK (K := K) rfl) (by rfl) F.n_isinstance (by decide +kernel) (pa_cons (pv 0) (pa_cons (pe_bltn (v := V.ty "int") (u := Value.type "int") (by rfl) F.n_int (by decide +kernel) rfl) pa_nil))))) (pw_or1 (pt_val (pe_callB (cr_isiK (K := K) rfl) (by rfl) F.n_isinstance (by decide +kernel) (pa_cons (pv 0) (pa_cons (pe_bltn (v := V.ty "bool") (u := Value.type "bool") (by rfl) F.n_bool (by decide +kernel) rfl) pa_nil))))))) (pss_one (ps_ret pe_bl)) pss_nil)
  (pss_cons (ps_if (PW.pt (pw_and (pt_cmpR op_notN (pv 1) pe_non (nomark _)) (pw_and1 (pt_cmpR op_lt (pv 0) (pv 1) (nomark _))))) (pss_one (ps_ret pe_bl)) pss_nil)
  (pss_one (ps_ret (pe_or (pe_cmpR op_isN (pv 2) pe_non (nomark _)) (pe_one (pe_cmpR op_le (pv 0) (pv 2) (nomark _)))))))), ?_⟩
    refine ⟨_, rfl, _, _, _, _, true, rfl, .ty "int", .base (.int i), kit_ty (by decide +kernel), true, rfl, ?_⟩
    refine iteF ?_
    refine ⟨_, rfl, _, _, _, _, false, rfl, .ty "bool", .base (.int i), kit_ty (by decide +kernel), false, rfl, ?_⟩
    refine iteF ?_
    refine ⟨_, rfl, rfl, true, rfl, ?_⟩
    refine iteT ?_
    refine ⟨_, rfl, _, rfl, _, _, rfl, rfl, _, rfl, ?_⟩
    by_cases h1 : i < lo
    · refine ev_T (decide_eq_true h1) ?_
      have e : decide (lo ≤ i ∧ i ≤ hi) = false := decide_eq_false (by omega)
      rw [e] at k
      exact k
    · refine ev_F (decide_eq_false h1) ?_
      refine ⟨_, rfl, rfl, false, rfl, ?_⟩
      refine iteF ?_
      refine ⟨_, rfl, _, rfl, _, _, rfl, rfl, ?_⟩
      have e : decide (lo ≤ i ∧ i ≤ hi) = decide (i ≤ hi) := by
        by_cases h2 : i ≤ hi
        · rw [decide_eq_true h2, decide_eq_true (by omega)]
        · rw [decide_eq_false h2, decide_eq_false (by omega)]
      rw [e] at k
      exact k
def spCheckNumber : Sp := fun vs H Q _ => ∃ i lo hi : Int, vs = [.int i, .int lo, .int hi] ∧ lo ≤ i ∧ i ≤ hi ∧ Q (.int i) H
theorem c_check_number (F : Facts K mg CP CB) : C8.Cal P w K mg base 2 "check_number" spCheckNumber [] := by
  obtain ⟨f, fd, D, b⟩ := F.d_check_number
  have c_is_whole := c_is_whole (P := P) (w := w) (base := base) F
  refine C8.cal0 D b .nil sc_check_number (fun vs H Q E h => ?_) (fun cdv A outer s H vs Q E hr h => ?_)
  · obtain ⟨i, lo, hi, rfl, _⟩ := h
    rfl
  · obtain ⟨i, lo, hi, rfl, h1, h2, k⟩ := h
    refine ⟨_, (pss_cons (ps_if (pt_not (pt_val (C8.pe_c c_is_whole hr (by decide) (by rfl) (pa_cons (pv 0) (pa_cons (pv 1) (pa_cons (pv 2) pa_nil)))))) (pss_one ps_never) pss_nil)
  (pss_one (ps_ret (pv 0)))), ?_⟩
    refine ⟨_, rfl, _, rfl, _, rfl, i, lo, hi, rfl, _, rfl, ?_⟩
    refine ev_F (by rw [decide_eq_true ⟨h1, h2⟩]; rfl) ?_
    exact ⟨_, rfl, k⟩
/-- check_word of a list or a tuple: a tuple of the same ints stands -/
def spCheckWord : Sp := fun vs H Q _ => ∃ (q : Int) (a : Addr) (ns : List Int) (m : Int), vs = [.int q, .ref a, .int m] ∧ (H a = some (.lst (ns.map V.int)) ∨ H a = some (.tup (ns.map V.int))) ∧ (ns.length : Int) ≤ m ∧ m ≤ 1000 ∧ (∀ n ∈ ns, 0 ≤ n ∧ n < q) ∧
  ∀ p H', Ex H H' → H' p = some (.tup (ns.map V.int)) → Q (.ref p) H'
theorem b_check_word (F : Facts K mg CP CB) {f : Addr} {fd : FuncData} {ds : List Value} {dvs : List V} (D : C8.Def K mg "check_word" st_check_word f fd) (b : Binds K fd ["letters", "word", "most"] ds) (d : Vals dvs ds) : C8.Cal P w K mg base 2 "check_word" spCheckWord dvs := by
  have c_is_whole := c_is_whole (P := P) (w := w) (base := base) F
  refine C8.cal0 D b d sc_check_word (fun vs H Q E h => ?_) (fun cdv A outer s H vs Q E hr h => ?_)
  · obtain ⟨q, a, ns, m, rfl, _⟩ := h
    rfl
  · obtain ⟨q, a, ns, m, rfl, ha, hl, hm, hn, k⟩ := h
    have nint : ∀ {i : Nat} {y : V}, (ns.map V.int)[i]? = some y → ∃ z, y = .int z ∧ 0 ≤ z ∧ z < q := fun {i y} e => by
      rw [List.getElem?_map] at e
      cases h : ns[i]? with
      | none => rw [h] at e; cases e
      | some z =>
        rw [h] at e
        cases e
        exact ⟨z, rfl, hn z (List.mem_of_getElem? h)⟩
    have l1 : (ns.map V.int).length = ns.length := List.length_map _
    rcases ha with ha | ha
    · refine ⟨_, (pss_cons (ps_if (PW.pt (pw_or (pt_not (pt_val (pe_callB (cr_isiTK (K := K) rfl) (by rfl) F.n_isinstance (by decide +kernel) (pa_cons (pv 1) (pa_cons (pe_tup (pa_cons (pe_bltn (v := V.ty "list") (u := Value.type "list") (by rfl) F.n_list (by decide +kernel) rfl) (pa_cons (pe_bltn (v := V.ty "tuple") (u := Value.type "tuple") (by rfl) F.n_tuple (by decide +kernel) rfl) pa_nil))) pa_nil))))) (pw_or1 (pt_cmpR op_gt (pe_callB (cr_lenK (K := K) rfl) (by rfl) F.n_len PySem.boot_len (pa_cons (pv 1) pa_nil)) (pv 2) (nomark _))))) (pss_one ps_never) pss_nil)
  (pss_cons (ps_for PassesOwn.never rfl (pi_enum (by rfl) F.n_enumerate (pa_cons (pv 1) pa_nil)) (pg_tup2 (K := K) rfl rfl (pgs_cons (pg_name (i := 3) sc_check_word.nd rfl (Or.inl rfl)) (pgs_cons (pg_name (i := 4) sc_check_word.nd rfl (Or.inl rfl)) pgs_nil)))
    (pss_one (ps_if (pt_not (pt_val (C8.pe_c c_is_whole hr (by decide) (by rfl) (pa_cons (pv 4) (pa_cons pe_int (pa_cons (pe_op op_sub (pv 0) pe_int) pa_nil)))))) (pss_one ps_never) pss_nil)))
  (pss_one (ps_ret (pe_callTy (cr_tupleK (K := K) rfl) (by rfl) F.n_tuple (by decide +kernel) (pa_cons (pv 1) pa_nil)))))), ?_⟩
      refine ⟨_, rfl, by decide, fun tp htp => ?_⟩
      have ha1 := Ex.new (o := .tup [.ty "list", .ty "tuple"]) htp a _ ha
      refine ⟨_, tp, _, _, [.type "list", .type "tuple"], true, rfl, upd_same, .cons (.ty _) (.cons (.ty _) .nil), .base (.lst ha1), kitAny_cons (b := true) (kit_ty (by decide +kernel)) (fun z => nomatch z) (fun _ => rfl), true, rfl, ?_⟩
      refine iteF ?_
      refine ⟨_, rfl, a, _, rfl, .inl (SqL.of ha1), _, rfl, _, _, rfl, rfl, _, rfl, ?_⟩
      refine ev_F (decide_eq_false (by rw [l1]; omega)) ?_
      refine ⟨_, rfl, a, _, rfl, SqL.of ha1, ?_⟩
      refine for_it walk_enum (fun i σ H' => Ex H H' ∧ H' a = some (.lst (ns.map V.int)) ∧ ∃ x y, σ = [some (.int q), some (.ref a), some (.int m), x, y]) ⟨Ex.new htp, ha1, none, none, rfl⟩ (fun i σ H' _ p => SqL.of p.2.1) ?_ ?_
      · rintro i x σ H1 H2 hi ⟨e1, h1, x0, y0, rfl⟩ ⟨T, x1, y1, rfl, hT, rfl, ex, ey⟩
        cases ex
        obtain ⟨z, rfl, z0, z1⟩ := nint ey
        have e2 := e1.trans (Ex.new (o := .tup [.int (i : Nat), .int z]) hT)
        refine ⟨T, _, rfl, st_of upd_same, rfl, _, _, rfl, _, _, rfl, rfl, ?_⟩
        refine ⟨_, rfl, _, rfl, _, _, rfl, rfl, z, 0, q - 1, rfl, true, by rw [decide_eq_true (by omega)], ?_⟩
        refine iteF ?_
        exact ⟨e2, e2 a _ ha, _, _, rfl⟩
      · rintro σ H1 ⟨e1, h1, x0, y0, rfl⟩
        exact ⟨_, rfl, a, _, rfl, .inl ⟨SqL.of h1, fun l hl => k l _ (e1.trans (Ex.new hl)) upd_same⟩⟩
    · refine ⟨_, (pss_cons (ps_if (PW.pt (pw_or (pt_not (pt_val (pe_callB (cr_isiTK (K := K) rfl) (by rfl) F.n_isinstance (by decide +kernel) (pa_cons (pv 1) (pa_cons (pe_tup (pa_cons (pe_bltn (v := V.ty "list") (u := Value.type "list") (by rfl) F.n_list (by decide +kernel) rfl) (pa_cons (pe_bltn (v := V.ty "tuple") (u := Value.type "tuple") (by rfl) F.n_tuple (by decide +kernel) rfl) pa_nil))) pa_nil))))) (pw_or1 (pt_cmpR op_gt (pe_callB (cr_lenK (K := K) rfl) (by rfl) F.n_len PySem.boot_len (pa_cons (pv 1) pa_nil)) (pv 2) (nomark _))))) (pss_one ps_never) pss_nil)
  (pss_cons (ps_for PassesOwn.never rfl (QE.pi_enumT (by rfl) F.n_enumerate (pa_cons (pv 1) pa_nil)) (pg_tup2 (K := K) rfl rfl (pgs_cons (pg_name (i := 3) sc_check_word.nd rfl (Or.inl rfl)) (pgs_cons (pg_name (i := 4) sc_check_word.nd rfl (Or.inl rfl)) pgs_nil)))
    (pss_one (ps_if (pt_not (pt_val (C8.pe_c c_is_whole hr (by decide) (by rfl) (pa_cons (pv 4) (pa_cons pe_int (pa_cons (pe_op op_sub (pv 0) pe_int) pa_nil)))))) (pss_one ps_never) pss_nil)))
  (pss_one (ps_ret (pe_callTy (cr_tupleK (K := K) rfl) (by rfl) F.n_tuple (by decide +kernel) (pa_cons (pv 1) pa_nil)))))), ?_⟩
      refine ⟨_, rfl, by decide, fun tp htp => ?_⟩
      have ha1 := Ex.new (o := .tup [.ty "list", .ty "tuple"]) htp a _ ha
      refine ⟨_, tp, _, _, [.type "list", .type "tuple"], true, rfl, upd_same, .cons (.ty _) (.cons (.ty _) .nil), .base (.tup ha1), kitAny_cons (b := false) (kit_ty (by decide +kernel)) (fun _ => kitAny_cons (b := true) (kit_ty (by decide +kernel)) (fun z => nomatch z) (fun _ => rfl)) (fun z => nomatch z), true, rfl, ?_⟩
      refine iteF ?_
      refine ⟨_, rfl, a, _, rfl, .inr (SqT.of ha1), _, rfl, _, _, rfl, rfl, _, rfl, ?_⟩
      refine ev_F (decide_eq_false (by rw [l1]; omega)) ?_
      refine ⟨_, rfl, a, _, rfl, SqT.of ha1, ?_⟩
      refine for_it QE.walk_enumT (fun i σ H' => Ex H H' ∧ H' a = some (.tup (ns.map V.int)) ∧ ∃ x y, σ = [some (.int q), some (.ref a), some (.int m), x, y]) ⟨Ex.new htp, ha1, none, none, rfl⟩ (fun i σ H' _ p => SqT.of p.2.1) ?_ ?_
      · rintro i x σ H1 H2 hi ⟨e1, h1, x0, y0, rfl⟩ ⟨T, x1, y1, rfl, hT, rfl, ex, ey⟩
        cases ex
        obtain ⟨z, rfl, z0, z1⟩ := nint ey
        have e2 := e1.trans (Ex.new (o := .tup [.int (i : Nat), .int z]) hT)
        refine ⟨T, _, rfl, st_of upd_same, rfl, _, _, rfl, _, _, rfl, rfl, ?_⟩
        refine ⟨_, rfl, _, rfl, _, _, rfl, rfl, z, 0, q - 1, rfl, true, by rw [decide_eq_true (by omega)], ?_⟩
        refine iteF ?_
        exact ⟨e2, e2 a _ ha, _, _, rfl⟩
      · rintro σ H1 ⟨e1, h1, x0, y0, rfl⟩
        exact ⟨_, rfl, a, _, rfl, .inr ⟨SqT.of h1, k a _ e1 h1⟩⟩
theorem c_check_word (F : Facts K mg CP CB) : C8.Cal P w K mg base 2 "check_word" spCheckWord [] := by
  obtain ⟨f, fd, D, b⟩ := F.d_check_word
  exact b_check_word F D b .nil
theorem c_check_word2 (F : Facts K mg CP CB) : C8.Cal P w K mg base 2 "check_word" spCheckWord [.int 24] := by
  obtain ⟨f, fd, ds, D, b, d⟩ := F.d_check_word2
  exact b_check_word F D b d
end
end LP
end

section
set_option Elab.async false
set_option linter.all false
/-! what the defs compute, in plain Lean -/
namespace MR
abbrev Wd := List Int
/-! runs -/
def runStep (rs : List (Int × Int)) (x : Int) : List (Int × Int) :=
  match rs.getLast? with
  | some (y, c) => if y = x then rs.dropLast ++ [(y, c + 1)] else rs ++ [(x, 1)]
  | none => rs ++ [(x, 1)]
def runsL (w : Wd) : List (Int × Int) := w.foldl runStep []
def shape (w : Wd) : List Int := (runsL w).map (·.1)
def lens (w : Wd) : List Int := (runsL w).map (·.2)
theorem runsL_take {w : Wd} {i : Nat} {x : Int} (h : w[i]? = some x) : runsL (w.take (i + 1)) = runStep (runsL (w.take i)) x := by
  have e : w.take (i + 1) = w.take i ++ [x] := by
    rw [List.take_add_one, h]; rfl
  unfold runsL
  rw [e, List.foldl_append]
  rfl
theorem runStep_len (rs : List (Int × Int)) (x : Int) : (runStep rs x).length ≤ rs.length + 1 := by
  unfold runStep
  split
  · split
    · rw [List.length_append, List.length_dropLast, List.length_singleton]; omega
    · rw [List.length_append]; simp
  · rw [List.length_append]; simp
theorem foldl_len : ∀ (w : Wd) (rs : List (Int × Int)), (w.foldl runStep rs).length ≤ rs.length + w.length
  | [], rs => by simp
  | x :: w, rs => by
    have h := foldl_len w (runStep rs x)
    have h2 := runStep_len rs x
    simp only [List.foldl_cons, List.length_cons]
    omega
theorem runsL_len (w : Wd) : (runsL w).length ≤ w.length := by
  have := foldl_len w []
  simpa [runsL] using this
/-- the last run's letter is the last letter -/
theorem runStep_last (rs : List (Int × Int)) (x : Int) : ∃ c, (runStep rs x).getLast? = some (x, c) := by
  unfold runStep
  split
  · split
    · rename_i h; subst h; exact ⟨_, List.getLast?_concat ..⟩
    · exact ⟨1, by simp⟩
  · exact ⟨1, by simp⟩
theorem runsL_last {w : Wd} {i : Nat} {x : Int} (h : w[i]? = some x) : ∃ c, (runsL (w.take (i + 1))).getLast? = some (x, c) := by
  rw [runsL_take h]
  exact runStep_last _ _
/-- a word by its runs -/
def spell (sh ls : List Int) : Wd := (sh.zip ls).flatMap fun p => List.replicate p.2.toNat p.1
theorem spell_take {sh ls : List Int} {i : Nat} {x n : Int} (h : sh[i]? = some x) (h' : ls[i]? = some n) : spell (sh.take (i + 1)) (ls.take (i + 1)) = spell (sh.take i) (ls.take i) ++ List.replicate n.toNat x := by
  have i1 := (List.getElem?_eq_some_iff.mp h).1
  have i2 := (List.getElem?_eq_some_iff.mp h').1
  unfold spell
  rw [List.take_add_one, List.take_add_one, h, h', Option.toList, Option.toList, List.zip_append (by rw [List.length_take, List.length_take]; omega), List.flatMap_append]
  simp
theorem spell_len (sh ls : List Int) (m : Nat) (h : ∀ n ∈ ls, n.toNat ≤ m) : (spell sh ls).length ≤ sh.length * m := by
  unfold spell
  induction sh generalizing ls with
  | nil => simp
  | cons x sh ih =>
    cases ls with
    | nil => simp
    | cons n ls =>
      have := ih ls fun k hk => h k (List.mem_cons_of_mem _ hk)
      have h1 := h n (List.mem_cons_self ..)
      simp only [List.zip_cons_cons, List.flatMap_cons, List.length_append, List.length_replicate, List.length_cons]
      rw [Nat.add_mul]
      omega
/-! how far two words of one shape lie apart -/
def absI (d : Int) : Int := if d < 0 then -d else d
def absS (xs ys : List Int) : Int := ((xs.zip ys).map fun p => absI (p.1 - p.2)).sum
def maxP (i j : Int) : Int := if j > i then j else i
def minP (i j : Int) : Int := if j < i then j else i
def posS (xs ys : List Int) : Int := ((xs.zip ys).map fun p => maxP 0 (p.1 - p.2)).sum
def stepsM (a b : Wd) : Option Int := if shape a = shape b then some (absS (lens a) (lens b)) else none
def apartM (a b : Wd) : Option Int := if shape a = shape b then some (posS (lens a) (lens b)) else none
theorem lens_len (w : Wd) : (lens w).length = (shape w).length := by unfold lens shape; rw [List.length_map, List.length_map]
theorem lens_len2 {a b : Wd} (h : shape a = shape b) : (lens a).length = (lens b).length := by rw [lens_len, lens_len, h]
theorem shape_len (w : Wd) : (shape w).length ≤ w.length := by unfold shape; rw [List.length_map]; exact runsL_len w
/-! the longest common subsequence, from the front -/
def comIn (x : Int) (b : Wd) (st : List Int × Int) (k : Nat) : List Int × Int :=
  (st.1.set (k + 1) (if b.getD k 0 = x then st.2 + 1 else maxP (st.1.getD (k + 1) 0) (st.1.getD k 0)), st.1.getD (k + 1) 0)
def comK (x : Int) (b : Wd) (row : List Int) (k : Nat) : List Int × Int := (List.range k).foldl (comIn x b) (row, 0)
def comRow (b : Wd) (row : List Int) (x : Int) : List Int := (comK x b row b.length).1
def comRows (b : Wd) (a : Wd) : List Int := a.foldl (comRow b) (List.replicate (b.length + 1) 0)
def commonM (a b : Wd) : Int := (comRows b a).getD b.length 0
theorem comK_succ (x : Int) (b : Wd) (row : List Int) (k : Nat) : comK x b row (k + 1) = comIn x b (comK x b row k) k := by
  unfold comK
  rw [List.range_succ, List.foldl_append]
  rfl
theorem comK_len (x : Int) (b : Wd) (row : List Int) : ∀ k, (comK x b row k).1.length = row.length
  | 0 => rfl
  | k + 1 => by rw [comK_succ]; unfold comIn; rw [List.length_set, comK_len x b row k]
theorem comRow_len (b : Wd) (row : List Int) (x : Int) : (comRow b row x).length = row.length := comK_len x b row _
theorem foldl_take {α : Type} {f : α → Int → α} {z : α} {w : Wd} {i : Nat} {x : Int} (h : w[i]? = some x) : (w.take (i + 1)).foldl f z = f ((w.take i).foldl f z) x := by
  rw [List.take_add_one, h, List.foldl_append]
  rfl
theorem comRows_len (b : Wd) : ∀ (a : Wd) (row : List Int), (a.foldl (comRow b) row).length = row.length
  | [], row => rfl
  | x :: a, row => by rw [List.foldl_cons, comRows_len b a, comRow_len]
/-! .. from the back -/
def restIn (x : Int) (b : Wd) (under row : List Int) (i : Nat) : List Int :=
  row.set (b.length - 1 - i) (if b.getD (b.length - 1 - i) 0 = x then under.getD (b.length - 1 - i + 1) 0 + 1 else maxP (under.getD (b.length - 1 - i) 0) (row.getD (b.length - 1 - i + 1) 0))
def restK (x : Int) (b : Wd) (under : List Int) (k : Nat) : List Int := (List.range k).foldl (restIn x b under) (List.replicate (b.length + 1) 0)
def restRow (b : Wd) (under : List Int) (x : Int) : List Int := restK x b under b.length
def restRows (b : Wd) (a : Wd) : List Int := a.reverse.foldl (restRow b) (List.replicate (b.length + 1) 0)
def longestM (a b : Wd) : Int := (restRows b a).getD 0 0
theorem restK_succ (x : Int) (b : Wd) (under : List Int) (k : Nat) : restK x b under (k + 1) = restIn x b under (restK x b under k) k := by
  unfold restK
  rw [List.range_succ, List.foldl_append]
  rfl
theorem restK_len (x : Int) (b : Wd) (under : List Int) : ∀ k, (restK x b under k).length = b.length + 1
  | 0 => by simp [restK]
  | k + 1 => by rw [restK_succ]; unfold restIn; rw [List.length_set, restK_len x b under k]
theorem restRow_len (b : Wd) (under : List Int) (x : Int) : (restRow b under x).length = b.length + 1 := restK_len x b under _
theorem restRows_len (b : Wd) : ∀ (a : Wd) (row : List Int), row.length = b.length + 1 → (a.foldl (restRow b) row).length = b.length + 1
  | [], row, h => h
  | x :: a, row, h => by rw [List.foldl_cons]; exact restRows_len b a _ (restRow_len b row x)
theorem getD_at {xs : List Int} {j : Nat} (h : j < xs.length) : xs[j]? = some (xs.getD j 0) := by
  rw [List.getD_eq_getElem?_getD, List.getElem?_eq_getElem h]
  rfl
end MR
end

section
set_option Elab.async false
set_option linter.all false
set_option maxRecDepth 100000
set_option maxHeartbeats 4000000
namespace LP
open PySem L2 PyProof.Rows PySem.Spec Evl MR
section
variable {P : Program} {w : World} {K : PySem.W.Frag} {mg : Str → Option Value} {base : Heap} {CP CB : Addr}
/-- the list of lists at L: each [letter, count] -/
abbrev Cell := Addr × Int × Int
structure LRows (H : Hp) (L : Addr) (zs : List Cell) : Prop where
  at_ : H L = some (.lst (zs.map fun z => V.ref z.1))
  cell : ∀ z ∈ zs, H z.1 = some (.lst [.int z.2.1, .int z.2.2])
theorem LRows.mono {H H' : Hp} {L : Addr} {zs : List Cell} (h : LRows H L zs) (e : Ex H H') : LRows H' L zs := ⟨e _ _ h.at_, fun z hz => e _ _ (h.cell z hz)⟩
def spRunRows : Sp := fun vs H Q _ => ∃ (a : Addr) (ns : List Int), vs = [.ref a] ∧ H a = some (.tup (ns.map V.int)) ∧ ns.length ≤ 1000 ∧
  ∀ L zs H', Ex H H' → LRows H' L zs → zs.map (·.2) = runsL ns → Q (.ref L) H'
/-- amid run_rows: nothing of it was there before -/
structure RR (H H' : Hp) (L : Addr) (zs : List Cell) : Prop where
  rows : LRows H' L zs
  nL : H L = none
  new : ∀ z ∈ zs, H z.1 = none ∧ z.1 ≠ L
  nd : (zs.map (·.1)).Nodup
  ex : Ex H H'
theorem RR.mono {H H1 H2 : Hp} {L : Addr} {zs : List Cell} (h : RR H H1 L zs) (e : Ex H1 H2) : RR H H2 L zs := ⟨h.rows.mono e, h.nL, h.new, h.nd, h.ex.trans e⟩
/-- a new row -/
theorem RR.push {H H1 : Hp} {L p : Addr} {zs : List Cell} {x c : Int} (h : RR H H1 L zs) (hp : H1 p = none) :
    RR H (upd (upd H1 p (.lst [.int x, .int c])) L (.lst (zs.map (fun z => V.ref z.1) ++ [.ref p]))) L (zs ++ [(p, x, c)]) := by
  have pL : p ≠ L := Ne.symm (ne_no h.rows.at_ hp)
  have e1 : Ex H1 (upd H1 p (.lst [.int x, .int c])) := Ex.new hp
  have hp0 : H p = none := fresh_back h.ex hp
  refine ⟨⟨?_, fun z hz => ?_⟩, h.nL, fun z hz => ?_, ?_, Ex.mut (h.ex.trans e1) h.nL⟩
  · rw [upd_same, List.map_append]; rfl
  · rcases List.mem_append.mp hz with hz | hz
    · rw [upd_ne (h.new z hz).2]
      exact e1 _ _ (h.rows.cell z hz)
    · rw [List.mem_singleton.mp hz]
      show upd _ L _ p = _
      rw [upd_ne pL, upd_same]
  · rcases List.mem_append.mp hz with hz | hz
    · exact h.new z hz
    · rw [List.mem_singleton.mp hz]
      exact ⟨hp0, pL⟩
  · rw [List.map_append, List.nodup_append]
    refine ⟨h.nd, by simp, fun a ha b hb => ?_⟩
    obtain ⟨z, hz, rfl⟩ := List.mem_map.mp ha
    rw [List.mem_singleton.mp hb]
    exact ne_no (h.rows.cell z hz) hp
/-- the last row, bumped -/
theorem RR.bump {H H1 : Hp} {L p : Addr} {zs : List Cell} {x c d : Int} (h : RR H H1 L (zs ++ [(p, x, c)])) :
    RR H (upd H1 p (.lst [.int x, .int d])) L (zs ++ [(p, x, d)]) := by
  have hm : (p, x, c) ∈ zs ++ [(p, x, c)] := List.mem_append_right _ (List.mem_singleton.mpr rfl)
  obtain ⟨p0, pL⟩ := h.new _ hm
  have nd := h.nd
  rw [List.map_append, List.nodup_append] at nd
  have apart : ∀ z ∈ zs, z.1 ≠ p := fun z hz => nd.2.2 _ (List.mem_map.mpr ⟨z, hz, rfl⟩) _ (by simp)
  refine ⟨⟨?_, fun z hz => ?_⟩, h.nL, fun z hz => ?_, ?_, Ex.mut h.ex p0⟩
  · rw [upd_ne (Ne.symm pL)]
    have := h.rows.at_
    simpa using this
  · rcases List.mem_append.mp hz with hz | hz
    · rw [upd_ne (apart z hz)]
      exact h.rows.cell z (List.mem_append_left _ hz)
    · rw [List.mem_singleton.mp hz]
      exact upd_same
  · rcases List.mem_append.mp hz with hz | hz
    · exact h.new z (List.mem_append_left _ hz)
    · rw [List.mem_singleton.mp hz]
      exact ⟨p0, pL⟩
  · have := h.nd
    simpa using this
theorem c_run_rows (F : Facts K mg CP CB) : C8.Cal P w K mg base 1 "run_rows" spRunRows [] := by
  obtain ⟨f, fd, D, b⟩ := F.d_run_rows
  refine C8.cal0 D b .nil sc_run_rows (fun vs H Q E h => ?_) (fun cdv A outer s H vs Q E hr h => ?_)
  · obtain ⟨a, ns, rfl, _⟩ := h
    rfl
  · obtain ⟨a, ns, rfl, ha, hz, k⟩ := h
    refine ⟨_, (pss_cons (ps_set (i := 1) sc_run_rows.nd rfl (Or.inl rfl) (pe_lst pa_nil))
  (pss_cons (ps_for PassesOwn.never rfl (pi_tupK (K := K) rfl (pv 0)) (pg_name (i := 2) sc_run_rows.nd rfl (Or.inl rfl))
    (pss_one (ps_if (PW.pt (pw_and (pt_cmpR (op_neK (K := K) rfl (hu64 hr)) (pv 1) (pe_lst pa_nil) (nomark _)) (pw_and1 (pt_cmpR op_eq (pe_ix (ix_listK (K := K) rfl) (pe_ix (ix_listK (K := K) rfl) (pv 1) (pe_un un_neg pe_int) (fun _ _ => rfl)) pe_int (fun _ _ => rfl)) (pv 2) (nomark _))))) (pss_one (ps_asg (pe_op op_add (pe_ix (ix_listK (K := K) rfl) (pe_ix (ix_listK (K := K) rfl) (pv 1) (pe_un un_neg pe_int) (fun _ _ => rfl)) pe_int (fun _ _ => rfl)) pe_int) (pg_sub (pe_ix (ix_listK (K := K) rfl) (pv 1) (pe_un un_neg pe_int) (fun _ _ => rfl)) pe_int set_list))) (pss_one (ps_expr (pe_bm PySem.F.plainAttrs_list PySem.F.slot_list_append PySem.F.type_list_append mt_append (pv 1) (pa_cons (pe_lst (pa_cons (pv 2) (pa_cons pe_int pa_nil))) pa_nil)))))))
  (pss_one (ps_ret (pv 1))))), ?_⟩
    refine ⟨Nat.zero_le _, fun L hL => ?_⟩
    have l1 : (ns.map V.int).length = ns.length := List.length_map _
    refine ⟨_, rfl, a, rfl, ⟨_, SqT.of (Ex.new hL _ _ ha)⟩, ?_⟩
    refine for_tup (fun i σ H' => ∃ zs x, σ = [some (.ref a), some (.ref L), x] ∧ RR H H' L zs ∧ zs.map (·.2) = runsL (ns.take i)) ⟨[], none, rfl, ⟨⟨upd_same, fun z hz => nomatch hz⟩, hL, fun z hz => (nomatch hz), List.nodup_nil, Ex.new hL⟩, rfl⟩ (fun i σ H' _ ⟨zs, x, _, q, _⟩ => SqT.of (q.ex _ _ ha)) ?_ ?_
    · rintro i y σ H1 hi ⟨zs, x, rfl, q, e⟩
      obtain ⟨z, rfl, hi0⟩ := int_at hi
      have sh1 : Sh 2 (.list (zs.map fun z => dL [z.2.1, z.2.2])) := sh_list fun d hd => by
        obtain ⟨z, _, rfl⟩ := List.mem_map.mp hd
        exact sh_dL _
      have il : i < 1000 := by have := (List.getElem?_eq_some_iff.mp hi0).1; omega
      have zl : zs.length ≤ 1000 := by
        have h1 : zs.length = (runsL (ns.take i)).length := by rw [← e, List.length_map]
        have h2 := runsL_len (ns.take i)
        rw [List.length_take] at h2
        omega
      refine ⟨_, rfl, Nat.zero_le _, fun p hp => ⟨_, _, .lst (SqL.of (Ex.new hp _ _ q.rows.at_)) (dp_map fun z hz => dp_L (ns := [z.2.1, z.2.2]) (Ex.new hp _ _ (q.rows.cell z hz))), .lst (SqL.of upd_same) .nil, sh1.shaped, (sh_list (k := 0) (ds := []) fun d hd => absurd hd List.not_mem_nil).shaped, _, rfl, ?_⟩⟩
      have q1 := q.mono (Ex.new (o := .lst []) hp)
      rcases List.eq_nil_or_concat zs with rfl | ⟨ys, ⟨r, y, c⟩, rfl⟩
      · refine ev_F rfl ?_
        refine iteF ?_
        refine ⟨_, rfl, .inl ⟨rfl, _, SqL.of q1.rows.at_⟩, _, rfl, (by decide : 2 ≤ sizeLine), fun r hr => ?_⟩
        have q2 := q1.push (x := z) (c := 1) hr
        refine ⟨L, _, _, rfl, rfl, Ex.new hr _ _ q1.rows.at_, by decide, [(r, z, 1)], _, rfl, q2, ?_⟩
        rw [runsL_take hi0, ← e]
        rfl
      · rw [List.concat_eq_append] at *
        have hm : (r, y, c) ∈ ys ++ [(r, y, c)] := List.mem_append_right _ (List.mem_singleton.mpr rfl)
        have hr := q1.rows.cell _ hm
        have hat := q1.rows.at_
        rw [List.map_append] at hat
        have eR : runsL (ns.take i) = ys.map (·.2) ++ [(y, c)] := by rw [← e, List.map_append]; rfl
        refine ev_T (by rw [eqv_nil]; simp) ?_
        refine ⟨_, rfl, 1, rfl, L, _, -1, V.ref r, rfl, rfl, SqL.of hat, atI_last _ _, r, _, 0, V.int y, rfl, rfl, SqL.of hr, rfl, _, rfl, rfl, _, rfl, ?_⟩
        by_cases hy : y = z
        · subst hy
          refine ev_T (by simp) ?_
          refine ⟨_, rfl, 1, rfl, L, _, -1, V.ref r, rfl, rfl, SqL.of hat, atI_last _ _, r, _, 1, V.int c, rfl, rfl, SqL.of hr, rfl, _, _, rfl, rfl, ?_⟩
          refine ⟨_, rfl, 1, rfl, L, _, -1, V.ref r, rfl, rfl, SqL.of hat, atI_last _ _, r, _, 1, 1, rfl, rfl, hr, rfl, ?_⟩
          refine ⟨ys ++ [(r, y, c + 1)], _, rfl, q1.bump, ?_⟩
          rw [runsL_take hi0, eR]
          unfold runStep
          rw [List.getLast?_concat]
          simp
        · refine ev_F (by simp [hy]) ?_
          refine ⟨_, rfl, .inl ⟨rfl, _, SqL.of q1.rows.at_⟩, _, rfl, (by decide : 2 ≤ sizeLine), fun r2 hr2 => ?_⟩
          have q2 := q1.push (x := z) (c := 1) hr2
          refine ⟨L, _, _, rfl, rfl, Ex.new hr2 _ _ q1.rows.at_, ?_, ys ++ [(r, y, c)] ++ [(r2, z, 1)], _, rfl, q2, ?_⟩
          · rw [List.length_map]; exact sz_lt (by omega)
          · rw [runsL_take hi0, eR]
            unfold runStep
            rw [List.getLast?_concat]
            simp [hy]
    · rintro σ H1 ⟨zs, x, rfl, q, e⟩
      rw [l1, List.take_length] at e
      exact ⟨_, rfl, k L zs H1 q.ex q.rows e⟩

/-- a def of one word: a new tuple of ints -/
def spWT (f : Wd → List Int) : Sp := fun vs H Q _ => ∃ (a : Addr) (ns : List Int), vs = [.ref a] ∧ H a = some (.tup (ns.map V.int)) ∧ ns.length ≤ 24 ∧ (∀ n ∈ ns, 0 ≤ n ∧ n < 4) ∧
  ∀ p H', Ex H H' → H' p = some (.tup ((f ns).map V.int)) → Q (.ref p) H'
theorem c_shape_of (F : Facts K mg CP CB) : C8.Cal P w K mg base 3 "shape_of" (spWT shape) [] := by
  obtain ⟨f, fd, D, b⟩ := F.d_shape_of
  have c_check_word2 := c_check_word2 (P := P) (w := w) (base := base) F
  have c_run_rows := c_run_rows (P := P) (w := w) (base := base) F
  refine C8.cal0 D b .nil sc_shape_of (fun vs H Q E h => ?_) (fun cdv A outer s H vs Q E hr h => ?_)
  · obtain ⟨a, ns, rfl, _⟩ := h
    rfl
  · obtain ⟨a, ns, rfl, ha, hz, hn, k⟩ := h
    refine ⟨_, (pss_one (ps_ret (pe_callTy (cr_tupleK (K := K) rfl) (by rfl) F.n_tuple (by decide +kernel) (pa_cons (pe_lc (own := [("row", 1)]) (g := (gName 1)) (tt := tYes) (by rfl) sc_shape_of.nd (pi_listK (K := K) rfl (C8.pe_c c_run_rows hr (by decide) (by rfl) (pa_cons (C8.pe_c c_check_word2 hr (by decide) (by rfl) (pa_cons pe_int (pa_cons (pv 0) pa_nil))) pa_nil))) (blkOk_by (own := [("row", 1)]) (N := N_shape_of) (sc := (C8.fnScope st_shape_of)) (by decide +kernel)) (fun _ _ _ _ _ => (pg_name (i := 1) sc_shape_of.nd rfl (Or.inl rfl))) (fun _ _ _ _ _ => pts_nil) (fun _ _ _ _ _ => (pe_ix (ix_listK (K := K) rfl) (pv 1) pe_int (fun _ _ => rfl)))) pa_nil)))), ?_⟩
    refine ⟨_, rfl, 4, a, ns, 24, rfl, .inr ha, by omega, by decide, hn, fun a2 H1 e1 h1 => ⟨a2, ns, rfl, h1, by omega, fun L zs H2 e2 r2 er => ?_⟩⟩
    have zl : zs.length ≤ 24 := by
      have h1 : zs.length = (runsL ns).length := by rw [← er, List.length_map]
      have h2 := runsL_len ns
      omega
    refine ⟨L, rfl, ⟨_, SqL.of r2.at_⟩, fun d hd => ?_⟩
    refine lc_list (fun i H' => Ex H2 H' ∧ H2 d = none ∧ H' d = some (.lst (((zs.take i).map (·.2.1)).map V.int))) ⟨Ex.new hd, hd, upd_same⟩ (fun i H' _ p => SqL.of (p.1 _ _ r2.at_)) ?_ ?_
    · rintro i y H' hi ⟨e3, _, h3⟩
      obtain ⟨z, rfl, hi0⟩ := map_at hi
      have il := (List.getElem?_eq_some_iff.mp hi0).1
      refine ⟨rfl, lcY ?_⟩
      refine ⟨_, rfl, z.1, _, 0, V.int z.2.1, rfl, rfl, SqL.of (e3 _ _ (r2.cell z (List.mem_of_getElem? hi0))), rfl, _, h3, ?_, Ex.mut e3 hd, hd, ?_⟩
      · rw [List.length_map, List.length_map, List.length_take]; exact sz_lt (by omega)
      · rw [upd_same, List.take_add_one, hi0]
        simp
    · rintro H' ⟨e3, _, h3⟩
      rw [List.length_map, List.take_length] at h3
      have es : (zs.map (·.2.1)) = shape ns := by
        unfold shape
        rw [← er, List.map_map]
        rfl
      rw [es] at h3
      exact ⟨d, _, rfl, .inl ⟨SqL.of h3, fun l hl => k l _ (((e1.trans e2).trans e3).trans (Ex.new hl)) upd_same⟩⟩
theorem c_lengths_of (F : Facts K mg CP CB) : C8.Cal P w K mg base 3 "lengths_of" (spWT lens) [] := by
  obtain ⟨f, fd, D, b⟩ := F.d_lengths_of
  have c_check_word2 := c_check_word2 (P := P) (w := w) (base := base) F
  have c_run_rows := c_run_rows (P := P) (w := w) (base := base) F
  refine C8.cal0 D b .nil sc_lengths_of (fun vs H Q E h => ?_) (fun cdv A outer s H vs Q E hr h => ?_)
  · obtain ⟨a, ns, rfl, _⟩ := h
    rfl
  · obtain ⟨a, ns, rfl, ha, hz, hn, k⟩ := h
    refine ⟨_, (pss_one (ps_ret (pe_callTy (cr_tupleK (K := K) rfl) (by rfl) F.n_tuple (by decide +kernel) (pa_cons (pe_lc (own := [("row", 1)]) (g := (gName 1)) (tt := tYes) (by rfl) sc_lengths_of.nd (pi_listK (K := K) rfl (C8.pe_c c_run_rows hr (by decide) (by rfl) (pa_cons (C8.pe_c c_check_word2 hr (by decide) (by rfl) (pa_cons pe_int (pa_cons (pv 0) pa_nil))) pa_nil))) (blkOk_by (own := [("row", 1)]) (N := N_lengths_of) (sc := (C8.fnScope st_lengths_of)) (by decide +kernel)) (fun _ _ _ _ _ => (pg_name (i := 1) sc_lengths_of.nd rfl (Or.inl rfl))) (fun _ _ _ _ _ => pts_nil) (fun _ _ _ _ _ => (pe_ix (ix_listK (K := K) rfl) (pv 1) pe_int (fun _ _ => rfl)))) pa_nil)))), ?_⟩
    refine ⟨_, rfl, 4, a, ns, 24, rfl, .inr ha, by omega, by decide, hn, fun a2 H1 e1 h1 => ⟨a2, ns, rfl, h1, by omega, fun L zs H2 e2 r2 er => ?_⟩⟩
    have zl : zs.length ≤ 24 := by
      have h1 : zs.length = (runsL ns).length := by rw [← er, List.length_map]
      have h2 := runsL_len ns
      omega
    refine ⟨L, rfl, ⟨_, SqL.of r2.at_⟩, fun d hd => ?_⟩
    refine lc_list (fun i H' => Ex H2 H' ∧ H2 d = none ∧ H' d = some (.lst (((zs.take i).map (·.2.2)).map V.int))) ⟨Ex.new hd, hd, upd_same⟩ (fun i H' _ p => SqL.of (p.1 _ _ r2.at_)) ?_ ?_
    · rintro i y H' hi ⟨e3, _, h3⟩
      obtain ⟨z, rfl, hi0⟩ := map_at hi
      have il := (List.getElem?_eq_some_iff.mp hi0).1
      refine ⟨rfl, lcY ?_⟩
      refine ⟨_, rfl, z.1, _, 1, V.int z.2.2, rfl, rfl, SqL.of (e3 _ _ (r2.cell z (List.mem_of_getElem? hi0))), rfl, _, h3, ?_, Ex.mut e3 hd, hd, ?_⟩
      · rw [List.length_map, List.length_map, List.length_take]; exact sz_lt (by omega)
      · rw [upd_same, List.take_add_one, hi0]
        simp
    · rintro H' ⟨e3, _, h3⟩
      rw [List.length_map, List.take_length] at h3
      have es : (zs.map (·.2.2)) = lens ns := by
        unfold lens
        rw [← er, List.map_map]
        rfl
      rw [es] at h3
      exact ⟨d, _, rfl, .inl ⟨SqL.of h3, fun l hl => k l _ (((e1.trans e2).trans e3).trans (Ex.new hl)) upd_same⟩⟩
end
end LP
end

section
set_option Elab.async false
set_option linter.all false
set_option maxRecDepth 100000
set_option maxHeartbeats 4000000
namespace LP
open PySem L2 PyProof.Rows PySem.Spec Evl MR
section
variable {P : Program} {w : World} {K : PySem.W.Frag} {mg : Str → Option Value} {base : Heap} {CP CB : Addr}
/-- the list of pairs at L: each (letter, count) -/
structure TRows (H : Hp) (L : Addr) (zs : List Cell) : Prop where
  at_ : H L = some (.lst (zs.map fun z => V.ref z.1))
  cell : ∀ z ∈ zs, H z.1 = some (.tup [.int z.2.1, .int z.2.2])
theorem TRows.mono {H H' : Hp} {L : Addr} {zs : List Cell} (h : TRows H L zs) (e : Ex H H') : TRows H' L zs := ⟨e _ _ h.at_, fun z hz => e _ _ (h.cell z hz)⟩
def spLawRuns : Sp := fun vs H Q _ => ∃ (a : Addr) (ns : List Int), vs = [.ref a] ∧ H a = some (.tup (ns.map V.int)) ∧ ns.length ≤ 1000 ∧
  ∀ L zs H', Ex H H' → TRows H' L zs → zs.map (·.2) = runsL ns → Q (.ref L) H'
theorem c__law_runs (F : Facts K mg CP CB) : C8.Cal P w K mg base 1 "_law_runs" spLawRuns [] := by
  obtain ⟨f, fd, D, b⟩ := F.d__law_runs
  refine C8.cal0 D b .nil sc__law_runs (fun vs H Q E h => ?_) (fun cdv A outer s H vs Q E hr h => ?_)
  · obtain ⟨a, ns, rfl, _⟩ := h
    rfl
  · obtain ⟨a, ns, rfl, ha, hz, k⟩ := h
    refine ⟨_, (pss_cons (ps_set (i := 1) sc__law_runs.nd rfl (Or.inl rfl) (pe_lst pa_nil))
  (pss_cons (ps_for PassesOwn.never rfl (pi_range1 (by rfl) F.n_range (pa_cons (pe_callB (cr_lenK (K := K) rfl) (by rfl) F.n_len PySem.boot_len (pa_cons (pv 0) pa_nil)) pa_nil)) (pg_name (i := 2) sc__law_runs.nd rfl (Or.inl rfl))
    (pss_one (ps_if (PW.pt (pw_and (pt_cmpR op_gt (pv 2) pe_int (nomark _)) (pw_and1 (pt_cmpR op_eq (pe_ix (ix_tupK (K := K) rfl) (pv 0) (pe_op op_sub (pv 2) pe_int) (fun _ _ => rfl)) (pe_ix (ix_tupK (K := K) rfl) (pv 0) (pv 2) (fun _ _ => rfl)) (nomark _))))) (pss_one (ps_asg (pe_tup (pa_cons (pe_ix (ix_tupK (K := K) rfl) (pv 0) (pv 2) (fun _ _ => rfl)) (pa_cons (pe_op op_add (pe_ix (ix_tupK (K := K) rfl) (pe_ix (ix_listK (K := K) rfl) (pv 1) (pe_un un_neg pe_int) (fun _ _ => rfl)) pe_int (fun _ _ => rfl)) pe_int) pa_nil))) (pg_sub (pv 1) (pe_un un_neg pe_int) set_list))) (pss_one (ps_expr (pe_bm PySem.F.plainAttrs_list PySem.F.slot_list_append PySem.F.type_list_append mt_append (pv 1) (pa_cons (pe_tup (pa_cons (pe_ix (ix_tupK (K := K) rfl) (pv 0) (pv 2) (fun _ _ => rfl)) (pa_cons pe_int pa_nil))) pa_nil)))))))
  (pss_one (ps_ret (pv 1))))), ?_⟩
    refine ⟨Nat.zero_le _, fun L hL => ?_⟩
    have l1 : (ns.map V.int).length = ns.length := List.length_map _
    refine ⟨_, rfl, a, _, rfl, .inr (SqT.of (Ex.new hL _ _ ha)), ?_⟩
    rw [l1]
    refine ⟨_, rfl, by omega, by omega, ?_⟩
    refine for_range (lo := 0) (n := ns.length) (fun i σ H' => ∃ zs x, σ = [some (.ref a), some (.ref L), x] ∧ H L = none ∧ Ex H H' ∧ TRows H' L zs ∧ zs.map (·.2) = runsL (ns.take i)) ⟨[], none, rfl, hL, Ex.new hL, ⟨upd_same, fun z hz => nomatch hz⟩, rfl⟩ ?_ ?_
    · rintro i σ H1 hi ⟨zs, x, rfl, _, e1, q, e⟩
      rw [Int.zero_add]
      have h1 := e1 _ _ ha
      obtain ⟨z, hz0⟩ : ∃ z, ns[i]? = some z := ⟨_, List.getElem?_eq_getElem hi⟩
      have hzi : (ns.map V.int)[i]? = some (.int z) := at_map hz0
      have zl : zs.length ≤ 1000 := by
        have h1 : zs.length = (runsL (ns.take i)).length := by rw [← e, List.length_map]
        have h2 := runsL_len (ns.take i)
        rw [List.length_take] at h2
        omega
      have new : runStep (runsL (ns.take i)) z = runsL (ns.take i) ++ [(z, 1)] → ∀ σ, σ = [some (V.ref a), some (V.ref L), some (V.int (i : Nat))] → tDrop (tBM K "list" rAppend (tVar 1) (tCons (tTup (tCons (tOp (rIxT K) (tVar 0) (tVar 2)) (tCons (tC (V.int 1)) tNil))) tNil)) { nx := fun σ H' => ∃ zs x, σ = [some (.ref a), some (.ref L), x] ∧ H L = none ∧ Ex H H' ∧ TRows H' L zs ∧ zs.map (·.2) = runsL (ns.take (i + 1)), rt := Q } σ H1 := by
        rintro er σ rfl
        refine ⟨_, rfl, .inl ⟨rfl, _, SqL.of q.at_⟩, _, rfl, _, rfl, a, _, _, _, rfl, rfl, SqT.of h1, atI_nat hzi, (by decide : 2 ≤ sizeLine), fun r hr => ?_⟩
        have e2 : Ex H1 _ := Ex.new (o := .tup [.int z, .int 1]) hr
        have rL : r ≠ L := Ne.symm (ne_no q.at_ hr)
        refine ⟨L, _, _, rfl, rfl, e2 _ _ q.at_, ?_, zs ++ [(r, z, 1)], _, rfl, hL, Ex.mut (e1.trans e2) hL, ⟨?_, fun y hy => ?_⟩, ?_⟩
        · rw [List.length_map]; exact sz_lt (by omega)
        · rw [upd_same, List.map_append]; rfl
        · rcases List.mem_append.mp hy with hy | hy
          · rw [upd_ne (Ne.symm (ne_lt q.at_ (q.cell y hy)))]
            exact e2 _ _ (q.cell y hy)
          · rw [List.mem_singleton.mp hy]
            rw [upd_ne rL, upd_same]
        · rw [runsL_take hz0, List.map_append, e, er]; rfl
      refine ⟨_, rfl, _, _, rfl, rfl, _, rfl, ?_⟩
      by_cases h0 : i = 0
      · subst h0
        refine ev_F (by simp) ?_
        refine iteF ?_
        exact new rfl _ rfl
      · refine ev_T (by simp; omega) ?_
        obtain ⟨j, rfl⟩ : ∃ j, i = j + 1 := ⟨i - 1, by omega⟩
        obtain ⟨y, hy0⟩ : ∃ y, ns[j]? = some y := ⟨_, List.getElem?_eq_getElem (by omega)⟩
        have hyi : (ns.map V.int)[j]? = some (.int y) := at_map hy0
        have ej : ((j + 1 : Nat) : Int) - 1 = (j : Int) := by omega
        refine ⟨_, rfl, _, rfl, _, _, rfl, rfl, a, _, _, _, rfl, rfl, SqT.of h1, (by rw [ej]; exact atI_nat hyi), _, rfl, _, rfl, a, _, _, _, rfl, rfl, SqT.of h1, atI_nat hzi, rfl, _, rfl, ?_⟩
        obtain ⟨c, hc⟩ := runsL_last hy0
        have hne : zs ≠ [] := by
          rintro rfl
          rw [← e] at hc
          cases hc
        rcases List.eq_nil_or_concat zs with rfl | ⟨ys, ⟨r, y', c'⟩, rfl⟩
        · exact absurd rfl hne
        · rw [List.concat_eq_append] at *
          have eR : runsL (ns.take (j + 1)) = ys.map (·.2) ++ [(y', c')] := by rw [← e, List.map_append]; rfl
          rw [eR, List.getLast?_concat] at hc
          cases hc
          by_cases hyz : y = z
          · subst hyz
            refine ev_T (by simp) ?_
            have hm : (r, y, c) ∈ ys ++ [(r, y, c)] := List.mem_append_right _ (List.mem_singleton.mpr rfl)
            have hr := q.cell _ hm
            have hat := q.at_
            rw [List.map_append] at hat
            refine ⟨_, rfl, _, rfl, a, _, _, _, rfl, rfl, SqT.of h1, atI_nat hzi, _, rfl, 1, rfl, L, _, -1, V.ref r, rfl, rfl, SqL.of hat, atI_last _ _, r, _, 1, V.int c, rfl, rfl, SqT.of hr, rfl, _, _, rfl, rfl, (by decide : 2 ≤ sizeLine), fun r2 hr2 => ?_⟩
            have e2 : Ex H1 _ := Ex.new (o := .tup [.int y, .int (c + 1)]) hr2
            have rL : r2 ≠ L := Ne.symm (ne_no q.at_ hr2)
            refine ⟨_, rfl, 1, rfl, L, _, -1, ys.length, rfl, rfl, e2 _ _ hat, ?_, ys ++ [(r2, y, c + 1)], _, rfl, hL, Ex.mut (e1.trans e2) hL, ⟨?_, fun x hx => ?_⟩, ?_⟩
            · show ixN (ys.map (fun z => V.ref z.1) ++ [V.ref r]).length (-1) = some ys.length
              unfold ixN
              rw [if_neg (by decide), List.length_append, List.length_map, List.length_singleton, if_pos (by omega)]
              congr 1
              omega
            · rw [upd_same, List.map_append]
              congr 2
              rw [List.set_append_right _ _ (by rw [List.length_map]; exact Nat.le_refl _), List.length_map, Nat.sub_self]
              rfl
            · rcases List.mem_append.mp hx with hx | hx
              · have hx' := q.cell x (List.mem_append_left _ hx)
                rw [upd_ne (Ne.symm (ne_lt q.at_ hx'))]
                exact e2 _ _ hx'
              · rw [List.mem_singleton.mp hx]
                rw [upd_ne rL, upd_same]
            · rw [runsL_take hz0, eR, List.map_append]
              unfold runStep
              rw [List.getLast?_concat]
              simp
          · refine ev_F (by simp [hyz]) ?_
            refine new ?_ _ rfl
            rw [eR]
            unfold runStep
            rw [List.getLast?_concat]
            simp [hyz]
    · rintro σ H1 ⟨zs, x, rfl, _, e1, q, e⟩
      rw [List.take_length] at e
      exact ⟨_, rfl, k L zs H1 e1 q e⟩
end
end LP
end

section
set_option Elab.async false
set_option linter.all false
set_option maxRecDepth 100000
set_option maxHeartbeats 4000000
namespace LP
open PySem L2 PyProof.Rows PySem.Spec Evl MR
section
variable {P : Program} {w : World} {K : PySem.W.Frag} {mg : Str → Option Value} {base : Heap} {CP CB : Addr}
theorem cat_of {H : Hp} {Q : VK} {a b : Addr} {xs ys : List V} (ha : H a = some (.tup xs)) (hb : H b = some (.tup ys)) (hz : xs.length + ys.length ≤ 100000) (k : ∀ p H', Ex H H' → H' p = some (.tup (xs ++ ys)) → Q (.ref p) H') : rCatA K (.ref a) (.ref b) H Q :=
  ⟨a, b, xs, ys, rfl, rfl, SqT.of ha, SqT.of hb, sz_of hz, fun e => k b H (Ex.refl H) (by rw [e]; exact hb), fun _ e => k a H (Ex.refl H) (by rw [e, List.append_nil]; exact ha), fun _ _ p hp => k p _ (Ex.new hp) upd_same⟩
theorem rep_of {H : Hp} {Q : VK} {a : Addr} {x : V} {n : Int} (ha : H a = some (.tup [x])) (h1 : 1 ≤ n) (h2 : n ≤ 1000) (k : ∀ p H', Ex H H' → H' p = some (.tup (List.replicate n.toNat x)) → Q (.ref p) H') : rRepTA K (.ref a) (.int n) H Q := by
  by_cases h : n = 1
  · subst h
    exact .inl ⟨a, _, rfl, rfl, SqT.of ha, k a H (Ex.refl H) ha⟩
  · refine .inr ⟨a, n, _, rfl, rfl, SqT.of ha, by simp, by omega, h2, by simp, fun p hp => k p _ (Ex.new hp) ?_⟩
    rw [upd_same]
    congr 2
    generalize n.toNat = m
    induction m with
    | zero => rfl
    | succ m ih => rw [List.replicate_succ, List.replicate_succ, List.flatten_cons, ih]; rfl
theorem cut_of {H : Hp} {Q : VK} {a : Addr} {xs : List V} {lo hi : Option Int} (ha : H a = some (.tup xs)) (k : ∀ p H', Ex H H' → H' p = some (.tup (cutV xs lo hi)) → Q (.ref p) H') : rSlA K (.ref a) lo hi H Q := by
  refine ⟨a, xs, rfl, SqT.of ha, fun h => k a H (Ex.refl H) ?_, fun _ p hp => k p _ (Ex.new hp) upd_same⟩
  rw [ha]
  unfold cutV
  rw [h.1, h.2, List.drop_zero, Nat.sub_zero, List.take_length]
/-- of one word, a new tuple | a new list -/
def spW1 (f : Wd → List Int) : Sp := fun vs H Q _ => ∃ (a : Addr) (ns : List Int), vs = [.ref a] ∧ H a = some (.tup (ns.map V.int)) ∧ ns.length ≤ 1000 ∧
  ∀ p H', Ex H H' → H' p = some (.tup ((f ns).map V.int)) → Q (.ref p) H'
def spW2 (f : Wd → List Int) : Sp := fun vs H Q _ => ∃ (a : Addr) (ns : List Int), vs = [.ref a] ∧ H a = some (.tup (ns.map V.int)) ∧ ns.length ≤ 1000 ∧
  ∀ p H', Ex H H' → H' p = some (.lst ((f ns).map V.int)) → Q (.ref p) H'
theorem c__law_shape_of (F : Facts K mg CP CB) : C8.Cal P w K mg base 2 "_law_shape_of" (spW1 shape) [] := by
  obtain ⟨f, fd, D, b⟩ := F.d__law_shape_of
  have c__law_runs := c__law_runs (P := P) (w := w) (base := base) F
  refine C8.cal0 D b .nil sc__law_shape_of (fun vs H Q E h => ?_) (fun cdv A outer s H vs Q E hr h => ?_)
  · obtain ⟨a, ns, rfl, _⟩ := h
    rfl
  · obtain ⟨a, ns, rfl, ha, hz, k⟩ := h
    refine ⟨_, (pss_one (ps_ret (pe_callTy (cr_tupleK (K := K) rfl) (by rfl) F.n_tuple (by decide +kernel) (pa_cons (pe_lc (own := [("_law_row", 1)]) (g := (gName 1)) (tt := tYes) (by rfl) sc__law_shape_of.nd (pi_listK (K := K) rfl (C8.pe_c c__law_runs hr (by decide) (by rfl) (pa_cons (pv 0) pa_nil))) (blkOk_by (own := [("_law_row", 1)]) (N := N__law_shape_of) (sc := (C8.fnScope st__law_shape_of)) (by decide +kernel)) (fun _ _ _ _ _ => (pg_name (i := 1) sc__law_shape_of.nd rfl (Or.inl rfl))) (fun _ _ _ _ _ => pts_nil) (fun _ _ _ _ _ => (pe_ix (ix_tupK (K := K) rfl) (pv 1) pe_int (fun _ _ => rfl)))) pa_nil)))), ?_⟩
    refine ⟨_, rfl, a, ns, rfl, ha, hz, fun L zs H2 e2 r2 er => ?_⟩
    have zl : zs.length ≤ 1000 := by
      have h1 : zs.length = (runsL ns).length := by rw [← er, List.length_map]
      have h2 := runsL_len ns
      omega
    refine ⟨L, rfl, ⟨_, SqL.of r2.at_⟩, fun d hd => ?_⟩
    refine lc_list (fun i H' => Ex H2 H' ∧ H2 d = none ∧ H' d = some (.lst (((zs.take i).map (·.2.1)).map V.int))) ⟨Ex.new hd, hd, upd_same⟩ (fun i H' _ p => SqL.of (p.1 _ _ r2.at_)) ?_ ?_
    · rintro i y H' hi ⟨e3, _, h3⟩
      obtain ⟨z, rfl, hi0⟩ := map_at hi
      have il := (List.getElem?_eq_some_iff.mp hi0).1
      refine ⟨rfl, lcY ?_⟩
      refine ⟨_, rfl, z.1, _, 0, V.int z.2.1, rfl, rfl, SqT.of (e3 _ _ (r2.cell z (List.mem_of_getElem? hi0))), rfl, _, h3, ?_, Ex.mut e3 hd, hd, ?_⟩
      · rw [List.length_map, List.length_map, List.length_take]; exact sz_lt (by omega)
      · rw [upd_same, List.take_add_one, hi0]
        simp
    · rintro H' ⟨e3, _, h3⟩
      rw [List.length_map, List.take_length] at h3
      have es : (zs.map (·.2.1)) = shape ns := by
        unfold shape
        rw [← er, List.map_map]
        rfl
      rw [es] at h3
      exact ⟨d, _, rfl, .inl ⟨SqL.of h3, fun l hl => k l _ ((e2.trans e3).trans (Ex.new hl)) upd_same⟩⟩
theorem c__law_lengths_of (F : Facts K mg CP CB) : C8.Cal P w K mg base 2 "_law_lengths_of" (spW2 lens) [] := by
  obtain ⟨f, fd, D, b⟩ := F.d__law_lengths_of
  have c__law_runs := c__law_runs (P := P) (w := w) (base := base) F
  refine C8.cal0 D b .nil sc__law_lengths_of (fun vs H Q E h => ?_) (fun cdv A outer s H vs Q E hr h => ?_)
  · obtain ⟨a, ns, rfl, _⟩ := h
    rfl
  · obtain ⟨a, ns, rfl, ha, hz, k⟩ := h
    refine ⟨_, (pss_one (ps_ret (pe_lc (own := [("_law_row", 1)]) (g := (gName 1)) (tt := tYes) (by rfl) sc__law_lengths_of.nd (pi_listK (K := K) rfl (C8.pe_c c__law_runs hr (by decide) (by rfl) (pa_cons (pv 0) pa_nil))) (blkOk_by (own := [("_law_row", 1)]) (N := N__law_lengths_of) (sc := (C8.fnScope st__law_lengths_of)) (by decide +kernel)) (fun _ _ _ _ _ => (pg_name (i := 1) sc__law_lengths_of.nd rfl (Or.inl rfl))) (fun _ _ _ _ _ => pts_nil) (fun _ _ _ _ _ => (pe_ix (ix_tupK (K := K) rfl) (pv 1) pe_int (fun _ _ => rfl)))))), ?_⟩
    refine ⟨_, rfl, a, ns, rfl, ha, hz, fun L zs H2 e2 r2 er => ?_⟩
    have zl : zs.length ≤ 1000 := by
      have h1 : zs.length = (runsL ns).length := by rw [← er, List.length_map]
      have h2 := runsL_len ns
      omega
    refine ⟨L, rfl, ⟨_, SqL.of r2.at_⟩, fun d hd => ?_⟩
    refine lc_list (fun i H' => Ex H2 H' ∧ H2 d = none ∧ H' d = some (.lst (((zs.take i).map (·.2.2)).map V.int))) ⟨Ex.new hd, hd, upd_same⟩ (fun i H' _ p => SqL.of (p.1 _ _ r2.at_)) ?_ ?_
    · rintro i y H' hi ⟨e3, _, h3⟩
      obtain ⟨z, rfl, hi0⟩ := map_at hi
      have il := (List.getElem?_eq_some_iff.mp hi0).1
      refine ⟨rfl, lcY ?_⟩
      refine ⟨_, rfl, z.1, _, 1, V.int z.2.2, rfl, rfl, SqT.of (e3 _ _ (r2.cell z (List.mem_of_getElem? hi0))), rfl, _, h3, ?_, Ex.mut e3 hd, hd, ?_⟩
      · rw [List.length_map, List.length_map, List.length_take]; exact sz_lt (by omega)
      · rw [upd_same, List.take_add_one, hi0]
        simp
    · rintro H' ⟨e3, _, h3⟩
      rw [List.length_map, List.take_length] at h3
      have es : (zs.map (·.2.2)) = lens ns := by
        unfold lens
        rw [← er, List.map_map]
        rfl
      rw [es] at h3
      exact k d _ (e2.trans e3) h3
/-- a word spelled by its shape (a tuple) and its lengths (a list) -/
def spSpell : Sp := fun vs H Q _ => ∃ (a b : Addr) (sh ls : List Int), vs = [.ref a, .ref b] ∧ H a = some (.tup (sh.map V.int)) ∧ H b = some (.lst (ls.map V.int)) ∧ sh.length = ls.length ∧ ls.length ≤ 100 ∧ (∀ n ∈ ls, 1 ≤ n ∧ n ≤ 100) ∧
  ∀ p H', Ex H H' → H' p = some (.tup ((spell sh ls).map V.int)) → Q (.ref p) H'
theorem c__law_spelled (F : Facts K mg CP CB) : C8.Cal P w K mg base 1 "_law_spelled" spSpell [] := by
  obtain ⟨f, fd, D, b⟩ := F.d__law_spelled
  refine C8.cal0 D b .nil sc__law_spelled (fun vs H Q E h => ?_) (fun cdv A outer s H vs Q E hr h => ?_)
  · obtain ⟨a, b, sh, ls, rfl, _⟩ := h
    rfl
  · obtain ⟨a, b, sh, ls, rfl, ha, hb, hl, hz, hn, k⟩ := h
    refine ⟨_, (pss_cons (ps_set (i := 2) sc__law_spelled.nd rfl (Or.inl rfl) (pe_tup pa_nil))
  (pss_cons (ps_for PassesOwn.never rfl (pi_range1 (by rfl) F.n_range (pa_cons (pe_callB (cr_lenK (K := K) rfl) (by rfl) F.n_len PySem.boot_len (pa_cons (pv 0) pa_nil)) pa_nil)) (pg_name (i := 3) sc__law_spelled.nd rfl (Or.inl rfl))
    (pss_one (ps_set (i := 2) sc__law_spelled.nd rfl (Or.inl rfl) (pe_op (op_catK (K := K) rfl) (pv 2) (pe_op (op_repTA (K := K) rfl) (pe_tup (pa_cons (pe_ix (ix_tupK (K := K) rfl) (pv 0) (pv 3) (fun _ _ => rfl)) pa_nil)) (pe_ix (ix_listK (K := K) rfl) (pv 1) (pv 3) (fun _ _ => rfl)))))))
  (pss_one (ps_ret (pv 2))))), ?_⟩
    refine ⟨by decide, fun t0 ht0 => ?_⟩
    have l1 : (sh.map V.int).length = sh.length := List.length_map _
    have e0 : Ex H _ := Ex.new (o := .tup []) ht0
    refine ⟨_, rfl, a, _, rfl, .inr (SqT.of (e0 _ _ ha)), ?_⟩
    rw [l1]
    refine ⟨_, rfl, by omega, by omega, ?_⟩
    refine for_range (lo := 0) (n := sh.length) (fun i σ H' => ∃ p x, σ = [some (.ref a), some (.ref b), some (.ref p), x] ∧ Ex H H' ∧ H' p = some (.tup ((spell (sh.take i) (ls.take i)).map V.int))) ⟨t0, none, rfl, e0, upd_same⟩ ?_ ?_
    · rintro i σ H1 hi ⟨p, x, rfl, e1, hp⟩
      rw [Int.zero_add]
      obtain ⟨z, hz0⟩ : ∃ z, sh[i]? = some z := ⟨_, List.getElem?_eq_getElem hi⟩
      obtain ⟨n, hn0⟩ : ∃ n, ls[i]? = some n := ⟨_, List.getElem?_eq_getElem (by omega)⟩
      have nb := hn n (List.mem_of_getElem? hn0)
      refine ⟨_, rfl, _, rfl, _, rfl, a, _, _, _, rfl, rfl, SqT.of (e1 _ _ ha), atI_nat (at_map hz0), (by decide : 1 ≤ sizeLine), fun t1 ht1 => ?_⟩
      have e2 : Ex H1 _ := Ex.new (o := .tup [.int z]) ht1
      refine ⟨_, rfl, _, rfl, b, _, _, _, rfl, rfl, SqL.of (e2 _ _ (e1 _ _ hb)), atI_nat (at_map hn0), rep_of upd_same nb.1 (by omega) fun t2 H3 e3 h3 => ?_⟩
      refine cat_of (e3 _ _ (e2 _ _ hp)) h3 ?_ fun t3 H4 e4 h4 => ⟨t3, _, rfl, ((e1.trans e2).trans e3).trans e4, ?_⟩
      · rw [List.length_map, List.length_replicate]
        have := spell_len (sh.take i) (ls.take i) 100 fun m hm => by have := hn m (List.mem_of_mem_take hm); omega
        rw [List.length_take] at this
        have h100 : min i sh.length * 100 ≤ 100 * 100 := Nat.mul_le_mul_right _ (by omega)
        omega
      · rw [h4, spell_take hz0 hn0, List.map_append, List.map_replicate]
    · rintro σ H1 ⟨p, x, rfl, e1, hp⟩
      rw [List.take_length, hl, List.take_length] at hp
      exact ⟨_, rfl, k p H1 e1 hp⟩
theorem c_spelled_word (F : Facts K mg CP CB) : C8.Cal P w K mg base 1 "spelled_word" spSpell [] := by
  obtain ⟨f, fd, D, b⟩ := F.d_spelled_word
  refine C8.cal0 D b .nil sc_spelled_word (fun vs H Q E h => ?_) (fun cdv A outer s H vs Q E hr h => ?_)
  · obtain ⟨a, b, sh, ls, rfl, _⟩ := h
    rfl
  · obtain ⟨a, b, sh, ls, rfl, ha, hb, hl, hz, hn, k⟩ := h
    refine ⟨_, (pss_cons (ps_set (i := 2) sc_spelled_word.nd rfl (Or.inl rfl) (pe_lst pa_nil))
  (pss_cons (ps_for PassesOwn.never rfl (QM.pi_zipM (by rfl) F.n_zip (pa_cons (pv 0) (pa_cons (pv 1) pa_nil))) (pg_tup2 (K := K) rfl rfl (pgs_cons (pg_name (i := 3) sc_spelled_word.nd rfl (Or.inl rfl)) (pgs_cons (pg_name (i := 4) sc_spelled_word.nd rfl (Or.inl rfl)) pgs_nil)))
    (pss_one (ps_set (i := 2) sc_spelled_word.nd rfl (Or.inl rfl) (pe_op op_cat (pv 2) (pe_op op_rep (pe_lst (pa_cons (pv 3) pa_nil)) (pv 4))))))
  (pss_one (ps_ret (pe_callTy (cr_tupleK (K := K) rfl) (by rfl) F.n_tuple (by decide +kernel) (pa_cons (pv 2) pa_nil)))))), ?_⟩
    refine ⟨Nat.zero_le _, fun t0 ht0 => ?_⟩
    have l1 : (sh.map V.int).length = sh.length := List.length_map _
    have l2 : (ls.map V.int).length = ls.length := List.length_map _
    have e0 : Ex H _ := Ex.new (o := .lst []) ht0
    refine ⟨_, rfl, _, rfl, a, b, _, _, rfl, SqT.of (e0 _ _ ha), SqL.of (e0 _ _ hb), ?_⟩
    refine QM.for_zipM (xs := sh.map V.int) (ys := ls.map V.int) (by rw [l1, l2, hl]) (fun i σ H' => ∃ p x y, σ = [some (.ref a), some (.ref b), some (.ref p), x, y] ∧ Ex H H' ∧ H' p = some (.lst ((spell (sh.take i) (ls.take i)).map V.int))) ⟨t0, none, none, rfl, e0, upd_same⟩ (fun i σ H' ⟨_, _, _, _, e1, _⟩ => ⟨SqT.of (e1 _ _ ha), SqL.of (e1 _ _ hb)⟩) ?_ ?_
    · rintro i x y T σ H1 hx hy ⟨p, _, _, rfl, e1, hp⟩ hT
      obtain ⟨z, rfl, hz0⟩ := int_at hx
      obtain ⟨n, rfl, hn0⟩ := int_at hy
      have nb := hn n (List.mem_of_getElem? hn0)
      have il := (List.getElem?_eq_some_iff.mp hz0).1
      have e2 : Ex H1 _ := Ex.new (o := .tup [.int z, .int n]) hT
      refine ⟨T, _, rfl, st_of upd_same, rfl, _, _, rfl, _, _, rfl, rfl, ?_⟩
      refine ⟨_, rfl, _, rfl, (by decide : 1 ≤ sizeLine), fun t1 ht1 => ?_⟩
      have e3 : Ex _ _ := Ex.new (o := .lst [.int z]) ht1
      refine ⟨_, rfl, t1, n, _, rfl, rfl, upd_same, by omega, by omega, ?_, fun t2 ht2 => ?_⟩
      · show 1 * n.toNat ≤ sizeLine
        exact sz_of (by omega)
      have e4 : Ex _ _ := Ex.new (o := .lst (List.replicate n.toNat [V.int z]).flatten) ht2
      refine ⟨p, t2, _, _, rfl, rfl, e4 _ _ (e3 _ _ (e2 _ _ hp)), upd_same, ?_, fun t3 ht3 => ⟨t3, _, _, rfl, (((e1.trans e2).trans e3).trans e4).trans (Ex.new ht3), ?_⟩⟩
      · have := spell_len (sh.take i) (ls.take i) 100 fun m hm => by have := hn m (List.mem_of_mem_take hm); omega
        rw [List.length_take] at this
        have h100 : min i sh.length * 100 ≤ 100 * 100 := Nat.mul_le_mul_right _ (by omega)
        have hf : ∀ m : Nat, ((List.replicate m [V.int z]).flatten).length = m := fun m => by simp
        rw [List.length_map, hf]
        exact sz_of (by omega)
      · rw [upd_same, spell_take hz0 hn0, List.map_append, List.map_replicate]
        congr 3
        generalize n.toNat = m
        induction m with
        | zero => rfl
        | succ m ih => rw [List.replicate_succ, List.replicate_succ, List.flatten_cons, ih]; rfl
    · rintro σ H1 ⟨p, x, y, rfl, e1, hp⟩
      rw [l1, List.take_length, hl, List.take_length] at hp
      exact ⟨_, rfl, p, _, rfl, .inl ⟨SqL.of hp, fun l hl => k l _ (e1.trans (Ex.new hl)) upd_same⟩⟩
end
end LP
end

section
set_option Elab.async false
set_option linter.all false
set_option maxRecDepth 100000
set_option maxHeartbeats 4000000
namespace LP
open PySem L2 PyProof.Rows PySem.Spec Evl MR
section
variable {P : Program} {w : World} {K : PySem.W.Frag} {mg : Str → Option Value} {base : Heap} {CP CB : Addr}
theorem walk_zipT {a b : Addr} {xs ys : List V} {n : Nat} (hn : n = min xs.length ys.length) : Walk (RZ.ItzT K a b) n (fun H => SqT K H a xs ∧ SqT K H b ys) (YPair (fun i => xs[i]?) (fun i => ys[i]?)) := by
  subst hn
  refine ⟨fun i _ hi q => ?_, fun _ q => ⟨xs, ys, q.1, q.2, by omega⟩, fun i H v H' _ q y => ?_⟩
  · have h1 : i < xs.length := by omega
    have h2 : i < ys.length := by omega
    exact ⟨xs, ys, xs[i], ys[i], q.1, q.2, by simp [h1], by simp [h2]⟩
  · obtain ⟨T, x, z, h1, h2, h3, h4, h5⟩ := y
    exact ⟨T, x, z, h1, h2, h3, h4 xs q.1, h5 ys q.2⟩
theorem walk_zipM {a b : Addr} {xs ys : List V} {n : Nat} (hn : n = min xs.length ys.length) : Walk (QM.ItzM K a b) n (fun H => SqT K H a xs ∧ SqL K H b ys) (YPair (fun i => xs[i]?) (fun i => ys[i]?)) := by
  subst hn
  refine ⟨fun i _ hi q => ?_, fun _ q => ⟨xs, ys, q.1, q.2, by omega⟩, fun i H v H' _ q y => ?_⟩
  · have h1 : i < xs.length := by omega
    have h2 : i < ys.length := by omega
    exact ⟨xs, ys, xs[i], ys[i], q.1, q.2, by simp [h1], by simp [h2]⟩
  · obtain ⟨T, x, z, h1, h2, h3, h4, h5⟩ := y
    exact ⟨T, x, z, h1, h2, h3, h4 xs q.1, h5 ys q.2⟩
def vO : Option Int → V
  | none => .non
  | some i => .int i
theorem take_zip {xs ys : List Int} {i : Nat} {x y : Int} (f : Int → Int → Int) (h : xs[i]? = some x) (h' : ys[i]? = some y) : ((xs.zip ys).take (i + 1)).map (fun p => f p.1 p.2) = ((xs.zip ys).take i).map (fun p => f p.1 p.2) ++ [f x y] := by
  have e : (xs.zip ys)[i]? = some (x, y) := by
    rw [List.getElem?_zip_eq_some]
    exact ⟨h, h'⟩
  rw [List.take_add_one, e, List.map_append]
  rfl
def stepsV (a b : Wd) : V := vO (stepsM a b)
def apartV (a b : Wd) : V := vO (apartM a b)
def commonV (a b : Wd) : V := .int (commonM a b)
/-- of two words -/
def spW3 (n : Nat) (q : Int) (f : Wd → Wd → V) : Sp := fun vs H Q _ => ∃ (a b : Addr) (ns ms : List Int), vs = [.ref a, .ref b] ∧ H a = some (.tup (ns.map V.int)) ∧ H b = some (.tup (ms.map V.int)) ∧ ns.length ≤ n ∧ ms.length ≤ n ∧ (∀ x ∈ ns, 0 ≤ x ∧ x < q) ∧ (∀ x ∈ ms, 0 ≤ x ∧ x < q) ∧
  ∀ H', Ex H H' → Q (f ns ms) H'
theorem c_run_steps (F : Facts K mg CP CB) : C8.Cal P w K mg base 4 "run_steps" (spW3 24 4 stepsV) [] := by
  obtain ⟨f, fd, D, b⟩ := F.d_run_steps
  have c_check_word2 := c_check_word2 (P := P) (w := w) (base := base) F
  have c_shape_of := c_shape_of (P := P) (w := w) (base := base) F
  have c_lengths_of := c_lengths_of (P := P) (w := w) (base := base) F
  refine C8.cal0 D b .nil sc_run_steps (fun vs H Q E h => ?_) (fun cdv A outer s H vs Q E hr h => ?_)
  · obtain ⟨a, b, ns, ms, rfl, _⟩ := h
    rfl
  · obtain ⟨a, b, ns, ms, rfl, ha, hb, hz, hz2, hn, hm, k⟩ := h
    refine ⟨_, (pss_cons (ps_set (i := 0) sc_run_steps.nd rfl (Or.inl rfl) (C8.pe_c c_check_word2 hr (by decide) (by rfl) (pa_cons pe_int (pa_cons (pv 0) pa_nil))))
  (pss_cons (ps_set (i := 1) sc_run_steps.nd rfl (Or.inl rfl) (C8.pe_c c_check_word2 hr (by decide) (by rfl) (pa_cons pe_int (pa_cons (pv 1) pa_nil))))
  (pss_cons (ps_if (pt_cmpR (op_neK (K := K) rfl (hu64 hr)) (C8.pe_c c_shape_of hr (by decide) (by rfl) (pa_cons (pv 0) pa_nil)) (C8.pe_c c_shape_of hr (by decide) (by rfl) (pa_cons (pv 1) pa_nil)) (nomark _)) (pss_one (ps_ret pe_non)) pss_nil)
  (pss_one (ps_ret (pe_callB (cr_sumK (K := K) rfl rfl) (by rfl) F.n_sum (by decide +kernel) (pa_cons (pe_lc (own := [("here", 2), ("there", 3)]) (g := _) (tt := tYes) (by rfl) sc_run_steps.nd (RZ.pi_zipA (by rfl) F.n_zip (pa_cons (C8.pe_c c_lengths_of hr (by decide) (by rfl) (pa_cons (pv 0) pa_nil)) (pa_cons (C8.pe_c c_lengths_of hr (by decide) (by rfl) (pa_cons (pv 1) pa_nil)) pa_nil))) (blkOk_by (own := [("here", 2), ("there", 3)]) (N := N_run_steps) (sc := (C8.fnScope st_run_steps)) (by decide +kernel)) (fun _ _ _ _ _ => (pg_tup2 (K := K) rfl rfl (pgs_cons (pg_name (i := 2) sc_run_steps.nd rfl (Or.inl rfl)) (pgs_cons (pg_name (i := 3) sc_run_steps.nd rfl (Or.inl rfl)) pgs_nil)))) (fun _ _ _ _ _ => pts_nil) (fun _ _ _ _ _ => (pe_callB call_abs (by rfl) F.n_abs (by decide +kernel) (pa_cons (pe_op op_sub (pv 2) (pv 3)) pa_nil)))) pa_nil))))))), ?_⟩
    refine ⟨_, rfl, 4, a, ns, 24, rfl, .inr ha, by omega, by decide, hn, fun a2 H1 e1 h1 => ?_⟩
    refine ⟨_, rfl, 4, b, ms, 24, rfl, .inr (e1 _ _ hb), by omega, by decide, hm, fun b2 H2 e2 h2 => ?_⟩
    have h1 := e2 _ _ h1
    refine ⟨_, rfl, a2, ns, rfl, h1, hz, hn, fun p H3 e3 h3 => ⟨_, rfl, b2, ms, rfl, e3 _ _ h2, hz2, hm, fun p2 H4 e4 h4 => ?_⟩⟩
    refine ⟨_, _, dp_T (e4 _ _ h3), dp_T h4, (sh_dT _).shaped, (sh_dT _).shaped, _, rfl, ?_⟩
    rw [eqv_dT]
    have e := ((e1.trans e2).trans e3).trans e4
    by_cases hs : shape ns = shape ms
    · refine ev_F (by simp [hs]) ?_
      refine ⟨_, rfl, a2, ns, rfl, e4 _ _ (e3 _ _ h1), hz, hn, fun p H5 e5 h5 => ⟨_, rfl, b2, ms, rfl, e5 _ _ (e4 _ _ (e3 _ _ h2)), hz2, hm, fun p2 H6 e6 h6 => ?_⟩⟩
      have h5 := e6 _ _ h5
      refine ⟨p, p2, _, _, rfl, .inr ⟨SqT.of h5, SqT.of h6, fun d hd => ?_⟩⟩
      have ll := lens_len2 hs
      have ln := shape_len ns
      have lz := lens_len ns
      refine lc_it (walk_zipT (n := ((lens ns).zip (lens ms)).length) (by simp)) (fun i H' => Ex H6 H' ∧ H6 d = none ∧ H' d = some (.lst (((((lens ns).zip (lens ms)).take i).map fun p => absI (p.1 - p.2)).map V.int))) ⟨Ex.new hd, hd, upd_same⟩ (fun i H' _ p => ⟨SqT.of (p.1 _ _ h5), SqT.of (p.1 _ _ h6)⟩) ?_ ?_
      · rintro i y H7 H8 hi ⟨e7, _, h7⟩ ⟨T, x, y, rfl, hT, rfl, ex, ey⟩
        obtain ⟨u, rfl, hu⟩ := int_at ex
        obtain ⟨v, rfl, hv⟩ := int_at ey
        refine ⟨T, _, rfl, st_of upd_same, rfl, _, _, rfl, _, _, rfl, rfl, ?_⟩
        refine ⟨rfl, lcY ?_⟩
        refine ⟨_, rfl, _, rfl, _, _, rfl, rfl, u - v, rfl, _, Ex.new hT _ _ h7, ?_, Ex.mut (e7.trans (Ex.new hT)) hd, hd, ?_⟩
        · rw [List.length_map, List.length_map, List.length_take]; exact sz_lt (by rw [List.length_zip]; omega)
        · rw [upd_same, take_zip (fun a b => absI (a - b)) hu hv, List.map_append]; rfl
      · rintro H7 ⟨e7, _, h7⟩
        rw [List.take_length] at h7
        refine ⟨d, _, rfl, SqL.of h7, ?_⟩
        have : Q (vO (stepsM ns ms)) H7 := k H7 ((e.trans (e5.trans e6)).trans e7)
        unfold stepsM at this
        rw [if_pos hs] at this
        exact this
    · refine ev_T (by simp [hs]) ?_
      have : Q (vO (stepsM ns ms)) H4 := k H4 e
      unfold stepsM at this
      rw [if_neg hs] at this
      exact this
theorem c__law_apart (F : Facts K mg CP CB) : C8.Cal P w K mg base 3 "_law_apart" (spW3 100 4 apartV) [] := by
  obtain ⟨f, fd, D, b⟩ := F.d__law_apart
  have c__law_shape_of := c__law_shape_of (P := P) (w := w) (base := base) F
  have c__law_lengths_of := c__law_lengths_of (P := P) (w := w) (base := base) F
  refine C8.cal0 D b .nil sc__law_apart (fun vs H Q E h => ?_) (fun cdv A outer s H vs Q E hr h => ?_)
  · obtain ⟨a, b, ns, ms, rfl, _⟩ := h
    rfl
  · obtain ⟨a, b, ns, ms, rfl, ha, hb, hz, hz2, hn, hm, k⟩ := h
    refine ⟨_, (pss_cons (ps_if (pt_cmpR (op_neK (K := K) rfl (hu64 hr)) (C8.pe_c c__law_shape_of hr (by decide) (by rfl) (pa_cons (pv 0) pa_nil)) (C8.pe_c c__law_shape_of hr (by decide) (by rfl) (pa_cons (pv 1) pa_nil)) (nomark _)) (pss_one (ps_ret pe_non)) pss_nil)
  (pss_cons (ps_set (i := 2) sc__law_apart.nd rfl (Or.inr rfl) (C8.pe_c c__law_lengths_of hr (by decide) (by rfl) (pa_cons (pv 0) pa_nil)))
  (pss_cons (ps_set (i := 3) sc__law_apart.nd rfl (Or.inr rfl) (C8.pe_c c__law_lengths_of hr (by decide) (by rfl) (pa_cons (pv 1) pa_nil)))
  (pss_one (ps_ret (pe_callB (cr_sumK (K := K) rfl rfl) (by rfl) F.n_sum (by decide +kernel) (pa_cons (pe_lc (own := [("_law_k", 4)]) (g := (gName 4)) (tt := tYes) (by rfl) sc__law_apart.nd (pi_range1 (by rfl) F.n_range (pa_cons (pe_callB (cr_lenK (K := K) rfl) (by rfl) F.n_len PySem.boot_len (pa_cons (pv 2) pa_nil)) pa_nil)) (blkOk_by (own := [("_law_k", 4)]) (N := N__law_apart) (sc := (C8.fnScope st__law_apart)) (by decide +kernel)) (fun _ _ _ _ _ => (pg_name (i := 4) sc__law_apart.nd rfl (Or.inl rfl))) (fun _ _ _ _ _ => pts_nil) (fun _ _ _ _ _ => (pe_callB (call_max2 rfl) (by rfl) F.n_max (by decide +kernel) (pa_cons pe_int (pa_cons (pe_op op_sub (pe_ix (ix_listK (K := K) rfl) (pv 2) (pv 4) (fun _ _ => rfl)) (pe_ix (ix_listK (K := K) rfl) (pv 3) (pv 4) (fun _ _ => rfl))) pa_nil))))) pa_nil))))))), ?_⟩
    refine ⟨_, rfl, a, ns, rfl, ha, by omega, fun p H3 e3 h3 => ⟨_, rfl, b, ms, rfl, e3 _ _ hb, by omega, fun p2 H4 e4 h4 => ?_⟩⟩
    refine ⟨_, _, dp_T (e4 _ _ h3), dp_T h4, (sh_dT _).shaped, (sh_dT _).shaped, _, rfl, ?_⟩
    rw [eqv_dT]
    have e := e3.trans e4
    by_cases hs : shape ns = shape ms
    · refine ev_F (by simp [hs]) ?_
      refine ⟨_, rfl, a, ns, rfl, e _ _ ha, by omega, fun p H5 e5 h5 => ⟨_, rfl, b, ms, rfl, e5 _ _ (e _ _ hb), by omega, fun p2 H6 e6 h6 => ?_⟩⟩
      have h5 := e6 _ _ h5
      have ll := lens_len2 hs
      have ln := shape_len ns
      have lz := lens_len ns
      have l1 : ((lens ns).map V.int).length = (lens ns).length := List.length_map _
      refine ⟨_, rfl, p, _, rfl, .inl (SqL.of h5), ?_⟩
      rw [l1]
      refine ⟨_, rfl, by omega, by omega, fun d hd => ?_⟩
      refine lc_range (lo := 0) (n := (lens ns).length) (fun i H' => Ex H6 H' ∧ H6 d = none ∧ H' d = some (.lst (((((lens ns).zip (lens ms)).take i).map fun p => maxP 0 (p.1 - p.2)).map V.int))) ⟨Ex.new hd, hd, upd_same⟩ ?_ ?_
      · rintro i H7 hi ⟨e7, _, h7⟩
        rw [Int.zero_add]
        obtain ⟨u, hu⟩ : ∃ z, (lens ns)[i]? = some z := ⟨_, List.getElem?_eq_getElem hi⟩
        obtain ⟨v, hv⟩ : ∃ z, (lens ms)[i]? = some z := ⟨_, List.getElem?_eq_getElem (by omega)⟩
        refine ⟨rfl, lcY ?_⟩
        refine ⟨_, rfl, _, rfl, p, _, _, _, rfl, rfl, SqL.of (e7 _ _ h5), atI_nat (at_map hu), _, rfl, _, rfl, p2, _, _, _, rfl, rfl, SqL.of (e7 _ _ h6), atI_nat (at_map hv), u, v, rfl, rfl, 0, u - v, rfl, _, h7, ?_, Ex.mut e7 hd, hd, ?_⟩
        · rw [List.length_map, List.length_map, List.length_take]; exact sz_lt (by rw [List.length_zip]; omega)
        · rw [upd_same, take_zip (fun a b => maxP 0 (a - b)) hu hv, List.map_append]; rfl
      · rintro H7 ⟨e7, _, h7⟩
        rw [List.take_of_length_le (by rw [List.length_zip]; omega)] at h7
        refine ⟨d, _, rfl, SqL.of h7, ?_⟩
        have : Q (vO (apartM ns ms)) H7 := k H7 ((e.trans (e5.trans e6)).trans e7)
        unfold apartM at this
        rw [if_pos hs] at this
        exact this
    · refine ev_T (by simp [hs]) ?_
      have : Q (vO (apartM ns ms)) H4 := k H4 e
      unfold apartM at this
      rw [if_neg hs] at this
      exact this
end
end LP
end

section
set_option Elab.async false
set_option linter.all false
set_option maxRecDepth 100000
set_option maxHeartbeats 4000000
namespace LP
open PySem L2 PyProof.Rows PySem.Spec Evl MR
section
variable {P : Program} {w : World} {K : PySem.W.Frag} {mg : Str → Option Value} {base : Heap} {CP CB : Addr}
theorem zeros {m : Nat} : (List.replicate m [V.int 0]).flatten = (List.replicate m (0 : Int)).map V.int := by
  induction m with
  | zero => rfl
  | succ m ih => rw [List.replicate_succ, List.replicate_succ, List.flatten_cons, ih]; rfl
theorem eqI_T {x z : Int} (h : x = z) : decide (V.int x = V.int z) = true := by rw [h]; exact decide_eq_true rfl
theorem eqI_F {x z : Int} (h : ¬ x = z) : decide (V.int x = V.int z) = false := decide_eq_false fun e => h (by injection e)
theorem ix_set {n j : Nat} (h : j < n) : ixN n (j : Int) = some j := ixN_nat h
theorem c__law_common (F : Facts K mg CP CB) : C8.Cal P w K mg base 1 "_law_common" (spW3 100 4 commonV) [] := by
  obtain ⟨f, fd, D, b⟩ := F.d__law_common
  refine C8.cal0 D b .nil sc__law_common (fun vs H Q E h => ?_) (fun cdv A outer s H vs Q E hr h => ?_)
  · obtain ⟨a, b, ns, ms, rfl, _⟩ := h
    rfl
  · obtain ⟨a, b, ns, ms, rfl, ha, hb, hz, hz2, hn, hm, k⟩ := h
    refine ⟨_, (pss_cons (ps_set (i := 2) sc__law_common.nd rfl (Or.inl rfl) (pe_op op_rep (pe_lst (pa_cons pe_int pa_nil)) (pe_op op_add (pe_callB (cr_lenK (K := K) rfl) (by rfl) F.n_len PySem.boot_len (pa_cons (pv 1) pa_nil)) pe_int)))
  (pss_cons (ps_for PassesOwn.never rfl (pi_tupK (K := K) rfl (pv 0)) (pg_name (i := 3) sc__law_common.nd rfl (Or.inl rfl))
    (pss_cons (ps_set (i := 4) sc__law_common.nd rfl (Or.inl rfl) pe_int)
  (pss_one (ps_for PassesOwn.never rfl (pi_range1 (by rfl) F.n_range (pa_cons (pe_callB (cr_lenK (K := K) rfl) (by rfl) F.n_len PySem.boot_len (pa_cons (pv 1) pa_nil)) pa_nil)) (pg_name (i := 5) sc__law_common.nd rfl (Or.inl rfl))
    (pss_cons (ps_set (i := 6) sc__law_common.nd rfl (Or.inl rfl) (pe_ix (ix_listK (K := K) rfl) (pv 2) (pe_op op_add (pv 5) pe_int) (fun _ _ => rfl)))
  (pss_cons (ps_if (pt_cmpR op_eq (pe_ix (ix_tupK (K := K) rfl) (pv 1) (pv 5) (fun _ _ => rfl)) (pv 3) (nomark _)) (pss_one (ps_asg (pe_op op_add (pv 4) pe_int) (pg_sub (pv 2) (pe_op op_add (pv 5) pe_int) set_list))) (pss_one (ps_asg (pe_callB (call_max2 rfl) (by rfl) F.n_max (by decide +kernel) (pa_cons (pe_ix (ix_listK (K := K) rfl) (pv 2) (pe_op op_add (pv 5) pe_int) (fun _ _ => rfl)) (pa_cons (pe_ix (ix_listK (K := K) rfl) (pv 2) (pv 5) (fun _ _ => rfl)) pa_nil))) (pg_sub (pv 2) (pe_op op_add (pv 5) pe_int) set_list))))
  (pss_one (ps_set (i := 4) sc__law_common.nd rfl (Or.inl rfl) (pv 6)))))))))
  (pss_one (ps_ret (pe_ix (ix_listK (K := K) rfl) (pv 2) (pe_callB (cr_lenK (K := K) rfl) (by rfl) F.n_len PySem.boot_len (pa_cons (pv 1) pa_nil)) (fun _ _ => rfl)))))), ?_⟩
    have l1 : (ns.map V.int).length = ns.length := List.length_map _
    have l2 : (ms.map V.int).length = ms.length := List.length_map _
    refine ⟨(by decide : 1 ≤ sizeLine), fun t0 ht0 => ?_⟩
    have e0 : Ex H _ := Ex.new (o := .lst [.int 0]) ht0
    refine ⟨_, rfl, b, _, rfl, .inr (SqT.of (e0 _ _ hb)), ?_⟩
    rw [l2]
    refine ⟨_, _, rfl, rfl, t0, _, _, rfl, rfl, upd_same, by omega, by omega, ?_, fun r hr0 => ?_⟩
    · show 1 * ((ms.length : Int) + 1).toNat ≤ sizeLine
      exact sz_of (by omega)
    have em : ((ms.length : Int) + 1).toNat = ms.length + 1 := by omega
    have hr1 : H r = none := fresh_back e0 hr0
    have e1 : Ex H (upd (upd H t0 (.lst [.int 0])) r (.lst (List.replicate ((ms.length : Int) + 1).toNat [V.int 0]).flatten)) := e0.trans (Ex.new hr0)
    refine ⟨_, rfl, a, rfl, ⟨_, SqT.of (e1 _ _ ha)⟩, ?_⟩
    refine for_tup (fun i σ H' => ∃ x y z u, σ = [some (.ref a), some (.ref b), some (.ref r), x, y, z, u] ∧ Ex H H' ∧ H' r = some (.lst (((ns.take i).foldl (comRow ms) (List.replicate (ms.length + 1) 0)).map V.int))) ⟨none, none, none, none, rfl, e1, ?_⟩ (fun i σ H' _ ⟨_, _, _, _, _, e, _⟩ => SqT.of (e _ _ ha)) ?_ ?_
    · rw [upd_same, zeros, em]
      rfl
    · rintro i x σ H1 hi ⟨_, _, _, _, rfl, e2, h2⟩
      obtain ⟨z, rfl, hz0⟩ := int_at hi
      generalize hrow : (ns.take i).foldl (comRow ms) (List.replicate (ms.length + 1) 0) = row at h2
      have rl : row.length = ms.length + 1 := by rw [← hrow, comRows_len, List.length_replicate]
      refine ⟨_, rfl, b, _, rfl, .inr (SqT.of (e2 _ _ hb)), ?_⟩
      rw [l2]
      refine ⟨_, rfl, by omega, by omega, ?_⟩
      refine for_range (lo := 0) (n := ms.length) (fun j σ H' => ∃ y u, σ = [some (.ref a), some (.ref b), some (.ref r), some (.int z), some (.int (comK z ms row j).2), y, u] ∧ Ex H H' ∧ H' r = some (.lst ((comK z ms row j).1.map V.int))) ⟨_, _, rfl, e2, h2⟩ ?_ ?_
      · rintro j σ H3 hj ⟨_, _, rfl, e3, h3⟩
        rw [Int.zero_add]
        generalize hst : comK z ms row j = st at h3
        obtain ⟨rw1, last⟩ := st
        have h3 : H3 r = some (.lst (rw1.map V.int)) := h3
        have rl1 : rw1.length = ms.length + 1 := by
          have := comK_len z ms row j
          rw [hst] at this
          rw [this, rl]
        have eSt : comK z ms row (j + 1) = (rw1.set (j + 1) (if ms.getD j 0 = z then last + 1 else maxP (rw1.getD (j + 1) 0) (rw1.getD j 0)), rw1.getD (j + 1) 0) := by
          rw [comK_succ, hst]; rfl
        have lw : (rw1.map V.int).length = ms.length + 1 := by rw [List.length_map, rl1]
        have c1 : ((j : Nat) : Int) + 1 = ((j + 1 : Nat) : Int) := by omega
        refine ⟨_, rfl, _, rfl, _, _, rfl, rfl, r, _, _, _, rfl, rfl, SqL.of h3, (by rw [c1]; exact atI_nat (at_map (getD_at (by omega)))), ?_⟩
        refine ⟨_, rfl, _, rfl, b, _, _, _, rfl, rfl, SqT.of (e3 _ _ hb), atI_nat (at_map (getD_at hj)), _, rfl, rfl, _, rfl, ?_⟩
        by_cases hx : ms.getD j 0 = z
        · refine ev_T (eqI_T hx) ?_
          refine ⟨_, rfl, _, _, rfl, rfl, _, rfl, _, rfl, _, _, rfl, rfl, r, _, _, j + 1, rfl, rfl, h3, (by rw [c1, lw]; exact ixN_nat (by omega)), _, rfl, some (.int (j : Nat)), some (.int (rw1.getD (j + 1) 0)), ?_, Ex.mut e3 hr1, ?_⟩
          · rw [eSt]; rfl
          · rw [upd_same, eSt, if_pos hx, List.map_set]
        · refine ev_F (eqI_F hx) ?_
          refine ⟨_, rfl, _, rfl, _, _, rfl, rfl, r, _, _, _, rfl, rfl, SqL.of h3, (by rw [c1]; exact atI_nat (at_map (getD_at (by omega)))), _, rfl, _, rfl, r, _, _, _, rfl, rfl, SqL.of h3, atI_nat (at_map (getD_at (by omega))), _, _, rfl, ?_⟩
          refine ⟨_, rfl, _, rfl, _, _, rfl, rfl, r, _, _, j + 1, rfl, rfl, h3, (by rw [c1, lw]; exact ixN_nat (by omega)), _, rfl, some (.int (j : Nat)), some (.int (rw1.getD (j + 1) 0)), ?_, Ex.mut e3 hr1, ?_⟩
          · rw [eSt]; rfl
          · rw [upd_same, eSt, if_neg hx, List.map_set]; rfl
      · rintro σ H3 ⟨_, _, rfl, e3, h3⟩
        refine ⟨_, _, _, _, rfl, e3, ?_⟩
        rw [h3, foldl_take hz0, hrow]; rfl
    · rintro σ H1 ⟨_, _, _, _, rfl, e2, h2⟩
      rw [l1, List.take_length] at h2
      refine ⟨_, rfl, _, rfl, b, _, rfl, .inr (SqT.of (e2 _ _ hb)), ?_⟩
      rw [l2]
      exact ⟨r, _, _, _, rfl, rfl, SqL.of h2, atI_nat (at_map (getD_at (by rw [comRows_len, List.length_replicate]; omega))), k H1 e2⟩

/-- all the rows; what the last one made begins with is wanted -/
def spRest : Sp := fun vs H Q _ => ∃ (a b : Addr) (ns ms : List Int), vs = [.ref a, .ref b] ∧ H a = some (.tup (ns.map V.int)) ∧ H b = some (.tup (ms.map V.int)) ∧ ns.length ≤ 100 ∧ ms.length ≤ 100 ∧
  ∀ p u rest H', Ex H H' → H' p = some (.lst (.ref u :: rest)) → H' u = some (.lst ((restRows ms ns).map V.int)) → Q (.ref p) H'
theorem c_rest_lengths (F : Facts K mg CP CB) : C8.Cal P w K mg base 1 "rest_lengths" spRest [] := by
  obtain ⟨f, fd, D, b⟩ := F.d_rest_lengths
  refine C8.cal0 D b .nil sc_rest_lengths (fun vs H Q E h => ?_) (fun cdv A outer s H vs Q E hr h => ?_)
  · obtain ⟨a, b, ns, ms, rfl, _⟩ := h
    rfl
  · obtain ⟨a, b, ns, ms, rfl, ha, hb, hz, hz2, k⟩ := h
    refine ⟨_, (pss_cons (ps_set (i := 2) sc_rest_lengths.nd rfl (Or.inl rfl) (pe_lst (pa_cons (pe_op op_rep (pe_lst (pa_cons pe_int pa_nil)) (pe_op op_add (pe_callB (cr_lenK (K := K) rfl) (by rfl) F.n_len PySem.boot_len (pa_cons (pv 1) pa_nil)) pe_int)) pa_nil)))
  (pss_cons (ps_for PassesOwn.never rfl (pi_tupK (K := K) rfl (QU.pe_revT (pv 0))) (pg_name (i := 3) sc_rest_lengths.nd rfl (Or.inl rfl))
    (pss_cons (ps_set (i := 4) sc_rest_lengths.nd rfl (Or.inl rfl) (pe_ix (ix_listK (K := K) rfl) (pv 2) (pe_un un_neg pe_int) (fun _ _ => rfl)))
  (pss_cons (ps_set (i := 5) sc_rest_lengths.nd rfl (Or.inl rfl) (pe_op op_rep (pe_lst (pa_cons pe_int pa_nil)) (pe_op op_add (pe_callB (cr_lenK (K := K) rfl) (by rfl) F.n_len PySem.boot_len (pa_cons (pv 1) pa_nil)) pe_int)))
  (pss_cons (ps_for PassesOwn.never rfl (pi_range3 (by rfl) F.n_range (pa_cons (pe_op op_sub (pe_callB (cr_lenK (K := K) rfl) (by rfl) F.n_len PySem.boot_len (pa_cons (pv 1) pa_nil)) pe_int) (pa_cons (pe_un un_neg pe_int) (pa_cons (pe_un un_neg pe_int) pa_nil)))) (pg_name (i := 6) sc_rest_lengths.nd rfl (Or.inl rfl))
    (pss_cons (ps_asg (pe_callB (call_max2 rfl) (by rfl) F.n_max (by decide +kernel) (pa_cons (pe_ix (ix_listK (K := K) rfl) (pv 4) (pv 6) (fun _ _ => rfl)) (pa_cons (pe_ix (ix_listK (K := K) rfl) (pv 5) (pe_op op_add (pv 6) pe_int) (fun _ _ => rfl)) pa_nil))) (pg_sub (pv 5) (pv 6) set_list))
  (pss_one (ps_if (pt_cmpR op_eq (pe_ix (ix_tupK (K := K) rfl) (pv 1) (pv 6) (fun _ _ => rfl)) (pv 3) (nomark _)) (pss_one (ps_asg (pe_op op_add (pe_ix (ix_listK (K := K) rfl) (pv 4) (pe_op op_add (pv 6) pe_int) (fun _ _ => rfl)) pe_int) (pg_sub (pv 5) (pv 6) set_list))) pss_nil))))
  (pss_one (ps_expr (pe_bm PySem.F.plainAttrs_list PySem.F.slot_list_append PySem.F.type_list_append mt_append (pv 2) (pa_cons (pv 5) pa_nil))))))))
  (pss_one (ps_ret (pe_revL (pv 2)))))), ?_⟩
    have l2 : (ms.map V.int).length = ms.length := List.length_map _
    have em : ((ms.length : Int) + 1).toNat = ms.length + 1 := by omega
    refine ⟨(by decide : 1 ≤ sizeLine), fun t0 ht0 => ?_⟩
    have e0 : Ex H _ := Ex.new (o := .lst [.int 0]) ht0
    refine ⟨_, rfl, b, _, rfl, .inr (SqT.of (e0 _ _ hb)), ?_⟩
    rw [l2]
    refine ⟨_, _, rfl, rfl, t0, _, _, rfl, rfl, upd_same, by omega, by omega, ?_, fun t1 ht1 => ⟨(by decide : 1 ≤ sizeLine), fun R hR => ?_⟩⟩
    · show 1 * ((ms.length : Int) + 1).toNat ≤ sizeLine
      exact sz_of (by omega)
    rw [zeros, em] at *
    have e1 := e0.trans (Ex.new (o := .lst ((List.replicate (ms.length + 1) (0 : Int)).map V.int)) ht1)
    have hR0 : H R = none := fresh_back e1 hR
    have t1R : t1 ≠ R := ne_no upd_same hR
    have e2 := e1.trans (Ex.new (o := .lst [.ref t1]) hR)
    refine ⟨_, rfl, a, _, rfl, SqT.of (e2 _ _ ha), fun T hT => ?_⟩
    have e3 := e2.trans (Ex.new (o := .tup (ns.reverse.map V.int)) hT)
    have eT : (ns.map V.int).reverse = ns.reverse.map V.int := by rw [List.map_reverse]
    have hTR : T ≠ R := Ne.symm (ne_no upd_same hT)
    have hT1 : T ≠ t1 := Ne.symm (ne_no (Ex.new hR _ _ upd_same) hT)
    rw [eT]
    refine ⟨T, rfl, ⟨_, SqT.of upd_same⟩, ?_⟩
    refine for_tup (fun i σ H' => ∃ x y z t pre u, σ = [some (.ref a), some (.ref b), some (.ref R), x, y, z, t] ∧ Ex H H' ∧ H' T = some (.tup (ns.reverse.map V.int)) ∧ H' R = some (.lst (pre ++ [.ref u])) ∧ u ≠ R ∧ pre.length ≤ i ∧ H' u = some (.lst (((ns.reverse.take i).foldl (restRow ms) (List.replicate (ms.length + 1) 0)).map V.int))) ⟨none, none, none, none, [], t1, rfl, e3, upd_same, ?_, t1R, Nat.le_refl _, ?_⟩ (fun i σ H' _ ⟨_, _, _, _, _, _, _, _, hT, _⟩ => SqT.of hT) ?_ ?_
    · rw [upd_ne (Ne.symm hTR), upd_same]; rfl
    · rw [upd_ne (Ne.symm hT1), upd_ne t1R, upd_same]; rfl
    · rintro i x σ H1 hi ⟨_, _, _, _, pre, u, rfl, e4, h1T, h1R, uR, hpre, h1u⟩
      obtain ⟨z, rfl, hz0⟩ := int_at hi
      have il : i < 100 := by
        have := (List.getElem?_eq_some_iff.mp hz0).1
        rw [List.length_reverse] at this
        omega
      generalize hrow : (ns.reverse.take i).foldl (restRow ms) (List.replicate (ms.length + 1) 0) = under at h1u
      have ul : under.length = ms.length + 1 := by rw [← hrow]; exact restRows_len ms _ _ (by simp)
      refine ⟨_, rfl, 1, rfl, R, _, -1, V.ref u, rfl, rfl, SqL.of h1R, atI_last _ _, ?_⟩
      refine ⟨(by decide : 1 ≤ sizeLine), fun t2 ht2 => ?_⟩
      have e5 : Ex H1 _ := Ex.new (o := .lst [.int 0]) ht2
      refine ⟨_, rfl, b, _, rfl, .inr (SqT.of (e5 _ _ (e4 _ _ hb))), ?_⟩
      rw [l2]
      refine ⟨_, _, rfl, rfl, t2, _, _, rfl, rfl, upd_same, by omega, by omega, ?_, fun r hr0 => ?_⟩
      · show 1 * ((ms.length : Int) + 1).toNat ≤ sizeLine
        exact sz_of (by omega)
      rw [zeros, em] at *
      have hr1 : H1 r = none := fresh_back e5 hr0
      have hr2 : H r = none := fresh_back e4 hr1
      have e6 : Ex H1 _ := e5.trans (Ex.new (o := .lst ((List.replicate (ms.length + 1) (0 : Int)).map V.int)) hr0)
      have rR : r ≠ R := Ne.symm (ne_no h1R hr1)
      have hb1 := e4 _ _ hb
      refine ⟨_, rfl, b, _, rfl, .inr (SqT.of (e6 _ _ hb1)), _, _, rfl, rfl, 1, rfl, 1, rfl, ?_⟩
      rw [l2]
      have ec : ((ms.length : Int) - 1 - -1).toNat = ms.length := by omega
      refine ⟨_, _, _, (ms.length : Nat), rfl, by have h := RgC.neg (i := (ms.length : Int) - 1) (j := -1) (by omega) (by omega) (by omega) (by omega); rw [ec] at h; exact h, ?_⟩
      refine for_rangeC (lo := (ms.length : Int) - 1) (c := -1) (n := ms.length) (fun j σ H' => ∃ t, σ = [some (.ref a), some (.ref b), some (.ref R), some (.int z), some (.ref u), some (.ref r), t] ∧ Ex H1 H' ∧ H' r = some (.lst ((restK z ms under j).map V.int))) ⟨_, rfl, e6, upd_same⟩ ?_ ?_
      · rintro j σ H3 hj ⟨_, rfl, e7, h3⟩
        generalize hst : restK z ms under j = row at h3
        have rl : row.length = ms.length + 1 := by rw [← hst]; exact restK_len z ms under j
        have lw : (row.map V.int).length = ms.length + 1 := by rw [List.length_map, rl]
        have c0 : (ms.length : Int) - 1 + (j : Nat) * (-1) = ((ms.length - 1 - j : Nat) : Int) := by omega
        rw [c0]
        have hat : ms.length - 1 - j < ms.length := by omega
        generalize hq : ms.length - 1 - j = at_ at hat
        have c1 : ((at_ : Nat) : Int) + 1 = ((at_ + 1 : Nat) : Int) := by omega
        have eSt : restK z ms under (j + 1) = row.set at_ (if ms.getD at_ 0 = z then under.getD (at_ + 1) 0 + 1 else maxP (under.getD at_ 0) (row.getD (at_ + 1) 0)) := by
          rw [restK_succ, hst]
          unfold restIn
          rw [hq]
        refine ⟨_, rfl, _, rfl, u, _, _, _, rfl, rfl, SqL.of (e7 _ _ h1u), atI_nat (at_map (getD_at (by omega))), _, rfl, _, rfl, _, _, rfl, rfl, r, _, _, _, rfl, rfl, SqL.of h3, (by rw [c1]; exact atI_nat (at_map (getD_at (by omega)))), _, _, rfl, ?_⟩
        refine ⟨_, rfl, _, rfl, r, _, _, at_, rfl, rfl, h3, (by rw [lw]; exact ixN_nat (by omega)), ?_⟩
        have e8 : Ex H1 _ := Ex.mut (o := .lst ((row.map V.int).set at_ (.int (maxP (under.getD at_ 0) (row.getD (at_ + 1) 0))))) e7 hr1
        refine ⟨_, rfl, _, rfl, b, _, _, _, rfl, rfl, SqT.of (e8 _ _ hb1), atI_nat (at_map (getD_at hat)), _, rfl, rfl, _, rfl, ?_⟩
        by_cases hx : ms.getD at_ 0 = z
        · refine ev_T (eqI_T hx) ?_
          refine ⟨_, rfl, _, rfl, _, _, rfl, rfl, u, _, _, _, rfl, rfl, SqL.of (e8 _ _ h1u), (by rw [c1]; exact atI_nat (at_map (getD_at (by omega)))), _, _, rfl, rfl, ?_⟩
          refine ⟨_, rfl, _, rfl, r, _, _, at_, rfl, rfl, upd_same, (by rw [List.length_set, lw]; exact ixN_nat (by omega)), some (.int (at_ : Nat)), rfl, Ex.mut e8 hr1, ?_⟩
          rw [upd_same, eSt, if_pos hx, List.map_set, List.set_set]
        · refine ev_F (eqI_F hx) ?_
          refine ⟨some (.int (at_ : Nat)), rfl, e8, ?_⟩
          rw [upd_same, eSt, if_neg hx, List.map_set]
          rfl
      · rintro σ H3 ⟨_, rfl, e7, h3⟩
        refine ⟨_, rfl, .inl ⟨rfl, _, SqL.of (e7 _ _ h1R)⟩, _, rfl, R, _, _, rfl, rfl, e7 _ _ h1R, ?_, _, _, _, _, pre ++ [.ref u], r, rfl, Ex.mut (e4.trans e7) hR0, ?_, upd_same, rR, ?_, ?_⟩
        · rw [List.length_append, List.length_singleton]; exact sz_lt (by omega)
        · rw [upd_ne (ne_lt (e7 _ _ h1R) (e7 _ _ h1T)).symm]; exact e7 _ _ h1T
        · rw [List.length_append, List.length_singleton]; omega
        · rw [upd_ne rR, h3, foldl_take hz0, hrow]; rfl
    · rintro σ H1 ⟨_, _, _, _, pre, u, rfl, e4, h1T, h1R, uR, hpre, h1u⟩
      rw [List.length_map, List.take_length] at h1u
      refine ⟨_, rfl, R, _, rfl, SqL.of h1R, fun p hp => ?_⟩
      refine k p u pre.reverse _ (e4.trans (Ex.new hp)) ?_ (Ex.new hp _ _ h1u)
      rw [upd_same, List.reverse_append]; rfl
def spLong : Sp := fun vs H Q _ => ∃ (a b : Addr) (ns ms : List Int), vs = [.ref a, .ref b] ∧ H a = some (.tup (ns.map V.int)) ∧ H b = some (.tup (ms.map V.int)) ∧ ns.length ≤ 100 ∧ ms.length ≤ 100 ∧
  ∀ H', Ex H H' → Q (.int (longestM ns ms)) H'
theorem c_longest_common (F : Facts K mg CP CB) : C8.Cal P w K mg base 2 "longest_common" spLong [] := by
  obtain ⟨f, fd, D, b⟩ := F.d_longest_common
  have c_rest_lengths := c_rest_lengths (P := P) (w := w) (base := base) F
  refine C8.cal0 D b .nil sc_longest_common (fun vs H Q E h => ?_) (fun cdv A outer s H vs Q E hr h => ?_)
  · obtain ⟨a, b, ns, ms, rfl, _⟩ := h
    rfl
  · obtain ⟨a, b, ns, ms, rfl, ha, hb, hz, hz2, k⟩ := h
    refine ⟨_, (pss_one (ps_ret (pe_ix (ix_listK (K := K) rfl) (pe_ix (ix_listK (K := K) rfl) (C8.pe_c c_rest_lengths hr (by decide) (by rfl) (pa_cons (pv 0) (pa_cons (pv 1) pa_nil))) pe_int (fun _ _ => rfl)) pe_int (fun _ _ => rfl)))), ?_⟩
    refine ⟨_, rfl, _, rfl, a, b, ns, ms, rfl, ha, hb, hz, hz2, fun p u rest H1 e1 h1 hu => ?_⟩
    exact ⟨p, _, 0, _, rfl, rfl, SqL.of h1, atI_nat (xs := .ref u :: rest) (j := 0) rfl, u, _, 0, _, rfl, rfl, SqL.of hu, atI_nat (j := 0) (at_map (getD_at (by rw [restRows, restRows_len ms _ _ (by simp)]; omega))), k H1 e1⟩
def spWApart : Sp := fun vs H Q _ => ∃ (a b : Addr) (ns ms : List Int), vs = [.ref a, .ref b] ∧ H a = some (.tup (ns.map V.int)) ∧ H b = some (.tup (ms.map V.int)) ∧ ns.length ≤ 100 ∧ ms.length ≤ 100 ∧
  ∀ H', Ex H H' → Q (.int (ns.length - longestM ns ms)) H'
theorem c_words_apart (F : Facts K mg CP CB) : C8.Cal P w K mg base 3 "words_apart" spWApart [] := by
  obtain ⟨f, fd, D, b⟩ := F.d_words_apart
  have c_longest_common := c_longest_common (P := P) (w := w) (base := base) F
  refine C8.cal0 D b .nil sc_words_apart (fun vs H Q E h => ?_) (fun cdv A outer s H vs Q E hr h => ?_)
  · obtain ⟨a, b, ns, ms, rfl, _⟩ := h
    rfl
  · obtain ⟨a, b, ns, ms, rfl, ha, hb, hz, hz2, k⟩ := h
    refine ⟨_, (pss_one (ps_ret (pe_op op_sub (pe_callB (cr_lenK (K := K) rfl) (by rfl) F.n_len PySem.boot_len (pa_cons (pv 0) pa_nil)) (C8.pe_c c_longest_common hr (by decide) (by rfl) (pa_cons (pv 0) (pa_cons (pv 1) pa_nil)))))), ?_⟩
    refine ⟨_, rfl, a, _, rfl, .inr (SqT.of ha), _, rfl, _, rfl, a, b, ns, ms, rfl, ha, hb, hz, hz2, fun H1 e1 => ?_⟩
    rw [List.length_map]
    exact ⟨_, _, rfl, rfl, k H1 e1⟩
end
end LP
end

section
set_option Elab.async false
set_option linter.all false
set_option maxRecDepth 100000
set_option maxHeartbeats 4000000
namespace LP
open PySem L2 PyProof.Rows PySem.Spec Evl MR
section
variable {P : Program} {w : World} {K : PySem.W.Frag} {mg : Str → Option Value} {base : Heap} {CP CB : Addr}
/-! the hand: [cells, place, rest, total] -/
structure Hand where
  hd : Addr
  c : Addr
  cells : List Int
structure HandAt (H : Hp) (h : Hand) : Prop where
  cs : H h.c = some (.lst (h.cells.map V.int))
  len : h.cells.length ≤ 1000
  pos : ∀ x ∈ h.cells, 0 ≤ x
  at_ : ∃ (i : Nat) (r t : Int), H h.hd = some (.lst [.ref h.c, .int (i : Nat), .int r, .int t]) ∧ i ≤ h.cells.length ∧ 0 ≤ r ∧ 0 ≤ t ∧ t < 2147483648
theorem HandAt.ne {H : Hp} {h : Hand} (a : HandAt H h) : h.c ≠ h.hd := fun e => by
  obtain ⟨i, r, t, h1, _⟩ := a.at_
  have h2 := a.cs
  rw [e, h1] at h2
  cases hc : h.cells with
  | nil => rw [hc] at h2; cases h2
  | cons n l => rw [hc] at h2; cases h2
/-- all but the hand stands as it was; the hand is a hand -/
structure Eh (h : Hand) (H H' : Hp) : Prop where
  src : HandAt H h
  dst : HandAt H' h
  keep : ∀ a o, a ≠ h.hd → H a = some o → H' a = some o
section
variable {h : Hand} {H H1 H2 : Hp}
theorem Eh.refl (a : HandAt H h) : Eh h H H := ⟨a, a, fun _ _ _ e => e⟩
theorem Eh.trans (a : Eh h H H1) (b : Eh h H1 H2) : Eh h H H2 := ⟨a.src, b.dst, fun x o n e => b.keep x o n (a.keep x o n e)⟩
theorem HandAt.ext (a : HandAt H h) (e : Ex H H1) : HandAt H1 h := by
  obtain ⟨i, r, t, h1, q⟩ := a.at_
  exact ⟨e _ _ a.cs, a.len, a.pos, i, r, t, e _ _ h1, q⟩
theorem Eh.of (a : HandAt H h) (e : Ex H H1) : Eh h H H1 := ⟨a, a.ext e, fun a o _ q => e a o q⟩
theorem Eh.ext (a : Eh h H H1) (e : Ex H1 H2) : Eh h H H2 := a.trans (Eh.of a.dst e)
theorem Eh.tup {a : Addr} {xs : List V} (e : Eh h H H1) (q : H a = some (.tup xs)) : H1 a = some (.tup xs) := by
  obtain ⟨i, r, t, h1, _⟩ := e.src.at_
  exact e.keep a _ (ne_lt h1 q).symm q
theorem Eh.ints {a : Addr} {ns : List Int} (e : Eh h H H1) (q : H a = some (.lst (ns.map V.int))) : H1 a = some (.lst (ns.map V.int)) := by
  obtain ⟨i, r, t, h1, _⟩ := e.src.at_
  refine e.keep a _ (ne_obj q h1 fun z => ?_) q
  cases ns with
  | nil => cases z
  | cons n l => cases z
theorem Eh.vrefs {a : Addr} {ks : List Addr} (e : Eh h H H1) (q : H a = some (.lst (ks.map V.ref))) : H1 a = some (.lst (ks.map V.ref)) := by
  obtain ⟨i, r, t, h1, _⟩ := e.src.at_
  refine e.keep a _ (ne_obj q h1 fun z => ?_) q
  cases ks with
  | nil => cases z
  | cons n l =>
    cases l with
    | nil => cases z
    | cons m l => cases z
theorem Eh.refs {a : Addr} {ks : List Row} (e : Eh h H H1) (q : H a = some (.lst (refs ks))) : H1 a = some (.lst (refs ks)) := by
  have z : LP.refs ks = (ks.map (·.1)).map V.ref := by rw [List.map_map]; rfl
  rw [z] at q ⊢
  exact e.vrefs q
theorem Eh.ins {a C dx : Addr} {fs : List (Str × V)} (e : Eh h H H1) (q : H a = some (.ins C dx fs)) : H1 a = some (.ins C dx fs) := by
  obtain ⟨i, r, t, h1, _⟩ := e.src.at_
  exact e.keep a _ (ne_obj q h1 fun z => by cases z) q
theorem Eh.none {a : Addr} (e : Eh h H H1) (q : H1 a = Option.none) : H a = Option.none := by
  obtain ⟨i, r, t, h1, _⟩ := e.dst.at_
  cases z : H a with
  | none => rfl
  | some o =>
    have := e.keep a o (ne_no h1 q).symm z
    rw [q] at this
    cases this
theorem Eh.rt {ks : List Row} (e : Eh h H H1) (q : RT H ks) : RT H1 ks := fun p hp => e.tup (q p hp)
theorem Eh.lw {a : Addr} {ks : List Row} (e : Eh h H H1) (q : LW H a ks) : LW H1 a ks := ⟨e.refs q.at_, e.rt q.rt⟩
theorem HandAt.mut {p : Addr} {o : HO} (a : HandAt H h) (n1 : h.hd ≠ p) (n2 : h.c ≠ p) : HandAt (upd H p o) h := by
  obtain ⟨i, r, t, h1, q⟩ := a.at_
  exact ⟨by rw [upd_ne n2]; exact a.cs, a.len, a.pos, i, r, t, by rw [upd_ne n1]; exact h1, q⟩
/-- an object that H does not know changes -/
theorem Eh.mut {p : Addr} {o : HO} (e : Eh h H H1) (q : H p = Option.none) : Eh h H (upd H1 p o) := by
  obtain ⟨i, r, t, h1, _⟩ := e.src.at_
  exact ⟨e.src, e.dst.mut (ne_no h1 q) (ne_no e.src.cs q), fun a u n z => by rw [upd_ne (ne_no z q)]; exact e.keep a u n z⟩
/-- the hand itself, changed -/
theorem Eh.put {i : Nat} {r t : Int} (e : Eh h H H1) (hi : i ≤ h.cells.length) (hr : 0 ≤ r) (ht : 0 ≤ t) (ht2 : t < 2147483648) : Eh h H (upd H1 h.hd (.lst [.ref h.c, .int (i : Nat), .int r, .int t])) :=
  ⟨e.src, ⟨by rw [upd_ne e.dst.ne]; exact e.dst.cs, e.dst.len, e.dst.pos, i, r, t, upd_same, hi, hr, ht, ht2⟩, fun a o n z => by rw [upd_ne n]; exact e.keep a o n z⟩
end
def spHand (K : PySem.W.Frag) : Sp := fun vs H Q _ => ∃ (a : Addr) (ns : List Int), vs = [.ref a] ∧ SqL K H a (ns.map V.int) ∧ ns.length ≤ 1000 ∧ ∀ h H', Ex H H' → HandAt H' h → Q (.ref h.hd) H'
theorem c__law_hand (F : Facts K mg CP CB) : C8.Cal P w K mg base 1 "_law_hand" (spHand K) [] := by
  obtain ⟨f, fd, D, b⟩ := F.d__law_hand
  refine C8.cal0 D b .nil sc__law_hand (fun vs H Q E h => ?_) (fun cdv A outer s H vs Q E hr h => ?_)
  · obtain ⟨a, ns, rfl, _⟩ := h
    rfl
  · obtain ⟨a, ns, rfl, ha, hz, k⟩ := h
    refine ⟨_, (pss_cons (ps_set (i := 1) sc__law_hand.nd rfl (Or.inl rfl) (pe_op op_add (pe_callB (cr_lenK (K := K) rfl) (by rfl) F.n_len PySem.boot_len (pa_cons (pv 0) pa_nil)) pe_int))
  (pss_cons (ps_set (i := 2) sc__law_hand.nd rfl (Or.inl rfl) (pe_lst pa_nil))
  (pss_cons (ps_for PassesOwn.never rfl (pi_listK (K := K) rfl (pv 0)) (pg_name (i := 3) sc__law_hand.nd rfl (Or.inl rfl))
    (pss_cons (ps_set (i := 1) sc__law_hand.nd rfl (Or.inl rfl) (pe_op op_mod (pe_callTy call_int1 (by rfl) F.n_int (by decide +kernel) (pa_cons (pe_op op_add (pe_op op_mul (pv 1) pe_int) (pe_callTy call_int1 (by rfl) F.n_int (by decide +kernel) (pa_cons (pv 3) pa_nil))) pa_nil)) pe_int))
  (pss_one (ps_expr (pe_bm PySem.F.plainAttrs_list PySem.F.slot_list_append PySem.F.type_list_append mt_append (pv 2) (pa_cons (pe_callB call_abs (by rfl) F.n_abs (by decide +kernel) (pa_cons (pe_callTy call_int1 (by rfl) F.n_int (by decide +kernel) (pa_cons (pv 3) pa_nil)) pa_nil)) pa_nil))))))
  (pss_one (ps_ret (pe_lst (pa_cons (pv 2) (pa_cons pe_int (pa_cons pe_int (pa_cons (pv 1) pa_nil)))))))))), ?_⟩
    have l1 : (ns.map V.int).length = ns.length := List.length_map _
    refine ⟨_, rfl, a, _, rfl, .inl ha, _, _, rfl, rfl, Nat.zero_le _, fun c hc => ?_⟩
    rw [l1]
    have e0 : Ex H _ := Ex.new (o := .lst []) hc
    refine ⟨_, rfl, a, rfl, ⟨_, ex_l e0 ha⟩, ?_⟩
    refine for_list (fun i σ H' => ∃ (t : Int) (x : Option V) (cells : List Int), σ = [some (.ref a), some (.int t), some (.ref c), x] ∧ Ex H H' ∧ 0 ≤ t ∧ t < 2147483648 ∧ H' c = some (.lst (cells.map V.int)) ∧ cells.length = i ∧ ∀ x ∈ cells, 0 ≤ x) ⟨(ns.length : Int) + 43, none, [], rfl, e0, by omega, by omega, upd_same, rfl, fun x hx => nomatch hx⟩ (fun i σ H' _ ⟨_, _, _, _, e1, _⟩ => ex_l e1 ha) ?_ ?_
    · rintro i x σ H1 hi ⟨t, x0, cells, rfl, e1, t0, t1, h1, hl, hp⟩
      obtain ⟨z, rfl, hz0⟩ := int_at hi
      have il := (List.getElem?_eq_some_iff.mp hz0).1
      refine ⟨_, rfl, _, _, rfl, rfl, .inl ⟨by omega, by omega⟩, _, rfl, .inl ⟨z, rfl, _, _, rfl, rfl, .inl ⟨_, rfl, _, _, rfl, rfl, (by show (0 : Int) < 2147483563; decide), ?_⟩⟩⟩
      refine ⟨_, rfl, .inl ⟨rfl, _, SqL.of h1⟩, _, rfl, .inl ⟨z, rfl, z, rfl, c, _, _, rfl, rfl, h1, ?_, _, _, cells ++ [absI z], rfl, Ex.mut e1 hc, ?_, ?_, ?_, ?_, ?_⟩⟩
      · rw [List.length_map]; exact sz_lt (by omega)
      · exact Int.emod_nonneg _ (by decide)
      · have := Int.emod_lt_of_pos (t * 2003 + z) (by decide : (0 : Int) < 2147483563)
        show (t * 2003 + z) % 2147483563 < 2147483648
        omega
      · rw [upd_same, List.map_append]; rfl
      · rw [List.length_append, hl]; rfl
      · intro x hx
        rcases List.mem_append.mp hx with hx | hx
        · exact hp x hx
        · rw [List.mem_singleton.mp hx]
          unfold absI
          split <;> omega
    · rintro σ H1 ⟨t, x0, cells, rfl, e1, t0, t1, h1, hl, hp⟩
      rw [l1] at hl
      refine ⟨_, rfl, _, rfl, (by decide : 4 ≤ sizeLine), fun p hp' => ?_⟩
      exact k ⟨p, c, cells⟩ _ (e1.trans (Ex.new hp')) ⟨Ex.new hp' _ _ h1, by show cells.length ≤ 1000; omega, hp, 0, 0, t, upd_same, Nat.zero_le _, Int.le_refl _, t0, t1⟩
def spMixed : Sp := fun vs H Q _ => ∃ n t : Int, vs = [.int n, .int t] ∧ 0 ≤ n ∧ n < 2147483648 ∧ 0 ≤ t ∧ t < 2147483648 ∧ ∀ x : Int, 0 ≤ x → Q (.int x) H
theorem c__law_mixed (F : Facts K mg CP CB) : C8.Cal P w K mg base 1 "_law_mixed" spMixed [] := by
  obtain ⟨f, fd, D, b⟩ := F.d__law_mixed
  refine C8.cal0 D b .nil sc__law_mixed (fun vs H Q E h => ?_) (fun cdv A outer s H vs Q E hr h => ?_)
  · obtain ⟨n, t, rfl, _⟩ := h
    rfl
  · obtain ⟨n, t, rfl, n0, n1, t0, t1, k⟩ := h
    refine ⟨_, (pss_cons (ps_set (i := 2) sc__law_mixed.nd rfl (Or.inl rfl) (pe_op op_mod (pe_callTy call_int1 (by rfl) F.n_int (by decide +kernel) (pa_cons (pe_op op_add (pe_op op_add (pe_op op_mul (pv 0) pe_int) (pe_op op_mul (pv 1) pe_int)) pe_int) pa_nil)) pe_int))
  (pss_cons (ps_set (i := 3) sc__law_mixed.nd rfl (Or.inl rfl) (pe_op op_mod (pe_callTy call_int1 (by rfl) F.n_int (by decide +kernel) (pa_cons (pe_op op_add (pe_op op_add (pe_op op_mul (pv 2) (pv 2)) (pe_op op_mul (pv 1) pe_int)) (pe_op op_fdiv (pv 2) pe_int)) pa_nil)) pe_int))
  (pss_one (ps_ret (pe_op op_fdiv (pe_callTy call_int1 (by rfl) F.n_int (by decide +kernel) (pa_cons (pe_op op_mod (pe_callTy call_int1 (by rfl) F.n_int (by decide +kernel) (pa_cons (pe_op op_add (pe_op op_mul (pv 3) pe_int) (pe_op op_fdiv (pv 2) pe_int)) pa_nil)) pe_int) pa_nil)) pe_int))))), ?_⟩
    refine ⟨_, rfl, _, _, rfl, rfl, .inl ⟨by omega, by omega⟩, _, rfl, _, _, rfl, rfl, .inl ⟨by omega, by omega⟩, _, _, rfl, rfl, _, _, rfl, rfl, .inl ⟨_, rfl, _, _, rfl, rfl, (by show (0 : Int) < 2147483399; decide), ?_⟩⟩
    generalize ho : (n * 39373 + t * 6151 + 50021) % 2147483399 = o
    have o0 : 0 ≤ o := by rw [← ho]; exact Int.emod_nonneg _ (by decide)
    have o1 : o < 2147483399 := by rw [← ho]; exact Int.emod_lt_of_pos _ (by decide)
    refine ⟨_, rfl, _, rfl, _, _, rfl, rfl, .inl ⟨by omega, by omega⟩, _, rfl, _, _, rfl, rfl, .inl ⟨by omega, by omega⟩, _, _, rfl, rfl, _, rfl, _, _, rfl, rfl, ⟨by decide, by decide⟩, _, _, rfl, rfl, .inl ⟨_, rfl, _, _, rfl, rfl, (by show (0 : Int) < 2147483629; decide), ?_⟩⟩
    generalize ho2 : (o * o + t * 81071 + o / 137) % 2147483629 = o2
    have o20 : 0 ≤ o2 := by rw [← ho2]; exact Int.emod_nonneg _ (by decide)
    have o21 : o2 < 2147483629 := by rw [← ho2]; exact Int.emod_lt_of_pos _ (by decide)
    refine ⟨_, rfl, _, _, rfl, rfl, .inl ⟨by omega, by omega⟩, _, rfl, _, _, rfl, rfl, ⟨by decide, by decide⟩, _, _, rfl, rfl, .inl ⟨_, rfl, _, _, rfl, rfl, (by show (0 : Int) < 2147483587; decide), .inl ⟨_, rfl, _, _, rfl, rfl, ⟨by decide, by decide⟩, ?_⟩⟩⟩
    exact k _ (Int.ediv_nonneg (Int.emod_nonneg _ (by decide)) (by decide))
end
end LP
end

section
set_option Elab.async false
set_option linter.all false
set_option maxRecDepth 100000
set_option maxHeartbeats 4000000
namespace LP
open PySem L2 PyProof.Rows PySem.Spec Evl MR
section
variable {P : Program} {w : World} {K : PySem.W.Frag} {mg : Str → Option Value} {base : Heap} {CP CB : Addr}
def spTake : Sp := fun vs H Q _ => ∃ (h : Hand) (m : Int), vs = [.ref h.hd, .int m] ∧ HandAt H h ∧ 1 ≤ m ∧ m < 1073741824 ∧ ∀ (x : Int) H', 0 ≤ x → x < m → Eh h H H' → Q (.int x) H'
theorem c__law_take (F : Facts K mg CP CB) : C8.Cal P w K mg base 2 "_law_take" spTake [] := by
  obtain ⟨f, fd, D, b⟩ := F.d__law_take
  have c__law_mixed := c__law_mixed (P := P) (w := w) (base := base) F
  refine C8.cal0 D b .nil sc__law_take (fun vs H Q E h => ?_) (fun cdv A outer s H vs Q E hr h => ?_)
  · obtain ⟨h, m, rfl, _⟩ := h
    rfl
  · obtain ⟨h, m, rfl, ha, m1, m2, k⟩ := h
    refine ⟨_, (pss_cut (ps_if (PW.pt (pw_and (pt_cmpR op_eq (pe_ix (ix_listK (K := K) rfl) (pv 0) pe_int (fun _ _ => rfl)) pe_int (nomark _)) (pw_and1 (pt_cmpR op_lt (pe_ix (ix_listK (K := K) rfl) (pv 0) pe_int (fun _ _ => rfl)) (pe_callB (cr_lenK (K := K) rfl) (by rfl) F.n_len PySem.boot_len (pa_cons (pe_ix (ix_listK (K := K) rfl) (pv 0) pe_int (fun _ _ => rfl)) pa_nil)) (nomark _))))) (pss_cons (ps_set (i := 2) sc__law_take.nd rfl (Or.inl rfl) (pe_ix (ix_listK (K := K) rfl) (pe_ix (ix_listK (K := K) rfl) (pv 0) pe_int (fun _ _ => rfl)) (pe_ix (ix_listK (K := K) rfl) (pv 0) pe_int (fun _ _ => rfl)) (fun _ _ => rfl)))
  (pss_cons (ps_asg (pe_op op_add (pe_ix (ix_listK (K := K) rfl) (pv 0) pe_int (fun _ _ => rfl)) pe_int) (pg_sub (pv 0) pe_int set_list))
  (pss_cons (ps_if (pt_cmpR op_lt (pv 2) (pe_op op_pow pe_int pe_int) (nomark _)) (pss_one (ps_ret (pe_op op_mod (pe_callTy call_int1 (by rfl) F.n_int (by decide +kernel) (pa_cons (C8.pe_c c__law_mixed hr (by decide) (by rfl) (pa_cons (pe_op op_mod (pe_callTy call_int1 (by rfl) F.n_int (by decide +kernel) (pa_cons (pv 2) pa_nil)) pe_int) (pa_cons (pe_ix (ix_listK (K := K) rfl) (pv 0) pe_int (fun _ _ => rfl)) pa_nil))) pa_nil)) (pv 1)))) pss_nil)
  (pss_one (ps_asg (pv 2) (pg_sub (pv 0) pe_int set_list)))))) pss_nil)
  (pss_cons (ps_if (pt_cmpR op_gt (pe_ix (ix_listK (K := K) rfl) (pv 0) pe_int (fun _ _ => rfl)) pe_int (nomark _)) (pss_cons (ps_set (i := 3) sc__law_take.nd rfl (Or.inl rfl) (pe_ix (ix_listK (K := K) rfl) (pv 0) pe_int (fun _ _ => rfl)))
  (pss_cons (ps_asg (pe_op op_fdiv (pe_callTy call_int1 (by rfl) F.n_int (by decide +kernel) (pa_cons (pv 3) pa_nil)) (pv 1)) (pg_sub (pv 0) pe_int set_list))
  (pss_one (ps_ret (pe_op op_mod (pe_callTy call_int1 (by rfl) F.n_int (by decide +kernel) (pa_cons (pv 3) pa_nil)) (pv 1)))))) pss_nil)
  (pss_cons (ps_asg (pe_op op_mod (pe_callTy call_int1 (by rfl) F.n_int (by decide +kernel) (pa_cons (pe_op op_add (pe_ix (ix_listK (K := K) rfl) (pv 0) pe_int (fun _ _ => rfl)) pe_int) pa_nil)) pe_int) (pg_sub (pv 0) pe_int set_list))
  (pss_one (ps_ret (pe_op op_mod (pe_callTy call_int1 (by rfl) F.n_int (by decide +kernel) (pa_cons (C8.pe_c c__law_mixed hr (by decide) (by rfl) (pa_cons (pe_ix (ix_listK (K := K) rfl) (pv 0) pe_int (fun _ _ => rfl)) (pa_cons (pe_ix (ix_listK (K := K) rfl) (pv 0) pe_int (fun _ _ => rfl)) pa_nil))) pa_nil)) (pv 1))))))), ?_⟩
    refine ⟨fun σ H1 => ∃ x y, σ = [some (.ref h.hd), some (.int m), x, y] ∧ Eh h H H1, ?_, ?_⟩
    · obtain ⟨i, r, t, h1, hi, r0, t0, t1⟩ := ha.at_
      have q0 : ∀ {σ : L2.St} {H1 : Hp} {x y : Option V}, σ = [some (.ref h.hd), some (.int m), x, y] → Eh h H H1 → ∃ x y, σ = [some (.ref h.hd), some (.int m), x, y] ∧ Eh h H H1 := fun {σ H1 x y} e q => ⟨x, y, e, q⟩
      have li : ((h.cells.map V.int).length : Int) = h.cells.length := by rw [List.length_map]
      refine ⟨_, rfl, h.hd, _, 2, _, rfl, rfl, SqL.of h1, rfl, rfl, _, rfl, ?_⟩
      by_cases hr : r = 0
      · subst hr
        refine ev_T (eqI_T rfl) ?_
        refine ⟨_, rfl, h.hd, _, 1, _, rfl, rfl, SqL.of h1, rfl, _, rfl, h.hd, _, 0, _, rfl, rfl, SqL.of h1, rfl, h.c, _, rfl, .inl (SqL.of ha.cs), _, _, rfl, rfl, _, rfl, ?_⟩
        rw [li]
        by_cases hl : (i : Int) < h.cells.length
        · refine ev_T (decide_eq_true hl) ?_
          obtain ⟨z, hz⟩ : ∃ z, h.cells[i]? = some z := ⟨_, List.getElem?_eq_getElem (by omega)⟩
          have z0 := ha.pos z (List.mem_of_getElem? hz)
          refine ⟨_, rfl, h.hd, _, 0, _, rfl, rfl, SqL.of h1, rfl, _, rfl, h.hd, _, 1, _, rfl, rfl, SqL.of h1, rfl, h.c, _, _, _, rfl, rfl, SqL.of ha.cs, atI_nat (at_map hz), ?_⟩
          refine ⟨_, rfl, h.hd, _, 1, _, rfl, rfl, SqL.of h1, rfl, _, _, rfl, rfl, ?_⟩
          refine ⟨_, rfl, h.hd, _, 1, 1, rfl, rfl, h1, rfl, ?_⟩
          have h2 : upd H h.hd (.lst ([V.ref h.c, V.int (i : Nat), V.int 0, V.int t].set 1 (.int ((i : Nat) + 1)))) h.hd = some (.lst [.ref h.c, .int ((i + 1 : Nat) : Int), .int 0, .int t]) := by
            rw [upd_same]; rfl
          have e2 : Eh h H (upd H h.hd (.lst ([V.ref h.c, V.int (i : Nat), V.int 0, V.int t].set 1 (.int ((i : Nat) + 1))))) := Eh.put (i := i + 1) (Eh.refl ha) (by omega) (Int.le_refl _) t0 t1
          refine ⟨_, rfl, _, _, rfl, rfl, ⟨by decide, by decide, by decide⟩, _, _, rfl, rfl, _, rfl, ?_⟩
          by_cases hb : z < 10 ^ (18 : Int).toNat
          · refine ev_T (decide_eq_true hb) ?_
            refine ⟨_, rfl, .inl ⟨z, rfl, _, _, rfl, rfl, (by show (0 : Int) < 2147483399; decide), _, rfl, h.hd, _, 1, _, rfl, rfl, SqL.of h2, rfl, _, _, rfl, Int.emod_nonneg _ (by decide), ?_, by omega, ?_, fun x x0 => .inl ⟨x, rfl, _, rfl, _, _, rfl, rfl, (by show (0 : Int) < m; omega), k _ _ (Int.emod_nonneg _ (by omega)) (Int.emod_lt_of_pos _ (by omega)) e2⟩⟩⟩
            · have := Int.emod_lt_of_pos z (by decide : (0 : Int) < 2147483399)
              omega
            · have := ha.len
              omega
          · refine ev_F (decide_eq_false hb) ?_
            refine ⟨_, rfl, _, rfl, h.hd, _, 2, 2, rfl, rfl, h2, rfl, ?_⟩
            refine q0 rfl ?_
            exact Eh.put (i := i + 1) e2 (by omega) z0 t0 t1
        · refine ev_F (decide_eq_false hl) ?_
          exact q0 rfl (Eh.refl ha)
      · refine ev_F (eqI_F hr) ?_
        refine iteF ?_
        exact q0 rfl (Eh.refl ha)
    · rintro σ H1 ⟨x, y, rfl, e1⟩
      obtain ⟨i, r, t, h1, hi, r0, t0, t1⟩ := e1.dst.at_
      refine ⟨_, rfl, h.hd, _, 2, _, rfl, rfl, SqL.of h1, rfl, _, _, rfl, rfl, _, rfl, ?_⟩
      by_cases hr : r > 0
      · refine ev_T (decide_eq_true hr) ?_
        refine ⟨_, rfl, h.hd, _, 2, _, rfl, rfl, SqL.of h1, rfl, _, rfl, .inl ⟨r, rfl, _, rfl, _, _, rfl, rfl, ⟨by omega, by omega⟩, ?_⟩⟩
        refine ⟨_, rfl, h.hd, _, 2, 2, rfl, rfl, h1, rfl, ?_⟩
        refine ⟨_, rfl, .inl ⟨r, rfl, _, rfl, _, _, rfl, rfl, (by show (0 : Int) < m; omega), k _ _ (Int.emod_nonneg _ (by omega)) (Int.emod_lt_of_pos _ (by omega)) ?_⟩⟩
        exact Eh.put (i := i) (r := r / m) e1 hi (Int.ediv_nonneg r0 (by omega)) t0 t1
      · refine ev_F (decide_eq_false hr) ?_
        refine ⟨_, rfl, h.hd, _, 3, _, rfl, rfl, SqL.of h1, rfl, _, _, rfl, rfl, .inl ⟨_, rfl, _, _, rfl, rfl, (by show (0 : Int) < 2147483549; decide), ?_⟩⟩
        refine ⟨_, rfl, h.hd, _, 3, 3, rfl, rfl, h1, rfl, ?_⟩
        have o0 : 0 ≤ (t + 1) % 2147483549 := Int.emod_nonneg _ (by decide)
        have o1 : (t + 1) % 2147483549 < 2147483549 := Int.emod_lt_of_pos _ (by decide)
        have e2 : Eh h H (upd H1 h.hd (.lst [.ref h.c, .int (i : Nat), .int r, .int ((t + 1) % 2147483549)])) := Eh.put (i := i) (r := r) e1 hi r0 o0 (by omega)
        have h2 : (upd H1 h.hd (.lst ([V.ref h.c, V.int (i : Nat), V.int r, V.int t].set 3 (.int ((t + 1) % 2147483549))))) h.hd = some (.lst [.ref h.c, .int (i : Nat), .int r, .int ((t + 1) % 2147483549)]) := upd_same
        have := e1.dst.len
        exact ⟨_, rfl, h.hd, _, 3, _, rfl, rfl, SqL.of h2, rfl, _, rfl, h.hd, _, 1, _, rfl, rfl, SqL.of h2, rfl, _, (i : Nat), rfl, o0, by omega, by omega, by omega, fun x x0 => .inl ⟨x, rfl, _, rfl, _, _, rfl, rfl, (by show (0 : Int) < m; omega), k _ _ (Int.emod_nonneg _ (by omega)) (Int.emod_lt_of_pos _ (by omega)) e2⟩⟩
end
end LP
end

section
set_option Elab.async false
set_option linter.all false
set_option maxRecDepth 100000
set_option maxHeartbeats 4000000
namespace LP
open PySem L2 PyProof.Rows PySem.Spec Evl MR
section
variable {P : Program} {w : World} {K : PySem.W.Frag} {mg : Str → Option Value} {base : Heap} {CP CB : Addr}
/-- a word drawn: n letters below q -/
structure Drawn (q : Int) (n : Nat) (ns : List Int) : Prop where
  len : ns.length = n
  low : ∀ x ∈ ns, 0 ≤ x ∧ x < q
def spWord : Sp := fun vs H Q _ => ∃ (h : Hand) (q : Int) (n : Nat), vs = [.ref h.hd, .int q, .int (n : Nat)] ∧ HandAt H h ∧ 1 ≤ q ∧ q < 1000 ∧ n ≤ 100 ∧
  ∀ p ns H', Eh h H H' → H' p = some (.tup (ns.map V.int)) → Drawn q n ns → Q (.ref p) H'
theorem c__law_word (F : Facts K mg CP CB) : C8.Cal P w K mg base 3 "_law_word" spWord [] := by
  obtain ⟨f, fd, D, b⟩ := F.d__law_word
  have c__law_take := c__law_take (P := P) (w := w) (base := base) F
  refine C8.cal0 D b .nil sc__law_word (fun vs H Q E h => ?_) (fun cdv A outer s H vs Q E hr h => ?_)
  · obtain ⟨h, q, n, rfl, _⟩ := h
    rfl
  · obtain ⟨h, q, n, rfl, ha, q1, q2, hn, k⟩ := h
    refine ⟨_, (pss_one (ps_ret (pe_callTy (cr_tupleK (K := K) rfl) (by rfl) F.n_tuple (by decide +kernel) (pa_cons (pe_lc (own := [("_law_k", 3)]) (g := (gName 3)) (tt := tYes) (by rfl) sc__law_word.nd (pi_range1 (by rfl) F.n_range (pa_cons (pv 2) pa_nil)) (blkOk_by (own := [("_law_k", 3)]) (N := N__law_word) (sc := (C8.fnScope st__law_word)) (by decide +kernel)) (fun _ _ _ _ _ => (pg_name (i := 3) sc__law_word.nd rfl (Or.inl rfl))) (fun _ _ _ _ _ => pts_nil) (fun _ _ _ _ _ => (C8.pe_c c__law_take hr (by decide) (by rfl) (pa_cons (pv 0) (pa_cons (pv 1) pa_nil))))) pa_nil)))), ?_⟩
    refine ⟨_, rfl, _, rfl, by omega, by omega, fun d hd => ?_⟩
    refine lc_range (lo := 0) (n := n) (fun i H' => ∃ ns, Eh h H H' ∧ H' d = some (.lst (ns.map V.int)) ∧ Drawn q i ns) ⟨[], (Eh.refl ha).mut hd, upd_same, rfl, fun x hx => nomatch hx⟩ ?_ ?_
    · rintro i H1 hi ⟨ns, e1, h1, dr⟩
      refine ⟨rfl, lcY ?_⟩
      refine ⟨_, rfl, _, rfl, h, q, rfl, e1.dst, q1, by omega, fun x H2 x0 x1 e2 => ⟨_, e2.ints h1, ?_, ns ++ [x], (e1.trans e2).mut hd, ?_, ?_, ?_⟩⟩
      · rw [List.length_map, dr.len]; exact sz_lt (by omega)
      · rw [upd_same, List.map_append]; rfl
      · rw [List.length_append, dr.len]; rfl
      · intro y hy
        rcases List.mem_append.mp hy with hy | hy
        · exact dr.low y hy
        · rw [List.mem_singleton.mp hy]; exact ⟨x0, x1⟩
    · rintro H1 ⟨ns, e1, h1, dr⟩
      exact ⟨d, _, rfl, .inl ⟨SqL.of h1, fun p hp => k p ns _ (e1.ext (Ex.new hp)) upd_same dr⟩⟩
theorem c__law_runny (F : Facts K mg CP CB) : C8.Cal P w K mg base 4 "_law_runny" spWord [] := by
  obtain ⟨f, fd, D, b⟩ := F.d__law_runny
  have c__law_take := c__law_take (P := P) (w := w) (base := base) F
  have c__law_word := c__law_word (P := P) (w := w) (base := base) F
  refine C8.cal0 D b .nil sc__law_runny (fun vs H Q E h => ?_) (fun cdv A outer s H vs Q E hr h => ?_)
  · obtain ⟨h, q, n, rfl, _⟩ := h
    rfl
  · obtain ⟨h, q, n, rfl, ha, q1, q2, hn, k⟩ := h
    refine ⟨_, (pss_cons (ps_if (pt_cmpR op_gt (C8.pe_c c__law_take hr (by decide) (by rfl) (pa_cons (pv 0) (pa_cons pe_int pa_nil))) pe_int (nomark _)) (pss_one (ps_ret (C8.pe_c c__law_word hr (by decide) (by rfl) (pa_cons (pv 0) (pa_cons (pv 1) (pa_cons (pv 2) pa_nil)))))) pss_nil)
  (pss_cons (ps_set (i := 3) sc__law_runny.nd rfl (Or.inl rfl) (pe_lst pa_nil))
  (pss_cons (ps_set (i := 4) sc__law_runny.nd rfl (Or.inl rfl) (C8.pe_c c__law_take hr (by decide) (by rfl) (pa_cons (pv 0) (pa_cons (pv 1) pa_nil))))
  (pss_cons (ps_for PassesOwn.never rfl (pi_range1 (by rfl) F.n_range (pa_cons (pv 2) pa_nil)) (pg_name (i := 5) sc__law_runny.nd rfl (Or.inl rfl))
    (pss_cons (ps_if (pt_cmpR op_eq (C8.pe_c c__law_take hr (by decide) (by rfl) (pa_cons (pv 0) (pa_cons pe_int pa_nil))) pe_int (nomark _)) (pss_one (ps_set (i := 4) sc__law_runny.nd rfl (Or.inl rfl) (C8.pe_c c__law_take hr (by decide) (by rfl) (pa_cons (pv 0) (pa_cons (pv 1) pa_nil))))) pss_nil)
  (pss_one (ps_expr (pe_bm PySem.F.plainAttrs_list PySem.F.slot_list_append PySem.F.type_list_append mt_append (pv 3) (pa_cons (pv 4) pa_nil))))))
  (pss_one (ps_ret (pe_callTy (cr_tupleK (K := K) rfl) (by rfl) F.n_tuple (by decide +kernel) (pa_cons (pv 3) pa_nil)))))))), ?_⟩
    refine ⟨_, rfl, h, 3, rfl, ha, by decide, by decide, fun x H1 x0 x1 e1 => ⟨_, _, rfl, rfl, _, rfl, ?_⟩⟩
    by_cases hx : x > 0
    · refine ev_T (decide_eq_true hx) ?_
      exact ⟨_, rfl, _, rfl, _, rfl, h, q, n, rfl, e1.dst, q1, q2, hn, fun p ns H2 e2 h2 dr => k p ns H2 (e1.trans e2) h2 dr⟩
    · refine ev_F (decide_eq_false hx) ?_
      refine ⟨Nat.zero_le _, fun L hL => ?_⟩
      have hL0 : H L = none := e1.none hL
      have e2 := e1.ext (Ex.new (o := .lst []) hL)
      refine ⟨_, rfl, _, rfl, h, q, rfl, e2.dst, q1, by omega, fun y H2 y0 y1 e3 => ⟨_, rfl, _, rfl, by omega, by omega, ?_⟩⟩
      refine for_range (lo := 0) (n := n) (fun i σ H' => ∃ ns y z, σ = [some (.ref h.hd), some (.int q), some (.int (n : Nat)), some (.ref L), some (.int y), z] ∧ 0 ≤ y ∧ y < q ∧ Eh h H H' ∧ H' L = some (.lst (ns.map V.int)) ∧ Drawn q i ns) ⟨[], y, none, rfl, y0, y1, e2.trans e3, e3.ints (ns := []) upd_same, rfl, fun x hx => nomatch hx⟩ ?_ ?_
      · rintro i σ H3 hi ⟨ns, y, z, rfl, y0, y1, e4, h4, dr⟩
        have fin : ∀ y H5, 0 ≤ y → y < q → Eh h H H5 → H5 L = some (.lst (ns.map V.int)) → ∀ σ, σ = [some (.ref h.hd), some (.int q), some (.int (n : Nat)), some (V.ref L), some (V.int y), some (V.int (0 + (i : Nat)))] →
            tDrop (tBM K "list" rAppend (tVar 3) (tCons (tVar 4) tNil)) { nx := fun σ H' => ∃ ns y z, σ = [some (.ref h.hd), some (.int q), some (.int (n : Nat)), some (.ref L), some (.int y), z] ∧ 0 ≤ y ∧ y < q ∧ Eh h H H' ∧ H' L = some (.lst (ns.map V.int)) ∧ Drawn q (i + 1) ns, rt := Q } σ H5 := by
          rintro y H5 y0 y1 e5 h5 σ rfl
          refine ⟨_, rfl, .inl ⟨rfl, _, SqL.of h5⟩, _, rfl, L, _, _, rfl, rfl, h5, ?_, ns ++ [y], y, _, rfl, y0, y1, e5.mut hL0, ?_, ?_, ?_⟩
          · rw [List.length_map, dr.len]; exact sz_lt (by omega)
          · rw [upd_same, List.map_append]; rfl
          · rw [List.length_append, dr.len]; rfl
          · intro u hu
            rcases List.mem_append.mp hu with hu | hu
            · exact dr.low u hu
            · rw [List.mem_singleton.mp hu]; exact ⟨y0, y1⟩
        refine ⟨_, rfl, h, 4, rfl, e4.dst, by decide, by decide, fun u H5 u0 u1 e5 => ⟨rfl, _, rfl, ?_⟩⟩
        have h5 := e5.ints h4
        by_cases hu : u = 0
        · refine ev_T (eqI_T hu) ?_
          exact ⟨_, rfl, _, rfl, h, q, rfl, e5.dst, q1, by omega, fun v H6 v0 v1 e6 => fin v H6 v0 v1 ((e4.trans e5).trans e6) (e6.ints h5) _ rfl⟩
        · refine ev_F (eqI_F hu) ?_
          exact fin y H5 y0 y1 (e4.trans e5) h5 _ rfl
      · rintro σ H3 ⟨ns, y, z, rfl, y0, y1, e4, h4, dr⟩
        exact ⟨_, rfl, L, _, rfl, .inl ⟨SqL.of h4, fun p hp => k p ns _ (e4.ext (Ex.new hp)) upd_same dr⟩⟩
def spEither : Sp := fun vs H Q _ => ∃ (h : Hand) (a : Addr) (ns : List Int), vs = [.ref h.hd, .ref a] ∧ HandAt H h ∧ H a = some (.tup (ns.map V.int)) ∧
  ∀ p H', Eh h H H' → ((H' p = some (.lst (ns.map V.int)) ∧ H p = none) ∨ H' p = some (.tup (ns.map V.int))) → Q (.ref p) H'
theorem c__law_either (F : Facts K mg CP CB) : C8.Cal P w K mg base 3 "_law_either" spEither [] := by
  obtain ⟨f, fd, D, b⟩ := F.d__law_either
  have c__law_take := c__law_take (P := P) (w := w) (base := base) F
  refine C8.cal0 D b .nil sc__law_either (fun vs H Q E h => ?_) (fun cdv A outer s H vs Q E hr h => ?_)
  · obtain ⟨h, a, ns, rfl, _⟩ := h
    rfl
  · obtain ⟨h, a, ns, rfl, ha, h0, k⟩ := h
    refine ⟨_, (pss_one (ps_ret (pe_ifExp (pt_cmpR op_eq (C8.pe_c c__law_take hr (by decide) (by rfl) (pa_cons (pv 0) (pa_cons pe_int pa_nil))) pe_int (nomark _)) (pe_callTy (cr_listK (K := K) rfl) (by rfl) F.n_list (by decide +kernel) (pa_cons (pv 1) pa_nil)) (pe_callTy (cr_tupleK (K := K) rfl) (by rfl) F.n_tuple (by decide +kernel) (pa_cons (pv 1) pa_nil))))), ?_⟩
    refine ⟨_, rfl, h, 2, rfl, ha, by decide, by decide, fun u H1 u0 u1 e1 => ⟨rfl, _, rfl, ?_⟩⟩
    have h1 := e1.tup h0
    by_cases hu : u = 0
    · refine ev_T (eqI_T hu) ?_
      exact ⟨_, rfl, a, _, rfl, .inr (SqT.of h1), fun l hl => k l _ (e1.ext (Ex.new hl)) (.inl ⟨upd_same, e1.none hl⟩)⟩
    · refine ev_F (eqI_F hu) ?_
      exact ⟨_, rfl, a, _, rfl, .inr ⟨SqT.of h1, k a H1 e1 (.inr h1)⟩⟩
/-- neighbours differ -/
def Alt (ns : List Int) : Prop := ∀ i x y, ns[i]? = some x → ns[i + 1]? = some y → x ≠ y
theorem Alt.snoc {ns : List Int} {x y : Int} (a : Alt (ns ++ [x])) (h : x ≠ y) : Alt (ns ++ [x] ++ [y]) := by
  intro i u v hu hv
  have l : (ns ++ [x]).length = ns.length + 1 := by simp
  by_cases hi : i + 1 < (ns ++ [x]).length
  · rw [List.getElem?_append_left (by omega)] at hu
    rw [List.getElem?_append_left hi] at hv
    exact a i u v hu hv
  · have h2 := (List.getElem?_eq_some_iff.mp hv).1
    rw [List.length_append, List.length_singleton] at h2
    have e : i = ns.length := by omega
    subst e
    rw [List.getElem?_append_left (by omega)] at hu
    rw [List.getElem?_append_right (by omega)] at hv
    simp at hu hv
    rw [← hu, ← hv]
    exact h
theorem mod_next {a x q : Int} (h0 : 0 ≤ a) (h1 : a < q) (x0 : 0 ≤ x) (x1 : x < q - 1) : 0 ≤ (a + 1 + x) % q ∧ (a + 1 + x) % q < q ∧ a ≠ (a + 1 + x) % q := by
  refine ⟨Int.emod_nonneg _ (by omega), Int.emod_lt_of_pos _ (by omega), ?_⟩
  by_cases h : a + 1 + x < q
  · rw [Int.emod_eq_of_lt (by omega) h]; omega
  · have e : a + 1 + x = (a + 1 + x - q) + q := by omega
    rw [e, Int.add_emod_right, Int.emod_eq_of_lt (by omega) (by omega)]
    omega
def spShape : Sp := fun vs H Q _ => ∃ (h : Hand) (q : Int) (n : Nat), vs = [.ref h.hd, .int q, .int (n : Nat)] ∧ HandAt H h ∧ 2 ≤ q ∧ q < 1000 ∧ n ≤ 100 ∧
  ∀ p ns H', Eh h H H' → H' p = some (.tup (ns.map V.int)) → Drawn q n ns → Alt ns → Q (.ref p) H'
theorem c__law_shape (F : Facts K mg CP CB) : C8.Cal P w K mg base 3 "_law_shape" spShape [] := by
  obtain ⟨f, fd, D, b⟩ := F.d__law_shape
  have c__law_take := c__law_take (P := P) (w := w) (base := base) F
  refine C8.cal0 D b .nil sc__law_shape (fun vs H Q E h => ?_) (fun cdv A outer s H vs Q E hr h => ?_)
  · obtain ⟨h, q, n, rfl, _⟩ := h
    rfl
  · obtain ⟨h, q, n, rfl, ha, q1, q2, hn, k⟩ := h
    refine ⟨_, (pss_cons (ps_set (i := 3) sc__law_shape.nd rfl (Or.inl rfl) (pe_lst pa_nil))
  (pss_cons (ps_for PassesOwn.never rfl (pi_range1 (by rfl) F.n_range (pa_cons (pv 2) pa_nil)) (pg_name (i := 4) sc__law_shape.nd rfl (Or.inl rfl))
    (pss_one (ps_expr (pe_bm PySem.F.plainAttrs_list PySem.F.slot_list_append PySem.F.type_list_append mt_append (pv 3) (pa_cons (pe_ifExp (pt_cmpR op_eq (pv 4) pe_int (nomark _)) (C8.pe_c c__law_take hr (by decide) (by rfl) (pa_cons (pv 0) (pa_cons (pv 1) pa_nil))) (pe_op op_mod (pe_callTy call_int1 (by rfl) F.n_int (by decide +kernel) (pa_cons (pe_op op_add (pe_op op_add (pe_ix (ix_listK (K := K) rfl) (pv 3) (pe_un un_neg pe_int) (fun _ _ => rfl)) pe_int) (C8.pe_c c__law_take hr (by decide) (by rfl) (pa_cons (pv 0) (pa_cons (pe_op op_sub (pv 1) pe_int) pa_nil)))) pa_nil)) (pv 1))) pa_nil)))))
  (pss_one (ps_ret (pe_callTy (cr_tupleK (K := K) rfl) (by rfl) F.n_tuple (by decide +kernel) (pa_cons (pv 3) pa_nil)))))), ?_⟩
    refine ⟨Nat.zero_le _, fun L hL => ?_⟩
    have e2 := (Eh.refl ha).ext (Ex.new (o := .lst []) hL)
    refine ⟨_, rfl, _, rfl, by omega, by omega, ?_⟩
    refine for_range (lo := 0) (n := n) (fun i σ H' => ∃ ns z, σ = [some (.ref h.hd), some (.int q), some (.int (n : Nat)), some (.ref L), z] ∧ Eh h H H' ∧ H' L = some (.lst (ns.map V.int)) ∧ Drawn q i ns ∧ Alt ns) ⟨[], none, rfl, e2, upd_same, ⟨rfl, fun x hx => nomatch hx⟩, fun i x y hx => by simp at hx⟩ ?_ ?_
    · rintro i σ H3 hi ⟨ns, z, rfl, e4, h4, dr, al⟩
      rw [Int.zero_add]
      refine ⟨_, rfl, .inl ⟨rfl, _, SqL.of h4⟩, ?_⟩
      refine ⟨_, rfl, rfl, _, rfl, ?_⟩
      by_cases h0 : i = 0
      · refine ev_T (eqI_T (by omega)) ?_
        have hns : ns = [] := List.length_eq_zero_iff.mp (by rw [dr.len, h0])
        subst hns
        refine ⟨_, rfl, _, rfl, h, q, rfl, e4.dst, by omega, by omega, fun y H5 y0 y1 e5 => ⟨L, _, _, rfl, rfl, e5.ints (ns := []) h4, by decide, [y], _, rfl, (e4.trans e5).mut hL, ?_, ⟨?_, ?_⟩, fun i x y hx hy => by simp at hy⟩⟩
        · rw [upd_same]; rfl
        · rw [h0]; rfl
        · intro u hu
          rw [List.mem_singleton.mp hu]; exact ⟨y0, y1⟩
      · refine ev_F (eqI_F (by omega)) ?_
        rcases List.eq_nil_or_concat ns with rfl | ⟨ms, x, rfl⟩
        · have := dr.len
          simp at this
          omega
        · rw [List.concat_eq_append] at *
          have hx := dr.low x (List.mem_append_right _ (List.mem_singleton.mpr rfl))
          have h4' := h4
          rw [List.map_append] at h4'
          refine ⟨_, rfl, 1, rfl, L, _, -1, V.int x, rfl, rfl, SqL.of h4', atI_last _ _, _, _, rfl, rfl, _, rfl, _, rfl, _, _, rfl, rfl, h, q - 1, rfl, e4.dst, by omega, by omega, fun y H5 y0 y1 e5 => ⟨_, _, rfl, rfl, .inl ⟨_, rfl, _, rfl, _, _, rfl, rfl, (by show (0 : Int) < q; omega), ?_⟩⟩⟩
          obtain ⟨n0, n1, n2⟩ := mod_next hx.1 hx.2 y0 y1
          refine ⟨L, _, _, rfl, rfl, e5.ints h4, ?_, ms ++ [x] ++ [(x + 1 + y) % q], _, rfl, (e4.trans e5).mut hL, ?_, ⟨?_, ?_⟩, al.snoc n2⟩
          · rw [List.length_map, dr.len]; exact sz_lt (by omega)
          · rw [upd_same, List.map_append (l₁ := ms ++ [x])]; rfl
          · rw [List.length_append, dr.len]; rfl
          · intro u hu
            rcases List.mem_append.mp hu with hu | hu
            · exact dr.low u hu
            · rw [List.mem_singleton.mp hu]; exact ⟨n0, n1⟩
    · rintro σ H3 ⟨ns, z, rfl, e4, h4, dr, al⟩
      exact ⟨_, rfl, L, _, rfl, .inl ⟨SqL.of h4, fun p hp => k p ns _ (e4.ext (Ex.new hp)) upd_same dr al⟩⟩
/-- lengths drawn: m runs, n letters -/
structure Lens (m n : Nat) (ls : List Int) : Prop where
  len : ls.length = m
  pos : ∀ x ∈ ls, 1 ≤ x
  sum : ls.sum = (n : Nat)
def spLengths : Sp := fun vs H Q _ => ∃ (h : Hand) (m n : Nat), vs = [.ref h.hd, .int (m : Nat), .int (n : Nat)] ∧ HandAt H h ∧ m ≤ n ∧ n ≤ 100 ∧ (1 ≤ m ∨ n = 0) ∧
  ∀ p ls H', Eh h H H' → H' p = some (.lst (ls.map V.int)) → Lens m n ls → Q (.ref p) H'
theorem c__law_lengths (F : Facts K mg CP CB) : C8.Cal P w K mg base 3 "_law_lengths" spLengths [] := by
  obtain ⟨f, fd, D, b⟩ := F.d__law_lengths
  have c__law_take := c__law_take (P := P) (w := w) (base := base) F
  refine C8.cal0 D b .nil sc__law_lengths (fun vs H Q E h => ?_) (fun cdv A outer s H vs Q E hr h => ?_)
  · obtain ⟨h, m, n, rfl, _⟩ := h
    rfl
  · obtain ⟨h, m, n, rfl, ha, q1, q2, hn, k⟩ := h
    refine ⟨_, (pss_cons (ps_set (i := 3) sc__law_lengths.nd rfl (Or.inl rfl) (pe_op op_rep (pe_lst (pa_cons pe_int pa_nil)) (pv 1)))
  (pss_cons (ps_for PassesOwn.never rfl (pi_range1 (by rfl) F.n_range (pa_cons (pe_op op_sub (pv 2) (pv 1)) pa_nil)) (pg_name (i := 4) sc__law_lengths.nd rfl (Or.inl rfl))
    (pss_cons (ps_set (i := 5) sc__law_lengths.nd rfl (Or.inl rfl) (C8.pe_c c__law_take hr (by decide) (by rfl) (pa_cons (pv 0) (pa_cons (pv 1) pa_nil))))
  (pss_one (ps_asg (pe_op op_add (pe_ix (ix_listK (K := K) rfl) (pv 3) (pv 5) (fun _ _ => rfl)) pe_int) (pg_sub (pv 3) (pv 5) set_list)))))
  (pss_one (ps_ret (pv 3))))), ?_⟩
    refine ⟨(by decide : 1 ≤ sizeLine), fun t0 ht0 => ?_⟩
    have e0 : Ex H _ := Ex.new (o := .lst [.int 1]) ht0
    refine ⟨_, rfl, t0, _, _, rfl, rfl, upd_same, by omega, by omega, ?_, fun r hr0 => ?_⟩
    · show 1 * ((m : Int)).toNat ≤ sizeLine
      exact sz_of (by omega)
    have ones : (List.replicate (m : Int).toNat [V.int 1]).flatten = (List.replicate m (1 : Int)).map V.int := by
      rw [Int.toNat_natCast]
      generalize m = m
      induction m with
      | zero => rfl
      | succ m ih => rw [List.replicate_succ, List.replicate_succ, List.flatten_cons, ih]; rfl
    rw [ones] at *
    have hr1 : H r = none := fresh_back e0 hr0
    have e1 := e0.trans (Ex.new (o := .lst ((List.replicate m (1 : Int)).map V.int)) hr0)
    refine ⟨_, rfl, _, rfl, _, _, rfl, rfl, _, rfl, by omega, by omega, ?_⟩
    have et : ((n : Int) - (m : Int)).toNat = n - m := by omega
    rw [et]
    refine for_range (lo := 0) (n := n - m) (fun i σ H' => ∃ ls x y, σ = [some (.ref h.hd), some (.int (m : Nat)), some (.int (n : Nat)), some (.ref r), x, y] ∧ Eh h H H' ∧ H' r = some (.lst (ls.map V.int)) ∧ Lens m (m + i) ls) ⟨List.replicate m 1, none, none, rfl, Eh.of ha e1, upd_same, by simp, fun x hx => by rw [List.eq_of_mem_replicate hx]; decide, by simp⟩ ?_ ?_
    · rintro i σ H1 hi ⟨ls, x, y, rfl, e2, h2, ln⟩
      refine ⟨_, rfl, _, rfl, h, m, rfl, e2.dst, by omega, by omega, fun u H3 u0 u1 e3 => ?_⟩
      have h3 := e3.ints h2
      obtain ⟨j, rfl⟩ : ∃ j : Nat, u = (j : Int) := ⟨u.toNat, by omega⟩
      have jl : j < ls.length := by rw [ln.len]; omega
      obtain ⟨z, hz⟩ : ∃ z, ls[j]? = some z := ⟨_, List.getElem?_eq_getElem jl⟩
      refine ⟨_, rfl, _, rfl, r, _, _, _, rfl, rfl, SqL.of h3, atI_nat (at_map hz), _, _, rfl, rfl, ?_⟩
      refine ⟨_, rfl, _, rfl, r, _, _, j, rfl, rfl, h3, ixN_nat (by rw [List.length_map]; exact jl), ls.set j (z + 1), _, _, rfl, (e2.trans e3).mut hr1, ?_, ?_, ?_, ?_⟩
      · rw [upd_same, List.map_set]
      · rw [List.length_set, ln.len]
      · intro v hv
        rcases List.mem_or_eq_of_mem_set hv with hv | rfl
        · exact ln.pos v hv
        · have := ln.pos z (List.mem_of_getElem? hz); omega
      · rw [sum_set hz, ln.sum]; omega
    · rintro σ H1 ⟨ls, x, y, rfl, e2, h2, ln⟩
      have : m + (n - m) = n := by omega
      rw [this] at ln
      exact ⟨_, rfl, k r ls H1 e2 h2 ln⟩
end
end LP
end

section
set_option Elab.async false
set_option linter.all false
/-! sorting words without doubles -/
namespace MR
def ltW : Wd → Wd → Bool
  | [], [] => false
  | [], _ :: _ => true
  | _ :: _, [] => false
  | x :: xs, y :: ys => if x = y then ltW xs ys else decide (x < y)
theorem ltW_irr : ∀ a : Wd, ltW a a = false
  | [] => rfl
  | x :: xs => by simp only [ltW, if_true]; exact ltW_irr xs
theorem ltW_trans : ∀ {a b c : Wd}, ltW a b = true → ltW b c = true → ltW a c = true
  | [], [], c, h, _ => by cases h
  | [], _ :: _, [], _, h => by cases h
  | [], _ :: _, _ :: _, _, _ => rfl
  | _ :: _, [], _, h, _ => by cases h
  | _ :: _, _ :: _, [], _, h => by cases h
  | x :: xs, y :: ys, z :: zs, h, h' => by
    unfold ltW at h h' ⊢
    by_cases e : x = y
    · subst e
      rw [if_pos rfl] at h
      by_cases e2 : x = z
      · subst e2
        rw [if_pos rfl] at h' ⊢
        exact ltW_trans h h'
      · rw [if_neg e2] at h' ⊢
        exact h'
    · rw [if_neg e, decide_eq_true_eq] at h
      by_cases e2 : y = z
      · subst e2
        rw [if_neg e]
        exact decide_eq_true h
      · rw [if_neg e2, decide_eq_true_eq] at h'
        rw [if_neg (by omega)]
        exact decide_eq_true (by omega)
theorem ltW_tri : ∀ {a b : Wd}, ltW a b = false → ltW b a = false → a = b
  | [], [], _, _ => rfl
  | [], _ :: _, h, _ => by cases h
  | _ :: _, [], _, h => by cases h
  | x :: xs, y :: ys, h, h' => by
    unfold ltW at h h'
    by_cases e : x = y
    · subst e
      rw [if_pos rfl] at h h'
      rw [ltW_tri h h']
    · rw [if_neg e, decide_eq_false_iff_not] at h
      rw [if_neg (Ne.symm e), decide_eq_false_iff_not] at h'
      omega
theorem ltW_asymm {a b : Wd} (h : ltW a b = true) : ltW b a = false := by
  cases e : ltW b a with
  | false => rfl
  | true =>
    have := ltW_trans h e
    rw [ltW_irr] at this
    cases this
def insU (x : Wd) : List Wd → List Wd
  | [] => [x]
  | y :: l => if x = y then y :: l else if ltW x y = true then x :: y :: l else y :: insU x l
def sortU (l : List Wd) : List Wd := l.foldr insU []
theorem mem_insU {x z : Wd} : ∀ {l : List Wd}, z ∈ insU x l ↔ z = x ∨ z ∈ l
  | [] => by simp [insU]
  | y :: l => by
    unfold insU
    split
    · rename_i h; subst h; simp
    · split
      · simp
      · rw [List.mem_cons, mem_insU, List.mem_cons]
        constructor
        · rintro (h | h | h)
          · exact .inr (.inl h)
          · exact .inl h
          · exact .inr (.inr h)
        · rintro (h | h | h)
          · exact .inr (.inl h)
          · exact .inl h
          · exact .inr (.inr h)
theorem mem_sortU {z : Wd} : ∀ {l : List Wd}, z ∈ sortU l ↔ z ∈ l
  | [] => by simp [sortU]
  | x :: l => by
    show z ∈ insU x (sortU l) ↔ _
    rw [mem_insU, mem_sortU, List.mem_cons]
abbrev Strict (l : List Wd) : Prop := l.Pairwise fun a b => ltW a b = true
theorem strict_insU {x : Wd} : ∀ {l : List Wd}, Strict l → Strict (insU x l)
  | [], _ => by simp [insU, Strict]
  | y :: l, h => by
    have h1 := List.pairwise_cons.mp h
    unfold insU
    split
    · exact h
    · rename_i hne
      split
      · rename_i hlt
        refine List.pairwise_cons.mpr ⟨fun z hz => ?_, h⟩
        rcases List.mem_cons.mp hz with rfl | hz
        · exact hlt
        · exact ltW_trans hlt (h1.1 z hz)
      · rename_i hlt
        refine List.pairwise_cons.mpr ⟨fun z hz => ?_, strict_insU h1.2⟩
        rcases mem_insU.mp hz with rfl | hz
        · cases e : ltW y z with
          | true => rfl
          | false => exact absurd (ltW_tri (by simpa using hlt) e) hne
        · exact h1.1 z hz
theorem strict_sortU : ∀ l : List Wd, Strict (sortU l)
  | [] => List.Pairwise.nil
  | x :: l => strict_insU (strict_sortU l)
theorem Strict.nodup {l : List Wd} (h : Strict l) : l.Nodup := h.imp fun {a b} q e => by subst e; rw [ltW_irr] at q; cases q
/-- sorted lists without doubles are told by their members -/
theorem strict_eq : ∀ {l m : List Wd}, Strict l → Strict m → (∀ x, x ∈ l ↔ x ∈ m) → l = m
  | [], [], _, _, _ => rfl
  | [], y :: m, _, _, h => by have := (h y).mpr (List.mem_cons_self ..); simp at this
  | x :: l, [], _, _, h => by have := (h x).mp (List.mem_cons_self ..); simp at this
  | x :: l, y :: m, h1, h2, h => by
    have a := List.pairwise_cons.mp h1
    have b := List.pairwise_cons.mp h2
    have e : x = y := by
      rcases List.mem_cons.mp ((h x).mp (List.mem_cons_self ..)) with e | hx
      · exact e
      · rcases List.mem_cons.mp ((h y).mpr (List.mem_cons_self ..)) with e | hy
        · exact e.symm
        · have q1 := b.1 x hx
          have q2 := a.1 y hy
          rw [ltW_asymm q1] at q2
          cases q2
    subst e
    have : l = m := strict_eq a.2 b.2 fun z => by
      constructor
      · intro hz
        rcases List.mem_cons.mp ((h z).mp (List.mem_cons_of_mem _ hz)) with e | hz'
        · subst e
          have := a.1 z hz
          rw [ltW_irr] at this
          cases this
        · exact hz'
      · intro hz
        rcases List.mem_cons.mp ((h z).mpr (List.mem_cons_of_mem _ hz)) with e | hz'
        · subst e
          have := b.1 z hz
          rw [ltW_irr] at this
          cases this
        · exact hz'
    rw [this]
/-- sorted, no doubles: strictly sorted -/
theorem strict_of {l : List Wd} (h : l.Pairwise fun a b => ltW b a = false) (n : l.Nodup) : Strict l := by
  refine List.Pairwise.imp₂ (fun {a b} h1 h2 => ?_) h n
  cases e : ltW a b with
  | true => rfl
  | false => exact absurd (ltW_tri e h1) h2
theorem sortU_eq {l m : List Wd} (h : l.Pairwise fun a b => ltW b a = false) (n : l.Nodup) (e : ∀ x, x ∈ l ↔ x ∈ m) : l = sortU m :=
  strict_eq (strict_of h n) (strict_sortU m) fun x => (e x).trans mem_sortU.symm
theorem insU_len (x : Wd) : ∀ l : List Wd, (insU x l).length ≤ l.length + 1
  | [] => by simp [insU]
  | y :: l => by
    have := insU_len x l
    unfold insU
    split
    · simp
    · split
      · simp
      · simp only [List.length_cons]; omega
theorem sortU_len : ∀ l : List Wd, (sortU l).length ≤ l.length
  | [] => Nat.le_refl _
  | x :: l => by
    have h1 := insU_len x (sortU l)
    have h2 := sortU_len l
    show (insU x (sortU l)).length ≤ _
    simp only [List.length_cons]
    omega
/-- lists without doubles and with the same members have one length -/
theorem nodup_len_le {α : Type} [DecidableEq α] : ∀ {l m : List α}, l.Nodup → (∀ x ∈ l, x ∈ m) → l.length ≤ m.length
  | [], m, _, _ => Nat.zero_le _
  | x :: l, m, h, s => by
    have h1 := List.nodup_cons.mp h
    have hm := s x (List.mem_cons_self ..)
    have := nodup_len_le (l := l) (m := m.erase x) h1.2 fun y hy => by
      have hne : y ≠ x := fun e => h1.1 (e ▸ hy)
      exact (List.mem_erase_of_ne hne).mpr (s y (List.mem_cons_of_mem _ hy))
    have l1 := List.length_erase_of_mem hm
    have l2 := List.length_pos_of_mem hm
    simp only [List.length_cons]
    omega
/-- the set's size tells whether there are doubles -/
theorem nodup_iff_len {α : Type} [DecidableEq α] {l m : List α} (h : l.Nodup) (s : ∀ x, x ∈ l ↔ x ∈ m) : l.length = m.length ↔ m.Nodup := by
  constructor
  · intro e
    have : ∀ {m : List α} {l : List α}, l.Nodup → (∀ x ∈ l, x ∈ m) → (∀ x ∈ m, x ∈ l) → l.length = m.length → m.Nodup := by
      intro m
      induction m with
      | nil => intro l _ _ _ _; exact List.nodup_nil
      | cons x m ih =>
        intro l hl h1 h2 he
        refine List.nodup_cons.mpr ⟨fun hx => ?_, ?_⟩
        · have := nodup_len_le hl (m := m) fun y hy => by
            rcases List.mem_cons.mp (h1 y hy) with e | hm
            · rw [e]; exact hx
            · exact hm
          simp only [List.length_cons] at he
          omega
        · have hxl := h2 x (List.mem_cons_self ..)
          have hx : x ∉ m := fun hx => by
            have := nodup_len_le hl (m := m) fun y hy => by
              rcases List.mem_cons.mp (h1 y hy) with e | hm
              · rw [e]; exact hx
              · exact hm
            simp only [List.length_cons] at he
            omega
          refine ih (l := l.erase x) (hl.erase x) (fun y hy => ?_) (fun y hy => ?_) ?_
          · have hy' := (List.Nodup.mem_erase_iff hl).mp hy
            rcases List.mem_cons.mp (h1 y hy'.2) with e | hm
            · exact absurd e hy'.1
            · exact hm
          · refine (List.Nodup.mem_erase_iff hl).mpr ⟨fun e => hx (e ▸ hy), h2 y (List.mem_cons_of_mem _ hy)⟩
          · rw [List.length_erase_of_mem hxl]
            simp only [List.length_cons] at he
            omega
    exact this h (fun x hx => (s x).mp hx) (fun x hx => (s x).mpr hx) e
  · intro n
    exact Nat.le_antisymm (nodup_len_le h fun x hx => (s x).mp hx) (nodup_len_le n fun x hx => (s x).mpr hx)
/-! doubling a letter, swallowing one of two -/
def swellM (w : Wd) : List Wd := (List.range w.length).map fun k => (w.take k ++ (w.drop k).take 1) ++ w.drop k
def shrinkM (w : Wd) : List Wd := ((List.range (w.length - 1)).filter fun j => w.getD j 0 = w.getD (j + 1) 0).map fun j => w.take (j + 1) ++ w.drop (j + 2)
def swollenW (w : Wd) : List Wd := sortU (swellM w)
def shrunkW (w : Wd) : List Wd := sortU (shrinkM w)
def levM (f : Wd → List Wd) (w : Wd) : Nat → List Wd
  | 0 => [w]
  | k + 1 => sortU ((levM f w k).flatMap f)
def mixStep (l : List Wd) : List Wd := l ++ l.flatMap fun x => swollenW x ++ shrunkW x
def mixM (w : Wd) : Nat → List Wd
  | 0 => [w]
  | k + 1 => sortU (mixStep (mixM w k))
theorem swellM_len {w x : Wd} (h : x ∈ swellM w) : x.length = w.length + 1 := by
  obtain ⟨k, hk, rfl⟩ := List.mem_map.mp h
  have hk := List.mem_range.mp hk
  simp only [List.length_append, List.length_take, List.length_drop]
  omega
theorem shrinkM_len {w x : Wd} (h : x ∈ shrinkM w) : x.length + 1 = w.length ∧ 1 ≤ x.length := by
  obtain ⟨k, hk, rfl⟩ := List.mem_map.mp h
  have hk := List.mem_range.mp (List.mem_filter.mp hk).1
  simp only [List.length_append, List.length_take, List.length_drop]
  omega
theorem swollenW_len {w x : Wd} (h : x ∈ swollenW w) : x.length = w.length + 1 := swellM_len (mem_sortU.mp h)
theorem shrunkW_len {w x : Wd} (h : x ∈ shrunkW w) : x.length + 1 = w.length ∧ 1 ≤ x.length := shrinkM_len (mem_sortU.mp h)
/-- the empty word stands with no other -/
def NEW (ws : List Wd) : Prop := [] ∈ ws → ∀ x ∈ ws, x = []
theorem new_len {ws : List Wd} {n : Nat} (h : ∀ x ∈ ws, x.length = n) : NEW ws := fun h0 x hx => by
  have h1 := h [] h0
  have h2 := h x hx
  exact List.length_eq_zero_iff.mp (by rw [h2, ← h1]; rfl)
end MR
end

section
set_option Elab.async false
set_option linter.all false
set_option maxRecDepth 100000
set_option maxHeartbeats 4000000
namespace LP
open PySem L2 PyProof.Rows PySem.Spec Evl MR
section
variable {P : Program} {w : World} {K : PySem.W.Frag} {mg : Str → Option Value} {base : Heap} {CP CB : Addr}
theorem ltW_eq : ∀ a b : Wd, HT.lexLt a b = ltW a b
  | [], [] => rfl
  | [], _ :: _ => rfl
  | _ :: _, [] => rfl
  | x :: xs, y :: ys => by
    show (if x = y then HT.lexLt xs ys else decide (x < y)) = (if x = y then ltW xs ys else decide (x < y))
    rw [ltW_eq xs ys]
/-- the words of rows -/
abbrev wds (ks : List Row) : List Wd := ks.map (·.2)
theorem sorted_wds {ks ks' : List Row} (S : QT.Sorted ks ks') (n : (wds ks).Nodup) {ws : List Wd} (e : ∀ x, x ∈ wds ks ↔ x ∈ ws) : wds ks' = sortU ws := by
  have pm : (wds ks').Perm (wds ks) := S.perm.map _
  refine sortU_eq ?_ (pm.nodup_iff.mpr n) fun x => (pm.mem_iff).trans (e x)
  refine List.pairwise_map.mpr (S.ord.imp fun {p q} h => ?_)
  rw [← ltW_eq]
  exact h
theorem noEmpty_of {ks : List Row} (n : (wds ks).Nodup) (h : NEW (wds ks)) : QT.NoEmpty ks := by
  intro h2 p hp e
  have hm : p.2 ∈ wds ks := List.mem_map.mpr ⟨p, hp, rfl⟩
  rw [e] at hm
  have all := h hm
  match hk : ks, h2 with
  | a :: b :: l, _ =>
    have h1 := all a.2 (by simp [wds])
    have h3 := all b.2 (by simp [wds])
    have := List.nodup_cons.mp n
    exact this.1 (by show a.2 ∈ b.2 :: l.map (·.2); rw [h1, h3]; exact List.mem_cons_self ..)
theorem new_sub {ws vs : List Wd} (h : NEW ws) (s : ∀ x ∈ vs, x ∈ ws) : NEW vs := fun h0 x hx => h (s _ h0) x (s x hx)
/-- sorted(set(xs)) -/
theorem sortSet_of {H : Hp} {Q : VK} {l : Addr} {ks : List Row} (hl : LW H l ks) (hz : ks.length < 4096) (hn : NEW (wds ks)) (k : ∀ p ks' H', Ex H H' → H p = none → LW H' p ks' → wds ks' = sortU (wds ks) → Q (.ref p) H') :
    QT.rSet K P w [.ref l] H (fun y H2 => QT.rSortS K P w [y] H2 Q) := by
  refine ⟨l, ks, rfl, SqL.of hl.at_, hl.rt.rows, hz, fun a L ha h1 h2 h3 h4 => ?_⟩
  have e1 : Ex H (upd H a (QT.SetO P w a L)) := Ex.new ha
  have rt := (hl.rt.mono e1).sub h1
  have mem : ∀ x, x ∈ wds L ↔ x ∈ wds ks := fun x => by
    constructor
    · intro hx
      obtain ⟨p, hp, rfl⟩ := List.mem_map.mp hx
      exact List.mem_map.mpr ⟨p, h1 p hp, rfl⟩
    · intro hx
      obtain ⟨p, hp, rfl⟩ := List.mem_map.mp hx
      exact h2 p hp
  refine ⟨a, L, rfl, upd_same, rt.rows, noEmpty_of h3 (new_sub hn fun x hx => (mem x).mp hx), by omega, fun L' p S hp => ?_⟩
  have e2 : Ex _ (upd (upd H a (QT.SetO P w a L)) p (.lst (refs L'))) := Ex.new hp
  exact k p L' _ (e1.trans e2) (fresh_back e1 hp) ⟨upd_same, (rt.mono e2).sub fun q hq => S.perm.mem_iff.mp hq⟩ (sorted_wds S h3 mem)
/-- len(set(xs)) -/
theorem lenSet_of {H : Hp} {Q : VK} {l : Addr} {ks : List Row} (hl : LW H l ks) (hz : ks.length < 4096) (k : ∀ (n : Nat) H', Ex H H' → (n = ks.length ↔ (wds ks).Nodup) → Q (.int (n : Nat)) H') :
    QT.rSet K P w [.ref l] H (fun y H2 => QT.rLenSet P w [y] H2 Q) := by
  refine ⟨l, ks, rfl, SqL.of hl.at_, hl.rt.rows, hz, fun a L ha h1 h2 h3 h4 => ⟨a, L, rfl, upd_same, k L.length _ (Ex.new ha) ?_⟩⟩
  have mem : ∀ x, x ∈ wds L ↔ x ∈ wds ks := fun x => by
    constructor
    · intro hx
      obtain ⟨p, hp, rfl⟩ := List.mem_map.mp hx
      exact List.mem_map.mpr ⟨p, h1 p hp, rfl⟩
    · intro hx
      obtain ⟨p, hp, rfl⟩ := List.mem_map.mp hx
      exact h2 p hp
  have := nodup_iff_len h3 mem
  rw [List.length_map, List.length_map] at this
  exact this
theorem cut_nn {xs : List V} {i : Nat} (h : i ≤ xs.length) : cutV xs none (some (i : Int)) = xs.take i := by
  unfold cutV
  rw [HT.sIx_none, HT.sIx_nat, Nat.min_eq_left h, Nat.sub_zero, List.drop_zero]
theorem cut_ln {xs : List V} {i : Nat} (h : i ≤ xs.length) : cutV xs (some (i : Int)) none = xs.drop i := by
  unfold cutV
  rw [HT.sIx_none, HT.sIx_nat, Nat.min_eq_left h]
  exact List.take_of_length_le (by rw [List.length_drop]; exact Nat.le_refl _)
theorem cut_one {xs : List V} {i : Nat} (h : i + 1 ≤ xs.length) : cutV xs (some (i : Int)) (some ((i : Int) + 1)) = (xs.drop i).take 1 := by
  unfold cutV
  rw [HT.sIx_nat, Nat.min_eq_left (by omega), show ((i : Int) + 1) = ((i + 1 : Nat) : Int) by omega, HT.sIx_nat, Nat.min_eq_left h]
  congr 1
  omega
theorem nopart {σ : L2.St} {H : Hp} {F : Option Int → Hp → Prop} (h : F none H) : tNoPart σ H F := h
/-- of one word, a sorted list of words -/
def spSw (n : Nat) (f : Wd → List Wd) : Sp := fun vs H Q _ => ∃ (a : Addr) (ns : List Int), vs = [.ref a] ∧ H a = some (.tup (ns.map V.int)) ∧ ns.length ≤ n ∧
  ∀ p ks H', Ex H H' → LW H' p ks → wds ks = f ns → Q (.ref p) H'
theorem c__law_swollen (F : Facts K mg CP CB) : C8.Cal P w K mg base 1 "_law_swollen" (spSw 1000 swollenW) [] := by
  obtain ⟨f, fd, D, b⟩ := F.d__law_swollen
  refine C8.cal0 D b .nil sc__law_swollen (fun vs H Q E h => ?_) (fun cdv A outer s H vs Q E hr h => ?_)
  · obtain ⟨a, ns, rfl, _⟩ := h
    rfl
  · obtain ⟨a, ns, rfl, ha, hz, k⟩ := h
    refine ⟨_, (pss_one (ps_ret (pe_callB (cr_sortSK (K := K) (P := P) (w := w) rfl rfl rfl rfl) (by rfl) F.n_sorted (by decide +kernel) (pa_cons (pe_callTy (cr_setK (K := K) (P := P) (w := w) rfl rfl rfl rfl (hu64 hr)) (by rfl) F.n_set (by decide +kernel) (pa_cons (pe_lc (own := [("_law_k", 1)]) (g := (gName 1)) (tt := tYes) (by rfl) sc__law_swollen.nd (pi_range1 (by rfl) F.n_range (pa_cons (pe_callB (cr_lenK (K := K) rfl) (by rfl) F.n_len PySem.boot_len (pa_cons (pv 0) pa_nil)) pa_nil)) (blkOk_by (own := [("_law_k", 1)]) (N := N__law_swollen) (sc := (C8.fnScope st__law_swollen)) (by decide +kernel)) (fun _ _ _ _ _ => (pg_name (i := 1) sc__law_swollen.nd rfl (Or.inl rfl))) (fun _ _ _ _ _ => pts_nil) (fun _ _ _ _ _ => (pe_op (op_catK (K := K) rfl) (pe_op (op_catK (K := K) rfl) (pe_slice (sl_tupK (K := K) rfl) (pv 0) po_none (po_some (pv 1))) (pe_slice (sl_tupK (K := K) rfl) (pv 0) (po_some (pv 1)) (po_some (pe_op op_add (pv 1) pe_int)))) (pe_slice (sl_tupK (K := K) rfl) (pv 0) (po_some (pv 1)) po_none)))) pa_nil)) pa_nil)))), ?_⟩
    have l1 : (ns.map V.int).length = ns.length := List.length_map _
    refine ⟨_, rfl, a, _, rfl, .inr (SqT.of ha), ?_⟩
    rw [l1]
    refine ⟨_, rfl, by omega, by omega, fun d hd => ?_⟩
    refine lc_range (lo := 0) (n := ns.length) (fun i H' => ∃ ks, Ex H H' ∧ LW H' d ks ∧ wds ks = (List.range i).map fun k => (ns.take k ++ (ns.drop k).take 1) ++ ns.drop k) ⟨[], Ex.new hd, ⟨upd_same, RT.nil⟩, rfl⟩ ?_ ?_
    · rintro i H1 hi ⟨ks, e1, h1, ek⟩
      rw [Int.zero_add]
      refine ⟨rfl, lcY ?_⟩
      refine ⟨_, rfl, _, rfl, _, rfl, cut_of (e1 _ _ ha) fun p1 H2 e2 h2 => ⟨_, rfl, _, rfl, _, rfl, _, rfl, _, _, rfl, rfl, _, rfl, cut_of (e2 _ _ (e1 _ _ ha)) fun p2 H3 e3 h3 => ?_⟩⟩
      rw [cut_nn (by omega)] at h2
      rw [cut_one (by omega)] at h3
      refine cat_of (e3 _ _ h2) h3 ?_ fun p3 H4 e4 h4 => ?_
      · simp only [List.length_take, List.length_drop]; omega
      refine ⟨_, rfl, _, rfl, _, rfl, nopart (cut_of (e4 _ _ (e3 _ _ (e2 _ _ (e1 _ _ ha)))) fun p4 H5 e5 h5 => ?_)⟩
      rw [cut_ln (by omega)] at h5
      refine cat_of (e5 _ _ h4) h5 ?_ fun p5 H6 e6 h6 => ?_
      · simp only [List.length_append, List.length_take, List.length_drop]; omega
      have e26 := ((((e2.trans e3).trans e4).trans e5).trans e6)
      have lk : ks.length = i := by
        have := congrArg List.length ek
        simpa [wds] using this
      have hd0 := h1.at_
      refine ⟨_, e26 _ _ h1.at_, ?_, ks ++ [(p5, (ns.take i ++ (ns.drop i).take 1) ++ ns.drop i)], Ex.mut (e1.trans e26) hd, ⟨?_, ?_⟩, ?_⟩
      · rw [List.length_map]; exact sz_lt (by omega)
      · rw [upd_same]
        show some (HO.lst (refs ks ++ [V.ref p5])) = some (HO.lst (refs (ks ++ [(p5, _)])))
        unfold refs QT.refs
        rw [List.map_append]; rfl
      · intro q hq
        rcases List.mem_append.mp hq with hq | hq
        · have h7 := e26 _ _ (h1.rt q hq)
          rw [upd_ne (ne_lt (e26 _ _ h1.at_) h7).symm]; exact h7
        · rw [List.mem_singleton.mp hq]
          rw [upd_ne (ne_lt (e26 _ _ h1.at_) h6).symm, h6, List.map_append, List.map_append, List.map_take, List.map_take, List.map_drop]
      · show List.map (fun q : Row => q.2) (ks ++ [(p5, _)]) = _
        rw [List.map_append, List.range_succ, List.map_append]
        rw [show ks.map (·.2) = wds ks from rfl, ek]; rfl
    · rintro H1 ⟨ks, e1, h1, ek⟩
      have lk : ks.length = ns.length := by
        have := congrArg List.length ek
        simpa [wds] using this
      have em : wds ks = swellM ns := ek
      refine sortSet_of h1 (by omega) ?_ fun p ks' H2 e2 _ h2 e => k p ks' H2 (e1.trans e2) h2 (by rw [e, em]; rfl)
      rw [em]
      exact new_len (n := ns.length + 1) fun x hx => swellM_len hx
theorem c__law_shrunk (F : Facts K mg CP CB) : C8.Cal P w K mg base 1 "_law_shrunk" (spSw 1000 shrunkW) [] := by
  obtain ⟨f, fd, D, b⟩ := F.d__law_shrunk
  refine C8.cal0 D b .nil sc__law_shrunk (fun vs H Q E h => ?_) (fun cdv A outer s H vs Q E hr h => ?_)
  · obtain ⟨a, ns, rfl, _⟩ := h
    rfl
  · obtain ⟨a, ns, rfl, ha, hz, k⟩ := h
    refine ⟨_, (pss_one (ps_ret (pe_callB (cr_sortSK (K := K) (P := P) (w := w) rfl rfl rfl rfl) (by rfl) F.n_sorted (by decide +kernel) (pa_cons (pe_callTy (cr_setK (K := K) (P := P) (w := w) rfl rfl rfl rfl (hu64 hr)) (by rfl) F.n_set (by decide +kernel) (pa_cons (pe_lc (own := [("_law_k", 1)]) (g := (gName 1)) (tt := _) (by rfl) sc__law_shrunk.nd (pi_range2 (by rfl) F.n_range (pa_cons pe_int (pa_cons (pe_callB (cr_lenK (K := K) rfl) (by rfl) F.n_len PySem.boot_len (pa_cons (pv 0) pa_nil)) pa_nil))) (blkOk_by (own := [("_law_k", 1)]) (N := N__law_shrunk) (sc := (C8.fnScope st__law_shrunk)) (by decide +kernel)) (fun _ _ _ _ _ => (pg_name (i := 1) sc__law_shrunk.nd rfl (Or.inl rfl))) (fun _ _ _ _ _ => (pts_one (pt_cmpR op_eq (pe_ix (ix_tupK (K := K) rfl) (pv 0) (pe_op op_sub (pv 1) pe_int) (fun _ _ => rfl)) (pe_ix (ix_tupK (K := K) rfl) (pv 0) (pv 1) (fun _ _ => rfl)) (nomark _)))) (fun _ _ _ _ _ => (pe_op (op_catK (K := K) rfl) (pe_slice (sl_tupK (K := K) rfl) (pv 0) po_none (po_some (pv 1))) (pe_slice (sl_tupK (K := K) rfl) (pv 0) (po_some (pe_op op_add (pv 1) pe_int)) po_none)))) pa_nil)) pa_nil)))), ?_⟩
    have l1 : (ns.map V.int).length = ns.length := List.length_map _
    refine ⟨_, rfl, a, _, rfl, .inr (SqT.of ha), ?_⟩
    rw [l1]
    refine ⟨_, _, rfl, ⟨by omega, by omega, by omega, by omega⟩, fun d hd => ?_⟩
    have et : ((ns.length : Int) - 1).toNat = ns.length - 1 := by omega
    rw [et]
    refine lc_range (lo := 1) (n := ns.length - 1) (fun i H' => ∃ ks, Ex H H' ∧ LW H' d ks ∧ ks.length ≤ i ∧ wds ks = ((List.range i).filter fun j => ns.getD j 0 = ns.getD (j + 1) 0).map fun j => ns.take (j + 1) ++ ns.drop (j + 2)) ⟨[], Ex.new hd, ⟨upd_same, RT.nil⟩, Nat.le_refl _, rfl⟩ ?_ ?_
    · rintro i H1 hi ⟨ks, e1, h1, lk, ek⟩
      have c1 : (1 : Int) + (i : Nat) = ((i + 1 : Nat) : Int) := by omega
      have c2 : ((i + 1 : Nat) : Int) - 1 = (i : Nat) := by omega
      have c3 : ((i + 1 : Nat) : Int) + 1 = ((i + 2 : Nat) : Int) := by omega
      rw [c1]
      refine ⟨rfl, _, rfl, _, rfl, _, _, rfl, rfl, a, _, _, _, rfl, rfl, SqT.of (e1 _ _ ha), (by rw [c2]; exact atI_nat (at_map (getD_at (by omega)))), _, rfl, _, rfl, a, _, _, _, rfl, rfl, SqT.of (e1 _ _ ha), atI_nat (at_map (getD_at (by omega))), rfl, _, rfl, ?_⟩
      by_cases hx : ns.getD i 0 = ns.getD (i + 1) 0
      · refine ev_T (eqI_T hx) ?_
        refine ⟨_, rfl, _, rfl, _, rfl, cut_of (e1 _ _ ha) fun p1 H2 e2 h2 => ⟨_, rfl, _, rfl, _, _, rfl, rfl, _, rfl, nopart (cut_of (e2 _ _ (e1 _ _ ha)) fun p2 H3 e3 h3 => ?_)⟩⟩
        rw [cut_nn (by omega)] at h2
        rw [c3, cut_ln (by omega)] at h3
        refine cat_of (e3 _ _ h2) h3 ?_ fun p5 H6 e6 h6 => ?_
        · simp only [List.length_take, List.length_drop]; omega
        have e26 := (e2.trans e3).trans e6
        refine ⟨_, e26 _ _ h1.at_, ?_, ks ++ [(p5, ns.take (i + 1) ++ ns.drop (i + 2))], Ex.mut (e1.trans e26) hd, ⟨?_, ?_⟩, ?_, ?_⟩
        · rw [List.length_map]; exact sz_lt (by omega)
        · rw [upd_same]
          show some (HO.lst (refs ks ++ [V.ref p5])) = some (HO.lst (refs (ks ++ [(p5, _)])))
          unfold refs QT.refs
          rw [List.map_append]; rfl
        · intro q hq
          rcases List.mem_append.mp hq with hq | hq
          · have h7 := e26 _ _ (h1.rt q hq)
            rw [upd_ne (ne_lt (e26 _ _ h1.at_) h7).symm]; exact h7
          · rw [List.mem_singleton.mp hq]
            rw [upd_ne (ne_lt (e26 _ _ h1.at_) h6).symm, h6, List.map_append, List.map_take, List.map_drop]
        · rw [List.length_append, List.length_singleton]; omega
        · show List.map (fun q : Row => q.2) (ks ++ [(p5, _)]) = _
          rw [List.map_append, List.range_succ, List.filter_append, List.map_append]
          rw [show ks.map (·.2) = wds ks from rfl, ek, List.filter_cons, if_pos (decide_eq_true hx)]; rfl
      · refine ev_F (eqI_F hx) ?_
        refine ⟨ks, e1, h1, by omega, ?_⟩
        rw [ek, List.range_succ, List.filter_append, List.map_append, List.filter_cons, if_neg (by rw [decide_eq_true_eq]; exact hx)]
        simp
    · rintro H1 ⟨ks, e1, h1, lk, ek⟩
      have em : wds ks = shrinkM ns := ek
      refine sortSet_of h1 (by omega) ?_ fun p ks' H2 e2 _ h2 e => k p ks' H2 (e1.trans e2) h2 (by rw [e, em]; rfl)
      rw [em]
      exact new_len (n := ns.length - 1) fun x hx => by have := shrinkM_len hx; omega
end
end LP
end

section
set_option Elab.async false
set_option linter.all false
set_option maxRecDepth 100000
set_option maxHeartbeats 4000000
namespace LP
open PySem L2 PyProof.Rows PySem.Spec Evl MR
section
variable {P : Program} {w : World} {K : PySem.W.Frag} {mg : Str → Option Value} {base : Heap} {CP CB : Addr}
/-- a list of lists of words -/
structure LV (H : Hp) (L : Addr) (kss : List (Addr × List Row)) : Prop where
  at_ : H L = some (.lst (kss.map fun q => V.ref q.1))
  rows : ∀ q ∈ kss, q.1 ≠ L ∧ LW H q.1 q.2
theorem LV.mono {H H' : Hp} {L : Addr} {kss : List (Addr × List Row)} (h : LV H L kss) (e : Ex H H') : LV H' L kss := ⟨e _ _ h.at_, fun q hq => ⟨(h.rows q hq).1, (h.rows q hq).2.mono e⟩⟩
theorem LV.push {H : Hp} {L p : Addr} {kss : List (Addr × List Row)} {ks : List Row} (h : LV H L kss) (hp : LW H p ks) (n : p ≠ L) : LV (upd H L (.lst (kss.map (fun q => V.ref q.1) ++ [.ref p]))) L (kss ++ [(p, ks)]) := by
  have keep : ∀ {q : Addr} {js : List Row}, q ≠ L → LW H q js → LW (upd H L (.lst (kss.map (fun q => V.ref q.1) ++ [.ref p]))) q js := fun {q js} nq w => by
    refine ⟨by rw [upd_ne nq]; exact w.at_, fun r hr => ?_⟩
    rw [upd_ne (ne_lt h.at_ (w.rt r hr)).symm]
    exact w.rt r hr
  refine ⟨by rw [upd_same, List.map_append]; rfl, fun q hq => ?_⟩
  rcases List.mem_append.mp hq with hq | hq
  · exact ⟨(h.rows q hq).1, keep (h.rows q hq).1 (h.rows q hq).2⟩
  · rw [List.mem_singleton.mp hq]
    exact ⟨n, keep n hp⟩
theorem lv_last {g : Nat → List Wd} {kss : List (Addr × List Row)} {i : Nat} (e : kss.map (fun q => wds q.2) = (List.range (i + 1)).map g) : ∃ pre q, kss = pre ++ [q] ∧ wds q.2 = g i := by
  rcases List.eq_nil_or_concat kss with rfl | ⟨pre, q, rfl⟩
  · rw [List.range_succ, List.map_append] at e
    have := congrArg List.length e
    simp at this
  · rw [List.concat_eq_append, List.range_succ, List.map_append, List.map_append] at *
    have := List.append_inj_right' e rfl
    refine ⟨pre, q, rfl, ?_⟩
    simpa using this
theorem flat_take {f : Wd → List Wd} {l : List Wd} {j : Nat} {b : Wd} (h : l[j]? = some b) : (l.take (j + 1)).flatMap f = (l.take j).flatMap f ++ f b := by
  rw [List.take_add_one, h, List.flatMap_append]
  simp
theorem flat_len_take (f : Wd → List Wd) (l : List Wd) (j : Nat) : ((l.take j).flatMap f).length ≤ (l.flatMap f).length := by
  conv => rhs; rw [← List.take_append_drop j l]
  rw [List.flatMap_append, List.length_append]
  omega
/-- what the levels want of the words -/
def LevOk (f : Wd → List Wd) (w : Wd) (m : Nat) : Prop := ∀ k, k < m → (∀ x ∈ levM f w k, x.length ≤ 1000) ∧ ((levM f w k).flatMap f).length < 4096 ∧ NEW ((levM f w k).flatMap f)
def spLev (f : Wd → List Wd) : Sp := fun vs H Q _ => ∃ (a : Addr) (ns : List Int) (m : Nat), vs = [.ref a, .int (m : Nat)] ∧ H a = some (.tup (ns.map V.int)) ∧ m ≤ 1000 ∧ LevOk f ns m ∧
  ∀ p kss H', Ex H H' → LV H' p kss → kss.map (fun q => wds q.2) = (List.range (m + 1)).map (levM f ns) → Q (.ref p) H'
theorem c__law_swollen_levels (F : Facts K mg CP CB) : C8.Cal P w K mg base 2 "_law_swollen_levels" (spLev swollenW) [] := by
  obtain ⟨f, fd, D, b⟩ := F.d__law_swollen_levels
  have c__law_swollen := c__law_swollen (P := P) (w := w) (base := base) F
  refine C8.cal0 D b .nil sc__law_swollen_levels (fun vs H Q E h => ?_) (fun cdv A outer s H vs Q E hr h => ?_)
  · obtain ⟨a, ns, m, rfl, _⟩ := h
    rfl
  · obtain ⟨a, ns, m, rfl, ha, hm, ok, k⟩ := h
    refine ⟨_, (pss_cons (ps_set (i := 2) sc__law_swollen_levels.nd rfl (Or.inl rfl) (pe_lst (pa_cons (pe_lst (pa_cons (pv 0) pa_nil)) pa_nil)))
  (pss_cons (ps_for PassesOwn.never rfl (pi_range1 (by rfl) F.n_range (pa_cons (pv 1) pa_nil)) (pg_name (i := 3) sc__law_swollen_levels.nd rfl (Or.inl rfl))
    (pss_cons (ps_set (i := 4) sc__law_swollen_levels.nd rfl (Or.inl rfl) (pe_lst pa_nil))
  (pss_cons (ps_for PassesOwn.never rfl (pi_listK (K := K) rfl (pe_ix (ix_listK (K := K) rfl) (pv 2) (pe_un un_neg pe_int) (fun _ _ => rfl))) (pg_name (i := 5) sc__law_swollen_levels.nd rfl (Or.inl rfl))
    (pss_one (ps_set (i := 4) sc__law_swollen_levels.nd rfl (Or.inl rfl) (pe_op op_cat (pv 4) (C8.pe_c c__law_swollen hr (by decide) (by rfl) (pa_cons (pv 5) pa_nil))))))
  (pss_one (ps_expr (pe_bm PySem.F.plainAttrs_list PySem.F.slot_list_append PySem.F.type_list_append mt_append (pv 2) (pa_cons (pe_callB (cr_sortSK (K := K) (P := P) (w := w) rfl rfl rfl rfl) (by rfl) F.n_sorted (by decide +kernel) (pa_cons (pe_callTy (cr_setK (K := K) (P := P) (w := w) rfl rfl rfl rfl (hu64 hr)) (by rfl) F.n_set (by decide +kernel) (pa_cons (pv 4) pa_nil)) pa_nil)) pa_nil)))))))
  (pss_one (ps_ret (pv 2))))), ?_⟩
    refine ⟨_, rfl, (by decide : 1 ≤ sizeLine), fun l0 hl0 => ⟨(by decide : 1 ≤ sizeLine), fun L hL => ?_⟩⟩
    have e0 : Ex H (upd H l0 (.lst [.ref a])) := Ex.new hl0
    have e1 := e0.trans (Ex.new (o := .lst [.ref l0]) hL)
    have hL0 : H L = none := fresh_back e0 hL
    refine ⟨_, rfl, _, rfl, by omega, by omega, ?_⟩
    rw [Int.toNat_natCast]
    refine for_range (lo := 0) (n := m) (fun i σ H' => ∃ kss x y z, σ = [some (.ref a), some (.int (m : Nat)), some (.ref L), x, y, z] ∧ Ex H H' ∧ LV H' L kss ∧ kss.map (fun q => wds q.2) = (List.range (i + 1)).map (levM swollenW ns)) ⟨[(l0, [(a, ns)])], none, none, none, rfl, e1, ⟨upd_same, fun q hq => ?_⟩, rfl⟩ ?_ ?_
    · rw [List.mem_singleton.mp hq]
      exact ⟨ne_no upd_same hL, Ex.new hL _ _ upd_same, fun r hr => by rw [List.mem_singleton.mp hr]; exact e1 _ _ ha⟩
    · rintro i σ H1 hi ⟨kss, x, y, z, rfl, e2, lv, ek⟩
      obtain ⟨pre, q, rfl, eq⟩ := lv_last ek
      refine ⟨Nat.zero_le _, fun t ht => ?_⟩
      have e3 : Ex H1 _ := Ex.new (o := .lst []) ht
      have lv3 := lv.mono e3
      obtain ⟨hq1, hq2⟩ := lv3.rows q (by simp)
      obtain ⟨ok1, ok2, ok3⟩ := ok i hi
      have hat := lv3.at_
      rw [List.map_append] at hat
      refine ⟨_, rfl, 1, rfl, L, _, -1, V.ref q.1, rfl, rfl, SqL.of hat, atI_last _ _, q.1, rfl, ⟨_, SqL.of hq2.at_⟩, ?_⟩
      refine for_list (xs := refs q.2) (fun j σ H' => ∃ js t z, σ = [some (.ref a), some (.int (m : Nat)), some (.ref L), some (.int (0 + (i : Nat))), some (.ref t), z] ∧ Ex H1 H' ∧ LW H' t js ∧ wds js = ((wds q.2).take j).flatMap swollenW) ⟨[], t, z, rfl, e3, ⟨upd_same, RT.nil⟩, rfl⟩ (fun j σ H' _ ⟨_, _, _, _, e, _⟩ => SqL.of (e _ _ ((lv.rows q (by simp)).2.at_))) ?_ ?_
      · rintro j v σ H2 hv ⟨js, t, z, rfl, e4, h4, ej⟩
        have rt := ((lv.rows q (by simp)).2.rt.mono e4)
        obtain ⟨b, bs, rfl, hb0, hb⟩ := rt.at hv
        have hbw : (wds q.2)[j]? = some bs := by rw [List.getElem?_map, hb0]; rfl
        have hmem : bs ∈ levM swollenW ns i := by rw [← eq]; exact List.mem_of_getElem? hbw
        refine ⟨_, rfl, _, rfl, b, bs, rfl, hb, ok1 bs hmem, fun p ks H3 e5 h5 ek5 => ?_⟩
        have h4' := h4.mono e5
        have le : (wds js ++ wds ks).length ≤ ((levM swollenW ns i).flatMap swollenW).length := by
          rw [ej, ek5, ← flat_take hbw, eq]
          exact flat_len_take _ _ _
        rw [List.length_append, List.length_map, List.length_map] at le
        refine ⟨t, p, _, _, rfl, rfl, h4'.at_, h5.at_, ?_, fun u hu => ⟨js ++ ks, u, _, rfl, (e4.trans e5).trans (Ex.new hu), ⟨?_, ?_⟩, ?_⟩⟩
        · rw [List.length_map, List.length_map]; exact sz_of (by omega)
        · rw [upd_same]; unfold refs QT.refs; rw [List.map_append]
        · exact (h4'.rt.mono (Ex.new hu)).app (h5.rt.mono (Ex.new hu))
        · show List.map (fun q : Row => q.2) (js ++ ks) = _
          rw [List.map_append, show js.map (fun q : Row => q.2) = wds js from rfl, show ks.map (fun q : Row => q.2) = wds ks from rfl, ej, ek5, flat_take hbw]
      · rintro σ H2 ⟨js, t, z, rfl, e4, h4, ej⟩
        have ll : (refs q.2).length = (wds q.2).length := by rw [List.length_map, List.length_map]
        rw [ll, List.take_length, eq] at ej
        refine ⟨_, rfl, .inl ⟨rfl, _, SqL.of (e4 _ _ lv.at_)⟩, _, rfl, ?_⟩
        dsimp only [tNil]
        refine sortSet_of h4 ?_ ?_ fun p ks' H3 e5 hp h5 es => ?_
        · have : js.length = (wds js).length := by rw [List.length_map]
          rw [this, ej]; exact ok2
        · rw [ej]; exact ok3
        have lv5 := (lv.mono e4).mono e5
        have pL : p ≠ L := Ne.symm (ne_no (e4 _ _ lv.at_) hp)
        have lk : (pre ++ [q]).length = i + 1 := by
          have := congrArg List.length ek
          simpa using this
        refine ⟨L, _, _, rfl, rfl, lv5.at_, ?_, pre ++ [q] ++ [(p, ks')], _, _, _, rfl, Ex.mut ((e2.trans e4).trans e5) hL0, lv5.push h5 pL, ?_⟩
        · rw [List.length_map, lk]; exact sz_lt (by omega)
        · rw [List.map_append, ek, List.range_succ (n := i + 1), List.map_append]
          show _ ++ [wds ks'] = _ ++ [levM swollenW ns (i + 1)]
          rw [es, ej]; rfl
    · rintro σ H1 ⟨kss, x, y, z, rfl, e2, lv, ek⟩
      exact ⟨_, rfl, k L kss H1 e2 lv ek⟩
theorem c__law_shrunk_levels (F : Facts K mg CP CB) : C8.Cal P w K mg base 2 "_law_shrunk_levels" (spLev shrunkW) [] := by
  obtain ⟨f, fd, D, b⟩ := F.d__law_shrunk_levels
  have c__law_shrunk := c__law_shrunk (P := P) (w := w) (base := base) F
  refine C8.cal0 D b .nil sc__law_shrunk_levels (fun vs H Q E h => ?_) (fun cdv A outer s H vs Q E hr h => ?_)
  · obtain ⟨a, ns, m, rfl, _⟩ := h
    rfl
  · obtain ⟨a, ns, m, rfl, ha, hm, ok, k⟩ := h
    refine ⟨_, (pss_cons (ps_set (i := 2) sc__law_shrunk_levels.nd rfl (Or.inl rfl) (pe_lst (pa_cons (pe_lst (pa_cons (pv 0) pa_nil)) pa_nil)))
  (pss_cons (ps_for PassesOwn.never rfl (pi_range1 (by rfl) F.n_range (pa_cons (pv 1) pa_nil)) (pg_name (i := 3) sc__law_shrunk_levels.nd rfl (Or.inl rfl))
    (pss_cons (ps_set (i := 4) sc__law_shrunk_levels.nd rfl (Or.inl rfl) (pe_lst pa_nil))
  (pss_cons (ps_for PassesOwn.never rfl (pi_listK (K := K) rfl (pe_ix (ix_listK (K := K) rfl) (pv 2) (pe_un un_neg pe_int) (fun _ _ => rfl))) (pg_name (i := 5) sc__law_shrunk_levels.nd rfl (Or.inl rfl))
    (pss_one (ps_set (i := 4) sc__law_shrunk_levels.nd rfl (Or.inl rfl) (pe_op op_cat (pv 4) (C8.pe_c c__law_shrunk hr (by decide) (by rfl) (pa_cons (pv 5) pa_nil))))))
  (pss_one (ps_expr (pe_bm PySem.F.plainAttrs_list PySem.F.slot_list_append PySem.F.type_list_append mt_append (pv 2) (pa_cons (pe_callB (cr_sortSK (K := K) (P := P) (w := w) rfl rfl rfl rfl) (by rfl) F.n_sorted (by decide +kernel) (pa_cons (pe_callTy (cr_setK (K := K) (P := P) (w := w) rfl rfl rfl rfl (hu64 hr)) (by rfl) F.n_set (by decide +kernel) (pa_cons (pv 4) pa_nil)) pa_nil)) pa_nil)))))))
  (pss_one (ps_ret (pv 2))))), ?_⟩
    refine ⟨_, rfl, (by decide : 1 ≤ sizeLine), fun l0 hl0 => ⟨(by decide : 1 ≤ sizeLine), fun L hL => ?_⟩⟩
    have e0 : Ex H (upd H l0 (.lst [.ref a])) := Ex.new hl0
    have e1 := e0.trans (Ex.new (o := .lst [.ref l0]) hL)
    have hL0 : H L = none := fresh_back e0 hL
    refine ⟨_, rfl, _, rfl, by omega, by omega, ?_⟩
    rw [Int.toNat_natCast]
    refine for_range (lo := 0) (n := m) (fun i σ H' => ∃ kss x y z, σ = [some (.ref a), some (.int (m : Nat)), some (.ref L), x, y, z] ∧ Ex H H' ∧ LV H' L kss ∧ kss.map (fun q => wds q.2) = (List.range (i + 1)).map (levM shrunkW ns)) ⟨[(l0, [(a, ns)])], none, none, none, rfl, e1, ⟨upd_same, fun q hq => ?_⟩, rfl⟩ ?_ ?_
    · rw [List.mem_singleton.mp hq]
      exact ⟨ne_no upd_same hL, Ex.new hL _ _ upd_same, fun r hr => by rw [List.mem_singleton.mp hr]; exact e1 _ _ ha⟩
    · rintro i σ H1 hi ⟨kss, x, y, z, rfl, e2, lv, ek⟩
      obtain ⟨pre, q, rfl, eq⟩ := lv_last ek
      refine ⟨Nat.zero_le _, fun t ht => ?_⟩
      have e3 : Ex H1 _ := Ex.new (o := .lst []) ht
      have lv3 := lv.mono e3
      obtain ⟨hq1, hq2⟩ := lv3.rows q (by simp)
      obtain ⟨ok1, ok2, ok3⟩ := ok i hi
      have hat := lv3.at_
      rw [List.map_append] at hat
      refine ⟨_, rfl, 1, rfl, L, _, -1, V.ref q.1, rfl, rfl, SqL.of hat, atI_last _ _, q.1, rfl, ⟨_, SqL.of hq2.at_⟩, ?_⟩
      refine for_list (xs := refs q.2) (fun j σ H' => ∃ js t z, σ = [some (.ref a), some (.int (m : Nat)), some (.ref L), some (.int (0 + (i : Nat))), some (.ref t), z] ∧ Ex H1 H' ∧ LW H' t js ∧ wds js = ((wds q.2).take j).flatMap shrunkW) ⟨[], t, z, rfl, e3, ⟨upd_same, RT.nil⟩, rfl⟩ (fun j σ H' _ ⟨_, _, _, _, e, _⟩ => SqL.of (e _ _ ((lv.rows q (by simp)).2.at_))) ?_ ?_
      · rintro j v σ H2 hv ⟨js, t, z, rfl, e4, h4, ej⟩
        have rt := ((lv.rows q (by simp)).2.rt.mono e4)
        obtain ⟨b, bs, rfl, hb0, hb⟩ := rt.at hv
        have hbw : (wds q.2)[j]? = some bs := by rw [List.getElem?_map, hb0]; rfl
        have hmem : bs ∈ levM shrunkW ns i := by rw [← eq]; exact List.mem_of_getElem? hbw
        refine ⟨_, rfl, _, rfl, b, bs, rfl, hb, ok1 bs hmem, fun p ks H3 e5 h5 ek5 => ?_⟩
        have h4' := h4.mono e5
        have le : (wds js ++ wds ks).length ≤ ((levM shrunkW ns i).flatMap shrunkW).length := by
          rw [ej, ek5, ← flat_take hbw, eq]
          exact flat_len_take _ _ _
        rw [List.length_append, List.length_map, List.length_map] at le
        refine ⟨t, p, _, _, rfl, rfl, h4'.at_, h5.at_, ?_, fun u hu => ⟨js ++ ks, u, _, rfl, (e4.trans e5).trans (Ex.new hu), ⟨?_, ?_⟩, ?_⟩⟩
        · rw [List.length_map, List.length_map]; exact sz_of (by omega)
        · rw [upd_same]; unfold refs QT.refs; rw [List.map_append]
        · exact (h4'.rt.mono (Ex.new hu)).app (h5.rt.mono (Ex.new hu))
        · show List.map (fun q : Row => q.2) (js ++ ks) = _
          rw [List.map_append, show js.map (fun q : Row => q.2) = wds js from rfl, show ks.map (fun q : Row => q.2) = wds ks from rfl, ej, ek5, flat_take hbw]
      · rintro σ H2 ⟨js, t, z, rfl, e4, h4, ej⟩
        have ll : (refs q.2).length = (wds q.2).length := by rw [List.length_map, List.length_map]
        rw [ll, List.take_length, eq] at ej
        refine ⟨_, rfl, .inl ⟨rfl, _, SqL.of (e4 _ _ lv.at_)⟩, _, rfl, ?_⟩
        dsimp only [tNil]
        refine sortSet_of h4 ?_ ?_ fun p ks' H3 e5 hp h5 es => ?_
        · have : js.length = (wds js).length := by rw [List.length_map]
          rw [this, ej]; exact ok2
        · rw [ej]; exact ok3
        have lv5 := (lv.mono e4).mono e5
        have pL : p ≠ L := Ne.symm (ne_no (e4 _ _ lv.at_) hp)
        have lk : (pre ++ [q]).length = i + 1 := by
          have := congrArg List.length ek
          simpa using this
        refine ⟨L, _, _, rfl, rfl, lv5.at_, ?_, pre ++ [q] ++ [(p, ks')], _, _, _, rfl, Ex.mut ((e2.trans e4).trans e5) hL0, lv5.push h5 pL, ?_⟩
        · rw [List.length_map, lk]; exact sz_lt (by omega)
        · rw [List.map_append, ek, List.range_succ (n := i + 1), List.map_append]
          show _ ++ [wds ks'] = _ ++ [levM shrunkW ns (i + 1)]
          rw [es, ej]; rfl
    · rintro σ H1 ⟨kss, x, y, z, rfl, e2, lv, ek⟩
      exact ⟨_, rfl, k L kss H1 e2 lv ek⟩

def MixOk (w : Wd) (m : Nat) : Prop := ∀ k, k < m → (∀ x ∈ mixM w k, x.length ≤ 1000) ∧ (mixStep (mixM w k)).length < 4096 ∧ NEW (mixStep (mixM w k))
def spMix : Sp := fun vs H Q _ => ∃ (a : Addr) (ns : List Int) (m : Nat), vs = [.ref a, .int (m : Nat)] ∧ H a = some (.tup (ns.map V.int)) ∧ m ≤ 1000 ∧ MixOk ns m ∧
  ∀ p kss H', Ex H H' → LV H' p kss → (∀ q ∈ kss, H q.1 = none) → kss.map (fun q => wds q.2) = (List.range (m + 1)).map (mixM ns) → Q (.ref p) H'
theorem c__law_mixed_levels (F : Facts K mg CP CB) : C8.Cal P w K mg base 2 "_law_mixed_levels" spMix [] := by
  obtain ⟨f, fd, D, b⟩ := F.d__law_mixed_levels
  have c__law_swollen := c__law_swollen (P := P) (w := w) (base := base) F
  have c__law_shrunk := c__law_shrunk (P := P) (w := w) (base := base) F
  refine C8.cal0 D b .nil sc__law_mixed_levels (fun vs H Q E h => ?_) (fun cdv A outer s H vs Q E hr h => ?_)
  · obtain ⟨a, ns, m, rfl, _⟩ := h
    rfl
  · obtain ⟨a, ns, m, rfl, ha, hm, ok, k⟩ := h
    refine ⟨_, (pss_cons (ps_set (i := 2) sc__law_mixed_levels.nd rfl (Or.inl rfl) (pe_lst (pa_cons (pe_lst (pa_cons (pv 0) pa_nil)) pa_nil)))
  (pss_cons (ps_for PassesOwn.never rfl (pi_range1 (by rfl) F.n_range (pa_cons (pv 1) pa_nil)) (pg_name (i := 3) sc__law_mixed_levels.nd rfl (Or.inl rfl))
    (pss_cons (ps_set (i := 4) sc__law_mixed_levels.nd rfl (Or.inl rfl) (pe_callTy (cr_listK (K := K) rfl) (by rfl) F.n_list (by decide +kernel) (pa_cons (pe_ix (ix_listK (K := K) rfl) (pv 2) (pe_un un_neg pe_int) (fun _ _ => rfl)) pa_nil)))
  (pss_cons (ps_for PassesOwn.never rfl (pi_listK (K := K) rfl (pe_ix (ix_listK (K := K) rfl) (pv 2) (pe_un un_neg pe_int) (fun _ _ => rfl))) (pg_name (i := 5) sc__law_mixed_levels.nd rfl (Or.inl rfl))
    (pss_one (ps_set (i := 4) sc__law_mixed_levels.nd rfl (Or.inl rfl) (pe_op op_cat (pe_op op_cat (pv 4) (C8.pe_c c__law_swollen hr (by decide) (by rfl) (pa_cons (pv 5) pa_nil))) (C8.pe_c c__law_shrunk hr (by decide) (by rfl) (pa_cons (pv 5) pa_nil))))))
  (pss_one (ps_expr (pe_bm PySem.F.plainAttrs_list PySem.F.slot_list_append PySem.F.type_list_append mt_append (pv 2) (pa_cons (pe_callB (cr_sortSK (K := K) (P := P) (w := w) rfl rfl rfl rfl) (by rfl) F.n_sorted (by decide +kernel) (pa_cons (pe_callTy (cr_setK (K := K) (P := P) (w := w) rfl rfl rfl rfl (hu64 hr)) (by rfl) F.n_set (by decide +kernel) (pa_cons (pv 4) pa_nil)) pa_nil)) pa_nil)))))))
  (pss_one (ps_ret (pv 2))))), ?_⟩
    refine ⟨_, rfl, (by decide : 1 ≤ sizeLine), fun l0 hl0 => ⟨(by decide : 1 ≤ sizeLine), fun L hL => ?_⟩⟩
    have e0 : Ex H (upd H l0 (.lst [.ref a])) := Ex.new hl0
    have e1 := e0.trans (Ex.new (o := .lst [.ref l0]) hL)
    have hL0 : H L = none := fresh_back e0 hL
    refine ⟨_, rfl, _, rfl, by omega, by omega, ?_⟩
    rw [Int.toNat_natCast]
    refine for_range (lo := 0) (n := m) (fun i σ H' => ∃ kss x y z, σ = [some (.ref a), some (.int (m : Nat)), some (.ref L), x, y, z] ∧ Ex H H' ∧ LV H' L kss ∧ (∀ q ∈ kss, H q.1 = none) ∧ kss.map (fun q => wds q.2) = (List.range (i + 1)).map (mixM ns)) ⟨[(l0, [(a, ns)])], none, none, none, rfl, e1, ⟨upd_same, fun q hq => ?_⟩, fun q hq => by rw [List.mem_singleton.mp hq]; exact hl0, rfl⟩ ?_ ?_
    · rw [List.mem_singleton.mp hq]
      exact ⟨ne_no upd_same hL, Ex.new hL _ _ upd_same, fun r hr => by rw [List.mem_singleton.mp hr]; exact e1 _ _ ha⟩
    · rintro i σ H1 hi ⟨kss, x, y, z, rfl, e2, lv, fr, ek⟩
      obtain ⟨pre, q, rfl, eq⟩ := lv_last ek
      obtain ⟨hq1, hq0⟩ := lv.rows q (by simp)
      obtain ⟨ok1, ok2, ok3⟩ := ok i hi
      have hat0 := lv.at_
      rw [List.map_append] at hat0
      refine ⟨_, rfl, 1, rfl, L, _, -1, V.ref q.1, rfl, rfl, SqL.of hat0, atI_last _ _, q.1, _, rfl, .inl (SqL.of hq0.at_), fun t ht => ?_⟩
      have e3 : Ex H1 _ := Ex.new (o := .lst (refs q.2)) ht
      have lv3 := lv.mono e3
      have hq2 := hq0.mono e3
      have hat := lv3.at_
      rw [List.map_append] at hat
      refine ⟨_, rfl, 1, rfl, L, _, -1, V.ref q.1, rfl, rfl, SqL.of hat, atI_last _ _, q.1, rfl, ⟨_, SqL.of hq2.at_⟩, ?_⟩
      refine for_list (xs := refs q.2) (fun j σ H' => ∃ js t z, σ = [some (.ref a), some (.int (m : Nat)), some (.ref L), some (.int (0 + (i : Nat))), some (.ref t), z] ∧ Ex H1 H' ∧ LW H' t js ∧ wds js = mixM ns i ++ ((wds q.2).take j).flatMap fun x => swollenW x ++ shrunkW x) ⟨q.2, t, z, rfl, e3, ⟨upd_same, hq2.rt⟩, by rw [List.take_zero]; simpa using eq⟩ (fun j σ H' _ ⟨_, _, _, _, e, _⟩ => SqL.of (e _ _ ((lv.rows q (by simp)).2.at_))) ?_ ?_
      · rintro j v σ H2 hv ⟨js, t, z, rfl, e4, h4, ej⟩
        have rt := ((lv.rows q (by simp)).2.rt.mono e4)
        obtain ⟨b, bs, rfl, hb0, hb⟩ := rt.at hv
        have hbw : (wds q.2)[j]? = some bs := by rw [List.getElem?_map, hb0]; rfl
        have hmem : bs ∈ mixM ns i := by rw [← eq]; exact List.mem_of_getElem? hbw
        refine ⟨_, rfl, _, rfl, b, bs, rfl, hb, ok1 bs hmem, fun p ks H3 e5 h5 ek5 => ?_⟩
        have h4' := h4.mono e5
        have le : (wds js ++ (swollenW bs ++ shrunkW bs)).length ≤ (mixStep (mixM ns i)).length := by
          rw [ej, List.append_assoc, ← flat_take (f := fun x => swollenW x ++ shrunkW x) hbw, eq]
          unfold mixStep
          rw [List.length_append, List.length_append]
          have := flat_len_take (fun x => swollenW x ++ shrunkW x) (mixM ns i) (j + 1)
          omega
        rw [List.length_append, List.length_append, List.length_map] at le
        have lk5 : ks.length = (swollenW bs).length := by rw [← ek5, List.length_map]
        refine ⟨t, p, _, _, rfl, rfl, h4'.at_, h5.at_, ?_, fun u hu => ?_⟩
        · rw [List.length_map, List.length_map]; exact sz_of (by omega)
        have h6 : LW (upd H3 u (.lst (refs js ++ refs ks))) u (js ++ ks) := ⟨by rw [upd_same]; unfold refs QT.refs; rw [List.map_append], (h4'.rt.mono (Ex.new hu)).app (h5.rt.mono (Ex.new hu))⟩
        have e6 := (e4.trans e5).trans (Ex.new (o := .lst (refs js ++ refs ks)) hu)
        have hb' := ((lv.rows q (by simp)).2.rt.mono e6) (b, bs) (List.mem_of_getElem? hb0)
        refine ⟨_, rfl, b, bs, rfl, hb', ok1 bs hmem, fun p2 ks2 H4 e7 h7 ek7 => ?_⟩
        have h6' := h6.mono e7
        have lk7 : ks2.length = (shrunkW bs).length := by rw [← ek7, List.length_map]
        refine ⟨u, p2, _, _, rfl, rfl, h6'.at_, h7.at_, ?_, fun v hv => ⟨js ++ ks ++ ks2, v, _, rfl, (e6.trans e7).trans (Ex.new hv), ⟨?_, ?_⟩, ?_⟩⟩
        · rw [List.length_map, List.length_map, List.length_append]; exact sz_of (by omega)
        · rw [upd_same]; unfold refs QT.refs; rw [List.map_append (l₁ := js ++ ks)]
        · exact (h6'.rt.mono (Ex.new hv)).app (h7.rt.mono (Ex.new hv))
        · show List.map (fun q : Row => q.2) (js ++ ks ++ ks2) = _
          rw [List.map_append, List.map_append, show js.map (fun q : Row => q.2) = wds js from rfl, show ks.map (fun q : Row => q.2) = wds ks from rfl, show ks2.map (fun q : Row => q.2) = wds ks2 from rfl, ej, ek5, ek7, flat_take (f := fun x => swollenW x ++ shrunkW x) hbw, List.append_assoc, List.append_assoc]
      · rintro σ H2 ⟨js, t, z, rfl, e4, h4, ej⟩
        have ll : (refs q.2).length = (wds q.2).length := by rw [List.length_map, List.length_map]
        rw [ll, List.take_length, eq] at ej
        have ej : wds js = mixStep (mixM ns i) := ej
        refine ⟨_, rfl, .inl ⟨rfl, _, SqL.of (e4 _ _ lv.at_)⟩, _, rfl, ?_⟩
        dsimp only [tNil]
        refine sortSet_of h4 ?_ ?_ fun p ks' H3 e5 hp h5 es => ?_
        · have : js.length = (wds js).length := by rw [List.length_map]
          rw [this, ej]; exact ok2
        · rw [ej]; exact ok3
        have lv5 := (lv.mono e4).mono e5
        have pL : p ≠ L := Ne.symm (ne_no (e4 _ _ lv.at_) hp)
        have lk : (pre ++ [q]).length = i + 1 := by
          have := congrArg List.length ek
          simpa using this
        refine ⟨L, _, _, rfl, rfl, lv5.at_, ?_, pre ++ [q] ++ [(p, ks')], _, _, _, rfl, Ex.mut ((e2.trans e4).trans e5) hL0, lv5.push h5 pL, fun r hr => ?_, ?_⟩
        · rw [List.length_map, lk]; exact sz_lt (by omega)
        · rcases List.mem_append.mp hr with hr | hr
          · exact fr r hr
          · rw [List.mem_singleton.mp hr]; exact fresh_back (e2.trans e4) hp
        · rw [List.map_append, ek, List.range_succ (n := i + 1), List.map_append]
          show _ ++ [wds ks'] = _ ++ [mixM ns (i + 1)]
          rw [es, ej]; rfl
    · rintro σ H1 ⟨kss, x, y, z, rfl, e2, lv, fr, ek⟩
      exact ⟨_, rfl, k L kss H1 e2 lv fr ek⟩
end
end LP
end

section
set_option Elab.async false
set_option linter.all false
set_option maxRecDepth 100000
set_option maxHeartbeats 4000000
namespace LP
open PySem L2 PyProof.Rows PySem.Spec Evl MR
section
variable {P : Program} {w : World} {K : PySem.W.Frag} {mg : Str → Option Value} {base : Heap} {CP CB : Addr}
theorem map_take_succ {α β : Type} (f : α → List β) {l : List α} {j : Nat} {b : α} (h : l[j]? = some b) : (l.take (j + 1)).flatMap f = (l.take j).flatMap f ++ f b := by
  rw [List.take_add_one, h, List.flatMap_append]
  simp
theorem flat_le {α β : Type} (f : α → List β) (l : List α) (j : Nat) : ((l.take j).flatMap f).length ≤ (l.flatMap f).length := by
  conv => rhs; rw [← List.take_append_drop j l]
  rw [List.flatMap_append, List.length_append]
  omega
def spUnited : Sp := fun vs H Q _ => ∃ (a : Addr) (kss : List (Addr × List Row)), vs = [.ref a] ∧ LV H a kss ∧ (kss.flatMap fun q => wds q.2).length ≤ 50000 ∧
  ∀ p ks H', Ex H H' → H p = none → LW H' p ks → wds ks = (kss.flatMap fun q => wds q.2) → Q (.ref p) H'
theorem c__law_united (F : Facts K mg CP CB) : C8.Cal P w K mg base 1 "_law_united" spUnited [] := by
  obtain ⟨f, fd, D, b⟩ := F.d__law_united
  refine C8.cal0 D b .nil sc__law_united (fun vs H Q E h => ?_) (fun cdv A outer s H vs Q E hr h => ?_)
  · obtain ⟨a, kss, rfl, _⟩ := h
    rfl
  · obtain ⟨a, kss, rfl, lv, hz, k⟩ := h
    refine ⟨_, (pss_cons (ps_set (i := 1) sc__law_united.nd rfl (Or.inl rfl) (pe_lst pa_nil))
  (pss_cons (ps_for PassesOwn.never rfl (pi_listK (K := K) rfl (pv 0)) (pg_name (i := 2) sc__law_united.nd rfl (Or.inl rfl))
    (pss_one (ps_set (i := 1) sc__law_united.nd rfl (Or.inl rfl) (pe_op op_cat (pv 1) (pv 2)))))
  (pss_one (ps_ret (pv 1))))), ?_⟩
    refine ⟨Nat.zero_le _, fun t ht => ?_⟩
    have e0 : Ex H _ := Ex.new (o := .lst []) ht
    refine ⟨_, rfl, a, rfl, ⟨_, SqL.of (e0 _ _ lv.at_)⟩, ?_⟩
    refine for_list (fun i σ H' => ∃ ks t z, σ = [some (.ref a), some (.ref t), z] ∧ Ex H H' ∧ H t = none ∧ LW H' t ks ∧ wds ks = (kss.take i).flatMap fun q => wds q.2) ⟨[], t, none, rfl, e0, ht, ⟨upd_same, RT.nil⟩, rfl⟩ (fun i σ H' _ ⟨_, _, _, _, e, _⟩ => SqL.of (e _ _ lv.at_)) ?_ ?_
    · rintro i v σ H1 hi ⟨ks, t, z, rfl, e1, t0, h1, ek⟩
      obtain ⟨q, rfl, hq⟩ := map_at hi
      have hm := List.mem_of_getElem? hq
      have h2 := ((lv.rows q hm).2).mono e1
      have le := flat_le (fun q : Addr × List Row => wds q.2) kss (i + 1)
      rw [map_take_succ _ hq, List.length_append, ← ek, List.length_map, List.length_map] at le
      refine ⟨_, rfl, _, rfl, t, q.1, _, _, rfl, rfl, h1.at_, h2.at_, ?_, fun u hu => ⟨ks ++ q.2, u, _, rfl, e1.trans (Ex.new hu), fresh_back e1 hu, ⟨?_, ?_⟩, ?_⟩⟩
      · rw [List.length_map, List.length_map]; exact sz_of (by omega)
      · rw [upd_same]; unfold refs QT.refs; rw [List.map_append]
      · exact (h1.rt.mono (Ex.new hu)).app (h2.rt.mono (Ex.new hu))
      · show List.map (fun q : Row => q.2) (ks ++ q.2) = _
        rw [List.map_append, map_take_succ _ hq, ← ek]
    · rintro σ H1 ⟨ks, t, z, rfl, e1, t0, h1, ek⟩
      rw [List.length_map, List.take_length] at ek
      exact ⟨_, rfl, k t ks H1 e1 t0 h1 ek⟩
def spUnlike : Sp := fun vs H Q _ => ∃ (a : Addr) (kss : List (Addr × List Row)), vs = [.ref a] ∧ LV H a kss ∧ (∀ q ∈ kss, NEW (wds q.2) ∧ q.2.length < 4096) ∧ (kss.flatMap fun q => sortU (wds q.2)).length < 4096 ∧
  ∀ H', Ex H H' → Q (.bl (decide (kss.flatMap fun q => sortU (wds q.2)).Nodup)) H'
theorem c__law_unlike_all (F : Facts K mg CP CB) : C8.Cal P w K mg base 1 "_law_unlike_all" spUnlike [] := by
  obtain ⟨f, fd, D, b⟩ := F.d__law_unlike_all
  refine C8.cal0 D b .nil sc__law_unlike_all (fun vs H Q E h => ?_) (fun cdv A outer s H vs Q E hr h => ?_)
  · obtain ⟨a, kss, rfl, _⟩ := h
    rfl
  · obtain ⟨a, kss, rfl, lv, hok, hz, k⟩ := h
    refine ⟨_, (pss_cons (ps_set (i := 1) sc__law_unlike_all.nd rfl (Or.inl rfl) (pe_lst pa_nil))
  (pss_cons (ps_for PassesOwn.never rfl (pi_listK (K := K) rfl (pv 0)) (pg_name (i := 2) sc__law_unlike_all.nd rfl (Or.inl rfl))
    (pss_one (ps_set (i := 1) sc__law_unlike_all.nd rfl (Or.inl rfl) (pe_op op_cat (pv 1) (pe_callB (cr_sortSK (K := K) (P := P) (w := w) rfl rfl rfl rfl) (by rfl) F.n_sorted (by decide +kernel) (pa_cons (pe_callTy (cr_setK (K := K) (P := P) (w := w) rfl rfl rfl rfl (hu64 hr)) (by rfl) F.n_set (by decide +kernel) (pa_cons (pv 2) pa_nil)) pa_nil))))))
  (pss_one (ps_ret (pe_cmpR op_eq (pe_callB (cr_lenK (K := K) rfl) (by rfl) F.n_len PySem.boot_len (pa_cons (pv 1) pa_nil)) (pe_callB (cr_lenSK (P := P) (w := w) rfl rfl) (by rfl) F.n_len (by decide +kernel) (pa_cons (pe_callTy (cr_setK (K := K) (P := P) (w := w) rfl rfl rfl rfl (hu64 hr)) (by rfl) F.n_set (by decide +kernel) (pa_cons (pv 1) pa_nil)) pa_nil)) (nomark _)))))), ?_⟩
    refine ⟨Nat.zero_le _, fun t ht => ?_⟩
    have e0 : Ex H _ := Ex.new (o := .lst []) ht
    refine ⟨_, rfl, a, rfl, ⟨_, SqL.of (e0 _ _ lv.at_)⟩, ?_⟩
    refine for_list (fun i σ H' => ∃ ks t z, σ = [some (.ref a), some (.ref t), z] ∧ Ex H H' ∧ LW H' t ks ∧ wds ks = (kss.take i).flatMap fun q => sortU (wds q.2)) ⟨[], t, none, rfl, e0, ⟨upd_same, RT.nil⟩, rfl⟩ (fun i σ H' _ ⟨_, _, _, _, e, _⟩ => SqL.of (e _ _ lv.at_)) ?_ ?_
    · rintro i v σ H1 hi ⟨ks, t, z, rfl, e1, h1, ek⟩
      obtain ⟨q, rfl, hq⟩ := map_at hi
      have hm := List.mem_of_getElem? hq
      have h2 := ((lv.rows q hm).2).mono e1
      obtain ⟨ok1, ok2⟩ := hok q hm
      have le := flat_le (fun q : Addr × List Row => sortU (wds q.2)) kss (i + 1)
      rw [map_take_succ _ hq, List.length_append, ← ek, List.length_map] at le
      refine ⟨_, rfl, _, rfl, ?_⟩
      dsimp only [tNil]
      refine sortSet_of h2 ok2 ok1 fun p ks' H3 e3 hp h3 es => ?_
      have h1' := h1.mono e3
      have lk : ks'.length = (sortU (wds q.2)).length := by rw [← es, List.length_map]
      refine ⟨t, p, _, _, rfl, rfl, h1'.at_, h3.at_, ?_, fun u hu => ⟨ks ++ ks', u, _, rfl, (e1.trans e3).trans (Ex.new hu), ⟨?_, ?_⟩, ?_⟩⟩
      · rw [List.length_map, List.length_map]; exact sz_of (by omega)
      · rw [upd_same]; unfold refs QT.refs; rw [List.map_append]
      · exact (h1'.rt.mono (Ex.new hu)).app (h3.rt.mono (Ex.new hu))
      · show List.map (fun q : Row => q.2) (ks ++ ks') = _
        rw [List.map_append, map_take_succ _ hq, ← ek, ← es]
    · rintro σ H1 ⟨ks, t, z, rfl, e1, h1, ek⟩
      rw [List.length_map, List.take_length] at ek
      have lk : ks.length = (kss.flatMap fun q => sortU (wds q.2)).length := by rw [← ek, List.length_map]
      refine ⟨_, rfl, t, _, rfl, .inl (SqL.of h1.at_), _, rfl, ?_⟩
      dsimp only [tNil]
      refine lenSet_of h1 (by omega) fun n H2 e2 hn => ⟨rfl, ?_⟩
      have := k H2 (e1.trans e2)
      rw [← ek] at this
      have e : decide (V.int ((refs ks).length : Nat) = V.int (n : Nat)) = decide (wds ks).Nodup := by
        have l2 : (refs ks).length = ks.length := List.length_map _
        by_cases h : (wds ks).Nodup
        · rw [decide_eq_true h]
          exact eqI_T (by rw [l2]; have := hn.mpr h; omega)
        · rw [decide_eq_false h]
          exact eqI_F fun z => h (hn.mp (by rw [l2] at z; omega))
      rw [e]
      exact this
/-- the three lists of lists -/
def swlM (m : Nat) (w : Wd) : List Wd := (List.range (m + 1)).flatMap (levM swollenW w)
def shrM (m : Nat) (w : Wd) : List Wd := (List.range (m + 1)).flatMap (levM shrunkW w)
def unlM (g : Wd → List Wd) (ws : List Wd) : Bool := decide (ws.flatMap fun w => sortU (g w)).Nodup
/-- what unlike_all wants of them -/
def UnlOk (g : Wd → List Wd) (ws : List Wd) : Prop := (∀ w ∈ ws, NEW (g w) ∧ (g w).length < 4096) ∧ (ws.flatMap fun w => sortU (g w)).length < 4096
def ThreeOk (ws : List Wd) (m : Nat) : Prop := (∀ w ∈ ws, LevOk swollenW w m ∧ LevOk shrunkW w m ∧ MixOk w m ∧ (swlM m w).length ≤ 50000 ∧ (shrM m w).length ≤ 50000) ∧ UnlOk (swlM m) ws ∧ UnlOk (shrM m) ws ∧ UnlOk (fun w => mixM w m) ws
def spThree : Sp := fun vs H Q _ => ∃ (a : Addr) (ks : List Row) (m : Nat), vs = [.ref a, .int (m : Nat)] ∧ LW H a ks ∧ ks.length ≤ 100 ∧ m ≤ 1000 ∧ ThreeOk (wds ks) m ∧
  ∀ p H', Ex H H' → H' p = some (.lst ([unlM (swlM m) (wds ks), unlM (shrM m) (wds ks), unlM (fun w => mixM w m) (wds ks)].map V.bl)) → Q (.ref p) H'
theorem LV.push0 {H H0 : Hp} {L p : Addr} {kss : List (Addr × List Row)} {ks : List Row} (h : LV H L kss) (hp : LW H p ks) (n : p ≠ L) : LV (upd H L (.lst (kss.map (fun q => V.ref q.1) ++ [.ref p]))) L (kss ++ [(p, ks)]) := h.push hp n
theorem lev_flat {g : Nat → List Wd} {kss : List (Addr × List Row)} {n : Nat} (e : kss.map (fun q => wds q.2) = (List.range n).map g) : kss.flatMap (fun q => wds q.2) = (List.range n).flatMap g := by
  rw [List.flatMap_def, e, ← List.flatMap_def]
theorem unl_flat {g : Wd → List Wd} {ks : List Row} {kss : List (Addr × List Row)} (e : kss.map (fun q => wds q.2) = (wds ks).map g) : (kss.flatMap fun q => sortU (wds q.2)) = (wds ks).flatMap fun w => sortU (g w) := by
  have h : kss.map (fun q => sortU (wds q.2)) = (wds ks).map (fun w => sortU (g w)) := by
    have := congrArg (List.map sortU) e
    rw [List.map_map, List.map_map] at this
    exact this
  rw [List.flatMap_def, h, ← List.flatMap_def]
theorem unl_mem {g : Wd → List Wd} {ks : List Row} {kss : List (Addr × List Row)} (e : kss.map (fun q => wds q.2) = (wds ks).map g) {q : Addr × List Row} (hq : q ∈ kss) : ∃ w ∈ wds ks, wds q.2 = g w := by
  have : wds q.2 ∈ kss.map (fun q => wds q.2) := List.mem_map.mpr ⟨q, hq, rfl⟩
  rw [e] at this
  obtain ⟨w, h1, h2⟩ := List.mem_map.mp this
  exact ⟨w, h1, h2.symm⟩
theorem unl_ok {g : Wd → List Wd} {ks : List Row} {kss : List (Addr × List Row)} (e : kss.map (fun q => wds q.2) = (wds ks).map g) (ok : UnlOk g (wds ks)) : (∀ q ∈ kss, NEW (wds q.2) ∧ q.2.length < 4096) ∧ (kss.flatMap fun q => sortU (wds q.2)).length < 4096 := by
  refine ⟨fun q hq => ?_, by rw [unl_flat e]; exact ok.2⟩
  obtain ⟨w, h1, h2⟩ := unl_mem e hq
  have h3 := ok.1 w h1
  have l : q.2.length = (wds q.2).length := by rw [List.length_map]
  rw [l, h2]
  exact h3
theorem c__law_three_ways (F : Facts K mg CP CB) : C8.Cal P w K mg base 3 "_law_three_ways" spThree [] := by
  obtain ⟨f, fd, D, b⟩ := F.d__law_three_ways
  have c__law_united := c__law_united (P := P) (w := w) (base := base) F
  have c__law_swollen_levels := c__law_swollen_levels (P := P) (w := w) (base := base) F
  have c__law_shrunk_levels := c__law_shrunk_levels (P := P) (w := w) (base := base) F
  have c__law_mixed_levels := c__law_mixed_levels (P := P) (w := w) (base := base) F
  have c__law_unlike_all := c__law_unlike_all (P := P) (w := w) (base := base) F
  refine C8.cal0 D b .nil sc__law_three_ways (fun vs H Q E h => ?_) (fun cdv A outer s H vs Q E hr h => ?_)
  · obtain ⟨a, ks, m, rfl, _⟩ := h
    rfl
  · obtain ⟨a, ks, m, rfl, lw, hk, hm, ⟨ok0, ok1, ok2, ok3⟩, k⟩ := h
    refine ⟨_, (pss_cons (ps_setLc (i := 2) (own := [("_law_word_here", 5)]) (g := (gName 5)) (tt := tYes) (by rfl) sc__law_three_ways.nd rfl rfl (sw_true rfl rfl rfl (by decide +kernel)) (pi_listK (K := K) rfl (pv 0)) (blkOk_by (own := [("_law_word_here", 5)]) (N := N__law_three_ways) (sc := (C8.fnScope st__law_three_ways)) (by decide +kernel)) (fun _ _ _ _ _ => (pg_name (i := 5) sc__law_three_ways.nd rfl (Or.inl rfl))) (fun _ _ _ _ _ => pts_nil) (fun _ _ _ _ _ => (C8.pe_c c__law_united hr (by decide) (by rfl) (pa_cons (C8.pe_c c__law_swollen_levels hr (by decide) (by rfl) (pa_cons (pv 5) (pa_cons (pv 1) pa_nil))) pa_nil))))
  (pss_cons (ps_setLc (i := 3) (own := [("_law_word_here", 5)]) (g := (gName 5)) (tt := tYes) (by rfl) sc__law_three_ways.nd rfl rfl (sw_true rfl rfl rfl (by decide +kernel)) (pi_listK (K := K) rfl (pv 0)) (blkOk_by (own := [("_law_word_here", 5)]) (N := N__law_three_ways) (sc := (C8.fnScope st__law_three_ways)) (by decide +kernel)) (fun _ _ _ _ _ => (pg_name (i := 5) sc__law_three_ways.nd rfl (Or.inl rfl))) (fun _ _ _ _ _ => pts_nil) (fun _ _ _ _ _ => (C8.pe_c c__law_united hr (by decide) (by rfl) (pa_cons (C8.pe_c c__law_shrunk_levels hr (by decide) (by rfl) (pa_cons (pv 5) (pa_cons (pv 1) pa_nil))) pa_nil))))
  (pss_cons (ps_setLc (i := 4) (own := [("_law_word_here", 5)]) (g := (gName 5)) (tt := tYes) (by rfl) sc__law_three_ways.nd rfl rfl (sw_true rfl rfl rfl (by decide +kernel)) (pi_listK (K := K) rfl (pv 0)) (blkOk_by (own := [("_law_word_here", 5)]) (N := N__law_three_ways) (sc := (C8.fnScope st__law_three_ways)) (by decide +kernel)) (fun _ _ _ _ _ => (pg_name (i := 5) sc__law_three_ways.nd rfl (Or.inl rfl))) (fun _ _ _ _ _ => pts_nil) (fun _ _ _ _ _ => (pe_ix (ix_listK (K := K) rfl) (C8.pe_c c__law_mixed_levels hr (by decide) (by rfl) (pa_cons (pv 5) (pa_cons (pv 1) pa_nil))) (pv 1) (fun _ _ => rfl))))
  (pss_one (ps_ret (pe_lst (pa_cons (C8.pe_c c__law_unlike_all hr (by decide) (by rfl) (pa_cons (pv 2) pa_nil)) (pa_cons (C8.pe_c c__law_unlike_all hr (by decide) (by rfl) (pa_cons (pv 3) pa_nil)) (pa_cons (C8.pe_c c__law_unlike_all hr (by decide) (by rfl) (pa_cons (pv 4) pa_nil)) pa_nil))))))))), ?_⟩
    have step : ∀ {g : Wd → List Wd} {d : Addr} {H0 H1 H2 : Hp} {i : Nat} {kss : List (Addr × List Row)} {p : Addr} {js : List Row} {r : Row}, ks[i]? = some r → Ex H H0 → H0 d = none → Ex H0 H1 → LV H1 d kss → kss.map (fun q => wds q.2) = ((wds ks).take i).map g → Ex H1 H2 → H1 p = none → LW H2 p js → wds js = g r.2 →
        ∃ acc, H2 d = some (.lst acc) ∧ acc.length < sizeLine ∧ ∃ kss', Ex H0 (upd H2 d (.lst (acc ++ [.ref p]))) ∧ LV (upd H2 d (.lst (acc ++ [.ref p]))) d kss' ∧ kss'.map (fun q => wds q.2) = ((wds ks).take (i + 1)).map g := by
      intro g d H0 H1 H2 i kss p js r hr0 e0 hd e1 lv ek e2 hp hj ej
      have il := (List.getElem?_eq_some_iff.mp hr0).1
      have lk : kss.length = i := by
        have := congrArg List.length ek
        rw [List.length_map, List.length_map, List.length_take, List.length_map] at this
        omega
      have hw : (wds ks)[i]? = some r.2 := by rw [List.getElem?_map, hr0]; rfl
      have pd : p ≠ d := Ne.symm (ne_no lv.at_ hp)
      refine ⟨_, e2 _ _ lv.at_, ?_, kss ++ [(p, js)], Ex.mut (e1.trans e2) hd, (lv.mono e2).push hj pd, ?_⟩
      · rw [List.length_map, lk]; exact sz_lt (by omega)
      · rw [List.map_append, ek, List.take_add_one, hw, List.map_append]
        show _ ++ [wds js] = _ ++ [g r.2]
        rw [ej]
    refine ⟨_, rfl, a, rfl, ⟨_, SqL.of lw.at_⟩, fun d hd => ?_⟩
    refine lc_list (xs := refs ks) (fun i H' => ∃ kss, Ex H H' ∧ LV H' d kss ∧ kss.map (fun q => wds q.2) = ((wds ks).take i).map (swlM m)) ⟨[], Ex.new hd, ⟨upd_same, fun q hq => nomatch hq⟩, rfl⟩ (fun i H' _ ⟨_, e, _⟩ => SqL.of (e _ _ lw.at_)) ?_ ?_
    · rintro i v H1 hi ⟨kss, e1, lv, ek⟩
      obtain ⟨b, bs, rfl, hr0, hb⟩ := (lw.rt.mono e1).at hi
      have hmem : bs ∈ wds ks := List.mem_map.mpr ⟨_, List.mem_of_getElem? hr0, rfl⟩
      obtain ⟨o1, o2, o3, o4, o5⟩ := ok0 bs hmem
      refine ⟨rfl, lcY ?_⟩
      refine ⟨_, rfl, _, rfl, b, bs, m, rfl, hb, hm, o1, fun p kss2 H2 e2 lv2 ek2 => ⟨p, kss2, rfl, lv2, ?_, fun u js H3 e3 hu hj ej => ?_⟩⟩
      · rw [lev_flat ek2]; exact o4
      · exact step hr0 (Ex.refl H) hd e1 lv ek (e2.trans e3) (fresh_back e2 hu) hj (by rw [ej, lev_flat ek2]; rfl)
    · rintro H1 ⟨kss, e1, lv, ek⟩
      have lr : (refs ks).length = (wds ks).length := by rw [List.length_map, List.length_map]
      rw [lr, List.take_length] at ek
      refine ⟨_, rfl, a, rfl, ⟨_, SqL.of (e1 _ _ lw.at_)⟩, fun d2 hd2 => ?_⟩
      refine lc_list (xs := refs ks) (fun i H' => ∃ kss, Ex H1 H' ∧ LV H' d2 kss ∧ kss.map (fun q => wds q.2) = ((wds ks).take i).map (shrM m)) ⟨[], Ex.new hd2, ⟨upd_same, fun q hq => nomatch hq⟩, rfl⟩ (fun i H' _ ⟨_, e, _⟩ => SqL.of (e _ _ (e1 _ _ lw.at_))) ?_ ?_
      · rintro i v H2 hi ⟨kss, e2, lv2, ek2⟩
        obtain ⟨b, bs, rfl, hr0, hb⟩ := (lw.rt.mono (e1.trans e2)).at hi
        have hmem : bs ∈ wds ks := List.mem_map.mpr ⟨_, List.mem_of_getElem? hr0, rfl⟩
        obtain ⟨o1, o2, o3, o4, o5⟩ := ok0 bs hmem
        refine ⟨rfl, lcY ?_⟩
        refine ⟨_, rfl, _, rfl, b, bs, m, rfl, hb, hm, o2, fun p kss3 H3 e3 lv3 ek3 => ⟨p, kss3, rfl, lv3, ?_, fun u js H4 e4 hu hj ej => ?_⟩⟩
        · rw [lev_flat ek3]; exact o5
        · exact step hr0 e1 hd2 e2 lv2 ek2 (e3.trans e4) (fresh_back e3 hu) hj (by rw [ej, lev_flat ek3]; rfl)
      · rintro H2 ⟨kss2, e2, lv2, ek2⟩
        rw [lr, List.take_length] at ek2
        have e12 := e1.trans e2
        refine ⟨_, rfl, a, rfl, ⟨_, SqL.of (e12 _ _ lw.at_)⟩, fun d3 hd3 => ?_⟩
        refine lc_list (xs := refs ks) (fun i H' => ∃ kss, Ex H2 H' ∧ LV H' d3 kss ∧ kss.map (fun q => wds q.2) = ((wds ks).take i).map (fun w => mixM w m)) ⟨[], Ex.new hd3, ⟨upd_same, fun q hq => nomatch hq⟩, rfl⟩ (fun i H' _ ⟨_, e, _⟩ => SqL.of (e _ _ (e12 _ _ lw.at_))) ?_ ?_
        · rintro i v H3 hi ⟨kss3, e3, lv3, ek3⟩
          obtain ⟨b, bs, rfl, hr0, hb⟩ := (lw.rt.mono (e12.trans e3)).at hi
          have hmem : bs ∈ wds ks := List.mem_map.mpr ⟨_, List.mem_of_getElem? hr0, rfl⟩
          obtain ⟨o1, o2, o3, o4, o5⟩ := ok0 bs hmem
          refine ⟨rfl, lcY ?_⟩
          refine ⟨_, rfl, _, rfl, b, bs, m, rfl, hb, hm, o3, fun p kss4 H4 e4 lv4 fr ek4 => ?_⟩
          obtain ⟨pre, q, rfl, eq⟩ := lv_last ek4
          have hat := lv4.at_
          rw [List.map_append] at hat
          have lp : pre.length = m := by
            have := congrArg List.length ek4
            rw [List.length_map, List.length_map, List.length_range, List.length_append, List.length_singleton] at this
            omega
          refine ⟨_, rfl, p, _, _, V.ref q.1, rfl, rfl, SqL.of hat, ?_, ?_⟩
          · rw [show (m : Int) = ((m : Nat) : Int) from rfl]
            refine atI_nat ?_
            rw [List.getElem?_append_right (by rw [List.length_map, lp]; exact Nat.le_refl _), List.length_map, lp, Nat.sub_self]
            rfl
          · exact step hr0 e12 hd3 e3 lv3 ek3 e4 (fr q (by simp)) (lv4.rows q (by simp)).2 eq
        · rintro H3 ⟨kss3, e3, lv3, ek3⟩
          rw [lr, List.take_length] at ek3
          have A1 := unl_ok ek ok1
          have A2 := unl_ok ek2 ok2
          have A3 := unl_ok ek3 ok3
          refine ⟨_, rfl, d, kss, rfl, lv.mono (e2.trans e3), A1.1, A1.2, fun H4 e4 => ⟨_, rfl, d2, kss2, rfl, (lv2.mono e3).mono e4, A2.1, A2.2, fun H5 e5 => ⟨_, rfl, d3, kss3, rfl, (lv3.mono e4).mono e5, A3.1, A3.2, fun H6 e6 => ⟨(by decide : 3 ≤ sizeLine), fun p hp => ?_⟩⟩⟩⟩
          rw [unl_flat ek, unl_flat ek2, unl_flat ek3]
          exact k p _ (((((e12.trans e3).trans e4).trans e5).trans e6).trans (Ex.new hp)) upd_same
end
end LP
end

section
set_option Elab.async false
set_option linter.all false
set_option maxRecDepth 100000
set_option maxHeartbeats 4000000
namespace LP
open PySem L2 PyProof.Rows PySem.Spec Evl MR
section
variable {P : Program} {w : World} {K : PySem.W.Frag} {mg : Str → Option Value} {base : Heap} {CP CB : Addr}
theorem any_dT (js : List Row) (x : Wd) : ((js.map fun p : Row => dT p.2).any fun z => PyData.eqv z (dT x)) = decide (x ∈ wds js) := by
  rw [List.any_map]
  induction js with
  | nil => simp [wds]
  | cons j js ih =>
    rw [List.any_cons, ih]
    show (PyData.eqv (dT j.2) (dT x) || _) = decide (x ∈ j.2 :: wds js)
    rw [eqv_dT]
    by_cases h : j.2 = x
    · simp [h]
    · have h' : ¬ x = j.2 := fun e => h e.symm
      simp [h, h']
theorem sh_rows (js : List Row) : Sh 2 (.list (js.map fun p : Row => dT p.2)) := sh_list fun d hd => by
  obtain ⟨p, _, rfl⟩ := List.mem_map.mp hd
  exact sh_dT _
def longerM (a b : Wd) (d : Nat) : List Wd := (levM swollenW a d).filter fun x => decide (x ∈ levM swollenW b d)
def shorterM (a b : Wd) (d : Nat) : List Wd := (levM shrunkW a d).filter fun x => decide (x ∈ levM shrunkW b d)
/-- the three places come ahead of these -/
def Ahead (i' j' d' i j d : Nat) : Prop := i' < i ∨ (i' = i ∧ (j' < j ∨ (j' = j ∧ d' < d)))
def NoLonger (ws : List Wd) (m i' j' d' : Nat) : Prop := ∀ a b, i' < j' → d' ≤ m → ws[i']? = some a → ws[j']? = some b → longerM a b d' = []
structure FCat (ws : List Wd) (m : Nat) (H' : Hp) (i j d : Nat) (a b : Wd) (v : V) : Prop where
  ij : i < j
  dm : d ≤ m
  ai : ws[i]? = some a
  bj : ws[j]? = some b
  ne : longerM a b d ≠ []
  pre : ∀ i' j' d', Ahead i' j' d' i j d → NoLonger ws m i' j' d'
  at_ : ∃ p x y lg sh ks js, v = .ref p ∧ H' p = some (.lst [.ref x, .ref y, .int (d : Nat), .ref lg, .ref sh]) ∧ H' x = some (.tup (a.map V.int)) ∧ H' y = some (.tup (b.map V.int)) ∧ LW H' lg ks ∧ wds ks = longerM a b d ∧ LW H' sh js ∧ wds js = shorterM a b d
def FC (ws : List Wd) (m : Nat) (v : V) (H' : Hp) : Prop := (v = .non ∧ ∀ i' j' d', NoLonger ws m i' j' d') ∨ ∃ i j d a b, FCat ws m H' i j d a b v
def FCok (ws : List Wd) (m : Nat) : Prop := ∀ w ∈ ws, LevOk swollenW w m ∧ LevOk shrunkW w m ∧ (∀ d, d ≤ m → (levM swollenW w d).length ≤ 40000 ∧ (levM shrunkW w d).length ≤ 40000)
def spFC : Sp := fun vs H Q _ => ∃ (a : Addr) (ks : List Row) (m : Nat), vs = [.ref a, .int (m : Nat)] ∧ LW H a ks ∧ ks.length ≤ 100 ∧ m ≤ 1000 ∧ FCok (wds ks) m ∧ ∀ v H', Ex H H' → FC (wds ks) m v H' → Q v H'
theorem lv_at {g : Nat → List Wd} {kss : List (Addr × List Row)} {n d : Nat} (e : kss.map (fun q => wds q.2) = (List.range (n + 1)).map g) (h : d ≤ n) : ∃ q, kss[d]? = some q ∧ wds q.2 = g d := by
  have l : kss.length = n + 1 := by
    have := congrArg List.length e
    simpa using this
  have hq : kss[d]? = some (kss[d]'(by omega)) := List.getElem?_eq_getElem (by omega)
  refine ⟨_, hq, ?_⟩
  have h1 : (kss.map (fun q => wds q.2))[d]? = some (wds (kss[d]'(by omega)).2) := by rw [List.getElem?_map, hq]; rfl
  rw [e, List.getElem?_map, List.getElem?_range (by omega)] at h1
  exact (Option.some.inj h1).symm
theorem LevOk.mono {f : Wd → List Wd} {w : Wd} {m d : Nat} (h : LevOk f w m) (hd : d ≤ m) : LevOk f w d := fun k hk => h k (by omega)
theorem c__law_first_couple (F : Facts K mg CP CB) : C8.Cal P w K mg base 3 "_law_first_couple" spFC [] := by
  obtain ⟨f, fd, D, b⟩ := F.d__law_first_couple
  have c__law_swollen_levels := c__law_swollen_levels (P := P) (w := w) (base := base) F
  have c__law_shrunk_levels := c__law_shrunk_levels (P := P) (w := w) (base := base) F
  refine C8.cal0 D b .nil sc__law_first_couple (fun vs H Q E h => ?_) (fun cdv A outer s H vs Q E hr h => ?_)
  · obtain ⟨a, ks, m, rfl, _⟩ := h
    rfl
  · obtain ⟨a, ks, m, rfl, lw, hk, hm, ok, k⟩ := h
    refine ⟨_, (pss_cons (ps_for PassesOwn.never rfl (pi_range1 (by rfl) F.n_range (pa_cons (pe_callB (cr_lenK (K := K) rfl) (by rfl) F.n_len PySem.boot_len (pa_cons (pv 0) pa_nil)) pa_nil)) (pg_name (i := 2) sc__law_first_couple.nd rfl (Or.inl rfl))
    (pss_cons (ps_set (i := 3) sc__law_first_couple.nd rfl (Or.inl rfl) (C8.pe_c c__law_swollen_levels hr (by decide) (by rfl) (pa_cons (pe_ix (ix_listK (K := K) rfl) (pv 0) (pv 2) (fun _ _ => rfl)) (pa_cons (pv 1) pa_nil))))
  (pss_one (ps_for PassesOwn.never rfl (pi_range2 (by rfl) F.n_range (pa_cons (pe_op op_add (pv 2) pe_int) (pa_cons (pe_callB (cr_lenK (K := K) rfl) (by rfl) F.n_len PySem.boot_len (pa_cons (pv 0) pa_nil)) pa_nil))) (pg_name (i := 4) sc__law_first_couple.nd rfl (Or.inl rfl))
    (pss_cons (ps_set (i := 5) sc__law_first_couple.nd rfl (Or.inr rfl) (C8.pe_c c__law_swollen_levels hr (by decide) (by rfl) (pa_cons (pe_ix (ix_listK (K := K) rfl) (pv 0) (pv 4) (fun _ _ => rfl)) (pa_cons (pv 1) pa_nil))))
  (pss_one (ps_for PassesOwn.never rfl (pi_range1 (by rfl) F.n_range (pa_cons (pe_op op_add (pv 1) pe_int) pa_nil)) (pg_name (i := 6) sc__law_first_couple.nd rfl (Or.inr rfl))
    (pss_cons (ps_setLc (i := 7) (own := [("_law_word_here", 10)]) (g := (gName 10)) (tt := _) (by rfl) sc__law_first_couple.nd rfl rfl (sw_true rfl rfl rfl (by decide +kernel)) (pi_listK (K := K) rfl (pe_ix (ix_listK (K := K) rfl) (pv 3) (pv 6) (fun _ _ => rfl))) (blkOk_by (own := [("_law_word_here", 10)]) (N := N__law_first_couple) (sc := (C8.fnScope st__law_first_couple)) (by decide +kernel)) (fun _ _ _ _ _ => (pg_name (i := 10) sc__law_first_couple.nd rfl (Or.inl rfl))) (fun _ _ _ _ _ => (pts_one (pt_cmpR (op_inK (K := K) rfl (hu65 hr)) (pv 10) (pe_ix (ix_listK (K := K) rfl) (pv 5) (pv 6) (fun _ _ => rfl)) (by rfl)))) (fun _ _ _ _ _ => (pv 10)))
  (pss_one (ps_if (pt_truth (pv 7) (by intro _; rfl)) (pss_cons (ps_set (i := 8) sc__law_first_couple.nd rfl (Or.inr rfl) (pe_ix (ix_listK (K := K) rfl) (C8.pe_c c__law_shrunk_levels hr (by decide) (by rfl) (pa_cons (pe_ix (ix_listK (K := K) rfl) (pv 0) (pv 4) (fun _ _ => rfl)) (pa_cons (pv 6) pa_nil))) (pv 6) (fun _ _ => rfl)))
  (pss_cons (ps_setLc (i := 9) (own := [("_law_word_here", 10)]) (g := (gName 10)) (tt := _) (by rfl) sc__law_first_couple.nd rfl rfl (sw_true rfl rfl rfl (by decide +kernel)) (pi_listK (K := K) rfl (pe_ix (ix_listK (K := K) rfl) (C8.pe_c c__law_shrunk_levels hr (by decide) (by rfl) (pa_cons (pe_ix (ix_listK (K := K) rfl) (pv 0) (pv 2) (fun _ _ => rfl)) (pa_cons (pv 6) pa_nil))) (pv 6) (fun _ _ => rfl))) (blkOk_by (own := [("_law_word_here", 10)]) (N := N__law_first_couple) (sc := (C8.fnScope st__law_first_couple)) (by decide +kernel)) (fun _ _ _ _ _ => (pg_name (i := 10) sc__law_first_couple.nd rfl (Or.inl rfl))) (fun _ _ _ _ _ => (pts_one (pt_cmpR (op_inK (K := K) rfl (hu65 hr)) (pv 10) (pv 8) (by rfl)))) (fun _ _ _ _ _ => (pv 10)))
  (pss_one (ps_ret (pe_lst (pa_cons (pe_ix (ix_listK (K := K) rfl) (pv 0) (pv 2) (fun _ _ => rfl)) (pa_cons (pe_ix (ix_listK (K := K) rfl) (pv 0) (pv 4) (fun _ _ => rfl)) (pa_cons (pv 6) (pa_cons (pv 7) (pa_cons (pv 9) pa_nil)))))))))) pss_nil))))))))))
  (pss_one (ps_ret pe_non))), ?_⟩
    have lr : (refs ks).length = ks.length := List.length_map _
    refine ⟨_, rfl, a, _, rfl, .inl (SqL.of lw.at_), ?_⟩
    rw [lr]
    refine ⟨_, rfl, by omega, by omega, ?_⟩
    rw [Int.toNat_natCast]
    refine for_range (lo := 0) (n := ks.length) (fun i σ H' => ∃ x2 x3 x4 x5 x6 x7 x8 x9 x10, σ = [some (.ref a), some (.int (m : Nat)), x2, x3, x4, x5, x6, x7, x8, x9, x10] ∧ Ex H H' ∧ ∀ i' j' d', i' < i → NoLonger (wds ks) m i' j' d') ⟨none, none, none, none, none, none, none, none, none, rfl, Ex.refl H, fun i' j' d' h => absurd h (Nat.not_lt_zero _)⟩ ?_ ?_
    · rintro i σ H1 hi ⟨x2, x3, x4, x5, x6, x7, x8, x9, x10, rfl, e1, pre1⟩
      rw [Int.zero_add]
      obtain ⟨⟨ai, wi⟩, hri⟩ : ∃ r, ks[i]? = some r := ⟨_, List.getElem?_eq_getElem hi⟩
      have hwi : (wds ks)[i]? = some wi := by rw [List.getElem?_map, hri]; rfl
      obtain ⟨oi1, oi2, oi3⟩ := ok wi (List.mem_of_getElem? hwi)
      have hai : H ai = some (.tup (wi.map V.int)) := lw.rt _ (List.mem_of_getElem? hri)
      have hri' : (refs ks)[i]? = some (.ref ai) := at_map hri
      refine ⟨_, rfl, _, rfl, a, _, _, _, rfl, rfl, SqL.of (e1 _ _ lw.at_), atI_nat hri', _, rfl, ai, wi, m, rfl, e1 _ _ hai, hm, oi1, fun p1 ls1 H2 e2 lv1 ek1 => ?_⟩
      have e12 := e1.trans e2
      refine ⟨_, rfl, _, _, rfl, rfl, _, rfl, a, _, rfl, .inl (SqL.of (e12 _ _ lw.at_)), ?_⟩
      rw [lr]
      refine ⟨_, _, rfl, ⟨by omega, by omega, by omega, by omega⟩, ?_⟩
      have et : ((ks.length : Int) - ((i : Int) + 1)).toNat = ks.length - (i + 1) := by omega
      rw [et]
      refine for_range (lo := (i : Int) + 1) (n := ks.length - (i + 1)) (fun t σ H' => ∃ x4 x5 x6 x7 x8 x9 x10, σ = [some (.ref a), some (.int (m : Nat)), some (.int (i : Nat)), some (.ref p1), x4, x5, x6, x7, x8, x9, x10] ∧ Ex H2 H' ∧ ∀ j' d', j' < i + 1 + t → NoLonger (wds ks) m i j' d') ⟨_, _, _, _, _, _, _, rfl, Ex.refl H2, fun j' d' h a b h1 => by omega⟩ ?_ ?_
      · rintro t σ H3 ht ⟨x4, x5, x6, x7, x8, x9, x10, rfl, e3, pre2⟩
        have cj : (i : Int) + 1 + (t : Nat) = ((i + 1 + t : Nat) : Int) := by omega
        rw [cj]
        have hj : i + 1 + t < ks.length := by omega
        generalize hjj : i + 1 + t = j at hj pre2
        have ij : i < j := by omega
        obtain ⟨⟨aj, wj⟩, hrj⟩ : ∃ r, ks[j]? = some r := ⟨_, List.getElem?_eq_getElem hj⟩
        have hwj : (wds ks)[j]? = some wj := by rw [List.getElem?_map, hrj]; rfl
        obtain ⟨oj1, oj2, oj3⟩ := ok wj (List.mem_of_getElem? hwj)
        have haj : H aj = some (.tup (wj.map V.int)) := lw.rt _ (List.mem_of_getElem? hrj)
        have hrj' : (refs ks)[j]? = some (.ref aj) := at_map hrj
        have e13 := e12.trans e3
        refine ⟨_, rfl, _, rfl, a, _, _, _, rfl, rfl, SqL.of (e13 _ _ lw.at_), atI_nat hrj', _, rfl, aj, wj, m, rfl, e13 _ _ haj, hm, oj1, fun p2 ls2 H4 e4 lv2 ek2 => ?_⟩
        have e14 := e13.trans e4
        have lv1 := lv1.mono (e3.trans e4)
        refine ⟨_, rfl, _, _, rfl, rfl, _, rfl, by omega, by omega, ?_⟩
        have em : ((m : Int) + 1).toNat = m + 1 := by omega
        rw [em]
        refine for_range (lo := 0) (n := m + 1) (fun d σ H' => ∃ x6 x7 x8 x9 x10, σ = [some (.ref a), some (.int (m : Nat)), some (.int (i : Nat)), some (.ref p1), some (.int (j : Nat)), some (.ref p2), x6, x7, x8, x9, x10] ∧ Ex H4 H' ∧ ∀ d', d' < d → NoLonger (wds ks) m i j d') ⟨_, _, _, _, _, rfl, Ex.refl H4, fun d' h => absurd h (Nat.not_lt_zero _)⟩ ?_ ?_
        · rintro d σ H5 hd ⟨x6, x7, x8, x9, x10, rfl, e5, pre3⟩
          rw [Int.zero_add]
          have dm : d ≤ m := by omega
          obtain ⟨q1, hq1, eq1⟩ := lv_at ek1 dm
          obtain ⟨q2, hq2, eq2⟩ := lv_at ek2 dm
          have e15 := e14.trans e5
          have lv1 := lv1.mono e5
          have lv2 := lv2.mono e5
          have lw1 := (lv1.rows q1 (List.mem_of_getElem? hq1)).2
          have lw2 := (lv2.rows q2 (List.mem_of_getElem? hq2)).2
          have hq1' : (ls1.map fun q => V.ref q.1)[d]? = some (.ref q1.1) := at_map hq1
          have hq2' : (ls2.map fun q => V.ref q.1)[d]? = some (.ref q2.1) := at_map hq2
          have lq1 : (refs q1.2).length = (levM swollenW wi d).length := by rw [List.length_map, ← eq1, List.length_map]
          refine ⟨_, rfl, _, rfl, p1, _, _, _, rfl, rfl, SqL.of lv1.at_, atI_nat hq1', q1.1, rfl, ⟨_, SqL.of lw1.at_⟩, fun g hg => ?_⟩
          refine lc_list (xs := refs q1.2) (fun n H' => ∃ js, Ex H5 H' ∧ LW H' g js ∧ js.length ≤ n ∧ wds js = ((wds q1.2).take n).filter fun x => decide (x ∈ levM swollenW wj d)) ⟨[], Ex.new hg, ⟨upd_same, RT.nil⟩, Nat.le_refl _, rfl⟩ (fun n H' _ ⟨_, e, _⟩ => SqL.of (e _ _ lw1.at_)) ?_ ?_
          · rintro n v H6 hv ⟨js, e6, hjs, ln, ej⟩
            obtain ⟨u, us, rfl, hu0, hu⟩ := (lw1.rt.mono e6).at hv
            have hus : (wds q1.2)[n]? = some us := by rw [List.getElem?_map, hu0]; rfl
            have hn := (List.getElem?_eq_some_iff.mp hv).1
            have bd := (oi3 d dm).1
            refine ⟨rfl, _, rfl, _, rfl, _, rfl, p2, _, _, _, rfl, rfl, SqL.of (e6 _ _ lv2.at_), atI_nat hq2', _, _, dp_T hu, .lst (SqL.of (e6 _ _ lw2.at_)) (dp_rows (lw2.rt.mono e6)), (sh_dT _).shaped, (sh_rows _).shaped, _, rfl, ?_⟩
            rw [any_dT, eq2]
            by_cases hin : us ∈ levM swollenW wj d
            · refine ev_T (decide_eq_true hin) ?_
              refine ⟨_, rfl, _, hjs.at_, ?_, js ++ [(u, us)], Ex.mut e6 hg, ⟨?_, ?_⟩, ?_, ?_⟩
              · rw [List.length_map]; exact sz_lt (by omega)
              · rw [upd_same]; unfold refs QT.refs; rw [List.map_append]; rfl
              · refine (fun r hr => ?_)
                rcases List.mem_append.mp hr with hr | hr
                · rw [upd_ne (ne_lt hjs.at_ (hjs.rt r hr)).symm]; exact hjs.rt r hr
                · rw [List.mem_singleton.mp hr, upd_ne (ne_lt hjs.at_ hu).symm]; exact hu
              · rw [List.length_append, List.length_singleton]; omega
              · show List.map (fun q : Row => q.2) (js ++ [(u, us)]) = _
                rw [List.map_append, show js.map (fun q : Row => q.2) = wds js from rfl, ej, List.take_add_one, hus, List.filter_append]
                congr 1
                show [us] = List.filter _ [us]
                rw [List.filter_cons, if_pos (decide_eq_true hin)]; rfl
            · refine ev_F (decide_eq_false hin) ?_
              refine ⟨js, e6, hjs, by omega, ?_⟩
              rw [ej, List.take_add_one, hus, List.filter_append]
              show _ = _ ++ List.filter _ [us]
              rw [List.filter_cons, if_neg (by rw [decide_eq_true_eq]; exact hin)]
              simp
          · rintro H6 ⟨js, e6, hjs, ln, ej⟩
            have lq : (refs q1.2).length = (wds q1.2).length := by rw [List.length_map, List.length_map]
            rw [lq, List.take_length, eq1] at ej
            have ej : wds js = longerM wi wj d := ej
            refine ⟨_, rfl, _, .inl ⟨_, SqL.of hjs.at_, rfl⟩, ?_⟩
            by_cases hemp : longerM wi wj d = []
            · have : js = [] := by
                rw [hemp] at ej
                exact List.map_eq_nil_iff.mp ej
              subst this
              refine ev_F rfl ?_
              refine ⟨_, _, _, _, _, rfl, e5.trans e6, fun d' hd' => ?_⟩
              by_cases h : d' = d
              · subst h
                intro a b _ _ ha hb
                rw [hwi] at ha
                rw [hwj] at hb
                cases ha
                cases hb
                exact hemp
              · exact pre3 d' (by omega)
            · have jne : js ≠ [] := fun z => hemp (by rw [← ej, z]; rfl)
              refine ev_T (by cases js with | nil => exact absurd rfl jne | cons x l => rfl) ?_
              have e16 := e15.trans e6
              refine ⟨_, rfl, _, rfl, a, _, _, _, rfl, rfl, SqL.of (e16 _ _ lw.at_), atI_nat hrj', _, rfl, aj, wj, d, rfl, e16 _ _ haj, by omega, oj2.mono dm, fun p3 ls3 H7 e7 lv3 ek3 => ?_⟩
              obtain ⟨q3, hq3, eq3⟩ := lv_at ek3 (Nat.le_refl d)
              have hq3' : (ls3.map fun q => V.ref q.1)[d]? = some (.ref q3.1) := at_map hq3
              refine ⟨_, rfl, p3, _, _, _, rfl, rfl, SqL.of lv3.at_, atI_nat hq3', ?_⟩
              have lw3 := (lv3.rows q3 (List.mem_of_getElem? hq3)).2
              have e17 := e16.trans e7
              refine ⟨_, rfl, _, rfl, a, _, _, _, rfl, rfl, SqL.of (e17 _ _ lw.at_), atI_nat hri', _, rfl, ai, wi, d, rfl, e17 _ _ hai, by omega, oi2.mono dm, fun p4 ls4 H8 e8 lv4 ek4 => ?_⟩
              obtain ⟨q4, hq4, eq4⟩ := lv_at ek4 (Nat.le_refl d)
              have hq4' : (ls4.map fun q => V.ref q.1)[d]? = some (.ref q4.1) := at_map hq4
              have lw4 := (lv4.rows q4 (List.mem_of_getElem? hq4)).2
              have lw3 := lw3.mono e8
              have e18 := e17.trans e8
              have lq4 : (refs q4.2).length = (levM shrunkW wi d).length := by rw [List.length_map, ← eq4, List.length_map]
              refine ⟨_, rfl, p4, _, _, _, rfl, rfl, SqL.of lv4.at_, atI_nat hq4', q4.1, rfl, ⟨_, SqL.of lw4.at_⟩, fun g2 hg2 => ?_⟩
              refine lc_list (xs := refs q4.2) (fun n H' => ∃ js, Ex H8 H' ∧ LW H' g2 js ∧ js.length ≤ n ∧ wds js = ((wds q4.2).take n).filter fun x => decide (x ∈ levM shrunkW wj d)) ⟨[], Ex.new hg2, ⟨upd_same, RT.nil⟩, Nat.le_refl _, rfl⟩ (fun n H' _ ⟨_, e, _⟩ => SqL.of (e _ _ lw4.at_)) ?_ ?_
              · rintro n v H9 hv ⟨ys, e9, hjs, ln, ej⟩
                obtain ⟨u, us, rfl, hu0, hu⟩ := (lw4.rt.mono e9).at hv
                have hus : (wds q4.2)[n]? = some us := by rw [List.getElem?_map, hu0]; rfl
                have hn := (List.getElem?_eq_some_iff.mp hv).1
                have bd := (oi3 d dm).2
                refine ⟨rfl, _, rfl, _, rfl, _, _, dp_T hu, .lst (SqL.of (e9 _ _ lw3.at_)) (dp_rows (lw3.rt.mono e9)), (sh_dT _).shaped, (sh_rows _).shaped, _, rfl, ?_⟩
                rw [any_dT, eq3]
                by_cases hin : us ∈ levM shrunkW wj d
                · refine ev_T (decide_eq_true hin) ?_
                  refine ⟨_, rfl, _, hjs.at_, ?_, ys ++ [(u, us)], Ex.mut e9 hg2, ⟨?_, ?_⟩, ?_, ?_⟩
                  · rw [List.length_map]; exact sz_lt (by omega)
                  · rw [upd_same]; unfold refs QT.refs; rw [List.map_append]; rfl
                  · refine (fun r hr => ?_)
                    rcases List.mem_append.mp hr with hr | hr
                    · rw [upd_ne (ne_lt hjs.at_ (hjs.rt r hr)).symm]; exact hjs.rt r hr
                    · rw [List.mem_singleton.mp hr, upd_ne (ne_lt hjs.at_ hu).symm]; exact hu
                  · rw [List.length_append, List.length_singleton]; omega
                  · show List.map (fun q : Row => q.2) (ys ++ [(u, us)]) = _
                    rw [List.map_append, show ys.map (fun q : Row => q.2) = wds ys from rfl, ej, List.take_add_one, hus, List.filter_append]
                    congr 1
                    show [us] = List.filter _ [us]
                    rw [List.filter_cons, if_pos (decide_eq_true hin)]; rfl
                · refine ev_F (decide_eq_false hin) ?_
                  refine ⟨ys, e9, hjs, by omega, ?_⟩
                  rw [ej, List.take_add_one, hus, List.filter_append]
                  show _ = _ ++ List.filter _ [us]
                  rw [List.filter_cons, if_neg (by rw [decide_eq_true_eq]; exact hin)]
                  simp
              · rintro H9 ⟨ys, e9, hys, ln2, ey⟩
                have lq : (refs q4.2).length = (wds q4.2).length := by rw [List.length_map, List.length_map]
                rw [lq, List.take_length, eq4] at ey
                have ey : wds ys = shorterM wi wj d := ey
                have e19 := e18.trans e9
                refine ⟨_, rfl, _, rfl, a, _, _, _, rfl, rfl, SqL.of (e19 _ _ lw.at_), atI_nat hri', _, rfl, _, rfl, a, _, _, _, rfl, rfl, SqL.of (e19 _ _ lw.at_), atI_nat hrj', _, rfl, _, rfl, _, rfl, (by decide : 5 ≤ sizeLine), fun p hp => ?_⟩
                have e10 := e19.trans (Ex.new (o := .lst [V.ref ai, V.ref aj, V.int (d : Nat), V.ref g, V.ref g2]) hp)
                have en : Ex H9 _ := Ex.new (o := .lst [V.ref ai, V.ref aj, V.int (d : Nat), V.ref g, V.ref g2]) hp
                refine k _ _ e10 (.inr ⟨i, j, d, wi, wj, ij, dm, hwi, hwj, hemp, fun i' j' d' ha => ?_, p, ai, aj, g, g2, js, ys, rfl, upd_same, e10 _ _ hai, e10 _ _ haj, hjs.mono (((e7.trans e8).trans e9).trans en), ej, hys.mono en, ey⟩)
                rcases ha with ha | ⟨rfl, ha | ⟨rfl, ha⟩⟩
                · exact pre1 i' j' d' ha
                · exact pre2 j' d' (by omega)
                · exact pre3 d' ha
        · rintro σ H5 ⟨x6, x7, x8, x9, x10, rfl, e5, pre3⟩
          refine ⟨_, _, _, _, _, _, _, rfl, (e3.trans e4).trans e5, fun j' d' hj' => ?_⟩
          by_cases h : j' = j
          · subst h
            intro a b h1 h2 ha hb
            exact pre3 d' (by omega) a b h1 h2 ha hb
          · exact pre2 j' d' (by omega)
      · rintro σ H3 ⟨x4, x5, x6, x7, x8, x9, x10, rfl, e3, pre2⟩
        refine ⟨_, _, _, _, _, _, _, _, _, rfl, e12.trans e3, fun i' j' d' hi' => ?_⟩
        by_cases h : i' = i
        · subst h
          intro a b h1 h2 ha hb
          have := (List.getElem?_eq_some_iff.mp hb).1
          rw [List.length_map] at this
          exact pre2 j' d' (by omega) a b h1 h2 ha hb
        · exact pre1 i' j' d' (by omega)
    · rintro σ H1 ⟨x2, x3, x4, x5, x6, x7, x8, x9, x10, rfl, e1, pre1⟩
      refine k _ _ e1 (.inl ⟨rfl, fun i' j' d' a b h1 h2 ha hb => ?_⟩)
      have := (List.getElem?_eq_some_iff.mp ha).1
      rw [List.length_map] at this
      exact pre1 i' j' d' this a b h1 h2 ha hb
end
end LP
end

section
set_option Elab.async false
set_option linter.all false
set_option maxRecDepth 100000
set_option maxHeartbeats 4000000
namespace LP
open PySem L2 PyProof.Rows PySem.Spec Evl MR
section
variable {P : Program} {w : World} {K : PySem.W.Frag} {mg : Str → Option Value} {base : Heap} {CP CB : Addr}
/-! fields -/
def pFlds (a b c d e : V) : List (Str × V) := [("one", a), ("other", b), ("apart", c), ("longer", d), ("shorter", e)]
def bFlds (q n : Int) (t : Addr) (z : Int) : List (Str × V) := [("letters", .int q), ("length", .int n), ("words", .ref t), ("size", .int z)]
theorem pf1 {a b c d e : V} : (pFlds a b c d e).lookup ("one" : Str) = some a := by rfl
theorem pf2 {a b c d e : V} : (pFlds a b c d e).lookup ("other" : Str) = some b := by rfl
theorem pf3 {a b c d e : V} : (pFlds a b c d e).lookup ("apart" : Str) = some c := by rfl
theorem pf4 {a b c d e : V} : (pFlds a b c d e).lookup ("longer" : Str) = some d := by rfl
theorem pf5 {a b c d e : V} : (pFlds a b c d e).lookup ("shorter" : Str) = some e := by rfl
theorem bf1 {q n z : Int} {t : Addr} : (bFlds q n t z).lookup ("letters" : Str) = some (.int q) := by rfl
theorem bf2 {q n z : Int} {t : Addr} : (bFlds q n t z).lookup ("length" : Str) = some (.int n) := by rfl
theorem bf3 {q n z : Int} {t : Addr} : (bFlds q n t z).lookup ("words" : Str) = some (.ref t) := by rfl
theorem bf4 {q n z : Int} {t : Addr} : (bFlds q n t z).lookup ("size" : Str) = some (.int z) := by rfl
def spPairInit (CP : Addr) : Sp := fun vs H Q _ => ∃ (x dx : Addr) (a b c d e : V), vs = [.ref x, a, b, c, d, e] ∧ H x = some (.ins CP dx []) ∧ ∀ H', H' x = some (.ins CP dx (pFlds a b c d e)) → (∀ b o, b ≠ x → H b = some o → H' b = some o) → Q .non H'
theorem m_RunPair (F : Facts K mg CP CB) : C8.Mak P w K mg base 1 "RunPair" CP (spPairInit CP) [] := by
  obtain ⟨f, fd, M, hm, D, b⟩ := F.pi
  refine C8.mak0 M hm D b .nil sc_RunPair___init__ (fun vs H Q E h => ?_) (fun cdv A outer s H vs Q E hr h => ?_)
  · obtain ⟨x, dx, a, b, c, d, e, rfl, _⟩ := h
    rfl
  · obtain ⟨x, dx, a, b, c, d, e, rfl, hx, k⟩ := h
    refine ⟨_, (pss_cons (ps_fld (pv 0) (pv 1) rfl)
  (pss_cons (ps_fld (pv 0) (pv 2) rfl)
  (pss_cons (ps_fld (pv 0) (pv 3) rfl)
  (pss_cons (ps_fld (pv 0) (pv 4) rfl)
  (pss_one (ps_fld (pv 0) (pv 5) rfl)))))), ?_⟩
    have T := F.i_RunPair.cl
    refine ⟨_, rfl, _, rfl, x, CP, dx, _, rfl, hx, T, F.p_one, (by show 0 < 1000; decide), ?_⟩
    refine ⟨_, rfl, _, rfl, x, CP, dx, _, rfl, upd_same, T, F.p_other, (by show 1 < 1000; decide), ?_⟩
    refine ⟨_, rfl, _, rfl, x, CP, dx, _, rfl, upd_same, T, F.p_apart, (by show 2 < 1000; decide), ?_⟩
    refine ⟨_, rfl, _, rfl, x, CP, dx, _, rfl, upd_same, T, F.p_longer, (by show 3 < 1000; decide), ?_⟩
    refine ⟨_, rfl, _, rfl, x, CP, dx, _, rfl, upd_same, T, F.p_shorter, (by show 4 < 1000; decide), ?_⟩
    refine k _ upd_same fun b o hb e => ?_
    rw [upd_ne hb, upd_ne hb, upd_ne hb, upd_ne hb, upd_ne hb]
    exact e
def spPairEq (K : PySem.W.Frag) (CP : Addr) : Sp := fun vs H Q _ => ∃ (a b dx dy : Addr) (x1 x2 x3 x4 x5 y1 y2 y3 y4 y5 : V) (d1 d2 d3 d4 d5 e1 e2 e3 e4 e5 : PyData), vs = [.ref a, .ref b] ∧ H a = some (.ins CP dx (pFlds x1 x2 x3 x4 x5)) ∧ H b = some (.ins CP dy (pFlds y1 y2 y3 y4 y5)) ∧
  (Dp K H x1 d1 ∧ Dp K H x2 d2 ∧ Dp K H x3 d3 ∧ Dp K H x4 d4 ∧ Dp K H x5 d5) ∧ (Dp K H y1 e1 ∧ Dp K H y2 e2 ∧ Dp K H y3 e3 ∧ Dp K H y4 e4 ∧ Dp K H y5 e5) ∧ (Sh 1 d1 ∧ Sh 1 d2 ∧ Sh 1 d3 ∧ Sh 1 d4 ∧ Sh 1 d5) ∧ (Sh 1 e1 ∧ Sh 1 e2 ∧ Sh 1 e3 ∧ Sh 1 e4 ∧ Sh 1 e5) ∧
  Q (.bl (PyData.eqv d1 e1 && (PyData.eqv d2 e2 && (PyData.eqv d3 e3 && (PyData.eqv d4 e4 && PyData.eqv d5 e5))))) H
theorem e_RunPair (F : Facts K mg CP CB) : ∃ f fd, PySem.W.findIn K (.ref CP) "__eq__" = some (some (.ref f)) ∧ PySem.W.isFn K (.ref f) = true ∧ FnOk P w K mg base C8.CX0 1 f fd ["self", "other"] (spPairEq K CP) ∧ Binds K fd ["self", "other"] [] := by
  obtain ⟨f, fd, h1, h2, D, b⟩ := F.pe
  refine ⟨f, fd, h1, h2, C8.fn0 D sc_RunPair___eq__ (fun vs H Q E h => ?_) (fun cdv A outer s H vs Q E hr h => ?_), b⟩
  · obtain ⟨a, b, dx, dy, _, _, _, _, _, _, _, _, _, _, _, _, _, _, _, _, _, _, _, _, rfl, _⟩ := h
    rfl
  · obtain ⟨a, b, dx, dy, x1, x2, x3, x4, x5, y1, y2, y3, y4, y5, d1, d2, d3, d4, d5, e1, e2, e3, e4, e5, rfl, ha, hb, ⟨p1, p2, p3, p4, p5⟩, ⟨q1, q2, q3, q4, q5⟩, ⟨s1, s2, s3, s4, s5⟩, ⟨t1, t2, t3, t4, t5⟩, k⟩ := h
    refine ⟨_, (pss_one (ps_ret (pe_and (pe_callB (C8.call_isC F.i_RunPair) (by rfl) F.n_isinstance (by decide +kernel) (pa_cons (pv 1) (pa_cons (C8.pe_gc (by rfl) F.g_RunPair) pa_nil))) (pe_and (pe_cmpR (op_eqK (K := K) rfl (hu64 hr)) (pe_fldK (K := K) rfl (pv 0) rfl) (pe_fldK (K := K) rfl (pv 1) rfl) (nomark _)) (pe_and (pe_cmpR (op_eqK (K := K) rfl (hu64 hr)) (pe_fldK (K := K) rfl (pv 0) rfl) (pe_fldK (K := K) rfl (pv 1) rfl) (nomark _)) (pe_and (pe_cmpR (op_eqK (K := K) rfl (hu64 hr)) (pe_fldK (K := K) rfl (pv 0) rfl) (pe_fldK (K := K) rfl (pv 1) rfl) (nomark _)) (pe_and (pe_cmpR (op_eqK (K := K) rfl (hu64 hr)) (pe_fldK (K := K) rfl (pv 0) rfl) (pe_fldK (K := K) rfl (pv 1) rfl) (nomark _)) (pe_one (pe_cmpR (op_eqK (K := K) rfl (hu64 hr)) (pe_fldK (K := K) rfl (pv 0) rfl) (pe_fldK (K := K) rfl (pv 1) rfl) (nomark _)))))))))), ?_⟩
    have T := F.i_RunPair.cl
    refine ⟨_, rfl, b, dy, _, rfl, hb, true, rfl, ?_⟩
    refine iteT ?_
    refine ⟨_, rfl, a, CP, dx, _, _, rfl, ha, T, F.p_one, pf1, _, rfl, b, CP, dy, _, _, rfl, hb, T, F.p_one, pf1, _, _, p1, q1, s1.shaped, t1.shaped, _, rfl, ?_⟩
    cases g1 : PyData.eqv d1 e1 with
    | false => rw [g1] at k; exact k
    | true =>
      refine iteT ?_
      refine ⟨_, rfl, a, CP, dx, _, _, rfl, ha, T, F.p_other, pf2, _, rfl, b, CP, dy, _, _, rfl, hb, T, F.p_other, pf2, _, _, p2, q2, s2.shaped, t2.shaped, _, rfl, ?_⟩
      cases g2 : PyData.eqv d2 e2 with
      | false => rw [g1, g2] at k; exact k
      | true =>
        refine iteT ?_
        refine ⟨_, rfl, a, CP, dx, _, _, rfl, ha, T, F.p_apart, pf3, _, rfl, b, CP, dy, _, _, rfl, hb, T, F.p_apart, pf3, _, _, p3, q3, s3.shaped, t3.shaped, _, rfl, ?_⟩
        cases g3 : PyData.eqv d3 e3 with
        | false => rw [g1, g2, g3] at k; exact k
        | true =>
          refine iteT ?_
          refine ⟨_, rfl, a, CP, dx, _, _, rfl, ha, T, F.p_longer, pf4, _, rfl, b, CP, dy, _, _, rfl, hb, T, F.p_longer, pf4, _, _, p4, q4, s4.shaped, t4.shaped, _, rfl, ?_⟩
          cases g4 : PyData.eqv d4 e4 with
          | false => rw [g1, g2, g3, g4] at k; exact k
          | true =>
            refine iteT ?_
            refine ⟨_, rfl, a, CP, dx, _, _, rfl, ha, T, F.p_shorter, pf5, _, rfl, b, CP, dy, _, _, rfl, hb, T, F.p_shorter, pf5, _, _, p5, q5, s5.shaped, t5.shaped, ?_⟩
            rw [g1, g2, g3, g4] at k
            exact k
end
end LP
end

section
set_option Elab.async false
set_option linter.all false
set_option maxRecDepth 100000
set_option maxHeartbeats 4000000
namespace LP
open PySem L2 PyProof.Rows PySem.Spec Evl MR
section
variable {P : Program} {w : World} {K : PySem.W.Frag} {mg : Str → Option Value} {base : Heap} {CP CB : Addr}
/-- a word as a list or a tuple -/
def WAt (H : Hp) (a : Addr) (ns : List Int) : Prop := H a = some (.lst (ns.map V.int)) ∨ H a = some (.tup (ns.map V.int))
theorem WAt.mono {H H' : Hp} {a : Addr} {ns : List Int} (h : WAt H a ns) (e : Ex H H') : WAt H' a ns := h.elim (fun h => .inl (e _ _ h)) fun h => .inr (e _ _ h)
def spExact : Sp := fun vs H Q _ => ∃ (q : Int) (n : Nat) (a : Addr) (ns : List Int), vs = [.int q, .int (n : Nat), .ref a] ∧ WAt H a ns ∧ ns.length = n ∧ n ≤ 1000 ∧ (∀ x ∈ ns, 0 ≤ x ∧ x < q) ∧
  ∀ p H', Ex H H' → H' p = some (.tup (ns.map V.int)) → Q (.ref p) H'
theorem c_exact_word (F : Facts K mg CP CB) : C8.Cal P w K mg base 3 "exact_word" spExact [] := by
  obtain ⟨f, fd, D, b⟩ := F.d_exact_word
  have c_check_word := c_check_word (P := P) (w := w) (base := base) F
  refine C8.cal0 D b .nil sc_exact_word (fun vs H Q E h => ?_) (fun cdv A outer s H vs Q E hr h => ?_)
  · obtain ⟨q, n, a, ns, rfl, _⟩ := h
    rfl
  · obtain ⟨q, n, a, ns, rfl, ha, hl, hn, hq, k⟩ := h
    refine ⟨_, (pss_cons (ps_set (i := 2) sc_exact_word.nd rfl (Or.inl rfl) (C8.pe_c c_check_word hr (by decide) (by rfl) (pa_cons (pv 0) (pa_cons (pv 2) (pa_cons (pv 1) pa_nil)))))
  (pss_cons (ps_if (pt_cmpR op_ne (pe_callB (cr_lenK (K := K) rfl) (by rfl) F.n_len PySem.boot_len (pa_cons (pv 2) pa_nil)) (pv 1) (nomark _)) (pss_one ps_never) pss_nil)
  (pss_one (ps_ret (pv 2))))), ?_⟩
    refine ⟨_, rfl, _, rfl, _, rfl, q, a, ns, n, rfl, ha, by omega, by omega, hq, fun p H1 e1 h1 => ?_⟩
    refine ⟨_, rfl, p, _, rfl, .inr (SqT.of h1), _, rfl, rfl, _, rfl, ?_⟩
    rw [List.length_map, hl]
    refine ev_F (by rw [eqI_T rfl]; rfl) ?_
    exact ⟨_, rfl, k p H1 e1 h1⟩
theorem wkey (ns : List Int) : (ns.map (Sum.inl : Int → Key)).map kV = ns.map V.int := by
  rw [List.map_map]; rfl
theorem wkey_inj {a b : List Int} (h : a.map (Sum.inl : Int → Key) = b.map Sum.inl) : a = b := by
  induction a generalizing b with
  | nil => cases b with
    | nil => rfl
    | cons y b => cases h
  | cons x a ih => cases b with
    | nil => cases h
    | cons y b =>
      rw [List.map_cons, List.map_cons, List.cons.injEq] at h
      rw [ih h.2, Sum.inl.inj h.1]
/-- the dict's keys: the words us -/
def KeysOf (kvs : List (List Key × V)) (us : List Wd) : Prop := kvs.map (·.1) = us.map fun u => u.map Sum.inl
theorem keys_put {kvs : List (List Key × V)} {us : List Wd} (h : KeysOf kvs us) (x : Wd) (v : V) : ∃ us', KeysOf (putK kvs (x.map Sum.inl) v) us' ∧ (us.Nodup → us'.Nodup) ∧ us'.length ≤ us.length + 1 ∧ ∀ y, y ∈ us' ↔ y ∈ us ∨ y = x := by
  by_cases hin : x ∈ us
  · refine ⟨us, ?_, id, Nat.le_succ _, fun y => ⟨.inl, fun h => h.elim id fun e => e ▸ hin⟩⟩
    unfold KeysOf putK
    rw [if_pos]
    · rw [List.map_map, ← h]
      apply List.map_congr_left
      intro p _
      show (if p.1 = _ then (p.1, v) else p).1 = p.1
      split <;> rfl
    · have : x.map (Sum.inl : Int → Key) ∈ kvs.map (·.1) := by
        rw [h]
        exact List.mem_map.mpr ⟨x, hin, rfl⟩
      obtain ⟨p, hp, e⟩ := List.mem_map.mp this
      exact List.any_eq_true.mpr ⟨p, hp, decide_eq_true e⟩
  · have hn : valV kvs (x.map (Sum.inl : Int → Key)) = none := by
      cases e : valV kvs (x.map (Sum.inl : Int → Key)) with
      | none => rfl
      | some v =>
        have := valV_in e
        rw [h] at this
        obtain ⟨y, hy, e⟩ := List.mem_map.mp this
        exact absurd (wkey_inj e ▸ hy) hin
    refine ⟨us ++ [x], ?_, fun nd => ?_, by simp, fun y => by simp⟩
    · unfold KeysOf
      rw [putK_new v hn, List.map_append, List.map_append, h]; rfl
    · rw [List.nodup_append]
      exact ⟨nd, by simp, fun a ha b hb => by rw [List.mem_singleton.mp hb]; intro e; exact hin (e ▸ ha)⟩
theorem rows_of_keys {H : Hp} : ∀ {kvs : List (List Key × V)} {bs : List Addr} {us : List Wd}, IsKeys H kvs bs → KeysOf kvs us → ∃ ks : List Row, refs ks = bs.map V.ref ∧ wds ks = us ∧ RT H ks
  | [], _, us, .nil, h => by
    have : us = [] := by
      cases us with
      | nil => rfl
      | cons x l => cases h
    subst this
    exact ⟨[], rfl, rfl, RT.nil⟩
  | p :: kvs, _, us, .cons (b := b) (l₂ := bs) h1 h2, h => by
    cases us with
    | nil => cases h
    | cons x us =>
      have h' := List.cons.inj h
      obtain ⟨ks, e1, e2, e3⟩ := rows_of_keys (kvs := kvs) (us := us) h2 h'.2
      refine ⟨(b, x) :: ks, ?_, ?_, fun r hr => ?_⟩
      · show V.ref b :: refs ks = _; rw [e1]; rfl
      · show x :: wds ks = _; rw [e2]
      · rcases List.mem_cons.mp hr with rfl | hr
        · show H b = some (.tup (x.map V.int))
          rw [← wkey x]
          have e : p.1 = x.map Sum.inl := h'.1
          rw [← e]
          exact h1
        · exact e3 r hr
/-- words that lie as lists or tuples -/
structure LWW (H : Hp) (a : Addr) (ks : List Row) : Prop where
  at_ : H a = some (.lst (refs ks))
  ws : ∀ p ∈ ks, WAt H p.1 p.2
theorem LWW.mono {H H' : Hp} {a : Addr} {ks : List Row} (h : LWW H a ks) (e : Ex H H') : LWW H' a ks := ⟨e _ _ h.at_, fun p hp => (h.ws p hp).mono e⟩
def spUnl : Sp := fun vs H Q _ => ∃ (q : Int) (n : Nat) (a : Addr) (ks : List Row), vs = [.int q, .int (n : Nat), .ref a] ∧ LWW H a ks ∧ (∀ x ∈ wds ks, x.length = n ∧ ∀ l ∈ x, 0 ≤ l ∧ l < q) ∧ n ≤ 1000 ∧ ks.length ≤ 60 ∧
  ∀ p ks' H', Ex H H' → TW H' p ks' → wds ks' = sortU (wds ks) → Q (.ref p) H'
theorem c_unlike_words (F : Facts K mg CP CB) : C8.Cal P w K mg base 4 "unlike_words" spUnl [] := by
  obtain ⟨f, fd, D, b⟩ := F.d_unlike_words
  obtain ⟨CW, gW⟩ := F.bw
  have c_exact_word := c_exact_word (P := P) (w := w) (base := base) F
  refine C8.cal0 D b .nil sc_unlike_words (fun vs H Q E h => ?_) (fun cdv A outer s H vs Q E hr h => ?_)
  · obtain ⟨q, n, a, ks, rfl, _⟩ := h
    rfl
  · obtain ⟨q, n, a, ks, rfl, lw, hw, hn, hk, k⟩ := h
    refine ⟨_, (pss_cons (ps_if (pt_not (pt_val (pe_callB (cr_isiTK (K := K) rfl) (by rfl) F.n_isinstance (by decide +kernel) (pa_cons (pv 2) (pa_cons (pe_tup (pa_cons (pe_bltn (v := V.ty "list") (u := Value.type "list") (by rfl) F.n_list (by decide +kernel) rfl) (pa_cons (pe_bltn (v := V.ty "tuple") (u := Value.type "tuple") (by rfl) F.n_tuple (by decide +kernel) rfl) pa_nil))) pa_nil))))) (pss_one ps_never) pss_nil)
  (pss_cons (ps_set (i := 3) sc_unlike_words.nd rfl (Or.inl rfl) pe_dnewT)
  (pss_cons (ps_for PassesOwn.never rfl (pi_listK (K := K) rfl (pv 2)) (pg_name (i := 4) sc_unlike_words.nd rfl (Or.inl rfl))
    (pss_one (ps_try_only (c := .ref CW) rfl rfl ⟨rfl, by decide, .inl gW⟩ takes0 (fun W pn xe tk _ => (pss_one (ps_dput (hu_of hr) (pv 3) (C8.pe_c c_exact_word hr (by decide) (by rfl) (pa_cons (pv 0) (pa_cons (pv 1) (pa_cons (pv 4) pa_nil)))) pe_bl rfl))) (fun a oe cls d pn _ _ => (pss_one ps_never)))))
  (pss_cons (ps_if (pt_cmpR op_gt (pe_callB call_len_dT (by rfl) F.n_len (by decide +kernel) (pa_cons (pv 3) pa_nil)) (C8.pe_gc (by rfl) F.g_MOST_MEMBERS) (nomark _)) (pss_one ps_never) pss_nil)
  (pss_one (ps_ret (pe_callTy (cr_tupleK (K := K) rfl) (by rfl) F.n_tuple (by decide +kernel) (pa_cons (pe_callB (cr_sortLK (K := K) rfl) (by rfl) F.n_sorted (by decide +kernel) (pa_cons (pe_callTy (QK.call_list_keysT rfl) (by rfl) F.n_list (by decide +kernel) (pa_cons (pe_bm0 PySem.F.plainAttrs_dict PySem.F.slot_dict_keys PySem.F.type_dict_keys QK.mt_keysT (pv 3)) pa_nil)) pa_nil)) pa_nil)))))))), ?_⟩
    refine ⟨_, rfl, by decide, fun tp htp => ?_⟩
    have e0 : Ex H _ := Ex.new (o := .tup [.ty "list", .ty "tuple"]) htp
    refine ⟨_, tp, _, _, [.type "list", .type "tuple"], true, rfl, upd_same, .cons (.ty _) (.cons (.ty _) .nil), .base (.lst (e0 _ _ lw.at_)), kitAny_cons (b := true) (kit_ty (by decide +kernel)) (fun z => nomatch z) (fun _ => rfl), true, rfl, ?_⟩
    refine iteF ?_
    intro d hd
    have e1 := e0.trans (Ex.new (o := .dT []) hd)
    have hd0 : H d = none := fresh_back e0 hd
    have lr : (refs ks).length = ks.length := List.length_map _
    refine ⟨_, rfl, a, rfl, ⟨_, SqL.of (e1 _ _ lw.at_)⟩, ?_⟩
    refine for_list (xs := refs ks) (fun i σ H' => ∃ kvs us x, σ = [some (.int q), some (.int (n : Nat)), some (.ref a), some (.ref d), x] ∧ Ex H H' ∧ H' d = some (.dT kvs) ∧ KeysOf kvs us ∧ us.Nodup ∧ us.length ≤ i ∧ ∀ y, y ∈ us ↔ y ∈ (wds ks).take i) ⟨[], [], none, rfl, e1, upd_same, rfl, List.nodup_nil, Nat.le_refl _, fun y => by simp⟩ (fun i σ H' _ ⟨_, _, _, _, e, _⟩ => SqL.of (e _ _ lw.at_)) ?_ ?_
    · rintro i v σ H1 hi ⟨kvs, us, x, rfl, e2, h2, ku, nd, lu, mem⟩
      obtain ⟨⟨b, bs⟩, rfl, hb⟩ := map_at hi
      have il := (List.getElem?_eq_some_iff.mp hb).1
      have hbw : (wds ks)[i]? = some bs := by rw [List.getElem?_map, hb]; rfl
      obtain ⟨w1, w2⟩ := hw bs (List.mem_of_getElem? hbw)
      have hat := (lw.ws _ (List.mem_of_getElem? hb)).mono e2
      refine ⟨_, rfl, _, rfl, _, rfl, _, rfl, q, n, b, bs, rfl, hat, w1, hn, w2, fun p H3 e3 h3 => ?_⟩
      obtain ⟨us', ku', nd', lu', mem'⟩ := keys_put ku bs (.bl true)
      have lk : kvs.length = us.length := by
        have := congrArg List.length ku
        simpa using this
      refine ⟨d, _, rfl, DPut.t (e3 _ _ h2) (by rw [wkey]; exact h3) (by rw [lk]; exact sz_lt (by omega)), _, us', _, rfl, Ex.mut (e2.trans e3) hd0, upd_same, ku', nd' nd, by omega, fun y => ?_⟩
      rw [mem', mem, List.take_add_one, hbw, List.mem_append]
      simp
    · rintro σ H1 ⟨kvs, us, x, rfl, e2, h2, ku, nd, lu, mem⟩
      have lw2 : (wds ks).length = ks.length := List.length_map _
      rw [lr, ← lw2, List.take_length] at mem
      have lk : kvs.length = us.length := by
        have := congrArg List.length ku
        simpa using this
      rw [lr] at lu
      refine ⟨_, rfl, d, kvs, rfl, h2, _, _, rfl, rfl, _, rfl, ?_⟩
      refine ev_F (decide_eq_false (by omega)) ?_
      refine ⟨_, rfl, .inr (.inr (.inl ⟨rfl, .inr ⟨_, h2⟩⟩)), d, kvs, rfl, rfl, h2, fun v hv => ?_⟩
      have e3 : Ex H1 _ := Ex.new (o := QK.keysO v d) hv
      refine ⟨v, d, kvs, rfl, upd_same, e3 _ _ h2, fun p bs hp ik => ?_⟩
      have e4 := e3.trans (Ex.new (o := .lst (bs.map V.ref)) hp)
      obtain ⟨rs, r1, r2, r3⟩ := rows_of_keys ik ku
      have r3' := r3.mono (Ex.new (o := .lst (bs.map V.ref)) hp)
      refine ⟨p, rs, rfl, SqL.of (by show _ = some (HO.lst (refs rs)); rw [upd_same, r1]), r3'.rows, noEmpty_of (by rw [r2]; exact nd) ?_, fun ks' p2 S hp2 => ?_⟩
      · rw [r2]
        exact new_len (n := n) fun y hy => (hw y ((mem y).mp hy)).1
      have e5 := e4.trans (Ex.new (o := .lst (refs ks')) hp2)
      refine ⟨p2, _, rfl, .inl ⟨SqL.of upd_same, fun t ht => ?_⟩⟩
      refine k t ks' _ ((e2.trans e5).trans (Ex.new ht)) ⟨upd_same, ?_⟩ ?_
      · exact ((r3'.mono (Ex.new hp2)).mono (Ex.new ht)).sub fun r hr => S.perm.mem_iff.mp hr
      · exact sorted_wds S (by rw [r2]; exact nd) fun y => by rw [r2]; exact mem y
/-- a book stands at a -/
structure BookAt (H : Hp) (CB a : Addr) (q n : Int) (ks : List Row) : Prop where
  ex : ∃ (dx t : Addr), H a = some (.ins CB dx (bFlds q n t ks.length)) ∧ TW H t ks
theorem BookAt.mono {H H' : Hp} {a : Addr} {q n : Int} {ks : List Row} (h : BookAt H CB a q n ks) (e : Ex H H') : BookAt H' CB a q n ks := by
  obtain ⟨dx, t, h1, h2⟩ := h.ex
  exact ⟨dx, t, e _ _ h1, h2.mono e⟩
def spBookInit (CB : Addr) : Sp := fun vs H Q _ => ∃ (x dx : Addr) (q : Int) (n : Nat) (a : Addr) (ks : List Row), vs = [.ref x, .int q, .int (n : Nat), .ref a] ∧ H x = some (.ins CB dx []) ∧ LWW H a ks ∧ (∀ x ∈ wds ks, x.length = n ∧ ∀ l ∈ x, 0 ≤ l ∧ l < q) ∧ 2 ≤ q ∧ q ≤ 4 ∧ n ≤ 24 ∧ ks.length ≤ 60 ∧
  ∀ ks' H', BookAt H' CB x q (n : Nat) ks' → wds ks' = sortU (wds ks) → (∀ b o, b ≠ x → H b = some o → H' b = some o) → Q .non H'
theorem m_Book (F : Facts K mg CP CB) : C8.Mak P w K mg base 5 "Book" CB (spBookInit CB) [] := by
  obtain ⟨f, fd, M, hm, D, b⟩ := F.bi
  have c_is_whole := c_is_whole (P := P) (w := w) (base := base) F
  have c_unlike_words := c_unlike_words (P := P) (w := w) (base := base) F
  refine C8.mak0 M hm D b .nil sc_Book___init__ (fun vs H Q E h => ?_) (fun cdv A outer s H vs Q E hr h => ?_)
  · obtain ⟨x, dx, q, n, a, ks, rfl, _⟩ := h
    rfl
  · obtain ⟨x, dx, q, n, a, ks, rfl, hx, lw, hw, q1, q2, n1, hk, k⟩ := h
    refine ⟨_, (pss_cons (ps_if (pt_not (pt_val (C8.pe_c c_is_whole hr (by decide) (by rfl) (pa_cons (pv 1) (pa_cons pe_int (pa_cons pe_int pa_nil)))))) (pss_one ps_never) pss_nil)
  (pss_cons (ps_if (pt_not (pt_val (C8.pe_c c_is_whole hr (by decide) (by rfl) (pa_cons (pv 2) (pa_cons pe_int (pa_cons (C8.pe_gc (by rfl) F.g_MOST_LENGTH) pa_nil)))))) (pss_one ps_never) pss_nil)
  (pss_cons (ps_fld (pv 0) (pv 1) rfl)
  (pss_cons (ps_fld (pv 0) (pv 2) rfl)
  (pss_cons (ps_fld (pv 0) (C8.pe_c c_unlike_words hr (by decide) (by rfl) (pa_cons (pv 1) (pa_cons (pv 2) (pa_cons (pv 3) pa_nil)))) rfl)
  (pss_one (ps_fld (pv 0) (pe_callB (cr_lenK (K := K) rfl) (by rfl) F.n_len PySem.boot_len (pa_cons (pe_fldK (K := K) rfl (pv 0) rfl) pa_nil)) rfl))))))), ?_⟩
    have T := F.i_Book.cl
    refine ⟨_, rfl, q, 2, 4, rfl, true, by rw [decide_eq_true (by omega)], ?_⟩
    refine iteF ?_
    refine ⟨_, rfl, (n : Nat), 0, 24, rfl, true, by rw [decide_eq_true (by omega)], ?_⟩
    refine iteF ?_
    have xa : x ≠ a := ne_obj hx lw.at_ fun z => by cases z
    have xw : ∀ p ∈ ks, x ≠ p.1 := fun p hp => by
      rcases lw.ws p hp with h | h
      · exact ne_obj hx h fun z => by cases z
      · exact ne_obj hx h fun z => by cases z
    have keep : ∀ {o u : HO} {H0 : Hp}, LWW H0 a ks → LWW (upd H0 x o) a ks := fun {o u H0} l => ⟨by rw [upd_ne xa.symm]; exact l.at_, fun p hp => by
      unfold WAt
      rw [upd_ne (xw p hp).symm]
      exact l.ws p hp⟩
    refine ⟨_, rfl, _, rfl, x, CB, dx, _, rfl, hx, T, F.b_letters, (by show 0 < 1000; decide), ?_⟩
    refine ⟨_, rfl, _, rfl, x, CB, dx, _, rfl, upd_same, T, F.b_length, (by show 1 < 1000; decide), ?_⟩
    refine ⟨_, rfl, _, rfl, _, rfl, q, n, a, ks, rfl, keep (u := .own x) (keep (u := .own x) lw), hw, by omega, hk, fun t ks' H1 e1 tw es => ?_⟩
    have h1 := e1 _ _ upd_same
    have xt : t ≠ x := (ne_obj h1 tw.at_ fun z => by cases z).symm
    refine ⟨_, rfl, x, CB, dx, _, rfl, h1, T, F.b_words, (by show 2 < 1000; decide), ?_⟩
    refine ⟨_, rfl, x, CB, dx, _, _, rfl, upd_same, T, F.b_words, rfl, t, _, rfl, .inr (SqT.of (by rw [upd_ne xt]; exact tw.at_)), ?_⟩
    refine ⟨_, rfl, x, CB, dx, _, rfl, upd_same, T, F.b_size, (by show 3 < 1000; decide), ?_⟩
    have lr : (QT.refs ks').length = ks'.length := List.length_map _
    have rt : ∀ p ∈ ks', p.1 ≠ x := fun p hp => (ne_obj h1 (tw.rt p hp) fun z => by cases z).symm
    refine k ks' _ ⟨dx, t, ?_, ?_, fun p hp => ?_⟩ es fun b o hb e => ?_
    · rw [upd_same, lr]; rfl
    · rw [upd_ne xt, upd_ne xt]; exact tw.at_
    · rw [upd_ne (rt p hp), upd_ne (rt p hp)]; exact tw.rt p hp
    · rw [upd_ne hb, upd_ne hb]
      exact e1 _ _ (by rw [upd_ne hb, upd_ne hb]; exact e)
end
end LP
end

section
set_option Elab.async false
set_option linter.all false
/-! pairs of words -/
namespace MR
def minO (acc s : Option Int) : Option Int := match s with
  | none => acc
  | some v => match acc with
    | none => some v
    | some m => if v < m then some v else some m
theorem minO_lt {y v : Int} (h : v < y) : minO (some y) (some v) = some v := by show (if v < y then some v else some y) = _; rw [if_pos h]
theorem minO_ge {y v : Int} (h : ¬ v < y) : minO (some y) (some v) = some y := by show (if v < y then some v else some y) = _; rw [if_neg h]
/-- f of the earlier and the later word -/
def leastIn (f : Wd → Wd → Option Int) (ws : List Wd) (other : Wd) (j : Nat) (acc : Option Int) : Option Int := (ws.take j).foldl (fun acc one => minO acc (f one other)) acc
def leastUp (f : Wd → Wd → Option Int) (ws : List Wd) : Nat → Option Int
  | 0 => none
  | i + 1 => leastIn f ws (ws.getD i []) i (leastUp f ws i)
def halfO (s : Option Int) : Option Int := s.map fun i => i / 2
def orN (n : Int) : Option Int → Int
  | none => n
  | some m => m - 1
def runsBorneM (n : Int) (ws : List Wd) : Int := orN n (leastUp (fun one other => halfO (stepsM one other)) ws ws.length)
def lawRunsBorneM (n : Int) (ws : List Wd) : Int := orN n (leastUp (fun one other => apartM other one) ws ws.length)
def borneIn (n : Int) (ws : List Wd) (other : Wd) (j : Nat) (acc : Int) : Int := (ws.take j).foldl (fun acc one => minP acc (n - 1 - commonM other one)) acc
def borneUp (n : Int) (ws : List Wd) : Nat → Int
  | 0 => n
  | i + 1 => borneIn n ws (ws.getD i []) i (borneUp n ws i)
def lawBorneM (n : Int) (ws : List Wd) : Int := borneUp n ws ws.length
def couplesUp (ws : List Wd) : Nat → List (Wd × Wd)
  | 0 => []
  | i + 1 => couplesUp ws i ++ (ws.drop (i + 1)).map fun b => (ws.getD i [], b)
def couplesM (ws : List Wd) : List (Wd × Wd) := couplesUp ws ws.length
def borneOfM (n : Int) (ws : List Wd) : Int := (couplesM ws).foldl (fun acc p => minP acc (p.1.length - longestM p.1 p.2)) (n + 1) - 1
theorem foldl_takeA {α β : Type} {f : α → β → α} {z : α} {w : List β} {i : Nat} {x : β} (h : w[i]? = some x) : (w.take (i + 1)).foldl f z = f ((w.take i).foldl f z) x := by
  rw [List.take_add_one, h, List.foldl_append]
  rfl
theorem getD_some {ws : List Wd} {i : Nat} {x : Wd} (h : ws[i]? = some x) : ws.getD i [] = x := by
  rw [List.getD_eq_getElem?_getD, h]; rfl
theorem couplesUp_len (ws : List Wd) : ∀ i, (couplesUp ws i).length ≤ i * ws.length
  | 0 => by simp [couplesUp]
  | i + 1 => by
    have := couplesUp_len ws i
    unfold couplesUp
    rw [List.length_append, List.length_map, List.length_drop, Nat.add_mul]
    omega
end MR
end

section
set_option Elab.async false
set_option linter.all false
set_option maxRecDepth 100000
set_option maxHeartbeats 4000000
namespace LP
open PySem L2 PyProof.Rows PySem.Spec Evl MR
section
variable {P : Program} {w : World} {K : PySem.W.Frag} {mg : Str → Option Value} {base : Heap} {CP CB : Addr}
/-- words of at most m letters below 4 -/
def Low (m : Nat) (ws : List Wd) : Prop := ∀ x ∈ ws, x.length ≤ m ∧ ∀ l ∈ x, 0 ≤ l ∧ l < 4
theorem wd_at {ks : List Row} {i : Nat} {b : Addr} {bs : Wd} (h : ks[i]? = some (b, bs)) : (wds ks)[i]? = some bs := by rw [List.getElem?_map, h]; rfl
theorem refs_take (ks : List Row) (i : Nat) : (refs ks).take i = refs (ks.take i) := by unfold refs QT.refs; rw [List.map_take]
theorem refs_drop (ks : List Row) (i : Nat) : (refs ks).drop i = refs (ks.drop i) := by unfold refs QT.refs; rw [List.map_drop]
def spRunsBorne (CB : Addr) : Sp := fun vs H Q _ => ∃ (a : Addr) (q : Int) (n : Nat) (ks : List Row), vs = [.ref a] ∧ BookAt H CB a q (n : Nat) ks ∧ Low 24 (wds ks) ∧ ks.length ≤ 100 ∧ ∀ H', Ex H H' → Q (.int (runsBorneM (n : Nat) (wds ks))) H'
theorem c_runs_borne (F : Facts K mg CP CB) : C8.Cal P w K mg base 5 "runs_borne" (spRunsBorne CB) [] := by
  obtain ⟨f, fd, D, b⟩ := F.d_runs_borne
  have c_run_steps := c_run_steps (P := P) (w := w) (base := base) F
  refine C8.cal0 D b .nil sc_runs_borne (fun vs H Q E h => ?_) (fun cdv A outer s H vs Q E hr h => ?_)
  · obtain ⟨a, q, n, ks, rfl, _⟩ := h
    rfl
  · obtain ⟨a, q, n, ks, rfl, bk, low, hk, k⟩ := h
    refine ⟨_, (pss_cons (ps_set (i := 1) sc_runs_borne.nd rfl (Or.inl rfl) pe_non)
  (pss_cons (ps_for PassesOwn.never rfl (QE.pi_enumT (by rfl) F.n_enumerate (pa_cons (pe_fldK (K := K) rfl (pv 0) rfl) pa_nil)) (pg_tup2 (K := K) rfl rfl (pgs_cons (pg_name (i := 2) sc_runs_borne.nd rfl (Or.inl rfl)) (pgs_cons (pg_name (i := 3) sc_runs_borne.nd rfl (Or.inl rfl)) pgs_nil)))
    (pss_one (ps_for PassesOwn.never rfl (pi_tupK (K := K) rfl (pe_slice (sl_tupK (K := K) rfl) (pe_fldK (K := K) rfl (pv 0) rfl) po_none (po_some (pv 2)))) (pg_name (i := 4) sc_runs_borne.nd rfl (Or.inl rfl))
    (pss_cons (ps_set (i := 5) sc_runs_borne.nd rfl (Or.inl rfl) (C8.pe_c c_run_steps hr (by decide) (by rfl) (pa_cons (pv 4) (pa_cons (pv 3) pa_nil))))
  (pss_one (ps_if (PW.pt (pw_and (pt_cmpR op_notN (pv 5) pe_non (nomark _)) (pw_and1 (PW.pt (pw_or (pt_cmpR op_isN (pv 1) pe_non (nomark _)) (pw_or1 (pt_cmpR op_lt (pe_op op_fdiv (pv 5) pe_int) (pv 1) (nomark _)))))))) (pss_one (ps_set (i := 1) sc_runs_borne.nd rfl (Or.inl rfl) (pe_op op_fdiv (pv 5) pe_int))) pss_nil))))))
  (pss_one (ps_ret (pe_ifExp (pt_cmpR op_isN (pv 1) pe_non (nomark _)) (pe_fldK (K := K) rfl (pv 0) rfl) (pe_op op_sub (pv 1) pe_int)))))), ?_⟩
    have T := F.i_Book.cl
    obtain ⟨dx, t, ha, tw⟩ := bk.ex
    have lr : (refs ks).length = ks.length := List.length_map _
    have lw2 : (wds ks).length = ks.length := List.length_map _
    refine ⟨_, rfl, a, CB, dx, _, _, rfl, ha, T, F.b_words, bf3, t, _, rfl, SqT.of tw.at_, ?_⟩
    refine for_it (QE.walk_enumT (xs := refs ks)) (fun i σ H' => ∃ x2 x3 x4 x5, σ = [some (.ref a), some (vO (leastUp (fun one other => halfO (stepsM one other)) (wds ks) i)), x2, x3, x4, x5] ∧ Ex H H') ⟨none, none, none, none, rfl, Ex.refl H⟩ (fun i σ H' _ ⟨_, _, _, _, _, e⟩ => SqT.of (e _ _ tw.at_)) ?_ ?_
    · rintro i v σ H1 H2 hi ⟨x2, x3, x4, x5, rfl, e1⟩ ⟨T', x1, y1, rfl, hT, rfl, ex, ey⟩
      cases ex
      obtain ⟨⟨b, bs⟩, rfl, hb⟩ := map_at ey
      have e2 := e1.trans (Ex.new (o := .tup [.int (i : Nat), .ref b]) hT)
      have hbw := wd_at hb
      have hbt := tw.rt _ (List.mem_of_getElem? hb)
      obtain ⟨b1, b2⟩ := low bs (List.mem_of_getElem? hbw)
      refine ⟨T', _, rfl, st_of upd_same, rfl, _, _, rfl, _, _, rfl, rfl, ?_⟩
      refine ⟨_, rfl, a, CB, dx, _, _, rfl, e2 _ _ ha, T, F.b_words, bf3, _, rfl, _, rfl, ?_⟩
      refine cut_of (e2 _ _ tw.at_) fun p H3 e3 h3 => ?_
      rw [cut_nn (by omega), refs_take] at h3
      have e13 := e2.trans e3
      refine ⟨p, rfl, ⟨_, SqT.of h3⟩, ?_⟩
      refine for_tup (xs := refs (ks.take i)) (fun j σ H' => ∃ x4 x5, σ = [some (.ref a), some (vO (leastIn (fun one other => halfO (stepsM one other)) (wds ks) bs j (leastUp (fun one other => halfO (stepsM one other)) (wds ks) i))), some (.int (i : Nat)), some (.ref b), x4, x5] ∧ Ex H3 H') ⟨x4, x5, rfl, Ex.refl H3⟩ (fun j σ H' _ ⟨_, _, _, e⟩ => SqT.of (e _ _ h3)) ?_ ?_
      · rintro j v σ H4 hv ⟨x4, x5, rfl, e4⟩
        obtain ⟨⟨c, cs⟩, rfl, hc⟩ := map_at hv
        have hj : j < i := by
          have := (List.getElem?_eq_some_iff.mp hc).1
          rw [List.length_take] at this
          omega
        rw [List.getElem?_take_of_lt hj] at hc
        have hcw := wd_at hc
        have hct := tw.rt _ (List.mem_of_getElem? hc)
        obtain ⟨c1, c2⟩ := low cs (List.mem_of_getElem? hcw)
        have e14 := e13.trans e4
        refine ⟨_, rfl, _, rfl, c, b, cs, bs, rfl, e14 _ _ hct, e14 _ _ hbt, c1, b1, c2, b2, fun H5 e5 => ?_⟩
        have est : leastIn (fun one other => halfO (stepsM one other)) (wds ks) bs (j + 1) (leastUp (fun one other => halfO (stepsM one other)) (wds ks) i) = minO (leastIn (fun one other => halfO (stepsM one other)) (wds ks) bs j (leastUp (fun one other => halfO (stepsM one other)) (wds ks) i)) (halfO (stepsM cs bs)) := by
          unfold leastIn
          rw [foldl_takeA hcw]
        rw [est]
        generalize leastIn (fun one other => halfO (stepsM one other)) (wds ks) bs j (leastUp (fun one other => halfO (stepsM one other)) (wds ks) i) = acc
        have e35 := e4.trans e5
        unfold stepsV
        refine ⟨_, rfl, rfl, _, rfl, ?_⟩
        cases hs : stepsM cs bs with
        | none =>
          refine ev_F rfl ?_
          refine iteF ?_
          exact ⟨_, _, rfl, e35⟩
        | some z =>
          refine ev_T rfl ?_
          refine ⟨_, rfl, rfl, _, rfl, ?_⟩
          cases acc with
          | none =>
            refine ev_T rfl ?_
            refine iteT ?_
            exact ⟨_, rfl, _, _, rfl, rfl, ⟨by decide, by decide⟩, _, _, rfl, e35⟩
          | some y =>
            refine ev_F rfl ?_
            refine ⟨_, rfl, _, _, rfl, rfl, ⟨by decide, by decide⟩, _, rfl, _, _, rfl, rfl, _, rfl, ?_⟩
            by_cases hlt : z / 2 < y
            · refine ev_T (decide_eq_true hlt) ?_
              refine ⟨_, rfl, _, _, rfl, rfl, ⟨by decide, by decide⟩, some (.ref c), some (.int z), ?_, e35⟩
              show _ = [_, some (vO (minO (some y) (some (z / 2)))), _, _, _, _]
              rw [minO_lt hlt]; rfl
            · refine ev_F (decide_eq_false hlt) ?_
              refine ⟨some (.ref c), some (.int z), ?_, e35⟩
              show _ = [_, some (vO (minO (some y) (some (z / 2)))), _, _, _, _]
              rw [minO_ge hlt]; rfl
      · rintro σ H4 ⟨x4, x5, rfl, e4⟩
        refine ⟨some (.int (i : Nat)), some (.ref b), x4, x5, ?_, e13.trans e4⟩
        have lt : (refs (ks.take i)).length = i := by
          have hi' : i < ks.length := by rw [← lr]; exact hi
          rw [List.length_map, List.length_take]
          omega
        rw [lt]
        show _ = [_, some (vO (leastIn _ (wds ks) ((wds ks).getD i []) i _)), _, _, _, _]
        rw [getD_some hbw]
    · rintro σ H1 ⟨x2, x3, x4, x5, rfl, e1⟩
      have := k H1 e1
      unfold runsBorneM at this
      rw [lw2] at this
      rw [lr]
      generalize leastUp (fun one other => halfO (stepsM one other)) (wds ks) ks.length = acc at this
      refine ⟨_, rfl, rfl, _, rfl, ?_⟩
      cases acc with
      | none =>
        refine ev_T rfl ?_
        exact ⟨_, rfl, a, CB, dx, _, _, rfl, e1 _ _ ha, T, F.b_length, bf2, this⟩
      | some m =>
        refine ev_F rfl ?_
        exact ⟨_, rfl, _, _, rfl, rfl, this⟩
def spBears (CB : Addr) : Sp := fun vs H Q _ => ∃ (a : Addr) (q m : Int) (n : Nat) (ks : List Row), vs = [.ref a, .int m] ∧ BookAt H CB a q (n : Nat) ks ∧ Low 24 (wds ks) ∧ ks.length ≤ 100 ∧ 0 ≤ m ∧ m ≤ n ∧ ∀ H', Ex H H' → Q (.bl (decide (m ≤ runsBorneM (n : Nat) (wds ks)))) H'
theorem c_bears_runs (F : Facts K mg CP CB) : C8.Cal P w K mg base 6 "bears_runs" (spBears CB) [] := by
  obtain ⟨f, fd, D, b⟩ := F.d_bears_runs
  have c_check_number := c_check_number (P := P) (w := w) (base := base) F
  have c_runs_borne := c_runs_borne (P := P) (w := w) (base := base) F
  refine C8.cal0 D b .nil sc_bears_runs (fun vs H Q E h => ?_) (fun cdv A outer s H vs Q E hr h => ?_)
  · obtain ⟨a, q, m, n, ks, rfl, _⟩ := h
    rfl
  · obtain ⟨a, q, m, n, ks, rfl, bk, low, hk, m0, mn, k⟩ := h
    refine ⟨_, (pss_cons (ps_expr (C8.pe_c c_check_number hr (by decide) (by rfl) (pa_cons (pv 1) (pa_cons pe_int (pa_cons (pe_fldK (K := K) rfl (pv 0) rfl) pa_nil)))))
  (pss_one (ps_ret (pe_cmpR op_le (pv 1) (C8.pe_c c_runs_borne hr (by decide) (by rfl) (pa_cons (pv 0) pa_nil)) (nomark _))))), ?_⟩
    have T := F.i_Book.cl
    obtain ⟨dx, t, ha, tw⟩ := id bk.ex
    refine ⟨_, rfl, _, rfl, a, CB, dx, _, _, rfl, ha, T, F.b_length, bf2, m, 0, n, rfl, m0, mn, ?_⟩
    exact ⟨_, rfl, _, rfl, a, q, n, ks, rfl, bk, low, hk, fun H1 e1 => ⟨_, _, rfl, rfl, k H1 e1⟩⟩
/-- _law_runs_borne -/
def spLawRB : Sp := fun vs H Q _ => ∃ (a : Addr) (n : Int) (ks : List Row), vs = [.int n, .ref a] ∧ LW H a ks ∧ Low 24 (wds ks) ∧ ks.length ≤ 100 ∧ ∀ H', Ex H H' → Q (.int (lawRunsBorneM n (wds ks))) H'
theorem c__law_runs_borne (F : Facts K mg CP CB) : C8.Cal P w K mg base 4 "_law_runs_borne" spLawRB [] := by
  obtain ⟨f, fd, D, b⟩ := F.d__law_runs_borne
  have c__law_apart := c__law_apart (P := P) (w := w) (base := base) F
  refine C8.cal0 D b .nil sc__law_runs_borne (fun vs H Q E h => ?_) (fun cdv A outer s H vs Q E hr h => ?_)
  · obtain ⟨a, n, ks, rfl, _⟩ := h
    rfl
  · obtain ⟨a, n, ks, rfl, lw, low, hk, k⟩ := h
    refine ⟨_, (pss_cons (ps_set (i := 2) sc__law_runs_borne.nd rfl (Or.inl rfl) pe_non)
  (pss_cons (ps_for PassesOwn.never rfl (pi_range1 (by rfl) F.n_range (pa_cons (pe_callB (cr_lenK (K := K) rfl) (by rfl) F.n_len PySem.boot_len (pa_cons (pv 1) pa_nil)) pa_nil)) (pg_name (i := 3) sc__law_runs_borne.nd rfl (Or.inl rfl))
    (pss_one (ps_for PassesOwn.never rfl (pi_range1 (by rfl) F.n_range (pa_cons (pv 3) pa_nil)) (pg_name (i := 4) sc__law_runs_borne.nd rfl (Or.inl rfl))
    (pss_cons (ps_set (i := 5) sc__law_runs_borne.nd rfl (Or.inl rfl) (C8.pe_c c__law_apart hr (by decide) (by rfl) (pa_cons (pe_ix (ix_listK (K := K) rfl) (pv 1) (pv 3) (fun _ _ => rfl)) (pa_cons (pe_ix (ix_listK (K := K) rfl) (pv 1) (pv 4) (fun _ _ => rfl)) pa_nil))))
  (pss_one (ps_if (PW.pt (pw_and (pt_cmpR op_notN (pv 5) pe_non (nomark _)) (pw_and1 (PW.pt (pw_or (pt_cmpR op_isN (pv 2) pe_non (nomark _)) (pw_or1 (pt_cmpR op_lt (pv 5) (pv 2) (nomark _)))))))) (pss_one (ps_set (i := 2) sc__law_runs_borne.nd rfl (Or.inl rfl) (pv 5))) pss_nil))))))
  (pss_one (ps_ret (pe_ifExp (pt_cmpR op_isN (pv 2) pe_non (nomark _)) (pv 0) (pe_op op_sub (pv 2) pe_int)))))), ?_⟩
    have lr : (refs ks).length = ks.length := List.length_map _
    have lw2 : (wds ks).length = ks.length := List.length_map _
    refine ⟨_, rfl, a, _, rfl, .inl (SqL.of lw.at_), ?_⟩
    rw [lr]
    refine ⟨_, rfl, by omega, by omega, ?_⟩
    rw [Int.toNat_natCast]
    refine for_range (lo := 0) (n := ks.length) (fun i σ H' => ∃ x3 x4 x5, σ = [some (.int n), some (.ref a), some (vO (leastUp (fun one other => apartM other one) (wds ks) i)), x3, x4, x5] ∧ Ex H H') ⟨none, none, none, rfl, Ex.refl H⟩ ?_ ?_
    · rintro i σ H1 hi ⟨x3, x4, x5, rfl, e1⟩
      rw [Int.zero_add]
      obtain ⟨⟨b, bs⟩, hb⟩ : ∃ r, ks[i]? = some r := ⟨_, List.getElem?_eq_getElem hi⟩
      have hbw := wd_at hb
      have hbt := lw.rt _ (List.mem_of_getElem? hb)
      obtain ⟨b1, b2⟩ := low bs (List.mem_of_getElem? hbw)
      refine ⟨_, rfl, _, rfl, by omega, by omega, ?_⟩
      rw [Int.toNat_natCast]
      refine for_range (lo := 0) (n := i) (fun j σ H' => ∃ x4 x5, σ = [some (.int n), some (.ref a), some (vO (leastIn (fun one other => apartM other one) (wds ks) bs j (leastUp (fun one other => apartM other one) (wds ks) i))), some (.int (i : Nat)), x4, x5] ∧ Ex H1 H') ⟨x4, x5, rfl, Ex.refl H1⟩ ?_ ?_
      · rintro j σ H4 hj ⟨x4, x5, rfl, e4⟩
        rw [Int.zero_add]
        obtain ⟨⟨c, cs⟩, hc⟩ : ∃ r, ks[j]? = some r := ⟨_, List.getElem?_eq_getElem (by omega)⟩
        have hcw := wd_at hc
        have hct := lw.rt _ (List.mem_of_getElem? hc)
        obtain ⟨c1, c2⟩ := low cs (List.mem_of_getElem? hcw)
        have e14 := e1.trans e4
        refine ⟨_, rfl, _, rfl, a, _, _, _, rfl, rfl, SqL.of (e14 _ _ lw.at_), atI_nat (at_map hb), _, rfl, _, rfl, a, _, _, _, rfl, rfl, SqL.of (e14 _ _ lw.at_), atI_nat (at_map hc), b, c, bs, cs, rfl, e14 _ _ hbt, e14 _ _ hct, by omega, by omega, b2, c2, fun H5 e5 => ?_⟩
        have est : leastIn (fun one other => apartM other one) (wds ks) bs (j + 1) (leastUp (fun one other => apartM other one) (wds ks) i) = minO (leastIn (fun one other => apartM other one) (wds ks) bs j (leastUp (fun one other => apartM other one) (wds ks) i)) (apartM bs cs) := by
          unfold leastIn
          rw [foldl_takeA hcw]
        rw [est]
        generalize leastIn (fun one other => apartM other one) (wds ks) bs j (leastUp (fun one other => apartM other one) (wds ks) i) = acc
        have e35 := e4.trans e5
        unfold apartV
        refine ⟨_, rfl, rfl, _, rfl, ?_⟩
        cases hs : apartM bs cs with
        | none =>
          refine ev_F rfl ?_
          refine iteF ?_
          exact ⟨_, _, rfl, e35⟩
        | some z =>
          refine ev_T rfl ?_
          refine ⟨_, rfl, rfl, _, rfl, ?_⟩
          cases acc with
          | none =>
            refine ev_T rfl ?_
            refine iteT ?_
            exact ⟨_, rfl, _, _, rfl, e35⟩
          | some y =>
            refine ev_F rfl ?_
            refine ⟨_, rfl, _, rfl, _, _, rfl, rfl, _, rfl, ?_⟩
            by_cases hlt : z < y
            · refine ev_T (decide_eq_true hlt) ?_
              refine ⟨_, rfl, some (.int (j : Nat)), some (.int z), ?_, e35⟩
              rw [minO_lt hlt]; rfl
            · refine ev_F (decide_eq_false hlt) ?_
              refine ⟨some (.int (j : Nat)), some (.int z), ?_, e35⟩
              rw [minO_ge hlt]; rfl
      · rintro σ H4 ⟨x4, x5, rfl, e4⟩
        refine ⟨some (.int (i : Nat)), x4, x5, ?_, e1.trans e4⟩
        show _ = [_, _, some (vO (leastIn _ (wds ks) ((wds ks).getD i []) i _)), _, _, _]
        rw [getD_some hbw]
    · rintro σ H1 ⟨x3, x4, x5, rfl, e1⟩
      have := k H1 e1
      unfold lawRunsBorneM at this
      rw [lw2] at this
      generalize leastUp (fun one other => apartM other one) (wds ks) ks.length = acc at this
      refine ⟨_, rfl, rfl, _, rfl, ?_⟩
      cases acc with
      | none =>
        refine ev_T rfl ?_
        exact ⟨_, rfl, this⟩
      | some m =>
        refine ev_F rfl ?_
        exact ⟨_, rfl, _, _, rfl, rfl, this⟩
/-- _law_borne -/
def spLawB : Sp := fun vs H Q _ => ∃ (a : Addr) (n : Int) (ks : List Row), vs = [.int n, .ref a] ∧ LW H a ks ∧ Low 24 (wds ks) ∧ ks.length ≤ 100 ∧ ∀ H', Ex H H' → Q (.int (lawBorneM n (wds ks))) H'
theorem c__law_borne (F : Facts K mg CP CB) : C8.Cal P w K mg base 2 "_law_borne" spLawB [] := by
  obtain ⟨f, fd, D, b⟩ := F.d__law_borne
  have c__law_common := c__law_common (P := P) (w := w) (base := base) F
  refine C8.cal0 D b .nil sc__law_borne (fun vs H Q E h => ?_) (fun cdv A outer s H vs Q E hr h => ?_)
  · obtain ⟨a, n, ks, rfl, _⟩ := h
    rfl
  · obtain ⟨a, n, ks, rfl, lw, low, hk, k⟩ := h
    refine ⟨_, (pss_cons (ps_set (i := 2) sc__law_borne.nd rfl (Or.inl rfl) (pv 0))
  (pss_cons (ps_for PassesOwn.never rfl (pi_range1 (by rfl) F.n_range (pa_cons (pe_callB (cr_lenK (K := K) rfl) (by rfl) F.n_len PySem.boot_len (pa_cons (pv 1) pa_nil)) pa_nil)) (pg_name (i := 3) sc__law_borne.nd rfl (Or.inl rfl))
    (pss_one (ps_for PassesOwn.never rfl (pi_range1 (by rfl) F.n_range (pa_cons (pv 3) pa_nil)) (pg_name (i := 4) sc__law_borne.nd rfl (Or.inl rfl))
    (pss_one (ps_set (i := 2) sc__law_borne.nd rfl (Or.inl rfl) (pe_callB (call_min2 rfl) (by rfl) F.n_min (by decide +kernel) (pa_cons (pv 2) (pa_cons (pe_op op_sub (pe_op op_sub (pv 0) pe_int) (C8.pe_c c__law_common hr (by decide) (by rfl) (pa_cons (pe_ix (ix_listK (K := K) rfl) (pv 1) (pv 3) (fun _ _ => rfl)) (pa_cons (pe_ix (ix_listK (K := K) rfl) (pv 1) (pv 4) (fun _ _ => rfl)) pa_nil)))) pa_nil))))))))
  (pss_one (ps_ret (pv 2))))), ?_⟩
    have lr : (refs ks).length = ks.length := List.length_map _
    have lw2 : (wds ks).length = ks.length := List.length_map _
    refine ⟨_, rfl, _, rfl, a, _, rfl, .inl (SqL.of lw.at_), ?_⟩
    rw [lr]
    refine ⟨_, rfl, by omega, by omega, ?_⟩
    rw [Int.toNat_natCast]
    refine for_range (lo := 0) (n := ks.length) (fun i σ H' => ∃ x3 x4, σ = [some (.int n), some (.ref a), some (.int (borneUp n (wds ks) i)), x3, x4] ∧ Ex H H') ⟨none, none, rfl, Ex.refl H⟩ ?_ ?_
    · rintro i σ H1 hi ⟨x3, x4, rfl, e1⟩
      rw [Int.zero_add]
      obtain ⟨⟨b, bs⟩, hb⟩ : ∃ r, ks[i]? = some r := ⟨_, List.getElem?_eq_getElem hi⟩
      have hbw := wd_at hb
      have hbt := lw.rt _ (List.mem_of_getElem? hb)
      obtain ⟨b1, b2⟩ := low bs (List.mem_of_getElem? hbw)
      refine ⟨_, rfl, _, rfl, by omega, by omega, ?_⟩
      rw [Int.toNat_natCast]
      refine for_range (lo := 0) (n := i) (fun j σ H' => ∃ x4, σ = [some (.int n), some (.ref a), some (.int (borneIn n (wds ks) bs j (borneUp n (wds ks) i))), some (.int (i : Nat)), x4] ∧ Ex H1 H') ⟨x4, rfl, Ex.refl H1⟩ ?_ ?_
      · rintro j σ H4 hj ⟨x4, rfl, e4⟩
        rw [Int.zero_add]
        obtain ⟨⟨c, cs⟩, hc⟩ : ∃ r, ks[j]? = some r := ⟨_, List.getElem?_eq_getElem (by omega)⟩
        have hcw := wd_at hc
        have hct := lw.rt _ (List.mem_of_getElem? hc)
        obtain ⟨c1, c2⟩ := low cs (List.mem_of_getElem? hcw)
        have e14 := e1.trans e4
        have est : borneIn n (wds ks) bs (j + 1) (borneUp n (wds ks) i) = minP (borneIn n (wds ks) bs j (borneUp n (wds ks) i)) (n - 1 - commonM bs cs) := by
          unfold borneIn
          rw [foldl_takeA hcw]
        rw [est]
        refine ⟨_, rfl, _, rfl, _, _, rfl, rfl, _, rfl, _, rfl, a, _, _, _, rfl, rfl, SqL.of (e14 _ _ lw.at_), atI_nat (at_map hb), _, rfl, _, rfl, a, _, _, _, rfl, rfl, SqL.of (e14 _ _ lw.at_), atI_nat (at_map hc), b, c, bs, cs, rfl, e14 _ _ hbt, e14 _ _ hct, by omega, by omega, b2, c2, fun H5 e5 => ?_⟩
        exact ⟨_, _, rfl, rfl, _, _, rfl, some (V.int (j : Nat)), rfl, e4.trans e5⟩
      · rintro σ H4 ⟨x4, rfl, e4⟩
        refine ⟨some (V.int (i : Nat)), x4, ?_, e1.trans e4⟩
        show _ = [_, _, some (V.int (borneIn _ (wds ks) ((wds ks).getD i []) i _)), _, _]
        rw [getD_some hbw]
    · rintro σ H1 ⟨x3, x4, rfl, e1⟩
      have := k H1 e1
      unfold lawBorneM at this
      rw [lw2] at this
      exact ⟨_, rfl, this⟩
end
end LP
end

section
set_option Elab.async false
set_option linter.all false
/-! lengths of runs -/
namespace MR
def Cnt (rs : List (Int × Int)) : Prop := ∀ p ∈ rs, 1 ≤ p.2
theorem runStep_cnt {rs : List (Int × Int)} (h : Cnt rs) (x : Int) : Cnt (runStep rs x) := by
  unfold runStep
  split
  · rename_i y c hl
    have hm : (y, c) ∈ rs := List.mem_of_getLast? hl
    split
    · intro p hp
      rcases List.mem_append.mp hp with hp | hp
      · exact h p (List.dropLast_subset _ hp)
      · rw [List.mem_singleton.mp hp]
        have := h _ hm
        show 1 ≤ c + 1
        have : 1 ≤ c := this
        omega
    · intro p hp
      rcases List.mem_append.mp hp with hp | hp
      · exact h p hp
      · rw [List.mem_singleton.mp hp]; show (1 : Int) ≤ 1; omega
  · intro p hp
    rcases List.mem_append.mp hp with hp | hp
    · exact h p hp
    · rw [List.mem_singleton.mp hp]; show (1 : Int) ≤ 1; omega
theorem runStep_sum (rs : List (Int × Int)) (x : Int) : ((runStep rs x).map (·.2)).sum = (rs.map (·.2)).sum + 1 := by
  unfold runStep
  split
  · rename_i y c hl
    split
    · obtain ⟨ys, rfl⟩ := List.getLast?_eq_some_iff.mp hl
      rw [List.dropLast_concat]
      simp only [List.map_append, List.sum_append, List.map_cons, List.map_nil, List.sum_cons, List.sum_nil]
      omega
    · simp only [List.map_append, List.sum_append, List.map_cons, List.map_nil, List.sum_cons, List.sum_nil]
      omega
  · simp only [List.map_append, List.sum_append, List.map_cons, List.map_nil, List.sum_cons, List.sum_nil]
    omega
theorem foldl_cnt : ∀ (w : Wd) {rs : List (Int × Int)}, Cnt rs → Cnt (w.foldl runStep rs)
  | [], _, h => h
  | x :: w, rs, h => foldl_cnt w (runStep_cnt h x)
theorem foldl_sum : ∀ (w : Wd) (rs : List (Int × Int)), ((w.foldl runStep rs).map (·.2)).sum = (rs.map (·.2)).sum + w.length
  | [], rs => by simp
  | x :: w, rs => by
    rw [List.foldl_cons, foldl_sum w, runStep_sum]
    simp only [List.length_cons]
    omega
theorem lens_pos {w : Wd} : ∀ n ∈ lens w, 1 ≤ n := by
  intro n hn
  obtain ⟨p, hp, rfl⟩ := List.mem_map.mp hn
  exact foldl_cnt w (rs := []) (fun p hp => nomatch hp) p hp
theorem lens_sum (w : Wd) : (lens w).sum = w.length := by
  have := foldl_sum w []
  simpa [lens, runsL] using this
theorem sum_nonneg : ∀ {l : List Int}, (∀ n ∈ l, 0 ≤ n) → 0 ≤ l.sum
  | [], _ => by simp
  | x :: l, h => by
    have h1 := h x (List.mem_cons_self ..)
    have h2 := sum_nonneg (l := l) fun n hn => h n (List.mem_cons_of_mem _ hn)
    rw [List.sum_cons]
    omega
theorem le_sum : ∀ {l : List Int}, (∀ n ∈ l, 0 ≤ n) → ∀ n ∈ l, n ≤ l.sum
  | x :: l, h, n, hn => by
    have h1 := h x (List.mem_cons_self ..)
    have h2 := sum_nonneg (l := l) fun n hn => h n (List.mem_cons_of_mem _ hn)
    rw [List.sum_cons]
    rcases List.mem_cons.mp hn with rfl | hn
    · omega
    · have := le_sum (l := l) (fun n hn => h n (List.mem_cons_of_mem _ hn)) n hn
      omega
theorem lens_le {w : Wd} : ∀ n ∈ lens w, n ≤ w.length := fun n hn => by
  have := le_sum (l := lens w) (fun n hn => by have := lens_pos n hn; omega) n hn
  rw [lens_sum] at this
  exact this
def zipM (f : Int → Int → Int) (xs ys : List Int) : List Int := (xs.zip ys).map fun p => f p.1 p.2
theorem zipM_len {f : Int → Int → Int} {xs ys : List Int} (h : xs.length = ys.length) : (zipM f xs ys).length = xs.length := by
  unfold zipM
  rw [List.length_map, List.length_zip]
  omega
theorem zipM_mem {f : Int → Int → Int} {xs ys : List Int} {n : Int} (h : n ∈ zipM f xs ys) : ∃ x y, x ∈ xs ∧ y ∈ ys ∧ n = f x y := by
  obtain ⟨p, hp, rfl⟩ := List.mem_map.mp h
  obtain ⟨x, y⟩ := p
  have := List.of_mem_zip hp
  exact ⟨x, y, this.1, this.2, rfl⟩
theorem maxP_or (x y : Int) : maxP x y = x ∨ maxP x y = y := by unfold maxP; split <;> simp
theorem minP_or (x y : Int) : minP x y = x ∨ minP x y = y := by unfold minP; split <;> simp
theorem spell_mem {sh ls : List Int} {x : Int} (h : x ∈ spell sh ls) : x ∈ sh := by
  unfold spell at h
  obtain ⟨p, hp, hx⟩ := List.mem_flatMap.mp h
  obtain ⟨a, b⟩ := p
  rw [List.eq_of_mem_replicate hx]
  exact (List.of_mem_zip hp).1
theorem spell_sum : ∀ {sh ls : List Int}, sh.length = ls.length → (∀ n ∈ ls, 0 ≤ n) → ((spell sh ls).length : Int) = ls.sum
  | [], [], _, _ => rfl
  | x :: sh, n :: ls, h, hp => by
    have ih := spell_sum (sh := sh) (ls := ls) (by simpa using h) fun k hk => hp k (List.mem_cons_of_mem _ hk)
    have h0 := hp n (List.mem_cons_self ..)
    have e : spell (x :: sh) (n :: ls) = List.replicate n.toNat x ++ spell sh ls := by
      unfold spell
      rw [List.zip_cons_cons, List.flatMap_cons]
    rw [e, List.length_append, List.length_replicate, List.sum_cons, ← ih]
    omega
  | [], _ :: _, h, _ => by cases h
  | _ :: _, [], h, _ => by cases h
end MR
end

section
set_option Elab.async false
set_option linter.all false
set_option maxRecDepth 100000
set_option maxHeartbeats 4000000
namespace LP
open PySem L2 PyProof.Rows PySem.Spec Evl MR
section
variable {P : Program} {w : World} {K : PySem.W.Frag} {mg : Str → Option Value} {base : Heap} {CP CB : Addr}
def noStep (a b : Wd) (m : Int) : Prop := ∀ s, stepsM a b = some s → ¬ s / 2 ≤ m
def NoStep (ws : List Wd) (m : Int) (i j : Nat) : Prop := ∀ a b, i < j → ws[i]? = some a → ws[j]? = some b → noStep a b m
/-- a RunPair stands at p -/
def PairAt (H : Hp) (CP p : Addr) (a b : Wd) (s : Int) (lo sh : Wd) : Prop := ∃ dx x y l z, H p = some (.ins CP dx (pFlds (.ref x) (.ref y) (.int s) (.ref l) (.ref z))) ∧ H x = some (.tup (a.map V.int)) ∧ H y = some (.tup (b.map V.int)) ∧ H l = some (.tup (lo.map V.int)) ∧ H z = some (.tup (sh.map V.int))
theorem PairAt.mono {H H' : Hp} {p : Addr} {a b lo sh : Wd} {s : Int} (h : PairAt H CP p a b s lo sh) (e : Ex H H') : PairAt H' CP p a b s lo sh := by
  obtain ⟨dx, x, y, l, z, h1, h2, h3, h4, h5⟩ := h
  exact ⟨dx, x, y, l, z, e _ _ h1, e _ _ h2, e _ _ h3, e _ _ h4, e _ _ h5⟩
structure RPat (CP : Addr) (ws : List Wd) (m : Int) (H' : Hp) (v : V) (i j : Nat) (a b : Wd) (s : Int) : Prop where
  ij : i < j
  ai : ws[i]? = some a
  bj : ws[j]? = some b
  st : stepsM a b = some s
  le : s / 2 ≤ m
  pre : ∀ i' j', (i' < i ∨ (i' = i ∧ j' < j)) → NoStep ws m i' j'
  at_ : ∃ p, v = .ref p ∧ PairAt H' CP p a b (s / 2) (spell (shape a) (zipM maxP (lens a) (lens b))) (spell (shape a) (zipM minP (lens a) (lens b)))
def RP (CP : Addr) (ws : List Wd) (m : Int) (v : V) (H' : Hp) : Prop := (v = .non ∧ ∀ i j, NoStep ws m i j) ∨ ∃ i j a b s, RPat CP ws m H' v i j a b s
def spRunsPair (CP CB : Addr) : Sp := fun vs H Q _ => ∃ (a : Addr) (q m : Int) (n : Nat) (ks : List Row), vs = [.ref a, .int m] ∧ BookAt H CB a q (n : Nat) ks ∧ Low 24 (wds ks) ∧ ks.length ≤ 100 ∧ 0 ≤ m ∧ m ≤ n ∧ ∀ v H', Ex H H' → RP CP (wds ks) m v H' → Q v H'
theorem zipM_take {f : Int → Int → Int} {xs ys : List Int} {i : Nat} {x y : Int} (h : xs[i]? = some x) (h' : ys[i]? = some y) : ((xs.zip ys).take (i + 1)).map (fun p => f p.1 p.2) = ((xs.zip ys).take i).map (fun p => f p.1 p.2) ++ [f x y] := take_zip f h h'
theorem c_runs_pair (F : Facts K mg CP CB) : C8.Cal P w K mg base 5 "runs_pair" (spRunsPair CP CB) [] := by
  obtain ⟨f, fd, D, b⟩ := F.d_runs_pair
  have c_check_number := c_check_number (P := P) (w := w) (base := base) F
  have c_run_steps := c_run_steps (P := P) (w := w) (base := base) F
  have c_shape_of := c_shape_of (P := P) (w := w) (base := base) F
  have c_lengths_of := c_lengths_of (P := P) (w := w) (base := base) F
  have c_spelled_word := c_spelled_word (P := P) (w := w) (base := base) F
  have m_RunPair := m_RunPair (P := P) (w := w) (base := base) F
  refine C8.cal0 D b .nil sc_runs_pair (fun vs H Q E h => ?_) (fun cdv A outer s H vs Q E hr h => ?_)
  · obtain ⟨a, q, m, n, ks, rfl, _⟩ := h
    rfl
  · obtain ⟨a, q, m, n, ks, rfl, bk, low, hk, m0, mn, k⟩ := h
    refine ⟨_, (pss_cons (ps_expr (C8.pe_c c_check_number hr (by decide) (by rfl) (pa_cons (pv 1) (pa_cons pe_int (pa_cons (pe_fldK (K := K) rfl (pv 0) rfl) pa_nil)))))
  (pss_cons (ps_for PassesOwn.never rfl (QE.pi_enumT (by rfl) F.n_enumerate (pa_cons (pe_fldK (K := K) rfl (pv 0) rfl) pa_nil)) (pg_tup2 (K := K) rfl rfl (pgs_cons (pg_name (i := 2) sc_runs_pair.nd rfl (Or.inl rfl)) (pgs_cons (pg_name (i := 3) sc_runs_pair.nd rfl (Or.inl rfl)) pgs_nil)))
    (pss_one (ps_for PassesOwn.never rfl (pi_tupK (K := K) rfl (pe_slice (sl_tupK (K := K) rfl) (pe_fldK (K := K) rfl (pv 0) rfl) (po_some (pe_op op_add (pv 2) pe_int)) po_none)) (pg_name (i := 4) sc_runs_pair.nd rfl (Or.inl rfl))
    (pss_cons (ps_set (i := 5) sc_runs_pair.nd rfl (Or.inl rfl) (C8.pe_c c_run_steps hr (by decide) (by rfl) (pa_cons (pv 3) (pa_cons (pv 4) pa_nil))))
  (pss_one (ps_if (PW.pt (pw_and (pt_cmpR op_notN (pv 5) pe_non (nomark _)) (pw_and1 (pt_cmpR op_le (pe_op op_fdiv (pv 5) pe_int) (pv 1) (nomark _))))) (pss_cons (ps_set (i := 6) sc_runs_pair.nd rfl (Or.inl rfl) (C8.pe_c c_shape_of hr (by decide) (by rfl) (pa_cons (pv 3) pa_nil)))
  (pss_cons (ps_set (i := 7) sc_runs_pair.nd rfl (Or.inl rfl) (QZ.pe_listZip (by rfl) F.n_list (by rfl) F.n_zip (pa_cons (C8.pe_c c_lengths_of hr (by decide) (by rfl) (pa_cons (pv 3) pa_nil)) (pa_cons (C8.pe_c c_lengths_of hr (by decide) (by rfl) (pa_cons (pv 4) pa_nil)) pa_nil))))
  (pss_cons (ps_set (i := 8) sc_runs_pair.nd rfl (Or.inl rfl) (C8.pe_c c_spelled_word hr (by decide) (by rfl) (pa_cons (pv 6) (pa_cons (pe_lc (own := [("here", 10), ("there", 11)]) (g := _) (tt := tYes) (by rfl) sc_runs_pair.nd (pi_listK (K := K) rfl (pv 7)) (blkOk_by (own := [("here", 10), ("there", 11)]) (N := N_runs_pair) (sc := (C8.fnScope st_runs_pair)) (by decide +kernel)) (fun _ _ _ _ _ => (pg_tup2 (K := K) rfl rfl (pgs_cons (pg_name (i := 10) sc_runs_pair.nd rfl (Or.inl rfl)) (pgs_cons (pg_name (i := 11) sc_runs_pair.nd rfl (Or.inl rfl)) pgs_nil)))) (fun _ _ _ _ _ => pts_nil) (fun _ _ _ _ _ => (pe_callB (call_max2 rfl) (by rfl) F.n_max (by decide +kernel) (pa_cons (pv 10) (pa_cons (pv 11) pa_nil))))) pa_nil))))
  (pss_cons (ps_set (i := 9) sc_runs_pair.nd rfl (Or.inl rfl) (C8.pe_c c_spelled_word hr (by decide) (by rfl) (pa_cons (pv 6) (pa_cons (pe_lc (own := [("here", 10), ("there", 11)]) (g := _) (tt := tYes) (by rfl) sc_runs_pair.nd (pi_listK (K := K) rfl (pv 7)) (blkOk_by (own := [("here", 10), ("there", 11)]) (N := N_runs_pair) (sc := (C8.fnScope st_runs_pair)) (by decide +kernel)) (fun _ _ _ _ _ => (pg_tup2 (K := K) rfl rfl (pgs_cons (pg_name (i := 10) sc_runs_pair.nd rfl (Or.inl rfl)) (pgs_cons (pg_name (i := 11) sc_runs_pair.nd rfl (Or.inl rfl)) pgs_nil)))) (fun _ _ _ _ _ => pts_nil) (fun _ _ _ _ _ => (pe_callB (call_min2 rfl) (by rfl) F.n_min (by decide +kernel) (pa_cons (pv 10) (pa_cons (pv 11) pa_nil))))) pa_nil))))
  (pss_one (ps_ret (C8.pe_mk m_RunPair hr (by decide) (by rfl) (pa_cons (pv 3) (pa_cons (pv 4) (pa_cons (pe_op op_fdiv (pv 5) pe_int) (pa_cons (pv 8) (pa_cons (pv 9) pa_nil)))))))))))) pss_nil))))))
  (pss_one (ps_ret pe_non)))), ?_⟩
    have T := F.i_Book.cl
    obtain ⟨dx, t, ha, tw⟩ := id bk.ex
    have lr : (refs ks).length = ks.length := List.length_map _
    refine ⟨_, rfl, _, rfl, a, CB, dx, _, _, rfl, ha, T, F.b_length, bf2, m, 0, n, rfl, m0, mn, ?_⟩
    refine ⟨_, rfl, a, CB, dx, _, _, rfl, ha, T, F.b_words, bf3, t, _, rfl, SqT.of tw.at_, ?_⟩
    refine for_it (QE.walk_enumT (xs := refs ks)) (fun i σ H' => ∃ x2 x3 x4 x5 x6 x7 x8 x9 x10 x11, σ = [some (.ref a), some (.int m), x2, x3, x4, x5, x6, x7, x8, x9, x10, x11] ∧ Ex H H' ∧ ∀ i' j', i' < i → NoStep (wds ks) m i' j') ⟨none, none, none, none, none, none, none, none, none, none, rfl, Ex.refl H, fun i' j' h => absurd h (Nat.not_lt_zero _)⟩ (fun i σ H' _ ⟨_, _, _, _, _, _, _, _, _, _, _, e, _⟩ => SqT.of (e _ _ tw.at_)) ?_ ?_
    · rintro i v σ H1 H2 hi ⟨x2, x3, x4, x5, x6, x7, x8, x9, x10, x11, rfl, e1, pre1⟩ ⟨T', x1, y1, rfl, hT, rfl, ex, ey⟩
      cases ex
      obtain ⟨⟨b, bs⟩, rfl, hb⟩ := map_at ey
      have e2 := e1.trans (Ex.new (o := .tup [.int (i : Nat), .ref b]) hT)
      have hbw := wd_at hb
      have hbt := tw.rt _ (List.mem_of_getElem? hb)
      obtain ⟨b1, b2⟩ := low bs (List.mem_of_getElem? hbw)
      rw [lr] at hi
      refine ⟨T', _, rfl, st_of upd_same, rfl, _, _, rfl, _, _, rfl, rfl, ?_⟩
      refine ⟨_, rfl, a, CB, dx, _, _, rfl, e2 _ _ ha, T, F.b_words, bf3, _, rfl, _, _, rfl, rfl, _, rfl, nopart ?_⟩
      refine cut_of (e2 _ _ tw.at_) fun p H3 e3 h3 => ?_
      rw [show ((i : Nat) : Int) + 1 = ((i + 1 : Nat) : Int) by omega, cut_ln (by omega), refs_drop] at h3
      have e13 := e2.trans e3
      refine ⟨p, rfl, ⟨_, SqT.of h3⟩, ?_⟩
      refine for_tup (xs := refs (ks.drop (i + 1))) (fun j σ H' => ∃ x4 x5 x6 x7 x8 x9 x10 x11, σ = [some (.ref a), some (.int m), some (.int (i : Nat)), some (.ref b), x4, x5, x6, x7, x8, x9, x10, x11] ∧ Ex H3 H' ∧ ∀ j', j' < i + 1 + j → NoStep (wds ks) m i j') ⟨x4, x5, x6, x7, x8, x9, x10, x11, rfl, Ex.refl H3, fun j' h a b h1 => by omega⟩ (fun j σ H' _ ⟨_, _, _, _, _, _, _, _, _, e, _⟩ => SqT.of (e _ _ h3)) ?_ ?_
      · rintro j v σ H4 hv ⟨x4, x5, x6, x7, x8, x9, x10, x11, rfl, e4, pre2⟩
        obtain ⟨⟨c, cs⟩, rfl, hc⟩ := map_at hv
        rw [List.getElem?_drop] at hc
        generalize hjj : i + 1 + j = j2 at hc pre2
        have hcw := wd_at hc
        have hct := tw.rt _ (List.mem_of_getElem? hc)
        obtain ⟨c1, c2⟩ := low cs (List.mem_of_getElem? hcw)
        have e14 := e13.trans e4
        refine ⟨_, rfl, _, rfl, b, c, bs, cs, rfl, e14 _ _ hbt, e14 _ _ hct, b1, c1, b2, c2, fun H5 e5 => ?_⟩
        have e15 := e14.trans e5
        have e35 := e4.trans e5
        unfold stepsV
        have skip : noStep bs cs m → ∀ j', j' < i + 1 + (j + 1) → NoStep (wds ks) m i j' := fun hn j' hj' => by
          by_cases h : j' = j2
          · subst h
            intro u v _ hu hv'
            rw [hbw] at hu
            rw [hcw] at hv'
            cases hu
            cases hv'
            exact hn
          · exact pre2 j' (by omega)
        refine ⟨_, rfl, rfl, _, rfl, ?_⟩
        cases hs : stepsM bs cs with
        | none =>
          refine ev_F rfl ?_
          refine iteF ?_
          exact ⟨_, _, _, _, _, _, _, _, rfl, e35, skip fun s h => by rw [hs] at h; cases h⟩
        | some z =>
          refine ev_T rfl ?_
          refine ⟨_, rfl, _, _, rfl, rfl, ⟨by decide, by decide⟩, _, rfl, _, _, rfl, rfl, _, rfl, ?_⟩
          by_cases hle : z / 2 ≤ m
          · refine ev_T (decide_eq_true hle) ?_
            have hsh : shape bs = shape cs := by
              unfold stepsM at hs
              by_cases h : shape bs = shape cs
              · exact h
              · rw [if_neg h] at hs; cases hs
            have hll := lens_len2 hsh
            have hl1 := lens_len bs
            have hsl := shape_len bs
            refine ⟨_, rfl, b, bs, rfl, e15 _ _ hbt, b1, b2, fun p6 H6 e6 h6 => ?_⟩
            have e16 := e15.trans e6
            refine ⟨_, rfl, b, bs, rfl, e16 _ _ hbt, b1, b2, fun p7 H7 e7 h7 => ?_⟩
            have e17 := e16.trans e7
            refine ⟨_, rfl, c, cs, rfl, e17 _ _ hct, c1, c2, fun p8 H8 e8 h8 => ?_⟩
            have e18 := e17.trans e8
            have h7 := e8 _ _ h7
            refine ⟨p7, p8, _, _, rfl, SqT.of h7, SqT.of h8, by rw [List.length_map, List.length_map, hll], by rw [List.length_map]; omega, fun H9 pb Ts e9 pb0 hpb hTl hTs => ?_⟩
            have e19 := e18.trans e9
            have h6 := e9 _ _ (e8 _ _ (e7 _ _ h6))
            have lT : (Ts.map V.ref).length = (lens bs).length := by rw [List.length_map, hTl, List.length_map]
            have comp : ∀ (g : Int → Int → Int) (H10 H11 : Hp) (d : Addr) (jj : Nat) (T'' : Addr), Ex H9 H10 → H10 d = none → Ex H10 H11 → (Ts.map V.ref)[jj]? = some (.ref T'') → ∃ x y, (lens bs)[jj]? = some x ∧ (lens cs)[jj]? = some y ∧ H11 T'' = some (.tup [.int x, .int y]) := by
              intro g H10 H11 d jj T'' ea hd eb hT'
              rw [List.getElem?_map] at hT'
              cases hq : Ts[jj]? with
              | none => rw [hq] at hT'; cases hT'
              | some u =>
                rw [hq] at hT'
                cases hT'
                obtain ⟨x, y, hx, hy, hu⟩ := hTs jj _ hq
                obtain ⟨x', rfl, hx'⟩ := int_at hx
                obtain ⟨y', rfl, hy'⟩ := int_at hy
                exact ⟨x', y', hx', hy', eb _ _ (ea _ _ hu)⟩
            have pmx : ∀ n ∈ zipM maxP (lens bs) (lens cs), 1 ≤ n ∧ n ≤ 100 := fun n hn => by
              obtain ⟨x, y, hx, hy, rfl⟩ := zipM_mem hn
              have a1 := lens_pos x hx
              have a2 := lens_pos y hy
              have a3 := lens_le x hx
              have a4 := lens_le y hy
              rcases maxP_or x y with h | h <;> rw [h] <;> omega
            have pmn : ∀ n ∈ zipM minP (lens bs) (lens cs), 1 ≤ n ∧ n ≤ 100 := fun n hn => by
              obtain ⟨x, y, hx, hy, rfl⟩ := zipM_mem hn
              have a1 := lens_pos x hx
              have a2 := lens_pos y hy
              have a3 := lens_le x hx
              have a4 := lens_le y hy
              rcases minP_or x y with h | h <;> rw [h] <;> omega
            -- longer
            refine ⟨_, rfl, _, rfl, pb, rfl, ⟨_, SqL.of hpb⟩, fun d hd => ?_⟩
            refine lc_list (xs := Ts.map V.ref) (fun jj H' => Ex H9 H' ∧ H' d = some (.lst (((((lens bs).zip (lens cs)).take jj).map fun p => maxP p.1 p.2).map V.int))) ⟨Ex.new hd, upd_same⟩ (fun jj H' _ p => SqL.of (p.1 _ _ hpb)) ?_ ?_
            · rintro jj v H11 hv2 ⟨e11, h11⟩
              obtain ⟨T'', rfl, hq⟩ := map_at hv2
              obtain ⟨x, y, hx, hy, hu⟩ := comp maxP H9 H11 d jj T'' (Ex.refl H9) hd e11 hv2
              refine ⟨T'', _, rfl, SqT.of hu, rfl, _, _, rfl, _, _, rfl, rfl, ?_⟩
              refine ⟨rfl, lcY ?_⟩
              have := (List.getElem?_eq_some_iff.mp hx).1
              refine ⟨_, rfl, _, rfl, x, y, rfl, _, h11, ?_, Ex.mut e11 hd, ?_⟩
              · rw [List.length_map, List.length_map, List.length_take]; exact sz_lt (by rw [List.length_zip]; omega)
              · rw [upd_same, zipM_take hx hy, List.map_append]; rfl
            · rintro H11 ⟨e11, h11⟩
              rw [List.take_of_length_le (by rw [List.length_zip, lT]; omega)] at h11
              have h11 : H11 d = some (.lst ((zipM maxP (lens bs) (lens cs)).map V.int)) := h11
              have e111 := e19.trans e11
              refine ⟨p6, d, _, _, rfl, e11 _ _ h6, h11, by rw [zipM_len hll, hl1], by rw [zipM_len hll]; omega, pmx, fun pl H12 e12 h12 => ?_⟩
              have e112 := e111.trans e12
              -- shorter
              refine ⟨_, rfl, _, rfl, pb, rfl, ⟨_, SqL.of (e12 _ _ (e11 _ _ hpb))⟩, fun d2 hd2 => ?_⟩
              refine lc_list (xs := Ts.map V.ref) (fun jj H' => Ex H12 H' ∧ H' d2 = some (.lst (((((lens bs).zip (lens cs)).take jj).map fun p => minP p.1 p.2).map V.int))) ⟨Ex.new hd2, upd_same⟩ (fun jj H' _ p => SqL.of (p.1 _ _ (e12 _ _ (e11 _ _ hpb)))) ?_ ?_
              · rintro jj v H13 hv2 ⟨e13', h13⟩
                obtain ⟨T'', rfl, hq⟩ := map_at hv2
                obtain ⟨x, y, hx, hy, hu⟩ := comp minP H12 H13 d2 jj T'' (e11.trans e12) hd2 e13' hv2
                refine ⟨T'', _, rfl, SqT.of hu, rfl, _, _, rfl, _, _, rfl, rfl, ?_⟩
                refine ⟨rfl, lcY ?_⟩
                have := (List.getElem?_eq_some_iff.mp hx).1
                refine ⟨_, rfl, _, rfl, x, y, rfl, _, h13, ?_, Ex.mut e13' hd2, ?_⟩
                · rw [List.length_map, List.length_map, List.length_take]; exact sz_lt (by rw [List.length_zip]; omega)
                · rw [upd_same, zipM_take hx hy, List.map_append]; rfl
              · rintro H13 ⟨e13', h13⟩
                rw [List.take_of_length_le (by rw [List.length_zip, lT]; omega)] at h13
                have h13 : H13 d2 = some (.lst ((zipM minP (lens bs) (lens cs)).map V.int)) := h13
                have e113 := e112.trans e13'
                refine ⟨p6, d2, _, _, rfl, e13' _ _ (e12 _ _ (e11 _ _ h6)), h13, by rw [zipM_len hll, hl1], by rw [zipM_len hll]; omega, pmn, fun ps H14 e14' h14 => ?_⟩
                have e114 := e113.trans e14'
                have h12 := e14' _ _ (e13' _ _ h12)
                refine ⟨_, rfl, _, rfl, _, rfl, _, _, rfl, rfl, ⟨by decide, by decide⟩, _, rfl, _, rfl, fun x dx2 nx ndx ne => ?_⟩
                refine ⟨x, dx2, _, _, _, _, _, rfl, upd_same, fun H15 h15 keep => ⟨rfl, ?_⟩⟩
                have e15' : Ex H14 H15 := fun u o hu => keep u o (ne_no hu nx) (by rw [upd_ne (ne_no hu nx), upd_ne (ne_no hu ndx)]; exact hu)
                have e115 := e114.trans e15'
                refine k _ _ e115 (.inr ⟨i, j2, bs, cs, z, by omega, hbw, hcw, hs, hle, fun i' j' hij => ?_, x, rfl, dx2, b, c, pl, ps, h15, e115 _ _ hbt, e115 _ _ hct, e15' _ _ h12, e15' _ _ h14⟩)
                rcases hij with h | ⟨rfl, h⟩
                · exact pre1 i' j' h
                · exact pre2 j' h
          · refine ev_F (decide_eq_false hle) ?_
            exact ⟨_, _, _, _, _, _, _, _, rfl, e35, skip fun s h => by rw [hs] at h; cases h; exact hle⟩
      · rintro σ H4 ⟨x4, x5, x6, x7, x8, x9, x10, x11, rfl, e4, pre2⟩
        refine ⟨_, _, _, _, _, _, _, _, _, _, rfl, e13.trans e4, fun i' j' hi' => ?_⟩
        by_cases h : i' = i
        · subst h
          intro u v h1 hu hv'
          have := (List.getElem?_eq_some_iff.mp hv').1
          rw [List.length_map] at this
          exact pre2 j' (by rw [List.length_map, List.length_drop]; omega) u v h1 hu hv'
        · exact pre1 i' j' (by omega)
    · rintro σ H1 ⟨x2, x3, x4, x5, x6, x7, x8, x9, x10, x11, rfl, e1, pre1⟩
      refine k _ _ e1 (.inl ⟨rfl, fun i j u v h1 hu hv' => ?_⟩)
      have := (List.getElem?_eq_some_iff.mp hu).1
      rw [List.length_map] at this
      exact pre1 i j (by rw [lr]; exact this) u v h1 hu hv'
end
end LP
end

section
set_option Elab.async false
set_option linter.all false
set_option maxRecDepth 100000
set_option maxHeartbeats 4000000
namespace LP
open PySem L2 PyProof.Rows PySem.Spec Evl MR
section
variable {P : Program} {w : World} {K : PySem.W.Frag} {mg : Str → Option Value} {base : Heap} {CP CB : Addr}
theorem it2 {J : It} {n : Nat} {G : Hp → Prop} {Y : Nat → Hp → V → Hp → Prop} (w : Walk J n G Y) {H0 : Hp} {Qd : Hp → Prop} {F : (Hp → Prop) → V → Hp → Prop} (Pv : Nat → Hp → Prop) (h0 : Pv 0 H0) (hG : ∀ i H, i ≤ n → Pv i H → G H)
    (hs : ∀ i x H H', i < n → Pv i H → Y i H x H' → F (Pv (i + 1)) x H') (hd : ∀ H, Pv n H → Qd H) :
    ∃ W : Nat → Nat → Hp → Prop, (∃ m, W 0 m H0) ∧ ∀ i m H, W i m H → (J.stop i H ∧ Qd H) ∨ (J.go i H ∧ ∃ Nx : Hp → Prop, (∀ H', Nx H' → ∃ m', m' < m ∧ W (i + 1) m' H') ∧ ∀ x H', J.yld i H x H' → F Nx x H') := by
  refine ⟨fun i m H => m = n - i ∧ i ≤ n ∧ Pv i H, ⟨n, by simp, Nat.zero_le _, h0⟩, ?_⟩
  rintro i m H ⟨rfl, hi, p⟩
  have q := hG i H hi p
  by_cases hlt : i < n
  · refine .inr ⟨w.goes i H hlt q, Pv (i + 1), fun H' p' => ⟨n - (i + 1), by omega, rfl, hlt, p'⟩, fun x H' y => hs i x H H' hlt p (w.yields i H x H' hlt q y)⟩
  · have e : i = n := by omega
    subst e
    exact .inl ⟨w.stops H q, hd H p⟩
abbrev Cpl := Addr × Row × Row
structure CV (H : Hp) (D : Addr) (cs : List Cpl) : Prop where
  at_ : H D = some (.lst (cs.map fun c => V.ref c.1))
  cell : ∀ c ∈ cs, H c.1 = some (.tup [.ref c.2.1.1, .ref c.2.2.1]) ∧ H c.2.1.1 = some (.tup (c.2.1.2.map V.int)) ∧ H c.2.2.1 = some (.tup (c.2.2.2.map V.int))
theorem CV.mono {H H' : Hp} {D : Addr} {cs : List Cpl} (h : CV H D cs) (e : Ex H H') : CV H' D cs := ⟨e _ _ h.at_, fun c hc => ⟨e _ _ (h.cell c hc).1, e _ _ (h.cell c hc).2.1, e _ _ (h.cell c hc).2.2⟩⟩
def prs (cs : List Cpl) : List (Wd × Wd) := cs.map fun c => (c.2.1.2, c.2.2.2)
def spCouples (CB : Addr) : Sp := fun vs H Q _ => ∃ (a : Addr) (q : Int) (n : Nat) (ks : List Row), vs = [.ref a] ∧ BookAt H CB a q (n : Nat) ks ∧ ks.length ≤ 100 ∧ ∀ p cs H', Ex H H' → CV H' p cs → prs cs = couplesM (wds ks) → Q (.ref p) H'
theorem c_book_couples (F : Facts K mg CP CB) : C8.Cal P w K mg base 1 "book_couples" (spCouples CB) [] := by
  obtain ⟨f, fd, D, b⟩ := F.d_book_couples
  refine C8.cal0 D b .nil sc_book_couples (fun vs H Q E h => ?_) (fun cdv A outer s H vs Q E hr h => ?_)
  · obtain ⟨a, q, n, ks, rfl, _⟩ := h
    rfl
  · obtain ⟨a, q, n, ks, rfl, bk, hk, k⟩ := h
    refine ⟨_, (pss_one (ps_ret (pe_lc2 (own := [("at", 1), ("one", 2), ("other", 3)]) (vs1 := [3]) (tt := tYes) (tt1 := tYes) (by rfl) sc_book_couples.nd (QE.pi_enumT (by rfl) F.n_enumerate (pa_cons (pe_fldK (K := K) rfl (pv 0) rfl) pa_nil)) (blkOk_by (own := [("at", 1), ("one", 2), ("other", 3)]) (N := N_book_couples) (sc := (C8.fnScope st_book_couples)) (by decide +kernel)) (by decide) (fun _ _ _ _ _ => (pg_tup2 (K := K) rfl rfl (pgs_cons (pg_name (i := 1) sc_book_couples.nd rfl (Or.inl rfl)) (pgs_cons (pg_name (i := 2) sc_book_couples.nd rfl (Or.inl rfl)) pgs_nil)))) (fun _ _ _ _ _ => pts_nil) (fun _ _ _ _ _ => (pi_tupK (K := K) rfl (pe_slice (sl_tupK (K := K) rfl) (pe_fldK (K := K) rfl (pv 0) rfl) (po_some (pe_op op_add (pv 1) pe_int)) po_none))) (fun _ _ _ _ _ => (pg_name (i := 3) sc_book_couples.nd rfl (Or.inl rfl))) (fun _ _ _ _ _ => pts_nil) (fun _ _ _ _ _ => (pe_tup (pa_cons (pv 2) (pa_cons (pv 3) pa_nil))))))), ?_⟩
    have T := F.i_Book.cl
    obtain ⟨dx, t, ha, tw⟩ := id bk.ex
    have lr : (refs ks).length = ks.length := List.length_map _
    have lw2 : (wds ks).length = ks.length := List.length_map _
    refine ⟨_, rfl, a, CB, dx, _, _, rfl, ha, T, F.b_words, bf3, t, _, rfl, SqT.of tw.at_, fun d hd => ?_⟩
    refine it2 (QE.walk_enumT (xs := refs ks)) (fun i H' => ∃ cs, Ex H H' ∧ CV H' d cs ∧ prs cs = couplesUp (wds ks) i) ⟨[], Ex.new hd, ⟨upd_same, fun c hc => nomatch hc⟩, rfl⟩ (fun i H' _ ⟨_, e, _⟩ => SqT.of (e _ _ tw.at_)) ?_ ?_
    · rintro i v H1 H2 hi ⟨cs, e1, cv, ec⟩ ⟨T', x1, y1, rfl, hT, rfl, ex, ey⟩
      cases ex
      obtain ⟨⟨b, bs⟩, rfl, hb⟩ := map_at ey
      have eT : Ex H1 _ := Ex.new (o := .tup [.int (i : Nat), .ref b]) hT
      have e2 := e1.trans eT
      have hbw := wd_at hb
      have hbt := tw.rt _ (List.mem_of_getElem? hb)
      rw [lr] at hi
      refine ⟨T', _, rfl, st_of upd_same, rfl, _, _, rfl, _, _, rfl, rfl, ?_⟩
      refine ⟨rfl, lcY ?_⟩
      refine ⟨_, rfl, a, CB, dx, _, _, rfl, e2 _ _ ha, T, F.b_words, bf3, _, rfl, _, _, rfl, rfl, _, rfl, nopart ?_⟩
      refine cut_of (e2 _ _ tw.at_) fun p H3 e3 h3 => ?_
      rw [show ((i : Nat) : Int) + 1 = ((i + 1 : Nat) : Int) by omega, cut_ln (by omega), refs_drop] at h3
      have e13 := e2.trans e3
      have cv3 := (cv.mono eT).mono e3
      refine ⟨p, rfl, ⟨_, SqT.of h3⟩, ?_⟩
      have hz := couplesUp_len (wds ks) (i + 1)
      refine it2 (walk_tup (xs := refs (ks.drop (i + 1)))) (fun j H' => ∃ cs', Ex H H' ∧ H' p = some (.tup (refs (ks.drop (i + 1)))) ∧ CV H' d cs' ∧ prs cs' = couplesUp (wds ks) i ++ (((wds ks).drop (i + 1)).take j).map fun y => (bs, y)) ⟨cs, e13, h3, cv3, by rw [ec]; simp⟩ (fun j H' _ ⟨_, _, h, _⟩ => SqT.of h) ?_ ?_
      · rintro j v H4 H5 hj ⟨cs', e4, h4, cv4, ec4⟩ ⟨rfl, hv⟩
        obtain ⟨⟨c, cw⟩, rfl, hc⟩ := map_at hv
        rw [List.getElem?_drop] at hc
        have hcw := wd_at hc
        have hct := tw.rt _ (List.mem_of_getElem? hc)
        refine ⟨rfl, lcY ?_⟩
        refine ⟨_, rfl, _, rfl, (by decide : 2 ≤ sizeLine), fun u hu => ?_⟩
        have eu : Ex H5 _ := Ex.new (o := .tup [.ref b, .ref c]) hu
        have cv5 := cv4.mono eu
        have ud : u ≠ d := Ne.symm (ne_no cv4.at_ hu)
        have e5 := e4.trans eu
        have nd : ∀ {x : Addr} {xs : List V}, upd H5 u (.tup [.ref b, .ref c]) x = some (.tup xs) → x ≠ d := fun h => (ne_lt cv5.at_ h).symm
        refine ⟨_, cv5.at_, ?_, cs' ++ [(u, (b, bs), (c, cw))], Ex.mut e5 hd, ?_, ⟨?_, fun x hx => ?_⟩, ?_⟩
        · have l1 := congrArg List.length ec4
          unfold prs at l1
          rw [List.length_map, List.length_append, List.length_map, List.length_take, List.length_drop] at l1
          have l2 := couplesUp_len (wds ks) i
          rw [List.length_map]
          have l3 : i * (wds ks).length ≤ 100 * 100 := Nat.mul_le_mul (by omega) (by omega)
          exact sz_lt (by omega)
        · rw [upd_ne (nd (eu _ _ h4))]; exact eu _ _ h4
        · rw [upd_same, List.map_append]; rfl
        · rcases List.mem_append.mp hx with hx | hx
          · obtain ⟨g1, g2, g3⟩ := cv5.cell x hx
            exact ⟨by rw [upd_ne (nd g1)]; exact g1, by rw [upd_ne (nd g2)]; exact g2, by rw [upd_ne (nd g3)]; exact g3⟩
          · rw [List.mem_singleton.mp hx]
            have g2 := e5 _ _ hbt
            have g3 := e5 _ _ hct
            exact ⟨by rw [upd_ne ud, upd_same], by rw [upd_ne (nd g2)]; exact g2, by rw [upd_ne (nd g3)]; exact g3⟩
        · unfold prs at ec4 ⊢
          have hd2 : ((wds ks).drop (i + 1))[j]? = some cw := by rw [List.getElem?_drop]; exact hcw
          rw [List.map_append, ec4, List.take_add_one, hd2, List.map_append, List.append_assoc]
          rfl
      · rintro H4 ⟨cs', e4, h4, cv4, ec4⟩
        refine ⟨cs', e4, cv4, ?_⟩
        rw [ec4]
        show _ = couplesUp (wds ks) i ++ ((wds ks).drop (i + 1)).map fun b => ((wds ks).getD i [], b)
        rw [getD_some hbw, List.take_of_length_le (by rw [List.length_drop, List.length_map, List.length_map, List.length_drop]; exact Nat.le_refl _)]
    · rintro H1 ⟨cs, e1, cv, ec⟩
      rw [lr, ← lw2] at ec
      exact k d cs H1 e1 cv ec
def spBorne (CB : Addr) : Sp := fun vs H Q _ => ∃ (a : Addr) (q : Int) (n : Nat) (ks : List Row), vs = [.ref a] ∧ BookAt H CB a q (n : Nat) ks ∧ Low 24 (wds ks) ∧ ks.length ≤ 100 ∧ ∀ H', Ex H H' → Q (.int (borneOfM (n : Nat) (wds ks))) H'
theorem mem_couplesUp {ws : List Wd} {p : Wd × Wd} : ∀ {i}, i ≤ ws.length → p ∈ couplesUp ws i → p.1 ∈ ws ∧ p.2 ∈ ws
  | 0, _, h => by simp [couplesUp] at h
  | i + 1, hi, h => by
    unfold couplesUp at h
    rcases List.mem_append.mp h with h | h
    · exact mem_couplesUp (by omega) h
    · obtain ⟨b, hb, rfl⟩ := List.mem_map.mp h
      refine ⟨?_, List.mem_of_mem_drop hb⟩
      have : ws[i]? = some (ws[i]'(by omega)) := List.getElem?_eq_getElem (by omega)
      show ws.getD i [] ∈ ws
      rw [getD_some this]
      exact List.getElem_mem _
theorem c_borne_of (F : Facts K mg CP CB) : C8.Cal P w K mg base 4 "borne_of" (spBorne CB) [] := by
  obtain ⟨f, fd, D, b⟩ := F.d_borne_of
  have c_book_couples := c_book_couples (P := P) (w := w) (base := base) F
  have c_words_apart := c_words_apart (P := P) (w := w) (base := base) F
  refine C8.cal0 D b .nil sc_borne_of (fun vs H Q E h => ?_) (fun cdv A outer s H vs Q E hr h => ?_)
  · obtain ⟨a, q, n, ks, rfl, _⟩ := h
    rfl
  · obtain ⟨a, q, n, ks, rfl, bk, low, hk, k⟩ := h
    refine ⟨_, (pss_cons (ps_set (i := 1) sc_borne_of.nd rfl (Or.inl rfl) (pe_op op_add (pe_fldK (K := K) rfl (pv 0) rfl) pe_int))
  (pss_cons (ps_for PassesOwn.never rfl (pi_listK (K := K) rfl (C8.pe_c c_book_couples hr (by decide) (by rfl) (pa_cons (pv 0) pa_nil))) (pg_tup2 (K := K) rfl rfl (pgs_cons (pg_name (i := 2) sc_borne_of.nd rfl (Or.inl rfl)) (pgs_cons (pg_name (i := 3) sc_borne_of.nd rfl (Or.inl rfl)) pgs_nil)))
    (pss_one (ps_set (i := 1) sc_borne_of.nd rfl (Or.inl rfl) (pe_callB (call_min2 rfl) (by rfl) F.n_min (by decide +kernel) (pa_cons (pv 1) (pa_cons (C8.pe_c c_words_apart hr (by decide) (by rfl) (pa_cons (pv 2) (pa_cons (pv 3) pa_nil))) pa_nil))))))
  (pss_one (ps_ret (pe_op op_sub (pv 1) pe_int))))), ?_⟩
    have T := F.i_Book.cl
    obtain ⟨dx, t, ha, tw⟩ := id bk.ex
    refine ⟨_, rfl, a, CB, dx, _, _, rfl, ha, T, F.b_length, bf2, _, _, rfl, rfl, ?_⟩
    refine ⟨_, rfl, a, q, n, ks, rfl, bk, hk, fun p cs H1 e1 cv ec => ?_⟩
    refine ⟨p, rfl, ⟨_, SqL.of cv.at_⟩, ?_⟩
    refine for_list (xs := cs.map fun c => V.ref c.1) (fun i σ H' => ∃ x2 x3, σ = [some (.ref a), some (.int ((((prs cs).take i)).foldl (fun acc p => minP acc (p.1.length - longestM p.1 p.2)) ((n : Int) + 1))), x2, x3] ∧ Ex H1 H') ⟨none, none, rfl, Ex.refl H1⟩ (fun i σ H' _ ⟨_, _, _, e⟩ => SqL.of (e _ _ cv.at_)) ?_ ?_
    · rintro i v σ H2 hv ⟨x2, x3, rfl, e2⟩
      obtain ⟨⟨u, ⟨b, bs⟩, ⟨c, cw⟩⟩, rfl, hu⟩ := map_at hv
      obtain ⟨g1, g2, g3⟩ := (cv.mono e2).cell _ (List.mem_of_getElem? hu)
      have hp : (prs cs)[i]? = some (bs, cw) := by unfold prs; rw [List.getElem?_map, hu]; rfl
      have hm := List.mem_of_getElem? hp
      rw [ec] at hm
      obtain ⟨m1, m2⟩ := mem_couplesUp (Nat.le_refl _) hm
      have b1 := (low bs m1).1
      have c1 := (low cw m2).1
      refine ⟨u, _, rfl, SqT.of g1, rfl, _, _, rfl, _, _, rfl, rfl, ?_⟩
      refine ⟨_, rfl, _, rfl, _, rfl, b, c, bs, cw, rfl, g2, g3, by omega, by omega, fun H3 e3 => ⟨_, _, rfl, some (V.ref b), some (V.ref c), ?_, e2.trans e3⟩⟩
      rw [foldl_takeA hp]
      rfl
    · rintro σ H2 ⟨x2, x3, rfl, e2⟩
      have := k H2 (e1.trans e2)
      unfold borneOfM at this
      rw [← ec] at this
      have l : (prs cs).length = (cs.map fun c => V.ref c.1).length := by unfold prs; rw [List.length_map, List.length_map]
      rw [← l, List.take_length]
      exact ⟨_, rfl, _, _, rfl, rfl, this⟩
end
end LP
end

section
set_option Elab.async false
set_option linter.all false
set_option maxRecDepth 100000
set_option maxHeartbeats 4000000
namespace LP
open PySem L2 PyProof.Rows PySem.Spec Evl MR
section
variable {P : Program} {w : World} {K : PySem.W.Frag} {mg : Str → Option Value} {base : Heap} {CP CB : Addr}
/-- the same data, at most n tuples deep -/
inductive XV (H : Hp) : Nat → V → V → Prop where
  | int {n : Nat} (a : Int) : XV H n (.int a) (.int a)
  | bl {n : Nat} (a : Bool) : XV H n (.bl a) (.bl a)
  | tup {n : Nat} {t u : Addr} {xs ys : List V} (h1 : H t = some (.tup xs)) (h2 : H u = some (.tup ys)) (hl : xs.length = ys.length) (hz : ys.length ≤ 1000) (h : ∀ (i : Nat) (x y : V), xs[i]? = some x → ys[i]? = some y → XV H n x y) : XV H (n + 1) (.ref t) (.ref u)
theorem XV.mono {H H' : Hp} {n : Nat} {v u : V} (h : XV H n v u) (e : Ex H H') : XV H' n v u := by
  induction h with
  | int a => exact .int a
  | bl a => exact .bl a
  | tup h1 h2 hl hz h ih => exact .tup (e _ _ h1) (e _ _ h2) hl hz ih
theorem XV.word {H : Hp} {n : Nat} {a b : Addr} {ns : Wd} (h : H a = some (.tup (ns.map V.int))) (h' : H b = some (.tup (ns.map V.int))) (hz : ns.length ≤ 1000) : XV H (n + 1) (.ref a) (.ref b) :=
  .tup h h' rfl (by rw [List.length_map]; exact hz) fun i x y hx hy => by
    obtain ⟨z, rfl, hz⟩ := int_at hx
    obtain ⟨z', rfl, hz'⟩ := int_at hy
    rw [hz] at hz'
    cases hz'
    exact .int z
def spExactL (n : Nat) : Sp := fun vs H Q _ => ∃ v u : V, vs = [v, u] ∧ XV H n v u ∧ ∀ H', Ex H H' → Q (.bl true) H'
theorem isi_no {a : String} (h1 : kitB a "tuple" = some false) (h2 : kitB a "list" = some false) : PySem.W.kitAny K (.type a) [.type "tuple", .type "list"] = some false :=
  kitAny_cons (b := false) (kit_ty h1) (fun _ => kitAny_cons (b := false) (kit_ty h2) (fun _ => rfl) (fun z => nomatch z)) (fun z => nomatch z)
theorem c__law_exact (F : Facts K mg CP CB) : ∀ n : Nat, C8.Cal P w K mg base (n + 1) "_law_exact" (spExactL n) []
  | 0 => by
    obtain ⟨f, fd, D, b⟩ := F.d__law_exact
    refine C8.cal0 D b .nil sc__law_exact (fun vs H Q E h => ?_) (fun cdv A outer s H vs Q E hr h => ?_)
    · obtain ⟨v, u, rfl, _⟩ := h
      rfl
    · obtain ⟨v, u, rfl, x, k⟩ := h
      refine ⟨_, (pss_cons (ps_if (pt_val (pe_callB (cr_isiTK (K := K) rfl) (by rfl) F.n_isinstance (by decide +kernel) (pa_cons (pv 1) (pa_cons (pe_tup (pa_cons (pe_bltn (v := V.ty "tuple") (u := Value.type "tuple") (by rfl) F.n_tuple (by decide +kernel) rfl) (pa_cons (pe_bltn (v := V.ty "list") (u := Value.type "list") (by rfl) F.n_list (by decide +kernel) rfl) pa_nil))) pa_nil)))) (pss_cons (ps_if (PW.pt (pw_or (pt_not (pt_val (pe_callB (cr_isiK (K := K) rfl) (by rfl) F.n_isinstance (by decide +kernel) (pa_cons (pv 0) (pa_cons (pe_bltn (v := V.ty "tuple") (u := Value.type "tuple") (by rfl) F.n_tuple (by decide +kernel) rfl) pa_nil))))) (pw_or1 (pt_cmpR op_ne (pe_callB (cr_lenK (K := K) rfl) (by rfl) F.n_len PySem.boot_len (pa_cons (pv 0) pa_nil)) (pe_callB (cr_lenK (K := K) rfl) (by rfl) F.n_len PySem.boot_len (pa_cons (pv 1) pa_nil)) (nomark _))))) (pss_one (ps_ret pe_bl)) pss_nil)
  (pss_one ps_never)) pss_nil)
  (pss_cons (ps_if (pt_cmpR op_isN (pv 1) pe_non (nomark _)) (pss_one (ps_ret (pe_cmpR op_isN (pv 0) pe_non (nomark _)))) pss_nil)
  (pss_cons (ps_if (pt_val (pe_callB (cr_isiK (K := K) rfl) (by rfl) F.n_isinstance (by decide +kernel) (pa_cons (pv 1) (pa_cons (pe_bltn (v := V.ty "bool") (u := Value.type "bool") (by rfl) F.n_bool (by decide +kernel) rfl) pa_nil)))) (pss_one (ps_ret (pe_and (pe_callB (cr_isiK (K := K) rfl) (by rfl) F.n_isinstance (by decide +kernel) (pa_cons (pv 0) (pa_cons (pe_bltn (v := V.ty "bool") (u := Value.type "bool") (by rfl) F.n_bool (by decide +kernel) rfl) pa_nil))) (pe_one (pe_cmpR (op_eqK (K := K) rfl (hu64 hr)) (pv 0) (pv 1) (nomark _)))))) pss_nil)
  (pss_cons (ps_if (pt_val (pe_callB (cr_isiK (K := K) rfl) (by rfl) F.n_isinstance (by decide +kernel) (pa_cons (pv 1) (pa_cons (pe_bltn (v := V.ty "int") (u := Value.type "int") (by rfl) F.n_int (by decide +kernel) rfl) pa_nil)))) (pss_one (ps_ret (pe_and (pe_callB (cr_isiK (K := K) rfl) (by rfl) F.n_isinstance (by decide +kernel) (pa_cons (pv 0) (pa_cons (pe_bltn (v := V.ty "int") (u := Value.type "int") (by rfl) F.n_int (by decide +kernel) rfl) pa_nil))) (pe_and (pe_not (pe_callB (cr_isiK (K := K) rfl) (by rfl) F.n_isinstance (by decide +kernel) (pa_cons (pv 0) (pa_cons (pe_bltn (v := V.ty "bool") (u := Value.type "bool") (by rfl) F.n_bool (by decide +kernel) rfl) pa_nil)))) (pe_one (pe_cmpR (op_eqK (K := K) rfl (hu64 hr)) (pv 0) (pv 1) (nomark _))))))) pss_nil)
  (pss_one (ps_ret (pe_and (pe_callB (cr_isiK (K := K) rfl) (by rfl) F.n_isinstance (by decide +kernel) (pa_cons (pv 0) (pa_cons (pe_bltn (v := V.ty "str") (u := Value.type "str") (by rfl) F.n_str (by decide +kernel) rfl) pa_nil))) (pe_one (pe_cmpR (op_eqK (K := K) rfl (hu64 hr)) (pv 0) (pv 1) (nomark _)))))))))), ?_⟩
      cases x with
      | int a =>
        refine ⟨_, rfl, by decide, fun tp htp => ?_⟩
        have e0 : Ex H _ := Ex.new (o := .tup [.ty "tuple", .ty "list"]) htp
        refine ⟨_, tp, _, _, [.type "tuple", .type "list"], false, rfl, upd_same, .cons (.ty _) (.cons (.ty _) .nil), .base (.int a), isi_no (by decide +kernel) (by decide +kernel), false, rfl, ?_⟩
        refine iteF ?_
        refine ⟨_, rfl, rfl, _, rfl, ?_⟩
        refine ev_F rfl ?_
        refine ⟨_, rfl, _, _, _, _, false, rfl, .ty "bool", .base (.int a), kit_ty (by decide +kernel), false, rfl, ?_⟩
        refine iteF ?_
        refine ⟨_, rfl, _, _, _, _, true, rfl, .ty "int", .base (.int a), kit_ty (by decide +kernel), true, rfl, ?_⟩
        refine iteT ?_
        refine ⟨_, rfl, _, _, _, _, true, rfl, .ty "int", .base (.int a), kit_ty (by decide +kernel), true, rfl, ?_⟩
        refine iteT ?_
        refine ⟨_, rfl, _, _, _, _, false, rfl, .ty "bool", .base (.int a), kit_ty (by decide +kernel), false, rfl, true, rfl, ?_⟩
        refine iteT ?_
        refine ⟨_, rfl, _, rfl, _, _, .int a, .int a, (sh_int (k := 0) a).shaped, (sh_int (k := 0) a).shaped, ?_⟩
        have e : PyData.eqv (.int a) (.int a) = true := by simp only [PyData.eqv]; exact beq_self_eq_true a
        rw [e]
        exact k _ e0
      | bl a =>
        refine ⟨_, rfl, by decide, fun tp htp => ?_⟩
        have e0 : Ex H _ := Ex.new (o := .tup [.ty "tuple", .ty "list"]) htp
        refine ⟨_, tp, _, _, [.type "tuple", .type "list"], false, rfl, upd_same, .cons (.ty _) (.cons (.ty _) .nil), .base (.bl a), isi_no (by decide +kernel) (by decide +kernel), false, rfl, ?_⟩
        refine iteF ?_
        refine ⟨_, rfl, rfl, _, rfl, ?_⟩
        refine ev_F rfl ?_
        refine ⟨_, rfl, _, _, _, _, true, rfl, .ty "bool", .base (.bl a), kit_ty (by decide +kernel), true, rfl, ?_⟩
        refine iteT ?_
        refine ⟨_, rfl, _, _, _, _, true, rfl, .ty "bool", .base (.bl a), kit_ty (by decide +kernel), true, rfl, ?_⟩
        refine iteT ?_
        refine ⟨_, rfl, _, rfl, _, _, .bl a, .bl a, (sh_bool (k := 0) a).shaped, (sh_bool (k := 0) a).shaped, ?_⟩
        have e : PyData.eqv (.bool a) (.bool a) = true := by simp only [PyData.eqv]; exact beq_self_eq_true a
        rw [e]
        exact k _ e0
  | n + 1 => by
    have c__law_exact := c__law_exact F n
    obtain ⟨f, fd, D, b⟩ := F.d__law_exact
    refine C8.cal0 D b .nil sc__law_exact (fun vs H Q E h => ?_) (fun cdv A outer s H vs Q E hr h => ?_)
    · obtain ⟨v, u, rfl, _⟩ := h
      rfl
    · obtain ⟨v, u, rfl, x, k⟩ := h
      refine ⟨_, (pss_cons (ps_if (pt_val (pe_callB (cr_isiTK (K := K) rfl) (by rfl) F.n_isinstance (by decide +kernel) (pa_cons (pv 1) (pa_cons (pe_tup (pa_cons (pe_bltn (v := V.ty "tuple") (u := Value.type "tuple") (by rfl) F.n_tuple (by decide +kernel) rfl) (pa_cons (pe_bltn (v := V.ty "list") (u := Value.type "list") (by rfl) F.n_list (by decide +kernel) rfl) pa_nil))) pa_nil)))) (pss_cons (ps_if (PW.pt (pw_or (pt_not (pt_val (pe_callB (cr_isiK (K := K) rfl) (by rfl) F.n_isinstance (by decide +kernel) (pa_cons (pv 0) (pa_cons (pe_bltn (v := V.ty "tuple") (u := Value.type "tuple") (by rfl) F.n_tuple (by decide +kernel) rfl) pa_nil))))) (pw_or1 (pt_cmpR op_ne (pe_callB (cr_lenK (K := K) rfl) (by rfl) F.n_len PySem.boot_len (pa_cons (pv 0) pa_nil)) (pe_callB (cr_lenK (K := K) rfl) (by rfl) F.n_len PySem.boot_len (pa_cons (pv 1) pa_nil)) (nomark _))))) (pss_one (ps_ret pe_bl)) pss_nil)
  (pss_one (ps_ret (pe_callB (cr_allK (K := K) rfl rfl) (by rfl) F.n_all (by decide +kernel) (pa_cons (pe_lc (own := [("_law_k", 2)]) (g := (gName 2)) (tt := tYes) (by rfl) sc__law_exact.nd (pi_range1 (by rfl) F.n_range (pa_cons (pe_callB (cr_lenK (K := K) rfl) (by rfl) F.n_len PySem.boot_len (pa_cons (pv 1) pa_nil)) pa_nil)) (blkOk_by (own := [("_law_k", 2)]) (N := N__law_exact) (sc := (C8.fnScope st__law_exact)) (by decide +kernel)) (fun _ _ _ _ _ => (pg_name (i := 2) sc__law_exact.nd rfl (Or.inl rfl))) (fun _ _ _ _ _ => pts_nil) (fun _ _ _ _ _ => (C8.pe_c c__law_exact hr (Nat.le_refl _) (by rfl) (pa_cons (pe_ix (ix_tupK (K := K) rfl) (pv 0) (pv 2) (fun _ _ => rfl)) (pa_cons (pe_ix (ix_tupK (K := K) rfl) (pv 1) (pv 2) (fun _ _ => rfl)) pa_nil))))) pa_nil))))) pss_nil)
  (pss_cons (ps_if (pt_cmpR op_isN (pv 1) pe_non (nomark _)) (pss_one (ps_ret (pe_cmpR op_isN (pv 0) pe_non (nomark _)))) pss_nil)
  (pss_cons (ps_if (pt_val (pe_callB (cr_isiK (K := K) rfl) (by rfl) F.n_isinstance (by decide +kernel) (pa_cons (pv 1) (pa_cons (pe_bltn (v := V.ty "bool") (u := Value.type "bool") (by rfl) F.n_bool (by decide +kernel) rfl) pa_nil)))) (pss_one (ps_ret (pe_and (pe_callB (cr_isiK (K := K) rfl) (by rfl) F.n_isinstance (by decide +kernel) (pa_cons (pv 0) (pa_cons (pe_bltn (v := V.ty "bool") (u := Value.type "bool") (by rfl) F.n_bool (by decide +kernel) rfl) pa_nil))) (pe_one (pe_cmpR (op_eqK (K := K) rfl (hu64 hr)) (pv 0) (pv 1) (nomark _)))))) pss_nil)
  (pss_cons (ps_if (pt_val (pe_callB (cr_isiK (K := K) rfl) (by rfl) F.n_isinstance (by decide +kernel) (pa_cons (pv 1) (pa_cons (pe_bltn (v := V.ty "int") (u := Value.type "int") (by rfl) F.n_int (by decide +kernel) rfl) pa_nil)))) (pss_one (ps_ret (pe_and (pe_callB (cr_isiK (K := K) rfl) (by rfl) F.n_isinstance (by decide +kernel) (pa_cons (pv 0) (pa_cons (pe_bltn (v := V.ty "int") (u := Value.type "int") (by rfl) F.n_int (by decide +kernel) rfl) pa_nil))) (pe_and (pe_not (pe_callB (cr_isiK (K := K) rfl) (by rfl) F.n_isinstance (by decide +kernel) (pa_cons (pv 0) (pa_cons (pe_bltn (v := V.ty "bool") (u := Value.type "bool") (by rfl) F.n_bool (by decide +kernel) rfl) pa_nil)))) (pe_one (pe_cmpR (op_eqK (K := K) rfl (hu64 hr)) (pv 0) (pv 1) (nomark _))))))) pss_nil)
  (pss_one (ps_ret (pe_and (pe_callB (cr_isiK (K := K) rfl) (by rfl) F.n_isinstance (by decide +kernel) (pa_cons (pv 0) (pa_cons (pe_bltn (v := V.ty "str") (u := Value.type "str") (by rfl) F.n_str (by decide +kernel) rfl) pa_nil))) (pe_one (pe_cmpR (op_eqK (K := K) rfl (hu64 hr)) (pv 0) (pv 1) (nomark _)))))))))), ?_⟩
      cases x with
      | int a =>
        refine ⟨_, rfl, by decide, fun tp htp => ?_⟩
        have e0 : Ex H _ := Ex.new (o := .tup [.ty "tuple", .ty "list"]) htp
        refine ⟨_, tp, _, _, [.type "tuple", .type "list"], false, rfl, upd_same, .cons (.ty _) (.cons (.ty _) .nil), .base (.int a), isi_no (by decide +kernel) (by decide +kernel), false, rfl, ?_⟩
        refine iteF ?_
        refine ⟨_, rfl, rfl, _, rfl, ?_⟩
        refine ev_F rfl ?_
        refine ⟨_, rfl, _, _, _, _, false, rfl, .ty "bool", .base (.int a), kit_ty (by decide +kernel), false, rfl, ?_⟩
        refine iteF ?_
        refine ⟨_, rfl, _, _, _, _, true, rfl, .ty "int", .base (.int a), kit_ty (by decide +kernel), true, rfl, ?_⟩
        refine iteT ?_
        refine ⟨_, rfl, _, _, _, _, true, rfl, .ty "int", .base (.int a), kit_ty (by decide +kernel), true, rfl, ?_⟩
        refine iteT ?_
        refine ⟨_, rfl, _, _, _, _, false, rfl, .ty "bool", .base (.int a), kit_ty (by decide +kernel), false, rfl, true, rfl, ?_⟩
        refine iteT ?_
        refine ⟨_, rfl, _, rfl, _, _, .int a, .int a, (sh_int (k := 0) a).shaped, (sh_int (k := 0) a).shaped, ?_⟩
        have e : PyData.eqv (.int a) (.int a) = true := by simp only [PyData.eqv]; exact beq_self_eq_true a
        rw [e]
        exact k _ e0
      | bl a =>
        refine ⟨_, rfl, by decide, fun tp htp => ?_⟩
        have e0 : Ex H _ := Ex.new (o := .tup [.ty "tuple", .ty "list"]) htp
        refine ⟨_, tp, _, _, [.type "tuple", .type "list"], false, rfl, upd_same, .cons (.ty _) (.cons (.ty _) .nil), .base (.bl a), isi_no (by decide +kernel) (by decide +kernel), false, rfl, ?_⟩
        refine iteF ?_
        refine ⟨_, rfl, rfl, _, rfl, ?_⟩
        refine ev_F rfl ?_
        refine ⟨_, rfl, _, _, _, _, true, rfl, .ty "bool", .base (.bl a), kit_ty (by decide +kernel), true, rfl, ?_⟩
        refine iteT ?_
        refine ⟨_, rfl, _, _, _, _, true, rfl, .ty "bool", .base (.bl a), kit_ty (by decide +kernel), true, rfl, ?_⟩
        refine iteT ?_
        refine ⟨_, rfl, _, rfl, _, _, .bl a, .bl a, (sh_bool (k := 0) a).shaped, (sh_bool (k := 0) a).shaped, ?_⟩
        have e : PyData.eqv (.bool a) (.bool a) = true := by simp only [PyData.eqv]; exact beq_self_eq_true a
        rw [e]
        exact k _ e0
      | tup h1 h2 hl hz hx =>
        rename_i t u xs ys
        refine ⟨_, rfl, by decide, fun tp htp => ?_⟩
        have e0 : Ex H _ := Ex.new (o := .tup [.ty "tuple", .ty "list"]) htp
        have g1 := e0 _ _ h1
        have g2 := e0 _ _ h2
        refine ⟨_, tp, _, _, [.type "tuple", .type "list"], true, rfl, upd_same, .cons (.ty _) (.cons (.ty _) .nil), .base (.tup g2), kitAny_cons (b := true) (kit_ty (by decide +kernel)) (fun z => nomatch z) (fun _ => rfl), true, rfl, ?_⟩
        refine iteT ?_
        refine ⟨_, rfl, _, _, _, _, true, rfl, .ty "tuple", .base (.tup g1), kit_ty (by decide +kernel), true, rfl, ?_⟩
        refine iteF ?_
        refine ⟨_, rfl, t, _, rfl, .inr (SqT.of g1), _, rfl, u, _, rfl, .inr (SqT.of g2), rfl, _, rfl, ?_⟩
        refine ev_F (by rw [eqI_T (by omega)]; rfl) ?_
        refine ⟨_, rfl, u, _, rfl, .inr (SqT.of g2), ?_⟩
        refine ⟨_, rfl, by omega, by omega, fun d hd => ?_⟩
        rw [Int.toNat_natCast]
        have hd0 : H d = none := fresh_back e0 hd
        refine lc_range (lo := 0) (n := ys.length) (fun i H' => Ex H H' ∧ H' d = some (.lst ((List.replicate i true).map V.bl))) ⟨e0.trans (Ex.new hd), upd_same⟩ ?_ ?_
        · rintro i H1 hi ⟨e1, h3⟩
          rw [Int.zero_add]
          obtain ⟨x, hx0⟩ : ∃ x, xs[i]? = some x := ⟨_, List.getElem?_eq_getElem (by omega)⟩
          obtain ⟨y, hy0⟩ : ∃ y, ys[i]? = some y := ⟨_, List.getElem?_eq_getElem hi⟩
          refine ⟨rfl, lcY ?_⟩
          refine ⟨_, rfl, _, rfl, t, _, _, _, rfl, rfl, SqT.of (e1 _ _ h1), atI_nat hx0, _, rfl, _, rfl, u, _, _, _, rfl, rfl, SqT.of (e1 _ _ h2), atI_nat hy0, x, y, rfl, (hx i x y hx0 hy0).mono e1, fun H2 e2 => ⟨_, e2 _ _ h3, ?_, Ex.mut (e1.trans e2) hd0, ?_⟩⟩
          · rw [List.length_map, List.length_replicate]; exact sz_lt (by omega)
          · rw [upd_same, List.replicate_succ', List.map_append]; rfl
        · rintro H1 ⟨e1, h3⟩
          refine ⟨d, _, rfl, SqL.of h3, ?_⟩
          have e : (List.replicate ys.length true).all id = true := by simp
          rw [e]
          exact k H1 e1
end
end LP
end

section
set_option Elab.async false
set_option linter.all false
set_option maxRecDepth 100000
set_option maxHeartbeats 4000000
namespace LP
open PySem L2 PyProof.Rows PySem.Spec Evl MR
section
variable {P : Program} {w : World} {K : PySem.W.Frag} {mg : Str → Option Value} {base : Heap} {CP CB : Addr}
def mxW (a b : Wd) : Wd := spell (shape a) (zipM maxP (lens a) (lens b))
def mnW (a b : Wd) : Wd := spell (shape a) (zipM minP (lens a) (lens b))
/-- what the levels say of two words and what their lengths say -/
structure PLaw (m : Nat) (a b : Wd) : Prop where
  here : ∀ s, stepsM a b = some s → s / 2 ≤ (m : Int) → ∃ d : Nat, (d : Int) = s / 2 ∧ longerM a b d = [mxW a b] ∧ shorterM a b d = [mnW a b] ∧ ∀ d', d' < d → longerM a b d' = []
  there : ∀ d, d ≤ m → longerM a b d ≠ [] → ∃ s, stepsM a b = some s ∧ s / 2 ≤ (d : Int)
def PLaws (ws : List Wd) (m : Nat) : Prop := ∀ (i j : Nat) (a b : Wd), i < j → ws[i]? = some a → ws[j]? = some b → PLaw m a b
theorem fc_rp {ws : List Wd} {m : Nat} (pl : PLaws ws m) {v u : V} {H : Hp} (fc : FC ws m v H) (rp : RP CP ws m u H) :
    (v = .non ∧ u = .non) ∨ ∃ i j d a b s, FCat ws m H i j d a b v ∧ RPat CP ws m H u i j a b s ∧ s / 2 = (d : Int) ∧ longerM a b d = [mxW a b] ∧ shorterM a b d = [mnW a b] := by
  rcases fc with ⟨rfl, none⟩ | ⟨i, j, d, a, b, F⟩
  · rcases rp with ⟨rfl, _⟩ | ⟨i, j, a, b, s, R⟩
    · exact .inl ⟨rfl, rfl⟩
    · obtain ⟨d, e, h1, _, _⟩ := (pl i j a b R.ij R.ai R.bj).here s R.st R.le
      have := none i j d a b R.ij (by have := R.le; omega) R.ai R.bj
      rw [h1] at this
      cases this
  · obtain ⟨s, hs, hle⟩ := (pl i j a b F.ij F.ai F.bj).there d F.dm F.ne
    have hsm : s / 2 ≤ (m : Int) := by have := F.dm; omega
    rcases rp with ⟨rfl, none⟩ | ⟨i2, j2, a2, b2, s2, R⟩
    · exact absurd hsm (none i j a b F.ij F.ai F.bj s hs)
    · obtain ⟨d2, e2, l2, _, _⟩ := (pl i2 j2 a2 b2 R.ij R.ai R.bj).here s2 R.st R.le
      have d2m : d2 ≤ m := by have := R.le; omega
      have n1 : ¬ (i2 < i ∨ (i2 = i ∧ j2 < j)) := fun h => by
        have := F.pre i2 j2 d2 (h.elim .inl fun h => .inr ⟨h.1, .inl h.2⟩) a2 b2 R.ij d2m R.ai R.bj
        rw [l2] at this
        cases this
      have n2 : ¬ (i < i2 ∨ (i = i2 ∧ j < j2)) := fun h => R.pre i j h a b F.ij F.ai F.bj s hs hsm
      have ei : i2 = i := by omega
      subst ei
      have ej : j2 = j := by omega
      subst ej
      have ea : a2 = a := Option.some.inj (R.ai.symm.trans F.ai)
      have eb : b2 = b := Option.some.inj (R.bj.symm.trans F.bj)
      subst ea eb
      obtain ⟨d0, e0, l0, l1, l3⟩ := (pl _ _ _ _ F.ij F.ai F.bj).here s2 R.st R.le
      have ed : d = d0 := by
        rcases Nat.lt_trichotomy d d0 with h | h | h
        · exact absurd (l3 d h) F.ne
        · exact h
        · have := F.pre i2 j2 d0 (.inr ⟨rfl, .inr ⟨rfl, h⟩⟩) a2 b2 F.ij (by have := F.dm; omega) F.ai F.bj
          rw [l0] at this
          cases this
      subst ed
      exact .inr ⟨i2, j2, d, a2, b2, s2, F, R, e0.symm, l0, l1⟩
def lv (k j : Nat) (v : V) : V := if k = j then .non else v
def ld (k j : Nat) (d : PyData) : PyData := if k = j then .none else d
theorem dp_lv {H : Hp} {k j : Nat} {v : V} {d : PyData} (h : Dp K H v d) : Dp K H (lv k j v) (ld k j d) := by
  unfold lv ld
  split
  · exact .non
  · exact h
theorem sh_ld {k j n : Nat} {d : PyData} (h : Sh n d) : Sh n (ld k j d) := by
  unfold ld
  split
  · exact sh_none
  · exact h
theorem less_eq (v0 v1 v2 v3 v4 : V) : ∀ k, k < 5 → ([v0, v1, v2, v3, v4].take k ++ [V.non]) ++ [v0, v1, v2, v3, v4].drop (k + 1) = [lv k 0 v0, lv k 1 v1, lv k 2 v2, lv k 3 v3, lv k 4 v4]
  | 0, _ => rfl
  | 1, _ => rfl
  | 2, _ => rfl
  | 3, _ => rfl
  | 4, _ => rfl
  | _ + 5, h => by omega
theorem and5 (k : Nat) (hk : k < 5) {d0 d1 d2 d3 d4 : PyData} (h0 : PyData.eqv d0 .none = false) (h1 : PyData.eqv d1 .none = false) (h2 : PyData.eqv d2 .none = false) (h3 : PyData.eqv d3 .none = false) (h4 : PyData.eqv d4 .none = false) :
    (PyData.eqv d0 (ld k 0 d0) && (PyData.eqv d1 (ld k 1 d1) && (PyData.eqv d2 (ld k 2 d2) && (PyData.eqv d3 (ld k 3 d3) && PyData.eqv d4 (ld k 4 d4))))) = false := by
  match k, hk with
  | 0, _ => rw [show ld 0 0 d0 = .none from rfl, h0]; rfl
  | 1, _ => rw [show ld 1 1 d1 = .none from rfl, h1]; simp
  | 2, _ => rw [show ld 2 2 d2 = .none from rfl, h2]; simp
  | 3, _ => rw [show ld 3 3 d3 = .none from rfl, h3]; simp
  | 4, _ => rw [show ld 4 4 d4 = .none from rfl, h4]; simp
theorem dT_none (x : Wd) : PyData.eqv (dT x) .none = false := by simp only [dT, PyData.eqv]
theorem dI_none (x : Int) : PyData.eqv (.int x) .none = false := by simp only [PyData.eqv]
theorem dI_self (x : Int) : PyData.eqv (.int x) (.int x) = true := by simp only [PyData.eqv]; exact beq_self_eq_true x
theorem dT_self (x : Wd) : PyData.eqv (dT x) (dT x) = true := by rw [eqv_dT]; exact decide_eq_true rfl
theorem one_row {ks : List Row} {x : Wd} (h : wds ks = [x]) : ∃ a, ks = [(a, x)] := by
  match ks, h with
  | [(a, y)], h =>
    have : y = x := by simpa [wds] using h
    subst this
    exact ⟨a, rfl⟩
def spPairHolds (CB : Addr) : Sp := fun vs H Q _ => ∃ (bk wl : Addr) (q : Int) (n m : Nat) (ks js : List Row), vs = [.ref bk, .ref wl, .int (m : Nat)] ∧ BookAt H CB bk q (n : Nat) ks ∧ LW H wl js ∧ wds js = wds ks ∧ Low 24 (wds ks) ∧ ks.length ≤ 100 ∧ m ≤ n ∧ n ≤ 1000 ∧ FCok (wds ks) m ∧ PLaws (wds ks) m ∧ (∀ a ∈ wds ks, ∀ b ∈ wds ks, (mxW a b).length ≤ 1000 ∧ (mnW a b).length ≤ 1000) ∧ ∀ H', Ex H H' → Q (.bl true) H'
theorem c__law_pair_holds (F : Facts K mg CP CB) : C8.Cal P w K mg base 6 "_law_pair_holds" (spPairHolds CB) [] := by
  obtain ⟨f, fd, D, b⟩ := F.d__law_pair_holds
  have c_runs_pair := c_runs_pair (P := P) (w := w) (base := base) F
  have c__law_first_couple := c__law_first_couple (P := P) (w := w) (base := base) F
  have c__law_exact := c__law_exact (P := P) (w := w) (base := base) F 2
  have m_RunPair := m_RunPair (P := P) (w := w) (base := base) F
  obtain ⟨ef, efd, eS, eN, eF, eB⟩ := e_RunPair (P := P) (w := w) (base := base) F
  refine C8.cal0 D b .nil sc__law_pair_holds (fun vs H Q E h => ?_) (fun cdv A outer s H vs Q E hr h => ?_)
  · obtain ⟨bk, wl, q, n, m, ks, js, rfl, _⟩ := h
    rfl
  · obtain ⟨bk, wl, q, n, m, ks, js, rfl, hb, lw, ej, low, hk, mn, hn, ok, pl, mxl, k⟩ := h
    refine ⟨_, (pss_cons (ps_set (i := 3) sc__law_pair_holds.nd rfl (Or.inl rfl) (C8.pe_c c_runs_pair hr (by decide) (by rfl) (pa_cons (pv 0) (pa_cons (pv 2) pa_nil))))
  (pss_cons (ps_set (i := 4) sc__law_pair_holds.nd rfl (Or.inl rfl) (C8.pe_c c__law_first_couple hr (by decide) (by rfl) (pa_cons (pv 1) (pa_cons (pv 2) pa_nil))))
  (pss_cons (ps_if (pt_cmpR op_isN (pv 4) pe_non (nomark _)) (pss_one (ps_ret (pe_cmpR op_isN (pv 3) pe_non (nomark _)))) pss_nil)
  (pss_cons (ps_if (PW.pt (pw_or (pt_not (pt_val (pe_callB (C8.call_isC F.i_RunPair) (by rfl) F.n_isinstance (by decide +kernel) (pa_cons (pv 3) (pa_cons (C8.pe_gc (by rfl) F.g_RunPair) pa_nil))))) (pw_or (pt_cmpR op_ne (pe_callB (cr_lenK (K := K) rfl) (by rfl) F.n_len PySem.boot_len (pa_cons (pe_ix (ix_listK (K := K) rfl) (pv 4) pe_int (fun _ _ => rfl)) pa_nil)) pe_int (nomark _)) (pw_or1 (pt_cmpR op_ne (pe_callB (cr_lenK (K := K) rfl) (by rfl) F.n_len PySem.boot_len (pa_cons (pe_ix (ix_listK (K := K) rfl) (pv 4) pe_int (fun _ _ => rfl)) pa_nil)) pe_int (nomark _)))))) (pss_one (ps_ret pe_bl)) pss_nil)
  (pss_cons (ps_set (i := 5) sc__law_pair_holds.nd rfl (Or.inl rfl) (pe_tup (pa_cons (pe_fldK (K := K) rfl (pv 3) rfl) (pa_cons (pe_fldK (K := K) rfl (pv 3) rfl) (pa_cons (pe_fldK (K := K) rfl (pv 3) rfl) (pa_cons (pe_fldK (K := K) rfl (pv 3) rfl) (pa_cons (pe_fldK (K := K) rfl (pv 3) rfl) pa_nil)))))))
  (pss_cons (ps_if (pt_not (pt_cmpR (QK.op_eqO (E := C8.E0) eF (hr.mono (by decide)) eS eN eB C8.pass0) (pv 3) (C8.pe_mk m_RunPair hr (by decide) (by rfl) (pa_cons (pe_ix (ix_tupK (K := K) rfl) (pv 5) pe_int (fun _ _ => rfl)) (pa_cons (pe_ix (ix_tupK (K := K) rfl) (pv 5) pe_int (fun _ _ => rfl)) (pa_cons (pe_ix (ix_tupK (K := K) rfl) (pv 5) pe_int (fun _ _ => rfl)) (pa_cons (pe_ix (ix_tupK (K := K) rfl) (pv 5) pe_int (fun _ _ => rfl)) (pa_cons (pe_ix (ix_tupK (K := K) rfl) (pv 5) pe_int (fun _ _ => rfl)) pa_nil)))))) (nomark _))) (pss_one (ps_ret pe_bl)) pss_nil)
  (pss_cons (ps_for PassesOwn.never rfl (pi_range1 (by rfl) F.n_range (pa_cons pe_int pa_nil)) (pg_name (i := 6) sc__law_pair_holds.nd rfl (Or.inl rfl))
    (pss_cons (ps_set (i := 7) sc__law_pair_holds.nd rfl (Or.inl rfl) (pe_op (op_catK (K := K) rfl) (pe_op (op_catK (K := K) rfl) (pe_slice (sl_tupK (K := K) rfl) (pv 5) po_none (po_some (pv 6))) (pe_tup (pa_cons pe_non pa_nil))) (pe_slice (sl_tupK (K := K) rfl) (pv 5) (po_some (pe_op op_add (pv 6) pe_int)) po_none)))
  (pss_one (ps_if (pt_cmpR (QK.op_eqO (E := C8.E0) eF (hr.mono (by decide)) eS eN eB C8.pass0) (pv 3) (C8.pe_mk m_RunPair hr (by decide) (by rfl) (pa_cons (pe_ix (ix_tupK (K := K) rfl) (pv 7) pe_int (fun _ _ => rfl)) (pa_cons (pe_ix (ix_tupK (K := K) rfl) (pv 7) pe_int (fun _ _ => rfl)) (pa_cons (pe_ix (ix_tupK (K := K) rfl) (pv 7) pe_int (fun _ _ => rfl)) (pa_cons (pe_ix (ix_tupK (K := K) rfl) (pv 7) pe_int (fun _ _ => rfl)) (pa_cons (pe_ix (ix_tupK (K := K) rfl) (pv 7) pe_int (fun _ _ => rfl)) pa_nil)))))) (nomark _)) (pss_one (ps_ret pe_bl)) pss_nil))))
  (pss_one (ps_ret (C8.pe_c c__law_exact hr (by decide) (by rfl) (pa_cons (pv 5) (pa_cons (pe_tup (pa_cons (pe_ix (ix_listK (K := K) rfl) (pv 4) pe_int (fun _ _ => rfl)) (pa_cons (pe_ix (ix_listK (K := K) rfl) (pv 4) pe_int (fun _ _ => rfl)) (pa_cons (pe_ix (ix_listK (K := K) rfl) (pv 4) pe_int (fun _ _ => rfl)) (pa_cons (pe_ix (ix_listK (K := K) rfl) (pe_ix (ix_listK (K := K) rfl) (pv 4) pe_int (fun _ _ => rfl)) pe_int (fun _ _ => rfl)) (pa_cons (pe_ix (ix_listK (K := K) rfl) (pe_ix (ix_listK (K := K) rfl) (pv 4) pe_int (fun _ _ => rfl)) pe_int (fun _ _ => rfl)) pa_nil)))))) pa_nil)))))))))))), ?_⟩
    have T := F.i_RunPair.cl
    have lj : js.length = ks.length := by
      have := congrArg List.length ej
      rwa [List.length_map, List.length_map] at this
    refine ⟨_, rfl, _, rfl, bk, q, m, n, ks, rfl, hb, low, hk, by omega, by omega, fun u H1 e1 rp => ?_⟩
    refine ⟨_, rfl, _, rfl, wl, js, m, rfl, lw.mono e1, by omega, by omega, by rw [ej]; exact ok, fun v H2 e2 fc => ?_⟩
    rw [ej] at fc
    have e12 := e1.trans e2
    have rp2 : RP CP (wds ks) m u H2 := by
      rcases rp with h | ⟨i, j, a, b, s, R⟩
      · exact .inl h
      · obtain ⟨p, hp, pa⟩ := R.at_
        exact .inr ⟨i, j, a, b, s, R.ij, R.ai, R.bj, R.st, R.le, R.pre, p, hp, pa.mono e2⟩
    rcases fc_rp pl fc rp2 with ⟨rfl, rfl⟩ | ⟨i, j, d, a, b, s, FA, RA, es, l1, l2⟩
    · refine ⟨_, rfl, rfl, _, rfl, ?_⟩
      refine ev_T rfl ?_
      exact ⟨_, rfl, rfl, k H2 e12⟩
    · obtain ⟨p, rfl, dx, x, y, l, z, hp, hx, hy, hl, hz⟩ := RA.at_
      obtain ⟨r, x', y', lg, sh, kl, kz, rfl, hr', hx', hy', hlg, ekl, hsh, ekz⟩ := FA.at_
      rw [l1] at ekl
      rw [l2] at ekz
      obtain ⟨al, rfl⟩ := one_row ekl
      obtain ⟨az, rfl⟩ := one_row ekz
      have hal := hlg.rt _ (List.mem_singleton.mpr rfl)
      have haz := hsh.rt _ (List.mem_singleton.mpr rfl)
      have ma := List.mem_of_getElem? FA.ai
      have mb := List.mem_of_getElem? FA.bj
      have la := (low a ma).1
      have lb := (low b mb).1
      obtain ⟨lm1, lm2⟩ := mxl a ma b mb
      refine ⟨_, rfl, rfl, _, rfl, ?_⟩
      refine ev_F rfl ?_
      refine ⟨_, rfl, p, dx, _, rfl, hp, true, rfl, ?_⟩
      refine iteF ?_
      refine ⟨_, rfl, r, _, _, _, rfl, rfl, SqL.of hr', (by rfl), lg, _, rfl, .inl (SqL.of hlg.at_), rfl, _, rfl, ?_⟩
      refine ev_F (by rw [eqI_T (by rfl)]; rfl) ?_
      refine ⟨_, rfl, r, _, _, _, rfl, rfl, SqL.of hr', (by rfl), sh, _, rfl, .inl (SqL.of hsh.at_), rfl, _, rfl, ?_⟩
      refine ev_F (by rw [eqI_T (by rfl)]; rfl) ?_
      refine ⟨_, rfl, p, CP, dx, _, _, rfl, hp, T, F.p_one, pf1, _, rfl, p, CP, dx, _, _, rfl, hp, T, F.p_other, pf2, _, rfl, p, CP, dx, _, _, rfl, hp, T, F.p_apart, pf3, _, rfl, p, CP, dx, _, _, rfl, hp, T, F.p_longer, pf4, _, rfl, p, CP, dx, _, _, rfl, hp, T, F.p_shorter, pf5, (by decide : 5 ≤ sizeLine), fun t ht => ?_⟩
      have eT : Ex H2 _ := Ex.new (o := .tup [V.ref x, V.ref y, V.int (s / 2), V.ref l, V.ref z]) ht
      have hT : upd H2 t (.tup [V.ref x, V.ref y, V.int (s / 2), V.ref l, V.ref z]) t = some (.tup [V.ref x, V.ref y, V.int (s / 2), V.ref l, V.ref z]) := upd_same
      generalize upd H2 t (.tup [V.ref x, V.ref y, V.int (s / 2), V.ref l, V.ref z]) = H3 at eT hT
      have eqs : ∀ {H4 : Hp}, Ex H3 H4 → ∀ (pn dn : Addr) (y1 y2 y3 y4 y5 : V) (d1 d2 d3 d4 d5 : PyData), H4 pn = some (.ins CP dn (pFlds y1 y2 y3 y4 y5)) → (Dp K H4 y1 d1 ∧ Dp K H4 y2 d2 ∧ Dp K H4 y3 d3 ∧ Dp K H4 y4 d4 ∧ Dp K H4 y5 d5) → (Sh 1 d1 ∧ Sh 1 d2 ∧ Sh 1 d3 ∧ Sh 1 d4 ∧ Sh 1 d5) → ∀ (bb : Bool), (PyData.eqv (dT a) d1 && (PyData.eqv (dT b) d2 && (PyData.eqv (.int (s / 2)) d3 && (PyData.eqv (dT (mxW a b)) d4 && PyData.eqv (dT (mnW a b)) d5)))) = bb → ∀ {Q : VK}, Q (.bl bb) H4 → QK.rEqO CP (spPairEq K CP) C8.E0 (.ref p) (.ref pn) H4 Q := by
        intro H4 e4 pn dn y1 y2 y3 y4 y5 d1 d2 d3 d4 d5 hpn hd hs bb hbb Q hQ
        have e24 := eT.trans e4
        refine ⟨p, pn, dx, dn, _, _, rfl, rfl, e24 _ _ hp, hpn, p, pn, dx, dn, _, _, _, _, _, y1, y2, y3, y4, y5, _, _, _, _, _, d1, d2, d3, d4, d5, rfl, e24 _ _ hp, hpn, ⟨dp_T (e24 _ _ hx), dp_T (e24 _ _ hy), .int _, dp_T (e24 _ _ hl), dp_T (e24 _ _ hz)⟩, hd, ⟨sh_dT _, sh_dT _, sh_int _, sh_dT _, sh_dT _⟩, hs, _, rfl, ?_⟩
        have : (PyData.eqv (dT a) d1 && (PyData.eqv (dT b) d2 && (PyData.eqv (.int (s / 2)) d3 && (PyData.eqv (dT (mxW a b)) d4 && PyData.eqv (dT (mnW a b)) d5)))) = bb := hbb
        show Q (.bl (PyData.eqv (dT a) d1 && (PyData.eqv (dT b) d2 && (PyData.eqv (.int (s / 2)) d3 && (PyData.eqv (dT (mxW a b)) d4 && PyData.eqv (dT (mnW a b)) d5))))) H4
        rw [this]
        exact hQ
      refine ⟨_, rfl, _, rfl, t, _, _, _, rfl, rfl, SqT.of hT, (by rfl), _, rfl, t, _, _, _, rfl, rfl, SqT.of hT, (by rfl), _, rfl, t, _, _, _, rfl, rfl, SqT.of hT, (by rfl), _, rfl, t, _, _, _, rfl, rfl, SqT.of hT, (by rfl), _, rfl, t, _, _, _, rfl, rfl, SqT.of hT, (by rfl), fun pn dn npn ndn nne => ?_⟩
      refine ⟨pn, dn, _, _, _, _, _, rfl, upd_same, fun H4 h4 keep => ⟨rfl, ?_⟩⟩
      have e34 : Ex H3 H4 := fun u o hu => keep u o (ne_no hu npn) (by rw [upd_ne (ne_no hu npn), upd_ne (ne_no hu ndn)]; exact hu)
      have e24 := eT.trans e34
      refine eqs e34 pn dn _ _ _ _ _ _ _ _ _ _ h4 ⟨dp_T (e24 _ _ hx), dp_T (e24 _ _ hy), .int _, dp_T (e24 _ _ hl), dp_T (e24 _ _ hz)⟩ ⟨sh_dT _, sh_dT _, sh_int _, sh_dT _, sh_dT _⟩ true ?_ ⟨true, rfl, ?_⟩
      · rw [dT_self a, dT_self b, dI_self]
        show (true && (true && (true && (PyData.eqv (dT (mxW a b)) (dT (mxW a b)) && PyData.eqv (dT (mnW a b)) (dT (mnW a b)))))) = true
        rw [dT_self, dT_self]
        rfl
      refine iteF ?_
      refine ⟨_, rfl, by decide, by decide, ?_⟩
      refine for_range (lo := 0) (n := 5) (fun i σ H' => ∃ x6 x7, σ = [some (.ref bk), some (.ref wl), some (.int (m : Nat)), some (.ref p), some (.ref r), some (.ref t), x6, x7] ∧ Ex H3 H') ⟨none, none, rfl, e34⟩ ?_ ?_
      · rintro kk σ H5 hkk ⟨x6, x7, rfl, e5⟩
        rw [Int.zero_add]
        have t5 := e5 _ _ hT
        refine ⟨_, rfl, _, rfl, _, rfl, cut_of t5 fun p1 H6 e6 h6 => ⟨(by decide : 1 ≤ sizeLine), fun t1 ht1 => ?_⟩⟩
        rw [cut_nn (by show kk ≤ 5; omega)] at h6
        have e7 : Ex H6 _ := Ex.new (o := .tup [V.non]) ht1
        refine cat_of (e7 _ _ h6) upd_same (by have : ([V.ref x, V.ref y, V.int (s / 2), V.ref l, V.ref z].take kk).length ≤ 5 := List.length_take_le' ..; show _ + 1 ≤ 100000; omega) fun p2 H8 e8 h8 => ?_
        have e58 := (e6.trans e7).trans e8
        refine ⟨_, rfl, _, rfl, _, _, rfl, rfl, _, rfl, nopart (cut_of (e58 _ _ t5) fun p3 H9 e9 h9 => ?_)⟩
        rw [show ((kk : Nat) : Int) + 1 = ((kk + 1 : Nat) : Int) by omega, cut_ln (by show kk + 1 ≤ 5; omega)] at h9
        refine cat_of (e9 _ _ h8) h9 (by simp only [List.length_append, List.length_take, List.length_drop, List.length_cons, List.length_nil]; omega) fun p4 H10 e10 h10 => ?_
        rw [less_eq _ _ _ _ _ kk hkk] at h10
        have e510 := ((e58.trans e9).trans e10)
        have e310 := e5.trans e510
        refine ⟨_, rfl, _, rfl, p4, _, _, _, rfl, rfl, SqT.of h10, (by rfl), _, rfl, p4, _, _, _, rfl, rfl, SqT.of h10, (by rfl), _, rfl, p4, _, _, _, rfl, rfl, SqT.of h10, (by rfl), _, rfl, p4, _, _, _, rfl, rfl, SqT.of h10, (by rfl), _, rfl, p4, _, _, _, rfl, rfl, SqT.of h10, (by rfl), fun pm dm npm ndm nme => ?_⟩
        refine ⟨pm, dm, _, _, _, _, _, rfl, upd_same, fun H11 h11 keep2 => ⟨rfl, ?_⟩⟩
        have e1011 : Ex H10 H11 := fun u o hu => keep2 u o (ne_no hu npm) (by rw [upd_ne (ne_no hu npm), upd_ne (ne_no hu ndm)]; exact hu)
        have e311 := e310.trans e1011
        have e211 := eT.trans e311
        refine eqs e311 pm dm _ _ _ _ _ _ _ _ _ _ h11 ⟨dp_lv (dp_T (e211 _ _ hx)), dp_lv (dp_T (e211 _ _ hy)), dp_lv (.int _), dp_lv (dp_T (e211 _ _ hl)), dp_lv (dp_T (e211 _ _ hz))⟩ ⟨sh_ld (sh_dT _), sh_ld (sh_dT _), sh_ld (sh_int _), sh_ld (sh_dT _), sh_ld (sh_dT _)⟩ false (and5 kk hkk (dT_none _) (dT_none _) (dI_none _) (dT_none _) (dT_none _)) ⟨false, rfl, ?_⟩
        refine iteF ?_
        exact ⟨_, _, rfl, e311⟩
      · rintro σ H5 ⟨x6, x7, rfl, e5⟩
        have e25 := eT.trans e5
        have r5 := e25 _ _ hr'
        refine ⟨_, rfl, _, rfl, r, _, _, _, rfl, rfl, SqL.of r5, (by rfl), _, rfl, r, _, _, _, rfl, rfl, SqL.of r5, (by rfl), _, rfl, r, _, _, _, rfl, rfl, SqL.of r5, (by rfl), _, rfl, r, _, _, _, rfl, rfl, SqL.of r5, (by rfl), lg, _, _, _, rfl, rfl, SqL.of (e25 _ _ hlg.at_), (by rfl), _, rfl, r, _, _, _, rfl, rfl, SqL.of r5, (by rfl), sh, _, _, _, rfl, rfl, SqL.of (e25 _ _ hsh.at_), (by rfl), (by decide : 5 ≤ sizeLine), fun t2 ht2 => ?_⟩
        have e6 : Ex H5 _ := Ex.new (o := .tup [V.ref x', V.ref y', V.int (d : Nat), V.ref al, V.ref az]) ht2
        have e26 := e25.trans e6
        refine ⟨_, _, rfl, .tup (e6 _ _ (e5 _ _ hT)) upd_same rfl (by show 5 ≤ 1000; decide) fun i u v hu hv => ?_, fun H7 e7 => k H7 ((e12.trans e26).trans e7)⟩
        match i, hu, hv with
        | 0, hu, hv => cases hu; cases hv; exact XV.word (e26 _ _ hx) (e26 _ _ hx') (by omega)
        | 1, hu, hv => cases hu; cases hv; exact XV.word (e26 _ _ hy) (e26 _ _ hy') (by omega)
        | 2, hu, hv => cases hu; cases hv; rw [es]; exact .int _
        | 3, hu, hv => cases hu; cases hv; exact XV.word (e26 _ _ hl) (e26 _ _ hal) lm1
        | 4, hu, hv => cases hu; cases hv; exact XV.word (e26 _ _ hz) (e26 _ _ haz) lm2
        | _ + 5, hu, hv => cases hu
end
end LP
end

section
set_option Elab.async false
set_option linter.all false
set_option maxRecDepth 100000
set_option maxHeartbeats 4000000
namespace LP
open PySem L2 PyProof.Rows PySem.Spec Evl MR
section
variable {P : Program} {w : World} {K : PySem.W.Frag} {mg : Str → Option Value} {base : Heap} {CP CB : Addr}
/-- the mathematics of one book -/
structure BM (n : Nat) (ws : List Wd) : Prop where
  rb : runsBorneM (n : Nat) ws = lawRunsBorneM (n : Nat) ws
  bo : borneOfM (n : Nat) ws = lawBorneM (n : Nat) ws
  le : borneOfM (n : Nat) ws ≤ runsBorneM (n : Nat) ws
  three : ∀ m : Nat, m ≤ 3 → m ≤ n → ThreeOk ws m ∧ FCok ws m ∧ PLaws ws m ∧ unlM (swlM m) ws = decide ((m : Int) ≤ runsBorneM (n : Nat) ws) ∧ unlM (shrM m) ws = decide ((m : Int) ≤ runsBorneM (n : Nat) ws) ∧ unlM (fun w => mixM w m) ws = decide ((m : Int) ≤ runsBorneM (n : Nat) ws)
  mx : ∀ a ∈ ws, ∀ b ∈ ws, (mxW a b).length ≤ 1000 ∧ (mnW a b).length ≤ 1000
  st : ∀ a ∈ ws, ∀ b ∈ ws, ∀ s, stepsM a b = some s → apartM a b = some (s / 2) ∧ s / 2 ≤ (n : Int)
  far : (n : Int) ≤ runsBorneM (n : Nat) ws ↔ ∀ i j, NoStep ws (n : Int) i j
/-- the words of a book -/
structure BW (q : Int) (n : Nat) (ws : List Wd) : Prop where
  q2 : 2 ≤ q
  q4 : q ≤ 4
  n7 : n ≤ 24
  few : ws.length ≤ 60
  wd : ∀ x ∈ ws, x.length = n ∧ ∀ l ∈ x, 0 ≤ l ∧ l < q
  srt : Strict ws
theorem BW.low {q : Int} {n : Nat} {ws : List Wd} (b : BW q n ws) : Low 24 ws := fun x hx => ⟨by have := (b.wd x hx).1; have := b.n7; omega, fun l hl => by have := (b.wd x hx).2 l hl; have := b.q4; omega⟩
theorem apart_some {a b : Wd} {d : Int} (h : apartM a b = some d) : ∃ s, stepsM a b = some s := by
  unfold apartM at h
  unfold stepsM
  by_cases e : shape a = shape b
  · rw [if_pos e]; exact ⟨_, rfl⟩
  · rw [if_neg e] at h; cases h
def Bef (i' j' i j : Nat) : Prop := i' < i ∨ (i' = i ∧ j' < j)
def NoAp (ws : List Wd) (i j : Nat) : Prop := ∀ a b, i < j → ws[i]? = some a → ws[j]? = some b → apartM a b = none
/-- the first couple of one shape, so far -/
def First (ws : List Wd) (H : Hp) (i j : Nat) (v : V) : Prop := (v = .non ∧ ∀ i' j', Bef i' j' i j → NoAp ws i' j') ∨
  ∃ i0 j0 a b d, Bef i0 j0 i j ∧ i0 < j0 ∧ ws[i0]? = some a ∧ ws[j0]? = some b ∧ apartM a b = some d ∧ (∀ i' j', Bef i' j' i0 j0 → NoAp ws i' j') ∧ ∃ t x y, v = .ref t ∧ H t = some (.tup [.ref x, .ref y, .int d]) ∧ H x = some (.tup (a.map V.int)) ∧ H y = some (.tup (b.map V.int))
theorem First.mono {ws : List Wd} {H H' : Hp} {i j : Nat} {v : V} (h : First ws H i j v) (e : Ex H H') : First ws H' i j v := by
  rcases h with h | ⟨i0, j0, a, b, d, h1, h2, h3, h4, h5, h6, t, x, y, h7, h8, h9, h10⟩
  · exact .inl h
  · exact .inr ⟨i0, j0, a, b, d, h1, h2, h3, h4, h5, h6, t, x, y, h7, e _ _ h8, e _ _ h9, e _ _ h10⟩
theorem strict_at {ws : List Wd} (h : Strict ws) {i j : Nat} {a b : Wd} (hi : ws[i]? = some a) (hj : ws[j]? = some b) : ltW a b = decide (i < j) := by
  obtain ⟨h1, e1⟩ := List.getElem?_eq_some_iff.mp hi
  obtain ⟨h2, e2⟩ := List.getElem?_eq_some_iff.mp hj
  have pw := List.pairwise_iff_getElem.mp h
  rcases Nat.lt_trichotomy i j with hl | hl | hl
  · rw [decide_eq_true hl, ← e1, ← e2]
    exact pw i j h1 h2 hl
  · subst hl
    rw [decide_eq_false (Nat.lt_irrefl _), ← e1, ← e2]
    exact ltW_irr _
  · rw [decide_eq_false (by omega), ← e1, ← e2]
    exact ltW_asymm (pw j i h2 h1 hl)
def spBookHolds : Sp := fun vs H Q _ => ∃ (h : Hand) (q : Int) (n : Nat) (wl : Addr) (ks : List Row), vs = [.ref h.hd, .int q, .int (n : Nat), .ref wl] ∧ HandAt H h ∧ LW H wl ks ∧ BW q n (wds ks) ∧ BM n (wds ks) ∧ ∀ H', Eh h H H' → Q (.bl true) H'
theorem c__law_book_holds (F : Facts K mg CP CB) : C8.Cal P w K mg base 7 "_law_book_holds" spBookHolds [] := by
  obtain ⟨f, fd, D, b⟩ := F.d__law_book_holds
  have m_Book := m_Book (P := P) (w := w) (base := base) F
  have c__law_either := c__law_either (P := P) (w := w) (base := base) F
  have c_runs_borne := c_runs_borne (P := P) (w := w) (base := base) F
  have c__law_runs_borne := c__law_runs_borne (P := P) (w := w) (base := base) F
  have c_borne_of := c_borne_of (P := P) (w := w) (base := base) F
  have c__law_borne := c__law_borne (P := P) (w := w) (base := base) F
  have c__law_exact := c__law_exact (P := P) (w := w) (base := base) F 2
  have c__law_three_ways := c__law_three_ways (P := P) (w := w) (base := base) F
  have c_bears_runs := c_bears_runs (P := P) (w := w) (base := base) F
  have c__law_pair_holds := c__law_pair_holds (P := P) (w := w) (base := base) F
  have c_runs_pair := c_runs_pair (P := P) (w := w) (base := base) F
  have c__law_apart := c__law_apart (P := P) (w := w) (base := base) F
  refine C8.cal0 D b .nil sc__law_book_holds (fun vs H Q E h => ?_) (fun cdv A outer s H vs Q E hr h => ?_)
  · obtain ⟨h, q, n, wl, ks, rfl, _⟩ := h
    rfl
  · obtain ⟨h, q, n, wl, ks, rfl, hh, lw, W, M, k⟩ := h
    refine ⟨_, (pss_cons (ps_set (i := 4) sc__law_book_holds.nd rfl (Or.inl rfl) (C8.pe_mk m_Book hr (by decide) (by rfl) (pa_cons (pv 1) (pa_cons (pv 2) (pa_cons (pe_lc (own := [("_law_word_here", 13)]) (g := (gName 13)) (tt := tYes) (by rfl) sc__law_book_holds.nd (pi_listK (K := K) rfl (pv 3)) (blkOk_by (own := [("_law_word_here", 13)]) (N := N__law_book_holds) (sc := (C8.fnScope st__law_book_holds)) (by decide +kernel)) (fun _ _ _ _ _ => (pg_name (i := 13) sc__law_book_holds.nd rfl (Or.inl rfl))) (fun _ _ _ _ _ => pts_nil) (fun _ _ _ _ _ => (C8.pe_c c__law_either hr (by decide) (by rfl) (pa_cons (pv 0) (pa_cons (pv 13) pa_nil))))) pa_nil)))))
  (pss_cons (ps_set (i := 5) sc__law_book_holds.nd rfl (Or.inl rfl) (C8.pe_c c_runs_borne hr (by decide) (by rfl) (pa_cons (pv 4) pa_nil)))
  (pss_cons (ps_set (i := 6) sc__law_book_holds.nd rfl (Or.inl rfl) (C8.pe_c c__law_runs_borne hr (by decide) (by rfl) (pa_cons (pv 2) (pa_cons (pv 3) pa_nil))))
  (pss_cons (ps_if (PW.pt (pw_or (pt_not (pt_val (C8.pe_c c__law_exact hr (by decide) (by rfl) (pa_cons (pv 5) (pa_cons (pv 6) pa_nil))))) (pw_or (pt_not (pt_val (C8.pe_c c__law_exact hr (by decide) (by rfl) (pa_cons (C8.pe_c c_borne_of hr (by decide) (by rfl) (pa_cons (pv 4) pa_nil)) (pa_cons (C8.pe_c c__law_borne hr (by decide) (by rfl) (pa_cons (pv 2) (pa_cons (pv 3) pa_nil))) pa_nil))))) (pw_or1 (pt_cmpR op_gt (C8.pe_c c_borne_of hr (by decide) (by rfl) (pa_cons (pv 4) pa_nil)) (pv 5) (nomark _)))))) (pss_one (ps_ret pe_bl)) pss_nil)
  (pss_cons (ps_for PassesOwn.never rfl (pi_range1 (by rfl) F.n_range (pa_cons (pe_op op_add (pe_callB (call_min2 rfl) (by rfl) F.n_min (by decide +kernel) (pa_cons pe_int (pa_cons (pv 2) pa_nil))) pe_int) pa_nil)) (pg_name (i := 7) sc__law_book_holds.nd rfl (Or.inl rfl))
    (pss_cons (ps_set (i := 8) sc__law_book_holds.nd rfl (Or.inl rfl) (pe_cmpR op_ge (pv 5) (pv 7) (nomark _)))
  (pss_cons (ps_if (pt_cmpR (op_neK (K := K) rfl (hu64 hr)) (C8.pe_c c__law_three_ways hr (by decide) (by rfl) (pa_cons (pv 3) (pa_cons (pv 7) pa_nil))) (pe_lst (pa_cons (pv 8) (pa_cons (pv 8) (pa_cons (pv 8) pa_nil)))) (nomark _)) (pss_one (ps_ret pe_bl)) pss_nil)
  (pss_one (ps_if (PW.pt (pw_or (pt_not (pt_val (C8.pe_c c__law_exact hr (by decide) (by rfl) (pa_cons (C8.pe_c c_bears_runs hr (by decide) (by rfl) (pa_cons (pv 4) (pa_cons (pv 7) pa_nil))) (pa_cons (pv 8) pa_nil))))) (pw_or1 (pt_not (pt_val (C8.pe_c c__law_pair_holds hr (by decide) (by rfl) (pa_cons (pv 4) (pa_cons (pv 3) (pa_cons (pv 7) pa_nil))))))))) (pss_one (ps_ret pe_bl)) pss_nil)))))
  (pss_cons (ps_if (pt_not (pt_val (C8.pe_c c__law_exact hr (by decide) (by rfl) (pa_cons (C8.pe_c c_bears_runs hr (by decide) (by rfl) (pa_cons (pv 4) (pa_cons (pv 2) pa_nil))) (pa_cons (pe_cmpR op_ge (pv 5) (pv 2) (nomark _)) pa_nil))))) (pss_one (ps_ret pe_bl)) pss_nil)
  (pss_cons (ps_set (i := 9) sc__law_book_holds.nd rfl (Or.inl rfl) (C8.pe_c c_runs_pair hr (by decide) (by rfl) (pa_cons (pv 4) (pa_cons (pv 2) pa_nil))))
  (pss_cons (ps_if (pt_cmpR op_ge (pv 5) (pv 2) (nomark _)) (pss_one (ps_ret (pe_cmpR op_isN (pv 9) pe_non (nomark _)))) pss_nil)
  (pss_cons (ps_set (i := 10) sc__law_book_holds.nd rfl (Or.inl rfl) pe_non)
  (pss_cons (ps_for PassesOwn.never rfl (pi_listK (K := K) rfl (pv 3)) (pg_name (i := 11) sc__law_book_holds.nd rfl (Or.inl rfl))
    (pss_one (ps_for PassesOwn.never rfl (pi_listK (K := K) rfl (pv 3)) (pg_name (i := 12) sc__law_book_holds.nd rfl (Or.inl rfl))
    (pss_one (ps_if (PW.pt (pw_and (pt_cmpR op_isN (pv 10) pe_non (nomark _)) (pw_and (pt_cmpR (op_ltK (K := K) rfl hr.units0) (pv 11) (pv 12) (nomark _)) (pw_and1 (pt_cmpR op_notN (C8.pe_c c__law_apart hr (by decide) (by rfl) (pa_cons (pv 11) (pa_cons (pv 12) pa_nil))) pe_non (nomark _)))))) (pss_one (ps_set (i := 10) sc__law_book_holds.nd rfl (Or.inl rfl) (pe_tup (pa_cons (pv 11) (pa_cons (pv 12) (pa_cons (C8.pe_c c__law_apart hr (by decide) (by rfl) (pa_cons (pv 11) (pa_cons (pv 12) pa_nil))) pa_nil)))))) pss_nil)))))
  (pss_one (ps_ret (pe_and (pe_cmpR op_notN (pv 9) pe_non (nomark _)) (pe_and (C8.pe_c c__law_exact hr (by decide) (by rfl) (pa_cons (pe_tup (pa_cons (pe_fldK (K := K) rfl (pv 9) rfl) (pa_cons (pe_fldK (K := K) rfl (pv 9) rfl) (pa_cons (pe_fldK (K := K) rfl (pv 9) rfl) pa_nil)))) (pa_cons (pv 10) pa_nil))) (pe_one (pe_cmpR (op_eqK (K := K) rfl (hu64 hr)) (pe_fldK (K := K) rfl (pv 4) rfl) (pe_callTy (cr_tupleK (K := K) rfl) (by rfl) F.n_tuple (by decide +kernel) (pa_cons (pv 3) pa_nil)) (nomark _))))))))))))))))), ?_⟩
    have T := F.i_Book.cl
    have TP := F.i_RunPair.cl
    have lr : (refs ks).length = ks.length := List.length_map _
    have lw2 : (wds ks).length = ks.length := List.length_map _
    have few : ks.length ≤ 60 := by have := W.few; rw [lw2] at this; exact this
    have n24 := W.n7
    refine ⟨_, rfl, _, rfl, _, rfl, wl, rfl, ⟨_, SqL.of lw.at_⟩, fun d hd => ?_⟩
    refine lc_list (xs := refs ks) (fun i H' => ∃ js, Eh h H H' ∧ LWW H' d js ∧ (∀ p ∈ js, p.1 ≠ d) ∧ wds js = (wds ks).take i) ⟨[], (Eh.refl hh).mut hd, ⟨upd_same, fun p hp => nomatch hp⟩, fun p hp => (nomatch hp), rfl⟩ (fun i H' _ ⟨_, e, _⟩ => SqL.of (e.refs lw.at_)) ?_ ?_
    · rintro i v H1 hv ⟨js, e1, lj, nj, ej⟩
      obtain ⟨⟨b, bs⟩, rfl, hb⟩ := map_at hv
      have hbw := wd_at hb
      have hbt := e1.tup (lw.rt _ (List.mem_of_getElem? hb))
      have il := (List.getElem?_eq_some_iff.mp hb).1
      refine ⟨rfl, lcY ?_⟩
      refine ⟨_, rfl, _, rfl, h, b, bs, rfl, e1.dst, hbt, fun p H2 e2 hp => ?_⟩
      have hd2 := e2.refs lj.at_
      have pd : p ≠ d := by
        rcases hp with ⟨_, hp⟩ | hp
        · exact (ne_no lj.at_ hp).symm
        · exact (ne_lt hd2 hp).symm
      have keep : ∀ r ∈ js, WAt H2 r.1 r.2 := fun r hr => by
        rcases lj.ws r hr with h | h
        · exact .inl (e2.ints h)
        · exact .inr (e2.tup h)
      have lk : js.length = i := by
        have := congrArg List.length ej
        rw [List.length_map, List.length_take, List.length_map] at this
        omega
      refine ⟨_, hd2, ?_, js ++ [(p, bs)], (e1.trans e2).mut hd, ⟨?_, fun r hr => ?_⟩, fun r hr => ?_, ?_⟩
      · rw [List.length_map]; exact sz_lt (by omega)
      · rw [upd_same]; unfold refs QT.refs; rw [List.map_append]; rfl
      · rcases List.mem_append.mp hr with hr | hr
        · unfold WAt
          rw [upd_ne (nj r hr)]
          exact keep r hr
        · rw [List.mem_singleton.mp hr]
          unfold WAt
          rw [upd_ne pd]
          exact hp.elim (fun h => .inl h.1) .inr
      · rcases List.mem_append.mp hr with hr | hr
        · exact nj r hr
        · rw [List.mem_singleton.mp hr]; exact pd
      · show List.map (fun q : Row => q.2) (js ++ [(p, bs)]) = _
        rw [List.map_append, show js.map (fun q : Row => q.2) = wds js from rfl, ej, List.take_add_one, hbw]; rfl
    · rintro H1 ⟨js, e1, lj, nj, ej⟩
      rw [lr, ← lw2, List.take_length] at ej
      refine fun x dx nx ndx nex => ?_
      have ljs : js.length = ks.length := by
        have := congrArg List.length ej
        rwa [List.length_map, List.length_map] at this
      have eA : Ex H1 (upd (upd H1 dx (.own x)) x (.ins CB dx [])) := fun u o hu => by rw [upd_ne (ne_no hu nx), upd_ne (ne_no hu ndx)]; exact hu
      refine ⟨x, dx, q, n, d, js, rfl, upd_same, lj.mono eA, by rw [ej]; exact W.wd, W.q2, W.q4, n24, by omega, fun ks' H2 bk ek keep => ⟨rfl, ?_⟩⟩
      have e2 : Ex H1 H2 := fun u o hu => keep u o (ne_no hu nx) (eA u o hu)
      have ek : wds ks' = wds ks := by
        rw [ek, ej]
        exact strict_eq (strict_sortU _) W.srt fun z => mem_sortU
      have lk' : ks'.length = ks.length := by
        have := congrArg List.length ek
        rwa [List.length_map, List.length_map] at this
      have e02 := e1.ext e2
      have lwA := e02.lw lw
      have low : Low 24 (wds ks') := by rw [ek]; exact W.low
      have low' : Low 24 (wds ks) := W.low
      -- borne_here
      refine ⟨_, rfl, x, q, n, ks', rfl, bk, low, by omega, fun H3 e3 => ?_⟩
      rw [ek]
      refine ⟨_, rfl, _, rfl, wl, n, ks, rfl, lwA.mono e3, low', by omega, fun H4 e4 => ?_⟩
      rw [← M.rb]
      have e34 := e3.trans e4
      refine ⟨_, rfl, _, rfl, _, _, rfl, .int _, fun H5 e5 => ⟨true, rfl, ?_⟩⟩
      refine iteF ?_
      have e35 := e34.trans e5
      refine ⟨_, rfl, x, q, n, ks', rfl, bk.mono e35, low, by omega, fun H6 e6 => ⟨_, rfl, _, rfl, wl, n, ks, rfl, lwA.mono (e35.trans e6), low', by omega, fun H7 e7 => ?_⟩⟩
      rw [ek, ← M.bo]
      refine ⟨_, _, rfl, .int _, fun H8 e8 => ⟨true, rfl, ?_⟩⟩
      refine iteF ?_
      have e38 := ((e35.trans e6).trans e7).trans e8
      refine ⟨_, rfl, x, q, n, ks', rfl, bk.mono e38, low, by omega, fun H9 e9 => ?_⟩
      rw [ek]
      refine ⟨_, rfl, _, _, rfl, rfl, _, rfl, ?_⟩
      refine ev_F (decide_eq_false (by have := M.le; omega)) ?_
      have e39 := e38.trans e9
      -- for number
      refine ⟨_, rfl, 3, (n : Nat), rfl, _, _, rfl, rfl, ?_⟩
      have em : (if ((n : Nat) : Int) < 3 then ((n : Nat) : Int) else 3) + 1 = ((min 3 n + 1 : Nat) : Int) := by
        split <;> omega
      refine ⟨((min 3 n + 1 : Nat) : Int), by show [V.int ((if ((n : Nat) : Int) < 3 then ((n : Nat) : Int) else 3) + 1)] = _; rw [em], by omega, by omega, ?_⟩
      rw [Int.toNat_natCast]
      generalize hrb : runsBorneM (n : Nat) (wds ks) = rb
      have M3 := M.three
      rw [hrb] at M3
      refine for_range (lo := 0) (n := min 3 n + 1) (fun i σ H' => ∃ x7 x8 x9 x10 x11 x12 x13, σ = [some (.ref h.hd), some (.int q), some (.int (n : Nat)), some (.ref wl), some (.ref x), some (.int rb), some (.int rb), x7, x8, x9, x10, x11, x12, x13] ∧ Ex H2 H') ⟨none, none, none, none, none, none, none, rfl, e39⟩ ?_ ?_
      · rintro m σ H10 hm ⟨x7, x8, x9, x10, x11, x12, x13, rfl, e10⟩
        rw [Int.zero_add]
        obtain ⟨ok3, okF, okP, u1, u2, u3⟩ := M3 m (by omega) (by omega)
        refine ⟨_, rfl, _, rfl, _, _, rfl, rfl, ?_⟩
        refine ⟨_, rfl, _, rfl, wl, ks, m, rfl, lwA.mono e10, by omega, by omega, ok3, fun p H11 e11 hp => ?_⟩
        rw [u1, u2, u3] at hp
        refine ⟨_, rfl, _, rfl, _, rfl, (by decide : 3 ≤ sizeLine), fun p2 hp2 => ?_⟩
        have e12 : Ex H11 _ := Ex.new (o := .lst [V.bl (decide ((m : Int) ≤ rb)), V.bl (decide ((m : Int) ≤ rb)), V.bl (decide ((m : Int) ≤ rb))]) hp2
        have shb : ∀ (bs : List Bool), Sh 1 (.list (bs.map PyData.bool)) := fun bs => sh_list fun z hz => by
          obtain ⟨y, _, rfl⟩ := List.mem_map.mp hz
          exact sh_bool y
        refine ⟨_, _, .lst (SqL.of (e12 _ _ hp)) (dp_bools [decide ((m : Int) ≤ rb), decide ((m : Int) ≤ rb), decide ((m : Int) ≤ rb)]), .lst (SqL.of upd_same) (dp_bools [decide ((m : Int) ≤ rb), decide ((m : Int) ≤ rb), decide ((m : Int) ≤ rb)]), (shb _).shaped, (shb _).shaped, _, rfl, ?_⟩
        have eb : PyData.eqv (.list ([decide ((m : Int) ≤ rb), decide ((m : Int) ≤ rb), decide ((m : Int) ≤ rb)].map PyData.bool)) (.list ([decide ((m : Int) ≤ rb), decide ((m : Int) ≤ rb), decide ((m : Int) ≤ rb)].map PyData.bool)) = true := by
          simp only [PyData.eqv]
          rw [eqv_bools]
          exact decide_eq_true rfl
        refine ev_F (by rw [eb]; rfl) ?_
        have e212 := (e10.trans e11).trans e12
        refine ⟨_, rfl, _, rfl, x, q, m, n, ks', rfl, bk.mono e212, low, by omega, by omega, by omega, fun H13 e13 => ?_⟩
        rw [ek, hrb]
        refine ⟨_, rfl, _, _, rfl, .bl _, fun H14 e14 => ⟨true, rfl, ?_⟩⟩
        refine iteF ?_
        have e214 := (e212.trans e13).trans e14
        refine ⟨_, rfl, _, rfl, _, rfl, x, wl, q, n, m, ks', ks, rfl, bk.mono e214, lwA.mono e214, ek.symm, low, by omega, by omega, by omega, by rw [ek]; exact okF, by rw [ek]; exact okP, by rw [ek]; exact M.mx, fun H15 e15 => ⟨true, rfl, ?_⟩⟩
        refine iteF ?_
        exact ⟨_, _, _, _, _, _, _, rfl, e214.trans e15⟩
      · rintro σ H10 ⟨x7, x8, x9, x10, x11, x12, x13, rfl, e10⟩
        refine ⟨_, rfl, _, rfl, x, q, n, n, ks', rfl, bk.mono e10, low, by omega, by omega, Int.le_refl _, fun H11 e11 => ?_⟩
        rw [ek, hrb]
        refine ⟨_, rfl, _, rfl, _, _, rfl, rfl, _, _, rfl, .bl _, fun H12 e12 => ⟨true, rfl, ?_⟩⟩
        refine iteF ?_
        have e212 := (e10.trans e11).trans e12
        refine ⟨_, rfl, _, rfl, x, q, n, n, ks', rfl, bk.mono e212, low, by omega, by omega, Int.le_refl _, fun u H13 e13 rp => ?_⟩
        rw [ek] at rp
        have e213 := e212.trans e13
        have far := M.far
        rw [hrb] at far
        refine ⟨_, rfl, _, rfl, _, _, rfl, rfl, _, rfl, ?_⟩
        by_cases hge : ((n : Nat) : Int) ≤ rb
        · refine ev_T (decide_eq_true hge) ?_
          rcases rp with ⟨rfl, _⟩ | ⟨i, j, a, b, s, R⟩
          · exact ⟨_, rfl, rfl, k _ (e02.ext e213)⟩
          · exact absurd R.le (far.mp hge i j a b R.ij R.ai R.bj s R.st)
        · refine ev_F (decide_eq_false hge) ?_
          rcases rp with ⟨rfl, none⟩ | ⟨i, j, a, b, s, R⟩
          · exact absurd (far.mpr none) hge
          obtain ⟨p, rfl, dp, px, py, pl, pz, hp, hpx, hpy, hpl, hpz⟩ := R.at_
          refine ⟨_, rfl, wl, rfl, ⟨_, SqL.of (lwA.mono e213).at_⟩, ?_⟩
          refine for_list (xs := refs ks) (fun i σ H' => ∃ v y11 y12, σ = [some (.ref h.hd), some (.int q), some (.int (n : Nat)), some (.ref wl), some (.ref x), some (.int rb), some (.int rb), x7, x8, some (.ref p), some v, y11, y12, x13] ∧ Ex H13 H' ∧ First (wds ks) H' i 0 v) ⟨.non, x11, x12, rfl, Ex.refl H13, .inl ⟨rfl, fun i' j' hb => hb.elim (fun h => absurd h (Nat.not_lt_zero _)) fun h => absurd h.2 (Nat.not_lt_zero _)⟩⟩ (fun i σ H' _ ⟨_, _, _, _, e, _⟩ => SqL.of ((lwA.mono e213).mono e).at_) ?_ ?_
          · rintro i1 v1 σ H14 hv1 ⟨v, y11, y12, rfl, e14, fs⟩
            obtain ⟨⟨b1, w1⟩, rfl, hb1⟩ := map_at hv1
            have hw1 := wd_at hb1
            have lwB := lwA.mono (e213.trans e14)
            refine ⟨_, rfl, wl, rfl, ⟨_, SqL.of lwB.at_⟩, ?_⟩
            refine for_list (xs := refs ks) (fun j σ H' => ∃ v y12, σ = [some (.ref h.hd), some (.int q), some (.int (n : Nat)), some (.ref wl), some (.ref x), some (.int rb), some (.int rb), x7, x8, some (.ref p), some v, some (.ref b1), y12, x13] ∧ Ex H14 H' ∧ First (wds ks) H' i1 j v) ⟨v, y12, rfl, Ex.refl H14, fs⟩ (fun i σ H' _ ⟨_, _, _, e, _⟩ => SqL.of (lwB.mono e).at_) ?_ ?_
            · rintro j1 v2 σ H15 hv2 ⟨v, y12, rfl, e15, fs⟩
              obtain ⟨⟨b2, w2⟩, rfl, hb2⟩ := map_at hv2
              have hw2 := wd_at hb2
              have lwC := lwB.mono e15
              have t1 := lwC.rt _ (List.mem_of_getElem? hb1)
              have t2 := lwC.rt _ (List.mem_of_getElem? hb2)
              obtain ⟨lo1, lo1'⟩ := low' w1 (List.mem_of_getElem? hw1)
              obtain ⟨lo2, lo2'⟩ := low' w2 (List.mem_of_getElem? hw2)
              have step : ∀ {H' : Hp}, First (wds ks) H' i1 j1 v → (i1 < j1 → v = .non → apartM w1 w2 = none) → First (wds ks) H' i1 (j1 + 1) v := by
                intro H' fs hn
                rcases fs with ⟨rfl, none⟩ | ⟨i0, j0, a0, b0, d0, g1, g2, g3, g4, g5, g6, g7⟩
                · refine .inl ⟨rfl, fun i' j' hb => ?_⟩
                  by_cases he : i' = i1 ∧ j' = j1
                  · obtain ⟨rfl, rfl⟩ := he
                    intro a0 b0 hlt ha0 hb0
                    rw [hw1] at ha0
                    rw [hw2] at hb0
                    cases ha0
                    cases hb0
                    exact hn hlt rfl
                  · exact none i' j' (hb.elim .inl fun h => .inr ⟨h.1, by omega⟩)
                · exact .inr ⟨i0, j0, a0, b0, d0, g1.elim .inl fun h => .inr ⟨h.1, by omega⟩, g2, g3, g4, g5, g6, g7⟩
              refine ⟨_, rfl, rfl, _, rfl, ?_⟩
              by_cases hv : v = .non
              · subst hv
                refine ev_T rfl ?_
                refine ⟨_, rfl, _, rfl, b1, b2, w1, w2, rfl, rfl, SqT.of t1, SqT.of t2, _, rfl, ?_⟩
                rw [ltW_eq, strict_at W.srt hw1 hw2]
                by_cases hlt : i1 < j1
                · refine ev_T (decide_eq_true hlt) ?_
                  refine ⟨_, rfl, _, rfl, b1, b2, w1, w2, rfl, t1, t2, by omega, by omega, lo1', lo2', fun H16 e16 => ?_⟩
                  rw [show apartV w1 w2 = vO (apartM w1 w2) from rfl]
                  refine ⟨rfl, _, rfl, ?_⟩
                  cases hap : apartM w1 w2 with
                  | none =>
                    refine ev_F rfl ?_
                    exact ⟨_, _, rfl, e15.trans e16, step (fs.mono e16) fun _ _ => hap⟩
                  | some dd =>
                    refine ev_T rfl ?_
                    have t1' := e16 _ _ t1
                    have t2' := e16 _ _ t2
                    refine ⟨_, rfl, _, rfl, _, rfl, _, rfl, b1, b2, w1, w2, rfl, t1', t2', by omega, by omega, lo1', lo2', fun H17 e17 => ⟨(by decide : 3 ≤ sizeLine), fun t ht => ?_⟩⟩
                    rw [show apartV w1 w2 = vO (some dd) from by unfold apartV; rw [hap]]
                    have e18 : Ex H17 _ := Ex.new (o := .tup [V.ref b1, V.ref b2, vO (some dd)]) ht
                    have e1718 := e17.trans e18
                    refine ⟨.ref t, _, rfl, (e15.trans e16).trans e1718, .inr ⟨i1, j1, w1, w2, dd, .inr ⟨rfl, Nat.lt_succ_self _⟩, hlt, hw1, hw2, hap, ?_, t, b1, b2, rfl, upd_same, e1718 _ _ t1', e1718 _ _ t2'⟩⟩
                    rcases fs with ⟨_, none⟩ | ⟨_, _, _, _, _, _, _, _, _, _, _, _, _, _, hbad, _⟩
                    · exact none
                    · cases hbad
                · refine ev_F (decide_eq_false hlt) ?_
                  refine iteF ?_
                  exact ⟨_, _, rfl, e15, step fs fun h _ => absurd h hlt⟩
              · refine ev_F (decide_eq_false hv) ?_
                refine iteF ?_
                exact ⟨_, _, rfl, e15, step fs fun _ h => absurd h hv⟩
            · rintro σ H15 ⟨v, y12, rfl, e15, fs⟩
              refine ⟨v, _, _, rfl, e14.trans e15, ?_⟩
              rw [lr] at fs
              rcases fs with ⟨rfl, none⟩ | ⟨i0, j0, a0, b0, d0, g1, g2, g3, g4, g5, g6, g7⟩
              · refine .inl ⟨rfl, fun i' j' hb a0 b0 hlt ha0 hb0 => ?_⟩
                have := (List.getElem?_eq_some_iff.mp hb0).1
                rw [lw2] at this
                refine none i' j' ?_ a0 b0 hlt ha0 hb0
                rcases hb with h | h
                · by_cases he : i' = i1
                  · exact .inr ⟨he, by omega⟩
                  · exact .inl (by omega)
                · exact absurd h.2 (Nat.not_lt_zero _)
              · exact .inr ⟨i0, j0, a0, b0, d0, .inl (g1.elim (fun h => by omega) fun h => by omega), g2, g3, g4, g5, g6, g7⟩
          · rintro σ H14 ⟨v, y11, y12, rfl, e14, fs⟩
            rw [lr] at fs
            have ma := List.mem_of_getElem? R.ai
            have mb := List.mem_of_getElem? R.bj
            obtain ⟨ap, _⟩ := M.st a ma b mb s R.st
            rcases fs with ⟨rfl, none⟩ | ⟨i0, j0, a0, b0, d0, g1, g2, g3, g4, g5, g6, t, tx, ty, rfl, ht, htx, hty⟩
            · have hi := (List.getElem?_eq_some_iff.mp R.ai).1
              rw [lw2] at hi
              have := none i j (.inl hi) a b R.ij R.ai R.bj
              rw [ap] at this
              cases this
            · obtain ⟨s0, hs0⟩ := apart_some g5
              obtain ⟨_, hn0⟩ := M.st a0 (List.mem_of_getElem? g3) b0 (List.mem_of_getElem? g4) s0 hs0
              have n1 : ¬ Bef i0 j0 i j := fun h => R.pre i0 j0 h a0 b0 g2 g3 g4 s0 hs0 hn0
              have n2 : ¬ Bef i j i0 j0 := fun h => by
                have := g6 i j h a b R.ij R.ai R.bj
                rw [ap] at this
                cases this
              have eij : i0 = i ∧ j0 = j := by
                unfold Bef at n1 n2
                omega
              obtain ⟨rfl, rfl⟩ := eij
              have ea : a0 = a := Option.some.inj (g3.symm.trans R.ai)
              have eb : b0 = b := Option.some.inj (g4.symm.trans R.bj)
              subst ea eb
              have ed : d0 = s / 2 := Option.some.inj (g5.symm.trans ap)
              subst ed
              have e1314 := e14
              have hp' := e14 _ _ hp
              refine ⟨_, rfl, rfl, true, rfl, ?_⟩
              refine iteT ?_
              refine ⟨_, rfl, p, CP, dp, _, _, rfl, hp', TP, F.p_one, pf1, _, rfl, p, CP, dp, _, _, rfl, hp', TP, F.p_other, pf2, _, rfl, p, CP, dp, _, _, rfl, hp', TP, F.p_apart, pf3, (by decide : 3 ≤ sizeLine), fun t2 ht2 => ?_⟩
              have e15 : Ex H14 _ := Ex.new (o := .tup [V.ref px, V.ref py, V.int (s / 2)]) ht2
              refine ⟨_, rfl, _, _, rfl, .tup upd_same (e15 _ _ ht) rfl (by show 3 ≤ 1000; decide) fun i u v hu hv => ?_, fun H16 e16 => ⟨true, rfl, ?_⟩⟩
              · match i, hu, hv with
                | 0, hu, hv => cases hu; cases hv; exact XV.word (e15 _ _ (e14 _ _ hpx)) (e15 _ _ htx) (by have := (low' _ ma).1; omega)
                | 1, hu, hv => cases hu; cases hv; exact XV.word (e15 _ _ (e14 _ _ hpy)) (e15 _ _ hty) (by have := (low' _ mb).1; omega)
                | 2, hu, hv => cases hu; cases hv; exact .int _
                | _ + 3, hu, hv => cases hu
              refine iteT ?_
              have e216 := ((e213.trans e14).trans e15).trans e16
              obtain ⟨dx2, tb, hbk, tw⟩ := (bk.mono e216).ex
              have lwD := lwA.mono e216
              refine ⟨_, rfl, x, CB, dx2, _, _, rfl, hbk, T, F.b_words, bf3, _, rfl, wl, _, rfl, .inl ⟨SqL.of lwD.at_, fun l hl => ?_⟩⟩
              have e17 : Ex H16 _ := Ex.new (o := .tup (refs ks)) hl
              have shr : ∀ js : List Row, Sh 2 (.tuple (js.map fun p : Row => dT p.2)) := fun js => sh_tup fun z hz => by
                obtain ⟨y, _, rfl⟩ := List.mem_map.mp hz
                exact sh_dT _
              refine ⟨_, _, .tup (SqT.of (e17 _ _ tw.at_)) (dp_rows (tw.rt.mono e17)), .tup (SqT.of upd_same) (dp_rows (lwD.rt.mono e17)), (shr _).shaped, (shr _).shaped, ?_⟩
              have e1 : (ks'.map fun p : Row => dT p.2) = (wds ks').map dT := by rw [List.map_map]; rfl
              have e2 : (ks.map fun p : Row => dT p.2) = (wds ks).map dT := by rw [List.map_map]; rfl
              have e3 : PyData.eqv (.tuple (ks'.map fun p : Row => dT p.2)) (.tuple (ks.map fun p : Row => dT p.2)) = true := by
                simp only [PyData.eqv]
                rw [e1, e2, eqv_dTs, ek]
                exact decide_eq_true rfl
              rw [e3]
              exact k _ (e02.ext (e216.trans e17))
end
end LP
end

section
set_option Elab.async false
set_option linter.all false
set_option maxRecDepth 100000
set_option maxHeartbeats 4000000
namespace LP
open PySem L2 PyProof.Rows PySem.Spec Evl MR
section
variable {P : Program} {w : World} {K : PySem.W.Frag} {mg : Str → Option Value} {base : Heap} {CP CB : Addr}
theorem any_dT' (js : List Row) (x : Wd) : (!(js.map fun p : Row => dT p.2).any fun z => PyData.eqv z (dT x)) = decide (x ∉ wds js) := by
  rw [any_dT]
  by_cases h : x ∈ wds js
  · rw [decide_eq_true h, decide_eq_false (by simpa using h)]; rfl
  · rw [decide_eq_false h, decide_eq_true h]; rfl
/-- words drawn for a book -/
structure Dr (q : Int) (n : Nat) (ws : List Wd) : Prop where
  few : ws.length ≤ 5
  wd : ∀ x ∈ ws, x.length = n ∧ ∀ l ∈ x, 0 ≤ l ∧ l < q
  srt : Strict ws
def spRunWords : Sp := fun vs H Q _ => ∃ (h : Hand) (q : Int) (n : Nat), vs = [.ref h.hd, .int q, .int (n : Nat), .int 5] ∧ HandAt H h ∧ 2 ≤ q ∧ q ≤ 4 ∧ n ≤ 7 ∧ ∀ p ks H', Eh h H H' → LW H' p ks → Dr q n (wds ks) → Q (.ref p) H'
theorem c__law_run_words (F : Facts K mg CP CB) : C8.Cal P w K mg base 4 "_law_run_words" spRunWords [] := by
  obtain ⟨f, fd, D, b⟩ := F.d__law_run_words
  have c__law_take := c__law_take (P := P) (w := w) (base := base) F
  have c__law_shape := c__law_shape (P := P) (w := w) (base := base) F
  have c__law_lengths := c__law_lengths (P := P) (w := w) (base := base) F
  have c__law_spelled := c__law_spelled (P := P) (w := w) (base := base) F
  have c__law_word := c__law_word (P := P) (w := w) (base := base) F
  refine C8.cal0 D b .nil sc__law_run_words (fun vs H Q E h => ?_) (fun cdv A outer s H vs Q E hr h => ?_)
  · obtain ⟨h, q, n, rfl, _⟩ := h
    rfl
  · obtain ⟨h, q, n, rfl, hh, q2, q4, n7, k⟩ := h
    refine ⟨_, (pss_cut (ps_set (i := 5) sc__law_run_words.nd rfl (Or.inl rfl) (pe_ifExp (pt_cmpR op_gt (pv 2) pe_int (nomark _)) (pe_lc (own := [("_law_k", 4)]) (g := (gName 4)) (tt := tYes) (by rfl) sc__law_run_words.nd (pi_range1 (by rfl) F.n_range (pa_cons pe_int pa_nil)) (blkOk_by (own := [("_law_k", 4)]) (N := N__law_run_words) (sc := (C8.fnScope st__law_run_words)) (by decide +kernel)) (fun _ _ _ _ _ => (pg_name (i := 4) sc__law_run_words.nd rfl (Or.inl rfl))) (fun _ _ _ _ _ => pts_nil) (fun _ _ _ _ _ => (C8.pe_c c__law_shape hr (by decide) (by rfl) (pa_cons (pv 0) (pa_cons (pv 1) (pa_cons (pe_op op_add pe_int (C8.pe_c c__law_take hr (by decide) (by rfl) (pa_cons (pv 0) (pa_cons (pv 2) pa_nil)))) pa_nil)))))) (pe_lst (pa_cons (pe_tup pa_nil) (pa_cons (pe_tup pa_nil) pa_nil)))))
  (pss_cons (ps_set (i := 6) sc__law_run_words.nd rfl (Or.inl rfl) (pe_lst pa_nil))
  (pss_cons (ps_for PassesOwn.never rfl (pi_range1 (by rfl) F.n_range (pa_cons (C8.pe_c c__law_take hr (by decide) (by rfl) (pa_cons (pv 0) (pa_cons (pe_op op_add (pv 3) pe_int) pa_nil))) pa_nil)) (pg_name (i := 4) sc__law_run_words.nd rfl (Or.inl rfl))
    (pss_cons (ps_set (i := 7) sc__law_run_words.nd rfl (Or.inl rfl) (pe_ix (ix_listK (K := K) rfl) (pv 5) (C8.pe_c c__law_take hr (by decide) (by rfl) (pa_cons (pv 0) (pa_cons pe_int pa_nil))) (fun _ _ => rfl)))
  (pss_cons (ps_set (i := 8) sc__law_run_words.nd rfl (Or.inl rfl) (C8.pe_c c__law_spelled hr (by decide) (by rfl) (pa_cons (pv 7) (pa_cons (C8.pe_c c__law_lengths hr (by decide) (by rfl) (pa_cons (pv 0) (pa_cons (pe_callB (cr_lenK (K := K) rfl) (by rfl) F.n_len PySem.boot_len (pa_cons (pv 7) pa_nil)) (pa_cons (pv 2) pa_nil)))) pa_nil))))
  (pss_cons (ps_if (pt_cmpR op_eq (C8.pe_c c__law_take hr (by decide) (by rfl) (pa_cons (pv 0) (pa_cons pe_int pa_nil))) pe_int (nomark _)) (pss_one (ps_set (i := 8) sc__law_run_words.nd rfl (Or.inl rfl) (C8.pe_c c__law_word hr (by decide) (by rfl) (pa_cons (pv 0) (pa_cons (pv 1) (pa_cons (pv 2) pa_nil)))))) pss_nil)
  (pss_one (ps_if (pt_cmpR (op_notInK (K := K) rfl (hu65 hr)) (pv 8) (pv 6) (by rfl)) (pss_one (ps_expr (pe_bm PySem.F.plainAttrs_list PySem.F.slot_list_append PySem.F.type_list_append mt_append (pv 6) (pa_cons (pv 8) pa_nil)))) pss_nil))))))
  (pss_one (ps_ret (pe_callB (cr_sortLK (K := K) rfl) (by rfl) F.n_sorted (by decide +kernel) (pa_cons (pv 6) pa_nil))))))), ?_⟩
    -- the shapes
    refine ⟨fun σ H1 => ∃ (sp : Addr) (shs : List Row), σ = [some (.ref h.hd), some (.int q), some (.int (n : Nat)), some (.int 5), none, some (.ref sp), none, none, none] ∧ Eh h H H1 ∧ LW H1 sp shs ∧ shs.length = 2 ∧ (∀ x ∈ wds shs, x.length ≤ n ∧ (1 ≤ x.length ∨ n = 0) ∧ ∀ l ∈ x, 0 ≤ l ∧ l < q), ?_, ?_⟩
    · refine ⟨_, rfl, _, _, rfl, rfl, _, rfl, ?_⟩
      by_cases h0 : (n : Int) > 0
      · refine ev_T (decide_eq_true h0) ?_
        refine ⟨2, rfl, by decide, by decide, fun d hd => ?_⟩
        refine lc_range (lo := 0) (n := 2) (fun i H' => ∃ js, Eh h H H' ∧ LW H' d js ∧ js.length = i ∧ ∀ x ∈ wds js, x.length ≤ n ∧ (1 ≤ x.length ∨ n = 0) ∧ ∀ l ∈ x, 0 ≤ l ∧ l < q) ⟨[], (Eh.refl hh).mut hd, ⟨upd_same, RT.nil⟩, rfl, fun x hx => nomatch hx⟩ ?_ ?_
        · rintro i H1 hi ⟨js, e1, lj, lk, wj⟩
          refine ⟨rfl, lcY ?_⟩
          refine ⟨_, rfl, _, rfl, _, rfl, _, rfl, h, n, rfl, e1.dst, by omega, by omega, fun x H2 x0 x1 e2 => ?_⟩
          obtain ⟨kx, hkx⟩ : ∃ kx : Nat, 1 + x = (kx : Int) := ⟨(1 + x).toNat, by omega⟩
          refine ⟨_, _, rfl, rfl, h, q, kx, by rw [← hkx]; rfl, e2.dst, q2, by omega, by omega, fun p ns H3 e3 h3 dr al => ?_⟩
          have lj3 := e3.lw (e2.lw lj)
          have e13 := (e1.trans e2).trans e3
          refine ⟨_, lj3.at_, ?_, js ++ [(p, ns)], e13.mut hd, ⟨?_, fun r hr => ?_⟩, ?_, fun y hy => ?_⟩
          · rw [List.length_map, lk]; exact sz_lt (by omega)
          · rw [upd_same]; unfold refs QT.refs; rw [List.map_append]; rfl
          · rcases List.mem_append.mp hr with hr | hr
            · rw [upd_ne (ne_lt lj3.at_ (lj3.rt r hr)).symm]; exact lj3.rt r hr
            · rw [List.mem_singleton.mp hr, upd_ne (ne_lt lj3.at_ h3).symm]; exact h3
          · rw [List.length_append, lk]; rfl
          · have hy' : y ∈ wds js ++ [ns] := by
              have : wds (js ++ [(p, ns)]) = wds js ++ [ns] := by unfold wds; rw [List.map_append]; rfl
              rwa [this] at hy
            rcases List.mem_append.mp hy' with hy | hy
            · exact wj y hy
            · rw [List.mem_singleton.mp hy]
              exact ⟨by rw [dr.len]; omega, .inl (by rw [dr.len]; omega), dr.low⟩
        · rintro H1 ⟨js, e1, lj, lk, wj⟩
          exact ⟨d, js, rfl, e1, lj, lk, wj⟩
      · refine ev_F (decide_eq_false h0) ?_
        refine ⟨by decide, fun t1 ht1 => ⟨by decide, fun t2 ht2 => ⟨(by decide : 2 ≤ sizeLine), fun d hd => ?_⟩⟩⟩
        have x1 : Ex H _ := Ex.new (o := .tup []) ht1
        have x2 := x1.trans (Ex.new (o := .tup []) ht2)
        have x3 := x2.trans (Ex.new (o := .lst [V.ref t1, V.ref t2]) hd)
        refine ⟨d, [(t1, []), (t2, [])], rfl, Eh.of hh x3, ⟨upd_same, fun r hr => ?_⟩, rfl, fun x hx => ?_⟩
        · rcases List.mem_cons.mp hr with rfl | hr
          · exact Ex.new hd _ _ (Ex.new ht2 _ _ upd_same)
          · rw [List.mem_singleton.mp hr]; exact Ex.new hd _ _ upd_same
        · have : x = [] := by
            rcases List.mem_cons.mp hx with h | h
            · exact h
            · exact List.mem_singleton.mp h
          subst this
          exact ⟨Nat.zero_le _, .inr (by omega), fun l hl => nomatch hl⟩
    rintro σ0 H1 ⟨sp, shs, rfl, e1, lsh, l2, wsh⟩
    refine ⟨Nat.zero_le _, fun L hL => ?_⟩
    have hL0 : H L = none := e1.none hL
    have e2 := e1.ext (Ex.new (o := .lst []) hL)
    have lsh2 := lsh.mono (Ex.new (o := .lst []) hL)
    refine ⟨_, rfl, _, rfl, _, _, rfl, rfl, h, 6, rfl, e2.dst, by decide, by decide, fun c H3 c0 c1 e3 => ⟨c, rfl, by omega, by omega, ?_⟩⟩
    refine for_range (lo := 0) (n := c.toNat) (fun i σ H' => ∃ js x4 x7 x8, σ = [some (.ref h.hd), some (.int q), some (.int (n : Nat)), some (.int 5), x4, some (.ref sp), some (.ref L), x7, x8] ∧ Eh h H H' ∧ LW H' sp shs ∧ LW H' L js ∧ js.length ≤ i ∧ (wds js).Nodup ∧ ∀ x ∈ wds js, x.length = n ∧ ∀ l ∈ x, 0 ≤ l ∧ l < q) ⟨[], none, none, none, rfl, e2.trans e3, e3.lw lsh2, e3.lw ⟨upd_same, RT.nil⟩, Nat.le_refl _, List.nodup_nil, fun x hx => nomatch hx⟩ ?_ ?_
    · rintro i σ H4 hi ⟨js, x4, x7, x8, rfl, e4, ls4, lj4, lk, nd, wj⟩
      refine ⟨_, rfl, _, rfl, h, 2, rfl, e4.dst, by decide, by decide, fun u H5 u0 u1 e5 => ?_⟩
      have ls5 := e5.lw ls4
      have lj5 := e5.lw lj4
      obtain ⟨ju, hju⟩ : ∃ ju : Nat, u = (ju : Int) := ⟨u.toNat, by omega⟩
      obtain ⟨⟨sa, sw⟩, hsw⟩ : ∃ r, shs[ju]? = some r := ⟨_, List.getElem?_eq_getElem (by omega)⟩
      have hsa := ls5.rt _ (List.mem_of_getElem? hsw)
      obtain ⟨s1, s2, s3⟩ := wsh sw (List.mem_of_getElem? (wd_at hsw))
      refine ⟨sp, _, _, _, rfl, rfl, SqL.of ls5.at_, (by rw [hju]; exact atI_nat (at_map hsw)), ?_⟩
      refine ⟨_, rfl, _, rfl, _, rfl, sa, _, rfl, .inr (SqT.of hsa), _, rfl, ?_⟩
      rw [List.length_map]
      refine ⟨h, sw.length, n, rfl, e5.dst, s1, by omega, s2, fun lp ls H6 e6 h6 ln => ?_⟩
      have e46 := e5.trans e6
      refine ⟨sa, lp, sw, ls, rfl, e6.tup hsa, h6, ln.len.symm, by rw [ln.len]; omega, fun x hx => ⟨ln.pos x hx, ?_⟩, fun wp H7 e7 h7 => ?_⟩
      · have := le_sum (l := ls) (fun y hy => by have := ln.pos y hy; omega) x hx
        rw [ln.sum] at this
        omega
      have hlen : (spell sw ls).length = n := by
        have := spell_sum (sh := sw) (ls := ls) ln.len.symm fun y hy => by have := ln.pos y hy; omega
        rw [ln.sum] at this
        omega
      have hlet : ∀ l ∈ spell sw ls, 0 ≤ l ∧ l < q := fun l hl => s3 l (spell_mem hl)
      have e47 := (e4.trans e46).ext e7
      have ls7 := (e6.lw ls5).mono e7
      have lj7 := (e6.lw lj5).mono e7
      have fin : ∀ (H9 : Hp) (p9 : Addr) (w9 : Wd), Eh h H H9 → LW H9 sp shs → LW H9 L js → H9 p9 = some (.tup (w9.map V.int)) → w9.length = n → (∀ l ∈ w9, 0 ≤ l ∧ l < q) → ∀ σ, σ = [some (V.ref h.hd), some (V.int q), some (V.int (n : Nat)), some (V.int 5), some (V.int (0 + (i : Nat))), some (V.ref sp), some (V.ref L), some (V.ref sa), some (V.ref p9)] →
          tIfS (tTest (tOp (rNotInD K) (tVar 8) (tVar 6))) (tDrop (tBM K "list" rAppend (tVar 6) (tCons (tVar 8) tNil))) tNext { nx := fun σ H' => ∃ js x4 x7 x8, σ = [some (.ref h.hd), some (.int q), some (.int (n : Nat)), some (.int 5), x4, some (.ref sp), some (.ref L), x7, x8] ∧ Eh h H H' ∧ LW H' sp shs ∧ LW H' L js ∧ js.length ≤ i + 1 ∧ (wds js).Nodup ∧ ∀ x ∈ wds js, x.length = n ∧ ∀ l ∈ x, 0 ≤ l ∧ l < q, rt := Q } σ H9 := by
        rintro H9 p9 w9 e9 ls9 lj9 h9 hw1 hw2 σ rfl
        refine ⟨_, rfl, _, rfl, _, _, dp_T h9, .lst (SqL.of lj9.at_) (dp_rows lj9.rt), (sh_dT _).shaped, (sh_rows _).shaped, _, rfl, ?_⟩
        rw [any_dT']
        by_cases hin : w9 ∉ wds js
        · refine ev_T (decide_eq_true hin) ?_
          have spL : sp ≠ L := fun z => by
            subst z
            have h1 := lsh.at_
            rw [hL] at h1
            cases h1
          refine ⟨_, rfl, .inl ⟨rfl, _, SqL.of lj9.at_⟩, _, rfl, L, _, _, rfl, rfl, lj9.at_, ?_, js ++ [(p9, w9)], _, _, _, rfl, e9.mut hL0, ⟨?_, fun r hr => ?_⟩, ⟨?_, fun r hr => ?_⟩, ?_, ?_, fun y hy => ?_⟩
          · rw [List.length_map]; exact sz_lt (by omega)
          · rw [upd_ne spL]; exact ls9.at_
          · rw [upd_ne (ne_lt lj9.at_ (ls9.rt r hr)).symm]; exact ls9.rt r hr
          · rw [upd_same]; unfold refs QT.refs; rw [List.map_append]; rfl
          · rcases List.mem_append.mp hr with hr | hr
            · rw [upd_ne (ne_lt lj9.at_ (lj9.rt r hr)).symm]; exact lj9.rt r hr
            · rw [List.mem_singleton.mp hr, upd_ne (ne_lt lj9.at_ h9).symm]; exact h9
          · rw [List.length_append, List.length_singleton]; omega
          · have : wds (js ++ [(p9, w9)]) = wds js ++ [w9] := by unfold wds; rw [List.map_append]; rfl
            rw [this, List.nodup_append]
            exact ⟨nd, by simp, fun a ha b hb => by rw [List.mem_singleton.mp hb]; intro e; exact hin (e ▸ ha)⟩
          · have : wds (js ++ [(p9, w9)]) = wds js ++ [w9] := by unfold wds; rw [List.map_append]; rfl
            rw [this] at hy
            rcases List.mem_append.mp hy with hy | hy
            · exact wj y hy
            · rw [List.mem_singleton.mp hy]; exact ⟨hw1, hw2⟩
        · refine ev_F (decide_eq_false hin) ?_
          exact ⟨js, _, _, _, rfl, e9, ls9, lj9, by omega, nd, wj⟩
      refine ⟨_, rfl, h, 5, rfl, e47.dst, by decide, by decide, fun v H8 v0 v1 e8 => ⟨rfl, _, rfl, ?_⟩⟩
      by_cases hv : v = 0
      · refine ev_T (eqI_T hv) ?_
        refine ⟨_, rfl, _, rfl, _, rfl, h, q, n, rfl, e8.dst, by omega, by omega, by omega, fun p9 w9 H9 e9 h9 dr => ?_⟩
        exact fin H9 p9 w9 ((e47.trans e8).trans e9) (e9.lw (e8.lw ls7)) (e9.lw (e8.lw lj7)) h9 dr.len dr.low _ rfl
      · refine ev_F (eqI_F hv) ?_
        exact fin H8 wp _ (e47.trans e8) (e8.lw ls7) (e8.lw lj7) (e8.tup h7) hlen hlet _ rfl
    · rintro σ H4 ⟨js, x4, x7, x8, rfl, e4, ls4, lj4, lk, nd, wj⟩
      refine ⟨_, rfl, L, js, rfl, SqL.of lj4.at_, lj4.rt.rows, noEmpty_of nd (new_len (n := n) fun x hx => (wj x hx).1), fun ks' p S hp => ?_⟩
      have e5 : Ex H4 _ := Ex.new (o := .lst (refs ks')) hp
      have es := sorted_wds S nd (ws := wds js) fun x => Iff.rfl
      refine k p ks' _ (e4.ext e5) ⟨upd_same, (lj4.rt.mono e5).sub fun r hr => S.perm.mem_iff.mp hr⟩ ⟨?_, fun x hx => ?_, ?_⟩
      · have : (wds ks').length = ks'.length := List.length_map _
        rw [this, S.perm.length_eq]
        omega
      · rw [es] at hx
        exact wj x (mem_sortU.mp hx)
      · rw [es]; exact strict_sortU _
end
end LP
end

section
set_option Elab.async false
set_option linter.all false
set_option maxRecDepth 100000
set_option maxHeartbeats 4000000
namespace LP
open PySem L2 PyProof.Rows PySem.Spec Evl MR
section
variable {P : Program} {w : World} {K : PySem.W.Frag} {mg : Str → Option Value} {base : Heap} {CP CB : Addr}
/-- the mathematics of a long pair -/
structure LM (sh he th : List Int) (len : Nat) : Prop where
  zero : posS he th = 0 → runsBorneM (len : Nat) (sortU [spell sh he, spell sh th]) = (len : Nat) ∧ ∀ i j, NoStep (sortU [spell sh he, spell sh th]) (len : Int) i j
  pos : posS he th ≠ 0 → spell sh he ≠ spell sh th ∧ 0 < posS he th ∧ posS he th ≤ (len : Int) ∧ runsBorneM (len : Nat) (sortU [spell sh he, spell sh th]) = posS he th - 1 ∧ (∀ i j, NoStep (sortU [spell sh he, spell sh th]) (posS he th - 1) i j) ∧ (¬ ∀ i j, NoStep (sortU [spell sh he, spell sh th]) (posS he th) i j) ∧
    ∀ i j a b s, i < j → (sortU [spell sh he, spell sh th])[i]? = some a → (sortU [spell sh he, spell sh th])[j]? = some b → stepsM a b = some s → i = 0 ∧ j = 1 ∧ s / 2 = posS he th ∧ mxW a b = spell sh (zipM maxP he th) ∧ mnW a b = spell sh (zipM minP he th)
structure LC (q : Int) (m : Nat) (sh he th : List Int) (len : Nat) : Prop where
  shl : sh.length = m
  m1 : 1 ≤ m
  low : ∀ x ∈ sh, 0 ≤ x ∧ x < q
  alt : Alt sh
  le1 : Lens m len he
  le2 : Lens m len th
structure MATH : Prop where
  bm : ∀ (q : Int) (n : Nat) (ws : List Wd), BW q n ws → n ≤ 7 → ws.length ≤ 5 → BM n ws
  lm : ∀ (q : Int) (m : Nat) (sh he th : List Int) (len : Nat), LC q m sh he th len → LM sh he th len
theorem Lens.le {m n : Nat} {ls : List Int} (h : Lens m n ls) : ∀ x ∈ ls, 1 ≤ x ∧ x ≤ (n : Int) := fun x hx => ⟨h.pos x hx, by
  have := le_sum (l := ls) (fun y hy => by have := h.pos y hy; omega) x hx
  rw [h.sum] at this
  exact this⟩
def spLongPair : Sp := fun vs H Q _ => ∃ (h : Hand) (q : Int), vs = [.ref h.hd, .int q] ∧ HandAt H h ∧ 2 ≤ q ∧ q ≤ 4 ∧ ∀ H', Eh h H H' → Q (.bl true) H'
theorem c__law_long_pair (M : MATH) (F : Facts K mg CP CB) : C8.Cal P w K mg base 7 "_law_long_pair" spLongPair [] := by
  obtain ⟨f, fd, D, b⟩ := F.d__law_long_pair
  have m_Book := m_Book (P := P) (w := w) (base := base) F
  have c__law_take := c__law_take (P := P) (w := w) (base := base) F
  have c__law_shape := c__law_shape (P := P) (w := w) (base := base) F
  have c__law_lengths := c__law_lengths (P := P) (w := w) (base := base) F
  have c__law_spelled := c__law_spelled (P := P) (w := w) (base := base) F
  have c_runs_borne := c_runs_borne (P := P) (w := w) (base := base) F
  have c__law_exact := c__law_exact (P := P) (w := w) (base := base) F 2
  have c_runs_pair := c_runs_pair (P := P) (w := w) (base := base) F
  refine C8.cal0 D b .nil sc__law_long_pair (fun vs H Q E h => ?_) (fun cdv A outer s H vs Q E hr h => ?_)
  · obtain ⟨h, q, rfl, _⟩ := h
    rfl
  · obtain ⟨h, q, rfl, hh, q2, q4, k⟩ := h
    refine ⟨_, (pss_cons (ps_set (i := 2) sc__law_long_pair.nd rfl (Or.inl rfl) (pe_op op_add pe_int (C8.pe_c c__law_take hr (by decide) (by rfl) (pa_cons (pv 0) (pa_cons pe_int pa_nil)))))
  (pss_cons (ps_set (i := 3) sc__law_long_pair.nd rfl (Or.inl rfl) (C8.pe_c c__law_shape hr (by decide) (by rfl) (pa_cons (pv 0) (pa_cons (pv 1) (pa_cons (pv 2) pa_nil)))))
  (pss_cons (ps_set (i := 4) sc__law_long_pair.nd rfl (Or.inl rfl) (pe_op op_add pe_int (C8.pe_c c__law_take hr (by decide) (by rfl) (pa_cons (pv 0) (pa_cons pe_int pa_nil)))))
  (pss_cons (ps_set (i := 5) sc__law_long_pair.nd rfl (Or.inr rfl) (C8.pe_c c__law_lengths hr (by decide) (by rfl) (pa_cons (pv 0) (pa_cons (pv 2) (pa_cons (pv 4) pa_nil)))))
  (pss_cons (ps_set (i := 6) sc__law_long_pair.nd rfl (Or.inr rfl) (pe_callTy (cr_listK (K := K) rfl) (by rfl) F.n_list (by decide +kernel) (pa_cons (pv 5) pa_nil)))
  (pss_cons (ps_for PassesOwn.never rfl (pi_range1 (by rfl) F.n_range (pa_cons (pe_op op_add pe_int (C8.pe_c c__law_take hr (by decide) (by rfl) (pa_cons (pv 0) (pa_cons pe_int pa_nil)))) pa_nil)) (pg_name (i := 7) sc__law_long_pair.nd rfl (Or.inl rfl))
    (pss_cons (ps_set (i := 8) sc__law_long_pair.nd rfl (Or.inl rfl) (C8.pe_c c__law_take hr (by decide) (by rfl) (pa_cons (pv 0) (pa_cons (pv 2) pa_nil))))
  (pss_cons (ps_set (i := 9) sc__law_long_pair.nd rfl (Or.inl rfl) (C8.pe_c c__law_take hr (by decide) (by rfl) (pa_cons (pv 0) (pa_cons (pv 2) pa_nil))))
  (pss_one (ps_if (pt_cmpR op_gt (pe_ix (ix_listK (K := K) rfl) (pv 6) (pv 8) (fun _ _ => rfl)) pe_int (nomark _)) (pss_cons (ps_asg (pe_op op_sub (pe_ix (ix_listK (K := K) rfl) (pv 6) (pv 8) (fun _ _ => rfl)) pe_int) (pg_sub (pv 6) (pv 8) set_list))
  (pss_one (ps_asg (pe_op op_add (pe_ix (ix_listK (K := K) rfl) (pv 6) (pv 9) (fun _ _ => rfl)) pe_int) (pg_sub (pv 6) (pv 9) set_list)))) pss_nil)))))
  (pss_cons (ps_set (i := 10) sc__law_long_pair.nd rfl (Or.inl rfl) (pe_callB (cr_sortLK (K := K) rfl) (by rfl) F.n_sorted (by decide +kernel) (pa_cons (pe_lst (pa_cons (C8.pe_c c__law_spelled hr (by decide) (by rfl) (pa_cons (pv 3) (pa_cons (pv 5) pa_nil))) (pa_cons (C8.pe_c c__law_spelled hr (by decide) (by rfl) (pa_cons (pv 3) (pa_cons (pv 6) pa_nil))) pa_nil))) pa_nil)))
  (pss_cons (ps_set (i := 11) sc__law_long_pair.nd rfl (Or.inl rfl) (pe_callB (cr_sumK (K := K) rfl rfl) (by rfl) F.n_sum (by decide +kernel) (pa_cons (pe_lc (own := [("_law_k", 7)]) (g := (gName 7)) (tt := tYes) (by rfl) sc__law_long_pair.nd (pi_range1 (by rfl) F.n_range (pa_cons (pv 2) pa_nil)) (blkOk_by (own := [("_law_k", 7)]) (N := N__law_long_pair) (sc := (C8.fnScope st__law_long_pair)) (by decide +kernel)) (fun _ _ _ _ _ => (pg_name (i := 7) sc__law_long_pair.nd rfl (Or.inl rfl))) (fun _ _ _ _ _ => pts_nil) (fun _ _ _ _ _ => (pe_callB (call_max2 rfl) (by rfl) F.n_max (by decide +kernel) (pa_cons pe_int (pa_cons (pe_op op_sub (pe_ix (ix_listK (K := K) rfl) (pv 5) (pv 7) (fun _ _ => rfl)) (pe_ix (ix_listK (K := K) rfl) (pv 6) (pv 7) (fun _ _ => rfl))) pa_nil))))) pa_nil)))
  (pss_cons (ps_set (i := 12) sc__law_long_pair.nd rfl (Or.inl rfl) (C8.pe_mk m_Book hr (by decide) (by rfl) (pa_cons (pv 1) (pa_cons (pv 4) (pa_cons (pv 10) pa_nil)))))
  (pss_cons (ps_if (pt_cmpR op_eq (pv 11) pe_int (nomark _)) (pss_one (ps_ret (pe_and (C8.pe_c c__law_exact hr (by decide) (by rfl) (pa_cons (C8.pe_c c_runs_borne hr (by decide) (by rfl) (pa_cons (pv 12) pa_nil)) (pa_cons (pv 4) pa_nil))) (pe_one (pe_cmpR op_isN (C8.pe_c c_runs_pair hr (by decide) (by rfl) (pa_cons (pv 12) (pa_cons (pv 4) pa_nil))) pe_non (nomark _)))))) pss_nil)
  (pss_cons (ps_set (i := 13) sc__law_long_pair.nd rfl (Or.inl rfl) (C8.pe_c c_runs_pair hr (by decide) (by rfl) (pa_cons (pv 12) (pa_cons (pv 11) pa_nil))))
  (pss_cons (ps_if (PW.pt (pw_or (pt_not (pt_val (pe_callB (C8.call_isC F.i_RunPair) (by rfl) F.n_isinstance (by decide +kernel) (pa_cons (pv 13) (pa_cons (C8.pe_gc (by rfl) F.g_RunPair) pa_nil))))) (pw_or (pt_cmpR op_notN (C8.pe_c c_runs_pair hr (by decide) (by rfl) (pa_cons (pv 12) (pa_cons (pe_op op_sub (pv 11) pe_int) pa_nil))) pe_non (nomark _)) (pw_or1 (pt_not (pt_val (C8.pe_c c__law_exact hr (by decide) (by rfl) (pa_cons (C8.pe_c c_runs_borne hr (by decide) (by rfl) (pa_cons (pv 12) pa_nil)) (pa_cons (pe_op op_sub (pv 11) pe_int) pa_nil))))))))) (pss_one (ps_ret pe_bl)) pss_nil)
  (pss_cons (ps_set (i := 14) sc__law_long_pair.nd rfl (Or.inl rfl) (pe_tup (pa_cons (pe_fldK (K := K) rfl (pv 13) rfl) (pa_cons (pe_fldK (K := K) rfl (pv 13) rfl) (pa_cons (pe_fldK (K := K) rfl (pv 13) rfl) (pa_cons (pe_fldK (K := K) rfl (pv 13) rfl) (pa_cons (pe_fldK (K := K) rfl (pv 13) rfl) pa_nil)))))))
  (pss_cons (ps_set (i := 15) sc__law_long_pair.nd rfl (Or.inl rfl) (C8.pe_c c__law_spelled hr (by decide) (by rfl) (pa_cons (pv 3) (pa_cons (pe_lc (own := [("_law_k", 7)]) (g := (gName 7)) (tt := tYes) (by rfl) sc__law_long_pair.nd (pi_range1 (by rfl) F.n_range (pa_cons (pv 2) pa_nil)) (blkOk_by (own := [("_law_k", 7)]) (N := N__law_long_pair) (sc := (C8.fnScope st__law_long_pair)) (by decide +kernel)) (fun _ _ _ _ _ => (pg_name (i := 7) sc__law_long_pair.nd rfl (Or.inl rfl))) (fun _ _ _ _ _ => pts_nil) (fun _ _ _ _ _ => (pe_callB (call_max2 rfl) (by rfl) F.n_max (by decide +kernel) (pa_cons (pe_ix (ix_listK (K := K) rfl) (pv 5) (pv 7) (fun _ _ => rfl)) (pa_cons (pe_ix (ix_listK (K := K) rfl) (pv 6) (pv 7) (fun _ _ => rfl)) pa_nil))))) pa_nil))))
  (pss_cons (ps_set (i := 16) sc__law_long_pair.nd rfl (Or.inl rfl) (C8.pe_c c__law_spelled hr (by decide) (by rfl) (pa_cons (pv 3) (pa_cons (pe_lc (own := [("_law_k", 7)]) (g := (gName 7)) (tt := tYes) (by rfl) sc__law_long_pair.nd (pi_range1 (by rfl) F.n_range (pa_cons (pv 2) pa_nil)) (blkOk_by (own := [("_law_k", 7)]) (N := N__law_long_pair) (sc := (C8.fnScope st__law_long_pair)) (by decide +kernel)) (fun _ _ _ _ _ => (pg_name (i := 7) sc__law_long_pair.nd rfl (Or.inl rfl))) (fun _ _ _ _ _ => pts_nil) (fun _ _ _ _ _ => (pe_callB (call_min2 rfl) (by rfl) F.n_min (by decide +kernel) (pa_cons (pe_ix (ix_listK (K := K) rfl) (pv 5) (pv 7) (fun _ _ => rfl)) (pa_cons (pe_ix (ix_listK (K := K) rfl) (pv 6) (pv 7) (fun _ _ => rfl)) pa_nil))))) pa_nil))))
  (pss_one (ps_ret (C8.pe_c c__law_exact hr (by decide) (by rfl) (pa_cons (pv 14) (pa_cons (pe_tup (pa_cons (pe_ix (ix_listK (K := K) rfl) (pv 10) pe_int (fun _ _ => rfl)) (pa_cons (pe_ix (ix_listK (K := K) rfl) (pv 10) pe_int (fun _ _ => rfl)) (pa_cons (pv 11) (pa_cons (pv 15) (pa_cons (pv 16) pa_nil)))))) pa_nil)))))))))))))))))))), ?_⟩
    have T := F.i_Book.cl
    have TP := F.i_RunPair.cl
    refine ⟨_, rfl, h, 6, rfl, hh, by decide, by decide, fun x0 H1 a0 a1 e1 => ⟨_, _, rfl, rfl, ?_⟩⟩
    obtain ⟨m, hm⟩ : ∃ m : Nat, (1 : Int) + x0 = (m : Int) := ⟨(1 + x0).toNat, by omega⟩
    refine ⟨_, rfl, _, rfl, _, rfl, h, q, m, by rw [← hm]; rfl, e1.dst, q2, by omega, by omega, fun shp sh H2 e2 h2 dr al => ?_⟩
    have e02 := e1.trans e2
    refine ⟨_, rfl, h, 3, rfl, e2.dst, by decide, by decide, fun x1 H3 b0 b1 e3 => ⟨_, _, rfl, rfl, ?_⟩⟩
    obtain ⟨len, hlen⟩ : ∃ len : Nat, (22 : Int) + x1 = (len : Int) := ⟨(22 + x1).toNat, by omega⟩
    refine ⟨_, rfl, _, rfl, _, rfl, h, m, len, by rw [← hm, ← hlen]; rfl, e3.dst, by omega, by omega, .inl (by omega), fun hp_ he H4 e4 h4 le1 => ?_⟩
    refine ⟨_, rfl, hp_, _, rfl, .inl (SqL.of h4), fun tp htp => ?_⟩
    have e04 := (e02.trans e3).trans e4
    have e05 := e04.ext (Ex.new (o := .lst (he.map V.int)) htp)
    have tp0 : H tp = none := e04.none htp
    have sh5 := Ex.new (o := .lst (he.map V.int)) htp _ _ ((e3.trans e4).tup h2)
    have hp5 := Ex.new (o := .lst (he.map V.int)) htp _ _ h4
    have hptp : hp_ ≠ tp := ne_no h4 htp
    refine ⟨_, rfl, h, 3, rfl, e05.dst, by decide, by decide, fun x2 H6 c0 c1 e6 => ⟨_, _, rfl, rfl, 1 + x2, rfl, by omega, by omega, ?_⟩⟩
    rw [show ((fun (i j : Int) => V.int (i + j)) 1 x0) = V.int (m : Nat) from by rw [← hm], show ((fun (i j : Int) => V.int (i + j)) 22 x1) = V.int (len : Nat) from by rw [← hlen]]
    refine for_range (lo := 0) (n := (1 + x2).toNat) (fun i σ H' => ∃ (th : List Int) (y7 y8 y9 : Option V), σ = [some (.ref h.hd), some (.int q), some (.int (m : Nat)), some (.ref shp), some (.int (len : Nat)), some (.ref hp_), some (.ref tp), y7, y8, y9, none, none, none, none, none, none, none] ∧ Eh h H H' ∧ H' shp = some (.tup (sh.map V.int)) ∧ H' hp_ = some (.lst (he.map V.int)) ∧ H' tp = some (.lst (th.map V.int)) ∧ Lens m len th) ⟨he, none, none, none, rfl, e05.trans e6, e6.tup sh5, e6.ints hp5, e6.ints upd_same, le1⟩ ?_ ?_
    · rintro i σ H7 hi ⟨th, y7, y8, y9, rfl, e7, sh7, hp7, tp7, le7⟩
      refine ⟨_, rfl, _, rfl, h, m, rfl, e7.dst, by omega, by omega, fun u H8 u0 u1 e8 => ⟨_, rfl, _, rfl, h, m, rfl, e8.dst, by omega, by omega, fun v H9 v0 v1 e9 => ?_⟩⟩
      have e89 := e8.trans e9
      have tp9 := e89.ints tp7
      have hp9 := e89.ints hp7
      have sh9 := e89.tup sh7
      obtain ⟨ju, rfl⟩ : ∃ ju : Nat, u = (ju : Int) := ⟨u.toNat, by omega⟩
      obtain ⟨jv, rfl⟩ : ∃ jv : Nat, v = (jv : Int) := ⟨v.toNat, by omega⟩
      have lu : ju < th.length := by rw [le7.len]; omega
      have lv' : jv < th.length := by rw [le7.len]; omega
      obtain ⟨zu, hzu⟩ : ∃ z, th[ju]? = some z := ⟨_, List.getElem?_eq_getElem lu⟩
      refine ⟨_, rfl, _, rfl, tp, _, _, _, rfl, rfl, SqL.of tp9, atI_nat (at_map hzu), _, _, rfl, rfl, _, rfl, ?_⟩
      by_cases hz1 : zu > 1
      · refine ev_T (decide_eq_true hz1) ?_
        refine ⟨_, rfl, _, rfl, tp, _, _, _, rfl, rfl, SqL.of tp9, atI_nat (at_map hzu), _, _, rfl, rfl, ?_⟩
        refine ⟨_, rfl, _, rfl, tp, _, _, ju, rfl, rfl, tp9, ixN_nat (by rw [List.length_map]; exact lu), ?_⟩
        have tp10 : upd H9 tp (.lst ((th.map V.int).set ju (.int (zu - 1)))) tp = some (.lst ((th.set ju (zu - 1)).map V.int)) := by rw [upd_same, List.map_set]
        have lv2 : jv < (th.set ju (zu - 1)).length := by rw [List.length_set]; exact lv'
        obtain ⟨zv, hzv⟩ : ∃ z, (th.set ju (zu - 1))[jv]? = some z := ⟨_, List.getElem?_eq_getElem lv2⟩
        refine ⟨_, rfl, _, rfl, tp, _, _, _, rfl, rfl, SqL.of tp10, atI_nat (at_map hzv), _, _, rfl, rfl, ?_⟩
        refine ⟨_, rfl, _, rfl, tp, _, _, jv, rfl, rfl, tp10, ixN_nat (by rw [List.length_map]; exact lv2), (th.set ju (zu - 1)).set jv (zv + 1), _, _, _, rfl, ((e7.trans e89).mut tp0).mut tp0, ?_, ?_, ?_, ?_⟩
        · rw [upd_ne (ne_lt tp9 sh9).symm, upd_ne (ne_lt tp9 sh9).symm]; exact sh9
        · rw [upd_ne hptp, upd_ne hptp]; exact hp9
        · rw [upd_same]
          exact congrArg (fun l => some (HO.lst l)) (List.map_set (f := V.int) (l := th.set ju (zu - 1)) (i := jv) (a := zv + 1)).symm
        · refine ⟨by rw [List.length_set, List.length_set, le7.len], fun y hy => ?_, ?_⟩
          · have pos1 : ∀ y ∈ th.set ju (zu - 1), 1 ≤ y := fun y hy => by
              rcases List.mem_or_eq_of_mem_set hy with hy | rfl
              · exact le7.pos y hy
              · omega
            rcases List.mem_or_eq_of_mem_set hy with hy | rfl
            · exact pos1 y hy
            · have := pos1 zv (List.mem_of_getElem? hzv); omega
          · rw [sum_set hzv, sum_set hzu, le7.sum]; omega
      · refine ev_F (decide_eq_false hz1) ?_
        exact ⟨th, _, _, _, rfl, e7.trans e89, sh9, hp9, tp9, le7⟩
    · rintro σ H7 ⟨th, y7, y8, y9, rfl, e7, sh7, hp7, tp7, le7⟩
      have L := M.lm q m sh he th len ⟨dr.len, by omega, dr.low, al, le1, le7⟩
      have r1 : ∀ x ∈ he, 1 ≤ x ∧ x ≤ 100 := fun x hx => by have := le1.le x hx; omega
      have r2 : ∀ x ∈ th, 1 ≤ x ∧ x ≤ 100 := fun x hx => by have := le7.le x hx; omega
      have Lz := L.zero
      have Lp := L.pos
      generalize hwa : spell sh he = wa at Lz Lp
      generalize hwb : spell sh th = wb at Lz Lp
      refine ⟨_, rfl, _, rfl, shp, hp_, sh, he, rfl, sh7, hp7, by rw [dr.len, le1.len], by rw [le1.len]; omega, r1, fun p1 H8 f8 g1 => ?_⟩
      rw [hwa] at g1
      refine ⟨_, rfl, _, rfl, shp, tp, sh, th, rfl, f8 _ _ sh7, f8 _ _ tp7, by rw [dr.len, le7.len], by rw [le7.len]; omega, r2, fun p2 H9 f9 g2 => ⟨(by decide : 2 ≤ sizeLine), fun pl hpl => ?_⟩⟩
      rw [hwb] at g2
      have g1 := f9 _ _ g1
      have lena : wa.length = len := by
        have := spell_sum (sh := sh) (ls := he) (by rw [dr.len, le1.len]) fun y hy => by have := r1 y hy; omega
        rw [hwa, le1.sum] at this
        omega
      have lenb : wb.length = len := by
        have := spell_sum (sh := sh) (ls := th) (by rw [dr.len, le7.len]) fun y hy => by have := r2 y hy; omega
        rw [hwb, le7.sum] at this
        omega
      have leta : ∀ l ∈ wa, 0 ≤ l ∧ l < q := fun l hl => dr.low l (spell_mem (by rw [hwa]; exact hl))
      have letb : ∀ l ∈ wb, 0 ≤ l ∧ l < q := fun l hl => dr.low l (spell_mem (by rw [hwb]; exact hl))
      have f10 : Ex H9 _ := Ex.new (o := .lst [V.ref p1, V.ref p2]) hpl
      have rt10 : RT (upd H9 pl (.lst [V.ref p1, V.ref p2])) [(p1, wa), (p2, wb)] := fun r hr => by
        rcases List.mem_cons.mp hr with rfl | hr
        · exact f10 _ _ g1
        · rw [List.mem_singleton.mp hr]; exact f10 _ _ g2
      refine ⟨pl, [(p1, wa), (p2, wb)], rfl, SqL.of (by rw [upd_same]; rfl), rt10.rows, fun _ r hr => ?_, fun ks p S hp => ?_⟩
      · rcases List.mem_cons.mp hr with rfl | hr
        · intro z
          have : wa = [] := z
          rw [this] at lena
          simp at lena
          omega
        · rw [List.mem_singleton.mp hr]
          intro z
          have : wb = [] := z
          rw [this] at lenb
          simp at lenb
          omega
      have f11 := f10.trans (Ex.new (o := .lst (refs ks)) hp)
      have lwk : LW (upd (upd H9 pl (.lst [V.ref p1, V.ref p2])) p (.lst (refs ks))) p ks := ⟨upd_same, (rt10.mono (Ex.new hp)).sub fun r hr => S.perm.mem_iff.mp hr⟩
      have k2 : ks.length = 2 := S.perm.length_eq
      have kmem : ∀ x, x ∈ wds ks ↔ x ∈ [wa, wb] := fun x => (S.perm.map (fun r : Row => r.2)).mem_iff
      have f711 := (f8.trans f9).trans f11
      change Ex H7 (upd (upd H9 pl (.lst [V.ref p1, V.ref p2])) p (.lst (refs ks))) at f711
      refine ⟨_, rfl, _, rfl, by omega, by omega, fun d hd => ?_⟩
      change (upd (upd H9 pl (.lst [V.ref p1, V.ref p2])) p (.lst (refs ks))) d = none at hd
      generalize upd (upd H9 pl (.lst [V.ref p1, V.ref p2])) p (.lst (refs ks)) = H11 at f711 lwk hd
      have hp11 := f711 _ _ hp7
      have tp11 := f711 _ _ tp7
      have sh11 := f711 _ _ sh7
      have lh : he.length = m := le1.len
      have lt : th.length = m := le7.len
      have lz : (he.zip th).length = m := by rw [List.length_zip]; omega
      rw [Int.toNat_natCast]
      refine lc_range (lo := 0) (n := m) (fun i H' => Ex H11 H' ∧ H' d = some (.lst ((((he.zip th).take i).map fun p => maxP 0 (p.1 - p.2)).map V.int))) ⟨Ex.new hd, upd_same⟩ ?_ ?_
      · rintro i H12 hi ⟨e12, h12⟩
        rw [Int.zero_add]
        obtain ⟨u, hu⟩ : ∃ z, he[i]? = some z := ⟨_, List.getElem?_eq_getElem (by omega)⟩
        obtain ⟨v, hv⟩ : ∃ z, th[i]? = some z := ⟨_, List.getElem?_eq_getElem (by omega)⟩
        refine ⟨rfl, lcY ?_⟩
        refine ⟨_, rfl, _, rfl, hp_, _, _, _, rfl, rfl, SqL.of (e12 _ _ hp11), atI_nat (at_map hu), _, rfl, _, rfl, tp, _, _, _, rfl, rfl, SqL.of (e12 _ _ tp11), atI_nat (at_map hv), u, v, rfl, rfl, 0, u - v, rfl, _, h12, ?_, Ex.mut e12 hd, ?_⟩
        · rw [List.length_map, List.length_map, List.length_take]; exact sz_lt (by omega)
        · rw [upd_same, take_zip (fun a b => maxP 0 (a - b)) hu hv, List.map_append]; rfl
      · rintro H12 ⟨e12, h12⟩
        rw [List.take_of_length_le (by omega)] at h12
        refine ⟨d, _, rfl, SqL.of h12, ?_⟩
        rw [show (((he.zip th).map fun p => maxP 0 (p.1 - p.2)).sum) = posS he th from rfl]
        have f712 := f711.trans e12
        have lw12 := lwk.mono e12
        refine ⟨_, rfl, _, rfl, _, rfl, fun x dx nx ndx nex => ?_⟩
        have eA : Ex H12 (upd (upd H12 dx (.own x)) x (.ins CB dx [])) := fun u o hu => by rw [upd_ne (ne_no hu nx), upd_ne (ne_no hu ndx)]; exact hu
        have lww : LWW H12 p ks := ⟨lw12.at_, fun r hr => .inr (lw12.rt r hr)⟩
        have cond : ∀ x ∈ wds ks, x.length = len ∧ ∀ l ∈ x, 0 ≤ l ∧ l < q := fun y hy => by
          rcases List.mem_cons.mp ((kmem y).mp hy) with rfl | hy
          · exact ⟨lena, leta⟩
          · rw [List.mem_singleton.mp hy]; exact ⟨lenb, letb⟩
        refine ⟨x, dx, q, len, p, ks, rfl, upd_same, lww.mono eA, cond, q2, q4, by omega, by omega, fun ks' H13 bk ek keep => ⟨rfl, ?_⟩⟩
        have e13 : Ex H12 H13 := fun u o hu => keep u o (ne_no hu nx) (eA u o hu)
        have ek : wds ks' = sortU [wa, wb] := by
          rw [ek]
          exact strict_eq (strict_sortU _) (strict_sortU _) fun z => by rw [mem_sortU, mem_sortU]; exact kmem z
        have k2' : ks'.length ≤ 2 := by
          have l1 := sortU_len [wa, wb]
          rw [← ek, List.length_map] at l1
          exact l1
        have low : Low 24 (wds ks') := fun y hy => by
          rw [ek, mem_sortU] at hy
          have hy' := (kmem y).mpr hy
          have c := cond y hy'
          exact ⟨by omega, fun l hl => by have := c.2 l hl; omega⟩
        have e07 := e7.ext (f712.trans e13)
        have lw13 := lw12.mono e13
        have hp13 := e13 _ _ (e12 _ _ hp11)
        have tp13 := e13 _ _ (e12 _ _ tp11)
        have sh13 := e13 _ _ (e12 _ _ sh11)
        refine ⟨_, rfl, rfl, _, rfl, ?_⟩
        by_cases hp0 : posS he th = 0
        · refine ev_T (eqI_T hp0) ?_
          obtain ⟨z1, z2⟩ := Lz hp0
          refine ⟨_, rfl, x, q, len, ks', rfl, bk, low, by omega, fun H14 e14 => ?_⟩
          rw [ek, z1]
          refine ⟨_, rfl, _, _, rfl, .int _, fun H15 e15 => ⟨true, rfl, ?_⟩⟩
          refine iteT ?_
          refine ⟨_, rfl, _, rfl, x, q, len, len, ks', rfl, bk.mono (e14.trans e15), low, by omega, by omega, Int.le_refl _, fun u H16 e16 rp => ?_⟩
          rw [ek] at rp
          rcases rp with ⟨rfl, _⟩ | ⟨i, j, a, b, s, R⟩
          · exact ⟨rfl, k _ (e07.ext ((e14.trans e15).trans e16))⟩
          · exact absurd R.le (z2 i j a b R.ij R.ai R.bj s R.st)
        · refine ev_F (eqI_F hp0) ?_
          obtain ⟨hab, pp, ple, prb, pno, pyes, pall⟩ := Lp hp0
          refine ⟨_, rfl, _, rfl, x, q, posS he th, len, ks', rfl, bk, low, by omega, by omega, ple, fun u H14 e14 rp => ?_⟩
          rw [ek] at rp
          rcases rp with ⟨rfl, none⟩ | ⟨i, j, a, b, s, R⟩
          · exact absurd none pyes
          obtain ⟨rfl, rfl, es, emx, emn⟩ := pall i j a b s R.ij R.ai R.bj R.st
          obtain ⟨pr, rfl, dp, px, py, pl_, pz, hpr, hpx, hpy, hpl_, hpz⟩ := R.at_
          rw [es] at hpr
          have emx' : spell (shape a) (zipM maxP (lens a) (lens b)) = spell sh (zipM maxP he th) := emx
          have emn' : spell (shape a) (zipM minP (lens a) (lens b)) = spell sh (zipM minP he th) := emn
          rw [emx'] at hpl_
          rw [emn'] at hpz
          refine ⟨_, rfl, pr, dp, _, rfl, hpr, true, rfl, ?_⟩
          refine iteF ?_
          refine ⟨_, rfl, _, rfl, _, _, rfl, rfl, x, q, posS he th - 1, len, ks', rfl, bk.mono e14, low, by omega, by omega, by omega, fun u2 H15 e15 rp2 => ?_⟩
          rw [ek] at rp2
          rcases rp2 with ⟨rfl, _⟩ | ⟨i, j, a', b', s', R'⟩
          rotate_left
          · exact absurd R'.le (pno i j a' b' R'.ij R'.ai R'.bj s' R'.st)
          refine ⟨rfl, _, rfl, ?_⟩
          refine ev_F rfl ?_
          have e1315 := e14.trans e15
          refine ⟨_, rfl, x, q, len, ks', rfl, bk.mono e1315, low, by omega, fun H16 e16 => ?_⟩
          rw [ek, prb]
          refine ⟨_, rfl, _, _, rfl, rfl, _, _, rfl, .int _, fun H17 e17 => ⟨true, rfl, ?_⟩⟩
          refine iteF ?_
          have e1417 := (e15.trans e16).trans e17
          have e1317 := e14.trans e1417
          have hpr7 := e1417 _ _ hpr
          refine ⟨_, rfl, pr, CP, dp, _, _, rfl, hpr7, TP, F.p_one, pf1, _, rfl, pr, CP, dp, _, _, rfl, hpr7, TP, F.p_other, pf2, _, rfl, pr, CP, dp, _, _, rfl, hpr7, TP, F.p_apart, pf3, _, rfl, pr, CP, dp, _, _, rfl, hpr7, TP, F.p_longer, pf4, _, rfl, pr, CP, dp, _, _, rfl, hpr7, TP, F.p_shorter, pf5, (by decide : 5 ≤ sizeLine), fun t ht => ?_⟩
          have eT : Ex H17 _ := Ex.new (o := .tup [V.ref px, V.ref py, V.int (posS he th), V.ref pl_, V.ref pz]) ht
          have hT : upd H17 t (.tup [V.ref px, V.ref py, V.int (posS he th), V.ref pl_, V.ref pz]) t = some (.tup [V.ref px, V.ref py, V.int (posS he th), V.ref pl_, V.ref pz]) := upd_same
          generalize upd H17 t (.tup [V.ref px, V.ref py, V.int (posS he th), V.ref pl_, V.ref pz]) = H18 at eT hT
          have e1318 := e1317.trans eT
          have hp18 := e1318 _ _ hp13
          have tp18 := e1318 _ _ tp13
          have sh18 := e1318 _ _ sh13
          have zl : he.length = th.length := by omega
          -- longer
          refine ⟨_, rfl, _, rfl, _, rfl, by omega, by omega, fun d2 hd2 => ?_⟩
          rw [Int.toNat_natCast]
          refine lc_range (lo := 0) (n := m) (fun i H' => Ex H18 H' ∧ H' d2 = some (.lst ((((he.zip th).take i).map fun p => maxP p.1 p.2).map V.int))) ⟨Ex.new hd2, upd_same⟩ ?_ ?_
          · rintro i H19 hi ⟨e19, h19⟩
            rw [Int.zero_add]
            obtain ⟨u, hu⟩ : ∃ z, he[i]? = some z := ⟨_, List.getElem?_eq_getElem (by omega)⟩
            obtain ⟨v, hv⟩ : ∃ z, th[i]? = some z := ⟨_, List.getElem?_eq_getElem (by omega)⟩
            refine ⟨rfl, lcY ?_⟩
            refine ⟨_, rfl, _, rfl, hp_, _, _, _, rfl, rfl, SqL.of (e19 _ _ hp18), atI_nat (at_map hu), _, rfl, _, rfl, tp, _, _, _, rfl, rfl, SqL.of (e19 _ _ tp18), atI_nat (at_map hv), u, v, rfl, _, h19, ?_, Ex.mut e19 hd2, ?_⟩
            · rw [List.length_map, List.length_map, List.length_take]; exact sz_lt (by omega)
            · rw [upd_same, take_zip maxP hu hv, List.map_append]; rfl
          · rintro H19 ⟨e19, h19⟩
            rw [List.take_of_length_le (by omega)] at h19
            have h19 : H19 d2 = some (.lst ((zipM maxP he th).map V.int)) := h19
            refine ⟨shp, d2, sh, _, rfl, e19 _ _ sh18, h19, by rw [zipM_len zl, dr.len, lh], by rw [zipM_len zl]; omega, fun n hn => ?_, fun w1 H20 e20 h20 => ?_⟩
            · obtain ⟨y, z, hy, hz, rfl⟩ := zipM_mem hn
              have := r1 y hy
              have := r2 z hz
              rcases maxP_or y z with h | h <;> rw [h] <;> omega
            have e1820 := e19.trans e20
            -- shorter
            refine ⟨_, rfl, _, rfl, _, rfl, by omega, by omega, fun d3 hd3 => ?_⟩
            rw [Int.toNat_natCast]
            refine lc_range (lo := 0) (n := m) (fun i H' => Ex H20 H' ∧ H' d3 = some (.lst ((((he.zip th).take i).map fun p => minP p.1 p.2).map V.int))) ⟨Ex.new hd3, upd_same⟩ ?_ ?_
            · rintro i H21 hi ⟨e21, h21⟩
              rw [Int.zero_add]
              obtain ⟨u, hu⟩ : ∃ z, he[i]? = some z := ⟨_, List.getElem?_eq_getElem (by omega)⟩
              obtain ⟨v, hv⟩ : ∃ z, th[i]? = some z := ⟨_, List.getElem?_eq_getElem (by omega)⟩
              refine ⟨rfl, lcY ?_⟩
              refine ⟨_, rfl, _, rfl, hp_, _, _, _, rfl, rfl, SqL.of (e21 _ _ (e1820 _ _ hp18)), atI_nat (at_map hu), _, rfl, _, rfl, tp, _, _, _, rfl, rfl, SqL.of (e21 _ _ (e1820 _ _ tp18)), atI_nat (at_map hv), u, v, rfl, _, h21, ?_, Ex.mut e21 hd3, ?_⟩
              · rw [List.length_map, List.length_map, List.length_take]; exact sz_lt (by omega)
              · rw [upd_same, take_zip minP hu hv, List.map_append]; rfl
            · rintro H21 ⟨e21, h21⟩
              rw [List.take_of_length_le (by omega)] at h21
              have h21 : H21 d3 = some (.lst ((zipM minP he th).map V.int)) := h21
              refine ⟨shp, d3, sh, _, rfl, e21 _ _ (e1820 _ _ sh18), h21, by rw [zipM_len zl, dr.len, lh], by rw [zipM_len zl]; omega, fun n hn => ?_, fun w2 H22 e22 h22 => ?_⟩
              · obtain ⟨y, z, hy, hz, rfl⟩ := zipM_mem hn
                have := r1 y hy
                have := r2 z hz
                rcases minP_or y z with h | h <;> rw [h] <;> omega
              have e2022 := e21.trans e22
              have e1822 := e1820.trans e2022
              have e1322 := e1318.trans e1822
              have ek1 : wds ks = sortU [wa, wb] := sorted_wds S (by show [wa, wb].Nodup; simpa using hab) fun z => Iff.rfl
              have lw22 := lw13.mono e1322
              have row : ∀ {i : Nat} {c : Wd}, (sortU [wa, wb])[i]? = some c → ∃ r, ks[i]? = some (r, c) := fun {i c} hc => by
                rw [← ek1, List.getElem?_map] at hc
                cases hq : ks[i]? with
                | none => rw [hq] at hc; cases hc
                | some r => rw [hq] at hc; cases hc; exact ⟨r.1, rfl⟩
              obtain ⟨ra, hra⟩ := row R.ai
              obtain ⟨rb, hrb⟩ := row R.bj
              have ta := lw22.rt _ (List.mem_of_getElem? hra)
              have tb := lw22.rt _ (List.mem_of_getElem? hrb)
              have hka : (refs ks)[0]? = some (.ref ra) := at_map hra
              have hkb : (refs ks)[1]? = some (.ref rb) := at_map hrb
              have h20' := e2022 _ _ h20
              refine ⟨_, rfl, _, rfl, p, _, 0, _, rfl, rfl, SqL.of lw22.at_, atI_nat (j := 0) hka, _, rfl, p, _, 1, _, rfl, rfl, SqL.of lw22.at_, atI_nat (j := 1) hkb, _, rfl, _, rfl, _, rfl, (by decide : 5 ≤ sizeLine), fun t2 ht2 => ?_⟩
              have e23 : Ex H22 _ := Ex.new (o := .tup [V.ref ra, V.ref rb, V.int (posS he th), V.ref w1, V.ref w2]) ht2
              have e1723 := (eT.trans e1822).trans e23
              have e1423 := e1417.trans e1723
              have la : a.length ≤ 1000 := by have := (low a (by rw [ek]; exact List.mem_of_getElem? R.ai)).1; omega
              have lb : b.length ≤ 1000 := by have := (low b (by rw [ek]; exact List.mem_of_getElem? R.bj)).1; omega
              have big : ∀ f : Int → Int → Int, (∀ y z, f y z = y ∨ f y z = z) → (spell sh (zipM f he th)).length ≤ 1000 := fun f hf => by
                have h1 := spell_len sh (zipM f he th) 100 fun n hn => by
                  obtain ⟨y, z, hy, hz, rfl⟩ := zipM_mem hn
                  have := r1 y hy
                  have := r2 z hz
                  rcases hf y z with h | h <;> rw [h] <;> omega
                have h2 := dr.len
                have h3 : sh.length * 100 ≤ 6 * 100 := Nat.mul_le_mul_right _ (by omega)
                omega
              refine ⟨_, _, rfl, .tup ((e1822.trans e23) _ _ hT) upd_same rfl (by show 5 ≤ 1000; decide) fun i u v hu hv => ?_, fun H24 e24 => k H24 (e07.ext ((e1322.trans e23).trans e24))⟩
              match i, hu, hv with
              | 0, hu, hv => cases hu; cases hv; exact XV.word (e1423 _ _ hpx) (e23 _ _ ta) la
              | 1, hu, hv => cases hu; cases hv; exact XV.word (e1423 _ _ hpy) (e23 _ _ tb) lb
              | 2, hu, hv => cases hu; cases hv; exact .int _
              | 3, hu, hv => cases hu; cases hv; exact XV.word (e1423 _ _ hpl_) (e23 _ _ h20') (big maxP maxP_or)
              | 4, hu, hv => cases hu; cases hv; exact XV.word (e1423 _ _ hpz) (e23 _ _ h22) (big minP minP_or)
              | _ + 5, hu, hv => cases hu
end
end LP
end

section
set_option Elab.async false
set_option linter.all false
set_option maxRecDepth 100000
set_option maxHeartbeats 4000000
namespace LP
open PySem L2 PyProof.Rows PySem.Spec Evl MR
section
variable {P : Program} {w : World} {K : PySem.W.Frag} {mg : Str → Option Value} {base : Heap} {CP CB : Addr}
theorem Dr.bw {q : Int} {n : Nat} {ws : List Wd} (d : Dr q n ws) (q2 : 2 ≤ q) (q4 : q ≤ 4) (n7 : n ≤ 7) : BW q n ws := ⟨q2, q4, by omega, by have := d.few; omega, d.wd, d.srt⟩
theorem Dr.sub {q : Int} {n : Nat} {ws vs : List Wd} (d : Dr q n ws) (s : vs.Sublist ws) : Dr q n vs := ⟨Nat.le_trans s.length_le d.few, fun x hx => d.wd x (s.subset hx), d.srt.sublist s⟩
/-- law's promise: the script is a list of ints, True comes out -/
def spLaw (K : PySem.W.Frag) : Sp := fun vs H Q _ => ∃ (a : Addr) (ns : List Int), vs = [.ref a] ∧ SqL K H a (ns.map V.int) ∧ ns.length ≤ 63 ∧ ∀ H', Q (.bl true) H'
theorem ok_law (M : MATH) (F : Facts K mg CP CB) {f : Addr} {fd : FuncData} (D : C8.Fun K "law" "law" st_law f fd) : FnOk P w K mg base C8.CX0 8 f fd ["_law_script"] (spLaw K) := by
  have c__law_hand := c__law_hand (P := P) (w := w) (base := base) F
  have c__law_take := c__law_take (P := P) (w := w) (base := base) F
  have c__law_run_words := c__law_run_words (P := P) (w := w) (base := base) F
  have c__law_book_holds := c__law_book_holds (P := P) (w := w) (base := base) F
  have c__law_runny := c__law_runny (P := P) (w := w) (base := base) F
  have c__law_long_pair := c__law_long_pair (P := P) (w := w) (base := base) M F
  refine C8.fn0 D sc_law (fun vs H Q E h => ?_) (fun cdv A outer s H vs Q E hr h => ?_)
  · obtain ⟨a, ns, rfl, _⟩ := h
    rfl
  · obtain ⟨a, ns, rfl, ha, hl, k⟩ := h
    refine ⟨_, (pss_cons (ps_set (i := 1) sc_law.nd rfl (Or.inl rfl) (C8.pe_c c__law_hand hr (by decide) (by rfl) (pa_cons (pv 0) pa_nil)))
  (pss_cons (ps_set (i := 2) sc_law.nd rfl (Or.inl rfl) (pe_op op_add pe_int (C8.pe_c c__law_take hr (by decide) (by rfl) (pa_cons (pv 1) (pa_cons pe_int pa_nil)))))
  (pss_cons (ps_set (i := 3) sc_law.nd rfl (Or.inl rfl) (C8.pe_c c__law_take hr (by decide) (by rfl) (pa_cons (pv 1) (pa_cons pe_int pa_nil))))
  (pss_cons (ps_set (i := 4) sc_law.nd rfl (Or.inl rfl) (C8.pe_c c__law_run_words hr (by decide) (by rfl) (pa_cons (pv 1) (pa_cons (pv 2) (pa_cons (pv 3) (pa_cons pe_int pa_nil))))))
  (pss_cons (ps_if (pt_not (pt_val (C8.pe_c c__law_book_holds hr (by decide) (by rfl) (pa_cons (pv 1) (pa_cons (pv 2) (pa_cons (pv 3) (pa_cons (pv 4) pa_nil))))))) (pss_one (ps_ret pe_bl)) pss_nil)
  (pss_cons (ps_if (pt_truth (pv 4) (by intro _; rfl)) (pss_cons (ps_set (i := 5) sc_law.nd rfl (Or.inl rfl) (C8.pe_c c__law_take hr (by decide) (by rfl) (pa_cons (pv 1) (pa_cons (pe_callB (cr_lenK (K := K) rfl) (by rfl) F.n_len PySem.boot_len (pa_cons (pv 4) pa_nil)) pa_nil))))
  (pss_one (ps_if (pt_not (pt_val (C8.pe_c c__law_book_holds hr (by decide) (by rfl) (pa_cons (pv 1) (pa_cons (pv 2) (pa_cons (pv 3) (pa_cons (pe_op op_cat (pe_slice (sl_listK (K := K) rfl) (pv 4) po_none (po_some (pv 5))) (pe_slice (sl_listK (K := K) rfl) (pv 4) (po_some (pe_op op_add (pv 5) pe_int)) po_none)) pa_nil))))))) (pss_one (ps_ret pe_bl)) pss_nil))) pss_nil)
  (pss_cons (ps_set (i := 6) sc_law.nd rfl (Or.inl rfl) (C8.pe_c c__law_runny hr (by decide) (by rfl) (pa_cons (pv 1) (pa_cons (pv 2) (pa_cons (pv 3) pa_nil)))))
  (pss_one (ps_ret (pe_and (C8.pe_c c__law_book_holds hr (by decide) (by rfl) (pa_cons (pv 1) (pa_cons (pv 2) (pa_cons (pv 3) (pa_cons (pe_callB (cr_sortSK (K := K) (P := P) (w := w) rfl rfl rfl rfl) (by rfl) F.n_sorted (by decide +kernel) (pa_cons (pe_callTy (cr_setK (K := K) (P := P) (w := w) rfl rfl rfl rfl (hu64 hr)) (by rfl) F.n_set (by decide +kernel) (pa_cons (pe_op op_cat (pe_slice (sl_listK (K := K) rfl) (pv 4) po_none (po_some pe_int)) (pe_lst (pa_cons (pv 6) pa_nil))) pa_nil)) pa_nil)) pa_nil))))) (pe_one (C8.pe_c c__law_long_pair hr (by decide) (by rfl) (pa_cons (pv 1) (pa_cons (pv 2) pa_nil)))))))))))))), ?_⟩
    refine ⟨_, rfl, a, ns, rfl, ha, by omega, fun h H1 e1 hh => ?_⟩
    refine ⟨_, rfl, h, 3, rfl, hh, by decide, by decide, fun x0 H2 a0 a1 e2 => ⟨_, _, rfl, rfl, ?_⟩⟩
    refine ⟨_, rfl, h, 8, rfl, e2.dst, by decide, by decide, fun x1 H3 b0 b1 e3 => ?_⟩
    obtain ⟨n, hn⟩ : ∃ n : Nat, x1 = (n : Int) := ⟨x1.toNat, by omega⟩
    subst hn
    have q2 : (2 : Int) ≤ 2 + x0 := by omega
    have q4 : (2 : Int) + x0 ≤ 4 := by omega
    have n7 : n ≤ 7 := by omega
    refine ⟨_, rfl, _, rfl, _, rfl, h, 2 + x0, n, rfl, e3.dst, q2, q4, n7, fun wl ks H4 e4 lw dr => ?_⟩
    have lr : (refs ks).length = ks.length := List.length_map _
    have lw2 : (wds ks).length = ks.length := List.length_map _
    have few : ks.length ≤ 5 := by have := dr.few; rw [lw2] at this; exact this
    have bmOf : ∀ ws, Dr (2 + x0) n ws → BM n ws := fun ws d => M.bm (2 + x0) n ws (d.bw q2 q4 n7) n7 d.few
    refine ⟨_, rfl, _, rfl, _, rfl, _, rfl, h, 2 + x0, n, wl, ks, rfl, e4.dst, lw, dr.bw q2 q4 n7, bmOf _ dr, fun H5 e5 => ⟨true, rfl, ?_⟩⟩
    refine iteF ?_
    have lw5 := e5.lw lw
    -- the rest
    have rest : ∀ (H6 : Hp) (y : Option V), HandAt H6 h → LW H6 wl ks → tSeq
        (tAsg (tCall spWord [] C8.E0 (tCons (tVar 1) (tCons (tVar 2) (tCons (tVar 3) tNil)))) (gName 6))
        (tRet
          (tAndV
            (tCall spBookHolds [] C8.E0
              (tCons (tVar 1)
                (tCons (tVar 2)
                  (tCons (tVar 3)
                    (tCons
                      (tCB (QT.rSortS K P w)
                        (tCons (tCB (QT.rSet K P w) (tCons (tOp rCat (tSl (rSlL K) (tVar 4) tNoPart (tPart (tC (V.int 4)))) (tLst (tCons (tVar 6) tNil))) tNil)) tNil))
                      tNil)))))
            (tCall spLongPair [] C8.E0 (tCons (tVar 1) (tCons (tVar 2) tNil)))))
        { nx := fun x H' => Q V.non H', rt := Q } [some (.ref a), some (.ref h.hd), some (.int (2 + x0)), some (.int (n : Nat)), some (.ref wl), y, none] H6 := by
      intro H6 y h6 lw6
      refine ⟨_, rfl, _, rfl, _, rfl, h, 2 + x0, n, rfl, h6, by omega, by omega, by omega, fun p nw H7 e7 hp7 dw => ?_⟩
      have lw7 := e7.lw lw6
      refine ⟨_, rfl, _, rfl, _, rfl, _, rfl, 4, rfl, wl, _, rfl, SqL.of lw7.at_, fun c1 hc1 => ?_⟩
      have cut4 : cutV (refs ks) none (some 4) = refs (ks.take 4) := by
        unfold cutV
        rw [HT.sIx_none, show (4 : Int) = ((4 : Nat) : Int) from rfl, HT.sIx_nat, Nat.sub_zero, List.drop_zero, lr]
        by_cases h4 : 4 ≤ ks.length
        · rw [Nat.min_eq_left h4, refs_take]
        · rw [Nat.min_eq_right (by omega), refs_take, List.take_of_length_le (Nat.le_refl _), List.take_of_length_le (by omega)]
      rw [cut4]
      have f1 : Ex H7 _ := Ex.new (o := .lst (refs (ks.take 4))) hc1
      refine ⟨_, rfl, (by decide : 1 ≤ sizeLine), fun c2 hc2 => ?_⟩
      have f2 := f1.trans (Ex.new (o := .lst [V.ref p]) hc2)
      refine ⟨c1, c2, _, _, rfl, rfl, Ex.new hc2 _ _ upd_same, upd_same, ?_, fun c3 hc3 => ?_⟩
      · show (refs (ks.take 4)).length + 1 ≤ sizeLine
        exact sz_of (by rw [List.length_map, List.length_take]; omega)
      have f3 := f2.trans (Ex.new (o := .lst (refs (ks.take 4) ++ [V.ref p])) hc3)
      have lw8 : LW (upd (upd (upd H7 c1 (.lst (refs (ks.take 4)))) c2 (.lst [V.ref p])) c3 (.lst (refs (ks.take 4) ++ [V.ref p]))) c3 (ks.take 4 ++ [(p, nw)]) := by
        refine ⟨by rw [upd_same]; unfold refs QT.refs; rw [List.map_append]; rfl, fun r hr => ?_⟩
        rcases List.mem_append.mp hr with hr | hr
        · exact f3 _ _ (lw7.rt r (List.mem_of_mem_take hr))
        · rw [List.mem_singleton.mp hr]; exact f3 _ _ hp7
      have wd8 : ∀ x ∈ wds (ks.take 4 ++ [(p, nw)]), x.length = n ∧ ∀ l ∈ x, 0 ≤ l ∧ l < 2 + x0 := fun x hx => by
        have e : wds (ks.take 4 ++ [(p, nw)]) = (wds ks).take 4 ++ [nw] := by unfold wds; rw [List.map_append, List.map_take]; rfl
        rw [e] at hx
        rcases List.mem_append.mp hx with hx | hx
        · exact dr.wd x (List.mem_of_mem_take hx)
        · rw [List.mem_singleton.mp hx]; exact ⟨dw.len, dw.low⟩
      have l5 : (ks.take 4 ++ [(p, nw)]).length ≤ 5 := by rw [List.length_append, List.length_take, List.length_singleton]; omega
      dsimp only [tNil]
      refine sortSet_of lw8 (by omega) (new_len (n := n) fun x hx => (wd8 x hx).1) fun p9 ks9 H9 e9 _ lw9 es => ?_
      have dr9 : Dr (2 + x0) n (wds ks9) := by
        rw [es]
        refine ⟨?_, fun x hx => wd8 x (mem_sortU.mp hx), strict_sortU _⟩
        have := sortU_len (wds (ks.take 4 ++ [(p, nw)]))
        rw [List.length_map] at this
        omega
      have e79 := e7.ext (f3.trans e9)
      refine ⟨h, 2 + x0, n, p9, ks9, rfl, e79.dst, lw9, dr9.bw q2 q4 n7, bmOf _ dr9, fun H10 e10 => ⟨true, rfl, ?_⟩⟩
      refine iteT ?_
      exact ⟨_, rfl, _, rfl, h, 2 + x0, rfl, e10.dst, q2, q4, fun H11 e11 => k H11⟩
    refine ⟨_, rfl, _, .inl ⟨_, SqL.of lw5.at_, rfl⟩, ?_⟩
    by_cases he : ks = []
    · subst he
      refine ev_F rfl ?_
      exact rest H5 none e5.dst lw5
    · refine ev_T (by cases ks with | nil => exact absurd rfl he | cons x l => rfl) ?_
      have lpos : 1 ≤ ks.length := by cases ks with | nil => exact absurd rfl he | cons x l => simp
      refine ⟨_, rfl, _, rfl, wl, _, rfl, .inl (SqL.of lw5.at_), ?_⟩
      rw [lr]
      refine ⟨h, ks.length, rfl, e5.dst, by omega, by omega, fun x2 H6 c0 c1 e6 => ?_⟩
      have lw6 := e6.lw lw5
      obtain ⟨at_, hat⟩ : ∃ n : Nat, x2 = (n : Int) := ⟨x2.toNat, by omega⟩
      subst hat
      refine ⟨_, rfl, _, rfl, _, rfl, _, rfl, _, rfl, _, rfl, wl, _, rfl, SqL.of lw6.at_, fun d1 hd1 => ?_⟩
      rw [cut_nn (by rw [lr]; omega), refs_take]
      have f1 : Ex H6 _ := Ex.new (o := .lst (refs (ks.take at_))) hd1
      refine ⟨_, rfl, _, rfl, _, _, rfl, rfl, _, rfl, nopart ⟨wl, _, rfl, SqL.of (f1 _ _ lw6.at_), fun d2 hd2 => ?_⟩⟩
      rw [show ((at_ : Nat) : Int) + 1 = ((at_ + 1 : Nat) : Int) by omega, cut_ln (by rw [lr]; omega), refs_drop]
      have f2 := f1.trans (Ex.new (o := .lst (refs (ks.drop (at_ + 1)))) hd2)
      refine ⟨d1, d2, _, _, rfl, rfl, Ex.new hd2 _ _ upd_same, upd_same, ?_, fun d3 hd3 => ?_⟩
      · rw [List.length_map, List.length_map, List.length_take, List.length_drop]; exact sz_of (by omega)
      have f3 := f2.trans (Ex.new (o := .lst (refs (ks.take at_) ++ refs (ks.drop (at_ + 1)))) hd3)
      have lw8 : LW (upd (upd (upd H6 d1 (.lst (refs (ks.take at_)))) d2 (.lst (refs (ks.drop (at_ + 1))))) d3 (.lst (refs (ks.take at_) ++ refs (ks.drop (at_ + 1))))) d3 (ks.take at_ ++ ks.drop (at_ + 1)) := by
        refine ⟨by rw [upd_same]; unfold refs QT.refs; rw [List.map_append], fun r hr => ?_⟩
        rcases List.mem_append.mp hr with hr | hr
        · exact f3 _ _ (lw6.rt r (List.mem_of_mem_take hr))
        · exact f3 _ _ (lw6.rt r (List.mem_of_mem_drop hr))
      have dr8 : Dr (2 + x0) n (wds (ks.take at_ ++ ks.drop (at_ + 1))) := by
        refine dr.sub ?_
        have e : ks = ks.take at_ ++ ks.drop at_ := (List.take_append_drop at_ ks).symm
        conv => rhs; rw [e]
        refine List.Sublist.map _ (List.Sublist.append (List.Sublist.refl _) ?_)
        rw [← List.drop_drop]
        exact List.drop_sublist 1 _
      have e68 := Eh.of e6.dst f3
      refine ⟨h, 2 + x0, n, d3, _, rfl, e68.dst, lw8, dr8.bw q2 q4 n7, bmOf _ dr8, fun H9 e9 => ⟨true, rfl, ?_⟩⟩
      refine iteF ?_
      have e59 := (e6.trans e68).trans e9
      exact rest H9 _ e59.dst (e59.lw lw5)
end
end LP
end

section
set_option Elab.async false
set_option linter.all false
set_option maxRecDepth 100000
set_option maxHeartbeats 4000000
/-! what the top has left, put together -/
namespace LP
open PySem L2 PyProof.Rows PySem.Spec
section
variable {K : PySem.W.Frag} {h : Heap} {mg : Str → Option Value}
theorem fun_mk {x q : Str} {st : Stmt} {f : Addr} {oc dV kV doc pm cdv ct : Value} {od an : Option Addr} {osl : Array (Option Value)} (l : K.lookup f = some ⟨oc, od, .func (PySem.W.fnOf x q (C8.fnArgs st) (C8.fnBody st) (C8.fnScope st) dV kV doc pm an cdv ct), osl⟩) (c : PySem.W.codeIn K cdv q = true) :
    C8.Fun K x q st f (PySem.W.fnOf x q (C8.fnArgs st) (C8.fnBody st) (C8.fnScope st) dV kV doc pm an cdv ct) := ⟨oc, od, dV, kV, doc, pm, an, cdv, ct, osl, rfl, l, c⟩
theorem db_mk {x : Str} {st : Stmt} {ps : List Str} {f : Addr} {oc kV doc pm cdv ct : Value} {od an : Option Addr} {osl : Array (Option Value)} (X : K.In h) (G : h.Ns mainGlobals mg)
    (b : ∀ (kV doc pm : Value) (an : Option Addr) (cdv ct : Value) (us : List Value), us.length = ps.length → bindArgs (PySem.W.fnOf x x (C8.fnArgs st) (C8.fnBody st) (C8.fnScope st) .none kV doc pm an cdv ct) ⟨us, []⟩ = pure (ps.zip us))
    (a : PySem.W.nsIn K mainGlobals x = some (some (.ref f))) (l : K.lookup f = some ⟨oc, od, .func (PySem.W.fnOf x x (C8.fnArgs st) (C8.fnBody st) (C8.fnScope st) .none kV doc pm an cdv ct), osl⟩) (c : PySem.W.codeIn K cdv x = true) (k : PySem.W.keepIn K (.ref f) = true) : DB K mg x st ps :=
  ⟨f, _, ⟨fun_mk l c, PySem.W.mg_of X G a, k⟩, .all (b kV doc pm an cdv ct)⟩
theorem fund_mk {x : Str} {st : Stmt} {f T : Addr} {oc kV doc pm cdv ct : Value} {od an : Option Addr} {osl : Array (Option Value)} {o : Obj} {its : List Value} {n : Nat} {dvs : List V} (hd : dvs ≠ []) (l : K.lookup f = some ⟨oc, od, .func (PySem.W.fnOf x x (C8.fnArgs st) (C8.fnBody st) (C8.fnScope st) (.ref T) kV doc pm an cdv ct), osl⟩) (c : PySem.W.codeIn K cdv x = true) (k : PySem.W.keepIn K (.ref f) = true)
    (t : K.lookup T = some o) (e : o.data = .seq its.toArray n) (v : Vals dvs its) : FunD K x x (C8.fnArgs st) (C8.fnBody st) (C8.fnScope st) dvs [] f (PySem.W.fnOf x x (C8.fnArgs st) (C8.fnBody st) (C8.fnScope st) (.ref T) kV doc pm an cdv ct) :=
  ⟨⟨oc, od, _, kV, doc, pm, an, cdv, ct, osl, rfl, l, c, .inr ⟨hd, T, o, its, n, rfl, t, e, v⟩, .inl rfl⟩, k⟩
theorem isw_mk {f T : Addr} {oc kV doc pm cdv ct cT : Value} {od an dT : Option Addr} {osl sT : Array (Option Value)} {n : Nat} (X : K.In h) (G : h.Ns mainGlobals mg)
    (a : PySem.W.nsIn K mainGlobals "is_whole" = some (some (.ref f))) (l : K.lookup f = some ⟨oc, od, .func (PySem.W.fnOf "is_whole" "is_whole" (C8.fnArgs st_is_whole) (C8.fnBody st_is_whole) (C8.fnScope st_is_whole) (.ref T) kV doc pm an cdv ct), osl⟩) (c : PySem.W.codeIn K cdv "is_whole" = true) (k : PySem.W.keepIn K (.ref f) = true)
    (t : K.lookup T = some ⟨cT, dT, .seq #[.none, .none] n, sT⟩) : DB K mg "is_whole" st_is_whole ["thing", "low", "high"] := by
  have F := fund_mk (st := st_is_whole) (dvs := [.non, .non]) (by simp) l c k t (its := [.none, .none]) rfl (.cons rfl (.cons rfl .nil))
  obtain ⟨ds, v, b⟩ := F.binds1 (ps := ["thing", "low", "high"]) 3 2 (by simp) rfl fun T kV doc pm an cdv ct us its hl h2 => match us, its, hl, h2 with | [_, _, _], [_, _], _, _ => ⟨_, rfl, rfl⟩
  cases v
  exact ⟨f, _, ⟨fun_mk l c, PySem.W.mg_of X G a, k⟩, b⟩
theorem cw_mk {f T : Addr} {oc kV doc pm cdv ct cT : Value} {od an dT : Option Addr} {osl sT : Array (Option Value)} {n : Nat} {tok : Tok} (X : K.In h) (G : h.Ns mainGlobals mg)
    (a : PySem.W.nsIn K mainGlobals "check_word" = some (some (.ref f))) (l : K.lookup f = some ⟨oc, od, .func (PySem.W.fnOf "check_word" "check_word" (C8.fnArgs st_check_word) (C8.fnBody st_check_word) (C8.fnScope st_check_word) (.ref T) kV doc pm an cdv ct), osl⟩) (c : PySem.W.codeIn K cdv "check_word" = true) (k : PySem.W.keepIn K (.ref f) = true)
    (t : K.lookup T = some ⟨cT, dT, .seq #[.int 24 tok] n, sT⟩) : DB K mg "check_word" st_check_word ["letters", "word", "most"] ∧ ∃ f fd ds, C8.Def K mg "check_word" st_check_word f fd ∧ Binds K fd ["letters", "word", "most"] ds ∧ Vals [.int 24] ds := by
  have F := fund_mk (st := st_check_word) (dvs := [.int 24]) (by simp) l c k t (its := [.int 24 tok]) rfl (.cons ⟨_, rfl⟩ .nil)
  refine ⟨?_, ?_⟩
  · obtain ⟨ds, v, b⟩ := F.binds1 (ps := ["letters", "word", "most"]) 3 1 (by simp) rfl fun T kV doc pm an cdv ct us its hl h2 => match us, its, hl, h2 with | [_, _, _], [_], _, _ => ⟨_, rfl, rfl⟩
    cases v
    exact ⟨f, _, ⟨fun_mk l c, PySem.W.mg_of X G a, k⟩, b⟩
  · obtain ⟨ds, v, b⟩ := F.binds1 (ps := ["letters", "word", "most"]) 2 0 (by simp) rfl fun T kV doc pm an cdv ct us its hl h2 => match us, its, hl, h2 with | [_, _], [_], _, _ => ⟨_, rfl, rfl⟩
    exact ⟨f, _, ds, ⟨fun_mk l c, PySem.W.mg_of X G a, k⟩, b, v⟩
end
/-- the plain defs and the built-ins -/
structure Defs (K : PySem.W.Frag) (mg : Str → Option Value) : Prop where
  d_check_number : DB K mg "check_number" st_check_number ["thing", "low", "high"]
  d_run_rows : DB K mg "run_rows" st_run_rows ["word"]
  d_shape_of : DB K mg "shape_of" st_shape_of ["word"]
  d_lengths_of : DB K mg "lengths_of" st_lengths_of ["word"]
  d_spelled_word : DB K mg "spelled_word" st_spelled_word ["shape", "lengths"]
  d_run_steps : DB K mg "run_steps" st_run_steps ["one", "other"]
  d_runs_borne : DB K mg "runs_borne" st_runs_borne ["book"]
  d_bears_runs : DB K mg "bears_runs" st_bears_runs ["book", "number"]
  d_runs_pair : DB K mg "runs_pair" st_runs_pair ["book", "number"]
  d_exact_word : DB K mg "exact_word" st_exact_word ["letters", "length", "word"]
  d_unlike_words : DB K mg "unlike_words" st_unlike_words ["letters", "length", "words"]
  d_rest_lengths : DB K mg "rest_lengths" st_rest_lengths ["one", "other"]
  d_longest_common : DB K mg "longest_common" st_longest_common ["one", "other"]
  d_words_apart : DB K mg "words_apart" st_words_apart ["one", "other"]
  d_book_couples : DB K mg "book_couples" st_book_couples ["book"]
  d_borne_of : DB K mg "borne_of" st_borne_of ["book"]
  d__law_hand : DB K mg "_law_hand" st__law_hand ["_law_script"]
  d__law_mixed : DB K mg "_law_mixed" st__law_mixed ["_law_number", "_law_turn"]
  d__law_take : DB K mg "_law_take" st__law_take ["_law_hand_here", "_law_many"]
  d__law_word : DB K mg "_law_word" st__law_word ["_law_hand_here", "_law_q", "_law_n"]
  d__law_runny : DB K mg "_law_runny" st__law_runny ["_law_hand_here", "_law_q", "_law_n"]
  d__law_runs : DB K mg "_law_runs" st__law_runs ["_law_word_here"]
  d__law_common : DB K mg "_law_common" st__law_common ["_law_one", "_law_other"]
  d__law_borne : DB K mg "_law_borne" st__law_borne ["_law_n", "_law_words"]
  d__law_exact : DB K mg "_law_exact" st__law_exact ["_law_told", "_law_due"]
  d__law_either : DB K mg "_law_either" st__law_either ["_law_hand_here", "_law_word_here"]
  d__law_shape : DB K mg "_law_shape" st__law_shape ["_law_hand_here", "_law_q", "_law_runs_here"]
  d__law_lengths : DB K mg "_law_lengths" st__law_lengths ["_law_hand_here", "_law_runs_here", "_law_total"]
  d__law_spelled : DB K mg "_law_spelled" st__law_spelled ["_law_shape_here", "_law_lengths_here"]
  d__law_shape_of : DB K mg "_law_shape_of" st__law_shape_of ["_law_word_here"]
  d__law_lengths_of : DB K mg "_law_lengths_of" st__law_lengths_of ["_law_word_here"]
  d__law_swollen : DB K mg "_law_swollen" st__law_swollen ["_law_word_here"]
  d__law_shrunk : DB K mg "_law_shrunk" st__law_shrunk ["_law_word_here"]
  d__law_swollen_levels : DB K mg "_law_swollen_levels" st__law_swollen_levels ["_law_word_here", "_law_most"]
  d__law_shrunk_levels : DB K mg "_law_shrunk_levels" st__law_shrunk_levels ["_law_word_here", "_law_most"]
  d__law_mixed_levels : DB K mg "_law_mixed_levels" st__law_mixed_levels ["_law_word_here", "_law_most"]
  d__law_apart : DB K mg "_law_apart" st__law_apart ["_law_one", "_law_other"]
  d__law_runs_borne : DB K mg "_law_runs_borne" st__law_runs_borne ["_law_n", "_law_words"]
  d__law_run_words : DB K mg "_law_run_words" st__law_run_words ["_law_hand_here", "_law_q", "_law_n", "_law_most"]
  d__law_united : DB K mg "_law_united" st__law_united ["_law_levels"]
  d__law_unlike_all : DB K mg "_law_unlike_all" st__law_unlike_all ["_law_lists"]
  d__law_three_ways : DB K mg "_law_three_ways" st__law_three_ways ["_law_words", "_law_number"]
  d__law_first_couple : DB K mg "_law_first_couple" st__law_first_couple ["_law_words", "_law_number"]
  d__law_pair_holds : DB K mg "_law_pair_holds" st__law_pair_holds ["_law_book", "_law_words", "_law_number"]
  d__law_book_holds : DB K mg "_law_book_holds" st__law_book_holds ["_law_hand_here", "_law_q", "_law_length", "_law_words"]
  d__law_long_pair : DB K mg "_law_long_pair" st__law_long_pair ["_law_hand_here", "_law_q"]
  n_len : mg "len" = none
  n_int : mg "int" = none
  n_abs : mg "abs" = none
  n_range : mg "range" = none
  n_tuple : mg "tuple" = none
  n_list : mg "list" = none
  n_sorted : mg "sorted" = none
  n_set : mg "set" = none
  n_sum : mg "sum" = none
  n_max : mg "max" = none
  n_min : mg "min" = none
  n_all : mg "all" = none
  n_zip : mg "zip" = none
  n_enumerate : mg "enumerate" = none
  n_isinstance : mg "isinstance" = none
  n_bool : mg "bool" = none
  n_str : mg "str" = none
section
variable {K : PySem.W.Frag} {h : Heap} {mg : Str → Option Value}
/-- the classes and what is left -/
theorem all_mk {l : PySem.W.OpenLaw} {w : World} {fa : Addr} (M : MATH) (X : K.In h) (G : h.Ns mainGlobals mg) (hfa : mg "law" = some (.ref fa)) (D : Defs K mg) (dw : DB K mg "is_whole" st_is_whole ["thing", "low", "high"]) (dc : DB K mg "check_word" st_check_word ["letters", "word", "most"] ∧ ∃ f fd ds, C8.Def K mg "check_word" st_check_word f fd ∧ Binds K fd ["letters", "word", "most"] ds ∧ Vals [.int 24] ds)
    {f0 : Addr} {oc0 kV0 doc0 pm0 cdv0 ct0 : Value} {od0 an0 : Option Addr} {osl0 : Array (Option Value)} (a0 : PySem.W.nsIn K mainGlobals "law" = some (some (.ref f0))) (l0 : K.lookup f0 = some ⟨oc0, od0, .func (PySem.W.fnOf "law" "law" (C8.fnArgs st_law) (C8.fnBody st_law) (C8.fnScope st_law) .none kV0 doc0 pm0 an0 cdv0 ct0), osl0⟩) (c0 : PySem.W.codeIn K cdv0 "law" = true) (k0 : PySem.W.keepIn K (.ref f0) = true)
    {t1 t2 : Tok} (gl : PySem.W.nsIn K mainGlobals "MOST_LENGTH" = some (some (.int 24 t1))) (gm : PySem.W.nsIn K mainGlobals "MOST_MEMBERS" = some (some (.int 64 t2)))
    {CP CB CW : Addr} (gP : PySem.W.nsIn K mainGlobals "RunPair" = some (some (.ref CP))) (gB : PySem.W.nsIn K mainGlobals "Book" = some (some (.ref CB))) (gW : PySem.W.nsIn K mainGlobals "BadWord" = some (some (.ref CW)))
    (pgP : PySem.W.plainGet K CP Str.empty = true) (hdP : PySem.W.hasDictIn K CP = true) (poP : PySem.W.plainOver K CP = true) (saP : PySem.W.findIn K (.ref CP) "__setattr__" = some (some (.builtin "object.__setattr__"))) (mkP : PySem.W.makesIn K CP = true) (kcP : PySem.W.keepIn K (.ref CP) = true)
    (haP : PySem.W.findIn K (.ref CP) "__class__" = some (some (.builtin "object.__class__"))) (hmP : PySem.W.mroIn K CP (.type "object") = some true)
    (pgB : PySem.W.plainGet K CB Str.empty = true) (hdB : PySem.W.hasDictIn K CB = true) (poB : PySem.W.plainOver K CB = true) (saB : PySem.W.findIn K (.ref CB) "__setattr__" = some (some (.builtin "object.__setattr__"))) (mkB : PySem.W.makesIn K CB = true) (kcB : PySem.W.keepIn K (.ref CB) = true)
    (haB : PySem.W.findIn K (.ref CB) "__class__" = some (some (.builtin "object.__class__"))) (hmB : PySem.W.mroIn K CB (.type "object") = some true)
    (hn : PySem.W.specialIn K (.builtin "object.__class__") "__get__" = some (some (.builtin "getset_descriptor.__get__"))) (htk : PySem.W.takesIn K (.builtin "object.__class__") = some true)
    {f1 : Addr} {oc1 kV1 doc1 pm1 cdv1 ct1 : Value} {od1 an1 : Option Addr} {osl1 : Array (Option Value)} (a1 : PySem.W.findIn K (.ref CP) "__init__" = some (some (.ref f1))) (i1 : PySem.W.isFn K (.ref f1) = true) (l1 : K.lookup f1 = some ⟨oc1, od1, .func (PySem.W.fnOf "__init__" "RunPair.__init__" (C8.fnArgs st_RunPair___init__) (C8.fnBody st_RunPair___init__) (C8.fnScope st_RunPair___init__) .none kV1 doc1 pm1 an1 cdv1 ct1), osl1⟩) (c1 : PySem.W.codeIn K cdv1 "RunPair.__init__" = true)
    {f2 : Addr} {oc2 kV2 doc2 pm2 cdv2 ct2 : Value} {od2 an2 : Option Addr} {osl2 : Array (Option Value)} (a2 : PySem.W.findIn K (.ref CP) "__eq__" = some (some (.ref f2))) (i2 : PySem.W.isFn K (.ref f2) = true) (l2 : K.lookup f2 = some ⟨oc2, od2, .func (PySem.W.fnOf "__eq__" "RunPair.__eq__" (C8.fnArgs st_RunPair___eq__) (C8.fnBody st_RunPair___eq__) (C8.fnScope st_RunPair___eq__) .none kV2 doc2 pm2 an2 cdv2 ct2), osl2⟩) (c2 : PySem.W.codeIn K cdv2 "RunPair.__eq__" = true)
    {f3 : Addr} {oc3 kV3 doc3 pm3 cdv3 ct3 : Value} {od3 an3 : Option Addr} {osl3 : Array (Option Value)} (a3 : PySem.W.findIn K (.ref CB) "__init__" = some (some (.ref f3))) (i3 : PySem.W.isFn K (.ref f3) = true) (l3 : K.lookup f3 = some ⟨oc3, od3, .func (PySem.W.fnOf "__init__" "Book.__init__" (C8.fnArgs st_Book___init__) (C8.fnBody st_Book___init__) (C8.fnScope st_Book___init__) .none kV3 doc3 pm3 an3 cdv3 ct3), osl3⟩) (c3 : PySem.W.codeIn K cdv3 "Book.__init__" = true)
    (nPone : PySem.W.findIn K (.ref CP) "one" = some none) (nPother : PySem.W.findIn K (.ref CP) "other" = some none) (nPapart : PySem.W.findIn K (.ref CP) "apart" = some none) (nPlonger : PySem.W.findIn K (.ref CP) "longer" = some none) (nPshorter : PySem.W.findIn K (.ref CP) "shorter" = some none)
    (nBletters : PySem.W.findIn K (.ref CB) "letters" = some none) (nBlength : PySem.W.findIn K (.ref CB) "length" = some none) (nBwords : PySem.W.findIn K (.ref CB) "words" = some none) (nBsize : PySem.W.findIn K (.ref CB) "size" = some none) :
    ∃ fd : FuncData, (∀ (s : Shared) (v : Value), BindsTo s fd ⟨[v], []⟩ [("_law_script", v)]) ∧ ∀ base : Heap, K.In base → base.Ns mainGlobals mg → FnOk l.prog w K mg base C8.CX0 8 fa fd ["_law_script"] (spLaw K) := by
  have e := hfa.symm.trans (PySem.W.mg_of X G a0)
  cases e
  have TP : Cls K CP := ⟨pgP, hdP, poP, saP⟩
  have TB : Cls K CB := ⟨pgB, hdB, poB, saB⟩
  have F0 := fun_mk (st := st_law) l0 c0
  have F : Facts K mg CP CB := {
    d_is_whole := dw
    d_check_number := D.d_check_number
    d_check_word := dc.1
    d_run_rows := D.d_run_rows
    d_shape_of := D.d_shape_of
    d_lengths_of := D.d_lengths_of
    d_spelled_word := D.d_spelled_word
    d_run_steps := D.d_run_steps
    d_runs_borne := D.d_runs_borne
    d_bears_runs := D.d_bears_runs
    d_runs_pair := D.d_runs_pair
    d_exact_word := D.d_exact_word
    d_unlike_words := D.d_unlike_words
    d_rest_lengths := D.d_rest_lengths
    d_longest_common := D.d_longest_common
    d_words_apart := D.d_words_apart
    d_book_couples := D.d_book_couples
    d_borne_of := D.d_borne_of
    d__law_hand := D.d__law_hand
    d__law_mixed := D.d__law_mixed
    d__law_take := D.d__law_take
    d__law_word := D.d__law_word
    d__law_runny := D.d__law_runny
    d__law_runs := D.d__law_runs
    d__law_common := D.d__law_common
    d__law_borne := D.d__law_borne
    d__law_exact := D.d__law_exact
    d__law_either := D.d__law_either
    d__law_shape := D.d__law_shape
    d__law_lengths := D.d__law_lengths
    d__law_spelled := D.d__law_spelled
    d__law_shape_of := D.d__law_shape_of
    d__law_lengths_of := D.d__law_lengths_of
    d__law_swollen := D.d__law_swollen
    d__law_shrunk := D.d__law_shrunk
    d__law_swollen_levels := D.d__law_swollen_levels
    d__law_shrunk_levels := D.d__law_shrunk_levels
    d__law_mixed_levels := D.d__law_mixed_levels
    d__law_apart := D.d__law_apart
    d__law_runs_borne := D.d__law_runs_borne
    d__law_run_words := D.d__law_run_words
    d__law_united := D.d__law_united
    d__law_unlike_all := D.d__law_unlike_all
    d__law_three_ways := D.d__law_three_ways
    d__law_first_couple := D.d__law_first_couple
    d__law_pair_holds := D.d__law_pair_holds
    d__law_book_holds := D.d__law_book_holds
    d__law_long_pair := D.d__law_long_pair
    d_law := ⟨fa, _, ⟨F0, hfa, k0⟩, .all fun us hl => match us, hl with | [_], _ => rfl⟩
    d_check_word2 := dc.2
    n_len := D.n_len
    n_int := D.n_int
    n_abs := D.n_abs
    n_range := D.n_range
    n_tuple := D.n_tuple
    n_list := D.n_list
    n_sorted := D.n_sorted
    n_set := D.n_set
    n_sum := D.n_sum
    n_max := D.n_max
    n_min := D.n_min
    n_all := D.n_all
    n_zip := D.n_zip
    n_enumerate := D.n_enumerate
    n_isinstance := D.n_isinstance
    n_bool := D.n_bool
    n_str := D.n_str
    g_MOST_LENGTH := ⟨_, PySem.W.mg_of X G gl, ⟨_, rfl⟩⟩
    g_MOST_MEMBERS := ⟨_, PySem.W.mg_of X G gm, ⟨_, rfl⟩⟩
    g_RunPair := ⟨_, PySem.W.mg_of X G gP, rfl⟩
    g_Book := ⟨_, PySem.W.mg_of X G gB, rfl⟩
    i_RunPair := ⟨TP, haP, hn, htk, hmP, if_pos (beq_self_eq_true _)⟩
    i_Book := ⟨TB, haB, hn, htk, hmB, if_pos (beq_self_eq_true _)⟩
    bw := ⟨CW, PySem.W.mg_of X G gW⟩
    pi := ⟨f1, _, ⟨mkP, a1, i1, kcP⟩, PySem.W.mg_of X G gP, fun_mk l1 c1, .all fun us hl => match us, hl with | [_, _, _, _, _, _], _ => rfl⟩
    pe := ⟨f2, _, a2, i2, fun_mk l2 c2, .all fun us hl => match us, hl with | [_, _], _ => rfl⟩
    bi := ⟨f3, _, ⟨mkB, a3, i3, kcB⟩, PySem.W.mg_of X G gB, fun_mk l3 c3, .all fun us hl => match us, hl with | [_, _, _, _], _ => rfl⟩
    p_one := nPone
    p_other := nPother
    p_apart := nPapart
    p_longer := nPlonger
    p_shorter := nPshorter
    b_letters := nBletters
    b_length := nBlength
    b_words := nBwords
    b_size := nBsize }
  exact ⟨_, fun s v => .of_eq rfl, fun base _ _ => ok_law M F F0⟩
end
end LP
end

section
set_option Elab.async false
set_option linter.all false
/-! a word and its runs -/
namespace MR
/-- neighbours differ -/
def Alt2 : List Int → Prop
  | [] => True
  | [_] => True
  | x :: y :: l => x ≠ y ∧ Alt2 (y :: l)
theorem alt_snoc : ∀ {l : List Int} {y x : Int}, Alt2 (l ++ [y]) → y ≠ x → Alt2 (l ++ [y] ++ [x])
  | [], y, x, _, h => ⟨h, trivial⟩
  | [a], y, x, h, h' => ⟨h.1, h', trivial⟩
  | a :: b :: l, y, x, h, h' => ⟨h.1, alt_snoc (l := b :: l) h.2 h'⟩
theorem alt_tail {x : Int} {l : List Int} (h : Alt2 (x :: l)) : Alt2 l := by
  cases l with
  | nil => trivial
  | cons y l => exact h.2
theorem spell_cons (x n : Int) (sh ls : List Int) : spell (x :: sh) (n :: ls) = List.replicate n.toNat x ++ spell sh ls := by
  unfold spell
  rw [List.zip_cons_cons, List.flatMap_cons]
theorem spell_nil : spell [] [] = [] := rfl
theorem spell_snoc : ∀ {sh ls : List Int} (x n : Int), sh.length = ls.length → spell (sh ++ [x]) (ls ++ [n]) = spell sh ls ++ List.replicate n.toNat x
  | [], [], x, n, _ => by rw [List.nil_append, List.nil_append, spell_cons, spell_nil]; simp
  | a :: sh, m :: ls, x, n, h => by
    rw [List.cons_append, List.cons_append, spell_cons, spell_cons, spell_snoc x n (by simpa using h), List.append_assoc]
  | [], _ :: _, _, _, h => by cases h
  | _ :: _, [], _, _, h => by cases h
/-- the runs of a word give the word back -/
structure RJ (rs : List (Int × Int)) (u : Wd) : Prop where
  alt : Alt2 (rs.map (·.1))
  sp : spell (rs.map (·.1)) (rs.map (·.2)) = u
  cnt : Cnt rs
theorem RJ.step {rs : List (Int × Int)} {u : Wd} (h : RJ rs u) (x : Int) : RJ (runStep rs x) (u ++ [x]) := by
  refine ⟨?_, ?_, runStep_cnt h.cnt x⟩
  · unfold runStep
    split
    · rename_i y c hl
      obtain ⟨ys, rfl⟩ := List.getLast?_eq_some_iff.mp hl
      have ha := h.alt
      rw [List.map_append] at ha
      split
      · rw [List.dropLast_concat, List.map_append]; exact ha
      · rename_i hne
        rw [List.map_append, List.map_append]
        exact alt_snoc ha hne
    · rename_i hn
      rw [List.getLast?_eq_none_iff] at hn
      subst hn
      trivial
  · unfold runStep
    split
    · rename_i y c hl
      obtain ⟨ys, rfl⟩ := List.getLast?_eq_some_iff.mp hl
      have hs := h.sp
      have hc : 1 ≤ c := h.cnt (y, c) (by simp)
      have ll : (ys.map (·.1)).length = (ys.map (·.2)).length := by rw [List.length_map, List.length_map]
      split
      · rename_i he
        subst he
        rw [List.map_append, List.map_append] at hs
        rw [List.dropLast_concat, List.map_append, List.map_append]
        have h1 := spell_snoc y c ll
        have h2 := spell_snoc y (c + 1) ll
        show spell (ys.map (·.1) ++ [y]) (ys.map (·.2) ++ [c + 1]) = u ++ [y]
        have hs' : spell (ys.map (·.1) ++ [y]) (ys.map (·.2) ++ [c]) = u := hs
        rw [h2, ← hs', h1, List.append_assoc]
        congr 1
        rw [show (c + 1).toNat = c.toNat + 1 by omega, List.replicate_succ']
      · have l2 : ((ys ++ [(y, c)]).map (·.1)).length = ((ys ++ [(y, c)]).map (·.2)).length := by rw [List.length_map, List.length_map]
        have h2 := spell_snoc x 1 l2
        rw [List.map_append (l₂ := [(x, 1)]), List.map_append (l₂ := [(x, 1)])]
        show spell ((ys ++ [(y, c)]).map (·.1) ++ [x]) ((ys ++ [(y, c)]).map (·.2) ++ [1]) = u ++ [x]
        rw [h2, hs]; rfl
    · rename_i hn
      rw [List.getLast?_eq_none_iff] at hn
      subst hn
      have : u = [] := h.sp.symm
      subst this
      rfl
theorem RJ.run : ∀ {w : Wd} {rs : List (Int × Int)} {u : Wd}, RJ rs u → RJ (w.foldl runStep rs) (u ++ w)
  | [], rs, u, h => by rw [List.append_nil]; exact h
  | x :: w, rs, u, h => by
    have := RJ.run (w := w) (h.step x)
    rw [List.append_assoc] at this
    exact this
theorem runs_ok (w : Wd) : RJ (runsL w) w := by
  have := RJ.run (w := w) (rs := []) (u := []) ⟨trivial, rfl, fun p hp => nomatch hp⟩
  exact this
theorem spell_shape (w : Wd) : spell (shape w) (lens w) = w := (runs_ok w).sp
theorem alt_shape (w : Wd) : Alt2 (shape w) := (runs_ok w).alt
theorem word_eq {a b : Wd} (h1 : shape a = shape b) (h2 : lens a = lens b) : a = b := by rw [← spell_shape a, ← spell_shape b, h1, h2]
/-- .. and the word of a shape has this shape -/
theorem fold_rep (x : Int) : ∀ (k : Nat) (rs : List (Int × Int)) (c : Int), (List.replicate k x).foldl runStep (rs ++ [(x, c)]) = rs ++ [(x, c + k)]
  | 0, rs, c => by simp
  | k + 1, rs, c => by
    rw [List.replicate_succ, List.foldl_cons]
    have e : runStep (rs ++ [(x, c)]) x = rs ++ [(x, c + 1)] := by
      unfold runStep
      rw [List.getLast?_concat]
      simp
    rw [e, fold_rep x k]
    congr 3
    omega
theorem fold_spell : ∀ {sh ls : List Int} (rs : List (Int × Int)), sh.length = ls.length → Alt2 sh → (∀ n ∈ ls, 1 ≤ n) → (∀ y c x, rs.getLast? = some (y, c) → sh.head? = some x → y ≠ x) → (spell sh ls).foldl runStep rs = rs ++ sh.zip ls
  | [], [], rs, _, _, _, _ => by simp [spell_nil]
  | x :: sh, n :: ls, rs, h, ha, hn, hl => by
    have n1 := hn n (List.mem_cons_self ..)
    obtain ⟨k, hk⟩ : ∃ k : Nat, n.toNat = k + 1 := ⟨n.toNat - 1, by omega⟩
    rw [spell_cons, List.foldl_append, hk, List.replicate_succ, List.foldl_cons]
    have e : runStep rs x = rs ++ [(x, 1)] := by
      unfold runStep
      split
      · rename_i y c hlast
        rw [if_neg (hl y c x hlast rfl)]
      · rfl
    rw [e, fold_rep, fold_spell (sh := sh) (ls := ls) _ (by simpa using h) (alt_tail ha) (fun m hm => hn m (List.mem_cons_of_mem _ hm)) ?_]
    · rw [List.zip_cons_cons, List.append_assoc]
      have : (1 : Int) + k = n := by omega
      rw [this]; rfl
    · intro y c z hlast hz
      rw [List.getLast?_concat] at hlast
      cases hlast
      cases sh with
      | nil => cases hz
      | cons z' sh =>
        cases hz
        exact ha.1
  | [], _ :: _, _, h, _, _, _ => by cases h
  | _ :: _, [], _, h, _, _, _ => by cases h
theorem runs_spell {sh ls : List Int} (h : sh.length = ls.length) (ha : Alt2 sh) (hn : ∀ n ∈ ls, 1 ≤ n) : runsL (spell sh ls) = sh.zip ls := by
  have := fold_spell [] h ha hn fun y c x h => by cases h
  simpa [runsL] using this
theorem shape_spell {sh ls : List Int} (h : sh.length = ls.length) (ha : Alt2 sh) (hn : ∀ n ∈ ls, 1 ≤ n) : shape (spell sh ls) = sh := by
  unfold shape
  rw [runs_spell h ha hn]
  exact List.map_fst_zip (by omega)
theorem lens_spell {sh ls : List Int} (h : sh.length = ls.length) (ha : Alt2 sh) (hn : ∀ n ∈ ls, 1 ≤ n) : lens (spell sh ls) = ls := by
  unfold lens
  rw [runs_spell h ha hn]
  exact List.map_snd_zip (by omega)
end MR
end

section
set_option Elab.async false
set_option linter.all false
/-! doubling and swallowing, by the lengths -/
namespace MR
def Le : List Int → List Int → Prop
  | [], [] => True
  | a :: l, b :: m => a ≤ b ∧ Le l m
  | [], _ :: _ => False
  | _ :: _, [] => False
theorem le_refl : ∀ l, Le l l
  | [] => trivial
  | a :: l => ⟨Int.le_refl _, le_refl l⟩
theorem le_trans : ∀ {a b c : List Int}, Le a b → Le b c → Le a c
  | [], [], [], _, _ => trivial
  | x :: a, y :: b, z :: c, h, h' => ⟨Int.le_trans h.1 h'.1, le_trans h.2 h'.2⟩
  | [], _ :: _, _, h, _ => h.elim
  | _ :: _, [], _, h, _ => h.elim
  | [], [], _ :: _, _, h => h.elim
  | _ :: _, _ :: _, [], _, h => h.elim
theorem le_len : ∀ {a b : List Int}, Le a b → a.length = b.length
  | [], [], _ => rfl
  | x :: a, y :: b, h => by rw [List.length_cons, List.length_cons, le_len h.2]
  | [], _ :: _, h => h.elim
  | _ :: _, [], h => h.elim
theorem Le_sum : ∀ {a b : List Int}, Le a b → a.sum ≤ b.sum
  | [], [], _ => Int.le_refl _
  | x :: a, y :: b, h => by
    have := Le_sum h.2
    have := h.1
    rw [List.sum_cons, List.sum_cons]
    omega
  | [], _ :: _, h => h.elim
  | _ :: _, [], h => h.elim
theorem le_eq : ∀ {a b : List Int}, Le a b → b.sum ≤ a.sum → a = b
  | [], [], _, _ => rfl
  | x :: a, y :: b, h, hs => by
    have h1 := Le_sum h.2
    have h2 := h.1
    rw [List.sum_cons, List.sum_cons] at hs
    have e : x = y := by omega
    rw [e, le_eq h.2 (by omega)]
  | [], _ :: _, h, _ => h.elim
  | _ :: _, [], h, _ => h.elim
theorem le_pos : ∀ {a b : List Int}, Le a b → (∀ n ∈ a, 1 ≤ n) → ∀ n ∈ b, 1 ≤ n
  | [], [], _, _, n, hn => by simp at hn
  | x :: a, y :: b, h, hp, n, hn => by
    rcases List.mem_cons.mp hn with rfl | hn
    · have := hp x (List.mem_cons_self ..)
      have := h.1
      omega
    · exact le_pos h.2 (fun m hm => hp m (List.mem_cons_of_mem _ hm)) n hn
  | [], _ :: _, h, _, _, _ => h.elim
  | _ :: _, [], h, _, _, _ => h.elim
def upS : List Int → List (List Int)
  | [] => []
  | n :: ls => ((n + 1) :: ls) :: (upS ls).map (n :: ·)
def dnS : List Int → List (List Int)
  | [] => []
  | n :: ls => (if 2 ≤ n then [(n - 1) :: ls] else []) ++ (dnS ls).map (n :: ·)
theorem mem_upS : ∀ {a b : List Int}, b ∈ upS a ↔ Le a b ∧ b.sum = a.sum + 1
  | [], [] => by simp [upS]
  | [], y :: b => by simp [upS, Le]
  | x :: a, [] => by simp [upS, Le]
  | x :: a, y :: b => by
    unfold upS
    rw [List.mem_cons, List.mem_map, List.sum_cons, List.sum_cons]
    constructor
    · rintro (h | ⟨m, hm, h⟩)
      · rw [List.cons.injEq] at h
        obtain ⟨rfl, rfl⟩ := h
        exact ⟨⟨by omega, le_refl _⟩, by omega⟩
      · rw [List.cons.injEq] at h
        obtain ⟨rfl, rfl⟩ := h
        obtain ⟨h1, h2⟩ := mem_upS.mp hm
        exact ⟨⟨Int.le_refl _, h1⟩, by omega⟩
    · rintro ⟨⟨h1, h2⟩, hs⟩
      have h3 := Le_sum h2
      by_cases e : x = y
      · subst e
        exact .inr ⟨b, mem_upS.mpr ⟨h2, by omega⟩, rfl⟩
      · have e2 : y = x + 1 := by omega
        have e3 := le_eq h2 (by omega)
        exact .inl (by rw [e2, e3])
theorem mem_dnS : ∀ {a b : List Int}, (∀ n ∈ a, 1 ≤ n) → (b ∈ dnS a ↔ Le b a ∧ b.sum + 1 = a.sum ∧ ∀ n ∈ b, 1 ≤ n)
  | [], [], _ => by simp [dnS]
  | [], y :: b, _ => by simp [dnS, Le]
  | x :: a, [], _ => by simp [dnS, Le]
  | x :: a, y :: b, hp => by
    have hx := hp x (List.mem_cons_self ..)
    have ha : ∀ n ∈ a, 1 ≤ n := fun n hn => hp n (List.mem_cons_of_mem _ hn)
    unfold dnS
    rw [List.mem_append, List.mem_map, List.sum_cons, List.sum_cons]
    constructor
    · rintro (h | ⟨m, hm, h⟩)
      · by_cases h2 : 2 ≤ x
        · rw [if_pos h2, List.mem_singleton, List.cons.injEq] at h
          obtain ⟨rfl, rfl⟩ := h
          refine ⟨⟨by omega, le_refl _⟩, by omega, fun n hn => ?_⟩
          rcases List.mem_cons.mp hn with rfl | hn
          · omega
          · exact ha n hn
        · rw [if_neg h2] at h
          simp at h
      · rw [List.cons.injEq] at h
        obtain ⟨rfl, rfl⟩ := h
        obtain ⟨h1, h2, h3⟩ := (mem_dnS ha).mp hm
        refine ⟨⟨Int.le_refl _, h1⟩, by omega, fun n hn => ?_⟩
        rcases List.mem_cons.mp hn with rfl | hn
        · exact hx
        · exact h3 n hn
    · rintro ⟨⟨h1, h2⟩, hs, hpos⟩
      have h3 := Le_sum h2
      have hy := hpos y (List.mem_cons_self ..)
      by_cases e : y = x
      · subst e
        exact .inr ⟨b, (mem_dnS ha).mpr ⟨h2, by omega, fun n hn => hpos n (List.mem_cons_of_mem _ hn)⟩, rfl⟩
      · have e2 : y = x - 1 := by omega
        have e3 := le_eq h2 (by omega)
        refine .inl ?_
        rw [if_pos (by omega), List.mem_singleton, e2, e3]
/-! words -/
theorem swell_cons (y : Int) (w : Wd) : swellM (y :: w) = (y :: y :: w) :: (swellM w).map (y :: ·) := by
  unfold swellM
  rw [List.length_cons, List.range_succ_eq_map, List.map_cons, List.map_map, List.map_map]
  rfl
theorem shrink_cons (y z : Int) (w : Wd) : shrinkM (y :: z :: w) = (if y = z then [y :: w] else []) ++ (shrinkM (z :: w)).map (y :: ·) := by
  unfold shrinkM
  have l : (y :: z :: w).length - 1 = ((z :: w).length - 1) + 1 := by simp
  rw [l, List.range_succ_eq_map, List.filter_cons, List.filter_map, List.map_map]
  have e : (fun j => decide ((y :: z :: w).getD j 0 = (y :: z :: w).getD (j + 1) 0)) ∘ Nat.succ = fun j => decide ((z :: w).getD j 0 = (z :: w).getD (j + 1) 0) := by
    funext j
    rfl
  rw [e]
  by_cases h : y = z
  · rw [if_pos (by simpa using h), if_pos h, List.map_cons, List.map_map]
    rfl
  · rw [if_neg (by simpa using h), if_neg h, List.map_map]
    rfl
theorem swell_rep (y : Int) (w : Wd) : ∀ (c : Nat) (x : Wd), x ∈ swellM (List.replicate (c + 1) y ++ w) ↔ x = List.replicate (c + 2) y ++ w ∨ ∃ z ∈ swellM w, x = List.replicate (c + 1) y ++ z
  | 0, x => by
    show x ∈ swellM (y :: w) ↔ _
    rw [swell_cons, List.mem_cons, List.mem_map]
    constructor
    · rintro (h | ⟨z, hz, h⟩)
      · exact .inl h
      · exact .inr ⟨z, hz, h.symm⟩
    · rintro (h | ⟨z, hz, h⟩)
      · exact .inl h
      · exact .inr ⟨z, hz, h.symm⟩
  | c + 1, x => by
    rw [List.replicate_succ, List.cons_append, swell_cons, List.mem_cons, List.mem_map]
    constructor
    · rintro (h | ⟨z, hz, h⟩)
      · exact .inl h
      · rcases (swell_rep y w c z).mp hz with h2 | ⟨u, hu, h2⟩
        · exact .inl (by rw [← h, h2]; rfl)
        · exact .inr ⟨u, hu, by rw [← h, h2]; rfl⟩
    · rintro (h | ⟨z, hz, h⟩)
      · exact .inl h
      · exact .inr ⟨List.replicate (c + 1) y ++ z, (swell_rep y w c _).mpr (.inr ⟨z, hz, rfl⟩), h.symm⟩
theorem shrink_one (y : Int) : shrinkM [y] = [] := rfl
theorem shrink_rep (y : Int) (w : Wd) (hw : w.head? ≠ some y) : ∀ (c : Nat) (x : Wd), x ∈ shrinkM (List.replicate (c + 1) y ++ w) ↔ (1 ≤ c ∧ x = List.replicate c y ++ w) ∨ ∃ z ∈ shrinkM w, x = List.replicate (c + 1) y ++ z
  | 0, x => by
    show x ∈ shrinkM (y :: w) ↔ _
    cases w with
    | nil => rw [shrink_one]; simp [shrinkM]
    | cons z w =>
      have hne : ¬ y = z := fun e => hw (by rw [e]; rfl)
      rw [shrink_cons, if_neg hne, List.nil_append, List.mem_map]
      constructor
      · rintro ⟨u, hu, h⟩
        exact .inr ⟨u, hu, h.symm⟩
      · rintro (⟨h, _⟩ | ⟨u, hu, h⟩)
        · omega
        · exact ⟨u, hu, h.symm⟩
  | c + 1, x => by
    have e : List.replicate (c + 1 + 1) y ++ w = y :: y :: (List.replicate c y ++ w) := rfl
    rw [e, shrink_cons, if_pos rfl, List.mem_append, List.mem_singleton, List.mem_map]
    have ih := shrink_rep y w hw c
    have e2 : y :: (List.replicate c y ++ w) = List.replicate (c + 1) y ++ w := rfl
    rw [e2]
    constructor
    · rintro (h | ⟨u, hu, h⟩)
      · exact .inl ⟨by omega, h⟩
      · rcases (ih u).mp hu with ⟨h1, h2⟩ | ⟨z, hz, h2⟩
        · exact .inl ⟨by omega, by rw [← h, h2]; rfl⟩
        · exact .inr ⟨z, hz, by rw [← h, h2]; rfl⟩
    · rintro (⟨_, h⟩ | ⟨z, hz, h⟩)
      · exact .inl h
      · exact .inr ⟨List.replicate (c + 1) y ++ z, (ih _).mpr (.inr ⟨z, hz, rfl⟩), h.symm⟩
theorem mem_swell : ∀ {sh ls : List Int} {x : Wd}, sh.length = ls.length → (∀ n ∈ ls, 1 ≤ n) → (x ∈ swellM (spell sh ls) ↔ ∃ m ∈ upS ls, x = spell sh m)
  | [], [], x, _, _ => by simp [spell_nil, swellM, upS]
  | s :: sh, n :: ls, x, h, hp => by
    have hn := hp n (List.mem_cons_self ..)
    obtain ⟨k, hk⟩ : ∃ k : Nat, n.toNat = k + 1 := ⟨n.toNat - 1, by omega⟩
    have ih := fun z => mem_swell (x := z) (sh := sh) (ls := ls) (by simpa using h) fun m hm => hp m (List.mem_cons_of_mem _ hm)
    rw [spell_cons, hk, swell_rep]
    unfold upS
    constructor
    · rintro (h | ⟨z, hz, h⟩)
      · exact ⟨_, List.mem_cons_self .., by rw [h, spell_cons, show (n + 1).toNat = k + 2 by omega]⟩
      · obtain ⟨m, hm, rfl⟩ := (ih z).mp hz
        exact ⟨n :: m, List.mem_cons_of_mem _ (List.mem_map.mpr ⟨m, hm, rfl⟩), by rw [h, spell_cons, hk]⟩
    · rintro ⟨m, hm, h⟩
      rcases List.mem_cons.mp hm with rfl | hm
      · exact .inl (by rw [h, spell_cons, show (n + 1).toNat = k + 2 by omega])
      · obtain ⟨m', hm', rfl⟩ := List.mem_map.mp hm
        exact .inr ⟨spell sh m', (ih _).mpr ⟨m', hm', rfl⟩, by rw [h, spell_cons, hk]⟩
  | [], _ :: _, _, h, _ => by cases h
  | _ :: _, [], _, h, _ => by cases h
theorem spell_head {s : Int} {sh ls : List Int} (h : sh.length = ls.length) (ha : Alt2 (s :: sh)) (hp : ∀ n ∈ ls, 1 ≤ n) : (spell sh ls).head? ≠ some s := by
  match sh, ls, h with
  | [], [], _ => simp [spell_nil]
  | t :: sh, n :: ls, _ =>
    have hn := hp n (List.mem_cons_self ..)
    obtain ⟨k, hk⟩ : ∃ k : Nat, n.toNat = k + 1 := ⟨n.toNat - 1, by omega⟩
    rw [spell_cons, hk, List.replicate_succ, List.cons_append, List.head?_cons]
    intro e
    exact ha.1 (Option.some.inj e).symm
theorem mem_shrink : ∀ {sh ls : List Int} {x : Wd}, sh.length = ls.length → Alt2 sh → (∀ n ∈ ls, 1 ≤ n) → (x ∈ shrinkM (spell sh ls) ↔ ∃ m ∈ dnS ls, x = spell sh m)
  | [], [], x, _, _, _ => by simp [spell_nil, shrinkM, dnS]
  | s :: sh, n :: ls, x, h, ha, hp => by
    have hn := hp n (List.mem_cons_self ..)
    have hp' : ∀ m ∈ ls, 1 ≤ m := fun m hm => hp m (List.mem_cons_of_mem _ hm)
    obtain ⟨k, hk⟩ : ∃ k : Nat, n.toNat = k + 1 := ⟨n.toNat - 1, by omega⟩
    have hl : sh.length = ls.length := by simpa using h
    have ih := fun z => mem_shrink (x := z) (sh := sh) (ls := ls) hl (alt_tail ha) hp'
    rw [spell_cons, hk, shrink_rep s _ (spell_head hl ha hp')]
    unfold dnS
    constructor
    · rintro (⟨h1, h⟩ | ⟨z, hz, h⟩)
      · refine ⟨(n - 1) :: ls, List.mem_append_left _ ?_, ?_⟩
        · rw [if_pos (by omega)]; exact List.mem_singleton.mpr rfl
        · rw [h, spell_cons, show (n - 1).toNat = k by omega]
      · obtain ⟨m, hm, rfl⟩ := (ih z).mp hz
        exact ⟨n :: m, List.mem_append_right _ (List.mem_map.mpr ⟨m, hm, rfl⟩), by rw [h, spell_cons, hk]⟩
    · rintro ⟨m, hm, h⟩
      rcases List.mem_append.mp hm with hm | hm
      · by_cases h2 : 2 ≤ n
        · rw [if_pos h2, List.mem_singleton] at hm
          subst hm
          exact .inl ⟨by omega, by rw [h, spell_cons, show (n - 1).toNat = k by omega]⟩
        · rw [if_neg h2] at hm
          simp at hm
      · obtain ⟨m', hm', rfl⟩ := List.mem_map.mp hm
        exact .inr ⟨spell sh m', (ih _).mpr ⟨m', hm', rfl⟩, by rw [h, spell_cons, hk]⟩
  | [], _ :: _, _, h, _, _ => by cases h
  | _ :: _, [], _, h, _, _ => by cases h
end MR
end

section
set_option Elab.async false
set_option linter.all false
/-! two lists of lengths: the greatest, the least, how far apart -/
namespace MR
theorem posS_cons (x y : Int) (xs ys : List Int) : posS (x :: xs) (y :: ys) = maxP 0 (x - y) + posS xs ys := by
  unfold posS
  rw [List.zip_cons_cons, List.map_cons, List.sum_cons]
theorem absS_cons (x y : Int) (xs ys : List Int) : absS (x :: xs) (y :: ys) = absI (x - y) + absS xs ys := by
  unfold absS
  rw [List.zip_cons_cons, List.map_cons, List.sum_cons]
theorem zipM_cons (f : Int → Int → Int) (x y : Int) (xs ys : List Int) : zipM f (x :: xs) (y :: ys) = f x y :: zipM f xs ys := by
  unfold zipM
  rw [List.zip_cons_cons, List.map_cons]
theorem zipM_nil (f : Int → Int → Int) : zipM f [] [] = [] := rfl
theorem maxP_spec (x y : Int) : x ≤ maxP x y ∧ y ≤ maxP x y ∧ (maxP x y = x ∨ maxP x y = y) := by
  unfold maxP
  split <;> omega
theorem minP_spec (x y : Int) : minP x y ≤ x ∧ minP x y ≤ y ∧ (minP x y = x ∨ minP x y = y) := by
  unfold minP
  split <;> omega
theorem absI_spec (x : Int) : (absI x = x ∧ 0 ≤ x) ∨ (absI x = -x ∧ x < 0) := by
  unfold absI
  split <;> omega
theorem max_sum : ∀ {xs ys : List Int}, xs.length = ys.length → (zipM maxP xs ys).sum = ys.sum + posS xs ys
  | [], [], _ => rfl
  | x :: xs, y :: ys, h => by
    have ih := max_sum (xs := xs) (ys := ys) (by simpa using h)
    rw [zipM_cons, posS_cons, List.sum_cons, List.sum_cons, ih]
    have h1 := maxP_spec x y
    have h2 := maxP_spec 0 (x - y)
    omega
  | [], _ :: _, h => by cases h
  | _ :: _, [], h => by cases h
theorem min_sum : ∀ {xs ys : List Int}, xs.length = ys.length → (zipM minP xs ys).sum + posS xs ys = xs.sum
  | [], [], _ => rfl
  | x :: xs, y :: ys, h => by
    have ih := min_sum (xs := xs) (ys := ys) (by simpa using h)
    rw [zipM_cons, posS_cons, List.sum_cons, List.sum_cons, ← ih]
    have h1 := minP_spec x y
    have h2 := maxP_spec 0 (x - y)
    omega
  | [], _ :: _, h => by cases h
  | _ :: _, [], h => by cases h
theorem abs_pos : ∀ {xs ys : List Int}, xs.length = ys.length → absS xs ys = posS xs ys + posS ys xs
  | [], [], _ => rfl
  | x :: xs, y :: ys, h => by
    have ih := abs_pos (xs := xs) (ys := ys) (by simpa using h)
    rw [absS_cons, posS_cons, posS_cons, ih]
    have h1 := absI_spec (x - y)
    have h2 := maxP_spec 0 (x - y)
    have h3 := maxP_spec 0 (y - x)
    omega
  | [], _ :: _, h => by cases h
  | _ :: _, [], h => by cases h
theorem pos_nonneg : ∀ {xs ys : List Int}, xs.length = ys.length → 0 ≤ posS xs ys
  | [], [], _ => Int.le_refl _
  | x :: xs, y :: ys, h => by
    have ih := pos_nonneg (xs := xs) (ys := ys) (by simpa using h)
    rw [posS_cons]
    have h2 := maxP_spec 0 (x - y)
    omega
  | [], _ :: _, h => by cases h
  | _ :: _, [], h => by cases h
theorem max_comm : ∀ xs ys : List Int, zipM maxP xs ys = zipM maxP ys xs
  | [], ys => by unfold zipM; simp
  | x :: xs, [] => by unfold zipM; simp
  | x :: xs, y :: ys => by
    rw [zipM_cons, zipM_cons, max_comm xs ys]
    congr 1
    have h1 := maxP_spec x y
    have h2 := maxP_spec y x
    omega
theorem min_comm : ∀ xs ys : List Int, zipM minP xs ys = zipM minP ys xs
  | [], ys => by unfold zipM; simp
  | x :: xs, [] => by unfold zipM; simp
  | x :: xs, y :: ys => by
    rw [zipM_cons, zipM_cons, min_comm xs ys]
    congr 1
    have h1 := minP_spec x y
    have h2 := minP_spec y x
    omega
theorem pos_comm {xs ys : List Int} (h : xs.length = ys.length) (s : xs.sum = ys.sum) : posS xs ys = posS ys xs := by
  have h1 := max_sum h
  have h2 := max_sum h.symm
  rw [max_comm] at h1
  omega
theorem abs_two {xs ys : List Int} (h : xs.length = ys.length) (s : xs.sum = ys.sum) : absS xs ys = 2 * posS xs ys := by
  rw [abs_pos h, ← pos_comm h s]
  omega
theorem max_le1 : ∀ {xs ys : List Int}, xs.length = ys.length → Le xs (zipM maxP xs ys)
  | [], [], _ => trivial
  | x :: xs, y :: ys, h => by
    rw [zipM_cons]
    exact ⟨(maxP_spec x y).1, max_le1 (by simpa using h)⟩
  | [], _ :: _, h => by cases h
  | _ :: _, [], h => by cases h
theorem max_le2 {xs ys : List Int} (h : xs.length = ys.length) : Le ys (zipM maxP xs ys) := by
  rw [max_comm]; exact max_le1 h.symm
theorem min_le1 : ∀ {xs ys : List Int}, xs.length = ys.length → Le (zipM minP xs ys) xs
  | [], [], _ => trivial
  | x :: xs, y :: ys, h => by
    rw [zipM_cons]
    exact ⟨(minP_spec x y).1, min_le1 (by simpa using h)⟩
  | [], _ :: _, h => by cases h
  | _ :: _, [], h => by cases h
theorem min_le2 {xs ys : List Int} (h : xs.length = ys.length) : Le (zipM minP xs ys) ys := by
  rw [min_comm]; exact min_le1 h.symm
theorem max_least : ∀ {xs ys m : List Int}, Le xs m → Le ys m → Le (zipM maxP xs ys) m
  | [], [], [], _, _ => trivial
  | x :: xs, y :: ys, z :: m, h, h' => by
    rw [zipM_cons]
    have h1 := maxP_spec x y
    have h2 := h.1
    have h3 := h'.1
    exact ⟨by omega, max_least h.2 h'.2⟩
  | [], _ :: _, [], _, h => h.elim
  | _ :: _, [], [], h, _ => h.elim
  | _ :: _, _ :: _, [], h, _ => h.elim
  | [], _, _ :: _, h, _ => h.elim
  | _ :: _, [], _ :: _, _, h => h.elim
theorem min_most : ∀ {xs ys m : List Int}, Le m xs → Le m ys → Le m (zipM minP xs ys)
  | [], [], [], _, _ => trivial
  | x :: xs, y :: ys, z :: m, h, h' => by
    rw [zipM_cons]
    have h1 := minP_spec x y
    have h2 := h.1
    have h3 := h'.1
    exact ⟨by omega, min_most h.2 h'.2⟩
  | [], _ :: _, [], _, h => h.elim
  | _ :: _, [], [], h, _ => h.elim
  | _ :: _, _ :: _, [], h, _ => h.elim
  | [], _, _ :: _, h, _ => h.elim
  | _ :: _, [], _ :: _, _, h => h.elim
theorem pos_le {xs ys : List Int} (h : xs.length = ys.length) (hx : ∀ n ∈ xs, 0 ≤ n) (hy : ∀ n ∈ ys, 0 ≤ n) : posS xs ys ≤ xs.sum := by
  have h1 := min_sum h
  have h2 : 0 ≤ (zipM minP xs ys).sum := sum_nonneg fun n hn => by
    obtain ⟨x, y, h3, h4, rfl⟩ := zipM_mem hn
    have := hx x h3
    have := hy y h4
    have := minP_spec x y
    omega
  omega
theorem pos_zero : ∀ {xs ys : List Int}, xs.length = ys.length → posS xs ys = 0 → Le xs ys
  | [], [], _, _ => trivial
  | x :: xs, y :: ys, h, h0 => by
    rw [posS_cons] at h0
    have h1 := pos_nonneg (xs := xs) (ys := ys) (by simpa using h)
    have h2 := maxP_spec 0 (x - y)
    exact ⟨by omega, pos_zero (by simpa using h) (by omega)⟩
  | [], _ :: _, h, _ => by cases h
  | _ :: _, [], h, _ => by cases h
theorem abs_tri : ∀ {xs ys zs : List Int}, xs.length = ys.length → ys.length = zs.length → absS xs zs ≤ absS xs ys + absS ys zs
  | [], [], [], _, _ => Int.le_refl _
  | x :: xs, y :: ys, z :: zs, h, h' => by
    have ih := abs_tri (xs := xs) (ys := ys) (zs := zs) (by simpa using h) (by simpa using h')
    rw [absS_cons, absS_cons, absS_cons]
    have h1 := absI_spec (x - y)
    have h2 := absI_spec (y - z)
    have h3 := absI_spec (x - z)
    omega
  | [], _ :: _, _, h, _ => by cases h
  | _ :: _, [], _, h, _ => by cases h
  | _, [], _ :: _, _, h => by cases h
  | _, _ :: _, [], _, h => by cases h
theorem abs_le : ∀ {a b : List Int}, Le a b → absS a b = b.sum - a.sum
  | [], [], _ => rfl
  | x :: a, y :: b, h => by
    rw [absS_cons, abs_le h.2, List.sum_cons, List.sum_cons]
    have h1 := absI_spec (x - y)
    have h2 := h.1
    omega
  | [], _ :: _, h => h.elim
  | _ :: _, [], h => h.elim
theorem abs_comm {a b : List Int} (h : a.length = b.length) : absS a b = absS b a := by
  rw [abs_pos h, abs_pos h.symm]
  omega
theorem abs_self (a : List Int) : absS a a = 0 := by
  rw [abs_le (le_refl a)]
  omega
/-! one step between -/
theorem mid_lo : ∀ {a c : List Int}, Le a c → a.sum < c.sum → ∃ b, Le a b ∧ Le b c ∧ b.sum = a.sum + 1
  | [], [], _, h => by simp at h
  | x :: a, z :: c, h, hs => by
    rw [List.sum_cons, List.sum_cons] at hs
    have h1 := h.1
    by_cases e : x = z
    · subst e
      obtain ⟨b, p, q, r⟩ := mid_lo h.2 (by omega)
      exact ⟨x :: b, ⟨Int.le_refl _, p⟩, ⟨Int.le_refl _, q⟩, by rw [List.sum_cons, List.sum_cons]; omega⟩
    · exact ⟨(x + 1) :: a, ⟨by omega, le_refl _⟩, ⟨by omega, h.2⟩, by rw [List.sum_cons, List.sum_cons]; omega⟩
  | [], _ :: _, h, _ => h.elim
  | _ :: _, [], h, _ => h.elim
theorem mid_hi : ∀ {a c : List Int}, Le a c → a.sum < c.sum → ∃ b, Le a b ∧ Le b c ∧ b.sum + 1 = c.sum
  | [], [], _, h => by simp at h
  | x :: a, z :: c, h, hs => by
    rw [List.sum_cons, List.sum_cons] at hs
    have h1 := h.1
    by_cases e : x = z
    · subst e
      obtain ⟨b, p, q, r⟩ := mid_hi h.2 (by omega)
      exact ⟨x :: b, ⟨Int.le_refl _, p⟩, ⟨Int.le_refl _, q⟩, by rw [List.sum_cons, List.sum_cons]; omega⟩
    · exact ⟨(z - 1) :: c, ⟨by omega, h.2⟩, ⟨by omega, le_refl _⟩, by rw [List.sum_cons, List.sum_cons]; omega⟩
  | [], _ :: _, h, _ => h.elim
  | _ :: _, [], h, _ => h.elim
/-! levels -/
/-- a word's shape and lengths -/
structure WS (sh ls : List Int) : Prop where
  len : sh.length = ls.length
  alt : Alt2 sh
  pos : ∀ n ∈ ls, 1 ≤ n
theorem ws_of (w : Wd) : WS (shape w) (lens w) := ⟨(lens_len w).symm, alt_shape w, lens_pos⟩
theorem WS.up {sh ls m : List Int} (h : WS sh ls) (l : Le ls m) : WS sh m := ⟨h.len.trans (le_len l), h.alt, le_pos l h.pos⟩
theorem WS.shape {sh ls : List Int} (h : WS sh ls) : shape (spell sh ls) = sh := shape_spell h.len h.alt h.pos
theorem WS.lens {sh ls : List Int} (h : WS sh ls) : lens (spell sh ls) = ls := lens_spell h.len h.alt h.pos
theorem mem_lev {f : Wd → List Wd} {w x : Wd} {k : Nat} : x ∈ levM f w (k + 1) ↔ ∃ y ∈ levM f w k, x ∈ f y := by
  show x ∈ sortU ((levM f w k).flatMap f) ↔ _
  rw [mem_sortU, List.mem_flatMap]
theorem strict_lev (f : Wd → List Wd) (w : Wd) : ∀ k, Strict (levM f w k)
  | 0 => List.pairwise_singleton ..
  | k + 1 => strict_sortU _
theorem lev_sw {sh ls : List Int} (h : WS sh ls) : ∀ {k : Nat} {x : Wd}, x ∈ levM swollenW (spell sh ls) k ↔ ∃ m, Le ls m ∧ m.sum = ls.sum + k ∧ x = spell sh m
  | 0, x => by
    show x ∈ [spell sh ls] ↔ _
    rw [List.mem_singleton]
    constructor
    · intro e; exact ⟨ls, le_refl _, by simp, e⟩
    · rintro ⟨m, h1, h2, h3⟩
      rw [h3, le_eq h1 (by omega)]
  | k + 1, x => by
    rw [mem_lev]
    constructor
    · rintro ⟨y, hy, hx⟩
      obtain ⟨m, h1, h2, rfl⟩ := (lev_sw h).mp hy
      obtain ⟨m', h3, rfl⟩ := (mem_swell (h.up h1).len (h.up h1).pos).mp (mem_sortU.mp hx)
      obtain ⟨h4, h5⟩ := mem_upS.mp h3
      exact ⟨m', le_trans h1 h4, by rw [h5, h2]; omega, rfl⟩
    · rintro ⟨m, h1, h2, rfl⟩
      obtain ⟨b, h3, h4, h5⟩ := mid_hi h1 (by omega)
      exact ⟨spell sh b, (lev_sw h).mpr ⟨b, h3, by omega, rfl⟩, mem_sortU.mpr ((mem_swell (h.up h3).len (h.up h3).pos).mpr ⟨m, mem_upS.mpr ⟨h4, by omega⟩, rfl⟩)⟩
theorem WS.dn {sh ls m : List Int} (h : WS sh ls) (l : Le m ls) (p : ∀ n ∈ m, 1 ≤ n) : WS sh m := ⟨h.len.trans (le_len l).symm, h.alt, p⟩
theorem lev_sk {sh ls : List Int} (h : WS sh ls) : ∀ {k : Nat} {x : Wd}, x ∈ levM shrunkW (spell sh ls) k ↔ ∃ m, Le m ls ∧ m.sum + k = ls.sum ∧ (∀ n ∈ m, 1 ≤ n) ∧ x = spell sh m
  | 0, x => by
    show x ∈ [spell sh ls] ↔ _
    rw [List.mem_singleton]
    constructor
    · intro e; exact ⟨ls, le_refl _, by simp, h.pos, e⟩
    · rintro ⟨m, h1, h2, _, h3⟩
      rw [h3, le_eq h1 (by omega)]
  | k + 1, x => by
    rw [mem_lev]
    constructor
    · rintro ⟨y, hy, hx⟩
      obtain ⟨m, h1, h2, hp, rfl⟩ := (lev_sk h).mp hy
      have W := h.dn h1 hp
      obtain ⟨m', h3, rfl⟩ := (mem_shrink W.len W.alt W.pos).mp (mem_sortU.mp hx)
      obtain ⟨h4, h5, h6⟩ := (mem_dnS W.pos).mp h3
      exact ⟨m', le_trans h4 h1, by omega, h6, rfl⟩
    · rintro ⟨m, h1, h2, hp, rfl⟩
      obtain ⟨b, h3, h4, h5⟩ := mid_lo h1 (by omega)
      have W := h.dn h4 (le_pos h3 hp)
      exact ⟨spell sh b, (lev_sk h).mpr ⟨b, h4, by omega, W.pos, rfl⟩, mem_sortU.mpr ((mem_shrink W.len W.alt W.pos).mpr ⟨m, (mem_dnS W.pos).mpr ⟨h3, by omega, hp⟩, rfl⟩)⟩
theorem mem_mix {w x : Wd} {k : Nat} : x ∈ mixM w (k + 1) ↔ x ∈ mixM w k ∨ ∃ y ∈ mixM w k, x ∈ swollenW y ∨ x ∈ shrunkW y := by
  show x ∈ sortU (mixStep (mixM w k)) ↔ _
  rw [mem_sortU]
  unfold mixStep
  rw [List.mem_append, List.mem_flatMap]
  simp only [List.mem_append]
theorem strict_mix (w : Wd) : ∀ k, Strict (mixM w k)
  | 0 => List.pairwise_singleton ..
  | k + 1 => strict_sortU _
theorem mix_in {sh ls : List Int} (h : WS sh ls) : ∀ {k : Nat} {x : Wd}, x ∈ mixM (spell sh ls) k → ∃ m, WS sh m ∧ absS ls m ≤ k ∧ x = spell sh m
  | 0, x, hx => by
    rw [List.mem_singleton.mp hx]
    exact ⟨ls, h, by rw [abs_self]; exact Int.le_refl _, rfl⟩
  | k + 1, x, hx => by
    rcases mem_mix.mp hx with hx | ⟨y, hy, hx⟩
    · obtain ⟨m, h1, h2, h3⟩ := mix_in h hx
      exact ⟨m, h1, by omega, h3⟩
    · obtain ⟨m, h1, h2, rfl⟩ := mix_in h hy
      have l1 : ls.length = m.length := h.len.symm.trans h1.len
      rcases hx with hx | hx
      · obtain ⟨m', h3, rfl⟩ := (mem_swell h1.len h1.pos).mp (mem_sortU.mp hx)
        obtain ⟨h4, h5⟩ := mem_upS.mp h3
        refine ⟨m', h1.up h4, ?_, rfl⟩
        have t := abs_tri l1 (le_len h4)
        rw [abs_le h4] at t
        omega
      · obtain ⟨m', h3, rfl⟩ := (mem_shrink h1.len h1.alt h1.pos).mp (mem_sortU.mp hx)
        obtain ⟨h4, h5, h6⟩ := (mem_dnS h1.pos).mp h3
        refine ⟨m', h1.dn h4 h6, ?_, rfl⟩
        have t := abs_tri l1 (le_len h4).symm
        rw [abs_comm (le_len h4).symm, abs_le h4] at t
        omega
theorem mix_lev {w : Wd} : ∀ {k : Nat} {x : Wd}, x ∈ levM swollenW w k → x ∈ mixM w k
  | 0, x, h => h
  | k + 1, x, h => by
    obtain ⟨y, hy, hx⟩ := mem_lev.mp h
    exact mem_mix.mpr (.inr ⟨y, mix_lev hy, .inl hx⟩)
theorem mix_mono {w x : Wd} {k : Nat} (h : x ∈ mixM w k) : ∀ {j : Nat}, x ∈ mixM w (k + j)
  | 0 => h
  | j + 1 => mem_mix.mpr (.inl (mix_mono h))
end MR
end

section
set_option Elab.async false
set_option linter.all false
/-! two words, and all pairs -/
namespace MR
open LP
theorem lev_sw' {w x : Wd} {k : Nat} : x ∈ levM swollenW w k ↔ ∃ m, Le (lens w) m ∧ m.sum = w.length + k ∧ x = spell (shape w) m := by
  have := lev_sw (ws_of w) (k := k) (x := x)
  rw [spell_shape, lens_sum] at this
  exact this
theorem lev_sk' {w x : Wd} {k : Nat} : x ∈ levM shrunkW w k ↔ ∃ m, Le m (lens w) ∧ m.sum + k = w.length ∧ (∀ n ∈ m, 1 ≤ n) ∧ x = spell (shape w) m := by
  have := lev_sk (ws_of w) (k := k) (x := x)
  rw [spell_shape, lens_sum] at this
  exact this
theorem mix_in' {w x : Wd} {k : Nat} (h : x ∈ mixM w k) : ∃ m, WS (shape w) m ∧ absS (lens w) m ≤ k ∧ x = spell (shape w) m :=
  mix_in (ws_of w) (by rw [spell_shape]; exact h)
/-- how far apart -/
def DD (a b : Wd) : Int := posS (lens a) (lens b)
/-- of one shape and one length -/
structure Two (a b : Wd) : Prop where
  sh : shape a = shape b
  ln : a.length = b.length
theorem Two.sum {a b : Wd} (h : Two a b) : (lens a).sum = (lens b).sum := by rw [lens_sum, lens_sum, h.ln]
theorem Two.ll {a b : Wd} (h : Two a b) : (lens a).length = (lens b).length := lens_len2 h.sh
theorem Two.abs {a b : Wd} (h : Two a b) : absS (lens a) (lens b) = 2 * DD a b := abs_two h.ll h.sum
theorem Two.nn {a b : Wd} (h : Two a b) : 0 ≤ DD a b := pos_nonneg h.ll
theorem Two.le {a b : Wd} (h : Two a b) : DD a b ≤ a.length := by
  have := pos_le h.ll (fun n hn => by have := lens_pos n hn; omega) (fun n hn => by have := lens_pos n hn; omega)
  rw [lens_sum] at this
  exact this
theorem Two.steps {a b : Wd} (h : Two a b) : stepsM a b = some (2 * DD a b) := by
  unfold stepsM
  rw [if_pos h.sh, h.abs]
theorem two_of {a b : Wd} {s : Int} (l : a.length = b.length) (h : stepsM a b = some s) : Two a b ∧ s / 2 = DD a b := by
  unfold stepsM at h
  by_cases e : shape a = shape b
  · have t : Two a b := ⟨e, l⟩
    rw [if_pos e, t.abs] at h
    refine ⟨t, ?_⟩
    cases h
    omega
  · rw [if_neg e] at h; cases h
theorem Two.mx {a b : Wd} (h : Two a b) : (zipM maxP (lens a) (lens b)).sum = a.length + DD a b := by
  have := max_sum h.ll
  rw [lens_sum] at this
  rw [this, h.ln]; rfl
theorem Two.mn {a b : Wd} (h : Two a b) : (zipM minP (lens a) (lens b)).sum + DD a b = a.length := by
  have := min_sum h.ll
  rw [lens_sum] at this
  exact this
theorem Two.mnp {a b : Wd} (h : Two a b) : ∀ n ∈ zipM minP (lens a) (lens b), 1 ≤ n := fun n hn => by
  obtain ⟨x, y, h1, h2, rfl⟩ := zipM_mem hn
  have := lens_pos x h1
  have := lens_pos y h2
  have := minP_spec x y
  omega
theorem Two.zero {a b : Wd} (h : Two a b) (z : DD a b = 0) : a = b := word_eq h.sh (le_eq (pos_zero h.ll z) (by rw [h.sum]; exact Int.le_refl _))
/-- a word of both longer levels -/
theorem both_sw {a b x : Wd} {k : Nat} (l : a.length = b.length) (h1 : x ∈ levM swollenW a k) (h2 : x ∈ levM swollenW b k) : Two a b ∧ DD a b ≤ k ∧ (DD a b = k → x = mxW a b) := by
  obtain ⟨m, p1, p2, rfl⟩ := lev_sw'.mp h1
  obtain ⟨m', q1, q2, e⟩ := lev_sw'.mp h2
  have A := (ws_of a).up p1
  have B := (ws_of b).up q1
  have es : shape a = shape b := by rw [← A.shape, e, B.shape]
  have em : m = m' := by rw [← A.lens, e, B.lens]
  subst em
  have t : Two a b := ⟨es, l⟩
  have x1 := max_least p1 q1
  have x2 := Le_sum x1
  have x3 := t.mx
  refine ⟨t, by omega, fun hk => ?_⟩
  unfold mxW
  rw [le_eq x1 (by omega)]
theorem both_sk {a b x : Wd} {k : Nat} (l : a.length = b.length) (h1 : x ∈ levM shrunkW a k) (h2 : x ∈ levM shrunkW b k) : Two a b ∧ DD a b ≤ k ∧ (DD a b = k → x = mnW a b) := by
  obtain ⟨m, p1, p2, p3, rfl⟩ := lev_sk'.mp h1
  obtain ⟨m', q1, q2, q3, e⟩ := lev_sk'.mp h2
  have A := (ws_of a).dn p1 p3
  have B := (ws_of b).dn q1 q3
  have es : shape a = shape b := by rw [← A.shape, e, B.shape]
  have em : m = m' := by rw [← A.lens, e, B.lens]
  subst em
  have t : Two a b := ⟨es, l⟩
  have x1 := min_most p1 q1
  have x2 := Le_sum x1
  have x3 := t.mn
  refine ⟨t, by omega, fun hk => ?_⟩
  unfold mnW
  rw [← le_eq x1 (by omega)]
theorem Two.mx_in {a b : Wd} (h : Two a b) {k : Nat} (hk : DD a b = k) : mxW a b ∈ levM swollenW a k ∧ mxW a b ∈ levM swollenW b k := by
  have x3 := h.mx
  refine ⟨lev_sw'.mpr ⟨_, max_le1 h.ll, by omega, rfl⟩, lev_sw'.mpr ⟨_, max_le2 h.ll, ?_, ?_⟩⟩
  · rw [← h.ln]; omega
  · unfold mxW; rw [h.sh]
theorem Two.mn_in {a b : Wd} (h : Two a b) {k : Nat} (hk : DD a b = k) : mnW a b ∈ levM shrunkW a k ∧ mnW a b ∈ levM shrunkW b k := by
  have x3 := h.mn
  refine ⟨lev_sk'.mpr ⟨_, min_le1 h.ll, by omega, h.mnp, rfl⟩, lev_sk'.mpr ⟨_, min_le2 h.ll, ?_, h.mnp, ?_⟩⟩
  · rw [← h.ln]; omega
  · unfold mnW; rw [h.sh]
theorem filter_one {l : List Wd} {p : Wd → Bool} {y : Wd} (h : Strict l) (e : ∀ x, (x ∈ l ∧ p x = true) ↔ x = y) : l.filter p = [y] :=
  strict_eq (h.filter _) (List.pairwise_singleton ..) fun x => by rw [List.mem_filter, List.mem_singleton]; exact e x
theorem plaw {a b : Wd} (m : Nat) (l : a.length = b.length) : PLaw m a b := by
  constructor
  · intro s hs hm
    obtain ⟨t, hd⟩ := two_of l hs
    have hn := t.nn
    obtain ⟨d, e⟩ : ∃ d : Nat, (d : Int) = DD a b := ⟨(DD a b).toNat, by omega⟩
    refine ⟨d, by omega, ?_, ?_, ?_⟩
    · refine filter_one (strict_lev _ _ _) fun x => ?_
      rw [decide_eq_true_eq]
      constructor
      · rintro ⟨h1, h2⟩
        exact (both_sw l h1 h2).2.2 e.symm
      · rintro rfl
        exact t.mx_in e.symm
    · refine filter_one (strict_lev _ _ _) fun x => ?_
      rw [decide_eq_true_eq]
      constructor
      · rintro ⟨h1, h2⟩
        exact (both_sk l h1 h2).2.2 e.symm
      · rintro rfl
        exact t.mn_in e.symm
    · intro d' h'
      refine List.filter_eq_nil_iff.mpr fun x h1 h2 => ?_
      rw [decide_eq_true_eq] at h2
      have := (both_sw l h1 h2).2.1
      omega
  · intro d _ hne
    obtain ⟨x, hx⟩ := List.exists_mem_of_ne_nil _ hne
    obtain ⟨h1, h2⟩ := List.mem_filter.mp hx
    rw [decide_eq_true_eq] at h2
    obtain ⟨t, h3, _⟩ := both_sw l h1 h2
    exact ⟨_, t.steps, by omega⟩
/-! all pairs -/
def GE (t : Int) (o : Option Int) : Prop := ∀ v, o = some v → t ≤ v
theorem ge_min {t : Int} {a s : Option Int} : GE t (minO a s) ↔ GE t a ∧ GE t s := by
  cases s with
  | none => exact ⟨fun h => ⟨h, fun _ e => nomatch e⟩, fun h => h.1⟩
  | some v =>
    cases a with
    | none => exact ⟨fun h => ⟨fun _ e => (nomatch e), h⟩, fun h => h.2⟩
    | some m =>
      by_cases c : v < m
      · rw [minO_lt c]
        exact ⟨fun h => ⟨fun u e => by cases e; have := h v rfl; omega, h⟩, fun h => h.2⟩
      · rw [minO_ge c]
        exact ⟨fun h => ⟨h, fun u e => by cases e; have := h m rfl; omega⟩, fun h => h.1⟩
theorem ge_fold {t : Int} {f : Wd → Option Int} : ∀ {l : List Wd} {acc : Option Int}, GE t (l.foldl (fun acc one => minO acc (f one)) acc) ↔ GE t acc ∧ ∀ one ∈ l, GE t (f one)
  | [], acc => by simp
  | x :: l, acc => by
    rw [List.foldl_cons, ge_fold, ge_min, List.forall_mem_cons]
    constructor
    · rintro ⟨⟨a, b⟩, c⟩; exact ⟨a, b, c⟩
    · rintro ⟨a, b, c⟩; exact ⟨⟨a, b⟩, c⟩
/-- of every earlier and later word -/
def Prs (R : Wd → Wd → Prop) (ws : List Wd) : Prop := ∀ (i j : Nat) (a b : Wd), i < j → ws[i]? = some a → ws[j]? = some b → R a b
theorem prs_pair {R : Wd → Wd → Prop} {ws : List Wd} : ws.Pairwise R ↔ Prs R ws := by
  rw [List.pairwise_iff_getElem]
  constructor
  · intro h i j a b hij ha hb
    obtain ⟨h1, rfl⟩ := List.getElem?_eq_some_iff.mp ha
    obtain ⟨h2, rfl⟩ := List.getElem?_eq_some_iff.mp hb
    exact h i j h1 h2 hij
  · intro h i j h1 h2 hij
    exact h i j _ _ hij (List.getElem?_eq_getElem h1) (List.getElem?_eq_getElem h2)
theorem ge_up {t : Int} {f : Wd → Wd → Option Int} {ws : List Wd} : ∀ {k : Nat}, k ≤ ws.length → (GE t (leastUp f ws k) ↔ ∀ (i j : Nat) (a b : Wd), i < j → j < k → ws[i]? = some a → ws[j]? = some b → GE t (f a b))
  | 0, _ => by
    constructor
    · intro _ i j a b _ h; omega
    · intro _ v e; cases e
  | k + 1, hk => by
    have ih := ge_up (t := t) (f := f) (ws := ws) (k := k) (by omega)
    have hb : ws[k]? = some (ws.getD k []) := by
      rw [List.getD_eq_getElem?_getD, List.getElem?_eq_getElem (by omega)]
      rfl
    show GE t (leastIn f ws (ws.getD k []) k (leastUp f ws k)) ↔ _
    unfold leastIn
    rw [ge_fold, ih]
    constructor
    · rintro ⟨h1, h2⟩ i j a b hij hj ha hb'
      by_cases e : j = k
      · subst e
        rw [hb] at hb'
        cases hb'
        exact h2 a (List.mem_of_getElem? (i := i) (by rw [List.getElem?_take]; rw [if_pos hij]; exact ha))
      · exact h1 i j a b hij (by omega) ha hb'
    · intro h
      refine ⟨fun i j a b hij hj ha hb => h i j a b hij (by omega) ha hb, fun one ho => ?_⟩
      obtain ⟨i, hi⟩ := List.mem_iff_getElem?.mp ho
      rw [List.getElem?_take] at hi
      by_cases e : i < k
      · rw [if_pos e] at hi
        exact h i k one _ e (by omega) hi hb
      · rw [if_neg e] at hi; cases hi
theorem ge_all {t : Int} {f : Wd → Wd → Option Int} {ws : List Wd} : GE t (leastUp f ws ws.length) ↔ Prs (fun a b => GE t (f a b)) ws := by
  rw [ge_up (Nat.le_refl _)]
  constructor
  · intro h i j a b hij ha hb
    exact h i j a b hij (List.getElem?_eq_some_iff.mp hb).1 ha hb
  · intro h i j a b hij _ ha hb
    exact h i j a b hij ha hb
theorem orN_ge {n t : Int} {o : Option Int} (h : t ≤ n) : t ≤ orN n o ↔ GE (t + 1) o := by
  cases o with
  | none => exact ⟨fun _ _ e => (nomatch e), fun _ => h⟩
  | some v =>
    show t ≤ v - 1 ↔ _
    constructor
    · intro h u e; cases e; omega
    · intro h; have := h v rfl; omega
theorem half_ge {t : Int} {a b : Wd} (l : a.length = b.length) : GE t (halfO (stepsM a b)) ↔ (Two a b → t ≤ DD a b) := by
  constructor
  · intro h T
    exact h (DD a b) (by rw [T.steps]; unfold halfO; rw [Option.map_some]; congr 1; omega)
  · intro h v e
    unfold halfO at e
    cases hs : stepsM a b with
    | none => rw [hs] at e; cases e
    | some s =>
      rw [hs] at e
      obtain ⟨T, q⟩ := two_of l hs
      have := h T
      rw [Option.map_some] at e
      cases e
      omega
/-- words of one length -/
def Eq1 (n : Nat) (ws : List Wd) : Prop := ∀ x ∈ ws, x.length = n
theorem Eq1.two {n : Nat} {ws : List Wd} (h : Eq1 n ws) {i j : Nat} {a b : Wd} (ha : ws[i]? = some a) (hb : ws[j]? = some b) : a.length = b.length := by
  rw [h a (List.mem_of_getElem? ha), h b (List.mem_of_getElem? hb)]
theorem rb_ge {n : Nat} {ws : List Wd} (h : Eq1 n ws) {t : Int} (ht : t ≤ n) : t ≤ runsBorneM (n : Nat) ws ↔ Prs (fun a b => Two a b → t + 1 ≤ DD a b) ws := by
  unfold runsBorneM
  rw [orN_ge ht, ge_all]
  constructor
  · intro g i j a b hij ha hb
    exact (half_ge (h.two ha hb)).mp (g i j a b hij ha hb)
  · intro g i j a b hij ha hb
    exact (half_ge (h.two ha hb)).mpr (g i j a b hij ha hb)
theorem least_congr {f g : Wd → Wd → Option Int} {ws : List Wd} (h : ∀ a ∈ ws, ∀ b ∈ ws, f a b = g a b) : ∀ {k : Nat}, k ≤ ws.length → leastUp f ws k = leastUp g ws k
  | 0, _ => rfl
  | k + 1, hk => by
    show leastIn f ws (ws.getD k []) k (leastUp f ws k) = leastIn g ws (ws.getD k []) k (leastUp g ws k)
    rw [least_congr h (by omega)]
    have hb : ws.getD k [] ∈ ws := by
      refine List.mem_of_getElem? (i := k) ?_
      rw [List.getD_eq_getElem?_getD, List.getElem?_eq_getElem (by omega)]
      rfl
    unfold leastIn
    have : ∀ (l : List Wd) (acc : Option Int), (∀ x ∈ l, x ∈ ws) → l.foldl (fun acc one => minO acc (f one (ws.getD k []))) acc = l.foldl (fun acc one => minO acc (g one (ws.getD k []))) acc := by
      intro l
      induction l with
      | nil => intro acc _; rfl
      | cons x l ih =>
        intro acc hl
        rw [List.foldl_cons, List.foldl_cons, h x (hl x (List.mem_cons_self ..)) _ hb]
        exact ih _ fun y hy => hl y (List.mem_cons_of_mem _ hy)
    exact this _ _ fun x hx => List.mem_of_mem_take hx
theorem rb_law {n : Nat} {ws : List Wd} (h : Eq1 n ws) : runsBorneM (n : Nat) ws = lawRunsBorneM (n : Nat) ws := by
  unfold runsBorneM lawRunsBorneM
  congr 1
  refine least_congr (fun a ha b hb => ?_) (Nat.le_refl _)
  have l : a.length = b.length := by rw [h a ha, h b hb]
  unfold halfO stepsM apartM
  by_cases e : shape a = shape b
  · have t : Two a b := ⟨e, l⟩
    rw [if_pos e, if_pos e.symm, t.abs, Option.map_some]
    congr 1
    have : posS (lens b) (lens a) = DD a b := (pos_comm t.ll t.sum).symm
    rw [this]
    omega
  · rw [if_neg e, if_neg (Ne.symm e)]
    rfl
theorem rb_far {n : Nat} {ws : List Wd} (h : Eq1 n ws) : (n : Int) ≤ runsBorneM (n : Nat) ws ↔ ∀ i j, NoStep ws (n : Int) i j := by
  rw [rb_ge h (Int.le_refl _)]
  constructor
  · intro g i j a b hij ha hb s hs hle
    obtain ⟨T, q⟩ := two_of (h.two ha hb) hs
    have := g i j a b hij ha hb T
    omega
  · intro g i j a b hij ha hb T
    have := g i j a b hij ha hb _ T.steps
    omega
theorem st_law {n : Nat} {a b : Wd} (ha : a.length = n) (hb : b.length = n) {s : Int} (hs : stepsM a b = some s) : apartM a b = some (s / 2) ∧ s / 2 ≤ (n : Int) := by
  obtain ⟨T, q⟩ := two_of (by rw [ha, hb]) hs
  refine ⟨?_, ?_⟩
  · unfold apartM
    rw [if_pos T.sh, q]; rfl
  · have := T.le
    omega
/-! all unlike -/
theorem unl_iff {g : Wd → List Wd} {ws : List Wd} : unlM g ws = true ↔ Prs (fun a b => ∀ x, x ∈ g a → x ∈ g b → False) ws := by
  unfold unlM
  rw [decide_eq_true_eq, ← prs_pair]
  unfold List.Nodup
  rw [List.pairwise_flatMap]
  constructor
  · rintro ⟨_, h⟩
    exact h.imp fun {a b} q x ha hb => q x (mem_sortU.mpr ha) x (mem_sortU.mpr hb) rfl
  · intro h
    refine ⟨fun w _ => (strict_sortU _).nodup, h.imp fun {a b} q x ha y hb e => ?_⟩
    subst e
    exact q x (mem_sortU.mp ha) (mem_sortU.mp hb)
theorem bool_dec {b : Bool} {p : Prop} [Decidable p] (h : b = true ↔ p) : b = decide p := by
  cases b with
  | true => exact (decide_eq_true (h.mp rfl)).symm
  | false => exact (decide_eq_false fun hp => nomatch h.mpr hp).symm
theorem unl_law {g : Wd → List Wd} {n m : Nat} {ws : List Wd} (h : Eq1 n ws) (hm : m ≤ n) (inn : ∀ a b x, a.length = b.length → x ∈ g a → x ∈ g b → Two a b ∧ DD a b ≤ m) (out : ∀ a b, Two a b → DD a b ≤ m → ∃ x, x ∈ g a ∧ x ∈ g b) : unlM g ws = decide ((m : Int) ≤ runsBorneM (n : Nat) ws) := by
  refine bool_dec ?_
  rw [unl_iff, rb_ge h (by omega)]
  constructor
  · intro q i j a b hij ha hb T
    refine Classical.byContradiction fun hc => ?_
    obtain ⟨x, h1, h2⟩ := out a b T (by omega)
    exact q i j a b hij ha hb x h1 h2
  · intro q i j a b hij ha hb x h1 h2
    obtain ⟨T, hd⟩ := inn a b x (h.two ha hb) h1 h2
    have := q i j a b hij ha hb T
    omega
theorem mem_swlM {m : Nat} {w x : Wd} : x ∈ swlM m w ↔ ∃ k, k ≤ m ∧ x ∈ levM swollenW w k := by
  unfold swlM
  rw [List.mem_flatMap]
  simp only [List.mem_range, Nat.lt_succ_iff]
theorem mem_shrM {m : Nat} {w x : Wd} : x ∈ shrM m w ↔ ∃ k, k ≤ m ∧ x ∈ levM shrunkW w k := by
  unfold shrM
  rw [List.mem_flatMap]
  simp only [List.mem_range, Nat.lt_succ_iff]
theorem lev_sw_len {w x : Wd} {k : Nat} (h : x ∈ levM swollenW w k) : x.length = w.length + k := by
  obtain ⟨m, h1, h2, rfl⟩ := lev_sw'.mp h
  have W := (ws_of w).up h1
  have := spell_sum W.len fun n hn => by have := W.pos n hn; omega
  omega
theorem lev_sk_len {w x : Wd} {k : Nat} (h : x ∈ levM shrunkW w k) : x.length + k = w.length := by
  obtain ⟨m, h1, h2, h3, rfl⟩ := lev_sk'.mp h
  have W := (ws_of w).dn h1 h3
  have := spell_sum W.len fun n hn => by have := W.pos n hn; omega
  omega
theorem unl_sw {n m : Nat} {ws : List Wd} (h : Eq1 n ws) (hm : m ≤ n) : unlM (swlM m) ws = decide ((m : Int) ≤ runsBorneM (n : Nat) ws) := by
  refine unl_law h hm (fun a b x l h1 h2 => ?_) (fun a b T hd => ?_)
  · obtain ⟨k, hk, h1⟩ := mem_swlM.mp h1
    obtain ⟨k', _, h2⟩ := mem_swlM.mp h2
    have e1 := lev_sw_len h1
    have e2 := lev_sw_len h2
    have e : k = k' := by omega
    subst e
    obtain ⟨T, q, _⟩ := both_sw l h1 h2
    exact ⟨T, by omega⟩
  · have hn := T.nn
    obtain ⟨d, e⟩ : ∃ d : Nat, (d : Int) = DD a b := ⟨(DD a b).toNat, by omega⟩
    obtain ⟨h1, h2⟩ := T.mx_in e.symm
    exact ⟨_, mem_swlM.mpr ⟨d, by omega, h1⟩, mem_swlM.mpr ⟨d, by omega, h2⟩⟩
theorem unl_sk {n m : Nat} {ws : List Wd} (h : Eq1 n ws) (hm : m ≤ n) : unlM (shrM m) ws = decide ((m : Int) ≤ runsBorneM (n : Nat) ws) := by
  refine unl_law h hm (fun a b x l h1 h2 => ?_) (fun a b T hd => ?_)
  · obtain ⟨k, hk, h1⟩ := mem_shrM.mp h1
    obtain ⟨k', _, h2⟩ := mem_shrM.mp h2
    have e1 := lev_sk_len h1
    have e2 := lev_sk_len h2
    have e : k = k' := by omega
    subst e
    obtain ⟨T, q, _⟩ := both_sk l h1 h2
    exact ⟨T, by omega⟩
  · have hn := T.nn
    obtain ⟨d, e⟩ : ∃ d : Nat, (d : Int) = DD a b := ⟨(DD a b).toNat, by omega⟩
    obtain ⟨h1, h2⟩ := T.mn_in e.symm
    exact ⟨_, mem_shrM.mpr ⟨d, by omega, h1⟩, mem_shrM.mpr ⟨d, by omega, h2⟩⟩
theorem unl_mx {n m : Nat} {ws : List Wd} (h : Eq1 n ws) (hm : m ≤ n) : unlM (fun w => mixM w m) ws = decide ((m : Int) ≤ runsBorneM (n : Nat) ws) := by
  refine unl_law h hm (fun a b x l h1 h2 => ?_) (fun a b T hd => ?_)
  · obtain ⟨u, hu, u2, rfl⟩ := mix_in' h1
    obtain ⟨v, hv, v2, e⟩ := mix_in' h2
    have es : shape a = shape b := by rw [← hu.shape, e, hv.shape]
    have em : u = v := by rw [← hu.lens, e, hv.lens]
    subst em
    have T : Two a b := ⟨es, l⟩
    refine ⟨T, ?_⟩
    have l1 : (lens a).length = u.length := (lens_len a).trans hu.len
    have l2 : u.length = (lens b).length := l1.symm.trans T.ll
    have t := abs_tri l1 l2
    rw [T.abs, abs_comm l2] at t
    omega
  · have hn := T.nn
    obtain ⟨d, e⟩ : ∃ d : Nat, (d : Int) = DD a b := ⟨(DD a b).toNat, by omega⟩
    obtain ⟨h1, h2⟩ := T.mx_in e.symm
    obtain ⟨j, rfl⟩ : ∃ j, m = d + j := ⟨m - d, by omega⟩
    exact ⟨_, mix_mono (mix_lev h1), mix_mono (mix_lev h2)⟩
end MR
end

section
set_option Elab.async false
set_option linter.all false
/-! the longest common subsequence -/
namespace MR
open LP
def lcs : List Int → List Int → Nat
  | [], _ => 0
  | _ :: _, [] => 0
  | x :: a, y :: b => if x = y then lcs a b + 1 else Nat.max (lcs (x :: a) b) (lcs a (y :: b))
termination_by a b => a.length + b.length
theorem lcs_nil (b : List Int) : lcs [] b = 0 := by rw [lcs]
theorem lcs_nil2 : ∀ a : List Int, lcs a [] = 0
  | [] => by rw [lcs]
  | _ :: _ => by rw [lcs]
theorem lcs_cons (x y : Int) (a b : List Int) : lcs (x :: a) (y :: b) = if x = y then lcs a b + 1 else Nat.max (lcs (x :: a) b) (lcs a (y :: b)) := by rw [lcs]
theorem lcs_has : ∀ (a b : List Int), ∃ s : List Int, s.Sublist a ∧ s.Sublist b ∧ s.length = lcs a b
  | [], b => ⟨[], .slnil, List.nil_sublist _, by rw [lcs_nil]; rfl⟩
  | x :: a, [] => ⟨[], List.nil_sublist _, .slnil, by rw [lcs_nil2]; rfl⟩
  | x :: a, y :: b => by
    rw [lcs_cons]
    by_cases e : x = y
    · subst e
      obtain ⟨s, h1, h2, h3⟩ := lcs_has a b
      exact ⟨x :: s, h1.cons₂ _, h2.cons₂ _, by rw [if_pos rfl, List.length_cons, h3]⟩
    · rw [if_neg e]
      by_cases c : lcs (x :: a) b ≤ lcs a (y :: b)
      · obtain ⟨s, h1, h2, h3⟩ := lcs_has a (y :: b)
        exact ⟨s, h1.cons _, h2, by rw [h3]; exact (Nat.max_eq_right c).symm⟩
      · obtain ⟨s, h1, h2, h3⟩ := lcs_has (x :: a) b
        exact ⟨s, h1, h2.cons _, by rw [h3]; exact (Nat.max_eq_left (by omega)).symm⟩
termination_by a b => a.length + b.length
theorem lcs_most : ∀ (a b : List Int) {s : List Int}, s.Sublist a → s.Sublist b → s.length ≤ lcs a b
  | [], b, s, h, _ => by rw [List.sublist_nil.mp h]; exact Nat.zero_le _
  | x :: a, [], s, _, h => by rw [List.sublist_nil.mp h]; exact Nat.zero_le _
  | x :: a, y :: b, s, h, h' => by
    rw [lcs_cons]
    by_cases e : x = y
    · rw [if_pos e]
      have t1 := h.tail
      have t2 := h'.tail
      have := lcs_most a b t1 t2
      rw [List.length_tail] at this
      omega
    · rw [if_neg e]
      rcases List.sublist_cons_iff.mp h with h1 | ⟨r, rfl, h1⟩
      · exact Nat.le_trans (lcs_most a (y :: b) h1 h') (Nat.le_max_right _ _)
      · rcases List.sublist_cons_iff.mp h' with h2 | ⟨r', e2, h2⟩
        · exact Nat.le_trans (lcs_most (x :: a) b h h2) (Nat.le_max_left _ _)
        · cases e2; exact absurd rfl e
termination_by a b => a.length + b.length
theorem lcs_le {a b c d : List Int} (h : ∀ s : List Int, s.Sublist a → s.Sublist b → ∃ t : List Int, t.Sublist c ∧ t.Sublist d ∧ t.length = s.length) : lcs a b ≤ lcs c d := by
  obtain ⟨s, h1, h2, h3⟩ := lcs_has a b
  obtain ⟨t, q1, q2, q3⟩ := h s h1 h2
  rw [← h3, ← q3]
  exact lcs_most _ _ q1 q2
theorem lcs_comm (a b : List Int) : lcs a b = lcs b a :=
  Nat.le_antisymm (lcs_le fun s h1 h2 => ⟨s, h2, h1, rfl⟩) (lcs_le fun s h1 h2 => ⟨s, h2, h1, rfl⟩)
theorem lcs_rev (a b : List Int) : lcs a.reverse b.reverse = lcs a b := by
  refine Nat.le_antisymm (lcs_le fun s h1 h2 => ⟨s.reverse, ?_, ?_, List.length_reverse⟩) (lcs_le fun s h1 h2 => ⟨s.reverse, h1.reverse, h2.reverse, List.length_reverse⟩)
  · have := h1.reverse; rwa [List.reverse_reverse] at this
  · have := h2.reverse; rwa [List.reverse_reverse] at this
theorem maxP_nat (i j : Nat) : maxP (i : Int) (j : Int) = ((Nat.max i j : Nat) : Int) := by
  have := maxP_spec (i : Int) (j : Int)
  have h1 := Nat.le_max_left i j
  have h2 := Nat.le_max_right i j
  have h3 : Nat.max i j = i ∨ Nat.max i j = j := by
    rcases Nat.le_total i j with h | h
    · exact .inr (Nat.max_eq_right h)
    · exact .inl (Nat.max_eq_left h)
  have h1' : i ≤ Nat.max i j := h1
  have h2' : j ≤ Nat.max i j := h2
  omega
theorem nmax_comm (p q : Nat) : Nat.max p q = Nat.max q p := Nat.max_comm p q
theorem getD_set_eq {xs : List Int} {i : Nat} {v : Int} (h : i < xs.length) : (xs.set i v).getD i 0 = v := by
  rw [List.getD_eq_getElem?_getD, List.getElem?_set]
  simp [h]
theorem getD_set_ne {xs : List Int} {i j : Nat} {v : Int} (h : i ≠ j) : (xs.set i v).getD j 0 = xs.getD j 0 := by
  rw [List.getD_eq_getElem?_getD, List.getD_eq_getElem?_getD, List.getElem?_set_ne h]
theorem drop_at {b : Wd} {k : Nat} (h : k < b.length) : b.drop k = b.getD k 0 :: b.drop (k + 1) := by
  rw [List.drop_eq_getElem_cons h, List.getD_eq_getElem?_getD, List.getElem?_eq_getElem h]
  rfl
/-! from the back -/
def RowB (a b : Wd) (row : List Int) : Prop := row.length = b.length + 1 ∧ ∀ k, k ≤ b.length → row.getD k 0 = (lcs a (b.drop k) : Nat)
theorem restK_ok {a b : Wd} {x : Int} {under : List Int} (h : RowB a b under) : ∀ {i : Nat}, i ≤ b.length → ∀ k, b.length - i ≤ k → k ≤ b.length → (restK x b under i).getD k 0 = (lcs (x :: a) (b.drop k) : Nat)
  | 0, _, k, h1, h2 => by
    have e : k = b.length := by omega
    subst e
    rw [List.drop_length, lcs_nil2]
    unfold restK
    rw [List.range_zero, List.foldl_nil, List.getD_eq_getElem?_getD, List.getElem?_replicate]
    split <;> rfl
  | i + 1, hi, k, h1, h2 => by
    have ih := restK_ok (x := x) h (i := i) (by omega)
    rw [restK_succ]
    unfold restIn
    have lk := restK_len x b under i
    by_cases e : b.length - 1 - i = k
    · subst e
      rw [getD_set_eq (by omega), drop_at (b := b) (k := b.length - 1 - i) (by omega), lcs_cons]
      by_cases c : b.getD (b.length - 1 - i) 0 = x
      · rw [if_pos c, if_pos c.symm, h.2 _ (by omega)]
        rfl
      · rw [if_neg c, if_neg (Ne.symm c), h.2 _ (by omega), ih _ (by omega) (by omega), maxP_nat, nmax_comm, ← drop_at (by omega)]
    · rw [getD_set_ne e]
      exact ih k (by omega) h2
theorem restRow_ok {a b : Wd} {x : Int} {under : List Int} (h : RowB a b under) : RowB (x :: a) b (restRow b under x) :=
  ⟨restRow_len _ _ _, fun k hk => restK_ok h (Nat.le_refl _) k (by omega) hk⟩
theorem restRows_ok (b : Wd) : ∀ a : Wd, RowB a b (restRows b a)
  | [] => by
    refine ⟨by simp [restRows], fun k hk => ?_⟩
    rw [lcs_nil]
    unfold restRows
    rw [List.reverse_nil, List.foldl_nil, List.getD_eq_getElem?_getD, List.getElem?_replicate]
    split <;> rfl
  | x :: a => by
    have := restRow_ok (x := x) (restRows_ok b a)
    unfold restRows at this ⊢
    rw [List.reverse_cons, List.foldl_append]
    exact this
theorem longest_ok (a b : Wd) : longestM a b = (lcs a b : Nat) := (restRows_ok b a).2 0 (Nat.zero_le _)
/-! from the front -/
def RowF (a b : Wd) (row : List Int) : Prop := row.length = b.length + 1 ∧ ∀ k, k ≤ b.length → row.getD k 0 = (lcs a (b.take k).reverse : Nat)
theorem take_at {b : Wd} {k : Nat} (h : k < b.length) : (b.take (k + 1)).reverse = b.getD k 0 :: (b.take k).reverse := by
  rw [List.take_add_one, List.getElem?_eq_getElem h, List.reverse_append, List.getD_eq_getElem?_getD, List.getElem?_eq_getElem h]
  rfl
theorem comK_ok {a b : Wd} {x : Int} {row : List Int} (h : RowF a b row) : ∀ {i : Nat}, i ≤ b.length → (comK x b row i).2 = row.getD i 0 ∧ (∀ k, k ≤ i → (comK x b row i).1.getD k 0 = (lcs (x :: a) (b.take k).reverse : Nat)) ∧ ∀ k, i < k → (comK x b row i).1.getD k 0 = row.getD k 0
  | 0, _ => by
    have h0 := h.2 0 (Nat.zero_le _)
    rw [List.take_zero, List.reverse_nil, lcs_nil2] at h0
    refine ⟨h0.symm, fun k hk => ?_, fun k _ => rfl⟩
    have e : k = 0 := by omega
    subst e
    rw [List.take_zero, List.reverse_nil, lcs_nil2]
    exact h0
  | i + 1, hi => by
    obtain ⟨p1, p2, p3⟩ := comK_ok (x := x) h (i := i) (by omega)
    have lk := comK_len x b row i
    have lr := h.1
    rw [comK_succ]
    unfold comIn
    refine ⟨p3 _ (by omega), fun k hk => ?_, fun k hk => ?_⟩
    · by_cases e : i + 1 = k
      · subst e
        show (((comK x b row i).1.set (i + 1) _).getD (i + 1) 0) = _
        rw [getD_set_eq (by omega), take_at (by omega), lcs_cons]
        by_cases c : b.getD i 0 = x
        · rw [if_pos c, if_pos c.symm, p1, h.2 _ (by omega)]
          rfl
        · rw [if_neg c, if_neg (Ne.symm c), p3 _ (by omega), p2 _ (Nat.le_refl _), h.2 _ hi, maxP_nat, nmax_comm, ← take_at (by omega)]
      · show (((comK x b row i).1.set (i + 1) _).getD k 0) = _
        rw [getD_set_ne e]
        exact p2 k (by omega)
    · show (((comK x b row i).1.set (i + 1) _).getD k 0) = _
      rw [getD_set_ne (by omega)]
      exact p3 k (by omega)
theorem comRow_ok {a b : Wd} {x : Int} {row : List Int} (h : RowF a b row) : RowF (x :: a) b (comRow b row x) :=
  ⟨(comRow_len _ _ _).trans h.1, fun k hk => (comK_ok h (Nat.le_refl _)).2.1 k hk⟩
theorem comRows_ok (b : Wd) : ∀ (a p : Wd) (row : List Int), RowF p b row → RowF (a.reverse ++ p) b (a.foldl (comRow b) row)
  | [], p, row, h => h
  | x :: a, p, row, h => by
    have := comRows_ok b a (x :: p) _ (comRow_ok (x := x) h)
    rw [List.reverse_cons, List.append_assoc]
    exact this
theorem common_ok (a b : Wd) : commonM a b = (lcs a b : Nat) := by
  have h0 : RowF [] b (List.replicate (b.length + 1) 0) := by
    refine ⟨by simp, fun k hk => ?_⟩
    rw [lcs_nil, List.getD_eq_getElem?_getD, List.getElem?_replicate]
    split <;> rfl
  have := (comRows_ok b a [] _ h0).2 b.length (Nat.le_refl _)
  rw [List.append_nil, List.take_length, lcs_rev] at this
  exact this
/-! the two counts of what is borne -/
theorem minP_ge {t x y : Int} : t ≤ minP x y ↔ t ≤ x ∧ t ≤ y := by
  have := minP_spec x y
  constructor
  · intro h; omega
  · rintro ⟨h1, h2⟩
    rcases this.2.2 with e | e <;> omega
theorem bge_fold {α : Type} {t : Int} {f : α → Int} : ∀ {l : List α} {acc : Int}, t ≤ l.foldl (fun acc one => minP acc (f one)) acc ↔ t ≤ acc ∧ ∀ one ∈ l, t ≤ f one
  | [], acc => by simp
  | x :: l, acc => by
    rw [List.foldl_cons, bge_fold, minP_ge, List.forall_mem_cons]
    constructor
    · rintro ⟨⟨a, b⟩, c⟩; exact ⟨a, b, c⟩
    · rintro ⟨a, b, c⟩; exact ⟨⟨a, b⟩, c⟩
theorem bge_up {t n : Int} {ws : List Wd} : ∀ {k : Nat}, k ≤ ws.length → (t ≤ borneUp n ws k ↔ t ≤ n ∧ ∀ (i j : Nat) (a b : Wd), i < j → j < k → ws[i]? = some a → ws[j]? = some b → t ≤ n - 1 - commonM b a)
  | 0, _ => by
    constructor
    · intro h; exact ⟨h, fun i j a b hij h => by omega⟩
    · intro h; exact h.1
  | k + 1, hk => by
    have ih := bge_up (t := t) (n := n) (ws := ws) (k := k) (by omega)
    have hb : ws[k]? = some (ws.getD k []) := by
      rw [List.getD_eq_getElem?_getD, List.getElem?_eq_getElem (by omega)]
      rfl
    show t ≤ borneIn n ws (ws.getD k []) k (borneUp n ws k) ↔ _
    unfold borneIn
    rw [bge_fold, ih]
    constructor
    · rintro ⟨⟨h0, h1⟩, h2⟩
      refine ⟨h0, fun i j a b hij hj ha hb' => ?_⟩
      by_cases e : j = k
      · subst e
        rw [hb] at hb'
        cases hb'
        exact h2 a (List.mem_of_getElem? (i := i) (by rw [List.getElem?_take]; rw [if_pos hij]; exact ha))
      · exact h1 i j a b hij (by omega) ha hb'
    · rintro ⟨h0, h⟩
      refine ⟨⟨h0, fun i j a b hij hj ha hb => h i j a b hij (by omega) ha hb⟩, fun one ho => ?_⟩
      obtain ⟨i, hi⟩ := List.mem_iff_getElem?.mp ho
      rw [List.getElem?_take] at hi
      by_cases e : i < k
      · rw [if_pos e] at hi
        exact h i k one _ e (by omega) hi hb
      · rw [if_neg e] at hi; cases hi
theorem law_ge {t n : Int} {ws : List Wd} : t ≤ lawBorneM n ws ↔ t ≤ n ∧ Prs (fun a b => t ≤ n - 1 - (lcs a b : Nat)) ws := by
  unfold lawBorneM
  rw [bge_up (Nat.le_refl _)]
  constructor
  · rintro ⟨h0, h⟩
    refine ⟨h0, fun i j a b hij ha hb => ?_⟩
    have := h i j a b hij (List.getElem?_eq_some_iff.mp hb).1 ha hb
    rwa [common_ok, lcs_comm] at this
  · rintro ⟨h0, h⟩
    refine ⟨h0, fun i j a b hij _ ha hb => ?_⟩
    rw [common_ok, lcs_comm]
    exact h i j a b hij ha hb
theorem mem_couples {ws : List Wd} {p : Wd × Wd} : ∀ {k : Nat}, k ≤ ws.length → (p ∈ couplesUp ws k ↔ ∃ i j, i < k ∧ i < j ∧ ws[i]? = some p.1 ∧ ws[j]? = some p.2)
  | 0, _ => by
    constructor
    · intro h; cases h
    · rintro ⟨i, j, h, _⟩; omega
  | k + 1, hk => by
    have ih := mem_couples (ws := ws) (p := p) (k := k) (by omega)
    have hb : ws[k]? = some (ws.getD k []) := by
      rw [List.getD_eq_getElem?_getD, List.getElem?_eq_getElem (by omega)]
      rfl
    unfold couplesUp
    rw [List.mem_append, ih, List.mem_map]
    constructor
    · rintro (⟨i, j, h1, h2, h3, h4⟩ | ⟨b, h1, rfl⟩)
      · exact ⟨i, j, by omega, h2, h3, h4⟩
      · obtain ⟨i, hi⟩ := List.mem_iff_getElem?.mp h1
        rw [List.getElem?_drop] at hi
        exact ⟨k, k + 1 + i, by omega, by omega, hb, hi⟩
    · rintro ⟨i, j, h1, h2, h3, h4⟩
      by_cases e : i = k
      · subst e
        rw [hb] at h3
        refine .inr ⟨p.2, List.mem_of_getElem? (i := j - (i + 1)) (by rw [List.getElem?_drop, show i + 1 + (j - (i + 1)) = j by omega]; exact h4), ?_⟩
        rw [Option.some.inj h3]
      · exact .inl ⟨i, j, by omega, h2, h3, h4⟩
theorem of_ge {t : Int} {n : Nat} {ws : List Wd} (h : Eq1 n ws) : t ≤ borneOfM (n : Nat) ws ↔ t ≤ n ∧ Prs (fun a b => t ≤ (n : Int) - 1 - (lcs a b : Nat)) ws := by
  have e : t ≤ borneOfM (n : Nat) ws ↔ t + 1 ≤ (couplesM ws).foldl (fun acc p => minP acc (p.1.length - longestM p.1 p.2)) ((n : Int) + 1) := by
    unfold borneOfM
    constructor <;> intro h <;> omega
  rw [e, bge_fold]
  constructor
  · rintro ⟨h0, g⟩
    refine ⟨by omega, fun i j a b hij ha hb => ?_⟩
    have := g (a, b) ((mem_couples (Nat.le_refl _)).mpr ⟨i, j, (List.getElem?_eq_some_iff.mp ha).1, hij, ha, hb⟩)
    rw [longest_ok] at this
    have l := h a (List.mem_of_getElem? ha)
    have this : t + 1 ≤ (a.length : Int) - (lcs a b : Nat) := this
    omega
  · rintro ⟨h0, g⟩
    refine ⟨by omega, fun p hp => ?_⟩
    obtain ⟨i, j, _, hij, ha, hb⟩ := (mem_couples (Nat.le_refl _)).mp hp
    have := g i j _ _ hij ha hb
    rw [longest_ok]
    have l := h p.1 (List.mem_of_getElem? ha)
    omega
theorem int_eq {x y : Int} (h : ∀ t, t ≤ x ↔ t ≤ y) : x = y := Int.le_antisymm ((h x).mp (Int.le_refl _)) ((h y).mpr (Int.le_refl _))
theorem bo_law {n : Nat} {ws : List Wd} (h : Eq1 n ws) : borneOfM (n : Nat) ws = lawBorneM (n : Nat) ws := int_eq fun t => (of_ge h).trans law_ge.symm
theorem spell_sub : ∀ {sh l m : List Int}, sh.length = l.length → Le l m → (spell sh l).Sublist (spell sh m)
  | [], [], [], _, _ => List.Sublist.refl _
  | s :: sh, x :: l, y :: m, h, h' => by
    rw [spell_cons, spell_cons]
    have h1 := h'.1
    exact ((List.replicate_sublist_replicate s).mpr (by omega)).append (spell_sub (by simpa using h) h'.2)
  | [], _ :: _, _, h, _ => by cases h
  | _ :: _, [], _, h, _ => by cases h
  | _, [], _ :: _, _, h => h.elim
  | _, _ :: _, [], _, h => h.elim
theorem Two.lcs {a b : Wd} (h : Two a b) : (a.length : Int) ≤ DD a b + (lcs a b : Nat) := by
  have W := (ws_of a).dn (min_le1 h.ll) h.mnp
  have s1 : (mnW a b).Sublist a := by
    have := spell_sub W.len (min_le1 h.ll)
    rwa [spell_shape] at this
  have s2 : (mnW a b).Sublist b := by
    have := spell_sub W.len (min_le2 h.ll)
    rw [h.sh, spell_shape] at this
    unfold mnW
    rw [h.sh]
    exact this
  have := lcs_most _ _ s1 s2
  have l : ((mnW a b).length : Int) = _ := spell_sum W.len fun n hn => by have := W.pos n hn; omega
  have := h.mn
  omega
theorem bo_le {n : Nat} {ws : List Wd} (h : Eq1 n ws) : borneOfM (n : Nat) ws ≤ runsBorneM (n : Nat) ws := by
  obtain ⟨h0, g⟩ := (of_ge h).mp (Int.le_refl _)
  refine (rb_ge h h0).mpr fun i j a b hij ha hb T => ?_
  have h1 := g i j a b hij ha hb
  have h2 := T.lcs
  have h3 := h a (List.mem_of_getElem? ha)
  omega
end MR
end

section
set_option Elab.async false
set_option linter.all false
/-! sizes -/
namespace MR
open LP
theorem flat_sz {α β : Type} {f : α → List β} {c : Nat} : ∀ {l : List α}, (∀ x ∈ l, (f x).length ≤ c) → (l.flatMap f).length ≤ l.length * c
  | [], _ => by simp
  | x :: l, h => by
    have h1 := h x (List.mem_cons_self ..)
    have h2 := flat_sz (l := l) fun y hy => h y (List.mem_cons_of_mem _ hy)
    rw [List.flatMap_cons, List.length_append, List.length_cons, Nat.add_mul]
    omega
theorem swollenW_sz (w : Wd) : (swollenW w).length ≤ w.length := by
  have h := sortU_len (swellM w)
  have e : (swellM w).length = w.length := by unfold swellM; rw [List.length_map, List.length_range]
  unfold swollenW
  omega
theorem shrunkW_sz (w : Wd) : (shrunkW w).length ≤ w.length := by
  have h := sortU_len (shrinkM w)
  have e : (shrinkM w).length ≤ w.length - 1 := by
    unfold shrinkM
    rw [List.length_map]
    have := List.length_filter_le (fun j => decide (w.getD j 0 = w.getD (j + 1) 0)) (List.range (w.length - 1))
    rwa [List.length_range] at this
  unfold shrunkW
  omega
def bs : Nat → Nat
  | 0 => 1
  | k + 1 => bs k * (7 + k)
def bsum : Nat → Nat
  | 0 => 1
  | k + 1 => bsum k + bs (k + 1)
theorem lev_sk_le {w x : Wd} {k : Nat} (h : x ∈ levM shrunkW w k) : x.length ≤ w.length := by
  have := lev_sk_len h
  omega
theorem bs_of {f : Wd → List Wd} {w : Wd} (h : ∀ k, ∀ x ∈ levM f w k, (f x).length ≤ 7 + k) : ∀ k, (levM f w k).length ≤ bs k ∧ ((levM f w k).flatMap f).length ≤ bs (k + 1)
  | 0 => ⟨Nat.le_refl _, by
    have := flat_sz (h 0)
    have e : (levM f w 0).length = 1 := rfl
    rw [e] at this
    exact this⟩
  | k + 1 => by
    have ih := bs_of h k
    have h1 : (levM f w (k + 1)).length ≤ bs (k + 1) := Nat.le_trans (sortU_len _) ih.2
    refine ⟨h1, ?_⟩
    have := flat_sz (h (k + 1))
    exact Nat.le_trans this (Nat.mul_le_mul_right _ h1)
theorem bs_sw {w : Wd} (h : w.length ≤ 7) : ∀ k, (levM swollenW w k).length ≤ bs k ∧ ((levM swollenW w k).flatMap swollenW).length ≤ bs (k + 1) :=
  bs_of fun k x hx => by
    have h1 := swollenW_sz x
    have h2 := lev_sw_len hx
    omega
theorem bs_sk {w : Wd} (h : w.length ≤ 7) : ∀ k, (levM shrunkW w k).length ≤ bs k ∧ ((levM shrunkW w k).flatMap shrunkW).length ≤ bs (k + 1) :=
  bs_of fun k x hx => by
    have h1 := shrunkW_sz x
    have h2 := lev_sk_le hx
    omega
theorem bsum_of {f : Wd → List Wd} {w : Wd} (h : ∀ k, (levM f w k).length ≤ bs k) : ∀ m, ((List.range (m + 1)).flatMap (levM f w)).length ≤ bsum m
  | 0 => Nat.le_refl _
  | m + 1 => by
    have ih := bsum_of h m
    have := h (m + 1)
    rw [List.range_succ, List.flatMap_append, List.length_append, List.flatMap_cons, List.flatMap_nil, List.append_nil]
    show _ ≤ bsum m + bs (m + 1)
    omega
theorem bs_le {k : Nat} (h : k ≤ 3) : bs k ≤ 504 := by
  have : ∀ k : Fin 4, bs k.1 ≤ 504 := by decide
  exact this ⟨k, by omega⟩
theorem bsum_le {k : Nat} (h : k ≤ 3) : bsum k ≤ 568 := by
  have : ∀ k : Fin 4, bsum k.1 ≤ 568 := by decide
  exact this ⟨k, by omega⟩
theorem new_ne {ws : List Wd} (h : ∀ x ∈ ws, 1 ≤ x.length) : NEW ws := fun h0 => by
  have := h [] h0
  simp at this
theorem levOk_sw {w : Wd} {m : Nat} (h : w.length ≤ 7) (hm : m ≤ 3) : LevOk swollenW w m := fun k hk => by
  refine ⟨fun x hx => ?_, ?_, ?_⟩
  · have := lev_sw_len hx; omega
  · have h1 := (bs_sw h k).2
    have h2 := bs_le (k := k + 1) (by omega)
    omega
  · refine new_ne fun x hx => ?_
    obtain ⟨y, _, hy⟩ := List.mem_flatMap.mp hx
    have := swollenW_len hy
    omega
theorem levOk_sk {w : Wd} {m : Nat} (h : w.length ≤ 7) (hm : m ≤ 3) : LevOk shrunkW w m := fun k hk => by
  refine ⟨fun x hx => ?_, ?_, ?_⟩
  · have := lev_sk_le hx; omega
  · have h1 := (bs_sk h k).2
    have h2 := bs_le (k := k + 1) (by omega)
    omega
  · refine new_ne fun x hx => ?_
    obtain ⟨y, _, hy⟩ := List.mem_flatMap.mp hx
    exact (shrunkW_len hy).2
/-! the ball -/
def ball : List Int → Nat → List (List Int)
  | [], _ => [[]]
  | l :: ls, k => (ball ls k).map (l :: ·) ++ (List.range k).flatMap fun j => (ball ls (k - (j + 1))).map ((l + (j + 1 : Nat)) :: ·) ++ (ball ls (k - (j + 1))).map ((l - (j + 1 : Nat)) :: ·)
def cnt : Nat → Nat → Nat
  | 0, _ => 1
  | r + 1, k => cnt r k + ((List.range k).map fun j => cnt r (k - (j + 1)) + cnt r (k - (j + 1))).sum
theorem ball_len : ∀ (ls : List Int) (k : Nat), (ball ls k).length = cnt ls.length k
  | [], k => rfl
  | l :: ls, k => by
    unfold ball
    rw [List.length_append, List.length_map, ball_len, List.length_flatMap, List.length_cons]
    show _ = cnt ls.length k + _
    congr 2
    refine List.map_congr_left fun j _ => ?_
    rw [List.length_append, List.length_map, List.length_map, ball_len]
theorem mem_ball : ∀ {ls m : List Int} {k : Nat}, ls.length = m.length → absS ls m ≤ k → m ∈ ball ls k
  | [], [], _, _, _ => List.mem_singleton.mpr rfl
  | x :: ls, y :: m, k, h, ha => by
    rw [absS_cons] at ha
    have l : ls.length = m.length := by simpa using h
    have hp : 0 ≤ absS ls m := by
      rw [abs_pos l]
      have := pos_nonneg l
      have := pos_nonneg l.symm
      omega
    have hs := absI_spec (x - y)
    unfold ball
    by_cases e : x = y
    · subst e
      exact List.mem_append_left _ (List.mem_map.mpr ⟨m, mem_ball l (by omega), rfl⟩)
    · refine List.mem_append_right _ (List.mem_flatMap.mpr ⟨(absI (x - y)).toNat - 1, List.mem_range.mpr (by omega), ?_⟩)
      have hb : m ∈ ball ls (k - ((absI (x - y)).toNat - 1 + 1)) := mem_ball l (by omega)
      by_cases c : x < y
      · exact List.mem_append_left _ (List.mem_map.mpr ⟨m, hb, by rw [show x + (((absI (x - y)).toNat - 1 + 1 : Nat) : Int) = y by omega]⟩)
      · exact List.mem_append_right _ (List.mem_map.mpr ⟨m, hb, by rw [show x - (((absI (x - y)).toNat - 1 + 1 : Nat) : Int) = y by omega]⟩)
  | [], _ :: _, _, h, _ => by cases h
  | _ :: _, [], _, h, _ => by cases h
theorem cnt_le {r k : Nat} (h : r ≤ 7) (hk : k ≤ 3) : cnt r k ≤ 575 ∧ (k ≤ 2 → cnt r k ≤ 113) := by
  have : ∀ r : Fin 8, ∀ k : Fin 4, cnt r.1 k.1 ≤ 575 ∧ (k.1 ≤ 2 → cnt r.1 k.1 ≤ 113) := by decide +kernel
  exact this ⟨r, by omega⟩ ⟨k, by omega⟩
theorem mix_sz {w : Wd} (h : w.length ≤ 7) {k : Nat} (hk : k ≤ 3) : (mixM w k).length ≤ 575 ∧ (k ≤ 2 → (mixM w k).length ≤ 113) := by
  have h1 : (mixM w k).length ≤ ((ball (lens w) k).map (spell (shape w))).length := nodup_len_le (strict_mix w k).nodup fun x hx => by
    obtain ⟨m, W, ha, rfl⟩ := mix_in' hx
    exact List.mem_map.mpr ⟨m, mem_ball ((lens_len w).trans W.len) ha, rfl⟩
  rw [List.length_map, ball_len, lens_len] at h1
  have h2 := cnt_le (r := (shape w).length) (k := k) (by have := shape_len w; omega) hk
  exact ⟨by omega, fun c => by have := h2.2 c; omega⟩
theorem mix_len {w : Wd} : ∀ {k : Nat} {x : Wd}, x ∈ mixM w k → x.length ≤ w.length + k ∧ (1 ≤ w.length → 1 ≤ x.length)
  | 0, x, h => by rw [List.mem_singleton.mp h]; exact ⟨Nat.le_refl _, id⟩
  | k + 1, x, h => by
    rcases mem_mix.mp h with h | ⟨y, hy, h | h⟩
    · have := mix_len h
      exact ⟨by omega, this.2⟩
    · have := mix_len hy
      have := swollenW_len h
      exact ⟨by omega, fun _ => by omega⟩
    · have := mix_len hy
      have := shrunkW_len h
      exact ⟨by omega, fun _ => by omega⟩
theorem mixOk {w : Wd} {m : Nat} (h : w.length ≤ 7) (hm : m ≤ 3) (hn : m ≤ w.length) : MixOk w m := fun k hk => by
  refine ⟨fun x hx => ?_, ?_, ?_⟩
  · have := mix_len hx; omega
  · have h1 := (mix_sz h (k := k) (by omega)).2 (by omega)
    have h2 : ((mixM w k).flatMap fun x => swollenW x ++ shrunkW x).length ≤ (mixM w k).length * 18 := flat_sz fun x hx => by
      have := (mix_len hx).1
      have := swollenW_sz x
      have := shrunkW_sz x
      rw [List.length_append]
      omega
    unfold mixStep
    rw [List.length_append]
    omega
  · refine new_ne fun x hx => ?_
    have : x ∈ mixM w (k + 1) := mem_sortU.mpr hx
    exact (mix_len this).2 (by omega)
theorem unlOk {g : Wd → List Wd} {n : Nat} {ws : List Wd} (h : Eq1 n ws) (few : ws.length ≤ 5) (sz : ∀ w ∈ ws, (g w).length ≤ 800) (ne : (∀ w ∈ ws, ∀ x ∈ g w, x.length = n) ∨ ∀ w ∈ ws, ∀ x ∈ g w, 1 ≤ x.length) : UnlOk g ws := by
  refine ⟨fun w hw => ⟨?_, by have := sz w hw; omega⟩, ?_⟩
  · rcases ne with ne | ne
    · exact new_len (ne w hw)
    · exact new_ne (ne w hw)
  · have := flat_sz (l := ws) (f := fun w => sortU (g w)) (c := 800) fun w hw => Nat.le_trans (sortU_len _) (sz w hw)
    have : ws.length * 800 ≤ 5 * 800 := Nat.mul_le_mul_right _ few
    omega
theorem three_ok {n : Nat} {ws : List Wd} (h : Eq1 n ws) (h7 : n ≤ 7) (few : ws.length ≤ 5) {m : Nat} (hm : m ≤ 3) (hn : m ≤ n) : ThreeOk ws m ∧ FCok ws m := by
  have l7 : ∀ w ∈ ws, w.length ≤ 7 := fun w hw => by rw [h w hw]; exact h7
  have s1 : ∀ w ∈ ws, (swlM m w).length ≤ 568 := fun w hw => Nat.le_trans (bsum_of (fun k => (bs_sw (l7 w hw) k).1) m) (bsum_le hm)
  have s2 : ∀ w ∈ ws, (shrM m w).length ≤ 568 := fun w hw => Nat.le_trans (bsum_of (fun k => (bs_sk (l7 w hw) k).1) m) (bsum_le hm)
  have s3 : ∀ w ∈ ws, (mixM w m).length ≤ 575 := fun w hw => (mix_sz (l7 w hw) hm).1
  refine ⟨⟨fun w hw => ⟨levOk_sw (l7 w hw) hm, levOk_sk (l7 w hw) hm, mixOk (l7 w hw) hm (by rw [h w hw]; exact hn), ?_, ?_⟩, ?_, ?_, ?_⟩, fun w hw => ⟨levOk_sw (l7 w hw) hm, levOk_sk (l7 w hw) hm, fun d hd => ⟨?_, ?_⟩⟩⟩
  · have := s1 w hw; omega
  · have := s2 w hw; omega
  · refine unlOk h few (fun w hw => by have := s1 w hw; omega) ?_
    by_cases c : n = 0
    · refine .inl fun w hw x hx => ?_
      obtain ⟨k, hk, hx⟩ := mem_swlM.mp hx
      have := lev_sw_len hx
      have := h w hw
      omega
    · refine .inr fun w hw x hx => ?_
      obtain ⟨k, hk, hx⟩ := mem_swlM.mp hx
      have := lev_sw_len hx
      have := h w hw
      omega
  · refine unlOk h few (fun w hw => by have := s2 w hw; omega) ?_
    by_cases c : n = 0
    · refine .inl fun w hw x hx => ?_
      obtain ⟨k, hk, hx⟩ := mem_shrM.mp hx
      have := lev_sk_len hx
      have := h w hw
      omega
    · refine .inr fun w hw x hx => ?_
      obtain ⟨k, hk, hx⟩ := mem_shrM.mp hx
      cases k with
      | zero =>
        have e : x = w := List.mem_singleton.mp hx
        rw [e, h w hw]
        omega
      | succ k =>
        obtain ⟨y, _, hy⟩ := mem_lev.mp hx
        exact (shrunkW_len hy).2
  · refine unlOk h few (fun w hw => by have := s3 w hw; omega) ?_
    by_cases c : n = 0
    · refine .inl fun w hw x hx => ?_
      have e : m = 0 := by omega
      subst e
      rw [List.mem_singleton.mp hx, h w hw]
    · refine .inr fun w hw x hx => ?_
      exact (mix_len hx).2 (by rw [h w hw]; omega)
  · have h1 := (bs_sw (l7 w hw) d).1
    have h2 := bs_le (k := d) (by omega)
    omega
  · have h1 := (bs_sk (l7 w hw) d).1
    have h2 := bs_le (k := d) (by omega)
    omega
theorem bm {q : Int} {n : Nat} {ws : List Wd} (B : BW q n ws) (h7 : n ≤ 7) (few : ws.length ≤ 5) : BM n ws := by
  have h : Eq1 n ws := fun x hx => (B.wd x hx).1
  refine ⟨rb_law h, bo_law h, bo_le h, fun m hm hn => ?_, fun a ha b hb => ?_, fun a ha b hb s hs => st_law (h a ha) (h b hb) hs, rb_far h⟩
  · obtain ⟨t1, t2⟩ := three_ok h h7 few hm hn
    exact ⟨t1, t2, fun i j a b _ ha hb => plaw m (h.two ha hb), unl_sw h hn, unl_sk h hn, unl_mx h hn⟩
  · have la := h a ha
    have lb := h b hb
    have sl : (shape a).length ≤ 7 := by have := shape_len a; omega
    have le : ∀ {f : Int → Int → Int}, (∀ x y, f x y = x ∨ f x y = y) → (spell (shape a) (zipM f (lens a) (lens b))).length ≤ 1000 := by
      intro f hf
      have := spell_len (shape a) (zipM f (lens a) (lens b)) 7 fun k hk => by
        obtain ⟨x, y, hx, hy, rfl⟩ := zipM_mem hk
        have h1 := lens_le x hx
        have h2 := lens_le y hy
        rcases hf x y with e | e <;> rw [e] <;> omega
      have : (shape a).length * 7 ≤ 7 * 7 := Nat.mul_le_mul_right _ sl
      omega
    exact ⟨le maxP_or, le minP_or⟩
end MR
end

section
set_option Elab.async false
set_option linter.all false
/-! a long pair; all the mathematics -/
namespace MR
open LP
theorem alt2_of : ∀ {l : List Int}, Alt l → Alt2 l
  | [], _ => trivial
  | [_], _ => trivial
  | x :: y :: l, h => ⟨h 0 x y rfl rfl, alt2_of fun i a b ha hb => h (i + 1) a b ha hb⟩
theorem two_at {u v a b : Wd} {i j : Nat} (h : i < j) (ha : [u, v][i]? = some a) (hb : [u, v][j]? = some b) : i = 0 ∧ j = 1 ∧ a = u ∧ b = v := by
  match i, j, h, ha, hb with
  | 0, 1, _, ha, hb => exact ⟨rfl, rfl, (Option.some.inj ha).symm, (Option.some.inj hb).symm⟩
  | _, j + 2, _, _, hb => cases hb
  | i + 1, 1, h, _, _ => omega
structure PairIs (n : Nat) (D : Int) (mx mn : Wd) (ws : List Wd) : Prop where
  rb : runsBorneM (n : Nat) ws = D - 1
  no : ∀ i j, NoStep ws (D - 1) i j
  yes : ¬ ∀ i j, NoStep ws D i j
  all : ∀ i j a b s, i < j → ws[i]? = some a → ws[j]? = some b → stepsM a b = some s → i = 0 ∧ j = 1 ∧ s / 2 = D ∧ mxW a b = mx ∧ mnW a b = mn
theorem pair_is {u v : Wd} (n : Nat) (T : Two u v) : PairIs n (DD u v) (mxW u v) (mnW u v) [u, v] := by
  refine ⟨?_, ?_, ?_, ?_⟩
  · show orN n (minO none (halfO (stepsM u v))) = _
    rw [T.steps]
    show 2 * DD u v / 2 - 1 = _
    omega
  · intro i j a b hij ha hb s hs hle
    obtain ⟨rfl, rfl, rfl, rfl⟩ := two_at hij ha hb
    rw [T.steps] at hs
    cases hs
    omega
  · intro h
    refine h 0 1 u v (by omega) rfl rfl _ T.steps (by omega)
  · intro i j a b s hij ha hb hs
    obtain ⟨rfl, rfl, rfl, rfl⟩ := two_at hij ha hb
    rw [T.steps] at hs
    cases hs
    exact ⟨rfl, rfl, by omega, rfl, rfl⟩
theorem sortU_two {a b : Wd} (h : a ≠ b) : sortU [a, b] = [a, b] ∨ sortU [a, b] = [b, a] := by
  show insU a [b] = _ ∨ insU a [b] = _
  unfold insU
  rw [if_neg h]
  by_cases e : ltW a b = true
  · rw [if_pos e]; exact .inl rfl
  · rw [if_neg e]; exact .inr rfl
theorem lm {q : Int} {m : Nat} {sh he th : List Int} {len : Nat} (C : LC q m sh he th len) : LM sh he th len := by
  have A : WS sh he := ⟨C.shl.trans C.le1.len.symm, alt2_of C.alt, C.le1.pos⟩
  have B : WS sh th := ⟨C.shl.trans C.le2.len.symm, alt2_of C.alt, C.le2.pos⟩
  have ll : he.length = th.length := C.le1.len.trans C.le2.len.symm
  have ss : he.sum = th.sum := C.le1.sum.trans C.le2.sum.symm
  have la : (spell sh he).length = len := by
    have := spell_sum A.len fun n hn => by have := A.pos n hn; omega
    have := C.le1.sum
    omega
  have lb : (spell sh th).length = len := by
    have := spell_sum B.len fun n hn => by have := B.pos n hn; omega
    have := C.le2.sum
    omega
  have T : Two (spell sh he) (spell sh th) := ⟨by rw [A.shape, B.shape], by rw [la, lb]⟩
  have eD : DD (spell sh he) (spell sh th) = posS he th := by unfold DD; rw [A.lens, B.lens]
  have emx : mxW (spell sh he) (spell sh th) = spell sh (zipM maxP he th) := by unfold mxW; rw [A.lens, B.lens, A.shape]
  have emn : mnW (spell sh he) (spell sh th) = spell sh (zipM minP he th) := by unfold mnW; rw [A.lens, B.lens, A.shape]
  have T' : Two (spell sh th) (spell sh he) := ⟨T.sh.symm, T.ln.symm⟩
  have eD' : DD (spell sh th) (spell sh he) = posS he th := by unfold DD; rw [A.lens, B.lens, pos_comm ll ss]
  have emx' : mxW (spell sh th) (spell sh he) = spell sh (zipM maxP he th) := by unfold mxW; rw [A.lens, B.lens, B.shape, max_comm]
  have emn' : mnW (spell sh th) (spell sh he) = spell sh (zipM minP he th) := by unfold mnW; rw [A.lens, B.lens, B.shape, min_comm]
  constructor
  · intro z
    have e : he = th := le_eq (pos_zero ll z) (by rw [ss]; exact Int.le_refl _)
    subst e
    have es : sortU [spell sh he, spell sh he] = [spell sh he] := by
      show insU (spell sh he) [spell sh he] = _
      unfold insU
      rw [if_pos rfl]
    rw [es]
    refine ⟨rfl, fun i j a b hij ha hb => ?_⟩
    have h2 := (List.getElem?_eq_some_iff.mp hb).1
    simp only [List.length_cons, List.length_nil] at h2
    omega
  · intro nz
    have n0 := T.nn
    have nl := T.le
    have ne : spell sh he ≠ spell sh th := fun e => by
      have e2 : he = th := by rw [← A.lens, e, B.lens]
      subst e2
      have h1 := abs_two (xs := he) (ys := he) rfl rfl
      rw [abs_self] at h1
      omega
    have Q : PairIs len (posS he th) (spell sh (zipM maxP he th)) (spell sh (zipM minP he th)) (sortU [spell sh he, spell sh th]) := by
      rcases sortU_two ne with e | e
      · have := pair_is len T
        rw [e]
        rwa [eD, emx, emn] at this
      · have := pair_is len T'
        rw [e]
        rwa [eD', emx', emn'] at this
    exact ⟨ne, by omega, by omega, Q.rb, Q.no, Q.yes, Q.all⟩
end MR
theorem LP.math : LP.MATH := ⟨fun q n ws B h7 few => MR.bm B h7 few, fun q m sh he th len C => MR.lm C⟩
end

section
open PySem PySem.W PyProof.Rows
set_option Elab.async false
set_option linter.all false
set_option maxRecDepth 100000 in
set_option maxHeartbeats 0 in
theorem PySem.Challenge.cw_lostplaces_k61_whole_doubled_swallowed_m_holds : PySem.Challenge.rw_lostplaces_k61_whole_doubled_swallowed_m.Holds := by
  w_on; o_law; k_head; (case hw => w_witness2)
  k_fill
  refine L2.walk_of (l := PySem.Challenge.rw_lostplaces_k61_whole_doubled_swallowed_m) (n := 63) (k := 8) (x := "_law_script") (CX := fun _ => C8.CX0) (sp := fun w => LP.spLaw _) rfl (by decide) rfl ⟨rfl, by decide, by decide⟩ (fun w h Y => PySem.W.kIn_of Y) ?F (fun _ _ a ns hl _ hS => ⟨a, ns, rfl, hS, hl, fun _ => rfl⟩) (fun _ _ _ _ _ h => h)
  case F =>
    intro w mg fa h KX G hmg
    refine' LP.all_mk LP.math KX G hmg ⟨?d0, ?d1, ?d2, ?d3, ?d4, ?d5, ?d6, ?d7, ?d8, ?d9, ?d10, ?d11, ?d12, ?d13, ?d14, ?d15, ?d16, ?d17, ?d18, ?d19, ?d20, ?d21, ?d22, ?d23, ?d24, ?d25, ?d26, ?d27, ?d28, ?d29, ?d30, ?d31, ?d32, ?d33, ?d34, ?d35, ?d36, ?d37, ?d38, ?d39, ?d40, ?d41, ?d42, ?d43, ?d44, ?d45, PySem.W.mg_none_of KX G ?n0, PySem.W.mg_none_of KX G ?n1, PySem.W.mg_none_of KX G ?n2, PySem.W.mg_none_of KX G ?n3, PySem.W.mg_none_of KX G ?n4, PySem.W.mg_none_of KX G ?n5, PySem.W.mg_none_of KX G ?n6, PySem.W.mg_none_of KX G ?n7, PySem.W.mg_none_of KX G ?n8, PySem.W.mg_none_of KX G ?n9, PySem.W.mg_none_of KX G ?n10, PySem.W.mg_none_of KX G ?n11, PySem.W.mg_none_of KX G ?n12, PySem.W.mg_none_of KX G ?n13, PySem.W.mg_none_of KX G ?n14, PySem.W.mg_none_of KX G ?n15, PySem.W.mg_none_of KX G ?n16⟩ ?dw ?dc ?a0 ?l0 ?c0 ?k0 ?gl ?gm ?gP ?gB ?gW ?pgP ?hdP ?poP ?saP ?mkP ?kcP ?haP ?hmP ?pgB ?hdB ?poB ?saB ?mkB ?kcB ?haB ?hmB ?hn ?htk ?a1 ?i1 ?l1 ?c1 ?a2 ?i2 ?l2 ?c2 ?a3 ?i3 ?l3 ?c3 ?nPone ?nPother ?nPapart ?nPlonger ?nPshorter ?nBletters ?nBlength ?nBwords ?nBsize
    (case d0 => refine' LP.db_mk KX G (fun _ _ _ _ _ _ us hl => match us, hl with | [_, _, _], _ => rfl) ?a ?l ?c ?k; (case a => k_is); (case l => k_is); (case c => k_is); (case k => k_is))
    (case d1 => refine' LP.db_mk KX G (fun _ _ _ _ _ _ us hl => match us, hl with | [_], _ => rfl) ?a ?l ?c ?k; (case a => k_is); (case l => k_is); (case c => k_is); (case k => k_is))
    (case d2 => refine' LP.db_mk KX G (fun _ _ _ _ _ _ us hl => match us, hl with | [_], _ => rfl) ?a ?l ?c ?k; (case a => k_is); (case l => k_is); (case c => k_is); (case k => k_is))
    (case d3 => refine' LP.db_mk KX G (fun _ _ _ _ _ _ us hl => match us, hl with | [_], _ => rfl) ?a ?l ?c ?k; (case a => k_is); (case l => k_is); (case c => k_is); (case k => k_is))
    (case d4 => refine' LP.db_mk KX G (fun _ _ _ _ _ _ us hl => match us, hl with | [_, _], _ => rfl) ?a ?l ?c ?k; (case a => k_is); (case l => k_is); (case c => k_is); (case k => k_is))
    (case d5 => refine' LP.db_mk KX G (fun _ _ _ _ _ _ us hl => match us, hl with | [_, _], _ => rfl) ?a ?l ?c ?k; (case a => k_is); (case l => k_is); (case c => k_is); (case k => k_is))
    (case d6 => refine' LP.db_mk KX G (fun _ _ _ _ _ _ us hl => match us, hl with | [_], _ => rfl) ?a ?l ?c ?k; (case a => k_is); (case l => k_is); (case c => k_is); (case k => k_is))
    (case d7 => refine' LP.db_mk KX G (fun _ _ _ _ _ _ us hl => match us, hl with | [_, _], _ => rfl) ?a ?l ?c ?k; (case a => k_is); (case l => k_is); (case c => k_is); (case k => k_is))
    (case d8 => refine' LP.db_mk KX G (fun _ _ _ _ _ _ us hl => match us, hl with | [_, _], _ => rfl) ?a ?l ?c ?k; (case a => k_is); (case l => k_is); (case c => k_is); (case k => k_is))
    (case d9 => refine' LP.db_mk KX G (fun _ _ _ _ _ _ us hl => match us, hl with | [_, _, _], _ => rfl) ?a ?l ?c ?k; (case a => k_is); (case l => k_is); (case c => k_is); (case k => k_is))
    (case d10 => refine' LP.db_mk KX G (fun _ _ _ _ _ _ us hl => match us, hl with | [_, _, _], _ => rfl) ?a ?l ?c ?k; (case a => k_is); (case l => k_is); (case c => k_is); (case k => k_is))
    (case d11 => refine' LP.db_mk KX G (fun _ _ _ _ _ _ us hl => match us, hl with | [_, _], _ => rfl) ?a ?l ?c ?k; (case a => k_is); (case l => k_is); (case c => k_is); (case k => k_is))
    (case d12 => refine' LP.db_mk KX G (fun _ _ _ _ _ _ us hl => match us, hl with | [_, _], _ => rfl) ?a ?l ?c ?k; (case a => k_is); (case l => k_is); (case c => k_is); (case k => k_is))
    (case d13 => refine' LP.db_mk KX G (fun _ _ _ _ _ _ us hl => match us, hl with | [_, _], _ => rfl) ?a ?l ?c ?k; (case a => k_is); (case l => k_is); (case c => k_is); (case k => k_is))
    (case d14 => refine' LP.db_mk KX G (fun _ _ _ _ _ _ us hl => match us, hl with | [_], _ => rfl) ?a ?l ?c ?k; (case a => k_is); (case l => k_is); (case c => k_is); (case k => k_is))
    (case d15 => refine' LP.db_mk KX G (fun _ _ _ _ _ _ us hl => match us, hl with | [_], _ => rfl) ?a ?l ?c ?k; (case a => k_is); (case l => k_is); (case c => k_is); (case k => k_is))
    (case d16 => refine' LP.db_mk KX G (fun _ _ _ _ _ _ us hl => match us, hl with | [_], _ => rfl) ?a ?l ?c ?k; (case a => k_is); (case l => k_is); (case c => k_is); (case k => k_is))
    (case d17 => refine' LP.db_mk KX G (fun _ _ _ _ _ _ us hl => match us, hl with | [_, _], _ => rfl) ?a ?l ?c ?k; (case a => k_is); (case l => k_is); (case c => k_is); (case k => k_is))
    (case d18 => refine' LP.db_mk KX G (fun _ _ _ _ _ _ us hl => match us, hl with | [_, _], _ => rfl) ?a ?l ?c ?k; (case a => k_is); (case l => k_is); (case c => k_is); (case k => k_is))
    (case d19 => refine' LP.db_mk KX G (fun _ _ _ _ _ _ us hl => match us, hl with | [_, _, _], _ => rfl) ?a ?l ?c ?k; (case a => k_is); (case l => k_is); (case c => k_is); (case k => k_is))
    (case d20 => refine' LP.db_mk KX G (fun _ _ _ _ _ _ us hl => match us, hl with | [_, _, _], _ => rfl) ?a ?l ?c ?k; (case a => k_is); (case l => k_is); (case c => k_is); (case k => k_is))
    (case d21 => refine' LP.db_mk KX G (fun _ _ _ _ _ _ us hl => match us, hl with | [_], _ => rfl) ?a ?l ?c ?k; (case a => k_is); (case l => k_is); (case c => k_is); (case k => k_is))
    (case d22 => refine' LP.db_mk KX G (fun _ _ _ _ _ _ us hl => match us, hl with | [_, _], _ => rfl) ?a ?l ?c ?k; (case a => k_is); (case l => k_is); (case c => k_is); (case k => k_is))
    (case d23 => refine' LP.db_mk KX G (fun _ _ _ _ _ _ us hl => match us, hl with | [_, _], _ => rfl) ?a ?l ?c ?k; (case a => k_is); (case l => k_is); (case c => k_is); (case k => k_is))
    (case d24 => refine' LP.db_mk KX G (fun _ _ _ _ _ _ us hl => match us, hl with | [_, _], _ => rfl) ?a ?l ?c ?k; (case a => k_is); (case l => k_is); (case c => k_is); (case k => k_is))
    (case d25 => refine' LP.db_mk KX G (fun _ _ _ _ _ _ us hl => match us, hl with | [_, _], _ => rfl) ?a ?l ?c ?k; (case a => k_is); (case l => k_is); (case c => k_is); (case k => k_is))
    (case d26 => refine' LP.db_mk KX G (fun _ _ _ _ _ _ us hl => match us, hl with | [_, _, _], _ => rfl) ?a ?l ?c ?k; (case a => k_is); (case l => k_is); (case c => k_is); (case k => k_is))
    (case d27 => refine' LP.db_mk KX G (fun _ _ _ _ _ _ us hl => match us, hl with | [_, _, _], _ => rfl) ?a ?l ?c ?k; (case a => k_is); (case l => k_is); (case c => k_is); (case k => k_is))
    (case d28 => refine' LP.db_mk KX G (fun _ _ _ _ _ _ us hl => match us, hl with | [_, _], _ => rfl) ?a ?l ?c ?k; (case a => k_is); (case l => k_is); (case c => k_is); (case k => k_is))
    (case d29 => refine' LP.db_mk KX G (fun _ _ _ _ _ _ us hl => match us, hl with | [_], _ => rfl) ?a ?l ?c ?k; (case a => k_is); (case l => k_is); (case c => k_is); (case k => k_is))
    (case d30 => refine' LP.db_mk KX G (fun _ _ _ _ _ _ us hl => match us, hl with | [_], _ => rfl) ?a ?l ?c ?k; (case a => k_is); (case l => k_is); (case c => k_is); (case k => k_is))
    (case d31 => refine' LP.db_mk KX G (fun _ _ _ _ _ _ us hl => match us, hl with | [_], _ => rfl) ?a ?l ?c ?k; (case a => k_is); (case l => k_is); (case c => k_is); (case k => k_is))
    (case d32 => refine' LP.db_mk KX G (fun _ _ _ _ _ _ us hl => match us, hl with | [_], _ => rfl) ?a ?l ?c ?k; (case a => k_is); (case l => k_is); (case c => k_is); (case k => k_is))
    (case d33 => refine' LP.db_mk KX G (fun _ _ _ _ _ _ us hl => match us, hl with | [_, _], _ => rfl) ?a ?l ?c ?k; (case a => k_is); (case l => k_is); (case c => k_is); (case k => k_is))
    (case d34 => refine' LP.db_mk KX G (fun _ _ _ _ _ _ us hl => match us, hl with | [_, _], _ => rfl) ?a ?l ?c ?k; (case a => k_is); (case l => k_is); (case c => k_is); (case k => k_is))
    (case d35 => refine' LP.db_mk KX G (fun _ _ _ _ _ _ us hl => match us, hl with | [_, _], _ => rfl) ?a ?l ?c ?k; (case a => k_is); (case l => k_is); (case c => k_is); (case k => k_is))
    (case d36 => refine' LP.db_mk KX G (fun _ _ _ _ _ _ us hl => match us, hl with | [_, _], _ => rfl) ?a ?l ?c ?k; (case a => k_is); (case l => k_is); (case c => k_is); (case k => k_is))
    (case d37 => refine' LP.db_mk KX G (fun _ _ _ _ _ _ us hl => match us, hl with | [_, _], _ => rfl) ?a ?l ?c ?k; (case a => k_is); (case l => k_is); (case c => k_is); (case k => k_is))
    (case d38 => refine' LP.db_mk KX G (fun _ _ _ _ _ _ us hl => match us, hl with | [_, _, _, _], _ => rfl) ?a ?l ?c ?k; (case a => k_is); (case l => k_is); (case c => k_is); (case k => k_is))
    (case d39 => refine' LP.db_mk KX G (fun _ _ _ _ _ _ us hl => match us, hl with | [_], _ => rfl) ?a ?l ?c ?k; (case a => k_is); (case l => k_is); (case c => k_is); (case k => k_is))
    (case d40 => refine' LP.db_mk KX G (fun _ _ _ _ _ _ us hl => match us, hl with | [_], _ => rfl) ?a ?l ?c ?k; (case a => k_is); (case l => k_is); (case c => k_is); (case k => k_is))
    (case d41 => refine' LP.db_mk KX G (fun _ _ _ _ _ _ us hl => match us, hl with | [_, _], _ => rfl) ?a ?l ?c ?k; (case a => k_is); (case l => k_is); (case c => k_is); (case k => k_is))
    (case d42 => refine' LP.db_mk KX G (fun _ _ _ _ _ _ us hl => match us, hl with | [_, _], _ => rfl) ?a ?l ?c ?k; (case a => k_is); (case l => k_is); (case c => k_is); (case k => k_is))
    (case d43 => refine' LP.db_mk KX G (fun _ _ _ _ _ _ us hl => match us, hl with | [_, _, _], _ => rfl) ?a ?l ?c ?k; (case a => k_is); (case l => k_is); (case c => k_is); (case k => k_is))
    (case d44 => refine' LP.db_mk KX G (fun _ _ _ _ _ _ us hl => match us, hl with | [_, _, _, _], _ => rfl) ?a ?l ?c ?k; (case a => k_is); (case l => k_is); (case c => k_is); (case k => k_is))
    (case d45 => refine' LP.db_mk KX G (fun _ _ _ _ _ _ us hl => match us, hl with | [_, _], _ => rfl) ?a ?l ?c ?k; (case a => k_is); (case l => k_is); (case c => k_is); (case k => k_is))
    (case dw => refine' LP.isw_mk KX G ?a ?l ?c ?k ?t; (case a => k_is); (case l => k_is); (case c => k_is); (case k => k_is); (case t => k_is))
    (case dc => refine' LP.cw_mk KX G ?a ?l ?c ?k ?t; (case a => k_is); (case l => k_is); (case c => k_is); (case k => k_is); (case t => k_is))
    (case n0 => k_is)
    (case n1 => k_is)
    (case n2 => k_is)
    (case n3 => k_is)
    (case n4 => k_is)
    (case n5 => k_is)
    (case n6 => k_is)
    (case n7 => k_is)
    (case n8 => k_is)
    (case n9 => k_is)
    (case n10 => k_is)
    (case n11 => k_is)
    (case n12 => k_is)
    (case n13 => k_is)
    (case n14 => k_is)
    (case n15 => k_is)
    (case n16 => k_is)
    (case a0 => k_is)
    (case l0 => k_is)
    (case c0 => k_is)
    (case k0 => k_is)
    (case gl => k_is)
    (case gm => k_is)
    (case gP => k_is)
    (case gB => k_is)
    (case gW => k_is)
    (case pgP => k_is)
    (case hdP => k_is)
    (case poP => k_is)
    (case saP => k_is)
    (case mkP => k_is)
    (case kcP => k_is)
    (case haP => k_is)
    (case hmP => k_is)
    (case pgB => k_is)
    (case hdB => k_is)
    (case poB => k_is)
    (case saB => k_is)
    (case mkB => k_is)
    (case kcB => k_is)
    (case haB => k_is)
    (case hmB => k_is)
    (case hn => k_is)
    (case htk => k_is)
    (case a1 => k_is)
    (case i1 => k_is)
    (case l1 => k_is)
    (case c1 => k_is)
    (case a2 => k_is)
    (case i2 => k_is)
    (case l2 => k_is)
    (case c2 => k_is)
    (case a3 => k_is)
    (case i3 => k_is)
    (case l3 => k_is)
    (case c3 => k_is)
    (case nPone => k_is)
    (case nPother => k_is)
    (case nPapart => k_is)
    (case nPlonger => k_is)
    (case nPshorter => k_is)
    (case nBletters => k_is)
    (case nBlength => k_is)
    (case nBwords => k_is)
    (case nBsize => k_is)
end
