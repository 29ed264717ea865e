import PyProof.Rows.All
import HandS.TupSets
import Wide.All
import OpenK.AllK
import Wide.FinOn
import HandS.ForMost
import HandS.Exc
import HandS.TryOnly
import HandS.WordsExc
import KE.KDictKeyed
import KE.KDictCopyH
import KE.KeyNested
import HandS.Lambda
import KE.DataEq
import KE.DataCmp
import KE.DataAny
import KE.DataFind
import KE.DataIsa
import KE.DataMinMax
import KE.DatumIndex
import KE.SortData
import HandS.TupAny
import HandS.Wide
import HandS.Flow
import HandS.RaiseMore
import HandS.Walk
import HandS.NoneIn
import HandS.Style
import HandS.Dict
import HandS.ExcOwn
import HandS.Defaults
import HandS.Ends
import HandS.HeadEnd
import HandS.Head0
import HandS.Head1
import HandS.Head2
import HandS.HeadHook1
import HandS.HeadHook2
import HandS.DictComp
import KE.GoesSet
import KE.KUnpackStar
import PyProof.TupleOfGen
import PyProof.ListRange
import HandS.ExcInit
import HandS.ExcField
import HandS.ExcIs
import KE.KExcSuper
import KE.KExcIs
import HandS.EndTab
import HandS.HeadHook4
import HandS.Star
import HandS.ExcBuiltin
import HandS.SetFor
import HandS.Deep
import HandS.ReCall
import HandS.Iter
import KE.GoesEnum
import HandS.List
import HandS.TupLe
import HandS.Text
import HandS.Zip
import PyProof.StrLawsRepr
import HandS.TupMul
import KE.KDictPairs
import KE.KDictLaw
import HandS.TupLen
import HandS.Conv
import PyProof.SetRoads
import HandS.DictTup
import KE.KEqDict
import HandS.HotCalls
import PyProof.ListStr
import KE.KDictDisplayH
import KE.KDictItemsList
import HandS.ListItems
import KE.KDictList
import HandS.Property
import HandS.MakeKw
import OpenK.KOps
import KE.KCallOwn
import HandS.ClsMeth
import HandS.IsInst
import KE.KOpsOwn
import KE.KSuper
import HandS.FStr
import PySem.Challenge.RW_zonebetween_k28_led_runs_refused
set_option Elab.async false
set_option linter.all false
set_option maxRecDepth 100000
namespace Z
open PySem PySem.Spec PyProof.Rows L2
set_option autoImplicit false
/-- all slots of a round, as the bits of a number -/
def rnd (m : Nat) : Nat → Nat → Nat → Nat
  | 0, _, acc => acc
  | n + 1, i, acc => rnd m n ((i * 5 + 1) % (m + 1)) (acc ||| 1 <<< i)
theorem lcgI_shift (m i : Nat) : ∀ k, lcgI m ((i * 5 + 1) % (m + 1)) k = lcgI m i (k + 1)
  | 0 => rfl
  | k + 1 => by
    have e := lcgI_shift m i k
    show (_ * 5 + 1) % (m + 1) = (lcgI m i (k + 1) * 5 + 1) % (m + 1)
    rw [← e]
theorem lcgI_add (m i a : Nat) : ∀ k, lcgI m (lcgI m i a) k = lcgI m i (a + k)
  | 0 => rfl
  | k + 1 => by
    have e := lcgI_add m i a k
    show (_ * 5 + 1) % (m + 1) = (lcgI m i (a + k) * 5 + 1) % (m + 1)
    rw [← e]
theorem rnd_bit (m j : Nat) : ∀ n i acc, (rnd m n i acc).testBit j = true → acc.testBit j = true ∨ ∃ k, k < n ∧ lcgI m i k = j
  | 0, _, _, h => .inl h
  | n + 1, i, acc, h => by
    rcases rnd_bit m j n _ _ h with q | ⟨k, hk, e⟩
    · rw [Nat.testBit_or, Bool.or_eq_true] at q
      rcases q with q | q
      · exact .inl q
      · refine .inr ⟨0, Nat.succ_pos n, ?_⟩
        rw [Nat.one_shiftLeft, Nat.testBit_two_pow] at q
        exact of_decide_eq_true q
    · exact .inr ⟨k + 1, Nat.succ_lt_succ hk, by rw [← lcgI_shift]; exact e⟩
def MaskW (m : Nat) : Prop := m ∈ [7, 31, 127, 511, 2047, 15, 63, 255, 1023, 4095]
theorem maskW_rnd {m : Nat} (h : MaskW m) : rnd m (m + 1) 0 0 = 2 ^ (m + 1) - 1 ∧ lcgI m 0 (m + 1) = 0 := by
  simp only [MaskW, List.mem_cons, List.not_mem_nil, or_false] at h
  rcases h with rfl | rfl | rfl | rfl | rfl | rfl | rfl | rfl | rfl | rfl <;> decide +kernel
theorem maskW_le {m : Nat} (h : MaskW m) : m ≤ 4095 ∧ 7 ≤ m := by
  simp only [MaskW, List.mem_cons, List.not_mem_nil, or_false] at h
  omega
theorem lcgI_from0 {m : Nat} (h : MaskW m) {j : Nat} (hj : j ≤ m) : ∃ k, k ≤ m ∧ lcgI m 0 k = j := by
  have b : (rnd m (m + 1) 0 0).testBit j = true := by rw [(maskW_rnd h).1, Nat.testBit_two_pow_sub_one]; exact decide_eq_true (by omega)
  rcases rnd_bit m j _ _ _ b with q | ⟨k, hk, e⟩
  · rw [Nat.zero_testBit] at q; cases q
  · exact ⟨k, Nat.le_of_lt_succ hk, e⟩
theorem lcgI_any {m : Nat} (h : MaskW m) {i j : Nat} (hi : i ≤ m) (hj : j ≤ m) : ∃ k, k ≤ m ∧ lcgI m i k = j := by
  obtain ⟨a, la, rfl⟩ := lcgI_from0 h hi
  obtain ⟨b, lb, rfl⟩ := lcgI_from0 h hj
  by_cases q : a ≤ b
  · refine ⟨b - a, by omega, ?_⟩
    rw [lcgI_add]; congr 1; omega
  · refine ⟨m + 1 - a + b, by omega, ?_⟩
    have e : lcgI m (lcgI m 0 (m + 1)) b = lcgI m 0 (m + 1 + b) := lcgI_add m 0 (m + 1) b
    rw [(maskW_rnd h).2] at e
    rw [lcgI_add, e]; congr 1; omega
theorem runW {m : Nat} (w : MaskW m) (h : Int) {j : Nat} (hj : j ≤ m) : ∃ n, n ≤ m + 12 ∧ runI m (SetTable.bits h) n = j := by
  obtain ⟨k, lk, e⟩ := lcgI_any w (runI_le m (SetTable.bits h) 12) hj
  refine ⟨12 + k, by omega, ?_⟩
  rw [← e]; exact runI_tail (bits_lt h) k
theorem wayW_meets {m : Nat} (w : MaskW m) (h : Int) {j : Nat} (hj : j ≤ m) : ∃ k, k < 10 * SetTable.turns m ∧ way m h k = j := by
  obtain ⟨n, ln, e⟩ := runW w h hj
  obtain ⟨k, lk, e2⟩ := run_nth m (SetTable.bits h) n
  have lt : k < 10 * SetTable.turns m := by unfold SetTable.turns; omega
  exact ⟨k, lt, (congrArg SetTable.Probe.j e2).trans e⟩
theorem wayW_le (m : Nat) (h : Int) (k : Nat) : way m h k ≤ m := by
  have l0 : SetTable.bits h % (m + 1) ≤ m := Nat.lt_succ_iff.mp (Nat.mod_lt _ m.succ_pos)
  have r0 := runEnd_bd l0
  have q := nth_in (m := m) k (runAt m (SetTable.bits h % (m + 1)) (SetTable.bits h)) (by simp only [runAt]; omega)
  exact Nat.le_trans (Nat.le_add_right ..) q
/-- a table whose slots are all found again -/
structure TabW (t : SetTable) (hs : List Int) : Prop where
  ris : Ris t.place.toList
  dm : t.dummies = #[]
  sz : t.place.size = hs.length
  mok : MaskW t.mask
  bd : ∀ x ∈ t.place.toList, x ≤ t.mask
  reach : ∀ (i : Nat) (h : Int) (j : Nat), hs[i]? = some h → t.place.toList[i]? = some j → ∃ k, way t.mask h k = j ∧ ∀ k', k' < k → way t.mask h k' ∈ t.place.toList
section
variable {t : SetTable} {hs : List Int} {h : Int}
theorem least_out (f : Nat → Nat) (L : List Nat) (k : Nat) (hk : f k ∉ L) : ∃ K, K ≤ k ∧ f K ∉ L ∧ ∀ q, q < K → f q ∈ L := by
  obtain ⟨K, a, b, c⟩ := st_least (p := fun q => f q ∉ L) k hk
  exact ⟨K, a, b, fun q hq => Classical.not_not.mp (c q hq)⟩
theorem TabW.first (T : TabW t hs) (hl : hs.length ≤ t.mask) (h : Int) : ∃ K, K < 10 * SetTable.turns t.mask ∧ way t.mask h K ∉ t.place.toList ∧ ∀ k, k < K → way t.mask h k ∈ t.place.toList := by
  have e : t.place.toList.length = hs.length := by rw [Array.length_toList]; exact T.sz
  obtain ⟨j, lj, nj⟩ := st_missing t.place.toList (t.mask + 1) (by rw [e]; exact Nat.lt_succ_of_le hl)
  obtain ⟨k, lk, ek⟩ := wayW_meets T.mok h (Nat.lt_succ_iff.mp lj)
  obtain ⟨K, a, b, c⟩ := least_out (way t.mask h) t.place.toList k (by rw [ek]; exact nj)
  exact ⟨K, by omega, b, c⟩
theorem TabW.before (T : TabW t hs) {K i j : Nat} (hK : way t.mask h K ∉ t.place.toList) (hi : hs[i]? = some h) (hj : t.place.toList[i]? = some j) : ∃ k, k < K ∧ way t.mask h k = j := by
  obtain ⟨k, e, f⟩ := T.reach i h j hi hj
  have jm := List.mem_of_getElem? hj
  refine ⟨k, Classical.byContradiction fun c => ?_, e⟩
  by_cases q : k = K
  · rw [← q, e] at hK; exact hK jm
  · exact hK (f K (by omega))
theorem TabW.put (T : TabW t hs) {K : Nat} (hK : way t.mask h K ∉ t.place.toList) (hb : ∀ k, k < K → way t.mask h k ∈ t.place.toList) :
    (t.put (way t.mask h K)).2 = SetTable.below t.place (way t.mask h K) ∧ TabW (t.put (way t.mask h K)).1 (hs.take (SetTable.below t.place (way t.mask h K)) ++ h :: hs.drop (SetTable.below t.place (way t.mask h K))) ∧
    (t.put (way t.mask h K)).1.mask = t.mask ∧ (t.put (way t.mask h K)).1.led = t.led ∧ (t.put (way t.mask h K)).1.fill = hs.length + 1 := by
  have jm := wayW_le t.mask h K
  generalize ej : way t.mask h K = j at hK jm ⊢
  have lb : SetTable.below t.place j ≤ t.place.size := (below_cut T.ris j).1
  have l1 : SetTable.below t.place j ≤ hs.length := T.sz ▸ lb
  have l2 : SetTable.below t.place j ≤ t.place.toList.length := by rw [Array.length_toList]; exact lb
  have no : t.place[SetTable.below t.place j]? ≠ some j := fun e => hK (List.mem_of_getElem? (Array.getElem?_toList.trans e))
  have pl := put_place t j
  have sz : (t.put j).1.place.size = hs.length + 1 := by
    have e := congrArg List.length pl
    rw [len_ins _ l2, Array.length_toList, Array.length_toList, T.sz] at e
    exact e
  have old : ∀ x ∈ t.place.toList, x ∈ (t.put j).1.place.toList := fun x hx => by rw [pl]; exact mem_ins.mpr (.inr hx)
  have dm := put_dm T.dm j
  refine ⟨rfl, ⟨ris_insert T.ris no, dm, sz.trans (len_ins _ l1 _).symm, T.mok, fun x hx => ?_, fun i g y e1 e2 => ?_⟩, rfl, rfl, ?_⟩
  · rw [pl] at hx
    exact (mem_ins.mp hx).elim (fun e => e ▸ jm) (T.bd x)
  · rw [tins_get hs l1] at e1
    rw [pl, tins_get _ l2] at e2
    have up : ∀ i', hs[i']? = some g → t.place.toList[i']? = some y → ∃ k, way t.mask g k = y ∧ ∀ k', k' < k → way t.mask g k' ∈ (t.put j).1.place.toList := fun i' a b => by
      obtain ⟨k, e, f⟩ := T.reach i' g y a b
      exact ⟨k, e, fun k' l => old _ (f k' l)⟩
    split at e1
    · rename_i c
      rw [if_pos c] at e2
      exact up i e1 e2
    · rename_i c
      rw [if_neg c] at e2
      split at e1
      · rename_i d
        rw [if_pos d] at e2
        cases e1; cases e2
        exact ⟨K, ej, fun k' l => old _ (hb k' l)⟩
      · rename_i d
        rw [if_neg d] at e2
        exact up (i - 1) e1 e2
  · show (t.put j).1.place.size + (t.put j).1.dummies.size = _
    rw [sz, dm]; rfl
end
structure Seat (m : Nat) (done : List Int) (js : List Nat) (owner : Array (Option Nat)) : Prop where
  sz : owner.size = m + 1
  len : js.length = done.length
  nd : js.Nodup
  own : ∀ j k, j ≤ m → (oAt owner j = some k ↔ js[k]? = some j)
  le : ∀ j ∈ js, j ≤ m
  rch : ∀ (k : Nat) (h : Int) (j : Nat), done[k]? = some h → js[k]? = some j → ∃ K, way m h K = j ∧ ∀ k', k' < K → way m h k' ∈ js
theorem Seat.zero (m : Nat) : Seat m [] [] (Array.replicate (m + 1) none) :=
  ⟨by simp, rfl, .nil, fun j k hj => by rw [oAt_init hj]; simp, by simp, by simp⟩
theorem Seat.free {m : Nat} {done : List Int} {js : List Nat} {owner : Array (Option Nat)} (S : Seat m done js owner) {j : Nat} (hj : j ≤ m) : oAt owner j = none ↔ j ∉ js := by
  constructor
  · intro e hm
    obtain ⟨k, hk, ek⟩ := List.getElem_of_mem hm
    have := (S.own j k hj).mpr (by rw [List.getElem?_eq_getElem hk, ek])
    rw [e] at this; cases this
  · intro hn
    cases q : oAt owner j with
    | none => rfl
    | some k => exact absurd (List.mem_of_getElem? ((S.own j k hj).mp q)) hn
theorem Seat.more {m : Nat} (w : MaskW m) {done : List Int} {js : List Nat} {owner : Array (Option Nat)} (S : Seat m done js owner) (hl : done.length ≤ m) (h : Int) :
    ∃ j, SetTable.layClean.free m owner (SetTable.turns m) (SetTable.bits h % (m + 1)) (SetTable.bits h) = some j ∧ Seat m (done ++ [h]) (js ++ [j]) (owner.setIfInBounds j (some done.length)) := by
  obtain ⟨y, ly, ny⟩ := st_missing js (m + 1) (by rw [S.len]; omega)
  obtain ⟨n, ln, en⟩ := runW w h (Nat.lt_succ_iff.mp ly)
  generalize eo : off m (SetTable.bits h % (m + 1)) (SetTable.bits h) n = O
  have wo : way m h O = y := by
    rw [← eo]
    show (nth m _ _).j = y
    rw [nth_off, itL_run]; exact en
  obtain ⟨K, lK, nK, bK⟩ := least_out (way m h) js O (by rw [wo]; exact ny)
  have le := wayW_le m h
  have fr : SetTable.layClean.free m owner (SetTable.turns m) (SetTable.bits h % (m + 1)) (SetTable.bits h) = some (way m h K) := by
    refine free_spec m owner _ n _ _ K (by unfold SetTable.turns; omega) (by rw [eo]; exact lK) (fun k hk => ?_) ?_
    · cases q : oAt owner (way m h k) with
      | none => exact absurd (bK k hk) ((S.free (le k)).mp q)
      | some z => rfl
    · exact congrArg Option.isNone ((S.free (le K)).mpr nK)
  have lK2 := le K
  generalize ej : way m h K = j at *
  have js0 : oAt (owner.setIfInBounds j (some done.length)) j = some done.length := oAt_set_self _ (by rw [S.sz]; omega)
  have jlen : js.length = done.length := S.len
  have at_new : ∀ {α : Type} (l : List α) (x : α), (l ++ [x])[l.length]? = some x := fun l x => by simp
  refine ⟨j, fr, by rw [Array.size_setIfInBounds]; exact S.sz, by simp [S.len], ?_, fun i k hi => ?_, fun i hi => ?_, fun k g i e1 e2 => ?_⟩
  · exact List.nodup_append.mpr ⟨S.nd, by simp, fun a ha b hb e => nK (by rw [List.mem_singleton.mp hb] at e; rw [← e]; exact ha)⟩
  · by_cases q : i = j
    · subst q
      rw [js0]
      constructor
      · intro e; cases e
        rw [← jlen]; exact at_new js i
      · intro e
        by_cases c : k < js.length
        · rw [List.getElem?_append_left c] at e
          exact absurd (List.mem_of_getElem? e) nK
        · have lt := (List.getElem?_eq_some_iff.mp e).1
          simp only [List.length_append, List.length_cons, List.length_nil] at lt
          congr 1; omega
    · rw [oAt_set_ne _ q, S.own i k hi]
      by_cases c : k < js.length
      · rw [List.getElem?_append_left c]
      · rw [List.getElem?_append_right (by omega), List.getElem?_eq_none (l := js) (by omega)]
        cases d : k - js.length with
        | zero => simp [Ne.symm q]
        | succ _ => simp
  · rcases List.mem_append.mp hi with z | z
    · exact S.le i z
    · rw [List.mem_singleton.mp z]; exact lK2
  · by_cases c : k < js.length
    · rw [List.getElem?_append_left c] at e2
      rw [List.getElem?_append_left (by omega)] at e1
      obtain ⟨q, a, b⟩ := S.rch k g i e1 e2
      exact ⟨q, a, fun k' l => List.mem_append_left _ (b k' l)⟩
    · have lt := (List.getElem?_eq_some_iff.mp e2).1
      simp only [List.length_append, List.length_cons, List.length_nil] at lt
      have ek : k = js.length := by omega
      rw [ek, at_new] at e2
      rw [ek, jlen, at_new] at e1
      cases e1; cases e2
      exact ⟨K, ej, fun k' l => List.mem_append_left _ (bK k' l)⟩
theorem Seat.run {m : Nat} (w : MaskW m) : ∀ (rest done : List Int) (js : List Nat) (owner : Array (Option Nat)), Seat m done js owner → done.length + rest.length ≤ m →
    ∃ js' owner', rest.foldl (stepF m) (some (owner, done.length)) = some (owner', (done ++ rest).length) ∧ Seat m (done ++ rest) js' owner'
  | [], done, js, owner, S, _ => ⟨js, owner, by simp, by simpa using S⟩
  | h :: rest, done, js, owner, S, hl => by
    simp only [List.length_cons] at hl
    obtain ⟨j, e, S1⟩ := S.more w (by omega) h
    obtain ⟨js', o', f, S2⟩ := Seat.run w rest (done ++ [h]) _ _ S1 (by simp; omega)
    have ea : (done ++ [h]) ++ rest = done ++ h :: rest := by simp
    have el : (done ++ [h]).length = done.length + 1 := by simp
    rw [ea, el] at f
    exact ⟨js', o', by rw [List.foldl_cons, stepF_some e]; exact f, ea ▸ S2⟩
theorem relaidW (t : SetTable) {hs : Array Int} {wanted M : Nat} (hw : SetTable.sizeAbove wanted - 1 = M) (w : MaskW M) (hn : hs.size ≤ M) :
    ∃ t' order, t.relaid hs wanted = some (t', order) ∧ order.toList.Perm (List.range hs.size) ∧ TabW t' (order.toList.map fun i => hs.getD i 0) ∧ t'.mask = M ∧ t'.led = t.led := by
  have l0 : hs.toList.length = hs.size := Array.length_toList
  obtain ⟨js, owner, f, S⟩ := Seat.run w hs.toList [] [] _ (Seat.zero M) (by simp only [List.length_nil, l0]; omega)
  simp only [List.nil_append, List.length_nil] at f S
  have lay : SetTable.layClean M hs = some owner := by rw [layClean_eq, f]; rfl
  have hr : t.relaid hs wanted = some (tabOf t M owner, ((liveOf M owner).map (·.2)).toArray) := by
    rw [relaid_eq, hw, lay]; rfl
  obtain ⟨ris, rin⟩ := ris_live (fun j => owner.getD j none) (List.range (M + 1)) (by unfold Ris; exact List.pairwise_lt_range)
  have ris : Ris ((liveOf M owner).map (·.1)) := ris
  have rin : ∀ x ∈ (liveOf M owner).map (·.1), x ∈ List.range (M + 1) := rin
  have lv : ∀ j k, (j, k) ∈ liveOf M owner ↔ js[k]? = some j := fun j k => by
    rw [mem_live S.sz]
    constructor
    · rintro ⟨a, b⟩; exact (S.own j k a).mp b
    · intro e
      have a := S.le j (List.mem_of_getElem? e)
      exact ⟨a, (S.own j k a).mpr e⟩
  have fst : ∀ j, j ∈ (liveOf M owner).map (·.1) ↔ j ∈ js := fun j => by
    constructor
    · intro hm
      obtain ⟨⟨a, k⟩, h1, h2⟩ := List.mem_map.mp hm
      cases h2
      exact List.mem_of_getElem? ((lv _ _).mp h1)
    · intro hm
      obtain ⟨k, lk, e⟩ := List.getElem_of_mem hm
      exact List.mem_map.mpr ⟨(j, k), (lv j k).mpr (by rw [List.getElem?_eq_getElem lk, e]), rfl⟩
  have ndl : ((liveOf M owner).map (·.1)).Nodup := ris.imp fun h => Nat.ne_of_lt h
  have len : (liveOf M owner).length = hs.size := by
    have a := nat_nodup_len _ js ndl fun x hx => (fst x).mp hx
    have b := nat_nodup_len js _ S.nd fun x hx => (fst x).mpr hx
    have c := S.len
    rw [List.length_map] at a b
    omega
  refine ⟨_, _, hr, perm_range _ _ (by simp [len]) fun k hk => ?_, ⟨ris, rfl, by simp [tabOf], w, fun x hx => Nat.lt_succ_iff.mp (List.mem_range.mp (rin x hx)), fun i h j e1 e2 => ?_⟩, rfl, rfl⟩
  · have lk : k < js.length := by rw [S.len, l0]; exact hk
    exact List.mem_map.mpr ⟨(js[k], k), (lv _ _).mpr (List.getElem?_eq_getElem lk), rfl⟩
  · have e1 : (((liveOf M owner).map (·.2)).map fun i => hs.getD i 0)[i]? = some h := e1
    have e2 : ((liveOf M owner).map (·.1))[i]? = some j := e2
    simp only [List.getElem?_map] at e1 e2
    cases q : (liveOf M owner)[i]? with
    | none => rw [q] at e2; cases e2
    | some p =>
      obtain ⟨y, k⟩ := p
      rw [q] at e1 e2
      simp only [Option.map_some, Option.some.injEq] at e1 e2
      subst e2
      have ek := (lv y k).mp (List.mem_of_getElem? q)
      have lk := (List.getElem?_eq_some_iff.mp ek).1
      have eh : hs.toList[k]? = some h := by
        have : k < hs.size := by rw [S.len, l0] at lk; exact lk
        rw [← e1, Array.getElem?_toList, Array.getD_eq_getD_getElem?, Array.getElem?_eq_getElem this]; rfl
      obtain ⟨K, a, b⟩ := S.rch k h y eh ek
      refine ⟨K, a, fun k' hk' => ?_⟩
      show way M h k' ∈ (liveOf M owner).map (·.1)
      exact (fst _).mpr (b k' hk')
theorem size_308 : SetTable.sizeAbove (SetTable.grown 77) = 512 := by decide +kernel
theorem size_36 : SetTable.sizeAbove (SetTable.grown 9) = 64 := by decide +kernel
theorem size_152 : SetTable.sizeAbove (SetTable.grown 38) = 256 := by decide +kernel
theorem size_612 : SetTable.sizeAbove (SetTable.grown 153) = 1024 := by decide +kernel
theorem size_2456 : SetTable.sizeAbove (SetTable.grown 614) = 4096 := by decide +kernel
theorem size_1228 : SetTable.sizeAbove (SetTable.grown 307) = 2048 := by decide +kernel
end Z
namespace Z
open PySem PySem.Spec PyProof.Rows L2
set_option autoImplicit false
/-- data: what a value stands for -/
inductive D where
  | non | bl (b : Bool) | int (i : Int) | str (x : Str)
  | tup (ds : List D) | lst (ds : List D) | set (ds : List D) | dct (ks vs : List D)
  | ref (n : Nat) | clo (n : Nat) (ds : List D) | err (c : Nat) (ds : List D) | scr (ns : List Int)
  deriving Inhabited
mutual
def py : D → PyData
  | .non => .none
  | .bl b => .bool b
  | .int i => .int i
  | .str x => .str x
  | .tup ds => .tuple (pys ds)
  | .lst ds => .list (pys ds)
  | .set _ => .none
  | .dct _ _ => .none
  | .ref _ => .none
  | .clo _ _ => .none
  | .err _ _ => .none
  | .scr _ => .none
def pys : List D → List PyData
  | [] => []
  | d :: ds => py d :: pys ds
end
mutual
/-- pure data: no sets, dicts, cells -/
def isD : D → Bool
  | .non => true
  | .bl _ => true
  | .int _ => true
  | .str _ => true
  | .tup ds => isDs ds
  | .lst ds => isDs ds
  | .set _ => false
  | .dct _ _ => false
  | .ref _ => false
  | .clo _ _ => false
  | .err _ _ => false
  | .scr _ => false
def isDs : List D → Bool
  | [] => true
  | d :: ds => isD d && isDs ds
end
mutual
/-- as a key -/
def nk : D → NestedKey
  | .non => .none
  | .bl b => .num (if b = true then 1 else 0)
  | .int i => .num i
  | .str x => .text x
  | .tup ds => .tup (nks ds)
  | .lst _ => .none
  | .set _ => .none
  | .dct _ _ => .none
  | .ref _ => .none
  | .clo _ _ => .none
  | .err _ _ => .none
  | .scr _ => .none
def nks : List D → List NestedKey
  | [] => []
  | d :: ds => nk d :: nks ds
end
mutual
/-- hashable, by value -/
def isK : D → Bool
  | .non => true
  | .bl _ => true
  | .int _ => true
  | .str _ => true
  | .tup ds => isKs ds
  | .lst _ => false
  | .set _ => false
  | .dct _ _ => false
  | .ref _ => false
  | .clo _ _ => false
  | .err _ _ => false
  | .scr _ => false
def isKs : List D → Bool
  | [] => true
  | d :: ds => isK d && isKs ds
end
/-- a flat key -/
def lf : D → Option Leaf
  | .non => some .none
  | .bl b => some (.num (if b = true then 1 else 0))
  | .int i => some (.num i)
  | .str x => some (.text x)
  | _ => none
def lfs : List D → Option (List Leaf)
  | [] => some []
  | d :: ds => match lf d, lfs ds with
    | some l, some ls => some (l :: ls)
    | _, _ => none
/-- what a marked slot holds: the error that a suite handles (its dict, class, fields), a function that was handed in -/
inductive Mk where
  | ex (a dx : Addr) (c : Nat) (ds : List D)
  | fn (f c : Addr) (o : HO) (ds : List D) (vs : List V)
def Mk.at_ : Mk → Addr
  | .ex a _ _ _ => a
  | .fn f _ _ _ _ => f
/-- the world that a relation speaks of -/
structure Wd where
  P : Program
  w : World
  K : PySem.W.Frag
  /-- the classes of errors, their fields -/
  ct : Nat → Value
  cf : Nat → List Str
  mks : Nat → Option Mk := fun _ => none
  tb : Str → Addr := fun _ => 0
  /-- the classes of objects -/
  oc : Nat → Addr := fun _ => 0
def SetE (a : Addr) (led : Bool) : Heap → Prop := fun h => h.get? a = some { cls := .type "set", dict := none, data := .set #[] 0 (.fresh 0 0 led) } ∧ led ≠ led
/-- a set of keys carried by value: its rows, in the table's order -/
structure LfS (P : Program) (w : World) (h : Heap) (a : Addr) (L : List (Leaf × Value)) : Prop where
  ob : ∃ o es ep t, h.get? a = some o ∧ o.ExactSet ∧ o.data = .set es ep t ∧ es.toList = L.map (fun p => ((leafKind P w).hash p.1, p.2)) ∧ t.fits es.size = true ∧ Ris t.place.toList ∧ (w.params.followText "set-order" = true ∨ t.led = true)
  good : ∀ p ∈ L, (leafKind P w).is p.1 p.2 = true ∧ p.2.scannable = true
  nd : (L.map (·.1)).Nodup
  few : L.length < scanBound
def SetF (P : Program) (w : World) (a : Addr) (ls : List Leaf) (us : List V) : Heap → Prop := fun h => ∃ (L : List (Leaf × Value)) (zs : List Value), Vals us zs ∧ L.Perm (ls.zip zs) ∧ LfS P w h a L
def DctF (P : Program) (w : World) (a : Addr) (ls : List Leaf) (vs : List V) : Heap → Prop := fun h => (a == sysModules) = false ∧ ∃ us, Vals vs us ∧ h.DictOf (leafKind P w) a (ls.zip us)
def DctN (P : Program) (w : World) (a : Addr) (ep : Nat) (ks : List NestedKey) (bs : List Addr) (vs : List V) : Heap → Prop := fun h => (a == sysModules) = false ∧ ∃ us, Vals vs us ∧
  ∃ o es, h.get? a = some o ∧ o.ExactDict ∧ o.data = .dict es ep ∧ es.toList = (ks.zip (bs.zip us)).map (entryOfKey (nestedKind P w)) ∧ ks.Nodup
/-- the script: frozen, or an object of the module -/
def ScrA (K : PySem.W.Frag) (H : Hp) (a : Addr) (xs : List V) : Prop := (∃ o, H a = some (.frz o (.lst xs))) ∨
  ∃ (o : Obj) (its : Array Value) (n : Nat), K.lookup a = some o ∧ o.cls = .type "list" ∧ o.dict = none ∧ o.data = .seq its n ∧ its.size ≤ sizeLine ∧ Vals xs its.toList
theorem ScrA.sq {K : PySem.W.Frag} {H : Hp} {a : Addr} {xs : List V} (h : ScrA K H a xs) : SqL K H a xs := by
  rcases h with ⟨o, h⟩ | h
  · exact .inl (.inr ⟨o, h⟩)
  · exact .inr h
/-- a set of tuples: its rows, its table -/
abbrev rowsN (w : World) (L : List (Addr × NestedKey)) : List (Int × Value) := L.map fun p => (p.2.hash w, Value.ref p.1)
abbrev hsN (w : World) (L : List (Addr × NestedKey)) : List Int := L.map fun p => p.2.hash w
structure TabN (w : World) (h : Heap) (a : Addr) (L : List (Addr × NestedKey)) (es : Array (Int × Value)) (ep : Nat) (t : SetTable) : Prop where
  ob : ∃ o, h.get? a = some o ∧ o.ExactSet ∧ o.data = .set es ep t
  rows : es.toList = rowsN w L
  tab : TabW t (hsN w L)
  nd : (L.map (·.2)).Nodup
  room : L.length * 5 < t.mask * 3
  few : L.length < 1200
def SetNh (w : World) (a : Addr) (ks : List NestedKey) (bs : List Addr) : Heap → Prop := fun h => ∃ L es ep t, L.Perm (bs.zip ks) ∧ TabN w h a L es ep t ∧ (w.params.followText "set-order" = true ∨ t.led = true)
section
variable (T : Wd) (ι : List Addr) (bar : Addr → Prop) (H : Hp)
mutual
def RelD : D → V → Prop
  | .non, v => v = .non
  | .bl b, v => v = .bl b
  | .int i, v => v = .int i
  | .str x, v => v = .str x
  | .tup ds, v => ∃ a vs, v = .ref a ∧ SqT T.K H a vs ∧ RelDs ds vs
  | .lst ds, v => ∃ a vs, v = .ref a ∧ Rd H a (.lst vs) ∧ ¬ bar a ∧ RelDs ds vs
  | .set ds, v => ∃ a us, v = .ref a ∧ ¬ bar a ∧ RelDs ds us ∧ ((∃ led, ds = [] ∧ H a = some (.ext (SetE a led))) ∨ (∃ ls, ds ≠ [] ∧ lfs ds = some ls ∧ ls.Nodup ∧ H a = some (.ext (SetF T.P T.w a ls us))) ∨ (∃ bs : List Addr, us = bs.map V.ref ∧ isKs ds = true ∧ (∀ k ∈ nks ds, k.depth ≤ 8) ∧ H a = some (.ext (SetNh T.w a (nks ds) bs))))
  | .dct ks vs, v => ∃ a us ws, v = .ref a ∧ ¬ bar a ∧ RelDs ks us ∧ RelDs vs ws ∧ ks.length = vs.length ∧
      ((∃ ls, ks ≠ [] ∧ lfs ks = some ls ∧ H a = some (.ext (DctF T.P T.w a ls ws))) ∨ (∃ bs : List Addr, us = bs.map V.ref ∧ isKs ks = true ∧ (∀ k ∈ nks ks, k.depth ≤ 8) ∧ ∃ ep, H a = some (.ext (DctN T.P T.w a ep (nks ks) bs ws))))
  | .ref n, v => ∃ a, ι[n]? = some a ∧ v = .ref a
  | .clo n ds, v => ds = [] ∧ v = .ref (T.oc n)
  | .err _ _, _ => False
  | .scr ns, v => ∃ a, v = .ref a ∧ ScrA T.K H a (ns.map V.int)
def RelDs : List D → List V → Prop
  | [], vs => vs = []
  | d :: ds, vs => ∃ v r, vs = v :: r ∧ RelD d v ∧ RelDs ds r
end
end
/-- one object, by its own content, at an address: weakly (a list of one's own too) -/
def RelC (T : Wd) (ι : List Addr) (bar : Addr → Prop) (H : Hp) : D → Addr → Prop
  | .lst ds, a => ∃ vs, Rd H a (.lst vs) ∧ RelDs T ι bar H ds vs
  | .set ds, a => ∃ us, RelDs T ι bar H ds us ∧ ((∃ led, ds = [] ∧ H a = some (.ext (SetE a led))) ∨ (∃ ls, ds ≠ [] ∧ lfs ds = some ls ∧ ls.Nodup ∧ H a = some (.ext (SetF T.P T.w a ls us))) ∨ (∃ bs : List Addr, us = bs.map V.ref ∧ isKs ds = true ∧ (∀ k ∈ nks ds, k.depth ≤ 8) ∧ H a = some (.ext (SetNh T.w a (nks ds) bs))))
  | .dct ks vs, a => ∃ us ws, RelDs T ι bar H ks us ∧ RelDs T ι bar H vs ws ∧ ks.length = vs.length ∧
      ((∃ ls, ks ≠ [] ∧ lfs ks = some ls ∧ H a = some (.ext (DctF T.P T.w a ls ws))) ∨ (∃ bs : List Addr, us = bs.map V.ref ∧ isKs ks = true ∧ (∀ k ∈ nks ks, k.depth ≤ 8) ∧ ∃ ep, H a = some (.ext (DctN T.P T.w a ep (nks ks) bs ws))))
  | _, _ => False
def RelW (T : Wd) (ι : List Addr) (bar : Addr → Prop) (H : Hp) (d : D) (v : V) : Prop :=
  RelD T ι bar H d v ∨ ∃ a, v = .ref a ∧ a ∉ ι ∧ RelC T ι bar H d a
def Imm : HO → Prop
  | .tup _ => True
  | .frz _ _ => True
  | _ => False
/-- all tracked but the cells is as it was; ι' has the old cells and new ones -/
structure Stp (ι ι' : List Addr) (H H' : Hp) : Prop where
  ext : ∀ a o, H a = some o → a ∉ ι → H' a = some o
  imm : ∀ a o, H a = some o → Imm o → H' a = some o
  live : ∀ a o, H a = some o → ∃ o', H' a = some o'
  pre : ∃ more, ι' = ι ++ more ∧ ∀ a ∈ more, H a = none
theorem Stp.refl {ι : List Addr} {H : Hp} : Stp ι ι H H := ⟨fun _ _ h _ => h, fun _ _ h _ => h, fun _ o h => ⟨o, h⟩, [], by simp, by simp⟩
theorem Stp.same {ι : List Addr} {H H' : Hp} (h : ∀ a o, H a = some o → H' a = some o) : Stp ι ι H H' := ⟨fun a o e _ => h a o e, fun a o e _ => h a o e, fun a o e => ⟨o, h a o e⟩, [], by simp, by simp⟩
theorem Stp.laid {ι : List Addr} {H : Hp} {p : Addr} {o : HO} (h : H p = none) : Stp ι ι H (upd H p o) := .same fun a u e => by
  rw [upd_ne (ne_of_none e h)]; exact e
theorem Stp.back {ι ι' : List Addr} {H H' : Hp} (a : Stp ι ι' H H') {x : Addr} (h : H' x = none) : H x = none := by
  cases q : H x with
  | none => rfl
  | some o =>
    obtain ⟨o', e⟩ := a.live x o q
    rw [h] at e; cases e
theorem Stp.trans {ι ι1 ι2 : List Addr} {H H1 H2 : Hp} (a : Stp ι ι1 H H1) (b : Stp ι1 ι2 H1 H2) : Stp ι ι2 H H2 := by
  obtain ⟨m1, e1, f1⟩ := a.pre
  obtain ⟨m2, e2, f2⟩ := b.pre
  have key : ∀ x o, H x = some o → x ∉ ι → x ∉ ι1 := fun x o e n => by
    rw [e1, List.mem_append]
    rintro (z | z)
    · exact n z
    · rw [f1 x z] at e; cases e
  refine ⟨fun x o e n => b.ext x o (a.ext x o e n) (key x o e n), fun x o e i => b.imm x o (a.imm x o e i) i, fun x o e => ?_, m1 ++ m2, by rw [e2, e1, List.append_assoc], fun x hx => ?_⟩
  · obtain ⟨o1, e1⟩ := a.live x o e
    exact b.live x o1 e1
  · rcases List.mem_append.mp hx with z | z
    · exact f1 x z
    · exact a.back (f2 x z)
theorem Stp.get {ι ι' : List Addr} {H H' : Hp} (s : Stp ι ι' H H') {n : Nat} {a : Addr} (h : ι[n]? = some a) : ι'[n]? = some a := by
  obtain ⟨m, e, _⟩ := s.pre
  rw [e, List.getElem?_append_left (by
    obtain ⟨hl, _⟩ := List.getElem?_eq_some_iff.mp h
    exact hl)]
  exact h
/-- a new object, unbarred: bar' bars what bar did and new things -/
def Grows (H : Hp) (bar bar' : Addr → Prop) : Prop := ∀ a, bar' a → bar a ∨ H a = none
section
variable {T : Wd} {ι ι' : List Addr} {bar bar' : Addr → Prop} {H H' : Hp}
theorem Rd.keep (s : Stp ι ι' H H') {a : Addr} {u : HO} (h : Rd H a u) (n : a ∉ ι) : Rd H' a u := by
  rcases h with h | ⟨o, h⟩
  · exact .inl (s.ext a u h n)
  · exact .inr ⟨o, s.imm a _ h trivial⟩
theorem SqT.keep (s : Stp ι ι' H H') {a : Addr} {xs : List V} (h : SqT T.K H a xs) : SqT T.K H' a xs := by
  rcases h with (h | ⟨o, h⟩) | h
  · exact .inl (.inl (s.imm a _ h trivial))
  · exact .inl (.inr ⟨o, s.imm a _ h trivial⟩)
  · exact .inr h
theorem Rd.tracked {a : Addr} {u : HO} (h : Rd H a u) : H a ≠ none := by
  rcases h with h | ⟨o, h⟩ <;> rw [h] <;> simp
theorem nbar_keep (hb : Grows H bar bar') {a : Addr} (t : H a ≠ none) (n : ¬ bar a) : ¬ bar' a := fun z => by
  rcases hb a z with q | q
  · exact n q
  · exact t q
theorem some_ne {H : Hp} {a : Addr} {o : HO} (h : H a = some o) : H a ≠ none := by rw [h]; simp
mutual
theorem RelD.keep (s : Stp ι ι' H H') (hi : ∀ a ∈ ι, bar a) (hb : Grows H bar bar') : ∀ {d : D} {v : V}, RelD T ι bar H d v → RelD T ι' bar' H' d v
  | .non, v, h => by simpa [RelD] using h
  | .bl _, v, h => by simpa [RelD] using h
  | .int _, v, h => by simpa [RelD] using h
  | .str _, v, h => by simpa [RelD] using h
  | .tup ds, v, h => by
    simp only [RelD] at h ⊢
    obtain ⟨a, vs, e, q, r⟩ := h
    exact ⟨a, vs, e, SqT.keep s q, RelDs.keep s hi hb r⟩
  | .lst ds, v, h => by
    simp only [RelD] at h ⊢
    obtain ⟨a, vs, e, q, n, r⟩ := h
    exact ⟨a, vs, e, Rd.keep s q fun z => n (hi a z), nbar_keep hb (Rd.tracked q) n, RelDs.keep s hi hb r⟩
  | .set ds, v, h => by
    simp only [RelD] at h ⊢
    obtain ⟨a, us, e, n, r, q⟩ := h
    have na : a ∉ ι := fun z => n (hi a z)
    refine ⟨a, us, e, ?_, RelDs.keep s hi hb r, ?_⟩
    · rcases q with ⟨_, _, q⟩ | ⟨_, _, _, _, q⟩ | ⟨_, _, _, _, q⟩ <;> exact nbar_keep hb (some_ne q) n
    · rcases q with ⟨led, e1, q⟩ | ⟨ls, e0, e1, e2, q⟩ | ⟨bs, e1, e2, e3, q⟩
      · exact .inl ⟨led, e1, s.ext a _ q na⟩
      · exact .inr (.inl ⟨ls, e0, e1, e2, s.ext a _ q na⟩)
      · exact .inr (.inr ⟨bs, e1, e2, e3, s.ext a _ q na⟩)
  | .dct ks vs, v, h => by
    simp only [RelD] at h ⊢
    obtain ⟨a, us, ws, e, n, r1, r2, l, q⟩ := h
    have na : a ∉ ι := fun z => n (hi a z)
    refine ⟨a, us, ws, e, ?_, RelDs.keep s hi hb r1, RelDs.keep s hi hb r2, l, ?_⟩
    · rcases q with ⟨_, _, _, q⟩ | ⟨_, _, _, _, _, q⟩ <;> exact nbar_keep hb (some_ne q) n
    · rcases q with ⟨ls, e0, e1, q⟩ | ⟨bs, e1, e2, e3, ep, q⟩
      · exact .inl ⟨ls, e0, e1, s.ext a _ q na⟩
      · exact .inr ⟨bs, e1, e2, e3, ep, s.ext a _ q na⟩
  | .ref n, v, h => by
    simp only [RelD] at h ⊢
    obtain ⟨a, e, q⟩ := h
    exact ⟨a, s.get e, q⟩
  | .clo _ _, v, h => by simpa [RelD] using h
  | .err _ _, v, h => by simp [RelD] at h
  | .scr ns, v, h => by
    simp only [RelD] at h ⊢
    obtain ⟨a, e, q⟩ := h
    refine ⟨a, e, ?_⟩
    rcases q with ⟨o, q⟩ | q
    · exact .inl ⟨o, s.imm a _ q trivial⟩
    · exact .inr q
theorem RelDs.keep (s : Stp ι ι' H H') (hi : ∀ a ∈ ι, bar a) (hb : Grows H bar bar') : ∀ {ds : List D} {vs : List V}, RelDs T ι bar H ds vs → RelDs T ι' bar' H' ds vs
  | [], vs, h => by simpa [RelDs] using h
  | d :: ds, vs, h => by
    simp only [RelDs] at h ⊢
    obtain ⟨v, r, e, h1, h2⟩ := h
    exact ⟨v, r, e, RelD.keep s hi hb h1, RelDs.keep s hi hb h2⟩
end
theorem RelDs.nil : RelDs T ι bar H [] [] := by simp [RelDs]
theorem RelDs.cons {d : D} {v : V} {ds : List D} {vs : List V} (h : RelD T ι bar H d v) (r : RelDs T ι bar H ds vs) : RelDs T ι bar H (d :: ds) (v :: vs) := by
  simp only [RelDs]; exact ⟨v, vs, rfl, h, r⟩
theorem RelDs.uncons {d : D} {ds : List D} {vs : List V} (h : RelDs T ι bar H (d :: ds) vs) : ∃ v r, vs = v :: r ∧ RelD T ι bar H d v ∧ RelDs T ι bar H ds r := by
  simpa only [RelDs] using h
theorem RelDs.length : ∀ {ds : List D} {vs : List V}, RelDs T ι bar H ds vs → vs.length = ds.length
  | [], vs, h => by
    have : vs = [] := by simpa [RelDs] using h
    rw [this]; rfl
  | d :: ds, vs, h => by
    obtain ⟨v, r, rfl, _, h2⟩ := h.uncons
    rw [List.length_cons, List.length_cons, RelDs.length h2]
theorem RelDs.get : ∀ {ds : List D} {vs : List V} {i : Nat} {d : D}, RelDs T ι bar H ds vs → ds[i]? = some d → ∃ v, vs[i]? = some v ∧ RelD T ι bar H d v
  | [], _, _, _, _, e => by simp at e
  | d :: ds, vs, 0, x, h, e => by
    obtain ⟨v, r, rfl, h1, _⟩ := h.uncons
    simp at e; subst e
    exact ⟨v, rfl, h1⟩
  | d :: ds, vs, i + 1, x, h, e => by
    obtain ⟨v, r, rfl, _, h2⟩ := h.uncons
    obtain ⟨u, e1, r1⟩ := RelDs.get (i := i) h2 (by simpa using e)
    exact ⟨u, by simpa using e1, r1⟩
theorem RelDs.append : ∀ {ds es : List D} {vs us : List V}, RelDs T ι bar H ds vs → RelDs T ι bar H es us → RelDs T ι bar H (ds ++ es) (vs ++ us)
  | [], _, vs, _, h, q => by
    have : vs = [] := by simpa [RelDs] using h
    rw [this]; exact q
  | d :: ds, es, vs, us, h, q => by
    obtain ⟨v, r, rfl, h1, h2⟩ := h.uncons
    exact .cons h1 (RelDs.append h2 q)
theorem RelDs.take : ∀ (n : Nat) {ds : List D} {vs : List V}, RelDs T ι bar H ds vs → RelDs T ι bar H (ds.take n) (vs.take n)
  | 0, _, _, _ => by simpa using RelDs.nil
  | n + 1, [], vs, h => by
    have : vs = [] := by simpa [RelDs] using h
    rw [this]; exact .nil
  | n + 1, d :: ds, vs, h => by
    obtain ⟨v, r, rfl, h1, h2⟩ := h.uncons
    exact .cons h1 (RelDs.take n h2)
theorem RelDs.drop : ∀ (n : Nat) {ds : List D} {vs : List V}, RelDs T ι bar H ds vs → RelDs T ι bar H (ds.drop n) (vs.drop n)
  | 0, _, _, h => h
  | n + 1, [], vs, h => by
    have : vs = [] := by simpa [RelDs] using h
    rw [this]; exact .nil
  | n + 1, d :: ds, vs, h => by
    obtain ⟨v, r, rfl, h1, h2⟩ := h.uncons
    exact RelDs.drop n h2
theorem RelDs.set {d : D} {v : V} (q : RelD T ι bar H d v) : ∀ (i : Nat) {ds : List D} {vs : List V}, RelDs T ι bar H ds vs → RelDs T ι bar H (ds.set i d) (vs.set i v)
  | _, [], vs, h => by
    have : vs = [] := by simpa [RelDs] using h
    rw [this]; exact .nil
  | 0, x :: ds, vs, h => by
    obtain ⟨v, r, rfl, h1, h2⟩ := h.uncons
    exact .cons q h2
  | i + 1, x :: ds, vs, h => by
    obtain ⟨v, r, rfl, h1, h2⟩ := h.uncons
    exact .cons h1 (RelDs.set q i h2)
theorem RelDs.reverse : ∀ {ds : List D} {vs : List V}, RelDs T ι bar H ds vs → RelDs T ι bar H ds.reverse vs.reverse
  | [], vs, h => by
    have : vs = [] := by simpa [RelDs] using h
    rw [this]; exact .nil
  | d :: ds, vs, h => by
    obtain ⟨v, r, rfl, h1, h2⟩ := h.uncons
    rw [List.reverse_cons, List.reverse_cons]
    exact (RelDs.reverse h2).append (.cons h1 .nil)
theorem RelC.keep (s : Stp ι ι' H H') (hi : ∀ a ∈ ι, bar a) (hb : Grows H bar bar') {d : D} {a : Addr} (na : a ∉ ι) (h : RelC T ι bar H d a) : RelC T ι' bar' H' d a := by
  cases d with
  | lst ds =>
    obtain ⟨vs, q, r⟩ := h
    exact ⟨vs, Rd.keep s q na, r.keep s hi hb⟩
  | set ds =>
    obtain ⟨us, r, q⟩ := h
    refine ⟨us, r.keep s hi hb, ?_⟩
    rcases q with ⟨led, e1, q⟩ | ⟨ls, e0, e1, e2, q⟩ | ⟨bs, e1, e2, e3, q⟩
    · exact .inl ⟨led, e1, s.ext a _ q na⟩
    · exact .inr (.inl ⟨ls, e0, e1, e2, s.ext a _ q na⟩)
    · exact .inr (.inr ⟨bs, e1, e2, e3, s.ext a _ q na⟩)
  | dct ks vs =>
    obtain ⟨us, ws, r1, r2, l, q⟩ := h
    refine ⟨us, ws, r1.keep s hi hb, r2.keep s hi hb, l, ?_⟩
    rcases q with ⟨ls, e0, e1, q⟩ | ⟨bs, e1, e2, e3, ep, q⟩
    · exact .inl ⟨ls, e0, e1, s.ext a _ q na⟩
    · exact .inr ⟨bs, e1, e2, e3, ep, s.ext a _ q na⟩
  | _ => exact h
theorem RelC.tracked {d : D} {a : Addr} (h : RelC T ι bar H d a) : H a ≠ none := by
  cases d with
  | lst ds => obtain ⟨vs, q, r⟩ := h; exact Rd.tracked q
  | set ds => obtain ⟨us, r, q⟩ := h; rcases q with ⟨_, _, q⟩ | ⟨_, _, _, _, q⟩ | ⟨_, _, _, _, q⟩ <;> exact some_ne q
  | dct ks vs => obtain ⟨us, ws, r1, r2, l, q⟩ := h; rcases q with ⟨_, _, _, q⟩ | ⟨_, _, _, _, _, q⟩ <;> exact some_ne q
  | _ => exact h.elim
/-- an unbarred container, as a value -/
theorem RelC.val {d : D} {a : Addr} (h : RelC T ι bar H d a) (n : ¬ bar a) : RelD T ι bar H d (.ref a) := by
  cases d with
  | lst ds => obtain ⟨vs, q, r⟩ := h; simp only [RelD]; exact ⟨a, vs, rfl, q, n, r⟩
  | set ds => obtain ⟨us, r, q⟩ := h; simp only [RelD]; exact ⟨a, us, rfl, n, r, q⟩
  | dct ks vs => obtain ⟨us, ws, r1, r2, l, q⟩ := h; simp only [RelD]; exact ⟨a, us, ws, rfl, n, r1, r2, l, q⟩
  | _ => exact h.elim
theorem RelW.keep (s : Stp ι ι' H H') (hi : ∀ a ∈ ι, bar a) (hb : Grows H bar bar') {d : D} {v : V} (h : RelW T ι bar H d v) : RelW T ι' bar' H' d v := by
  rcases h with h | ⟨a, e, na, h⟩
  · exact .inl (h.keep s hi hb)
  · refine .inr ⟨a, e, fun z => ?_, h.keep s hi hb na⟩
    obtain ⟨m, e1, f⟩ := s.pre
    rw [e1, List.mem_append] at z
    rcases z with z | z
    · exact na z
    · exact h.tracked (f a z)
theorem RelD.weak {d : D} {v : V} (h : RelD T ι bar H d v) : RelW T ι bar H d v := .inl h
mutual
/-- fewer things barred -/
theorem RelD.fewer (hb : ∀ a, bar' a → bar a) : ∀ {d : D} {v : V}, RelD T ι bar H d v → RelD T ι bar' H d v
  | .non, v, h => by simpa [RelD] using h
  | .bl _, v, h => by simpa [RelD] using h
  | .int _, v, h => by simpa [RelD] using h
  | .str _, v, h => by simpa [RelD] using h
  | .tup ds, v, h => by
    simp only [RelD] at h ⊢
    obtain ⟨a, vs, e, q, r⟩ := h
    exact ⟨a, vs, e, q, RelDs.fewer hb r⟩
  | .lst ds, v, h => by
    simp only [RelD] at h ⊢
    obtain ⟨a, vs, e, q, n, r⟩ := h
    exact ⟨a, vs, e, q, fun z => n (hb a z), RelDs.fewer hb r⟩
  | .set ds, v, h => by
    simp only [RelD] at h ⊢
    obtain ⟨a, us, e, n, r, q⟩ := h
    exact ⟨a, us, e, fun z => n (hb a z), RelDs.fewer hb r, q⟩
  | .dct ks vs, v, h => by
    simp only [RelD] at h ⊢
    obtain ⟨a, us, ws, e, n, r1, r2, l, q⟩ := h
    exact ⟨a, us, ws, e, fun z => n (hb a z), RelDs.fewer hb r1, RelDs.fewer hb r2, l, q⟩
  | .ref n, v, h => by simpa [RelD] using h
  | .clo _ _, v, h => by simpa [RelD] using h
  | .err _ _, v, h => by simp [RelD] at h
  | .scr ns, v, h => by simpa [RelD] using h
theorem RelDs.fewer (hb : ∀ a, bar' a → bar a) : ∀ {ds : List D} {vs : List V}, RelDs T ι bar H ds vs → RelDs T ι bar' H ds vs
  | [], vs, h => by simpa [RelDs] using h
  | d :: ds, vs, h => by
    simp only [RelDs] at h ⊢
    obtain ⟨v, r, e, h1, h2⟩ := h
    exact ⟨v, r, e, RelD.fewer hb h1, RelDs.fewer hb h2⟩
end
theorem RelC.fewer (hb : ∀ a, bar' a → bar a) {d : D} {a : Addr} (h : RelC T ι bar H d a) : RelC T ι bar' H d a := by
  cases d with
  | lst ds => obtain ⟨vs, q, r⟩ := h; exact ⟨vs, q, r.fewer hb⟩
  | set ds => obtain ⟨us, r, q⟩ := h; exact ⟨us, r.fewer hb, q⟩
  | dct ks vs => obtain ⟨us, ws, r1, r2, l, q⟩ := h; exact ⟨us, ws, r1.fewer hb, r2.fewer hb, l, q⟩
  | _ => exact h
def MkR (T : Wd) (ι : List Addr) (bar : Addr → Prop) (H : Hp) : Mk → Prop
  | .ex _ dx c ds => ∃ ws, RelDs T ι bar H ds ws ∧ (T.cf c).length = ds.length ∧ H dx = some (.xd ((T.cf c).zip ws)) ∧ ¬ bar dx
  | .fn _ c o ds vs => H c = some o ∧ ¬ bar c ∧ RelDs T ι bar H ds vs
theorem MkR.keep (s : Stp ι ι' H H') (hi : ∀ a ∈ ι, bar a) (hb : Grows H bar bar') : ∀ {m : Mk}, MkR T ι bar H m → MkR T ι' bar' H' m
  | .ex _ dx c ds, ⟨ws, r, l, e, n⟩ => ⟨ws, r.keep s hi hb, l, s.ext _ _ e fun z => n (hi _ z), nbar_keep hb (some_ne e) n⟩
  | .fn _ c o ds vs, ⟨e, n, r⟩ => ⟨s.ext _ _ e fun z => n (hi _ z), nbar_keep hb (some_ne e) n, r.keep s hi hb⟩
theorem MkR.fewer (hb : ∀ a, bar' a → bar a) : ∀ {m : Mk}, MkR T ι bar H m → MkR T ι bar' H m
  | .ex _ dx c ds, ⟨ws, r, l, e, n⟩ => ⟨ws, r.fewer hb, l, e, fun z => n (hb _ z)⟩
  | .fn _ c o ds vs, ⟨e, n, r⟩ => ⟨e, fun z => n (hb _ z), r.fewer hb⟩
end
end Z
namespace Z
open PySem PySem.Spec PyProof.Rows L2
set_option autoImplicit false
inductive Sl where
  | no | val (d : D) | own (d : D) | mk (k : Nat)
abbrev Env := List Sl
/-- a cell: what may be changed from anywhere -/
inductive Cell where
  | dk (ks : List Str) (vs : List D)
  | tb (q : Str)
  | ls (vs : List D)
  /-- an object: its class, its fields -/
  | ob (c : Nat) (fs : List (Str × D))
abbrev G := List Cell
structure Xc where
  c : Nat
  ds : List D
inductive Res (α : Type) where
  | ok (a : α) (g : G)
  | exc (x : Xc) (g : G)
  | bad
def Res.bind {α β : Type} : Res α → (α → G → Res β) → Res β
  | .ok a g, f => f a g
  | .exc x g, _ => .exc x g
  | .bad, _ => .bad
abbrev Ev := Env → G → Res D
abbrev EvL := Env → G → Res (List D)
abbrev EvB := Env → G → Res Bool
section
variable (T : Wd) (ι : List Addr) (bar : Addr → Prop) (H : Hp)
/-- a table of code objects that bear the name q -/
def TabZ (P : Addr) (q : Str) : Prop := ∃ ps : Array Value, H P = some (.tbl ps) ∧ TriplesOk ps.toList ∧ ∀ (pos : Pos) (cv : Value), codeAmong pos ps.toList = some cv → ∃ c, cv = .ref c ∧ H c = some (LamX.CodeO c q) ∧ ¬ bar c
def RelCell : Cell → Addr → Prop
  | .dk ks vs, a => ∃ ws, RelDs T ι bar H vs ws ∧ ks.length = vs.length ∧ H a = some (.dK ((ks.map Sum.inr).zip ws))
  | .tb q, a => a = T.tb q ∧ TabZ bar H a q
  | .ls vs, a => ∃ ws, RelDs T ι bar H vs ws ∧ H a = some (.lst ws)
  | .ob c fs, a => ∃ ws, RelDs T ι bar H (fs.map (·.2)) ws ∧ ∃ dx, H a = some (.ins (T.oc c) dx ((fs.map (·.1)).zip ws))
structure GR (g : G) : Prop where
  len : ι.length = g.length
  nd : ι.Nodup
  at_ : ∀ (n : Nat) (c : Cell), g[n]? = some c → ∃ a, ι[n]? = some a ∧ RelCell T ι bar H c a
end
theorem RelCell.tracked {T : Wd} {ι : List Addr} {bar : Addr → Prop} {H : Hp} {c : Cell} {a : Addr} (h : RelCell T ι bar H c a) : H a ≠ none := by
  cases c with
  | dk ks vs => obtain ⟨ws, _, _, e⟩ := h; exact some_ne e
  | tb q => obtain ⟨_, ps, e, _⟩ := h; exact some_ne e
  | ls vs => obtain ⟨ws, _, e⟩ := h; exact some_ne e
  | ob k fs => obtain ⟨ws, _, dx_, e⟩ := h; exact some_ne e
theorem GR.tracked {T : Wd} {ι : List Addr} {bar : Addr → Prop} {H : Hp} {g : G} (h : GR T ι bar H g) : ∀ a ∈ ι, H a ≠ none := fun a ha => by
  obtain ⟨n, hn, e⟩ := List.getElem_of_mem ha
  have h2 : n < g.length := by rw [← h.len]; exact hn
  obtain ⟨b, e1, r⟩ := h.at_ n g[n] (List.getElem?_eq_getElem h2)
  rw [List.getElem?_eq_getElem hn, e] at e1
  cases e1
  exact r.tracked
theorem RelCell.keep {T : Wd} {ι : List Addr} {bar bar' : Addr → Prop} {H H' : Hp} (s : Same H H') (hi : ∀ a ∈ ι, bar a) (hb : Grows H bar bar') {c : Cell} {a : Addr} (h : RelCell T ι bar H c a) : RelCell T ι bar' H' c a := by
  cases c with
  | dk ks vs =>
    obtain ⟨ws, r, l, e⟩ := h
    exact ⟨ws, r.keep (.same s) hi hb, l, s _ _ e⟩
  | tb q =>
    obtain ⟨eP, ps, e, t, f⟩ := h
    refine ⟨eP, ps, s _ _ e, t, fun pos cv hc => ?_⟩
    obtain ⟨c, e1, e2, n⟩ := f pos cv hc
    exact ⟨c, e1, s _ _ e2, nbar_keep hb (some_ne e2) n⟩
  | ls vs =>
    obtain ⟨ws, r, e⟩ := h
    exact ⟨ws, r.keep (.same s) hi hb, s _ _ e⟩
  | ob k fs =>
    obtain ⟨ws, r, dx_, e⟩ := h
    exact ⟨ws, r.keep (.same s) hi hb, dx_, s _ _ e⟩
theorem RelCell.fewer {T : Wd} {ι : List Addr} {bar bar' : Addr → Prop} {H : Hp} (hb : ∀ a, bar' a → bar a) {c : Cell} {a : Addr} (h : RelCell T ι bar H c a) : RelCell T ι bar' H c a := by
  cases c with
  | dk ks vs =>
    obtain ⟨ws, r, l, e⟩ := h
    exact ⟨ws, r.fewer hb, l, e⟩
  | tb q =>
    obtain ⟨eP, ps, e, t, f⟩ := h
    refine ⟨eP, ps, e, t, fun pos cv hc => ?_⟩
    obtain ⟨c, e1, e2, n⟩ := f pos cv hc
    exact ⟨c, e1, e2, fun z => n (hb _ z)⟩
  | ls vs =>
    obtain ⟨ws, r, e⟩ := h
    exact ⟨ws, r.fewer hb, e⟩
  | ob k fs =>
    obtain ⟨ws, r, dx_, e⟩ := h
    exact ⟨ws, r.fewer hb, dx_, e⟩
theorem GR.keep {T : Wd} {ι : List Addr} {bar bar' : Addr → Prop} {H H' : Hp} {g : G} (h : GR T ι bar H g) (s : Same H H') (hi : ∀ a ∈ ι, bar a) (hb : Grows H bar bar') : GR T ι bar' H' g :=
  ⟨h.len, h.nd, fun n c e => let ⟨a, e1, r⟩ := h.at_ n c e; ⟨a, e1, r.keep s hi hb⟩⟩
theorem GR.fewer {T : Wd} {ι : List Addr} {bar bar' : Addr → Prop} {H : Hp} {g : G} (h : GR T ι bar H g) (hb : ∀ a, bar' a → bar a) : GR T ι bar' H g :=
  ⟨h.len, h.nd, fun n c e => let ⟨a, e1, r⟩ := h.at_ n c e; ⟨a, e1, r.fewer hb⟩⟩
/-- what is known besides: the cells' addresses, the addresses of the containers that a name of the def owns, other barred ones -/
structure Gho where
  ι : List Addr
  oa : Nat → Option Addr
  av : Addr → Prop
def Gho.bar (γ : Gho) : Addr → Prop := fun a => a ∈ γ.ι ∨ (∃ i, γ.oa i = some a) ∨ γ.av a
abbrev Gho.to (γ : Gho) (ι' : List Addr) : Gho := { γ with ι := ι' }
structure StR (T : Wd) (γ : Gho) (H : Hp) (ρ : Env) (σ : L2.St) (g : G) : Prop where
  len : σ.length = ρ.length
  vals : ∀ (i : Nat) (d : D), ρ[i]? = some (.val d) → ∃ v, σ[i]? = some (some v) ∧ RelD T γ.ι γ.bar H d v
  owns : ∀ (i : Nat) (d : D), ρ[i]? = some (.own d) → ∃ a, γ.oa i = some a ∧ σ[i]? = some (some (.ref a)) ∧ RelC T γ.ι γ.bar H d a ∧ Mut (H a)
  oad : ∀ (i : Nat) (a : Addr), γ.oa i = some a → ∃ d, ρ[i]? = some (.own d)
  oinj : ∀ i j a, γ.oa i = some a → γ.oa j = some a → i = j
  oi : ∀ i a, γ.oa i = some a → a ∉ γ.ι ∧ ¬ γ.av a
  avt : ∀ a, γ.av a → H a ≠ none
  cells : GR T γ.ι γ.bar H g
  mks : ∀ (i k : Nat), ρ[i]? = some (.mk k) → ∃ m, T.mks k = some m ∧ σ[i]? = some (some (.ref m.at_)) ∧ MkR T γ.ι γ.bar H m
theorem mk_of_set {ρ : Env} {i j k : Nat} {s : Sl} (n : ∀ k, s ≠ .mk k) (h : (ρ.set i s)[j]? = some (.mk k)) : i ≠ j ∧ ρ[j]? = some (.mk k) := by
  by_cases e : i = j
  · subst e
    have hl : i < ρ.length := by simpa using (List.getElem?_eq_some_iff.mp h).1
    rw [List.getElem?_set_self hl] at h
    exact absurd (Option.some.inj h) (n k)
  · rw [List.getElem?_set_ne e] at h; exact ⟨e, h⟩
section
variable {T : Wd} {γ : Gho} {ι' : List Addr} {H H' : Hp} {ρ : Env} {σ : L2.St} {g g' : G}
theorem Gho.bi (γ : Gho) : ∀ a ∈ γ.ι, γ.bar a := fun _ h => .inl h
theorem Gho.grows (s : Stp γ.ι ι' H H') : Grows H γ.bar (γ.to ι').bar := fun a h => by
  rcases h with h | h | h
  · obtain ⟨m, e, f⟩ := s.pre
    have h : a ∈ ι' := h
    rw [e, List.mem_append] at h
    rcases h with h | h
    · exact .inl (.inl h)
    · exact .inr (f a h)
  · exact .inl (.inr (.inl h))
  · exact .inl (.inr (.inr h))
theorem StR.owned (R : StR T γ H ρ σ g) {i : Nat} {a : Addr} (h : γ.oa i = some a) : H a ≠ none := by
  obtain ⟨d, e⟩ := R.oad i a h
  obtain ⟨b, e1, _, r, _⟩ := R.owns i d e
  rw [h] at e1; cases e1
  exact r.tracked
theorem StR.bart (R : StR T γ H ρ σ g) : ∀ a, γ.bar a → H a ≠ none := fun a h => by
  rcases h with h | ⟨i, h⟩ | h
  · exact R.cells.tracked a h
  · exact R.owned h
  · exact R.avt a h
theorem StR.step (R : StR T γ H ρ σ g) (s : Stp γ.ι ι' H H') (G' : GR T ι' (γ.to ι').bar H' g') : StR T (γ.to ι') H' ρ σ g' where
  len := R.len
  vals := fun i d e => let ⟨v, e1, r⟩ := R.vals i d e; ⟨v, e1, r.keep s γ.bi (Gho.grows s)⟩
  owns := fun i d e => by
    obtain ⟨a, e1, e2, r, m⟩ := R.owns i d e
    have na := (R.oi i a e1).1
    refine ⟨a, e1, e2, r.keep s γ.bi (Gho.grows s) na, ?_⟩
    cases q : H a with
    | none => rw [q] at m; exact m.elim
    | some o => rw [s.ext a o q na, ← q]; exact m
  oad := R.oad
  oinj := R.oinj
  oi := fun i a e => by
    refine ⟨fun z => ?_, (R.oi i a e).2⟩
    obtain ⟨m, e1, f⟩ := s.pre
    have z : a ∈ ι' := z
    rw [e1, List.mem_append] at z
    rcases z with z | z
    · exact (R.oi i a e).1 z
    · exact R.owned e (f a z)
  avt := fun a h => by
    cases q : H a with
    | none => exact absurd q (R.avt a h)
    | some o =>
      obtain ⟨o', e⟩ := s.live a o q
      rw [e]; simp
  cells := G'
  mks := fun i k e => let ⟨m, e1, e2, r⟩ := R.mks i k e; ⟨m, e1, e2, r.keep s γ.bi (Gho.grows s)⟩
/-- new objects alone -/
theorem StR.same (R : StR T γ H ρ σ g) (s : Same H H') : StR T γ H' ρ σ g :=
  R.step (.same s) (R.cells.keep s γ.bi (Gho.grows (.same s)))
end
/-- an error, as its object lies -/
def ExcR (T : Wd) (ι : List Addr) (bar : Addr → Prop) (H : Hp) (x : Xc) (cls : Value) (dx : Option Addr) : Prop :=
  cls = T.ct x.c ∧ ∃ d ws, dx = some d ∧ RelDs T ι bar H x.ds ws ∧ (T.cf x.c).length = x.ds.length ∧ H d = some (.xd ((T.cf x.c).zip ws)) ∧ ¬ bar d
/-- how results are told -/
abbrev Rel (α β : Type) := List Addr → (Addr → Prop) → Hp → α → β → Prop
def Post {α β : Type} (T : Wd) (γ : Gho) (H : Hp) (σ : L2.St) (W : WX) (R : Rel α β) (Q : β → Hp → Prop) : Res α → Prop
  | .ok d g' => ∀ v ι' H', Stp γ.ι ι' H H' → GR T ι' (γ.to ι').bar H' g' → R ι' (γ.to ι').bar H' d v → Q v H'
  | .exc x g' => ∀ cls dx ι' H', Stp γ.ι ι' H H' → GR T ι' (γ.to ι').bar H' g' → ExcR T ι' (γ.to ι').bar H' x cls dx → W cls dx σ H'
  | .bad => False
theorem Post.after {α β : Type} {T : Wd} {γ : Gho} {H H1 : Hp} {σ : L2.St} {W : WX} {R : Rel α β} {Q : β → Hp → Prop} {ι1 : List Addr} (s : Stp γ.ι ι1 H H1) : ∀ {r : Res α}, Post T γ H σ W R Q r → Post T (γ.to ι1) H1 σ W R Q r
  | .ok d g', h => fun v ι' H' s1 G1 r1 => h v ι' H' (s.trans s1) G1 r1
  | .exc x g', h => fun cls dx ι' H' s1 G1 r1 => h cls dx ι' H' (s.trans s1) G1 r1
  | .bad, h => h
theorem Post.bind {α β α' β' : Type} {T : Wd} {γ : Gho} {H : Hp} {σ : L2.St} {W : WX} {R : Rel α β} {R1 : Rel α' β'} {Q : β → Hp → Prop} {Q1 : β' → Hp → Prop} {r : Res α'} {k : α' → G → Res α} (h : Post T γ H σ W R Q (r.bind k))
    (hk : ∀ d g1, r = .ok d g1 → ∀ v ι1 H1, Stp γ.ι ι1 H H1 → GR T ι1 (γ.to ι1).bar H1 g1 → R1 ι1 (γ.to ι1).bar H1 d v → Post T (γ.to ι1) H1 σ W R Q (k d g1) → Q1 v H1) : Post T γ H σ W R1 Q1 r := by
  cases r with
  | ok d g1 => exact fun v ι1 H1 s G1 r1 => hk d g1 rfl v ι1 H1 s G1 r1 (Post.after s h)
  | exc x g1 => exact h
  | bad => exact h
/-- the reading of an expression -/
def tX {α β : Type} (T : Wd) (W : WX) (R : Rel α β) (m : Env → G → Res α) : L2.St → Hp → (β → Hp → Prop) → Prop :=
  fun σ H Q => ∃ γ ρ g, StR T γ H ρ σ g ∧ Post T γ H σ W R Q (m ρ g)
abbrev rD (T : Wd) : Rel D V := fun ι bar H d v => RelD T ι bar H d v
abbrev rW (T : Wd) : Rel D V := fun ι bar H d v => RelW T ι bar H d v
abbrev rDs (T : Wd) : Rel (List D) (List V) := fun ι bar H d v => RelDs T ι bar H d v
abbrev rB : Rel Bool Bool := fun _ _ _ b c => c = b
/-- the world of a context -/
structure Ok (T : Wd) (X : Cx) : Prop where
  P : X.prog = T.P
  w : X.w = T.w
  K : X.K = T.K
/-- an expression does what m says: a value that may be kept -/
abbrev EE (T : Wd) (W : WX) (X : Cx) (e : Expr) (m : Ev) : Prop := PE X e (tX T W (rD T) m)
/-- .. a value that is only looked at -/
abbrev EW (T : Wd) (W : WX) (X : Cx) (e : Expr) (m : Ev) : Prop := PE X e (tX T W (rW T) m)
abbrev EB (T : Wd) (W : WX) (X : Cx) (e : Expr) (m : EvB) : Prop := PT X e (tX T W rB m)
abbrev EAs (T : Wd) (W : WX) (X : Cx) (es : List Expr) (m : EvL) : Prop := PA X es (tX T W (rDs T) m)
theorem PE.imp {X : Cx} {e : Expr} {t t' : TE} (h : PE X e t) (i : ∀ σ H Q, t' σ H Q → t σ H Q) : PE X e t' := ⟨fun pins s σ H Q I q => h.run pins s σ H Q I (i σ H Q q)⟩
theorem PT.imp {X : Cx} {e : Expr} {t t' : TT} (h : PT X e t) (i : ∀ σ H Q, t' σ H Q → t σ H Q) : PT X e t' := ⟨fun pins s σ H Q I q => h.run pins s σ H Q I (i σ H Q q)⟩
theorem PA.imp {X : Cx} {e : List Expr} {t t' : TA} (h : PA X e t) (i : ∀ σ H Q, t' σ H Q → t σ H Q) : PA X e t' := ⟨fun pos pins s σ H Q I q => h.run pos pins s σ H Q I (i σ H Q q)⟩
theorem PS.imp {X : Cx} {e : Stmt} {t t' : TS} (h : PS X e t) (i : ∀ D σ H, t' D σ H → t D σ H) : PS X e t' := ⟨fun pins s σ H D I q => h.run pins s σ H D I (i D σ H q)⟩
theorem PSs.imp {X : Cx} {e : List Stmt} {t t' : TS} (h : PSs X e t) (i : ∀ D σ H, t' D σ H → t D σ H) : PSs X e t' := ⟨fun pins s σ H D I q => h.run pins s σ H D I (i D σ H q)⟩
theorem Post.rel {α β : Type} {T : Wd} {γ : Gho} {H : Hp} {σ : L2.St} {W : WX} {R R' : Rel α β} {Q : β → Hp → Prop} (i : ∀ ι bar H d v, R' ι bar H d v → R ι bar H d v) : ∀ {r : Res α}, Post T γ H σ W R Q r → Post T γ H σ W R' Q r
  | .ok d g', h => fun v ι' H' s1 G1 r1 => h v ι' H' s1 G1 (i _ _ _ _ _ r1)
  | .exc x g', h => h
  | .bad, h => h
theorem EE.weak {T : Wd} {W : WX} {X : Cx} {e : Expr} {m : Ev} (h : EE T W X e m) : EW T W X e m :=
  PE.imp h fun σ H Q ⟨γ, ρ, g, R, p⟩ => ⟨γ, ρ, g, R, p.rel fun _ _ _ _ _ r => .inl r⟩
end Z
namespace Z
open PySem PySem.Spec PyProof.Rows L2
set_option autoImplicit false
section
variable {X : Cx} {T : Wd} {pins : List (Addr × Obj)} {σ : L2.St} {H : Hp} {s : Shared} {ι : List Addr} {bar : Addr → Prop}
mutual
theorem RelD.reads (ok : Ok T X) (I : Inv X pins σ H s) : ∀ {d : D} {v : V} {u : Value}, RelD T ι bar H d v → RelV v u → isD d = true → ∃ as, Reads s.heap u (py d) as
  | .non, v, u, h, r, _ => by
    simp only [RelD] at h; subst h; cases r
    exact ⟨_, .none⟩
  | .bl b, v, u, h, r, _ => by
    simp only [RelD] at h; subst h; cases r
    exact ⟨_, .bool b⟩
  | .int i, v, u, h, r, _ => by
    simp only [RelD] at h; subst h; obtain ⟨t, rfl⟩ := r
    exact ⟨_, .int i t⟩
  | .str x, v, u, h, r, _ => by
    simp only [RelD] at h; subst h; obtain ⟨t, rfl⟩ := r
    exact ⟨_, .str x t⟩
  | .tup ds, v, u, h, r, g => by
    simp only [RelD] at h
    obtain ⟨a, vs, rfl, q, rs⟩ := h
    cases r
    rw [← ok.K] at q
    obtain ⟨its, rv, ⟨o, ho, hc, n, hd⟩, _⟩ := I.tuple q
    obtain ⟨as, hr⟩ := RelDs.reads ok I rs rv (by simpa [isD] using g)
    exact ⟨_, .tuple ho hc hd hr⟩
  | .lst ds, v, u, h, r, g => by
    simp only [RelD] at h
    obtain ⟨a, vs, rfl, q, _, rs⟩ := h
    cases r
    obtain ⟨its, rv, ⟨o, n, ho, hc, _, hd⟩, _⟩ := I.list (.inl q)
    obtain ⟨as, hr⟩ := RelDs.reads ok I rs rv (by simpa [isD] using g)
    exact ⟨_, .list ho hc hd hr⟩
  | .set _, _, _, _, _, g => by simp [isD] at g
  | .dct _ _, _, _, _, _, g => by simp [isD] at g
  | .ref _, _, _, _, _, g => by simp [isD] at g
  | .clo _ _, _, _, _, _, g => by simp [isD] at g
  | .err _ _, _, _, _, _, g => by simp [isD] at g
  | .scr _, _, _, _, _, g => by simp [isD] at g
theorem RelDs.reads (ok : Ok T X) (I : Inv X pins σ H s) : ∀ {ds : List D} {vs : List V} {us : List Value}, RelDs T ι bar H ds vs → Vals vs us → isDs ds = true → ∃ as, ReadsAll s.heap us (pys ds) as
  | [], vs, us, h, r, _ => by
    have : vs = [] := by simpa [RelDs] using h
    subst this; cases r
    exact ⟨_, .nil⟩
  | d :: ds, vs, us, h, r, g => by
    obtain ⟨v, vr, rfl, h1, h2⟩ := h.uncons
    cases r with
    | cons r1 r2 =>
      have g' : isD d = true ∧ isDs ds = true := by simpa [isDs] using g
      obtain ⟨as, q1⟩ := RelD.reads ok I h1 r1 g'.1
      obtain ⟨bs, q2⟩ := RelDs.reads ok I h2 r2 g'.2
      exact ⟨_, .cons q1 q2⟩
end
theorem RelW.reads (ok : Ok T X) (I : Inv X pins σ H s) {d : D} {v : V} {u : Value} (h : RelW T ι bar H d v) (r : RelV v u) (g : isD d = true) : ∃ as, Reads s.heap u (py d) as := by
  rcases h with h | ⟨a, rfl, _, h⟩
  · exact h.reads ok I r g
  · cases d with
    | lst ds =>
      obtain ⟨vs, q, rs⟩ := h
      cases r
      obtain ⟨its, rv, ⟨o, n, ho, hc, _, hd⟩, _⟩ := I.list (.inl q)
      obtain ⟨as, hr⟩ := RelDs.reads ok I rs rv (by simpa [isD] using g)
      exact ⟨_, .list ho hc hd hr⟩
    | set ds => simp [isD] at g
    | dct ks vs => simp [isD] at g
    | _ => exact h.elim
end
mutual
theorem plain_of : ∀ d : D, isD d = true → (py d).plain = true
  | .non, _ => by simp [py, PyData.plain]
  | .bl _, _ => by simp [py, PyData.plain]
  | .int _, _ => by simp [py, PyData.plain]
  | .str _, _ => by simp [py, PyData.plain]
  | .tup ds, g => by simp only [py, PyData.plain]; exact plains_of ds (by simpa [isD] using g)
  | .lst ds, g => by simp only [py, PyData.plain]; exact plains_of ds (by simpa [isD] using g)
  | .set _, g => by simp [isD] at g
  | .dct _ _, g => by simp [isD] at g
  | .ref _, g => by simp [isD] at g
  | .clo _ _, g => by simp [isD] at g
  | .err _ _, g => by simp [isD] at g
  | .scr _, g => by simp [isD] at g
theorem plains_of : ∀ ds : List D, isDs ds = true → PyData.plainAll (pys ds) = true
  | [], _ => by simp [pys, PyData.plainAll]
  | d :: ds, g => by
    have g' : isD d = true ∧ isDs ds = true := by simpa [isDs] using g
    simp only [pys, PyData.plainAll, plain_of d g'.1, plains_of ds g'.2, Bool.and_self]
end
/-- a two-place operation: what it answers, where it does -/
def rOp (T : Wd) (k : D → D → Option D) : R2 := fun x y H Q => ∃ (ι : List Addr) (bar : Addr → Prop) (d e r : D), (∀ a, bar a → H a ≠ none) ∧ (∀ a ∈ ι, bar a) ∧
  RelW T ι bar H d x ∧ RelW T ι bar H e y ∧ k d e = some r ∧ ∀ z H', Same H H' → RelD T ι bar H' r z → Q z H'
/-- a one-place one -/
def rUn (T : Wd) (k : D → Option D) : V → Hp → VK → Prop := fun x H Q => ∃ (ι : List Addr) (bar : Addr → Prop) (d r : D), (∀ a, bar a → H a ≠ none) ∧ (∀ a ∈ ι, bar a) ∧
  RelW T ι bar H d x ∧ k d = some r ∧ ∀ z H', Same H H' → RelD T ι bar H' r z → Q z H'
abbrev OpD (T : Wd) (X : Cx) (f : Value → Value → Sem Value) (k : D → D → Option D) : Prop := OpR X f (rOp T k)
abbrev UnD (T : Wd) (X : Cx) (f : Value → Sem Value) (k : D → Option D) : Prop := UnR X f (rUn T k)
/-- a call of a builtin with one value, two values -/
abbrev Call1 (T : Wd) (X : Cx) (f : Value) (k : D → Option D) : Prop := UnD T X (fun v => call f [v]) k
section
variable {T : Wd} {ι : List Addr} {bar : Addr → Prop} {H : Hp} {x : V}
theorem RelW.non (h : RelW T ι bar H .non x) : x = .non := by
  rcases h with h | ⟨a, _, _, h⟩
  · simpa [RelD] using h
  · exact h.elim
theorem RelW.bl {b : Bool} (h : RelW T ι bar H (.bl b) x) : x = .bl b := by
  rcases h with h | ⟨a, _, _, h⟩
  · simpa [RelD] using h
  · exact h.elim
theorem RelW.int {b : Int} (h : RelW T ι bar H (.int b) x) : x = .int b := by
  rcases h with h | ⟨a, _, _, h⟩
  · simpa [RelD] using h
  · exact h.elim
theorem RelW.str {b : Str} (h : RelW T ι bar H (.str b) x) : x = .str b := by
  rcases h with h | ⟨a, _, _, h⟩
  · simpa [RelD] using h
  · exact h.elim
theorem RelW.tup {ds : List D} (h : RelW T ι bar H (.tup ds) x) : ∃ a vs, x = .ref a ∧ SqT T.K H a vs ∧ RelDs T ι bar H ds vs := by
  rcases h with h | ⟨a, _, _, h⟩
  · simpa only [RelD] using h
  · exact h.elim
theorem RelW.lst {ds : List D} (h : RelW T ι bar H (.lst ds) x) : ∃ a vs, x = .ref a ∧ Rd H a (.lst vs) ∧ RelDs T ι bar H ds vs := by
  rcases h with h | ⟨a, e, _, h⟩
  · simp only [RelD] at h
    obtain ⟨a, vs, e, q, _, r⟩ := h
    exact ⟨a, vs, e, q, r⟩
  · obtain ⟨vs, q, r⟩ := h
    exact ⟨a, vs, e, q, r⟩
theorem RelD.ofInt (i : Int) : RelD T ι bar H (.int i) (.int i) := by simp [RelD]
theorem RelD.ofBl (i : Bool) : RelD T ι bar H (.bl i) (.bl i) := by simp [RelD]
theorem RelD.ofStr (i : Str) : RelD T ι bar H (.str i) (.str i) := by simp [RelD]
theorem RelD.ofNon : RelD T ι bar H .non .non := by simp [RelD]
/-- a new tuple, a new list -/
theorem RelD.newTup {ds : List D} {vs : List V} {p : Addr} (hi : ∀ a ∈ ι, bar a) (hp : H p = none) (r : RelDs T ι bar H ds vs) : RelD T ι bar (upd H p (.tup vs)) (.tup ds) (.ref p) := by
  simp only [RelD]
  exact ⟨p, vs, rfl, .inl (.inl upd_same), r.keep (Stp.laid hp) hi fun a h => .inl h⟩
theorem RelD.newLst {ds : List D} {vs : List V} {p : Addr} (hb : ∀ a, bar a → H a ≠ none) (hi : ∀ a ∈ ι, bar a) (hp : H p = none) (r : RelDs T ι bar H ds vs) : RelD T ι bar (upd H p (.lst vs)) (.lst ds) (.ref p) := by
  simp only [RelD]
  exact ⟨p, vs, rfl, .inl upd_same, fun z => hb p z hp, r.keep (Stp.laid hp) hi fun a h => .inl h⟩
theorem same_upd {H : Hp} {p : Addr} {o : HO} (h : H p = none) : Same H (upd H p o) := fun b x e => by
  rw [upd_ne (ne_of_none e h)]; exact e
end
end Z
namespace Z
open PySem PySem.Spec PyProof.Rows L2
set_option autoImplicit false
/-- what a context has besides: room on the stacks, no repr under way -/
structure Rm (X : Cx) : Prop where
  hu : X.A.units + 120 < cLine
  hg : X.A.guards = some []
abbrev sh (d : D) : Bool := decide ((py d).depth ≤ 60)
abbrev shs (ds : List D) : Bool := decide (PyData.depthAll (pys ds) ≤ 60)
def eqO (d e : D) : Option D := if isD d && isD e && (sh d || sh e) then some (.bl (PyData.eqv (py d) (py e))) else none
def neO (d e : D) : Option D := if isD d && isD e && (sh d || sh e) then some (.bl (!PyData.eqv (py d) (py e))) else none
def isNon : D → Bool
  | .non => true
  | _ => false
def cmpOk (d e : D) : Bool := isD d && isD e && (sh d || sh e) && PySem.W.alike (py d) (py e) && !isNon d
def ltO (d e : D) : Option D := if cmpOk d e then some (.bl (PySem.W.dataLt (py d) (py e))) else none
def gtO (d e : D) : Option D := if cmpOk d e then some (.bl (PySem.W.dataLt (py e) (py d))) else none
def leO (d e : D) : Option D := if cmpOk d e then some (.bl (!PySem.W.dataLt (py e) (py d))) else none
def geO (d e : D) : Option D := if cmpOk d e then some (.bl (!PySem.W.dataLt (py d) (py e))) else none
def strIn (x y : Str) : Bool := !(Builtin.Str.occurrences y x 0 y.length 1).isEmpty
def mem (ds : List D) (d : D) : Bool := (pys ds).any fun y => PyData.eqv y (py d)
def inB (d e : D) : Option Bool := match d, e with
  | .str x, .str y => some (strIn x y)
  | d, .lst ds => if isD d && isDs ds && (sh d || shs ds) then some (mem ds d) else none
  | d, .tup ds => if isD d && isDs ds && (sh d || shs ds) then some (mem ds d) else none
  | _, _ => none
def inO (d e : D) : Option D := (inB d e).map .bl
def notInO (d e : D) : Option D := (inB d e).map fun b => .bl !b
def isO (d e : D) : Option D := match e with
  | .non => some (.bl (isNon d))
  | _ => none
def isNotO (d e : D) : Option D := match e with
  | .non => some (.bl !(isNon d))
  | _ => none
theorem depth_min {T : Wd} {X : Cx} (rm : Rm X) {d e : D} (h : (sh d || sh e) = true) (n : Nat) (hn : n ≤ 50) : X.A.units + n + min (py d).depth (py e).depth < cLine := by
  have hu := rm.hu
  have h1 := Nat.min_le_left (py d).depth (py e).depth
  have h2 := Nat.min_le_right (py d).depth (py e).depth
  rcases Bool.or_eq_true_iff.mp h with h | h
  · have := of_decide_eq_true h; omega
  · have := of_decide_eq_true h; omega
section
variable {T : Wd} {X : Cx}
theorem fin_b {pins : List (Addr × Obj)} {σ : L2.St} {H : Hp} {s : Shared} {Q : VK} {b : Bool} {ι : List Addr} {bar : Addr → Prop} (I : Inv X pins σ H s) (q : ∀ z H', Same H H' → RelD T ι bar H' (.bl b) z → Q z H') : EP X pins σ Q (.bool b) s :=
  ⟨.bl b, H, I, rfl, q _ _ (Same.refl H) (RelD.ofBl b)⟩
theorem od_eq (ok : Ok T X) (rm : Rm X) : OpD T X (compareOp .Eq) eqO := by
  intro pins s σ H x y v u Q I rx ry ⟨ι, bar, d, e, r, hb, hi, rd, re, hk, q⟩
  unfold eqO at hk
  split at hk
  · rename_i hc
    cases hk
    simp only [Bool.and_eq_true] at hc
    obtain ⟨⟨h1, h2⟩, h3⟩ := hc
    obtain ⟨as, r1⟩ := rd.reads ok I rx h1
    obtain ⟨bs, r2⟩ := re.reads ok I ry h2
    exact SeqAt.eq_plain r1 r2 (plain_of d h1) (plain_of e h2) (by have := depth_min (T := T) rm h3 0 (by decide); simpa using this) (fin_b I q)
  · cases hk
theorem od_ne (ok : Ok T X) (rm : Rm X) : OpD T X (compareOp .NotEq) neO := by
  intro pins s σ H x y v u Q I rx ry ⟨ι, bar, d, e, r, hb, hi, rd, re, hk, q⟩
  unfold neO at hk
  split at hk
  · rename_i hc
    cases hk
    simp only [Bool.and_eq_true] at hc
    obtain ⟨⟨h1, h2⟩, h3⟩ := hc
    obtain ⟨as, r1⟩ := rd.reads ok I rx h1
    obtain ⟨bs, r2⟩ := re.reads ok I ry h2
    exact SeqAt.ne_plain r1 r2 (plain_of d h1) (plain_of e h2) (by have := depth_min (T := T) rm h3 0 (by decide); simpa using this) (fin_b I q)
  · cases hk
theorem nonNone {d : D} (h : (!isNon d) = true) (g : isD d = true) : py d ≠ .none := by
  cases d <;> simp_all [isNon, py, isD]
theorem cmp_of {pins : List (Addr × Obj)} {σ : L2.St} {H : Hp} {s : Shared} {ι : List Addr} {bar : Addr → Prop} {d e : D} {x y : V} {v u : Value} (ok : Ok T X) (rm : Rm X) (I : Inv X pins σ H s) (rx : RelV x v) (ry : RelV y u)
    (rd : RelW T ι bar H d x) (re : RelW T ι bar H e y) (h : cmpOk d e = true) : ∃ as bs, Reads s.heap v (py d) as ∧ Reads s.heap u (py e) bs ∧ PySem.W.alike (py d) (py e) = true ∧ py d ≠ .none ∧ X.A.units + min (py d).depth (py e).depth < cLine := by
  unfold cmpOk at h
  simp only [Bool.and_eq_true] at h
  obtain ⟨⟨⟨⟨h1, h2⟩, h3⟩, h4⟩, h5⟩ := h
  obtain ⟨as, r1⟩ := rd.reads ok I rx h1
  obtain ⟨bs, r2⟩ := re.reads ok I ry h2
  exact ⟨as, bs, r1, r2, h4, nonNone h5 h1, by have := depth_min (T := T) rm h3 0 (by decide); simpa using this⟩
theorem od_lt (ok : Ok T X) (rm : Rm X) : OpD T X (compareOp .Lt) ltO := by
  intro pins s σ H x y v u Q I rx ry ⟨ι, bar, d, e, r, hb, hi, rd, re, hk, q⟩
  unfold ltO at hk
  split at hk
  · rename_i hc
    cases hk
    obtain ⟨as, bs, r1, r2, h4, h5, h6⟩ := cmp_of ok rm I rx ry rd re hc
    exact PySem.W.lt_data r1 r2 h4 h5 h6 (fin_b I q)
  · cases hk
theorem od_gt (ok : Ok T X) (rm : Rm X) : OpD T X (compareOp .Gt) gtO := by
  intro pins s σ H x y v u Q I rx ry ⟨ι, bar, d, e, r, hb, hi, rd, re, hk, q⟩
  unfold gtO at hk
  split at hk
  · rename_i hc
    cases hk
    obtain ⟨as, bs, r1, r2, h4, h5, h6⟩ := cmp_of ok rm I rx ry rd re hc
    exact PySem.W.gt_data r1 r2 h4 h5 h6 (fin_b I q)
  · cases hk
theorem od_le (ok : Ok T X) (rm : Rm X) : OpD T X (compareOp .LtE) leO := by
  intro pins s σ H x y v u Q I rx ry ⟨ι, bar, d, e, r, hb, hi, rd, re, hk, q⟩
  unfold leO at hk
  split at hk
  · rename_i hc
    cases hk
    obtain ⟨as, bs, r1, r2, h4, h5, h6⟩ := cmp_of ok rm I rx ry rd re hc
    exact PySem.W.le_data r1 r2 h4 h5 h6 (fin_b I q)
  · cases hk
theorem od_ge (ok : Ok T X) (rm : Rm X) : OpD T X (compareOp .GtE) geO := by
  intro pins s σ H x y v u Q I rx ry ⟨ι, bar, d, e, r, hb, hi, rd, re, hk, q⟩
  unfold geO at hk
  split at hk
  · rename_i hc
    cases hk
    obtain ⟨as, bs, r1, r2, h4, h5, h6⟩ := cmp_of ok rm I rx ry rd re hc
    exact PySem.W.ge_data r1 r2 h4 h5 h6 (fin_b I q)
  · cases hk
theorem depth_in (rm : Rm X) {d : D} {ds : List D} (h : (sh d || shs ds) = true) : X.A.units + 1 + min (PyData.depthAll (pys ds)) (py d).depth < cLine := by
  have hu := rm.hu
  have h1 := Nat.min_le_left (PyData.depthAll (pys ds)) (py d).depth
  have h2 := Nat.min_le_right (PyData.depthAll (pys ds)) (py d).depth
  rcases Bool.or_eq_true_iff.mp h with h | h
  · have := of_decide_eq_true h; omega
  · have := of_decide_eq_true h; omega
theorem in_of {neg : Bool} (ok : Ok T X) (rm : Rm X) : OpD T X (compareOp (if neg then .NotIn else .In)) (fun d e => (inB d e).map fun b => .bl (if neg then !b else b)) := by
  intro pins s σ H x y v u Q I rx ry ⟨ι, bar, d, e, r, hb, hi, rd, re, hk, q⟩
  have go : ∀ ds, (e = .lst ds ∨ e = .tup ds) → (isD d && isDs ds && (sh d || shs ds)) = true → (r = .bl (if neg then !(mem ds d) else mem ds d)) → wpAny (model X.prog X.w) X.A (compareOp (if neg then .NotIn else .In) v u) (EP X pins σ Q) X.xe s := by
    intro ds he hc hr
    subst hr
    simp only [Bool.and_eq_true] at hc
    obtain ⟨⟨h1, h2⟩, h3⟩ := hc
    obtain ⟨as, r1⟩ := rd.reads ok I rx h1
    have p1 := plain_of d h1
    have p2 := plains_of ds h2
    have hdp := depth_in rm h3
    rcases he with rfl | rfl
    · obtain ⟨bs, r2⟩ := re.reads ok I ry (by simpa [isD] using h2)
      rw [py] at r2
      cases neg with
      | false => exact SeqAt.in_list_data r2 r1 p2 p1 hdp (fin_b I q)
      | true => exact SeqAt.notIn_list_data r2 r1 p2 p1 hdp (fin_b I q)
    · obtain ⟨bs, r2⟩ := re.reads ok I ry (by simpa [isD] using h2)
      rw [py] at r2
      cases neg with
      | false => exact SeqAt.in_tuple_data r2 r1 p2 p1 hdp (fin_b I q)
      | true => exact SeqAt.notIn_tuple_data r2 r1 p2 p1 hdp (fin_b I q)
  obtain ⟨c, hc0, hr0⟩ := Option.map_eq_some_iff.mp hk
  unfold inB at hc0
  split at hc0
  · rename_i a b
    cases hc0
    subst hr0
    obtain rfl := RelW.str rd
    obtain rfl := RelW.str re
    cases neg with
    | false => exact op_in_str pins s σ H _ _ v u Q I rx ry ⟨_, _, rfl, rfl, q _ _ (Same.refl H) (RelD.ofBl _)⟩
    | true => exact op_notin_str pins s σ H _ _ v u Q I rx ry ⟨_, _, rfl, rfl, q _ _ (Same.refl H) (RelD.ofBl _)⟩
  · split at hc0
    · rename_i hc
      cases hc0
      exact go _ (.inl rfl) hc hr0.symm
    · cases hc0
  · split at hc0
    · rename_i hc
      cases hc0
      exact go _ (.inr rfl) hc hr0.symm
    · cases hc0
  · cases hc0
theorem od_in (ok : Ok T X) (rm : Rm X) : OpD T X (compareOp .In) inO := in_of (neg := false) ok rm
theorem od_notIn (ok : Ok T X) (rm : Rm X) : OpD T X (compareOp .NotIn) notInO := in_of (neg := true) ok rm
theorem non_iff {ι : List Addr} {bar : Addr → Prop} {H : Hp} {d : D} {x : V} (h : RelW T ι bar H d x) : decide (x = .non) = isNon d := by
  cases d with
  | non => rw [h.non]; rfl
  | _ =>
    refine decide_eq_false fun e => ?_
    subst e
    rcases h with h | ⟨a, e, _⟩
    · simp [RelD] at h
    · cases e
theorem od_is : OpD T X (compareOp .Is) isO := by
  intro pins s σ H x y v u Q I rx ry ⟨ι, bar, d, e, r, hb, hi, rd, re, hk, q⟩
  unfold isO at hk
  split at hk
  · cases hk
    obtain rfl := re.non
    refine op_isN pins s σ H x _ v u Q I rx ry ⟨rfl, ?_⟩
    rw [non_iff rd]
    exact q _ _ (Same.refl H) (RelD.ofBl _)
  · cases hk
theorem od_isNot : OpD T X (compareOp .IsNot) isNotO := by
  intro pins s σ H x y v u Q I rx ry ⟨ι, bar, d, e, r, hb, hi, rd, re, hk, q⟩
  unfold isNotO at hk
  split at hk
  · cases hk
    obtain rfl := re.non
    refine op_notN pins s σ H x _ v u Q I rx ry ⟨rfl, ?_⟩
    rw [non_iff rd]
    exact q _ _ (Same.refl H) (RelD.ofBl _)
  · cases hk
end
def fits (n : Nat) : Bool := decide (n ≤ 16777216)
theorem fits_line {n : Nat} (h : fits n = true) : n ≤ sizeLine := Nat.le_trans (of_decide_eq_true h) (by decide)
def addO (d e : D) : Option D := match d, e with
  | .int i, .int j => some (.int (i + j))
  | .int i, .bl b => some (.int (i + b2i b))
  | .str x, .str y => if fits (x.length + y.length) then some (.str (x ++ y)) else none
  | .tup xs, .tup ys => if fits (xs.length + ys.length) then some (.tup (xs ++ ys)) else none
  | .lst xs, .lst ys => if fits (xs.length + ys.length) then some (.lst (xs ++ ys)) else none
  | _, _ => none
def subO (d e : D) : Option D := match d, e with
  | .int i, .int j => some (.int (i - j))
  | _, _ => none
def mulOk (i j : Int) : Bool := decide (i.natAbs.log2 + j.natAbs.log2 < 1000000)
def mulO (d e : D) : Option D := match d, e with
  | .int i, .int j => if mulOk i j || decide (i.natAbs < 18446744073709551616) then some (.int (i * j)) else none
  | _, _ => none
def divO (d e : D) : Option D := match d, e with
  | .int i, .int j => if decide (0 < j) && decide (j.natAbs.log2 < 9000) then some (.int (i / j)) else none
  | _, _ => none
def modO (d e : D) : Option D := match d, e with
  | .int i, .int j => if decide (0 < j) then some (.int (i % j)) else none
  | _, _ => none
def powO (d e : D) : Option D := match d, e with
  | .int i, .int j => if decide (0 ≤ j) && decide (j ≤ 1000) && decide (i.natAbs < 1000) then some (.int (i ^ j.toNat)) else none
  | _, _ => none
def negO : D → Option D
  | .int i => some (.int (-i))
  | _ => none
section
variable {T : Wd} {X : Cx}
theorem nil_of {ι : List Addr} {bar : Addr → Prop} {H : Hp} {ds : List D} {vs : List V} (h : RelDs T ι bar H ds vs) : vs = [] ↔ ds = [] := by
  have := h.length
  constructor
  · intro e; subst e
    exact List.length_eq_zero_iff.mp (by simpa using this.symm)
  · intro e; subst e
    exact List.length_eq_zero_iff.mp (by simpa using this)
theorem od_add (ok : Ok T X) : OpD T X (binaryOp .Add) addO := by
  intro pins s σ H x y v u Q I rx ry ⟨ι, bar, d, e, r, hb, hi, rd, re, hk, q⟩
  unfold addO at hk
  split at hk
  · cases hk
    obtain rfl := rd.int
    obtain rfl := re.int
    exact op_add pins s σ H _ _ v u Q I rx ry ⟨_, _, rfl, rfl, q _ _ (Same.refl H) (RelD.ofInt _)⟩
  · cases hk
    obtain rfl := rd.int
    obtain rfl := re.bl
    exact op_add_ib pins s σ H _ _ v u Q I rx ry ⟨_, _, rfl, rfl, q _ _ (Same.refl H) (RelD.ofInt _)⟩
  · split at hk
    · rename_i hc
      cases hk
      obtain rfl := rd.str
      obtain rfl := re.str
      exact op_add_str pins s σ H _ _ v u Q I rx ry ⟨_, _, rfl, rfl, fits_line hc, q _ _ (Same.refl H) (RelD.ofStr _)⟩
    · cases hk
  · split at hk
    · rename_i hc
      cases hk
      obtain ⟨a, xs, rfl, h1, r1⟩ := rd.tup
      obtain ⟨b, ys, rfl, h2, r2⟩ := re.tup
      rw [← ok.K] at h1 h2
      refine op_catA pins s σ H _ _ v u Q I rx ry ⟨a, b, xs, ys, rfl, rfl, h1, h2, by rw [r1.length, r2.length]; exact fits_line hc, fun e => ?_, fun _ e => ?_, fun _ _ p hp => ?_⟩
      · have e2 := (nil_of r1).mp e
        subst e2
        refine q _ _ (Same.refl H) ?_
        simp only [RelD]
        rw [ok.K] at h2
        exact ⟨b, ys, rfl, h2, r2⟩
      · have e2 := (nil_of r2).mp e
        subst e2
        refine q _ _ (Same.refl H) ?_
        simp only [RelD, List.append_nil]
        rw [ok.K] at h1
        exact ⟨a, xs, rfl, h1, r1⟩
      · exact q _ _ (same_upd hp) (RelD.newTup hi hp (r1.append r2))
    · cases hk
  · split at hk
    · rename_i hc
      cases hk
      obtain ⟨a, xs, rfl, h1, r1⟩ := rd.lst
      obtain ⟨b, ys, rfl, h2, r2⟩ := re.lst
      cases rx
      cases ry
      obtain ⟨z, its, n, r, e⟩ := h1.ok I.hok
      obtain ⟨z2, its2, n2, r', e2⟩ := h2.ok I.hok
      have hz := fits_line hc
      rw [← r1.length, ← r2.length] at hz
      refine PySem.P.add_list e e2 ?_ (by rw [List.size_toArray, List.size_toArray, ← r.length, ← r'.length]; exact hz)
      have ea : its.toArray ++ its2.toArray = (its ++ its2).toArray := by simp
      rw [ea]
      exact ⟨.ref _, _, I.lnew (t' := s.toks) (r.append r') (by rw [List.length_append]; exact hz), rfl, q _ _ (same_upd I.fresh) (RelD.newLst hb hi I.fresh (r1.append r2))⟩
    · cases hk
  · cases hk
theorem od_sub : OpD T X (binaryOp .Sub) subO := by
  intro pins s σ H x y v u Q I rx ry ⟨ι, bar, d, e, r, hb, hi, rd, re, hk, q⟩
  unfold subO at hk
  split at hk
  · cases hk
    obtain rfl := rd.int
    obtain rfl := re.int
    exact op_sub pins s σ H _ _ v u Q I rx ry ⟨_, _, rfl, rfl, q _ _ (Same.refl H) (RelD.ofInt _)⟩
  · cases hk
theorem od_mul : OpD T X (binaryOp .Mult) mulO := by
  intro pins s σ H x y v u Q I rx ry ⟨ι, bar, d, e, r, hb, hi, rd, re, hk, q⟩
  unfold mulO at hk
  split at hk
  · split at hk
    · rename_i hc
      cases hk
      obtain rfl := rd.int
      obtain rfl := re.int
      rcases Bool.or_eq_true _ _ ▸ hc with hc | hc
      · exact op_mulW pins s σ H _ _ v u Q I rx ry ⟨_, _, rfl, rfl, of_decide_eq_true (p := _ < _) hc, q _ _ (Same.refl H) (RelD.ofInt _)⟩
      · have hc := of_decide_eq_true hc
        exact op_mul pins s σ H _ _ v u Q I rx ry ⟨_, _, rfl, rfl, .inl ⟨by omega, by omega⟩, q _ _ (Same.refl H) (RelD.ofInt _)⟩
    · cases hk
  · cases hk
theorem od_div : OpD T X (binaryOp .FloorDiv) divO := by
  intro pins s σ H x y v u Q I rx ry ⟨ι, bar, d, e, r, hb, hi, rd, re, hk, q⟩
  unfold divO at hk
  split at hk
  · split at hk
    · rename_i hc
      cases hk
      obtain rfl := rd.int
      obtain rfl := re.int
      rw [Bool.and_eq_true] at hc
      exact op_fdivW pins s σ H _ _ v u Q I rx ry ⟨_, _, rfl, rfl, ⟨of_decide_eq_true hc.1, of_decide_eq_true hc.2⟩, q _ _ (Same.refl H) (RelD.ofInt _)⟩
    · cases hk
  · cases hk
theorem od_mod : OpD T X (binaryOp .Mod) modO := by
  intro pins s σ H x y v u Q I rx ry ⟨ι, bar, d, e, r, hb, hi, rd, re, hk, q⟩
  unfold modO at hk
  split at hk
  · split at hk
    · rename_i hc
      cases hk
      obtain rfl := rd.int
      obtain rfl := re.int
      exact op_mod pins s σ H _ _ v u Q I rx ry ⟨_, _, rfl, rfl, of_decide_eq_true hc, q _ _ (Same.refl H) (RelD.ofInt _)⟩
    · cases hk
  · cases hk
theorem od_pow : OpD T X (binaryOp .Pow) powO := by
  intro pins s σ H x y v u Q I rx ry ⟨ι, bar, d, e, r, hb, hi, rd, re, hk, q⟩
  unfold powO at hk
  split at hk
  · split at hk
    · rename_i hc
      cases hk
      obtain rfl := rd.int
      obtain rfl := re.int
      simp only [Bool.and_eq_true, decide_eq_true_eq] at hc
      exact op_pow pins s σ H _ _ v u Q I rx ry ⟨_, _, rfl, rfl, ⟨hc.1.1, by omega, by omega⟩, q _ _ (Same.refl H) (RelD.ofInt _)⟩
    · cases hk
  · cases hk
theorem ud_neg : UnD T X (unaryOp .USub) negO := by
  intro pins s σ H x v Q I rx ⟨ι, bar, d, r, hb, hi, rd, hk, q⟩
  unfold negO at hk
  split at hk
  · cases hk
    obtain rfl := rd.int
    exact un_neg pins s σ H _ v Q I rx ⟨_, rfl, q _ _ (Same.refl H) (RelD.ofInt _)⟩
  · cases hk
def idxO (d e : D) : Option D := match d, e with
  | .lst ds, .int i => atI ds i
  | .tup ds, .int i => atI ds i
  | .str x, .int i => if fits x.length then (atI x.cps.toList i).map fun c => .str ⟨#[c]⟩ else none
  | _, _ => none
theorem atI_rel {ι : List Addr} {bar : Addr → Prop} {H : Hp} {ds : List D} {vs : List V} {i : Int} {d : D} (r : RelDs T ι bar H ds vs) (h : atI ds i = some d) : ∃ v, atI vs i = some v ∧ RelD T ι bar H d v := by
  unfold atI at h ⊢
  rw [r.length]
  cases q : L2.ixN ds.length i with
  | none => rw [q] at h; cases h
  | some j =>
    rw [q] at h
    exact r.get h
theorem ix_data (ok : Ok T X) : IxR X (rOp T idxO) := by
  intro value slice pins s σ H x y v u Q I rx ry ⟨ι, bar, d, e, r, hb, hi, rd, re, hk, q⟩ hs
  unfold idxO at hk
  split at hk
  · obtain rfl := re.int
    obtain ⟨a, xs, rfl, h1, r1⟩ := rd.lst
    obtain ⟨z, e1, r2⟩ := atI_rel r1 hk
    exact ix_list value slice pins s σ H _ _ v u Q I rx ry ⟨a, xs, _, z, rfl, rfl, .inl h1, e1, q _ _ (Same.refl H) r2⟩ hs
  · obtain rfl := re.int
    obtain ⟨a, xs, rfl, h1, r1⟩ := rd.tup
    obtain ⟨z, e1, r2⟩ := atI_rel r1 hk
    rw [← ok.K] at h1
    exact ix_tup value slice pins s σ H _ _ v u Q I rx ry ⟨a, xs, _, z, rfl, rfl, h1, e1, q _ _ (Same.refl H) r2⟩ hs
  · split at hk
    · rename_i hc
      obtain rfl := re.int
      obtain rfl := rd.str
      rw [Option.map_eq_some_iff] at hk
      obtain ⟨c, e1, rfl⟩ := hk
      exact ix_str value slice pins s σ H _ _ v u Q I rx ry ⟨_, _, c, rfl, rfl, fits_line hc, e1, q _ _ (Same.refl H) (RelD.ofStr _)⟩ hs
    · cases hk
  · cases hk
/-- xs[lo:hi] -/
def cutD (ds : List D) (lo hi : Option Int) : List D := (ds.drop (HT.sIx ds.length 0 lo)).take (HT.sIx ds.length ds.length hi - HT.sIx ds.length 0 lo)
def slO (d : D) (lo hi : Option Int) : Option D := match d with
  | .lst ds => some (.lst (cutD ds lo hi))
  | .scr ns => some (.lst (cutD (ns.map D.int) lo hi))
  | .tup ds => some (.tup (cutD ds lo hi))
  | .str x => if fits x.length then some (.str (L2.cutS x lo hi)) else none
  | _ => none
theorem cut_rel {ι : List Addr} {bar : Addr → Prop} {H : Hp} {ds : List D} {vs : List V} (lo hi : Option Int) (r : RelDs T ι bar H ds vs) : RelDs T ι bar H (cutD ds lo hi) (cutV vs lo hi) := by
  unfold cutD cutV
  rw [r.length]
  exact (r.drop _).take _
theorem cut_whole {ds : List D} {lo hi : Option Int} (h : HT.sIx ds.length 0 lo = 0 ∧ HT.sIx ds.length ds.length hi = ds.length) : cutD ds lo hi = ds := by
  unfold cutD
  rw [h.1, h.2, List.drop_zero, Nat.sub_zero, List.take_length]
def rSlD (T : Wd) : V → Option Int → Option Int → Hp → VK → Prop := fun x lo hi H Q => ∃ (ι : List Addr) (bar : Addr → Prop) (d r : D), (∀ a, bar a → H a ≠ none) ∧ (∀ a ∈ ι, bar a) ∧
  RelW T ι bar H d x ∧ slO d lo hi = some r ∧ ∀ z H', Same H H' → RelD T ι bar H' r z → Q z H'
theorem sl_data (ok : Ok T X) : SlR X (rSlD T) := by
  intro pins s σ H x v vl vu lo hi' sl Q I rx hs pl pu ⟨ι, bar, d, r, hb, hi, rd, hk, q⟩
  unfold slO at hk
  split at hk
  · cases hk
    obtain ⟨a, xs, rfl, h1, r1⟩ := rd.lst
    exact sl_list pins s σ H _ v vl vu lo hi' sl Q I rx hs pl pu ⟨a, xs, rfl, .inl h1, fun p hp => q _ _ (same_upd hp) (RelD.newLst hb hi hp (cut_rel lo hi' r1))⟩
  · cases hk
    rename_i ns
    rcases rd with rd | ⟨_, _, _, rd⟩
    · simp only [RelD] at rd
      obtain ⟨a, rfl, q1⟩ := rd
      have r1 : RelDs T ι bar H (ns.map D.int) (ns.map V.int) := by
        clear hs q1 rx q
        induction ns with
        | nil => exact .nil
        | cons n ns ih => exact .cons (RelD.ofInt n) ih
      exact sl_list pins s σ H _ v vl vu lo hi' sl Q I rx hs pl pu ⟨a, _, rfl, by rw [ok.K]; exact q1.sq, fun p hp => q _ _ (same_upd hp) (RelD.newLst hb hi hp (cut_rel lo hi' r1))⟩
    · exact rd.elim
  · cases hk
    obtain ⟨a, xs, rfl, h1, r1⟩ := rd.tup
    have h1' := h1
    rw [← ok.K] at h1
    refine sl_tupA pins s σ H _ v vl vu lo hi' sl Q I rx hs pl pu ⟨a, xs, rfl, h1, fun e => ?_, fun _ p hp => q _ _ (same_upd hp) (RelD.newTup hi hp (cut_rel lo hi' r1))⟩
    rw [r1.length] at e
    refine q _ _ (Same.refl H) ?_
    rw [cut_whole e]
    simp only [RelD]
    exact ⟨a, xs, rfl, h1', r1⟩
  · split at hk
    · rename_i hc
      cases hk
      obtain rfl := rd.str
      exact sl_str pins s σ H _ v vl vu lo hi' sl Q I rx hs pl pu ⟨_, rfl, fits_line hc, q _ _ (Same.refl H) (RelD.ofStr _)⟩
    · cases hk
  · cases hk
end
end Z
namespace Z
open PySem PySem.Spec PyProof.Rows L2
set_option autoImplicit false
def mC (d : D) : Ev := fun _ g => .ok d g
/-- a name, looked at -/
def mV (i : Nat) : Ev := fun ρ g => match ρ[i]? with
  | some (.val d) => .ok d g
  | some (.own d) => .ok d g
  | _ => .bad
/-- a name, its value kept -/
def mVs (i : Nat) : Ev := fun ρ g => match ρ[i]? with
  | some (.val d) => .ok d g
  | _ => .bad
def ret {α : Type} (o : Option α) (g : G) : Res α := match o with
  | some a => .ok a g
  | none => .bad
def mOp (k : D → D → Option D) (a b : Ev) : Ev := fun ρ g => (a ρ g).bind fun d g1 => (b ρ g1).bind fun e g2 => ret (k d e) g2
def mUn (k : D → Option D) (a : Ev) : Ev := fun ρ g => (a ρ g).bind fun d g1 => ret (k d) g1
def mNil : EvL := fun _ g => .ok [] g
def mCons (a : Ev) (b : EvL) : EvL := fun ρ g => (a ρ g).bind fun d g1 => (b ρ g1).bind fun ds g2 => .ok (d :: ds) g2
def mTup (a : EvL) : Ev := fun ρ g => (a ρ g).bind fun ds g1 => if fits ds.length then .ok (.tup ds) g1 else .bad
def mLst (a : EvL) : Ev := fun ρ g => (a ρ g).bind fun ds g1 => if fits ds.length then .ok (.lst ds) g1 else .bad
/-- truth -/
def tr : D → Option Bool
  | .non => some false
  | .bl b => some b
  | .int i => some (i != 0)
  | .str y => if fits y.length then some ((y.length : Int) != 0) else none
  | .tup ds => some !ds.isEmpty
  | .lst ds => some !ds.isEmpty
  | _ => none
def mTr (a : Ev) : EvB := fun ρ g => (a ρ g).bind fun d g1 => ret (tr d) g1
/-- a comparison's answer -/
def isB : D → Option Bool
  | .bl b => some b
  | _ => none
def mB (a : Ev) : EvB := fun ρ g => (a ρ g).bind fun d g1 => ret (isB d) g1
def mAnd (a b : EvB) : EvB := fun ρ g => (a ρ g).bind fun c g1 => if c = true then b ρ g1 else .ok false g1
def mOr (a b : EvB) : EvB := fun ρ g => (a ρ g).bind fun c g1 => if c = true then .ok true g1 else b ρ g1
def mNot (a : EvB) : EvB := fun ρ g => (a ρ g).bind fun c g1 => .ok (!c) g1
def mAndV (a b : Ev) : Ev := fun ρ g => (a ρ g).bind fun d g1 => (ret (tr d) g1).bind fun c g1 => if c = true then b ρ g1 else .ok d g1
def mNotV (a : Ev) : Ev := fun ρ g => (a ρ g).bind fun d g1 => (ret (tr d) g1).bind fun c g1 => .ok (.bl !c) g1
def mIf (c : EvB) (a b : Ev) : Ev := fun ρ g => (c ρ g).bind fun k g1 => if k = true then a ρ g1 else b ρ g1
theorem tX.imp {α β : Type} {T : Wd} {W : WX} {R R' : Rel α β} {m : Env → G → Res α} {σ : L2.St} {H : Hp} {Q : β → Hp → Prop} (i : ∀ ι bar H d v, R' ι bar H d v → R ι bar H d v) (h : tX T W R m σ H Q) : tX T W R' m σ H Q := by
  obtain ⟨γ, ρ, g, S, p⟩ := h
  exact ⟨γ, ρ, g, S, p.rel i⟩
section
variable {T : Wd} {W : WX} {X : Cx} {pos : Pos}
theorem Post.ret0 {α β : Type} {γ : Gho} {H : Hp} {σ : L2.St} {R : Rel α β} {Q : β → Hp → Prop} {d : α} {g : G} {v : β} {ρ : Env} {g0 : G} (S : StR T γ H ρ σ g) (h : Post T γ H σ W R Q (.ok d g)) (r : R γ.ι γ.bar H d v) : Q v H :=
  h v γ.ι H Stp.refl S.cells r
/-- .. with new objects laid -/
theorem Post.ret1 {α β : Type} {γ : Gho} {H H' : Hp} {σ : L2.St} {R : Rel α β} {Q : β → Hp → Prop} {d : α} {g : G} {v : β} {ρ : Env} (S : StR T γ H ρ σ g) (s : Same H H') (h : Post T γ H σ W R Q (.ok d g)) (r : R γ.ι γ.bar H' d v) : Q v H' :=
  h v γ.ι H' (.same s) (S.same s).cells r
theorem ee_int {i j} : EE T W X (.Constant (.int i) j pos) (mC (.int i)) := PE.imp pe_int fun σ H Q ⟨γ, ρ, g, S, p⟩ => p.ret0 (g0 := g) S (RelD.ofInt i)
theorem ee_bl {i j} : EE T W X (.Constant (.bool i) j pos) (mC (.bl i)) := PE.imp pe_bl fun σ H Q ⟨γ, ρ, g, S, p⟩ => p.ret0 (g0 := g) S (RelD.ofBl i)
theorem ee_str {i j} : EE T W X (.Constant (.str i) j pos) (mC (.str i)) := PE.imp pe_str fun σ H Q ⟨γ, ρ, g, S, p⟩ => p.ret0 (g0 := g) S (RelD.ofStr i)
theorem ee_non {j} : EE T W X (.Constant .none j pos) (mC .non) := PE.imp pe_non fun σ H Q ⟨γ, ρ, g, S, p⟩ => p.ret0 (g0 := g) S RelD.ofNon
theorem ew_v (i : Nat) {x : Str} (hN : X.N[i]? = some x := by rfl) (hv : Vis X.env.scope x := by first | exact Or.inl rfl | exact Or.inr (Or.inl rfl) | exact Or.inr (Or.inr rfl)) (hd : (x == ("__debug__" : Str)) = false := by decide)
    (hcd : (x == ("__classdict__" : Str)) = false := by decide) : EW T W X (.Name x pos) (mV i) := PE.imp (pe_var hN hv hd hcd) fun σ H Q ⟨γ, ρ, g, S, p⟩ => by
  unfold mV at p
  split at p
  · rename_i d e
    obtain ⟨v, e1, r⟩ := S.vals i d e
    exact ⟨v, e1, p.ret0 (g0 := g) S r.weak⟩
  · rename_i d e
    obtain ⟨a, e1, e2, r, _⟩ := S.owns i d e
    exact ⟨.ref a, e2, p.ret0 (g0 := g) S (.inr ⟨a, rfl, (S.oi i a e1).1, r⟩)⟩
  · exact p.elim
theorem ee_v (i : Nat) {x : Str} (hN : X.N[i]? = some x := by rfl) (hv : Vis X.env.scope x := by first | exact Or.inl rfl | exact Or.inr (Or.inl rfl) | exact Or.inr (Or.inr rfl)) (hd : (x == ("__debug__" : Str)) = false := by decide)
    (hcd : (x == ("__classdict__" : Str)) = false := by decide) : EE T W X (.Name x pos) (mVs i) := PE.imp (pe_var hN hv hd hcd) fun σ H Q ⟨γ, ρ, g, S, p⟩ => by
  unfold mVs at p
  split at p
  · rename_i d e
    obtain ⟨v, e1, r⟩ := S.vals i d e
    exact ⟨v, e1, p.ret0 (g0 := g) S r⟩
  · exact p.elim
/-- a two-place operation -/
theorem op_imp {k : D → D → Option D} {ma mb : Ev} {σ : L2.St} {H : Hp} {Q : VK} (h : tX T W (rD T) (mOp k ma mb) σ H Q) : tOp (rOp T k) (tX T W (rW T) ma) (tX T W (rW T) mb) σ H Q := by
  obtain ⟨γ, ρ, g, S, p⟩ := h
  refine ⟨γ, ρ, g, S, p.bind fun d g1 _ v ι1 H1 s1 G1 r1 p1 => ?_⟩
  have S1 := S.step s1 G1
  refine ⟨γ.to ι1, ρ, g1, S1, p1.bind fun e g2 _ u ι2 H2 s2 G2 r2 p2 => ?_⟩
  have S2 := S1.step s2 G2
  cases hk : k d e with
  | none => rw [hk] at p2; exact p2.elim
  | some r =>
    rw [hk] at p2
    exact ⟨ι2, ((γ.to ι1).to ι2).bar, d, e, r, S2.bart, fun a h => .inl h, r1.keep s2 (γ.to ι1).bi (Gho.grows s2), r2, hk, fun z H' s r => p2.ret1 S2 s r⟩
theorem un_imp {k : D → Option D} {ma : Ev} {σ : L2.St} {H : Hp} {Q : VK} (h : tX T W (rD T) (mUn k ma) σ H Q) : tX T W (rW T) ma σ H fun x H1 => rUn T k x H1 Q := by
  obtain ⟨γ, ρ, g, S, p⟩ := h
  refine ⟨γ, ρ, g, S, p.bind fun d g1 _ v ι1 H1 s1 G1 r1 p1 => ?_⟩
  have S1 := S.step s1 G1
  cases hk : k d with
  | none => rw [hk] at p1; exact p1.elim
  | some r =>
    rw [hk] at p1
    exact ⟨ι1, (γ.to ι1).bar, d, r, S1.bart, fun a h => .inl h, r1, hk, fun z H' s r => p1.ret1 S1 s r⟩
variable {a b c : Expr} {ma mb mc : Ev}
theorem ee_bin {op : Operator} {k : D → D → Option D} (ho : OpD T X (binaryOp op) k) (ha : EW T W X a ma) (hb : EW T W X b mb) : EE T W X (.BinOp a op b pos) (mOp k ma mb) := PE.imp (pe_op ho ha hb) fun _ _ _ h => op_imp h
theorem ee_un {op : UnaryOp} {k : D → Option D} (ho : UnD T X (unaryOp op) k) (ha : EW T W X a ma) : EE T W X (.UnaryOp op a pos) (mUn k ma) := PE.imp (pe_un ho ha) fun _ _ _ h => un_imp h
theorem ee_cmp {op : CmpOp} {k : D → D → Option D} (ho : OpD T X (compareOp op) k) (ha : EW T W X a ma) (hb : EW T W X b mb) (hm : behindInMarks op b = false := by rfl) : EE T W X (.Compare a [op] [b] pos) (mOp k ma mb) := PE.imp (pe_cmpR ho ha hb hm) fun _ _ _ h => op_imp h
theorem ee_ix (ok : Ok T X) (ha : EW T W X a ma) (hb : EW T W X b mb) (hs : PlainIx b := by exact fun _ _ => rfl) : EE T W X (.Subscript a b pos) (mOp idxO ma mb) := PE.imp (pe_ix (ix_data ok) ha hb hs) fun _ _ _ h => op_imp h
/-- tests -/
theorem mb_imp {m : Ev} {σ : L2.St} {H : Hp} {Q : Bool → Hp → Prop} (h : tX T W rB (mB m) σ H Q) : tX T W (rD T) m σ H fun x H1 => ∃ k, x = .bl k ∧ Q k H1 := by
  obtain ⟨γ, ρ, g, S, p⟩ := h
  refine ⟨γ, ρ, g, S, p.bind fun d g1 _ v ι1 H1 s1 G1 r1 p1 => ?_⟩
  have S1 := S.step s1 G1
  cases d with
  | bl k =>
    have e : v = .bl k := by simpa [RelD] using r1
    exact ⟨k, e, p1.ret0 (g0 := g) S1 rfl⟩
  | _ => exact p1.elim
theorem eb_cmp {op : CmpOp} {k : D → D → Option D} (ho : OpD T X (compareOp op) k) (ha : EW T W X a ma) (hb : EW T W X b mb) (hm : behindInMarks op b = false := by rfl) : EB T W X (.Compare a [op] [b] pos) (mB (mOp k ma mb)) :=
  PT.imp (pt_cmpR ho ha hb hm) fun _ _ _ h => op_imp (mb_imp h)
/-- a value's truth -/
theorem tr_rel (ok : Ok T X) {ι : List Addr} {bar : Addr → Prop} {H : Hp} {d : D} {x : V} {k : Bool} (r : RelW T ι bar H d x) (h : tr d = some k) : TruV X.K x H k := by
  cases d with
  | non => rw [r.non]; cases h; rfl
  | bl b => rw [r.bl]; cases h; rfl
  | int i => rw [r.int]; cases h; rfl
  | str y =>
    rw [r.str]
    simp only [tr] at h
    split at h
    · rename_i hc; cases h; exact ⟨fits_line hc, rfl⟩
    · cases h
  | tup ds =>
    obtain ⟨a, vs, rfl, q, rs⟩ := r.tup
    cases h
    rw [← ok.K] at q
    refine .inr (.inl ⟨vs, q, ?_⟩)
    have := rs.length
    cases vs <;> cases ds <;> simp_all
  | lst ds =>
    obtain ⟨a, vs, rfl, q, rs⟩ := r.lst
    cases h
    refine .inl ⟨vs, .inl q, ?_⟩
    have := rs.length
    cases vs <;> cases ds <;> simp_all
  | _ => cases h
theorem tr_imp (ok : Ok T X) {m : Ev} {σ : L2.St} {H : Hp} {Q : Bool → Hp → Prop} (h : tX T W rB (mTr m) σ H Q) : tX T W (rW T) m σ H fun x H1 => ∃ k, TruV X.K x H1 k ∧ Q k H1 := by
  obtain ⟨γ, ρ, g, S, p⟩ := h
  refine ⟨γ, ρ, g, S, p.bind fun d g1 _ v ι1 H1 s1 G1 r1 p1 => ?_⟩
  have S1 := S.step s1 G1
  cases hk : tr d with
  | none => rw [hk] at p1; exact p1.elim
  | some k =>
    rw [hk] at p1
    exact ⟨k, tr_rel ok r1 hk, p1.ret0 (g0 := g) S1 rfl⟩
theorem eb_tr (ok : Ok T X) (ha : EW T W X a ma) (he : ∀ whole, isTrue a X.env whole = (do let v ← whole; standAt a.pos; holding [v] (truthy v)) := by intro _; rfl) : EB T W X a (mTr ma) :=
  PT.imp (pt_truth ha he) fun _ _ _ h => tr_imp ok h
abbrev EPw (T : Wd) (W : WX) (X : Cx) (e : Expr) (m : EvB) : Prop := PW X e (tX T W rB m)
theorem PW.imp {X : Cx} {e : Expr} {t t' : TT} (h : PW X e t) (i : ∀ σ H Q, t' σ H Q → t σ H Q) : PW X e t' := ⟨fun wh pins s σ H Q I q => h.run wh pins s σ H Q I (i σ H Q q)⟩
variable {pa pb : EvB} {rest : List Expr}
theorem ep_and1 (ha : EB T W X a pa) : EPw T W X (.BoolOp .And [a] pos) pa := pw_and1 ha
theorem ep_or1 (ha : EB T W X a pa) : EPw T W X (.BoolOp .Or [a] pos) pa := pw_or1 ha
theorem ep_and (ha : EB T W X a pa) (hb : EPw T W X (.BoolOp .And (b :: rest) pos) pb) : EPw T W X (.BoolOp .And (a :: b :: rest) pos) (mAnd pa pb) := PW.imp (pw_and ha hb) fun σ H Q ⟨γ, ρ, g, S, p⟩ => by
  refine ⟨γ, ρ, g, S, p.bind fun d g1 _ v ι1 H1 s1 G1 r1 p1 => ?_⟩
  have S1 := S.step s1 G1
  subst r1
  cases v with
  | true => exact ⟨_, ρ, g1, S1, p1⟩
  | false => exact p1.ret0 (g0 := g) S1 rfl
theorem ep_or (ha : EB T W X a pa) (hb : EPw T W X (.BoolOp .Or (b :: rest) pos) pb) : EPw T W X (.BoolOp .Or (a :: b :: rest) pos) (mOr pa pb) := PW.imp (pw_or ha hb) fun σ H Q ⟨γ, ρ, g, S, p⟩ => by
  refine ⟨γ, ρ, g, S, p.bind fun d g1 _ v ι1 H1 s1 G1 r1 p1 => ?_⟩
  have S1 := S.step s1 G1
  subst r1
  cases v with
  | false => exact ⟨_, ρ, g1, S1, p1⟩
  | true => exact p1.ret0 (g0 := g) S1 rfl
theorem eb_p (h : EPw T W X a pa) : EB T W X a pa := PW.pt h
theorem eb_not (ha : EB T W X a pa) : EB T W X (.UnaryOp .Not a pos) (mNot pa) := PT.imp (pt_not ha) fun σ H Q ⟨γ, ρ, g, S, p⟩ => by
  refine ⟨γ, ρ, g, S, p.bind fun d g1 _ v ι1 H1 s1 G1 r1 p1 => ?_⟩
  have S1 := S.step s1 G1
  subst r1
  exact p1.ret0 (g0 := g) S1 rfl
/-- and, or, not as values -/
theorem ee_one {op} (ha : EE T W X a ma) : EE T W X (.BoolOp op [a] pos) ma := pe_one ha
theorem ee_and (ok : Ok T X) (ha : EE T W X a ma) (hb : EE T W X (.BoolOp .And (b :: rest) pos) mb) : EE T W X (.BoolOp .And (a :: b :: rest) pos) (mAndV ma mb) := PE.imp (pe_andT ha hb) fun σ H Q ⟨γ, ρ, g, S, p⟩ => by
  refine ⟨γ, ρ, g, S, p.bind fun d g1 _ v ι1 H1 s1 G1 r1 p1 => ?_⟩
  have S1 := S.step s1 G1
  cases hk : tr d with
  | none => rw [hk] at p1; exact p1.elim
  | some k =>
    rw [hk] at p1
    have p1 : Post T _ H1 σ W (rD T) Q (if k = true then mb ρ g1 else .ok d g1) := p1
    refine ⟨k, tr_rel ok r1.weak hk, ?_⟩
    cases k with
    | true => exact ⟨_, ρ, g1, S1, p1⟩
    | false => exact p1.ret0 (g0 := g) S1 r1
theorem ee_not (ok : Ok T X) (ha : EW T W X a ma) : EE T W X (.UnaryOp .Not a pos) (mNotV ma) := PE.imp (pe_notT ha) fun σ H Q ⟨γ, ρ, g, S, p⟩ => by
  refine ⟨γ, ρ, g, S, p.bind fun d g1 _ v ι1 H1 s1 G1 r1 p1 => ?_⟩
  have S1 := S.step s1 G1
  cases hk : tr d with
  | none => rw [hk] at p1; exact p1.elim
  | some k =>
    rw [hk] at p1
    exact ⟨k, tr_rel ok r1 hk, p1.ret0 (g0 := g) S1 (RelD.ofBl _)⟩
theorem ee_if {t : Expr} (ht : EB T W X t pa) (ha : EE T W X a ma) (hb : EE T W X b mb) : EE T W X (.IfExp t a b pos) (mIf pa ma mb) := PE.imp (pe_ifExp ht ha hb) fun σ H Q ⟨γ, ρ, g, S, p⟩ => by
  refine ⟨γ, ρ, g, S, p.bind fun d g1 _ v ι1 H1 s1 G1 r1 p1 => ?_⟩
  have S1 := S.step s1 G1
  subst r1
  cases v with
  | true => exact ⟨_, ρ, g1, S1, p1⟩
  | false => exact ⟨_, ρ, g1, S1, p1⟩
variable {es : List Expr} {ms : EvL}
theorem eas_nil : EAs T W X [] mNil := PA.imp pa_nil fun σ H Q ⟨γ, ρ, g, S, p⟩ => p.ret0 (g0 := g) S RelDs.nil
theorem eas_cons (ha : EE T W X a ma) (hr : EAs T W X es ms) (hs : starEach (a :: es) X.env = (false, eval a X.env) :: starEach es X.env := by rfl) : EAs T W X (a :: es) (mCons ma ms) := PA.imp (pa_cons ha hr hs) fun σ H Q ⟨γ, ρ, g, S, p⟩ => by
  refine ⟨γ, ρ, g, S, p.bind fun d g1 _ v ι1 H1 s1 G1 r1 p1 => ?_⟩
  have S1 := S.step s1 G1
  refine ⟨_, ρ, g1, S1, p1.bind fun ds g2 _ vs ι2 H2 s2 G2 r2 p2 => ?_⟩
  have S2 := S1.step s2 G2
  exact p2.ret0 (g0 := g) S2 (.cons (r1.keep s2 (Gho.bi _) (Gho.grows s2)) r2)
theorem ee_tup {k} (h : EAs T W X es ms) : EE T W X (.Tuple es k pos) (mTup ms) := PE.imp (pe_tup h) fun σ H Q ⟨γ, ρ, g, S, p⟩ => by
  refine ⟨γ, ρ, g, S, p.bind fun ds g1 _ vs ι1 H1 s1 G1 r1 p1 => ?_⟩
  have S1 := S.step s1 G1
  cases hf : fits ds.length with
  | false => rw [hf] at p1; exact p1.elim
  | true =>
    rw [hf] at p1
    exact ⟨by rw [r1.length]; exact fits_line hf, fun q hq => Post.ret1 S1 (same_upd hq) p1 (RelD.newTup (fun a h => .inl h) hq r1)⟩
theorem ee_lst (h : EAs T W X es ms) : EE T W X (.List es pos) (mLst ms) := PE.imp (pe_lst h) fun σ H Q ⟨γ, ρ, g, S, p⟩ => by
  refine ⟨γ, ρ, g, S, p.bind fun ds g1 _ vs ι1 H1 s1 G1 r1 p1 => ?_⟩
  have S1 := S.step s1 G1
  cases hf : fits ds.length with
  | false => rw [hf] at p1; exact p1.elim
  | true =>
    rw [hf] at p1
    exact ⟨by rw [r1.length]; exact fits_line hf, fun q hq => Post.ret1 S1 (same_upd hq) p1 (RelD.newLst S1.bart (fun a h => .inl h) hq r1)⟩
end
end Z
namespace Z
open PySem PySem.Spec PyProof.Rows L2
set_option autoImplicit false
mutual
theorem nd_of : ∀ d : PyData, d.plain = true → d.hasDict = false
  | .none, _ => by simp [PyData.hasDict]
  | .bool _, _ => by simp [PyData.hasDict]
  | .int _, _ => by simp [PyData.hasDict]
  | .str _, _ => by simp [PyData.hasDict]
  | .list xs, h => by simp only [PyData.hasDict]; exact nds_of xs (by simpa [PyData.plain] using h)
  | .tuple xs, h => by simp only [PyData.hasDict]; exact nds_of xs (by simpa [PyData.plain] using h)
  | .dict _, h => by simp [PyData.plain] at h
theorem nds_of : ∀ ds : List PyData, PyData.plainAll ds = true → PyData.hasDictAll ds = false
  | [], _ => by simp [PyData.hasDictAll]
  | d :: ds, h => by
    have h' : d.plain = true ∧ PyData.plainAll ds = true := by simpa [PyData.plainAll] using h
    simp [PyData.hasDictAll, nd_of d h'.1, nds_of ds h'.2]
end
section
variable {T : Wd} {W : WX} {X : Cx} {pos p : Pos} {x : Str} {e e2 : Expr} {m m2 : Ev} {id ty : String} {k : D → Option D} {k2 : D → D → Option D}
def r1 (T : Wd) (k : D → Option D) : List V → Hp → VK → Prop := fun xs H Q => ∃ x, xs = [x] ∧ rUn T k x H Q
def r2 (T : Wd) (k : D → D → Option D) : List V → Hp → VK → Prop := fun xs H Q => ∃ x y, xs = [x, y] ∧ rOp T k x y H Q
theorem callR1 {f : Value} (h : Call1 T X f k) : CallR X f (r1 T k) := by
  intro pins s σ H xs us Q I r hq
  obtain ⟨x, rfl, q⟩ := hq
  obtain ⟨u, rfl, rx⟩ := vals1 r
  exact h pins s σ H x u Q I rx q
theorem ee_call1 (hc : Call1 T X (.builtin id) k) (he : EW T W X e m) (hg : Gl X x) (hm : X.mg x = none) (hv : bootBuiltins x = some (.builtin id)) (hn : x ≠ "__name__" := by decide) (hdb : (x == ("__debug__" : Str)) = false := by decide)
    (hs : starEach [e] X.env = (false, eval e X.env) :: starEach [] X.env := by rfl) : EE T W X (.Call (.Name x p) [e] [] pos) (mUn k m) :=
  PE.imp (pe_callB (callR1 hc) hg hm hv (pa_cons he pa_nil hs) hn hdb hs rfl) fun σ H Q h => by
    obtain ⟨γ, ρ, g, S, q⟩ := un_imp h
    exact ⟨γ, ρ, g, S, by
      revert q
      cases m ρ g with
      | ok d g' => exact fun q v ι' H' s1 G1 r1 => ⟨v, rfl, q v ι' H' s1 G1 r1⟩
      | exc x g' => exact fun q => q
      | bad => exact fun q => q⟩
theorem ee_callT (hc : Call1 T X (.type ty) k) (he : EW T W X e m) (hg : Gl X x) (hm : X.mg x = none) (hv : bootBuiltins x = some (.type ty)) (hn : x ≠ "__name__" := by decide) (hdb : (x == ("__debug__" : Str)) = false := by decide)
    (hs : starEach [e] X.env = (false, eval e X.env) :: starEach [] X.env := by rfl) : EE T W X (.Call (.Name x p) [e] [] pos) (mUn k m) :=
  PE.imp (pe_callTy (callR1 hc) hg hm hv (pa_cons he pa_nil hs) hn hdb hs rfl) fun σ H Q h => by
    obtain ⟨γ, ρ, g, S, q⟩ := un_imp h
    exact ⟨γ, ρ, g, S, by
      revert q
      cases m ρ g with
      | ok d g' => exact fun q v ι' H' s1 G1 r1 => ⟨v, rfl, q v ι' H' s1 G1 r1⟩
      | exc x g' => exact fun q => q
      | bad => exact fun q => q⟩
def lenO : D → Option D
  | .lst ds => some (.int ds.length)
  | .tup ds => some (.int ds.length)
  | .str x => if fits x.length then some (.int x.length) else none
  | _ => none
theorem ud_len (ok : Ok T X) : Call1 T X (.builtin "len") lenO := by
  intro pins s σ H x v Q I rx ⟨ι, bar, d, r, hb, hi, rd, hk, q⟩
  have go : ∀ n, LenV X.K x H n → r = .int n → wpAny (model X.prog X.w) X.A (call (.builtin "len") [v]) (EP X pins σ Q) X.xe s := fun n h e =>
    call_len pins s σ H [x] [v] Q I (.cons rx .nil) ⟨x, n, rfl, h, q _ _ (Same.refl H) (by rw [e]; exact RelD.ofInt _)⟩
  unfold lenO at hk
  split at hk
  · cases hk
    obtain ⟨a, xs, rfl, h1, r1⟩ := rd.lst
    exact go _ (.inl ⟨xs, .inl h1, r1.length.symm⟩) rfl
  · cases hk
    obtain ⟨a, xs, rfl, h1, r1⟩ := rd.tup
    rw [← ok.K] at h1
    exact go _ (.inr ⟨xs, h1, r1.length.symm⟩) rfl
  · split at hk
    · rename_i hc
      cases hk
      obtain rfl := rd.str
      exact go _ ⟨fits_line hc, rfl⟩ rfl
    · cases hk
  · cases hk
def tupleO : D → Option D
  | .lst ds => some (.tup ds)
  | .tup ds => some (.tup ds)
  | _ => none
def listO : D → Option D
  | .lst ds => some (.lst ds)
  | .tup ds => some (.lst ds)
  | _ => none
theorem ud_tuple (ok : Ok T X) : Call1 T X (.type "tuple") tupleO := by
  intro pins s σ H x v Q I rx ⟨ι, bar, d, r, hb, hi, rd, hk, q⟩
  unfold tupleO at hk
  split at hk
  · cases hk
    obtain ⟨a, xs, rfl, h1, r1⟩ := rd.lst
    exact call_tuple_of pins s σ H [_] [v] Q I (.cons rx .nil) ⟨a, xs, rfl, .inl ⟨.inl h1, fun l hl => q _ _ (same_upd hl) (RelD.newTup hi hl r1)⟩⟩
  · cases hk
    obtain ⟨a, xs, rfl, h1, r1⟩ := rd.tup
    have h2 := h1
    rw [← ok.K] at h1
    refine call_tuple_of pins s σ H [_] [v] Q I (.cons rx .nil) ⟨a, xs, rfl, .inr ⟨h1, q _ _ (Same.refl H) ?_⟩⟩
    simp only [RelD]
    exact ⟨a, xs, rfl, h2, r1⟩
  · cases hk
theorem ud_list (ok : Ok T X) : Call1 T X (.type "list") listO := by
  intro pins s σ H x v Q I rx ⟨ι, bar, d, r, hb, hi, rd, hk, q⟩
  unfold listO at hk
  split at hk
  · cases hk
    obtain ⟨a, xs, rfl, h1, r1⟩ := rd.lst
    exact call_list_of pins s σ H [_] [v] Q I (.cons rx .nil) ⟨a, xs, rfl, .inl (.inl h1), fun l hl => q _ _ (same_upd hl) (RelD.newLst hb hi hl r1)⟩
  · cases hk
    obtain ⟨a, xs, rfl, h1, r1⟩ := rd.tup
    rw [← ok.K] at h1
    exact call_list_of pins s σ H [_] [v] Q I (.cons rx .nil) ⟨a, xs, rfl, .inr h1, fun l hl => q _ _ (same_upd hl) (RelD.newLst hb hi hl r1)⟩
  · cases hk
def intO : D → Option D
  | .int i => some (.int i)
  | .bl b => some (.int (if b then 1 else 0))
  | _ => none
theorem ud_int : Call1 T X (.type "int") intO := by
  intro pins s σ H x v Q I rx ⟨ι, bar, d, r, hb, hi, rd, hk, q⟩
  unfold intO at hk
  split at hk
  · cases hk
    obtain rfl := rd.int
    exact call_int1 pins s σ H [_] [v] Q I (.cons rx .nil) (.inl ⟨_, rfl, q _ _ (Same.refl H) (RelD.ofInt _)⟩)
  · cases hk
    obtain rfl := rd.bl
    exact call_int1 pins s σ H [_] [v] Q I (.cons rx .nil) (.inr ⟨_, rfl, q _ _ (Same.refl H) (RelD.ofInt _)⟩)
  · cases hk
def intFits (i : Int) : Bool := decide (i.natAbs.log2 < 1920)
def strO : D → Option D
  | .int i => if intFits i then some (.str (toString i)) else none
  | .str x => some (.str x)
  | _ => none
theorem ud_str : Call1 T X (.type "str") strO := by
  intro pins s σ H x v Q I rx ⟨ι, bar, d, r, hb, hi, rd, hk, q⟩
  unfold strO at hk
  split at hk
  · split at hk
    · rename_i hc
      cases hk
      obtain rfl := rd.int
      exact call_str_int pins s σ H [_] [v] Q I (.cons rx .nil) ⟨_, rfl, of_decide_eq_true hc, q _ _ (Same.refl H) (RelD.ofStr _)⟩
    · cases hk
  · cases hk
    obtain rfl := rd.str
    exact SkE.call_str_str pins s σ H [_] [v] Q I (.cons rx .nil) ⟨_, rfl, q _ _ (Same.refl H) (RelD.ofStr _)⟩
  · cases hk
def reprOk (d : D) : Bool := isD d && sh d && (py d).showable && fits (py d).shown.length
def reprO (d : D) : Option D := match d with
  | .tup ds => if reprOk (.tup ds) then some (.str (py (.tup ds)).shown) else none
  | .lst ds => if reprOk (.lst ds) then some (.str (py (.lst ds)).shown) else none
  | _ => none
theorem ud_repr (ok : Ok T X) (rm : Rm X) : Call1 T X (.builtin "repr") reprO := by
  intro pins s σ H x v Q I rx ⟨ι, bar, d, r, hb, hi, rd, hk, q⟩
  have go : ∀ a, x = .ref a → reprOk d = true → r = .str (py d).shown → wpAny (model X.prog X.w) X.A (call (.builtin "repr") [v]) (EP X pins σ Q) X.xe s := by
    intro a hx hc hr
    subst hx
    simp only [reprOk, Bool.and_eq_true, decide_eq_true_eq] at hc
    obtain ⟨⟨⟨h1, h2⟩, h3⟩, h4⟩ := hc
    obtain ⟨as, rr⟩ := rd.reads ok I rx h1
    cases rx
    have hu := rm.hu
    have hnd : (py d).hasDict = false := by
      have := plain_of d h1
      revert this
      generalize py d = z
      intro hz
      exact nd_of z hz
    exact PySem.repr_of_reads' rr h3 (fun z => by rw [hnd] at z; cases z) rm.hg (by omega) (fun _ _ e => e) (fun h' u tk hk => ⟨.str _, H, I.kept (t' := tk) hk, ⟨u, rfl⟩, q _ _ (Same.refl H) (by rw [hr]; exact RelD.ofStr _)⟩) (fits_line h4)
  unfold reprO at hk
  split at hk
  · split at hk
    · rename_i hc
      cases hk
      obtain ⟨a, xs, e, _⟩ := rd.tup
      exact go a e hc rfl
    · cases hk
  · split at hk
    · rename_i hc
      cases hk
      obtain ⟨a, xs, e, _⟩ := rd.lst
      exact go a e hc rfl
    · cases hk
  · cases hk
end
end Z
namespace Z
open PySem PySem.Spec PyProof.Rows L2
set_option autoImplicit false
theorem pys_map : ∀ ds : List D, pys ds = ds.map py
  | [] => by simp [pys]
  | d :: ds => by simp [pys, pys_map ds]
theorem isDs_all : ∀ {ds : List D}, isDs ds = true ↔ ∀ d ∈ ds, isD d = true
  | [] => by simp [isDs]
  | d :: ds => by simp [isDs, isDs_all (ds := ds)]
/-- a value and its datum, in the heap -/
def VR (T : Wd) (ι : List Addr) (bar : Addr → Prop) (H : Hp) (u : Value) (d : D) : Prop := ∃ v : V, RelV v u ∧ RelD T ι bar H d v
section
variable {T : Wd} {ι : List Addr} {bar : Addr → Prop} {H : Hp}
theorem each_of : ∀ {ds : List D} {vs : List V} {us : List Value}, RelDs T ι bar H ds vs → Vals vs us → PySem.W.EachIs (VR T ι bar H) us ds
  | [], vs, us, h, r => by
    have : vs = [] := by simpa [RelDs] using h
    subst this; cases r
    exact .nil
  | d :: ds, vs, us, h, r => by
    obtain ⟨v, vr, rfl, h1, h2⟩ := h.uncons
    cases r with
    | cons r1 r2 => exact .cons ⟨v, r1, h1⟩ (each_of h2 r2)
theorem of_each : ∀ {ds : List D} {us : List Value}, PySem.W.EachIs (VR T ι bar H) us ds → ∃ vs, Vals vs us ∧ RelDs T ι bar H ds vs
  | [], us, h => by cases h; exact ⟨[], .nil, .nil⟩
  | d :: ds, us, h => by
    cases h with
    | cons h1 h2 =>
      obtain ⟨v, r1, q1⟩ := h1
      obtain ⟨vs, r2, q2⟩ := of_each h2
      exact ⟨v :: vs, .cons r1 r2, .cons q1 q2⟩
end
def alikes (ds : List D) : Bool := ds.all fun d => ds.all fun e => PySem.W.alike (py d) (py e)
def tupCons : D → Bool
  | .tup (_ :: _) => true
  | _ => false
def notTup : D → Bool
  | .tup _ => false
  | .non => false
  | _ => true
def sortOk (ds : List D) : Bool := isDs ds && alikes ds && (ds.all tupCons || ds.all notTup) && shs ds && fits ds.length
/-- merge, the steps counted (it reduces) -/
def mgF {α : Type} (le : α → α → Bool) : Nat → List α → List α → List α
  | 0, xs, ys => xs ++ ys
  | n + 1, [], ys => ys
  | n + 1, xs, [] => xs
  | n + 1, x :: xs, y :: ys => if le x y = true then x :: mgF le n xs (y :: ys) else y :: mgF le n (x :: xs) ys
def msF {α : Type} (le : α → α → Bool) : Nat → List α → List α
  | 0, xs => xs
  | n + 1, [] => []
  | n + 1, [a] => [a]
  | n + 1, a :: b :: xs => let z := a :: b :: xs
    mgF le z.length (msF le n (z.take ((z.length + 1) / 2))) (msF le n (z.drop ((z.length + 1) / 2)))
theorem mgF_eq {α : Type} (le : α → α → Bool) : ∀ (n : Nat) (xs ys : List α), xs.length + ys.length ≤ n → mgF le n xs ys = List.merge xs ys le
  | 0, xs, ys, h => by
    have h1 : xs = [] := List.eq_nil_of_length_eq_zero (by omega)
    have h2 : ys = [] := List.eq_nil_of_length_eq_zero (by omega)
    subst h1; subst h2; simp [mgF]
  | n + 1, [], ys, h => by simp [mgF]
  | n + 1, x :: xs, [], h => by simp [mgF]
  | n + 1, x :: xs, y :: ys, h => by
    simp only [List.length_cons] at h
    rw [mgF, List.merge]
    rw [mgF_eq le n xs (y :: ys) (by simp only [List.length_cons]; omega), mgF_eq le n (x :: xs) ys (by simp only [List.length_cons]; omega)]
theorem msF_eq {α : Type} (le : α → α → Bool) : ∀ (n : Nat) (xs : List α), xs.length ≤ n → msF le n xs = xs.mergeSort le
  | 0, xs, h => by
    have h1 : xs = [] := List.eq_nil_of_length_eq_zero (by omega)
    subst h1; simp [msF]
  | n + 1, [], h => by simp [msF]
  | n + 1, [a], h => by simp [msF]
  | n + 1, a :: b :: xs, h => by
    have e : (List.mergeSort (a :: b :: xs) le) = List.merge (((a :: b :: xs).take (((a :: b :: xs).length + 1) / 2)).mergeSort le) (((a :: b :: xs).drop (((a :: b :: xs).length + 1) / 2)).mergeSort le) le := by
      rw [List.mergeSort]
      simp only [List.MergeSort.Internal.splitInTwo, List.splitAt_eq]
    rw [e]
    simp only [List.length_cons] at h
    simp only [msF]
    rw [msF_eq le n _ (by simp only [List.length_take, List.length_cons]; omega), msF_eq le n _ (by simp only [List.length_drop, List.length_cons]; omega)]
    refine mgF_eq le _ _ _ ?_
    simp only [List.length_mergeSort, List.length_take, List.length_drop]
    omega
def sortD (ds : List D) : List D := msF (PySem.W.dataLe false py) ds.length ds
theorem sortD_eq (ds : List D) : sortD ds = ds.mergeSort (PySem.W.dataLe false py) := msF_eq _ _ _ (Nat.le_refl _)
def sortedO : D → Option D
  | .lst ds => if sortOk ds then some (.lst (sortD ds)) else none
  | _ => none
theorem depth_mem : ∀ {ds : List D} {d : D}, d ∈ ds → (py d).depth ≤ PyData.depthAll (pys ds)
  | [], _, h => by cases h
  | e :: ds, d, h => by
    simp only [pys, PyData.depthAll]
    rcases List.mem_cons.mp h with rfl | h
    · exact Nat.le_max_left _ _
    · exact Nat.le_trans (depth_mem h) (Nat.le_max_right _ _)
section
variable {T : Wd} {X : Cx}
theorem sort_core (ok : Ok T X) (rm : Rm X) {pins : List (Addr × Obj)} {σ : L2.St} {H : Hp} {s : Shared} {ι : List Addr} {bar : Addr → Prop} {ds : List D} {vs : List V} {a : Addr} {its : List Value} {Q : VK} (I : Inv X pins σ H s)
    (hb : ∀ a, bar a → H a ≠ none) (hi : ∀ a ∈ ι, bar a) (rs : RelDs T ι bar H ds vs) (rv : Vals vs its) (hc : sortOk ds = true) (q : ∀ z H', Same H H' → RelD T ι bar H' (.lst (sortD ds)) z → Q z H')
    (hrun : ∀ {Q' : Value → Shared → Prop}, (∀ out, out.length = ds.length → PySem.W.EachIs (VR T ι bar H) out (ds.mergeSort (PySem.W.dataLe false py)) → Q' (.ref (s.heap.objs.size + 1)) { s with heap := PyProof.Rows.sortedAll s.heap its (List.toArray out) }) →
      wpAny (model X.prog X.w) X.A (call (.builtin "sorted") [.ref a]) Q' X.xe s) : wpAny (model X.prog X.w) X.A (call (.builtin "sorted") [.ref a]) (L2.EP X pins σ Q) X.xe s := by
  rw [sortD_eq] at q
  refine hrun fun out h1 h2 => ?_
  simp only [sortOk, Bool.and_eq_true, decide_eq_true_eq] at hc
  obtain ⟨⟨⟨⟨g1, g2⟩, g3⟩, g4⟩, g5⟩ := hc
  obtain ⟨ws, k1, k2⟩ := of_each h2
  obtain ⟨ep, he'⟩ := PyProof.Rows.sortedAll_at s.heap its out.toArray
  have hlen : ws.length ≤ sizeLine := by
    rw [k2.length, List.length_mergeSort]
    exact fits_line g5
  exact ⟨.ref _, upd H (s.heap.objs.size + 1) (.lst ws), I.laid (t' := s.toks) (fun _ _ => PyProof.Rows.sortedAll_old) (Nat.le_succ _) ⟨hlen, out, ep, k1, he'⟩, rfl,
    q _ _ (same_upd (I.hok.fresh (Nat.le_succ _))) (RelD.newLst hb hi (I.hok.fresh (Nat.le_succ _)) k2)⟩
theorem sort_prem {ds : List D} (hc : sortOk ds = true) : PySem.W.AllAlike (ds.map py) ∧ PySem.W.Sortable (ds.map py) ∧ ds.length ≤ sizeLine ∧ isDs ds = true ∧ PyData.depthAll (pys ds) ≤ 60 := by
  simp only [sortOk, Bool.and_eq_true, decide_eq_true_eq] at hc
  obtain ⟨⟨⟨⟨g1, g2⟩, g3⟩, g4⟩, g5⟩ := hc
  refine ⟨fun d hd d' hd' => ?_, ?_, fits_line g5, g1, g4⟩
  · obtain ⟨x, hx, rfl⟩ := List.mem_map.mp hd
    obtain ⟨y, hy, rfl⟩ := List.mem_map.mp hd'
    exact List.all_eq_true.mp (List.all_eq_true.mp g2 x hx) y hy
  · rcases Bool.or_eq_true_iff.mp g3 with g | g
    · refine .inl fun d hd => ?_
      obtain ⟨x, hx, rfl⟩ := List.mem_map.mp hd
      have := List.all_eq_true.mp g x hx
      cases x with
      | tup xs =>
        cases xs with
        | nil => simp [tupCons] at this
        | cons z r => exact ⟨py z, pys r, by simp [py, pys]⟩
      | _ => simp [tupCons] at this
    · refine .inr fun d hd => ?_
      obtain ⟨x, hx, rfl⟩ := List.mem_map.mp hd
      have h1 := List.all_eq_true.mp g x hx
      have h2 := isDs_all.mp g1 x hx
      cases x <;> simp_all [notTup, py, isD]
theorem ud_sorted (ok : Ok T X) (rm : Rm X) : Call1 T X (.builtin "sorted") sortedO := by
  intro pins s σ H x v Q I rx ⟨ι, bar, d, r, hb, hi, rd, hk, q⟩
  have hu := rm.hu
  have each : ∀ {ds : List D} {vs : List V} {its : List Value}, RelDs T ι bar H ds vs → Vals vs its → isDs ds = true → PySem.W.EachIs (fun v b => ∃ as, Reads s.heap v (py b) as) its ds := by
    intro ds vs its rs rv g
    obtain ⟨as, hr⟩ := rs.reads ok I rv g
    have h := hr
    rw [pys_map] at h
    exact PySem.W.readsAll_each py h
  unfold sortedO at hk
  split at hk
  · split at hk
    · rename_i ds hc
      cases hk
      obtain ⟨a, vs, rfl, h1, rs⟩ := rd.lst
      cases rx
      obtain ⟨its, rv, pl, hz⟩ := I.list (.inl h1)
      obtain ⟨p1, p2, p3, p4, p5⟩ := sort_prem hc
      exact sort_core ok rm I hb hi rs rv hc q fun {Q'} hq => PySem.W.sorted_data pl.isList (each_of rs rv) (each rs rv p4) p1 p2 p3 (fun b hbm => by have := depth_mem hbm; omega) hq
    · cases hk
  · cases hk
/-- isinstance(x, T), T a built-in class -/
inductive Ty where
  | int | bool | str | tuple | list
def Ty.is : Ty → D → Option Bool
  | .int, d => if isD d then some (match d with | .int _ => true | .bl _ => true | _ => false) else none
  | .bool, d => if isD d then some (match d with | .bl _ => true | _ => false) else none
  | .str, d => if isD d then some (match d with | .str _ => true | _ => false) else none
  | .tuple, d => if isD d then some (match d with | .tup _ => true | _ => false) else none
  | .list, d => if isD d then some (match d with | .lst _ => true | _ => false) else none
def Ty.name : Ty → String
  | .int => "int" | .bool => "bool" | .str => "str" | .tuple => "tuple" | .list => "list"
def isiO (t : Ty) (d : D) : Option D := (t.is d).map .bl
theorem ud_isi (ok : Ok T X) (t : Ty) : UnD T X (fun v => call (.builtin "isinstance") [v, .type t.name]) (isiO t) := by
  intro pins s σ H x v Q I rx ⟨ι, bar, d, r, hb, hi, rd, hk, q⟩
  obtain ⟨b, e1, rfl⟩ := Option.map_eq_some_iff.mp hk
  have g : isD d = true := by
    cases t <;> simp only [Ty.is] at e1 <;> split at e1 <;> first | assumption | cases e1
  obtain ⟨as, rr⟩ := rd.reads ok I rx g
  have fin : ∀ {c : Bool} {tk : Nat}, c = b → L2.EP X pins σ Q (.bool c) { s with toks := tk } := fun {c tk} e => ⟨.bl b, H, I.tok tk, by rw [e]; rfl, q _ _ (Same.refl H) (RelD.ofBl b)⟩
  cases t with
  | int => refine PySem.W.isinstance_int_data rr fun tk _ => fin ?_; cases d <;> simp_all [Ty.is, py, PyData.isInt, isD]
  | bool => refine PySem.W.isinstance_bool_data rr fun tk _ => fin ?_; cases d <;> simp_all [Ty.is, py, PyData.isBool, isD]
  | str => refine PySem.W.isinstance_str_data rr fun tk _ => fin ?_; cases d <;> simp_all [Ty.is, py, PyData.isStr, isD]
  | tuple => refine PySem.W.isinstance_tuple_data rr fun tk _ => fin ?_; cases d <;> simp_all [Ty.is, py, PyData.isTuple, isD]
  | list => refine PySem.W.isinstance_list_data rr fun tk _ => fin ?_; cases d <;> simp_all [Ty.is, py, PyData.isList, isD]
variable {W : WX} {pos p p2 : Pos} {e : Expr} {m : Ev}
theorem ee_isi (ok : Ok T X) (t : Ty) (he : EW T W X e m) (hg : Gl X "isinstance") (hm : X.mg "isinstance" = none) {y : Str} (hgy : Gl X y) (hmy : X.mg y = none) (hvy : bootBuiltins y = some (.type t.name))
    (hs : starEach [e, .Name y p2] X.env = (false, eval e X.env) :: starEach [.Name y p2] X.env := by rfl) (hny : y ≠ "__name__" := by decide) (hdy : (y == ("__debug__" : Str)) = false := by decide) (hpl : (backTo pos (starEach [.Name y p2] X.env)).any (·.1) = false := by rfl)
    (hs2 : starEach [.Name y p2] X.env = (false, eval (.Name y p2) X.env) :: starEach [] X.env := by rfl) :
    EE T W X (.Call (.Name "isinstance" p) [e, .Name y p2] [] pos) (mUn (isiO t) m) := by
  have hc : CallR X (.builtin "isinstance") (fun xs H Q => ∃ x, xs = [x, .ty t.name] ∧ rUn T (isiO t) x H Q) := by
    intro pins s σ H xs us Q I r hq
    obtain ⟨x, rfl, q⟩ := hq
    obtain ⟨u, w, rfl, rx, ry⟩ := vals2 r
    obtain rfl : w = .type t.name := ry
    exact ud_isi ok t pins s σ H x u Q I rx q
  refine PE.imp (pe_callB hc hg hm (by decide +kernel) (pa_cons he (pa_cons (pe_bltn (v := .ty t.name) hgy hmy hvy rfl hny hdy) pa_nil hs2) hs) (by decide) (by decide) hs hpl) fun σ H Q h => ?_
  obtain ⟨γ, ρ, g, S, q⟩ := un_imp h
  refine ⟨γ, ρ, g, S, ?_⟩
  revert q
  cases m ρ g with
  | exc x g' => exact fun q => q
  | bad => exact fun q => q
  | ok d g' => exact fun q v ι' H' s1 G1 r1 => ⟨v, rfl, q v ι' H' s1 G1 r1⟩
end
end Z
namespace Z
open PySem PySem.Spec PyProof.Rows L2
set_option autoImplicit false
inductive SR where
  | nx (ρ : Env) (g : G)
  | rt (d : D) (g : G)
  | bk (ρ : Env) (g : G)
  | ct (ρ : Env) (g : G)
  | exc (x : Xc) (ρ : Env) (g : G)
  | bad
abbrev Sm := Env → G → SR
/-- the def's entry: the cells, the heap, what its callers own -/
structure Ent where
  ι : List Addr
  H : Hp
  av : Addr → Prop
  kd : List D
  kv : List V
structure StS (T : Wd) (E0 : Ent) (γ : Gho) (H : Hp) (ρ : Env) (σ : L2.St) (g : G) : Prop where
  st : StR T γ H ρ σ g
  ent : Stp E0.ι γ.ι E0.H H
  fav : γ.av = E0.av
  own0 : ∀ i a, γ.oa i = some a → E0.H a = none
  kept : RelDs T γ.ι γ.bar H E0.kd E0.kv
def SPost (T : Wd) (E0 : Ent) (W : WX) (D' : Ends) : SR → Prop
  | .nx ρ g => ∀ (γ : Gho) (σ : L2.St) (H : Hp), StS T E0 γ H ρ σ g → D'.nx σ H
  | .bk ρ g => ∀ (γ : Gho) (σ : L2.St) (H : Hp), StS T E0 γ H ρ σ g → D'.bk σ H
  | .ct ρ g => ∀ (γ : Gho) (σ : L2.St) (H : Hp), StS T E0 γ H ρ σ g → D'.ct σ H
  | .rt d g => ∀ (v : V) (γ : Gho) (H : Hp), γ.av = E0.av → (∀ i, γ.oa i = none) → Stp E0.ι γ.ι E0.H H → GR T γ.ι γ.bar H g → RelD T γ.ι γ.bar H d v → D'.rt v H
  | .exc x ρ g => ∀ (γ : Gho) (σ : L2.St) (H : Hp) (cls : Value) (dx : Option Addr), StS T E0 γ H ρ σ g → ExcR T γ.ι γ.bar H x cls dx → W cls dx σ H
  | .bad => False
def tS (T : Wd) (W : WX) (m : Sm) : TS := fun D' σ H => ∃ E0 γ ρ g, StS T E0 γ H ρ σ g ∧ SPost T E0 W D' (m ρ g)
abbrev SS (T : Wd) (W : WX) (X : Cx) (st : Stmt) (m : Sm) : Prop := PS X st (tS T W m)
abbrev SB (T : Wd) (W : WX) (X : Cx) (st : List Stmt) (m : Sm) : Prop := PSs X st (tS T W m)
def sNx : Sm := fun ρ g => .nx ρ g
def sSeq (a b : Sm) : Sm := fun ρ g => match a ρ g with
  | .nx ρ' g' => b ρ' g'
  | r => r
def sRet (m : Ev) : Sm := fun ρ g => match m ρ g with
  | .ok d g' => .rt d g'
  | .exc x g' => .exc x ρ g'
  | .bad => .bad
def sDrop (m : Ev) : Sm := fun ρ g => match m ρ g with
  | .ok _ g' => .nx ρ g'
  | .exc x g' => .exc x ρ g'
  | .bad => .bad
def sIf (c : EvB) (a b : Sm) : Sm := fun ρ g => match c ρ g with
  | .ok k g' => if k = true then a ρ g' else b ρ g'
  | .exc x g' => .exc x ρ g'
  | .bad => .bad
def sSet (i : Nat) (m : Ev) : Sm := fun ρ g => match m ρ g with
  | .ok d g' => .nx (ρ.set i (.val d)) g'
  | .exc x g' => .exc x ρ g'
  | .bad => .bad
/-- a name that owns gives up -/
def frz (ρ : Env) (i : Nat) : Env := match ρ[i]? with
  | some (.own d) => ρ.set i (.val d)
  | _ => ρ
def sFrz (i : Nat) (m : Sm) : Sm := fun ρ g => m (frz ρ i) g
def Gho.drop (γ : Gho) (i : Nat) : Gho := { γ with oa := fun j => if j = i then none else γ.oa j }
theorem Gho.drop_bar {γ : Gho} {i : Nat} {a : Addr} (h : (γ.drop i).bar a) : γ.bar a := by
  rcases h with h | ⟨j, h⟩ | h
  · exact .inl h
  · have h : (if j = i then none else γ.oa j) = some a := h
    split at h
    · cases h
    · exact .inr (.inl ⟨j, h⟩)
  · exact .inr (.inr h)
theorem Gho.drop_oa {γ : Gho} {i j : Nat} {a : Addr} (h : (γ.drop i).oa j = some a) : j ≠ i ∧ γ.oa j = some a := by
  have h : (if j = i then none else γ.oa j) = some a := h
  split at h
  · cases h
  · rename_i n; exact ⟨n, h⟩
section
variable {T : Wd} {γ : Gho} {H : Hp} {ρ : Env} {σ : L2.St} {g : G} {E0 : Ent}
/-- slot i gets a value -/
theorem StR.setVal (R : StR T γ H ρ σ g) (i : Nat) {d : D} {v : V} (r : RelD T γ.ι γ.bar H d v) : StR T (γ.drop i) H (ρ.set i (.val d)) (σ.set i (some v)) g where
  len := by rw [List.length_set, List.length_set]; exact R.len
  vals := fun j e h => by
    by_cases hj : i = j
    · subst hj
      have hl : i < ρ.length := by
        have := (List.getElem?_eq_some_iff.mp h).1
        simpa using this
      rw [List.getElem?_set_self hl] at h
      cases h
      exact ⟨v, List.getElem?_set_self (by rw [R.len]; exact hl), r.fewer fun a h => Gho.drop_bar h⟩
    · rw [List.getElem?_set_ne hj] at h
      obtain ⟨u, e1, r1⟩ := R.vals j e h
      exact ⟨u, by rw [List.getElem?_set_ne hj]; exact e1, r1.fewer fun a h => Gho.drop_bar h⟩
  owns := fun j e h => by
    by_cases hj : i = j
    · subst hj
      have hl : i < ρ.length := by
        have := (List.getElem?_eq_some_iff.mp h).1
        simpa using this
      rw [List.getElem?_set_self hl] at h
      cases h
    · rw [List.getElem?_set_ne hj] at h
      obtain ⟨a, e1, e2, r1, m1⟩ := R.owns j e h
      exact ⟨a, by show (if j = i then none else γ.oa j) = some a; rw [if_neg (Ne.symm hj)]; exact e1, by rw [List.getElem?_set_ne hj]; exact e2, r1.fewer fun a h => Gho.drop_bar h, m1⟩
  oad := fun j a h => by
    obtain ⟨n, h⟩ := Gho.drop_oa h
    obtain ⟨e, q⟩ := R.oad j a h
    exact ⟨e, by rw [List.getElem?_set_ne (Ne.symm n)]; exact q⟩
  oinj := fun j k a h1 h2 => R.oinj j k a (Gho.drop_oa h1).2 (Gho.drop_oa h2).2
  oi := fun j a h => R.oi j a (Gho.drop_oa h).2
  avt := R.avt
  cells := R.cells.fewer fun a h => Gho.drop_bar h
  mks := fun j k h => by
    obtain ⟨n, h⟩ := mk_of_set (by simp) h
    obtain ⟨m, e1, e2, r⟩ := R.mks j k h
    exact ⟨m, e1, by rw [List.getElem?_set_ne n]; exact e2, r.fewer fun a h => Gho.drop_bar h⟩
theorem StS.setVal (S : StS T E0 γ H ρ σ g) (i : Nat) {d : D} {v : V} (r : RelD T γ.ι γ.bar H d v) : StS T E0 (γ.drop i) H (ρ.set i (.val d)) (σ.set i (some v)) g :=
  ⟨S.st.setVal i r, S.ent, S.fav, fun j a h => S.own0 j a (Gho.drop_oa h).2, S.kept.fewer fun a h => Gho.drop_bar h⟩
/-- slot i gives up what it owns -/
theorem StS.freeze (S : StS T E0 γ H ρ σ g) (i : Nat) : ∃ γ', StS T E0 γ' H (frz ρ i) σ g := by
  unfold frz
  split
  · rename_i d e
    obtain ⟨a, e1, e2, r, _⟩ := S.st.owns i d e
    refine ⟨γ.drop i, ?_⟩
    have nb : ¬ (γ.drop i).bar a := by
      rintro (h | ⟨j, h⟩ | h)
      · exact (S.st.oi i a e1).1 h
      · obtain ⟨n, h⟩ := Gho.drop_oa h
        exact n (S.st.oinj j i a h e1)
      · exact (S.st.oi i a e1).2 h
    have hl : i < ρ.length := (List.getElem?_eq_some_iff.mp e).1
    have hs : σ = σ.set i (some (.ref a)) := by
      apply List.ext_getElem?
      intro j
      by_cases hj : i = j
      · subst hj
        rw [List.getElem?_set_self (by rw [S.st.len]; exact hl), e2]
      · rw [List.getElem?_set_ne hj]
    have R := S.st
    refine ⟨⟨by rw [List.length_set]; exact R.len, fun j x h => ?_, fun j x h => ?_, fun j b h => ?_, fun j k b h1 h2 => R.oinj j k b (Gho.drop_oa h1).2 (Gho.drop_oa h2).2, fun j b h => R.oi j b (Gho.drop_oa h).2, R.avt, R.cells.fewer fun a h => Gho.drop_bar h, fun j k h => by
        obtain ⟨n, h⟩ := mk_of_set (by simp) h
        obtain ⟨m, e1, e2, r⟩ := R.mks j k h
        exact ⟨m, e1, e2, r.fewer fun a h => Gho.drop_bar h⟩⟩,
      S.ent, S.fav, fun j b h => S.own0 j b (Gho.drop_oa h).2, S.kept.fewer fun a h => Gho.drop_bar h⟩
    · by_cases hj : i = j
      · subst hj
        rw [List.getElem?_set_self hl] at h
        cases h
        exact ⟨_, e2, (r.fewer fun a h => Gho.drop_bar h).val nb⟩
      · rw [List.getElem?_set_ne hj] at h
        obtain ⟨u, e1, r1⟩ := R.vals j x h
        exact ⟨u, e1, r1.fewer fun a h => Gho.drop_bar h⟩
    · by_cases hj : i = j
      · subst hj
        rw [List.getElem?_set_self hl] at h
        cases h
      · rw [List.getElem?_set_ne hj] at h
        obtain ⟨b, q1, q2, r1, m1⟩ := R.owns j x h
        exact ⟨b, by show (if j = i then none else γ.oa j) = some b; rw [if_neg (Ne.symm hj)]; exact q1, q2, r1.fewer fun a h => Gho.drop_bar h, m1⟩
    · obtain ⟨n, h⟩ := Gho.drop_oa h
      obtain ⟨x, q⟩ := R.oad j b h
      exact ⟨x, by rw [List.getElem?_set_ne (Ne.symm n)]; exact q⟩
  · exact ⟨γ, S⟩
theorem StS.step {ι' : List Addr} {H' : Hp} {g' : G} (S : StS T E0 γ H ρ σ g) (s : Stp γ.ι ι' H H') (G' : GR T ι' (γ.to ι').bar H' g') : StS T E0 (γ.to ι') H' ρ σ g' :=
  ⟨S.st.step s G', S.ent.trans s, S.fav, S.own0, S.kept.keep s γ.bi (Gho.grows s)⟩
end
section
variable {T : Wd} {W : WX} {X : Cx} {st : Stmt} {rest : List Stmt} {a b : Sm} {e : Expr} {m : Ev} {pos : Pos}
theorem sb_nil : SB T W X [] sNx := PSs.imp pss_nil fun D' σ H ⟨E0, γ, ρ, g, S, p⟩ => p γ σ H S
theorem seq_imp {D' : Ends} {σ : L2.St} {H : Hp} (h : tS T W (sSeq a b) D' σ H) : tS T W a { D' with nx := tS T W b D' } σ H := by
  obtain ⟨E0, γ, ρ, g, S, p⟩ := h
  refine ⟨E0, γ, ρ, g, S, ?_⟩
  unfold sSeq at p
  revert p
  cases a ρ g with
  | nx ρ' g' => exact fun p γ' σ' H' S' => ⟨E0, γ', ρ', g', S', p⟩
  | rt d g' => exact fun p => p
  | bk ρ' g' => exact fun p => p
  | ct ρ' g' => exact fun p => p
  | exc x ρ' g' => exact fun p => p
  | bad => exact fun p => p
theorem sb_cons (h1 : SS T W X st a) (h2 : SB T W X rest b) : SB T W X (st :: rest) (sSeq a b) := PSs.imp (pss_cons h1 h2) fun _ _ _ h => seq_imp h
theorem sb_one (h1 : SS T W X st a) : SB T W X [st] a := pss_one h1
theorem Gho.bare_bar {γ : Gho} {a : Addr} (h : ({ γ with oa := fun _ => none } : Gho).bar a) : γ.bar a := by
  rcases h with h | ⟨i, h⟩ | h
  · exact .inl h
  · cases h
  · exact .inr (.inr h)
theorem ss_ret (he : EE T W X e m) : SS T W X (.Return (some e) pos) (sRet m) := PS.imp (ps_ret he) fun D' σ H ⟨E0, γ, ρ, g, S, p⟩ => by
  refine ⟨γ, ρ, g, S.st, ?_⟩
  unfold sRet at p
  revert p
  cases m ρ g with
  | ok d g' =>
    intro p v ι' H' s1 G1 r1
    exact p v { (γ.to ι') with oa := fun _ => none } H' S.fav (fun _ => rfl) (S.ent.trans s1) (G1.fewer fun a h => Gho.bare_bar h) (r1.fewer fun a h => Gho.bare_bar h)
  | exc x g' => exact fun p cls dx ι' H' s1 G1 r1 => p (γ.to ι') σ H' cls dx (S.step s1 G1) r1
  | bad => exact fun p => p
theorem ss_expr (he : EW T W X e m) (hs : swapsWith e none pos.line X.env = pure false := by rfl) : SS T W X (.Expr e pos) (sDrop m) := PS.imp (ps_expr he hs) fun D' σ H ⟨E0, γ, ρ, g, S, p⟩ => by
  refine ⟨γ, ρ, g, S.st, ?_⟩
  unfold sDrop at p
  revert p
  cases m ρ g with
  | ok d g' => exact fun p v ι' H' s1 G1 r1 => p (γ.to ι') σ H' (S.step s1 G1)
  | exc x g' => exact fun p cls dx ι' H' s1 G1 r1 => p (γ.to ι') σ H' cls dx (S.step s1 G1) r1
  | bad => exact fun p => p
theorem ss_if {c : Expr} {mc : EvB} {as bs : List Stmt} (hc : EB T W X c mc) (ha : SB T W X as a) (hb : SB T W X bs b) : SS T W X (.If c as bs pos) (sIf mc a b) := PS.imp (ps_if hc ha hb) fun D' σ H ⟨E0, γ, ρ, g, S, p⟩ => by
  refine ⟨γ, ρ, g, S.st, ?_⟩
  unfold sIf at p
  revert p
  cases mc ρ g with
  | ok k g' =>
    intro p v ι' H' s1 G1 r1
    subst r1
    have S1 := S.step s1 G1
    cases v with
    | true => exact ⟨E0, _, ρ, g', S1, p⟩
    | false => exact ⟨E0, _, ρ, g', S1, p⟩
  | exc x g' => exact fun p cls dx ι' H' s1 G1 r1 => p (γ.to ι') σ H' cls dx (S.step s1 G1) r1
  | bad => exact fun p => p
theorem ss_frz (i : Nat) (h : SS T W X st a) : SS T W X st (sFrz i a) := PS.imp h fun D' σ H ⟨E0, γ, ρ, g, S, p⟩ => by
  obtain ⟨γ', S'⟩ := S.freeze i
  exact ⟨E0, γ', frz ρ i, g, S', p⟩
/-- name = value -/
theorem set_imp {i : Nat} {D' : Ends} {σ : L2.St} {H : Hp} (h : tS T W (sSet i m) D' σ H) : tAsg (tX T W (rD T) m) (gName i) D' σ H := by
  obtain ⟨E0, γ, ρ, g, S, p⟩ := h
  refine ⟨γ, ρ, g, S.st, ?_⟩
  unfold sSet at p
  revert p
  cases m ρ g with
  | ok d g' => exact fun p v ι' H' s1 G1 r1 => p _ _ H' ((S.step s1 G1).setVal i r1)
  | exc x g' => exact fun p cls dx ι' H' s1 G1 r1 => p (γ.to ι') σ H' cls dx (S.step s1 G1) r1
  | bad => exact fun p => p
theorem ss_set (i : Nat) {x : Str} {pos' : Pos} (hN : X.N.Nodup) (he : EE T W X e m) (hi : X.N[i]? = some x := by rfl) (hx : Loc X.env.scope x := by first | exact .inl rfl | exact .inr rfl) (hs : swapsWith e (some (.Name x pos')) pos.line X.env = pure false := by rfl)
    (hf : X.fn x = true ∨ X.env.scope.names.lookup x = some .local := by first | exact .inl rfl | exact .inr rfl | assumption) : SS T W X (.Assign [.Name x pos'] e pos) (sSet i m) := PS.imp (ps_set hN hi hx he hs hf) fun _ _ _ h => set_imp h
end
end Z
namespace Z
open PySem PySem.Spec PyProof.Rows L2
set_option autoImplicit false
structure Less (γ' γ : Gho) : Prop where
  ι : γ'.ι = γ.ι
  av : γ'.av = γ.av
  oa : ∀ i a, γ'.oa i = some a → γ.oa i = some a
theorem Less.refl {γ : Gho} : Less γ γ := ⟨rfl, rfl, fun _ _ h => h⟩
theorem Less.trans {γ1 γ2 γ3 : Gho} (a : Less γ1 γ2) (b : Less γ2 γ3) : Less γ1 γ3 := ⟨a.ι.trans b.ι, a.av.trans b.av, fun i x h => b.oa i x (a.oa i x h)⟩
theorem Less.bar {γ' γ : Gho} (l : Less γ' γ) : ∀ a, γ'.bar a → γ.bar a := fun a h => by
  rcases h with h | ⟨i, h⟩ | h
  · exact .inl (l.ι ▸ h)
  · exact .inr (.inl ⟨i, l.oa i a h⟩)
  · exact .inr (.inr (l.av ▸ h))
theorem Less.drop {γ : Gho} {i : Nat} : Less (γ.drop i) γ := ⟨rfl, rfl, fun _ _ h => (Gho.drop_oa h).2⟩
theorem Less.rel {T : Wd} {H : Hp} {γ' γ : Gho} (l : Less γ' γ) {d : D} {v : V} (r : RelD T γ.ι γ.bar H d v) : RelD T γ'.ι γ'.bar H d v := by
  rw [l.ι]; exact r.fewer l.bar
theorem Less.rels {T : Wd} {H : Hp} {γ' γ : Gho} (l : Less γ' γ) {d : List D} {v : List V} (r : RelDs T γ.ι γ.bar H d v) : RelDs T γ'.ι γ'.bar H d v := by
  rw [l.ι]; exact r.fewer l.bar
structure Only (sl : List Nat) (γ γ' : Gho) (σ σ' : L2.St) : Prop where
  len : σ'.length = σ.length
  at_ : ∀ j, j ∉ sl → σ'[j]? = σ[j]?
  oa : ∀ j a, j ∉ sl → γ.oa j = some a → γ'.oa j = some a
abbrev Tg := D → Env → Option Env
abbrev Tgs := List D → Env → Option Env
def tG (T : Wd) (sl : List Nat) (m : Tg) : TG := fun v σ H Q => ∃ γ ρ g d ρ', StR T γ H ρ σ g ∧ RelD T γ.ι γ.bar H d v ∧ m d ρ = some ρ' ∧
  ∀ γ' σ' H', Same H H' → StR T γ' H' ρ' σ' g → Less γ' γ → Only sl γ γ' σ σ' → Q σ' H'
def tGs (T : Wd) (sl : List Nat) (m : Tgs) : TGs := fun v σ H Q => ∃ γ ρ g d ρ', StR T γ H ρ σ g ∧ RelDs T γ.ι γ.bar H d v ∧ m d ρ = some ρ' ∧
  ∀ γ' σ' H', Same H H' → StR T γ' H' ρ' σ' g → Less γ' γ → Only sl γ γ' σ σ' → Q σ' H'
abbrev GT (T : Wd) (X : Cx) (e : Expr) (sl : List Nat) (m : Tg) : Prop := PG X e (tG T sl m)
abbrev GTs (T : Wd) (X : Cx) (e : List Expr) (sl : List Nat) (m : Tgs) : Prop := PGs X e (tGs T sl m)
def gN (i : Nat) : Tg := fun d ρ => some (ρ.set i (.val d))
def gNl : Tgs := fun ds ρ => match ds with
  | [] => some ρ
  | _ :: _ => none
def gCn (t : Tg) (u : Tgs) : Tgs := fun ds ρ => match ds with
  | [] => none
  | d :: ds => match t d ρ with
    | some ρ' => u ds ρ'
    | none => none
def gTp (n : Nat) (u : Tgs) : Tg := fun d ρ => match d with
  | .tup ds => if ds.length = n then u ds ρ else none
  | .lst ds => if ds.length = n then u ds ρ else none
  | _ => none
theorem PG.imp {X : Cx} {e : Expr} {t t' : TG} (h : PG X e t) (i : ∀ v σ H Q, t' v σ H Q → t v σ H Q) : PG X e t' := ⟨fun pins s σ H v u Q I r q => h.run pins s σ H v u Q I r (i v σ H Q q)⟩
theorem PGs.imp {X : Cx} {e : List Expr} {t t' : TGs} (h : PGs X e t) (i : ∀ v σ H Q, t' v σ H Q → t v σ H Q) : PGs X e t' := ⟨fun pins s σ H v u Q I r q => h.run pins s σ H v u Q I r (i v σ H Q q)⟩
section
variable {T : Wd} {X : Cx} {e : Expr} {es : List Expr} {pos : Pos} {t : Tg} {u : Tgs} {sl sl' : List Nat}
theorem gt_name (i : Nat) {x : Str} (hN : X.N.Nodup) (hi : X.N[i]? = some x := by rfl) (hx : Loc X.env.scope x := by first | exact .inl rfl | exact .inr rfl)
    (hf : X.fn x = true ∨ X.env.scope.names.lookup x = some .local := by first | exact .inl rfl | exact .inr rfl | assumption) : GT T X (.Name x pos) [i] (gN i) := PG.imp (pg_name hN hi hx hf) fun v σ H Q ⟨γ, ρ, g, d, ρ', R, r, e, q⟩ => by
  cases e
  exact q _ _ H (Same.refl H) (R.setVal i r) Less.drop ⟨by simp, fun j hj => List.getElem?_set_ne (fun z => hj (by simp [z])), fun j a hj h => by show (if j = i then none else γ.oa j) = _; rw [if_neg fun z => hj (by simp [z])]; exact h⟩
theorem gts_nil : GTs T X [] [] gNl := PGs.imp pgs_nil fun v σ H Q ⟨γ, ρ, g, d, ρ', R, r, e, q⟩ => by
  cases d with
  | nil =>
    cases e
    have : v = [] := by simpa [RelDs] using r
    exact ⟨this, q _ _ H (Same.refl H) R .refl ⟨rfl, fun _ _ => rfl, fun _ _ _ h => h⟩⟩
  | cons _ _ => cases e
theorem gts_cons (h1 : GT T X e sl t) (h2 : GTs T X es sl' u) (hs : (assignEach (e :: es) X.env).map (·.2) = assign e X.env :: (assignEach es X.env).map (·.2) := by rfl) : GTs T X (e :: es) (sl ++ sl') (gCn t u) := PGs.imp (pgs_cons h1 h2 hs) fun v σ H Q ⟨γ, ρ, g, d, ρ', R, r, e, q⟩ => by
  cases d with
  | nil => cases e
  | cons d ds =>
    obtain ⟨x, xs, rfl, r1, r2⟩ := r.uncons
    simp only [gCn] at e
    split at e
    · rename_i ρ1 e1
      refine ⟨x, xs, rfl, γ, ρ, g, d, ρ1, R, r1, e1, fun γ1 σ1 H1 m1 R1 l1 k1 => ?_⟩
      refine ⟨γ1, ρ1, g, ds, ρ', R1, l1.rels (r2.keep (.same m1) γ.bi fun a h => .inl h), e, fun γ2 σ2 H2 m2 R2 l2 k2 => ?_⟩
      refine q _ _ H2 (fun a o h => m2 a o (m1 a o h)) R2 (l2.trans l1) ⟨k2.len.trans k1.len, fun j hj => ?_, fun j a hj h => ?_⟩
      · rw [k2.at_ j fun z => hj (List.mem_append_right _ z), k1.at_ j fun z => hj (List.mem_append_left _ z)]
      · exact k2.oa j a (fun z => hj (List.mem_append_right _ z)) (k1.oa j a (fun z => hj (List.mem_append_left _ z)) h)
    · cases e
theorem gt_tup {k n : Nat} (hc : X.calm = true) (hK : X.K = T.K) (h : GTs T X es sl u) (hn : (assignEach es X.env).length = n := by rfl) (hst : (assignEach es X.env).findIdx? (·.1) = none := by rfl) : GT T X (.Tuple es k pos) sl (gTp n u) := by
  refine ⟨fun pins s σ H v w Q I rv q => ?_⟩
  obtain ⟨γ, ρ, g, d, ρ', R, r, e, q⟩ := q
  unfold gTp at e
  split at e
  · rename_i ds
    split at e
    · rename_i hl
      simp only [RelD] at r
      obtain ⟨a, vs, rfl, sq, rs⟩ := r
      refine (pg_tup hc h hn hst).run pins s σ H _ w Q I rv ⟨a, vs, rfl, hK ▸ sq, by rw [rs.length, hl], γ, ρ, g, ds, ρ', R, rs, e, q⟩
    · cases e
  · rename_i ds
    split at e
    · rename_i hl
      simp only [RelD] at r
      obtain ⟨a, vs, rfl, sq, _, rs⟩ := r
      refine (pg_unl hc h hn hst).run pins s σ H _ w Q I rv ⟨a, vs, rfl, .inl sq, by rw [rs.length, hl], γ, ρ, g, ds, ρ', R, rs, e, q⟩
    · cases e
  · cases e
end
abbrev Kp := List Addr → (Addr → Prop) → Hp → Prop
structure ItOk (T : Wd) (J : It) (ds : List D) (K : Kp) : Prop where
  stop : ∀ ι bar H i, K ι bar H → ds.length ≤ i → J.stop i H
  go : ∀ ι bar H i d, K ι bar H → ds[i]? = some d → J.go i H
  yld : ∀ ι bar H i d x H', (∀ a ∈ ι, bar a) → K ι bar H → ds[i]? = some d → J.yld i H x H' → Same H H' ∧ RelD T ι bar H' d x
def Kept (T : Wd) (K : Kp) : Prop := ∃ kd kv, ∀ ι bar H, RelDs T ι bar H kd kv ↔ K ι bar H
def Stays (K : Kp) : Prop := ∀ ι ι' bar bar' H H', Stp ι ι' H H' → (∀ a ∈ ι, bar a) → Grows H bar bar' → K ι bar H → K ι' bar' H'
theorem Kept.stays {T : Wd} {K : Kp} (h : Kept T K) : Stays K := fun ι ι' bar bar' H H' s hi hb k => by
  obtain ⟨kd, kv, e⟩ := h
  exact (e _ _ _).mp (((e _ _ _).mpr k).keep s hi hb)
abbrev EvI := Env → G → Res (List D)
def PostI (T : Wd) (γ : Gho) (H : Hp) (σ : L2.St) (W : WX) (C : Kp → Prop) (R : It → Hp → Prop) : Res (List D) → Prop
  | .ok ds g' => ∀ J K ι' H', C K → ItOk T J ds K → Stp γ.ι ι' H H' → GR T ι' (γ.to ι').bar H' g' → K ι' (γ.to ι').bar H' → R J H'
  | .exc x g' => ∀ cls dx ι' H', Stp γ.ι ι' H H' → GR T ι' (γ.to ι').bar H' g' → ExcR T ι' (γ.to ι').bar H' x cls dx → W cls dx σ H'
  | .bad => False
def tI (T : Wd) (W : WX) (C : Kp → Prop) (m : EvI) : TI := fun σ H R => ∃ γ ρ g, StR T γ H ρ σ g ∧ PostI T γ H σ W C R (m ρ g)
abbrev EI (T : Wd) (W : WX) (X : Cx) (tg e : Expr) (m : EvI) : Prop := PI X tg e (tI T W (Kept T) m)
abbrev EIw (T : Wd) (W : WX) (X : Cx) (tg e : Expr) (m : EvI) : Prop := PI X tg e (tI T W Stays m)
theorem PI.imp {X : Cx} {tg e : Expr} {t t' : TI} (h : PI X tg e t) (i : ∀ σ H R, t' σ H R → t σ H R) : PI X tg e t' := ⟨fun pins s σ H R I q => h.run pins s σ H R I (i σ H R q)⟩
theorem EI.weak {T : Wd} {W : WX} {X : Cx} {tg e : Expr} {m : EvI} (h : EI T W X tg e m) : EIw T W X tg e m := PI.imp h fun σ H R ⟨γ, ρ, g, S, p⟩ => ⟨γ, ρ, g, S, by
  revert p
  cases m ρ g with
  | ok ds g' => exact fun p J K ι' H' c => p J K ι' H' c.stays
  | exc x g' => exact fun p => p
  | bad => exact fun p => p⟩
/-- the items of a value -/
def itemsD : D → Option (List D)
  | .tup ds => some ds
  | .lst ds => some ds
  | .str x => some (x.cps.toList.map fun c => .str ⟨#[c]⟩)
  | _ => none
def iV (m : Ev) : EvI := fun ρ g => match m ρ g with
  | .ok d g' => match itemsD d with
    | some ds => .ok ds g'
    | none => .bad
  | .exc x g' => .exc x g'
  | .bad => .bad
section
variable {T : Wd} {K : PySem.W.Frag} {a : Addr}
theorem it_tup (T : Wd) (a : Addr) (ds : List D) : ItOk T (Itt T.K a) ds (fun ι bar H => RelDs T ι bar H [.tup ds] [.ref a]) := by
  have key : ∀ ι bar H, RelDs T ι bar H [.tup ds] [.ref a] → ∃ vs, SqT T.K H a vs ∧ RelDs T ι bar H ds vs := fun ι bar H h => by
    obtain ⟨v, r, e, h1, _⟩ := h.uncons
    cases e
    simp only [RelD] at h1
    obtain ⟨b, vs, e, q, rs⟩ := h1
    cases e
    exact ⟨vs, q, rs⟩
  refine ⟨fun ι bar H i k hl => ?_, fun ι bar H i d k e => ?_, fun ι bar H i d x H' hi k e y => ?_⟩
  · obtain ⟨vs, q, rs⟩ := key _ _ _ k
    exact ⟨vs, q, by rw [rs.length]; exact hl⟩
  · obtain ⟨vs, q, rs⟩ := key _ _ _ k
    obtain ⟨v, e1, _⟩ := rs.get e
    exact ⟨vs, v, q, e1⟩
  · obtain ⟨vs, q, rs⟩ := key _ _ _ k
    obtain ⟨v, e1, r1⟩ := rs.get e
    obtain ⟨rfl, y⟩ := y
    have := y vs q
    rw [e1] at this; cases this
    exact ⟨fun _ _ h => h, r1⟩
theorem it_lst (T : Wd) (a : Addr) (ds : List D) {Q : Kp} (key : ∀ ι bar H, Q ι bar H → ∃ vs, Rd H a (.lst vs) ∧ RelDs T ι bar H ds vs) : ItOk T (Itl T.K a) ds Q := by
  refine ⟨fun ι bar H i k hl => ?_, fun ι bar H i d k e => ?_, fun ι bar H i d x H' hi k e y => ?_⟩
  · obtain ⟨vs, q, rs⟩ := key _ _ _ k
    exact ⟨vs, .inl q, by rw [rs.length]; exact hl⟩
  · obtain ⟨vs, q, rs⟩ := key _ _ _ k
    obtain ⟨v, e1, _⟩ := rs.get e
    exact ⟨vs, v, .inl q, e1⟩
  · obtain ⟨vs, q, rs⟩ := key _ _ _ k
    obtain ⟨v, e1, r1⟩ := rs.get e
    obtain ⟨rfl, y⟩ := y
    have := y vs (.inl q)
    rw [e1] at this; cases this
    exact ⟨fun _ _ h => h, r1⟩
theorem it_str (T : Wd) (x : Str) : ItOk T (L2.Its x) (x.cps.toList.map fun c => .str ⟨#[c]⟩) (fun ι bar H => RelDs T ι bar H [] []) := by
  refine ⟨fun ι bar H i k hl => ?_, fun ι bar H i d k e => ?_, fun ι bar H i d v H' hi k e y => ?_⟩
  · simpa [L2.Its] using hl
  · have := (List.getElem?_eq_some_iff.mp e).1
    simpa [L2.Its] using this
  · obtain ⟨rfl, c, e1, rfl⟩ := y
    refine ⟨fun _ _ h => h, ?_⟩
    rw [List.getElem?_map, Array.getElem?_toList, e1] at e
    cases e
    simp [RelD]
end
theorem lst_key {T : Wd} {a : Addr} {ds : List D} : ∀ ι bar H, RelDs T ι bar H [.lst ds] [.ref a] → ∃ vs, Rd H a (.lst vs) ∧ RelDs T ι bar H ds vs := fun ι bar H h => by
  obtain ⟨v, r, e, h1, _⟩ := h.uncons
  cases e
  simp only [RelD] at h1
  obtain ⟨b, vs, e, q, _, rs⟩ := h1
  cases e
  exact ⟨vs, q, rs⟩
section
variable {T : Wd} {W : WX} {X : Cx} {tg e : Expr} {m : Ev}
/-- over a value -/
theorem ei_v (ok : Ok T X) (he : EE T W X e m) : EI T W X tg e (iV m) := by
  refine ⟨fun pins s σ H R I q => ?_⟩
  obtain ⟨γ, ρ, g, S, p⟩ := q
  unfold iV at p
  cases hm : m ρ g with
  | bad => rw [hm] at p; exact p.elim
  | exc x g' =>
    rw [hm] at p
    refine (pi_tup he).run pins s σ H R I ⟨γ, ρ, g, S, ?_⟩
    rw [hm]
    exact p
  | ok d g' =>
    rw [hm] at p
    cases d with
    | tup ds =>
      refine (pi_tup he).run pins s σ H R I ⟨γ, ρ, g, S, ?_⟩
      rw [hm]
      intro v ι' H' s1 G1 r1
      obtain ⟨a, vs, rfl, sq, rs⟩ : ∃ a vs, v = .ref a ∧ SqT T.K H' a vs ∧ RelDs T ι' (γ.to ι').bar H' ds vs := by simpa only [RelD] using r1
      refine ⟨a, rfl, ⟨vs, ok.K ▸ sq⟩, ?_⟩
      rw [ok.K]
      exact p _ _ _ _ ⟨[.tup ds], [.ref a], fun _ _ _ => Iff.rfl⟩ (it_tup T a ds) s1 G1 (.cons r1 .nil)
    | lst ds =>
      refine (pi_list he).run pins s σ H R I ⟨γ, ρ, g, S, ?_⟩
      rw [hm]
      intro v ι' H' s1 G1 r1
      obtain ⟨a, vs, rfl, sq, nb, rs⟩ : ∃ a vs, v = .ref a ∧ Rd H' a (.lst vs) ∧ ¬ (γ.to ι').bar a ∧ RelDs T ι' (γ.to ι').bar H' ds vs := by simpa only [RelD] using r1
      refine ⟨a, rfl, ⟨vs, .inl sq⟩, ?_⟩
      rw [ok.K]
      exact p _ _ _ _ ⟨[.lst ds], [.ref a], fun _ _ _ => Iff.rfl⟩ (it_lst T a ds lst_key) s1 G1 (.cons r1 .nil)
    | str x =>
      refine (pi_str he).run pins s σ H R I ⟨γ, ρ, g, S, ?_⟩
      rw [hm]
      intro v ι' H' s1 G1 r1
      have r2 : v = .str x := by simpa only [RelD] using r1
      refine ⟨x, r2, ?_⟩
      exact p _ _ _ _ ⟨[], [], fun _ _ _ => Iff.rfl⟩ (it_str T x) s1 G1 .nil
    | _ => exact p.elim
end
def rngD (lo : Int) (n : Nat) : List D := (List.range n).map fun (i : Nat) => .int (lo + (i : Int))
def iR1 (m : EvL) : EvI := fun ρ g => match m ρ g with
  | .ok [.int j] g' => if -(2 ^ 62) ≤ j ∧ j < 2 ^ 62 then .ok (rngD 0 j.toNat) g' else .bad
  | .exc x g' => .exc x g'
  | _ => .bad
theorem it_rng (T : Wd) (lo : Int) (n : Nat) : ItOk T (L2.Itr lo n) (rngD lo n) (fun ι bar H => RelDs T ι bar H [] []) := by
  refine ⟨fun ι bar H i k hl => ?_, fun ι bar H i d k e => ?_, fun ι bar H i d v H' hi k e y => ?_⟩
  · simpa [L2.Itr, rngD] using hl
  · have := (List.getElem?_eq_some_iff.mp e).1
    simpa [L2.Itr, rngD] using this
  · obtain ⟨rfl, rfl⟩ := y
    refine ⟨fun _ _ h => h, ?_⟩
    unfold rngD at e
    rw [List.getElem?_map] at e
    cases q : (List.range n)[i]? with
    | none => rw [q] at e; cases e
    | some j =>
      rw [q] at e
      obtain ⟨hl, q2⟩ := List.getElem?_eq_some_iff.mp q
      rw [List.getElem_range] at q2
      subst q2
      cases e
      simp [RelD]
theorem RelDs.one {T : Wd} {ι : List Addr} {bar : Addr → Prop} {H : Hp} {d : D} {vs : List V} (h : RelDs T ι bar H [d] vs) : ∃ v, vs = [v] ∧ RelD T ι bar H d v := by
  obtain ⟨v, r, rfl, h1, h2⟩ := h.uncons
  have : r = [] := by simpa [RelDs] using h2
  subst this
  exact ⟨v, rfl, h1⟩
section
variable {T : Wd} {W : WX} {X : Cx} {tg a b : Expr} {m : EvL} {p pos : Pos}
theorem ei_range1 (hg : Gl X "range") (hm : X.mg "range" = none) (ha : EAs T W X [a] m) (hs : starEach [a] X.env = [(false, eval a X.env)] := by rfl) : EI T W X tg (.Call (.Name "range" p) [a] [] pos) (iR1 m) := PI.imp (pi_range1 hg hm ha hs) fun σ H R ⟨γ, ρ, g, S, q⟩ => by
  refine ⟨γ, ρ, g, S, ?_⟩
  unfold iR1 at q
  revert q
  split
  · rename_i j g' e
    rw [e]
    split
    · rename_i hb
      intro q v ι' H' s1 G1 r1
      obtain ⟨x, rfl, r2⟩ := RelDs.one r1
      have r3 : x = .int j := by simpa only [RelD] using r2
      exact ⟨j, by rw [r3], hb.1, hb.2, q _ _ _ _ ⟨[], [], fun _ _ _ => Iff.rfl⟩ (it_rng T 0 j.toNat) s1 G1 .nil⟩
    · exact fun q => q.elim
  · rename_i x g' e
    rw [e]
    exact fun q => q
  · exact fun q => q.elim
end
def forL (t : Tg) (b : Sm) : List D → Env → G → SR
  | [], ρ, g => .nx ρ g
  | d :: ds, ρ, g => match t d ρ with
    | none => .bad
    | some ρ1 => match b ρ1 g with
      | .nx ρ2 g2 => forL t b ds ρ2 g2
      | .ct ρ2 g2 => forL t b ds ρ2 g2
      | .bk ρ2 g2 => .nx ρ2 g2
      | r => r
def sFor (mi : EvI) (t : Tg) (b : Sm) : Sm := fun ρ g => match mi ρ g with
  | .ok ds g' => forL t b ds ρ g'
  | .exc x g' => .exc x ρ g'
  | .bad => .bad
def Ent.more (E : Ent) (kd : List D) (kv : List V) : Ent := { E with kd := kd ++ E.kd, kv := kv ++ E.kv }
theorem StS.more {T : Wd} {E0 : Ent} {γ : Gho} {H : Hp} {ρ : Env} {σ : L2.St} {g : G} {kd : List D} {kv : List V} (S : StS T E0 γ H ρ σ g) (k : RelDs T γ.ι γ.bar H kd kv) : StS T (E0.more kd kv) γ H ρ σ g :=
  ⟨S.st, S.ent, S.fav, S.own0, k.append S.kept⟩
theorem RelDs.split {T : Wd} {ι : List Addr} {bar : Addr → Prop} {H : Hp} : ∀ {kd kd' : List D} {kv kv' : List V}, kd.length = kv.length → RelDs T ι bar H (kd ++ kd') (kv ++ kv') → RelDs T ι bar H kd kv ∧ RelDs T ι bar H kd' kv'
  | [], kd', [], kv', _, h => ⟨.nil, h⟩
  | [], _, _ :: _, _, e, _ => by simp at e
  | _ :: _, _, [], _, e, _ => by simp at e
  | d :: kd, kd', v :: kv, kv', e, h => by
    obtain ⟨x, r, e1, h1, h2⟩ := RelDs.uncons h
    cases e1
    obtain ⟨a, b⟩ := RelDs.split (by simpa using e) h2
    exact ⟨.cons h1 a, b⟩
theorem StS.less {T : Wd} {E0 : Ent} {γ : Gho} {H : Hp} {ρ : Env} {σ : L2.St} {g : G} {kd : List D} {kv : List V} (hl : kd.length = kv.length) (S : StS T (E0.more kd kv) γ H ρ σ g) : StS T E0 γ H ρ σ g ∧ RelDs T γ.ι γ.bar H kd kv :=
  let k := RelDs.split hl S.kept
  ⟨⟨S.st, S.ent, S.fav, S.own0, k.2⟩, k.1⟩
theorem SPost.more {T : Wd} {E0 : Ent} {W : WX} {D' : Ends} {kd : List D} {kv : List V} (hl : kd.length = kv.length) : ∀ {r : SR}, SPost T E0 W D' r → SPost T (E0.more kd kv) W D' r
  | .nx _ _, p => fun γ σ H S => p γ σ H (S.less hl).1
  | .bk _ _, p => fun γ σ H S => p γ σ H (S.less hl).1
  | .ct _ _, p => fun γ σ H S => p γ σ H (S.less hl).1
  | .rt _ _, p => p
  | .exc _ _ _, p => fun γ σ H c dx S => p γ σ H c dx (S.less hl).1
  | .bad, p => p
theorem StS.lesser {T : Wd} {E0 : Ent} {γ γ' : Gho} {H : Hp} {ρ ρ' : Env} {σ σ' : L2.St} {g : G} (S : StS T E0 γ H ρ σ g) (l : Less γ' γ) (R : StR T γ' H ρ' σ' g) : StS T E0 γ' H ρ' σ' g :=
  ⟨R, l.ι ▸ S.ent, l.av.trans S.fav, fun i a h => S.own0 i a (l.oa i a h), l.rels S.kept⟩
section
variable {T : Wd} {W : WX} {X : Cx} {tg iter : Expr} {body : List Stmt} {mi : EvI} {t : Tg} {sl : List Nat} {b : Sm} {pos : Pos}
theorem ss_for (hp : PassesOwn (model X.prog X.w) X.A X.env X.xe) (hc : X.calm = true) (hi : EI T W X tg iter mi) (hg : GT T X tg sl t) (hb : SB T W X body b) (hs : ∀ x, foldedSetIterable iter X.env x = pure x := by intro _; rfl) :
    SS T W X (.For tg iter body [] pos) (sFor mi t b) := PS.imp (ps_for hp hc hi hg hb hs) fun D' σ H ⟨E0, γ, ρ, g, S, p⟩ => by
  refine ⟨γ, ρ, g, S.st, ?_⟩
  unfold sFor at p
  revert p
  cases mi ρ g with
  | bad => exact fun p => p
  | exc x g' => exact fun p cls dx ι' H' s1 G1 r1 => p (γ.to ι') σ H' cls dx (S.step s1 G1) r1
  | ok ds g' =>
    intro p J K ι' H1 hK ok s1 G1 k1
    obtain ⟨kd, kv, hK⟩ := hK
    have S1 := S.step s1 G1
    have k1 := (hK _ _ _).mpr k1
    have hl : kd.length = kv.length := k1.length.symm
    refine ⟨fun i m σ H => m = ds.length - i ∧ i ≤ ds.length ∧ ∃ γ ρ g, StS T (E0.more kd kv) γ H ρ σ g ∧ SPost T E0 W D' (forL t b (ds.drop i) ρ g), ⟨_, rfl, Nat.zero_le _, _, _, _, S1.more k1, by simpa using p⟩, ?_⟩
    rintro i m σ2 H2 ⟨rfl, hle, γ2, ρ2, g2, S2, p2⟩
    obtain ⟨S2', k2⟩ := S2.less hl
    have k2' := (hK _ _ _).mp k2
    by_cases hi : ds.length ≤ i
    · left
      rw [List.drop_eq_nil_of_le hi] at p2
      exact ⟨ok.stop _ _ _ _ k2' hi, p2 _ _ _ S2'⟩
    · right
      have hi : i < ds.length := by omega
      have e : ds[i]? = some ds[i] := List.getElem?_eq_getElem hi
      rw [List.drop_eq_getElem_cons hi] at p2
      refine ⟨ok.go _ _ _ _ _ k2' e, fun σ3 H3 => ∃ γ ρ g, StS T (E0.more kd kv) γ H3 ρ σ3 g ∧ SPost T E0 W D' (forL t b (ds.drop (i + 1)) ρ g), fun σ3 H3 h3 => ⟨_, by omega, rfl, hi, h3⟩, fun x H3 y => ?_⟩
      obtain ⟨sm, rx⟩ := ok.yld _ _ _ _ _ _ _ (fun _ h => .inl h) k2' e y
      have S3 : StS T (E0.more kd kv) γ2 H3 ρ2 σ2 g2 := S2.step (.same sm) (S2.st.cells.keep sm γ2.bi (Gho.grows (.same sm)))
      unfold forL at p2
      revert p2
      cases ht : t ds[i] ρ2 with
      | none => exact fun p => p.elim
      | some ρ3 =>
        intro p2
        refine ⟨γ2, ρ2, g2, ds[i], ρ3, S3.st, rx, ht, fun γ4 σ4 H4 sm4 R4 l4 _ => ?_⟩
        have S4 := (S3.step (.same sm4) (S3.st.cells.keep sm4 γ2.bi (Gho.grows (.same sm4)))).lesser l4 R4
        refine ⟨E0.more kd kv, γ4, ρ3, g2, S4, ?_⟩
        dsimp only at p2
        revert p2
        cases b ρ3 g2 with
        | nx ρ5 g5 => exact fun p γ5 σ5 H5 S5 => ⟨γ5, ρ5, g5, S5, p⟩
        | ct ρ5 g5 => exact fun p γ5 σ5 H5 S5 => ⟨γ5, ρ5, g5, S5, p⟩
        | bk ρ5 g5 => exact fun p γ5 σ5 H5 S5 => p γ5 σ5 H5 (S5.less hl).1
        | rt d g5 => exact fun p => p
        | exc x ρ5 g5 => exact fun p γ5 σ5 H5 c dx S5 => p γ5 σ5 H5 c dx (S5.less hl).1
        | bad => exact fun p => p
end
end Z
namespace Z
open PySem PySem.Spec PyProof.Rows L2
set_option autoImplicit false
def era (H : Hp) (p : Addr) : Hp := fun a => if a = p then none else H a
theorem era_self {H : Hp} {p : Addr} : era H p p = none := if_pos rfl
theorem era_ne {H : Hp} {p a : Addr} (h : a ≠ p) : era H p a = H a := if_neg h
theorem era_some {H : Hp} {p a : Addr} {o : HO} (h : era H p a = some o) : a ≠ p ∧ H a = some o := by
  unfold era at h; split at h
  · cases h
  · rename_i n; exact ⟨n, h⟩
theorem era_same {H : Hp} {p : Addr} : Same (era H p) H := fun a o h => (era_some h).2
theorem era_upd {H : Hp} {p : Addr} {o : HO} (h : H p = some o) : upd (era H p) p o = H := by
  funext a
  unfold upd era
  by_cases e : a = p
  · rw [if_pos e, e, h]
  · rw [if_neg e, if_neg e]
theorem upd_era {H : Hp} {p : Addr} {o : HO} (h : H p = none) : era (upd H p o) p = H := by
  funext a
  by_cases e : a = p
  · subst e; rw [era_self, h]
  · rw [era_ne e, upd_ne e]
def Soft (o : HO) : Prop := ¬ Imm o
theorem Stp.era {ι ι' : List Addr} {H H' : Hp} {p : Addr} (s : Stp ι ι' H H') : Stp ι ι' (era H p) (era H' p) := by
  refine ⟨fun a o h n => ?_, fun a o h i => ?_, fun a o h => ?_, ?_⟩
  · obtain ⟨n1, h⟩ := era_some h
    rw [era_ne n1]; exact s.ext a o h n
  · obtain ⟨n1, h⟩ := era_some h
    rw [era_ne n1]; exact s.imm a o h i
  · obtain ⟨n1, h⟩ := era_some h
    rw [era_ne n1]; exact s.live a o h
  · obtain ⟨m, e, f⟩ := s.pre
    refine ⟨m, e, fun a ha => ?_⟩
    by_cases z : a = p
    · rw [z]; exact era_self
    · rw [era_ne z]; exact f a ha
section
variable {T : Wd} {ι : List Addr} {bar : Addr → Prop} {H : Hp} {p : Addr} {o : HO}
theorem sq_era (hp : H p = some o) (so : Soft o) {a : Addr} {xs : List V} (h : SqT T.K H a xs) : SqT T.K (era H p) a xs := by
  rcases h with (h | ⟨q, h⟩) | h
  · refine .inl (.inl ?_)
    rw [era_ne fun z => ?_]; exact h
    subst z; rw [h] at hp; cases hp; exact so trivial
  · refine .inl (.inr ⟨q, ?_⟩)
    rw [era_ne fun z => ?_]; exact h
    subst z; rw [h] at hp; cases hp; exact so trivial
  · exact .inr h
theorem rd_era {a : Addr} {u : HO} (n : a ≠ p) (h : Rd H a u) : Rd (era H p) a u := by
  rcases h with h | ⟨q, h⟩
  · exact .inl (by rw [era_ne n]; exact h)
  · exact .inr ⟨q, by rw [era_ne n]; exact h⟩
mutual
theorem RelD.era (hb : bar p) (hp : H p = some o) (so : Soft o) : ∀ {d : D} {v : V}, RelD T ι bar H d v → RelD T ι bar (era H p) d v
  | .non, v, h => by simpa [RelD] using h
  | .bl _, v, h => by simpa [RelD] using h
  | .int _, v, h => by simpa [RelD] using h
  | .str _, v, h => by simpa [RelD] using h
  | .tup ds, v, h => by
    simp only [RelD] at h ⊢
    obtain ⟨a, vs, e, q, r⟩ := h
    exact ⟨a, vs, e, sq_era hp so q, RelDs.era hb hp so r⟩
  | .lst ds, v, h => by
    simp only [RelD] at h ⊢
    obtain ⟨a, vs, e, q, n, r⟩ := h
    exact ⟨a, vs, e, rd_era (fun z => n (z ▸ hb)) q, n, RelDs.era hb hp so r⟩
  | .set ds, v, h => by
    simp only [RelD] at h ⊢
    obtain ⟨a, us, e, n, r, q⟩ := h
    have na : a ≠ p := fun z => n (z ▸ hb)
    refine ⟨a, us, e, n, RelDs.era hb hp so r, ?_⟩
    rw [era_ne na]; exact q
  | .dct ks vs, v, h => by
    simp only [RelD] at h ⊢
    obtain ⟨a, us, ws, e, n, r1, r2, l, q⟩ := h
    have na : a ≠ p := fun z => n (z ▸ hb)
    refine ⟨a, us, ws, e, n, RelDs.era hb hp so r1, RelDs.era hb hp so r2, l, ?_⟩
    rw [era_ne na]; exact q
  | .ref n, v, h => by simpa [RelD] using h
  | .clo _ _, v, h => by simpa [RelD] using h
  | .err _ _, v, h => by simp [RelD] at h
  | .scr ns, v, h => by
    simp only [RelD] at h ⊢
    obtain ⟨a, e, q⟩ := h
    refine ⟨a, e, ?_⟩
    rcases q with ⟨u, q⟩ | q
    · refine .inl ⟨u, ?_⟩
      rw [era_ne fun z => ?_]; exact q
      subst z; rw [q] at hp; cases hp; exact so trivial
    · exact .inr q
theorem RelDs.era (hb : bar p) (hp : H p = some o) (so : Soft o) : ∀ {ds : List D} {vs : List V}, RelDs T ι bar H ds vs → RelDs T ι bar (era H p) ds vs
  | [], vs, h => by simpa [RelDs] using h
  | d :: ds, vs, h => by
    simp only [RelDs] at h ⊢
    obtain ⟨v, r, e, h1, h2⟩ := h
    exact ⟨v, r, e, RelD.era hb hp so h1, RelDs.era hb hp so h2⟩
end
theorem RelC.era (hb : bar p) (hp : H p = some o) (so : Soft o) {d : D} {a : Addr} (na : a ≠ p) (h : RelC T ι bar H d a) : RelC T ι bar (Z.era H p) d a := by
  cases d with
  | lst ds => obtain ⟨vs, q, r⟩ := h; exact ⟨vs, rd_era na q, r.era hb hp so⟩
  | set ds => obtain ⟨us, r, q⟩ := h; exact ⟨us, r.era hb hp so, by rw [era_ne na]; exact q⟩
  | dct ks vs => obtain ⟨us, ws, r1, r2, l, q⟩ := h; exact ⟨us, ws, r1.era hb hp so, r2.era hb hp so, l, by rw [era_ne na]; exact q⟩
  | _ => exact h
theorem MkR.era (hb : bar p) (hp : H p = some o) (so : Soft o) : ∀ {m : Mk}, MkR T ι bar H m → MkR T ι bar (Z.era H p) m
  | .ex _ dx c ds, ⟨ws, r, l, e, n⟩ => ⟨ws, r.era hb hp so, l, by rw [era_ne (p := p) (fun z => n (by rw [z]; exact hb))]; exact e, n⟩
  | .fn _ c u ds vs, ⟨e, n, r⟩ => ⟨by rw [era_ne (p := p) (fun z => n (by rw [z]; exact hb))]; exact e, n, r.era hb hp so⟩
theorem GR.era (hb : bar p) (hp : H p = some o) (so : Soft o) (np : p ∉ ι) {g : G} (h : GR T ι bar H g) : GR T ι bar (Z.era H p) g := by
  refine ⟨h.len, h.nd, fun n c e => ?_⟩
  obtain ⟨a, e1, r⟩ := h.at_ n c e
  refine ⟨a, e1, ?_⟩
  have na : a ≠ p := fun z => np (z ▸ List.mem_of_getElem? e1)
  cases c with
  | dk ks vs =>
    obtain ⟨ws, r, l, q⟩ := r
    exact ⟨ws, r.era hb hp so, l, by rw [era_ne na]; exact q⟩
  | tb q =>
    obtain ⟨eP, ps, e, t, f⟩ := r
    refine ⟨eP, ps, by rw [era_ne na]; exact e, t, fun pos cv hc => ?_⟩
    obtain ⟨c, e1, e2, n⟩ := f pos cv hc
    exact ⟨c, e1, by rw [era_ne (p := p) (fun z => n (by rw [z]; exact hb))]; exact e2, n⟩
  | ls vs =>
    obtain ⟨ws, r, q⟩ := r
    exact ⟨ws, r.era hb hp so, by rw [era_ne na]; exact q⟩
  | ob k fs =>
    obtain ⟨ws, r, dx_, q⟩ := r
    exact ⟨ws, r.era hb hp so, dx_, by rw [era_ne na]; exact q⟩
end
def Gho.add (γ : Gho) (p : Addr) : Gho := { γ with av := fun a => γ.av a ∨ a = p }
theorem Gho.add_bar {γ : Gho} {p a : Addr} : (γ.add p).bar a ↔ γ.bar a ∨ a = p := by
  constructor
  · rintro (h | ⟨i, h⟩ | h | h)
    · exact .inl (.inl h)
    · exact .inl (.inr (.inl ⟨i, h⟩))
    · exact .inl (.inr (.inr h))
    · exact .inr h
  · rintro ((h | ⟨i, h⟩ | h) | h)
    · exact .inl h
    · exact .inr (.inl ⟨i, h⟩)
    · exact .inr (.inr (.inl h))
    · exact .inr (.inr (.inr h))
theorem Gho.add_self (γ : Gho) {p : Addr} : (γ.add p).bar p := Gho.add_bar.mpr (.inr rfl)
section
variable {T : Wd} {γ : Gho} {H : Hp} {ρ : Env} {σ : L2.St} {g : G} {p : Addr} {o : HO}
theorem same_lay (h : H p = none) : Same H (upd H p o) := fun a u e => by rw [upd_ne (ne_of_none e h)]; exact e
theorem grows_add (h : H p = none) : Grows H γ.bar (γ.add p).bar := fun a q => by
  rcases Gho.add_bar.mp q with q | q
  · exact .inl q
  · exact .inr (q ▸ h)
theorem StR.lay (R : StR T γ H ρ σ g) (hp : H p = none) : StR T (γ.add p) (upd H p o) ρ σ g where
  len := R.len
  vals := fun i d e => let ⟨v, e1, r⟩ := R.vals i d e; ⟨v, e1, r.keep (.same (same_lay hp)) γ.bi (grows_add hp)⟩
  owns := fun i d e => by
    obtain ⟨a, e1, e2, r, m⟩ := R.owns i d e
    refine ⟨a, e1, e2, r.keep (.same (same_lay hp)) γ.bi (grows_add hp) (R.oi i a e1).1, ?_⟩
    have n : a ≠ p := fun z => R.owned e1 (by rw [z]; exact hp)
    rw [upd_ne n]; exact m
  oad := R.oad
  oinj := R.oinj
  oi := fun i a e => ⟨(R.oi i a e).1, by
    rintro (z | z)
    · exact (R.oi i a e).2 z
    · exact R.owned e (by rw [z]; exact hp)⟩
  avt := fun a h => by
    rcases h with h | h
    · cases q : H a with
      | none => exact absurd q (R.avt a h)
      | some u => rw [same_lay hp a u q]; simp
    · rw [h, upd_same]; simp
  cells := R.cells.keep (same_lay hp) γ.bi (grows_add hp)
  mks := fun i k e => let ⟨m, e1, e2, r⟩ := R.mks i k e; ⟨m, e1, e2, r.keep (.same (same_lay hp)) γ.bi (grows_add hp)⟩
theorem StR.era (R : StR T (γ.add p) H ρ σ g) (hp : H p = some o) (so : Soft o) (np : p ∉ γ.ι) (na : ¬ γ.av p) : StR T γ (Z.era H p) ρ σ g := by
  have hb : (γ.add p).bar p := Gho.add_bar.mpr (.inr rfl)
  have fw : ∀ a, γ.bar a → (γ.add p).bar a := fun a h => Gho.add_bar.mpr (.inl h)
  refine ⟨R.len, fun i d e => ?_, fun i d e => ?_, R.oad, R.oinj, fun i a e => ⟨(R.oi i a e).1, fun z => (R.oi i a e).2 (.inl z)⟩, fun a h => ?_, (R.cells.era hb hp so np).fewer fw, fun i k e => let ⟨m, e1, e2, r⟩ := R.mks i k e; ⟨m, e1, e2, (r.era hb hp so).fewer fw⟩⟩
  · obtain ⟨v, e1, r⟩ := R.vals i d e
    exact ⟨v, e1, (r.era hb hp so).fewer fw⟩
  · obtain ⟨a, e1, e2, r, m⟩ := R.owns i d e
    have n : a ≠ p := fun z => (R.oi i a e1).2 (.inr z)
    exact ⟨a, e1, e2, (r.era hb hp so n).fewer fw, by rw [era_ne n]; exact m⟩
  · have n : a ≠ p := fun z => na (z ▸ h)
    rw [era_ne n]; exact R.avt a (.inl h)
end
def Gho.hide (γ : Gho) (i : Nat) : Gho := { ι := γ.ι, oa := fun j => if j = i then none else γ.oa j, av := fun a => γ.av a ∨ γ.oa i = some a }
theorem Gho.hide_bar {γ : Gho} {i : Nat} {a : Addr} : (γ.hide i).bar a ↔ γ.bar a := by
  constructor
  · rintro (h | ⟨j, h⟩ | h | h)
    · exact .inl h
    · exact .inr (.inl ⟨j, (Gho.drop_oa (γ := γ) (i := i) h).2⟩)
    · exact .inr (.inr h)
    · exact .inr (.inl ⟨i, h⟩)
  · rintro (h | ⟨j, h⟩ | h)
    · exact .inl h
    · by_cases z : j = i
      · subst z; exact .inr (.inr (.inr h))
      · exact .inr (.inl ⟨j, by show (if j = i then none else γ.oa j) = _; rw [if_neg z]; exact h⟩)
    · exact .inr (.inr (.inl h))
def wipeE (ρ : Env) : List Nat → Env
  | [] => ρ
  | v :: vs => (wipeE ρ vs).set v .no
def Gho.hides (γ : Gho) : List Nat → Gho
  | [] => γ
  | v :: vs => (γ.hides vs).hide v
theorem Gho.hides_bar {γ : Gho} {a : Addr} : ∀ {vs : List Nat}, (γ.hides vs).bar a ↔ γ.bar a
  | [] => Iff.rfl
  | _ :: vs => Gho.hide_bar.trans (hides_bar (vs := vs))
theorem Gho.hides_ι {γ : Gho} : ∀ {vs : List Nat}, (γ.hides vs).ι = γ.ι
  | [] => rfl
  | _ :: vs => hides_ι (vs := vs)
theorem Gho.hides_to {γ : Gho} {ι' : List Addr} : ∀ {vs : List Nat}, (γ.to ι').hides vs = (γ.hides vs).to ι'
  | [] => rfl
  | v :: vs => by
    show ((γ.to ι').hides vs).hide v = ((γ.hides vs).hide v).to ι'
    rw [hides_to (vs := vs)]; rfl
section
variable {T : Wd} {γ : Gho} {H : Hp} {ρ : Env} {σ : L2.St} {g : G}
theorem StR.hide (R : StR T γ H ρ σ g) (i : Nat) : StR T (γ.hide i) H (ρ.set i .no) (σ.set i none) g := by
  have fw : ∀ a, (γ.hide i).bar a → γ.bar a := fun a => Gho.hide_bar.mp
  have get : ∀ {j : Nat} {s : Sl}, s ≠ .no → (ρ.set i .no)[j]? = some s → j ≠ i ∧ ρ[j]? = some s := by
    intro j s n h
    by_cases z : i = j
    · subst z
      have hl : i < ρ.length := by simpa using (List.getElem?_eq_some_iff.mp h).1
      rw [List.getElem?_set_self hl] at h
      cases h; exact absurd rfl n
    · rw [List.getElem?_set_ne z] at h; exact ⟨Ne.symm z, h⟩
  refine ⟨by simp [R.len], fun j d e => ?_, fun j d e => ?_, fun j a h => ?_, fun j k a h1 h2 => R.oinj j k a (Gho.drop_oa (γ := γ) (i := i) h1).2 (Gho.drop_oa (γ := γ) (i := i) h2).2, fun j a h => ?_, fun a h => ?_, R.cells.fewer fw, fun j k h => by
    obtain ⟨n, h⟩ := mk_of_set (by simp) h
    obtain ⟨m, e1, e2, r⟩ := R.mks j k h
    exact ⟨m, e1, by rw [List.getElem?_set_ne n]; exact e2, r.fewer fw⟩⟩
  · obtain ⟨n, e⟩ := get (by simp) e
    obtain ⟨v, e1, r⟩ := R.vals j d e
    exact ⟨v, by rw [List.getElem?_set_ne (Ne.symm n)]; exact e1, r.fewer fw⟩
  · obtain ⟨n, e⟩ := get (by simp) e
    obtain ⟨a, e1, e2, r, m⟩ := R.owns j d e
    exact ⟨a, by show (if j = i then none else γ.oa j) = _; rw [if_neg n]; exact e1, by rw [List.getElem?_set_ne (Ne.symm n)]; exact e2, r.fewer fw, m⟩
  · obtain ⟨n, h⟩ := Gho.drop_oa (γ := γ) (i := i) h
    obtain ⟨d, e⟩ := R.oad j a h
    exact ⟨d, by rw [List.getElem?_set_ne (Ne.symm n)]; exact e⟩
  · obtain ⟨n, h⟩ := Gho.drop_oa (γ := γ) (i := i) h
    refine ⟨(R.oi j a h).1, ?_⟩
    rintro (z | z)
    · exact (R.oi j a h).2 z
    · exact n (R.oinj j i a h z)
  · rcases h with h | h
    · exact R.avt a h
    · exact R.owned h
theorem StR.hides (R : StR T γ H ρ σ g) : ∀ vs : List Nat, StR T (γ.hides vs) H (wipeE ρ vs) (wipe σ vs) g
  | [] => R
  | v :: vs => (R.hides vs).hide v
theorem wipe_only {sl vs : List Nat} {σ' : L2.St} (o : σ'.length = σ.length) (oj : ∀ j, j ∉ sl → σ'[j]? = σ[j]?) (hs : ∀ i ∈ sl, i ∈ vs) : wipe σ' vs = wipe σ vs := by
  have key : ∀ (vs : List Nat) (τ : L2.St) (j : Nat), (wipe τ vs)[j]? = if j ∈ vs ∧ j < τ.length then some none else τ[j]? := by
    intro vs
    induction vs with
    | nil => intro τ j; simp [wipe]
    | cons w ws ih =>
      intro τ j
      show ((wipe τ ws).set w none)[j]? = _
      rw [List.getElem?_set, ih, wipe_length]
      by_cases e : w = j
      · subst e
        by_cases l : w < τ.length
        · simp [l]
        · simp [l]
      · have e' : ¬ j = w := fun z => e z.symm
        simp [e, e']
  apply List.ext_getElem?
  intro j
  rw [key, key, o]
  by_cases h : j ∈ vs
  · by_cases l : j < σ.length
    · simp [h, l]
    · simp [h, l]
      omega
  · simp [h]
    exact oj j fun z => h (hs j z)
theorem wipe_wipe {vs : List Nat} : wipe (wipe σ vs) vs = wipe σ vs := by
  exact wipe_only (sl := vs) (wipe_length _ _) (fun j hj => wipe_out hj) fun i h => h
end
abbrev ElM := Env → G → Res (List D)
def gaL (t : Tg) (ms : ElM) (ρ : Env) : List D → G → Res (List D)
  | [], g => .ok [] g
  | d :: ds, g => match t d ρ with
    | none => .bad
    | some ρ1 => match ms ρ1 g with
      | .ok ys g1 => match gaL t ms ρ ds g1 with
        | .ok zs g2 => .ok (ys ++ zs) g2
        | _ => .bad
      | _ => .bad
/-- what the new thing is, by what was put in; how much room it has -/
structure Acc (T : Wd) where
  A : List Addr → (Addr → Prop) → Hp → List D → HO → Prop
  soft : ∀ ι bar H ds o, A ι bar H ds o → Soft o
  keep : ∀ ι ι' bar bar' H H' ds o, Stp ι ι' H H' → (∀ a ∈ ι, bar a) → Grows H bar bar' → A ι bar H ds o → A ι' bar' H' ds o
  era : ∀ ι bar H ds o p u, bar p → H p = some u → Soft u → A ι bar H ds o → A ι bar (Z.era H p) ds o
  fewer : ∀ ι bar bar' H ds o, (∀ a, bar' a → bar a) → A ι bar H ds o → A ι bar' H ds o
  room : List D → Prop
  less : ∀ ds es, room (ds ++ es) → room ds
abbrev Stage := L2.St → Hp → (Hp → Prop) → Prop
/-- the stage of one turn does what ms says -/
def Stg (T : Wd) (C : Acc T) (P : Addr) (ms : ElM) (st : Stage) : Prop :=
  ∀ (γ : Gho) (ρ : Env) (σ : L2.St) (H : Hp) (g : G) (ds : List D) (o : HO) (Nx : Hp → Prop), StR T γ H ρ σ g → H P = none → P ∉ γ.ι → ¬ γ.av P → C.A γ.ι (γ.add P).bar H ds o →
    (match ms ρ g with
    | .ok ys g' => C.room (ds ++ ys) ∧ ∀ ι' H' o', Stp γ.ι ι' H H' → GR T ι' (γ.to ι').bar H' g' → H' P = none → P ∉ ι' → C.A ι' ((γ.to ι').add P).bar H' (ds ++ ys) o' → Nx (upd H' P o')
    | _ => False) → st σ (upd H P o) Nx
theorem Stp.not {ι ι' : List Addr} {H H' : Hp} {p : Addr} (s : Stp ι ι' H H') (h : H p ≠ none) (n : p ∉ ι) : p ∉ ι' := fun z => by
  obtain ⟨m, e, f⟩ := s.pre
  rw [e, List.mem_append] at z
  rcases z with z | z
  · exact n z
  · exact h (f p z)
/-- the turns -/
theorem turns {T : Wd} {C : Acc T} {ms : ElM} {st : Stage} {J : It} {K : Kp} {t : Tg} {sl vs : List Nat} {dd : List D} {γ : Gho} {ρ : Env} {σ : L2.St} {H0 : Hp} {g : G} {P : Addr} {a0 : List D} {o0 : HO} {Qd : Hp → Prop} {g0 : TG}
    (hK : Stays K) (ok : ItOk T J dd K) (hg : ∀ v σ H Q, tG T sl t v σ H Q → g0 v σ H Q) (hs : ∀ i ∈ sl, i ∈ vs) (hst : Stg T C P ms st) (R : StR T γ H0 ρ σ g) (hσ : wipe σ vs = σ) (hv : ∀ i ∈ vs, γ.oa i = none) (hP : H0 P = none) (hPι : P ∉ γ.ι) (k0 : K γ.ι γ.bar H0)
    (A0 : C.A γ.ι (γ.add P).bar H0 a0 o0)
    (p : match gaL t ms ρ dd g with
      | .ok ys g' => C.room (a0 ++ ys) ∧ ∀ ι' H' o', Stp γ.ι ι' H0 H' → GR T ι' (γ.to ι').bar H' g' → H' P = none → P ∉ ι' → C.A ι' ((γ.to ι').add P).bar H' (a0 ++ ys) o' → Qd (upd H' P o')
      | _ => False) :
    ∃ W : Nat → Nat → Hp → Prop, (∃ m, W 0 m (upd H0 P o0)) ∧ ∀ i m H, W i m H →
      (J.stop i H ∧ Qd H) ∨ (J.go i H ∧ ∃ Nx : Hp → Prop, (∀ H', Nx H' → ∃ m', m' < m ∧ W (i + 1) m' H') ∧ ∀ x H', J.yld i H x H' → g0 x σ H' fun σ2 H2 => wipe σ2 vs = σ ∧ st σ2 H2 Nx) := by
  have bg : ∀ (ι' : List Addr) (H : Hp), Stp γ.ι ι' H0 H → Grows H0 γ.bar (γ.to ι').bar := fun ι' H s => Gho.grows s
  refine ⟨fun i m H => m = dd.length - i ∧ i ≤ dd.length ∧ ∃ ι1 H1 g1 ds o, H = upd H1 P o ∧ Stp γ.ι ι1 H0 H1 ∧ GR T ι1 (γ.to ι1).bar H1 g1 ∧ H1 P = none ∧ P ∉ ι1 ∧ K ι1 (γ.to ι1).bar H1 ∧ C.A ι1 ((γ.to ι1).add P).bar H1 ds o ∧
    (match gaL t ms ρ (dd.drop i) g1 with
      | .ok ys g' => C.room (ds ++ ys) ∧ ∀ ι' H' o', Stp γ.ι ι' H0 H' → GR T ι' (γ.to ι').bar H' g' → H' P = none → P ∉ ι' → C.A ι' ((γ.to ι').add P).bar H' (ds ++ ys) o' → Qd (upd H' P o')
      | _ => False), ⟨_, rfl, Nat.zero_le _, γ.ι, H0, g, a0, o0, rfl, .refl, R.cells, hP, hPι, k0, A0, by simpa using p⟩, ?_⟩
  rintro i m H ⟨rfl, hle, ι1, H1, g1, ds, o, rfl, s1, G1, n1, np1, k1, A1, p1⟩
  have R1 : StR T (γ.to ι1) H1 ρ σ g1 := R.step s1 G1
  have kk : K ι1 ((γ.to ι1).add P).bar (upd H1 P o) := hK _ _ _ _ _ _ (.same (same_lay n1)) (γ.to ι1).bi (grows_add n1) k1
  by_cases hi : dd.length ≤ i
  · left
    rw [List.drop_eq_nil_of_le hi] at p1
    simp only [gaL, List.append_nil] at p1
    exact ⟨ok.stop _ _ _ _ kk hi, p1.2 _ _ _ s1 G1 n1 np1 A1⟩
  · right
    have hi : i < dd.length := by omega
    have e : dd[i]? = some dd[i] := List.getElem?_eq_getElem hi
    rw [List.drop_eq_getElem_cons hi] at p1
    refine ⟨ok.go _ _ _ _ _ kk e, fun H' => ∃ ι1 H1 g1 ds o, H' = upd H1 P o ∧ Stp γ.ι ι1 H0 H1 ∧ GR T ι1 (γ.to ι1).bar H1 g1 ∧ H1 P = none ∧ P ∉ ι1 ∧ K ι1 (γ.to ι1).bar H1 ∧ C.A ι1 ((γ.to ι1).add P).bar H1 ds o ∧
    (match gaL t ms ρ (dd.drop (i + 1)) g1 with
      | .ok ys g' => C.room (ds ++ ys) ∧ ∀ ι' H' o', Stp γ.ι ι' H0 H' → GR T ι' (γ.to ι').bar H' g' → H' P = none → P ∉ ι' → C.A ι' ((γ.to ι').add P).bar H' (ds ++ ys) o' → Qd (upd H' P o')
      | _ => False), fun H' h => ⟨_, by omega, rfl, hi, h⟩, fun x H' y => ?_⟩
    obtain ⟨sm, rx⟩ := ok.yld _ _ _ _ _ _ _ (fun _ h => .inl h) kk e y
    have so : Soft o := C.soft _ _ _ _ _ A1
    have hP' : H' P = some o := sm P o upd_same
    have sE : Same H1 (era H' P) := fun a u h => by
      rw [era_ne (ne_of_none h n1)]
      exact sm a u (same_lay n1 a u h)
    have s2 : Stp ι1 ι1 H1 (era H' P) := .same sE
    have bgr : Grows H1 (γ.to ι1).bar (γ.to ι1).bar := fun a h => .inl h
    have G2 : GR T ι1 (γ.to ι1).bar (era H' P) g1 := G1.keep sE (γ.to ι1).bi bgr
    have R2 : StR T (γ.to ι1) (era H' P) ρ σ g1 := R1.step s2 G2
    have R3 : StR T ((γ.to ι1).add P) H' ρ σ g1 := by
      have := R2.lay (p := P) (o := o) era_self
      rw [era_upd hP'] at this
      exact this
    refine hg _ _ _ _ ?_
    unfold gaL at p1
    revert p1
    cases ht : t dd[i] ρ with
    | none => exact fun p1 => p1.elim
    | some ρ1 =>
      intro p1
      refine ⟨_, ρ, g1, dd[i], ρ1, R3, rx, ht, fun γ4 σ4 H'' sm2 R4 l4 ol => ⟨(wipe_only ol.len ol.at_ hs).trans hσ, ?_⟩⟩
      have hP' : H'' P = some o := sm2 P o hP'
      have sE : Same H1 (era H'' P) := fun a u h => by
        rw [era_ne (ne_of_none h n1)]
        exact sm2 a u (sm a u (same_lay n1 a u h))
      have s2 : Stp ι1 ι1 H1 (era H'' P) := .same sE
      -- the stage
      obtain ⟨ι4, oa4, av4⟩ := γ4
      obtain ⟨l1, l2, l3⟩ := l4
      cases l1
      cases l2
      have e4 : oa4 = γ.oa := by
        funext i
        by_cases hi : i ∈ vs
        · rw [hv i hi]
          cases q : oa4 i with
          | none => rfl
          | some a => exact absurd ((l3 i a q).symm.trans (hv i hi)) (by simp)
        · have k := fun a => ol.oa i a fun z => hi (hs i z)
          cases q : γ.oa i with
          | none =>
            cases q2 : oa4 i with
            | none => rfl
            | some a => rw [← q]; exact (l3 i a q2).symm
          | some a => exact k a q
      subst e4
      have nav : ¬ γ.av P := fun z => by
        have := R1.avt P z
        exact this n1
      have R5 : StR T (γ.to ι1) (era H'' P) ρ1 σ4 g1 := StR.era (γ := γ.to ι1) (o := o) R4 hP' so np1 nav
      have A2 : C.A ι1 ((γ.to ι1).add P).bar (era H'' P) ds o := C.keep _ _ _ _ _ _ _ _ s2 (fun a h => Gho.add_bar.mpr (.inl ((γ.to ι1).bi a h))) (fun a h => .inl h) A1
      rw [← era_upd hP']
      refine hst _ _ _ _ _ ds o _ R5 era_self np1 nav A2 ?_
      dsimp only at p1
      revert p1
      cases hm : ms ρ1 g1 with
      | bad => exact fun p => p
      | exc x g' => exact fun p => p
      | ok ys g4 =>
        dsimp only
        intro p1
        have s02 : Stp γ.ι ι1 H0 (era H'' P) := s1.trans s2
        have nx : ∀ ι5 H5 o5, Stp ι1 ι5 (era H'' P) H5 → GR T ι5 (γ.to ι5).bar H5 g4 → H5 P = none → P ∉ ι5 → C.A ι5 ((γ.to ι5).add P).bar H5 (ds ++ ys) o5 → K ι5 (γ.to ι5).bar H5 := fun ι5 H5 o5 s5 G5 n5 np5 A5 =>
          hK _ _ _ _ _ _ (s2.trans s5) (γ.to ι1).bi (fun a h => by
            have := Gho.grows (γ := γ.to ι1) (s2.trans s5) a h
            exact this) k1
        revert p1
        cases hr : gaL t ms ρ (dd.drop (i + 1)) g4 with
        | bad => exact fun p => p.elim
        | exc x g' => exact fun p => p.elim
        | ok zs g5 =>
          dsimp only
          intro p1
          rw [← List.append_assoc] at p1
          refine ⟨C.less _ _ p1.1, fun ι5 H5 o5 s5 G5 n5 np5 A5 => ⟨ι5, H5, g4, ds ++ ys, o5, rfl, s02.trans s5, G5, n5, np5, nx _ _ _ s5 G5 n5 np5 A5, A5, ?_⟩⟩
          rw [hr]
          exact p1
end Z
namespace Z
open PySem PySem.Spec PyProof.Rows L2
set_option autoImplicit false
def PostF (T : Wd) (γ : Gho) (H : Hp) (σ : L2.St) (W : WX) (Q : V → Hp → Prop) : Res D → Prop
  | .ok d g' => ∀ a ι' H', Stp γ.ι ι' H H' → H a = none → a ∉ ι' → ¬ (γ.to ι').bar a → GR T ι' ((γ.to ι').add a).bar H' g' → RelC T ι' ((γ.to ι').add a).bar H' d a → Mut (H' a) → Q (.ref a) H'
  | .exc x g' => ∀ cls dx ι' H', Stp γ.ι ι' H H' → GR T ι' (γ.to ι').bar H' g' → ExcR T ι' (γ.to ι').bar H' x cls dx → W cls dx σ H'
  | .bad => False
def tF (T : Wd) (W : WX) (m : Ev) : TE := fun σ H Q => ∃ γ ρ g, StR T γ H ρ σ g ∧ PostF T γ H σ W Q (m ρ g)
abbrev EF (T : Wd) (W : WX) (X : Cx) (e : Expr) (m : Ev) : Prop := PE X e (tF T W m)
theorem add_fw {γ : Gho} {a : Addr} : ∀ b, γ.bar b → (γ.add a).bar b := fun b h => Gho.add_bar.mpr (.inl h)
theorem EF.val {T : Wd} {W : WX} {X : Cx} {e : Expr} {m : Ev} (h : EF T W X e m) : EE T W X e m :=
  PE.imp h fun σ H Q ⟨γ, ρ, g, R, p⟩ => ⟨γ, ρ, g, R, by
    revert p
    cases m ρ g with
    | ok d g' => exact fun p a ι' H' s1 n0 na nb G1 r1 mu => p (.ref a) ι' H' s1 (G1.fewer add_fw) ((r1.fewer add_fw).val nb)
    | exc x g' => exact fun p => p
    | bad => exact fun p => p⟩
/-- slot i owns -/
def Gho.take (γ : Gho) (i : Nat) (a : Addr) : Gho := { γ with oa := fun j => if j = i then some a else γ.oa j }
theorem Gho.take_oa {γ : Gho} {i j : Nat} {a b : Addr} (h : (γ.take i a).oa j = some b) : (j = i ∧ b = a) ∨ (j ≠ i ∧ γ.oa j = some b) := by
  have h : (if j = i then some a else γ.oa j) = some b := h
  split at h
  · rename_i e; cases h; exact .inl ⟨e, rfl⟩
  · rename_i e; exact .inr ⟨e, h⟩
theorem Gho.take_bar {γ : Gho} {i : Nat} {a b : Addr} (h : (γ.take i a).bar b) : (γ.add a).bar b := by
  rw [Gho.add_bar]
  rcases h with h | ⟨j, h⟩ | h
  · exact .inl (.inl h)
  · rcases Gho.take_oa h with ⟨_, h⟩ | ⟨_, h⟩
    · exact .inr h
    · exact .inl (.inr (.inl ⟨j, h⟩))
  · exact .inl (.inr (.inr h))
section
variable {T : Wd} {γ : Gho} {H : Hp} {ρ : Env} {σ : L2.St} {g : G} {E0 : Ent}
/-- the slots' values so far, with a barred besides: a is new since H0 -/
theorem StR.setOwn {H0 : Hp} {d : D} {a : Addr} (R0 : StR T γ H0 ρ σ g) {ι' : List Addr} {g' : G} (s : Stp γ.ι ι' H0 H) (G' : GR T ι' ((γ.to ι').add a).bar H g') (i : Nat) (hi : i < ρ.length) (n0 : H0 a = none) (nb : ¬ (γ.to ι').bar a) (na : a ∉ ι') (r : RelC T ι' ((γ.to ι').add a).bar H d a) (mu : Mut (H a)) :
    StR T ((γ.to ι').take i a) H (ρ.set i (.own d)) (σ.set i (some (.ref a))) g' := by
  have R := R0.step s (G'.fewer add_fw)
  have fw : ∀ b, ((γ.to ι').take i a).bar b → ((γ.to ι').add a).bar b := fun b h => Gho.take_bar h
  have bg : Grows H0 γ.bar ((γ.to ι').take i a).bar := fun b h => by
    rcases Gho.add_bar.mp (fw b h) with h | h
    · exact Gho.grows s b h
    · exact .inr (h ▸ n0)
  refine ⟨by rw [List.length_set, List.length_set]; exact R.len, fun j x h => ?_, fun j x h => ?_, fun j b h => ?_, fun j k b h1 h2 => ?_, fun j b h => ?_, R.avt, G'.fewer fw, fun j k h => by
    obtain ⟨n, h⟩ := mk_of_set (by simp) h
    obtain ⟨m, e1, e2, r⟩ := R0.mks j k h
    exact ⟨m, e1, by rw [List.getElem?_set_ne n]; exact e2, r.keep s γ.bi bg⟩⟩
  · by_cases hj : i = j
    · subst hj
      rw [List.getElem?_set_self hi] at h; cases h
    · rw [List.getElem?_set_ne hj] at h
      obtain ⟨v, e1, r1⟩ := R0.vals j x h
      exact ⟨v, by rw [List.getElem?_set_ne hj]; exact e1, r1.keep s γ.bi bg⟩
  · by_cases hj : i = j
    · subst hj
      rw [List.getElem?_set_self hi] at h; cases h
      exact ⟨a, if_pos rfl, List.getElem?_set_self (by rw [R.len]; exact hi), r.fewer fw, mu⟩
    · rw [List.getElem?_set_ne hj] at h
      obtain ⟨b, e1, e2, r1, m1⟩ := R0.owns j x h
      obtain ⟨b2, e3, _, _, m2⟩ := R.owns j x h
      have : b2 = b := by
        have e3 : γ.oa j = some b2 := e3
        rw [e1] at e3; cases e3; rfl
      subst this
      exact ⟨b2, by show (if j = i then some a else γ.oa j) = _; rw [if_neg (Ne.symm hj)]; exact e1, by rw [List.getElem?_set_ne hj]; exact e2, r1.keep s γ.bi bg (R0.oi j b2 e1).1, m2⟩
  · rcases Gho.take_oa h with ⟨rfl, rfl⟩ | ⟨n, h⟩
    · exact ⟨d, List.getElem?_set_self hi⟩
    · obtain ⟨x, e⟩ := R.oad j b h
      exact ⟨x, by rw [List.getElem?_set_ne (Ne.symm n)]; exact e⟩
  · rcases Gho.take_oa h1 with ⟨e1, e1'⟩ | ⟨m1, h1⟩
    · rcases Gho.take_oa h2 with ⟨e2, _⟩ | ⟨m2, h2⟩
      · rw [e1, e2]
      · exact absurd (.inr (.inl ⟨k, e1' ▸ h2⟩)) nb
    · rcases Gho.take_oa h2 with ⟨e2, e2'⟩ | ⟨m2, h2⟩
      · exact absurd (.inr (.inl ⟨j, e2' ▸ h1⟩)) nb
      · exact R.oinj j k b h1 h2
  · rcases Gho.take_oa h with ⟨e1, e1'⟩ | ⟨n, h⟩
    · rw [e1']; exact ⟨na, fun z => nb (.inr (.inr z))⟩
    · exact R.oi j b h
theorem StS.setOwn {H0 : Hp} {d : D} {a : Addr} (S : StS T E0 γ H0 ρ σ g) {ι' : List Addr} {g' : G} (s : Stp γ.ι ι' H0 H) (G' : GR T ι' ((γ.to ι').add a).bar H g') (i : Nat) (hi : i < ρ.length) (n0 : H0 a = none) (nb : ¬ (γ.to ι').bar a) (na : a ∉ ι') (r : RelC T ι' ((γ.to ι').add a).bar H d a) (mu : Mut (H a)) :
    StS T E0 ((γ.to ι').take i a) H (ρ.set i (.own d)) (σ.set i (some (.ref a))) g' := by
  refine ⟨S.st.setOwn s G' i hi n0 nb na r mu, S.ent.trans s, S.fav, fun j b h => ?_, S.kept.keep s γ.bi fun b h => ?_⟩
  · rcases Gho.take_oa h with ⟨_, e⟩ | ⟨_, h⟩
    · rw [e]; exact S.ent.back n0
    · exact S.own0 j b h
  · rcases Gho.add_bar.mp (Gho.take_bar h) with h | h
    · exact Gho.grows s b h
    · exact .inr (h ▸ n0)
end
/-- the statement name = a new container -/
def sOw (i : Nat) (m : Ev) : Sm := fun ρ g => match m ρ g with
  | .ok d g' => if i < ρ.length then .nx (ρ.set i (.own d)) g' else .bad
  | .exc x g' => .exc x ρ g'
  | .bad => .bad
theorem own_imp {T : Wd} {W : WX} {m : Ev} {i : Nat} {D' : Ends} {σ : L2.St} {H : Hp} (h : tS T W (sOw i m) D' σ H) : tAsg (tF T W m) (gName i) D' σ H := by
  obtain ⟨E0, γ, ρ, g, S, p⟩ := h
  refine ⟨γ, ρ, g, S.st, ?_⟩
  unfold sOw at p
  revert p
  cases m ρ g with
  | ok d g' =>
    dsimp only
    split
    · rename_i hi
      exact fun p a ι' H' s1 n0 na nb G1 r1 mu => p _ _ H' (S.setOwn s1 G1 i hi n0 nb na r1 mu)
    · exact fun p => p.elim
  | exc x g' => exact fun p cls dx ι' H' s1 G1 r1 => p (γ.to ι') σ H' cls dx (S.step s1 G1) r1
  | bad => exact fun p => p
section
variable {T : Wd} {W : WX} {X : Cx} {e : Expr} {m : Ev} {pos : Pos}
theorem ss_own (i : Nat) {x : Str} {pos' : Pos} (hN : X.N.Nodup) (he : EF T W X e m) (hi : X.N[i]? = some x := by rfl) (hx : Loc X.env.scope x := by first | exact .inl rfl | exact .inr rfl) (hs : swapsWith e (some (.Name x pos')) pos.line X.env = pure false := by rfl)
    (hf : X.fn x = true ∨ X.env.scope.names.lookup x = some .local := by first | exact .inl rfl | exact .inr rfl | assumption) : SS T W X (.Assign [.Name x pos'] e pos) (sOw i m) := PS.imp (ps_set hN hi hx he hs hf) fun _ _ _ h => own_imp h
end
def accL (T : Wd) : Acc T where
  A := fun ι bar H ds o => ∃ vs, o = .lst vs ∧ RelDs T ι bar H ds vs
  soft := fun ι bar H ds o ⟨vs, e, _⟩ i => by subst e; exact i
  keep := fun ι ι' bar bar' H H' ds o s hi hb ⟨vs, e, r⟩ => ⟨vs, e, r.keep s hi hb⟩
  era := fun ι bar H ds o p u hb hp so ⟨vs, e, r⟩ => ⟨vs, e, r.era hb hp so⟩
  fewer := fun ι bar bar' H ds o hb ⟨vs, e, r⟩ => ⟨vs, e, r.fewer hb⟩
  room := fun ds => fits ds.length = true
  less := fun ds es h => by
    unfold fits at *
    rw [List.length_append] at h
    simp only [decide_eq_true_eq] at *
    omega
abbrev W0 : WX := fun _ _ _ _ => False
def el1 (mt : EvB) (me : Ev) : ElM := fun ρ g => match mt ρ g with
  | .ok k g1 => if k = true then (match me ρ g1 with
    | .ok y g2 => .ok [y] g2
    | _ => .bad) else .ok [] g1
  | _ => .bad
def mYes : EvB := fun _ g => .ok true g
def el2 (mt : EvB) (mi : EvI) (vs : List Nat) (t : Tg) (ms : ElM) : ElM := fun ρ g => match mt ρ g with
  | .ok k g1 => if k = true then (match mi ρ g1 with
    | .ok ds g2 => gaL t ms (wipeE ρ vs) ds g2
    | _ => .bad) else .ok [] g1
  | _ => .bad
def mLc (mi : EvI) (vs : List Nat) (t : Tg) (ms : ElM) : Ev := fun ρ g => match mi ρ g with
  | .ok ds g1 => match gaL t ms (wipeE ρ vs) ds g1 with
    | .ok ys g2 => if fits ys.length = true then .ok (.lst ys) g2 else .bad
    | _ => .bad
  | .exc x g1 => .exc x g1
  | .bad => .bad
abbrev stg1 (T : Wd) (P : Addr) (mt : EvB) (me : Ev) : Stage := fun σ H Nx => tX T W0 rB mt σ H fun b H3 =>
    if b = true then tX T W0 (rD T) me σ H3 fun y H4 => ∃ acc, H4 P = some (.lst acc) ∧ acc.length < sizeLine ∧ Nx (upd H4 P (.lst (acc ++ [y]))) else Nx H3
theorem stg_one {T : Wd} {P : Addr} {mt : EvB} {me : Ev} : Stg T (accL T) P (el1 mt me) (stg1 T P mt me) := by
  intro γ ρ σ H g ds o Nx R nP nι nv A p
  obtain ⟨vs, rfl, r⟩ := A
  have R1 := R.lay (o := .lst vs) nP
  refine ⟨_, ρ, g, R1, ?_⟩
  unfold el1 at p
  revert p
  cases mt ρ g with
  | bad => exact fun p => p
  | exc x g1 => exact fun p => p.elim
  | ok k g1 =>
    intro p b ι' H' s1 G1 e1
    subst e1
    have hP' : H' P = some (.lst vs) := s1.ext P _ upd_same nι
    have so : Soft (.lst vs) := fun i => i
    have nι' : P ∉ ι' := s1.not (by rw [upd_same]; simp) nι
    cases b with
    | false =>
      simp only [Bool.false_eq_true, if_false, List.append_nil] at p ⊢
      have s2 : Stp γ.ι ι' H (era H' P) := by
        have := s1.era (p := P)
        rw [upd_era nP] at this
        exact this
      rw [← era_upd hP']
      refine p.2 ι' _ (.lst vs) s2 ((G1.era (γ.to ι').add_self hP' so nι').fewer add_fw) era_self nι' ⟨vs, rfl, r.keep s2 (fun a h => add_fw a (γ.bi a h)) fun a h => ?_⟩
      rcases Gho.add_bar.mp h with h | h
      · rcases Gho.grows s2 a h with q | q
        · exact .inl (add_fw a q)
        · exact .inr q
      · exact .inl (Gho.add_bar.mpr (.inr h))
    | true =>
      simp only [if_true] at p ⊢
      refine ⟨_, ρ, g1, R1.step s1 G1, ?_⟩
      revert p
      cases me ρ g1 with
      | bad => exact fun p => p
      | exc x g2 => exact fun p => p.elim
      | ok y g2 =>
        intro p v ι2 H2 s2 G2 r2
        have hP2 : H2 P = some (.lst vs) := s2.ext P _ hP' nι'
        have n2 : P ∉ ι2 := s2.not (by rw [hP']; simp) nι'
        have s12 := s1.trans s2
        have s3 : Stp γ.ι ι2 H (era H2 P) := by
          have := s12.era (p := P)
          rw [upd_era nP] at this
          exact this
        dsimp only at p
        refine ⟨vs, hP2, ?_, ?_⟩
        · have := p.1
          have h2 := r.length
          simp only [accL, fits, List.length_append, decide_eq_true_eq, List.length_cons, List.length_nil] at this
          rw [sizeLine_eq]
          omega
        · have : upd H2 P (.lst (vs ++ [v])) = upd (era H2 P) P (.lst (vs ++ [v])) := by
            funext a
            by_cases e : a = P
            · subst e; rw [upd_same, upd_same]
            · rw [upd_ne e, upd_ne e, era_ne e]
          rw [this]
          refine p.2 ι2 _ _ s3 ((G2.era (γ.to ι2).add_self hP2 so n2).fewer add_fw) era_self n2 ⟨_, rfl, RelDs.append (r.keep s3 (fun a h => add_fw a (γ.bi a h)) fun a h => ?_) (.cons (r2.era (γ.to ι2).add_self hP2 so) .nil)⟩
          rcases Gho.add_bar.mp h with h | h
          · rcases Gho.grows s3 a h with q | q
            · exact .inl (add_fw a q)
            · exact .inr q
          · exact .inl (Gho.add_bar.mpr (.inr h))
end Z
namespace Z
open PySem PySem.Spec PyProof.Rows L2
set_option autoImplicit false
abbrev stg2 (T : Wd) (P : Addr) (mt : EvB) (wi : TI) (vs1 : List Nat) (g1 : TG) (st1 : Stage) : Stage := fun σ2 H2 Nx => tX T W0 rB mt σ2 H2 fun b H3 =>
    if b = true then wi σ2 H3 fun J1 H4 => ∃ W1 : Nat → Nat → Hp → Prop, (∃ m, W1 0 m H4) ∧ ∀ j k H, W1 j k H →
      (J1.stop j H ∧ Nx H) ∨ (J1.go j H ∧ ∃ Nx1 : Hp → Prop, (∀ H', Nx1 H' → ∃ k', k' < k ∧ W1 (j + 1) k' H') ∧ ∀ x H', J1.yld j H x H' → g1 x (wipe σ2 vs1) H' fun σ3 H5 => wipe σ3 vs1 = wipe σ2 vs1 ∧ st1 σ3 H5 Nx1)
    else Nx H3
theorem hides_oa {γ : Gho} : ∀ {vs : List Nat} {i : Nat}, i ∈ vs → (γ.hides vs).oa i = none
  | v :: vs, i, h => by
    show (if i = v then none else (γ.hides vs).oa i) = none
    by_cases e : i = v
    · rw [if_pos e]
    · rw [if_neg e]
      rcases List.mem_cons.mp h with h | h
      · exact absurd h e
      · exact hides_oa h
theorem hides_bi {γ : Gho} {vs : List Nat} {ι' : List Addr} {a : Addr} : ((γ.hides vs).to ι').bar a ↔ (γ.to ι').bar a := by
  rw [← Gho.hides_to]; exact Gho.hides_bar
theorem stg_two {T : Wd} {C : Acc T} {P : Addr} {mt : EvB} {mi : EvI} {vs1 sl : List Nat} {t : Tg} {ms : ElM} {st1 : Stage} (hs : ∀ i ∈ sl, i ∈ vs1) (h1 : Stg T C P ms st1) : Stg T C P (el2 mt mi vs1 t ms) (stg2 T P mt (tI T W0 (Kept T) mi) vs1 (tG T sl t) st1) := by
  intro γ ρ σ H g ds o Nx R nP nι nv A p
  have so : Soft o := C.soft _ _ _ _ _ A
  have R1 := R.lay (o := o) nP
  refine ⟨_, ρ, g, R1, ?_⟩
  unfold el2 at p
  revert p
  cases mt ρ g with
  | bad => exact fun p => p
  | exc x g1 => exact fun p => p.elim
  | ok k g1 =>
    intro p b ι' H' s1 G1 e1
    subst e1
    have hP' : H' P = some o := s1.ext P _ upd_same nι
    have nι' : P ∉ ι' := s1.not (by rw [upd_same]; simp) nι
    have s2 : Stp γ.ι ι' H (era H' P) := by
      have := s1.era (p := P)
      rw [upd_era nP] at this
      exact this
    have G2 : GR T ι' (γ.to ι').bar (era H' P) g1 := (G1.era (γ.to ι').add_self hP' so nι').fewer add_fw
    have growA : ∀ {ι2 : List Addr} {H2 : Hp}, Stp γ.ι ι2 H H2 → Grows H (γ.add P).bar ((γ.to ι2).add P).bar := fun s a h => by
      rcases Gho.add_bar.mp h with h | h
      · rcases Gho.grows s a h with q | q
        · exact .inl (add_fw a q)
        · exact .inr q
      · exact .inl (Gho.add_bar.mpr (.inr h))
    cases b with
    | false =>
      simp only [Bool.false_eq_true, if_false, List.append_nil] at p ⊢
      rw [← era_upd hP']
      exact p.2 ι' _ o s2 G2 era_self nι' (C.keep _ _ _ _ _ _ _ _ s2 (fun a h => add_fw a (γ.bi a h)) (growA s2) A)
    | true =>
      simp only [if_true] at p ⊢
      refine ⟨_, ρ, g1, R1.step s1 G1, ?_⟩
      revert p
      cases mi ρ g1 with
      | bad => exact fun p => p
      | exc x g2 => exact fun p => p.elim
      | ok dd g2 =>
        intro p J K ι2 H2 hK ok s3 G3 k3
        dsimp only at p
        have hP2 : H2 P = some o := s3.ext P _ hP' nι'
        have n2 : P ∉ ι2 := s3.not (by rw [hP']; simp) nι'
        have s13 := s1.trans s3
        have s4 : Stp γ.ι ι2 H (era H2 P) := by
          have := s13.era (p := P)
          rw [upd_era nP] at this
          exact this
        have G4 : GR T ι2 (γ.to ι2).bar (era H2 P) g2 := (G3.era (γ.to ι2).add_self hP2 so n2).fewer add_fw
        have R4 : StR T (γ.to ι2) (era H2 P) ρ σ g2 := R.step s4 G4
        obtain ⟨kd, kv, hK'⟩ := hK
        have k4 : K ι2 (γ.to ι2).bar (era H2 P) := (hK' _ _ _).mp ((((hK' _ _ _).mpr k3).era (γ.to ι2).add_self hP2 so).fewer add_fw)
        have k5 : K ((γ.to ι2).hides vs1).ι ((γ.to ι2).hides vs1).bar (era H2 P) := by
          rw [Gho.hides_ι]
          exact (hK' _ _ _).mp (((hK' _ _ _).mpr k4).fewer fun a h => Gho.hides_bar.mp h)
        have A4 : C.A ((γ.to ι2).hides vs1).ι (((γ.to ι2).hides vs1).add P).bar (era H2 P) ds o := by
          rw [Gho.hides_ι]
          refine C.fewer _ _ _ _ _ _ (fun a h => ?_) (C.keep _ _ _ _ _ _ _ _ s4 (fun a h => add_fw a (γ.bi a h)) (growA s4) A)
          rcases Gho.add_bar.mp h with h | h
          · exact add_fw a (Gho.hides_bar.mp h)
          · exact Gho.add_bar.mpr (.inr h)
        have W := turns (C := C) (st := st1) (g0 := tG T sl t) (vs := vs1) (Qd := Nx) (P := P) (sl := sl) (t := t) (ms := ms) (dd := dd) (J := J) (Kept.stays ⟨kd, kv, hK'⟩) ok (fun _ _ _ _ h => h) hs h1 (R4.hides vs1) wipe_wipe (fun i h => hides_oa h) era_self (by rw [Gho.hides_ι]; exact n2) k5 A4 (by
          revert p
          cases gaL t ms (wipeE ρ vs1) dd g2 with
          | bad => exact fun p => p
          | exc x g' => exact fun p => p
          | ok ys g' =>
            refine fun p => ⟨p.1, fun ι5 H5 o5 s5 G5 n5 np5 A5 => ?_⟩
            rw [Gho.hides_ι] at s5
            refine p.2 ι5 H5 o5 (s4.trans s5) (G5.fewer fun a h => hides_bi.mpr h) n5 np5 (C.fewer _ _ _ _ _ _ (fun a h => ?_) A5)
            rcases Gho.add_bar.mp h with h | h
            · exact add_fw a (hides_bi.mpr h)
            · exact Gho.add_bar.mpr (.inr h))
        rw [era_upd hP2] at W
        exact W
/-- a comprehension's making, from the reading of its value -/
theorem lc_test {T : Wd} {W : WX} {mi : EvI} {vs sl : List Nat} {t : Tg} {ms : ElM} {st : Addr → Stage} (hs : ∀ i ∈ sl, i ∈ vs) (h1 : ∀ P, Stg T (accL T) P ms (st P)) {σ : L2.St} {H : Hp} {Q : VK} (h : tF T W (mLc mi vs t ms) σ H Q) :
    tI T W Stays mi σ H fun J H1 => ∀ P, H1 P = none → ∃ W : Nat → Nat → Hp → Prop, (∃ m, W 0 m (upd H1 P (.lst []))) ∧ ∀ i m H, W i m H →
      (J.stop i H ∧ Q (.ref P) H) ∨ (J.go i H ∧ ∃ Nx : Hp → Prop, (∀ H', Nx H' → ∃ m', m' < m ∧ W (i + 1) m' H') ∧ ∀ x H', J.yld i H x H' → tG T sl t x (wipe σ vs) H' fun σ2 H2 => wipe σ2 vs = wipe σ vs ∧ st P σ2 H2 Nx) := by
  obtain ⟨γ, ρ, g, R, p⟩ := h
  refine ⟨γ, ρ, g, R, ?_⟩
  unfold mLc at p
  revert p
  cases mi ρ g with
  | bad => exact fun p => p
  | exc x g1 => exact fun p => p
  | ok dd g1 =>
    intro p J K ι1 H1 hK ok s1 G1 k1 P nP
    dsimp only at p
    have R1 := R.step s1 G1
    have nι : P ∉ ι1 := fun z => G1.tracked P z nP
    have W := turns (C := accL T) (st := st P) (g0 := tG T sl t) (vs := vs) (Qd := fun H => Q (.ref P) H) (P := P) (sl := sl) (t := t) (ms := ms) (dd := dd) (J := J) (a0 := []) (o0 := .lst []) hK ok (fun _ _ _ _ h => h) hs (h1 P) (R1.hides vs) wipe_wipe (fun i h => hides_oa h) nP (by rw [Gho.hides_ι]; exact nι) (by
        rw [Gho.hides_ι]
        exact hK _ _ _ _ _ _ .refl (γ.to ι1).bi (fun a h => .inl (Gho.hides_bar.mp h)) k1) ⟨[], rfl, .nil⟩ (by
      revert p
      cases gaL t ms (wipeE ρ vs) dd g1 with
      | bad => exact fun p => p
      | exc x g' => exact fun p => p.elim
      | ok ys g' =>
        dsimp only
        split
        · rename_i hf
          refine fun p => ⟨by simpa [accL] using hf, fun ι5 H5 o5 s5 G5 n5 np5 A5 => ?_⟩
          rw [Gho.hides_ι] at s5
          obtain ⟨us, rfl, r5⟩ := A5
          have r6 : RelDs T ι5 ((γ.to ι5).add P).bar H5 ys us := r5.fewer fun a h => by
            rcases Gho.add_bar.mp h with h | h
            · exact add_fw a (hides_bi.mpr h)
            · exact Gho.add_bar.mpr (.inr h)
          have G6 : GR T ι5 (γ.to ι5).bar H5 g' := G5.fewer fun a h => hides_bi.mpr h
          have n0 : H P = none := s1.back nP
          have gr : Grows H5 (γ.to ι5).bar ((γ.to ι5).add P).bar := grows_add n5
          refine p P ι5 _ ((s1.trans s5).trans (.same (same_lay n5))) n0 np5 (fun z => ?_) (G6.keep (same_lay n5) (γ.to ι5).bi gr) ⟨us, .inl upd_same, r6.keep (.same (same_lay n5)) (fun a h => add_fw a ((γ.to ι5).bi a h)) fun a h => .inl h⟩ (by rw [upd_same]; trivial)
          exact (R.step (s1.trans s5) G6).bart P z n5
        · exact fun p => p.elim)
    exact W
section
variable {T : Wd} {W : WX} {X : Cx} {elt tg iter tg1 iter1 : Expr} {ifs ifs1 : List Expr} {scope : Scope} {own : List (Str × Nat)} {pos : Pos} {mi mi1 : EvI} {t t1 : Tg} {mt mt1 : EvB} {me : Ev} {sl sl1 : List Nat}
theorem ef_lc (hc : X.calm = true) (hN : X.N.Nodup) (hi : EIw T W X tg iter mi) (own : List (Str × Nat)) (bo : blkC X.N X.env.scope scope own = true)
    (hg : ∀ (s : Shared) (H : Hp) (C : Addr) (cl : List (Str × Addr)) (fp : List Addr), GT T (X.blk s H scope (compEnvC scope cl C X.env) fp) tg sl t)
    (ht : ∀ (s : Shared) (H : Hp) (C : Addr) (cl : List (Str × Addr)) (fp : List Addr), PTs (X.blk s H scope (compEnvC scope cl C X.env) fp) ifs (tX T W0 rB mt))
    (he : ∀ (s : Shared) (H : Hp) (C : Addr) (cl : List (Str × Addr)) (fp : List Addr), EE T W0 (X.blk s H scope (compEnvC scope cl C X.env) fp) elt me)
    (hs : (sl.all fun i => decide (i ∈ own.map (·.2))) = true := by rfl) (hf : ∀ x, foldedSetIterable iter X.env x = pure x := by intro _; rfl) :
    EF T W X (.ListComp elt [⟨tg, iter, ifs, 0⟩] scope pos) (mLc mi (own.map (·.2)) t (el1 mt me)) :=
  PE.imp (pe_lc hc hN hi (blkOk_by bo) hg ht he hf) fun σ H Q h => lc_test (st := fun P => stg1 T P mt me) (fun i h => of_decide_eq_true (List.all_eq_true.mp hs i h)) (fun P => stg_one) h
theorem ss_lc (i : Nat) {y : Str} {py spos : Pos} (hc : X.calm = true) (hN : X.N.Nodup) (hi : EIw T W X tg iter mi) (own : List (Str × Nat)) (bo : blkC X.N X.env.scope scope own = true)
    (hg : ∀ (s : Shared) (H : Hp) (C : Addr) (cl : List (Str × Addr)) (fp : List Addr), GT T (X.blk s H scope (compEnvC scope cl C X.env) fp) tg sl t)
    (ht : ∀ (s : Shared) (H : Hp) (C : Addr) (cl : List (Str × Addr)) (fp : List Addr), PTs (X.blk s H scope (compEnvC scope cl C X.env) fp) ifs (tX T W0 rB mt))
    (he : ∀ (s : Shared) (H : Hp) (C : Addr) (cl : List (Str × Addr)) (fp : List Addr), EE T W0 (X.blk s H scope (compEnvC scope cl C X.env) fp) elt me)
    (hy : X.N[i]? = some y := by rfl) (hyl : X.env.scope.names.lookup y = some .local := by rfl) (hk : X.env.scope.kind = .function := by rfl) (hl : (py.line == pos.line) = true := by rfl)
    (ha : (scope.names.any fun (n, k) => n == y && (k == .local || k == .cell)) = false := by rfl)
    (hs : (sl.all fun i => decide (i ∈ own.map (·.2))) = true := by rfl) (hf : ∀ x, foldedSetIterable iter X.env x = pure x := by intro _; rfl) :
    SS T W X (.Assign [.Name y py] (.ListComp elt [⟨tg, iter, ifs, 0⟩] scope pos) spos) (sOw i (mLc mi (own.map (·.2)) t (el1 mt me))) :=
  PS.imp (ps_setLc hc hN hy hyl (sw_true hk hyl hl ha) hi (blkOk_by bo) hg ht he hf) fun D' σ H h => by
    have h := own_imp h
    exact lc_test (st := fun P => stg1 T P mt me) (fun i h => of_decide_eq_true (List.all_eq_true.mp hs i h)) (fun P => stg_one) h
theorem ef_lc2 (hc : X.calm = true) (hN : X.N.Nodup) (hi : EIw T W X tg iter mi) (own : List (Str × Nat)) (vs1 : List Nat) (bo : blkC X.N X.env.scope scope own = true)
    (hg : ∀ (s : Shared) (H : Hp) (C : Addr) (cl : List (Str × Addr)) (fp : List Addr), GT T (X.blk s H scope (compEnvC scope cl C X.env) fp) tg sl t)
    (ht : ∀ (s : Shared) (H : Hp) (C : Addr) (cl : List (Str × Addr)) (fp : List Addr), PTs (X.blk s H scope (compEnvC scope cl C X.env) fp) ifs (tX T W0 rB mt))
    (hi1 : ∀ (s : Shared) (H : Hp) (C : Addr) (cl : List (Str × Addr)) (fp : List Addr), EI T W0 (X.blk s H scope (compEnvC scope cl C X.env) fp) tg1 iter1 mi1)
    (hg1 : ∀ (s : Shared) (H : Hp) (C : Addr) (cl : List (Str × Addr)) (fp : List Addr), GT T (X.blk s H scope (compEnvC scope cl C X.env) fp) tg1 sl1 t1)
    (ht1 : ∀ (s : Shared) (H : Hp) (C : Addr) (cl : List (Str × Addr)) (fp : List Addr), PTs (X.blk s H scope (compEnvC scope cl C X.env) fp) ifs1 (tX T W0 rB mt1))
    (he : ∀ (s : Shared) (H : Hp) (C : Addr) (cl : List (Str × Addr)) (fp : List Addr), EE T W0 (X.blk s H scope (compEnvC scope cl C X.env) fp) elt me)
    (hv : (vs1.all fun i => decide (i ∈ own.map (·.2))) = true := by rfl)
    (hs : (sl.all fun i => decide (i ∈ own.map (·.2))) = true := by rfl) (hs1 : (sl1.all fun i => decide (i ∈ vs1)) = true := by rfl) (hf : ∀ x, foldedSetIterable iter X.env x = pure x := by intro _; rfl) (hf1 : ∀ env x, foldedSetIterable iter1 env x = pure x := by intro _ _; rfl) :
    EF T W X (.ListComp elt [⟨tg, iter, ifs, 0⟩, ⟨tg1, iter1, ifs1, 0⟩] scope pos) (mLc mi (own.map (·.2)) t (el2 mt mi1 vs1 t1 (el1 mt1 me))) :=
  PE.imp (pe_lc2 hc hN hi (blkOk_by bo) (fun i h => of_decide_eq_true (List.all_eq_true.mp hv i h)) hg ht hi1 hg1 ht1 he hf hf1) fun σ H Q h => by
    exact lc_test (st := fun P => stg2 T P mt (tI T W0 (Kept T) mi1) vs1 (tG T sl1 t1) (stg1 T P mt1 me)) (fun i h => of_decide_eq_true (List.all_eq_true.mp hs i h)) (fun P => stg_two (fun i h => of_decide_eq_true (List.all_eq_true.mp hs1 i h)) stg_one) h
theorem ets_nil : PTs X [] (tX T W0 rB mYes) := ⟨fun pins s σ H Q I ⟨γ, ρ, g, R, p⟩ => pts_nil.run pins s σ H Q I (p true γ.ι H .refl R.cells rfl)⟩
theorem PTs.imp {X : Cx} {e : List Expr} {t t' : TT} (h : PTs X e t) (i : ∀ σ H Q, t' σ H Q → t σ H Q) : PTs X e t' := ⟨fun pins s σ H Q I q => h.run pins s σ H Q I (i σ H Q q)⟩
end
end Z
namespace Z
open PySem PySem.Spec PyProof.Rows L2
set_option autoImplicit false
section
variable {T : Wd} {W : WX} {γ : Gho} {H H1 : Hp} {σ : L2.St} {ρ : Env} {g g1 : G} {Q : VK} {ι1 : List Addr}
theorem PostF.after (s : Stp γ.ι ι1 H H1) : ∀ {r : Res D}, PostF T γ H σ W Q r → PostF T (γ.to ι1) H1 σ W Q r
  | .ok d g', h => fun a ι' H' s1 n0 na nb G1 r1 mu => h a ι' H' (s.trans s1) (s.back n0) na nb G1 r1 mu
  | .exc x g', h => fun cls dx ι' H' s1 G1 r1 => h cls dx ι' H' (s.trans s1) G1 r1
  | .bad, h => h
theorem PostF.bind {α β : Type} {R1 : Rel α β} {Q1 : β → Hp → Prop} {r : Res α} {k : α → G → Res D} (h : PostF T γ H σ W Q (r.bind k))
    (hk : ∀ d g1, r = .ok d g1 → ∀ v ι1 H1, Stp γ.ι ι1 H H1 → GR T ι1 (γ.to ι1).bar H1 g1 → R1 ι1 (γ.to ι1).bar H1 d v → PostF T (γ.to ι1) H1 σ W Q (k d g1) → Q1 v H1) : Post T γ H σ W R1 Q1 r := by
  cases r with
  | ok d g1 => exact fun v ι1 H1 s G1 r1 => hk d g1 rfl v ι1 H1 s G1 r1 (PostF.after s h)
  | exc x g1 => exact h
  | bad => exact h
theorem PostF.new {ds : List D} {us : List V} {a : Addr} (p : PostF T γ H σ W Q (.ok (.lst ds) g)) (S : StR T γ H ρ σ g) (hp : H a = none) (r : RelDs T γ.ι γ.bar H ds us) : Q (.ref a) (upd H a (.lst us)) := by
  have nb : ¬ γ.bar a := fun z => S.bart a z hp
  exact p a γ.ι _ (.same (same_lay hp)) hp (fun z => nb (.inl z)) nb (S.cells.keep (same_lay hp) γ.bi (grows_add hp)) ⟨us, .inl upd_same, r.keep (.same (same_lay hp)) γ.bi (grows_add hp)⟩ (by rw [upd_same]; trivial)
end
section
variable {T : Wd} {W : WX} {X : Cx} {es : List Expr} {e a b : Expr} {ms : EvL} {m ma mb : Ev} {pos : Pos}
theorem ef_lst (h : EAs T W X es ms) : EF T W X (.List es pos) (mLst ms) := PE.imp (pe_lst h) fun σ H Q ⟨γ, ρ, g, S, p⟩ => by
  refine ⟨γ, ρ, g, S, p.bind fun ds g1 _ vs ι1 H1 s1 G1 r1 p1 => ?_⟩
  have S1 := S.step s1 G1
  cases hf : fits ds.length with
  | false => rw [hf] at p1; exact p1.elim
  | true =>
    rw [hf] at p1
    exact ⟨by rw [r1.length]; exact fits_line hf, fun q hq => p1.new S1 hq r1⟩
/-- .. made by an operation -/
def rOpF (T : Wd) (k : D → D → Option (List D)) : R2 := fun x y H Q => ∃ (ι : List Addr) (bar : Addr → Prop) (d e : D) (r : List D), (∀ a, bar a → H a ≠ none) ∧ (∀ a ∈ ι, bar a) ∧
  RelW T ι bar H d x ∧ RelW T ι bar H e y ∧ k d e = some r ∧ ∀ p us, H p = none → RelDs T ι bar H r us → Q (.ref p) (upd H p (.lst us))
def mOpF (k : D → D → Option (List D)) (a b : Ev) : Ev := fun ρ g => (a ρ g).bind fun d g1 => (b ρ g1).bind fun e g2 => ret ((k d e).map .lst) g2
theorem opF_imp {k : D → D → Option (List D)} {σ : L2.St} {H : Hp} {Q : VK} (h : tF T W (mOpF k ma mb) σ H Q) : tOp (rOpF T k) (tX T W (rW T) ma) (tX T W (rW T) mb) σ H Q := by
  obtain ⟨γ, ρ, g, S, p⟩ := h
  refine ⟨γ, ρ, g, S, p.bind fun d g1 _ v ι1 H1 s1 G1 r1 p1 => ?_⟩
  have S1 := S.step s1 G1
  refine ⟨γ.to ι1, ρ, g1, S1, p1.bind fun e g2 _ u ι2 H2 s2 G2 r2 p2 => ?_⟩
  have S2 := S1.step s2 G2
  cases hk : k d e with
  | none => rw [hk] at p2; exact p2.elim
  | some r =>
    rw [hk] at p2
    exact ⟨ι2, ((γ.to ι1).to ι2).bar, d, e, r, S2.bart, fun a h => .inl h, r1.keep s2 (γ.to ι1).bi (Gho.grows s2), r2, hk, fun a us hp ru => PostF.new p2 S2 hp ru⟩
def addF : D → D → Option (List D)
  | .lst xs, .lst ys => if fits (xs.length + ys.length) then some (xs ++ ys) else none
  | _, _ => none
theorem of_add : OpR X (binaryOp .Add) (rOpF T addF) := by
  intro pins s σ H x y v u Q I rx ry ⟨ι, bar, d, e, r, hb, hi, rd, re, hk, q⟩
  unfold addF at hk
  split at hk
  · split at hk
    · rename_i hc
      cases hk
      obtain ⟨a, xs, rfl, h1, r1⟩ := rd.lst
      obtain ⟨b, ys, rfl, h2, r2⟩ := re.lst
      cases rx
      cases ry
      obtain ⟨z, its, n, r, e⟩ := h1.ok I.hok
      obtain ⟨z2, its2, n2, r', e2⟩ := h2.ok I.hok
      have hz := fits_line hc
      rw [← r1.length, ← r2.length] at hz
      refine PySem.P.add_list e e2 ?_ (by rw [List.size_toArray, List.size_toArray, ← r.length, ← r'.length]; exact hz)
      have ea : its.toArray ++ its2.toArray = (its ++ its2).toArray := by simp
      rw [ea]
      exact ⟨.ref _, _, I.lnew (t' := s.toks) (r.append r') (by rw [List.length_append]; exact hz), rfl, q _ _ I.fresh (r1.append r2)⟩
    · cases hk
  · cases hk
theorem ef_add (ha : EW T W X a ma) (hb : EW T W X b mb) : EF T W X (.BinOp a .Add b pos) (mOpF addF ma mb) := PE.imp (pe_op of_add ha hb) fun _ _ _ h => opF_imp h
end
def Gho.adds (γ : Gho) (A : List Addr) : Gho := { γ with av := fun a => γ.av a ∨ a ∈ A }
theorem Gho.adds_bar {γ : Gho} {A : List Addr} {a : Addr} : (γ.adds A).bar a ↔ γ.bar a ∨ a ∈ A := by
  constructor
  · rintro (h | ⟨i, h⟩ | h | h)
    · exact .inl (.inl h)
    · exact .inl (.inr (.inl ⟨i, h⟩))
    · exact .inl (.inr (.inr h))
    · exact .inr h
  · rintro ((h | ⟨i, h⟩ | h) | h)
    · exact .inl h
    · exact .inr (.inl ⟨i, h⟩)
    · exact .inr (.inr (.inl h))
    · exact .inr (.inr (.inr h))
theorem adds_fw {γ : Gho} {A : List Addr} : ∀ b, γ.bar b → (γ.adds A).bar b := fun b h => Gho.adds_bar.mpr (.inl h)
def RelFs (T : Wd) (ι : List Addr) (bar : Addr → Prop) (H : Hp) : List (Bool × D) → List V → List Addr → Prop
  | [], vs, A => vs = [] ∧ A = []
  | (false, d) :: r, vs, A => ∃ v vs', vs = v :: vs' ∧ RelD T ι bar H d v ∧ RelFs T ι bar H r vs' A
  | (true, d) :: r, vs, A => ∃ a vs' A', vs = .ref a :: vs' ∧ A = a :: A' ∧ RelC T ι bar H d a ∧ Mut (H a) ∧ RelFs T ι bar H r vs' A'
theorem RelFs.fewer {T : Wd} {ι : List Addr} {bar bar' : Addr → Prop} {H : Hp} (hb : ∀ a, bar' a → bar a) : ∀ {ds : List (Bool × D)} {vs : List V} {A : List Addr}, RelFs T ι bar H ds vs A → RelFs T ι bar' H ds vs A
  | [], _, _, h => h
  | (false, d) :: r, _, _, ⟨v, vs', e, h1, h2⟩ => ⟨v, vs', e, h1.fewer hb, RelFs.fewer hb h2⟩
  | (true, d) :: r, _, _, ⟨a, vs', A', e, e2, h1, m, h2⟩ => ⟨a, vs', A', e, e2, h1.fewer hb, m, RelFs.fewer hb h2⟩
abbrev EvF := Env → G → Res (List (Bool × D))
def PostFs (T : Wd) (γ : Gho) (H : Hp) (σ : L2.St) (W : WX) (Q : List V → Hp → Prop) : Res (List (Bool × D)) → Prop
  | .ok ds g' => ∀ vs A ι' H', Stp γ.ι ι' H H' → A.Nodup → (∀ a ∈ A, H a = none ∧ a ∉ ι' ∧ ¬ (γ.to ι').bar a ∧ H' a ≠ none) → GR T ι' ((γ.to ι').adds A).bar H' g' → RelFs T ι' ((γ.to ι').adds A).bar H' ds vs A → Q vs H'
  | .exc x g' => ∀ cls dx ι' H', Stp γ.ι ι' H H' → GR T ι' (γ.to ι').bar H' g' → ExcR T ι' (γ.to ι').bar H' x cls dx → W cls dx σ H'
  | .bad => False
def tFs (T : Wd) (W : WX) (m : EvF) : TA := fun σ H Q => ∃ γ ρ g, StR T γ H ρ σ g ∧ PostFs T γ H σ W Q (m ρ g)
abbrev EFs (T : Wd) (W : WX) (X : Cx) (es : List Expr) (m : EvF) : Prop := PA X es (tFs T W m)
def fNil : EvF := fun _ g => .ok [] g
def fCons (o : Bool) (a : Ev) (b : EvF) : EvF := fun ρ g => match a ρ g with
  | .ok d g1 => match b ρ g1 with
    | .ok ds g2 => .ok ((o, d) :: ds) g2
    | .exc x g2 => if o = true then .bad else .exc x g2
    | .bad => .bad
  | .exc x g1 => .exc x g1
  | .bad => .bad
section
variable {T : Wd} {W : WX} {X : Cx} {es : List Expr} {e : Expr} {m : Ev} {ms : EvF} {pos : Pos}
theorem efs_nil : EFs T W X [] fNil := PA.imp pa_nil fun σ H Q ⟨γ, ρ, g, S, p⟩ => p [] [] γ.ι H .refl List.nodup_nil (fun a h => by simp at h) (S.cells.fewer fun a h => by
  rcases Gho.adds_bar.mp h with h | h
  · exact h
  · simp at h) ⟨rfl, rfl⟩
theorem grows_adds {γ : Gho} {A : List Addr} {ι1 ι' : List Addr} {H H' : Hp} (s : Stp γ.ι ι' H H') (h : ∀ a ∈ A, H a = none) : Grows H γ.bar ((γ.to ι').adds A).bar := fun a q => by
  rcases Gho.adds_bar.mp q with q | q
  · exact Gho.grows s a q
  · exact .inr (h a q)
theorem efs_val (ha : EE T W X e m) (hr : EFs T W X es ms) (hs : starEach (e :: es) X.env = (false, eval e X.env) :: starEach es X.env := by rfl) : EFs T W X (e :: es) (fCons false m ms) := PA.imp (pa_cons ha hr hs) fun σ H Q ⟨γ, ρ, g, S, p⟩ => by
  refine ⟨γ, ρ, g, S, ?_⟩
  unfold fCons at p
  revert p
  cases m ρ g with
  | bad => exact fun p => p
  | exc x g1 => exact fun p => p
  | ok d g1 =>
    intro p v ι1 H1 s1 G1 r1
    have S1 := S.step s1 G1
    refine ⟨_, ρ, g1, S1, ?_⟩
    dsimp only at p
    revert p
    cases ms ρ g1 with
    | bad => exact fun p => p
    | exc x g2 => exact fun p cls dx ι' H' s2 G2 r2 => p cls dx ι' H' (s1.trans s2) G2 r2
    | ok ds g2 =>
      intro p vs A ι2 H2 s2 nd hA G2 r2
      refine p (v :: vs) A ι2 H2 (s1.trans s2) nd (fun a h => ?_) G2 ⟨v, vs, rfl, r1.keep s2 (γ.to ι1).bi (grows_adds (γ := γ.to ι1) (ι1 := ι1) s2 fun a h => (hA a h).1), r2⟩
      obtain ⟨h1, h2, h3, h4⟩ := hA a h
      exact ⟨s1.back h1, h2, h3, h4⟩
end
def setFs : List Nat → List (Bool × D) → Env → Option Env
  | [], [], ρ => some ρ
  | i :: is, (o, d) :: ds, ρ => if i < ρ.length then setFs is ds (ρ.set i (if o = true then .own d else .val d)) else none
  | _, _, _ => none
def setVs : List Nat → List V → L2.St → L2.St
  | i :: is, v :: vs, σ => setVs is vs (σ.set i (some v))
  | _, _, σ => σ
section
variable {T : Wd} {E0 : Ent}
theorem StS.sets {H' : Hp} {g' : G} : ∀ (is : List Nat) (ds : List (Bool × D)) (vs : List V) (A : List Addr) (γ : Gho) (ρ ρ' : Env) (σ : L2.St), StR T (γ.adds A) H' ρ σ g' → RelDs T γ.ι (γ.adds A).bar H' E0.kd E0.kv → Stp E0.ι γ.ι E0.H H' → γ.av = E0.av → (∀ i a, γ.oa i = some a → E0.H a = none) →
    A.Nodup → (∀ a ∈ A, E0.H a = none ∧ a ∉ γ.ι ∧ ¬ γ.bar a) → RelFs T γ.ι (γ.adds A).bar H' ds vs A → setFs is ds ρ = some ρ' → ∃ γ', StS T E0 γ' H' ρ' (setVs is vs σ) g'
  | [], [], vs, A, γ, ρ, ρ', σ, R, k, s, fa, ow, nd, hA, r, e => by
    obtain ⟨rfl, rfl⟩ := r
    cases e
    have fw : ∀ b, γ.bar b → (γ.adds []).bar b := adds_fw
    have ge : γ.adds [] = γ := by
      show ({ γ with av := fun a => γ.av a ∨ a ∈ [] } : Gho) = γ
      have : (fun a => γ.av a ∨ a ∈ ([] : List Addr)) = γ.av := by funext a; simp
      rw [this]
    rw [ge] at R k
    exact ⟨γ, R, s, fa, ow, k⟩
  | [], _ :: _, _, _, _, _, _, _, _, _, _, _, _, _, _, _, e => by cases e
  | _ :: _, [], _, _, _, _, _, _, _, _, _, _, _, _, _, _, e => by cases e
  | i :: is, (false, d) :: ds, vs, A, γ, ρ, ρ', σ, R, k, s, fa, ow, nd, hA, r, e => by
    obtain ⟨v, vs', rfl, r1, r2⟩ := r
    simp only [setFs] at e
    split at e
    · have R2 := R.setVal i r1
      have fw : ∀ b, ((γ.drop i).adds A).bar b → (γ.adds A).bar b := fun b h => Gho.drop_bar (γ := γ.adds A) (i := i) h
      exact StS.sets is ds vs' A (γ.drop i) _ ρ' _ R2 (k.fewer fw) s fa (fun j a h => ow j a (Gho.drop_oa h).2) nd (fun a h => ⟨(hA a h).1, (hA a h).2.1, fun z => (hA a h).2.2 (Gho.drop_bar z)⟩) (r2.fewer fw) (by simpa using e)
    · cases e
  | i :: is, (true, d) :: ds, vs, A, γ, ρ, ρ', σ, R, k, s, fa, ow, nd, hA, r, e => by
    obtain ⟨a, vs', A', rfl, rfl, r1, mu, r2⟩ := r
    simp only [setFs] at e
    split at e
    · rename_i hi
      obtain ⟨na', nd'⟩ := List.nodup_cons.mp nd
      obtain ⟨h1, h2, h3⟩ := hA a (List.mem_cons_self ..)
      have fw : ∀ b, ((γ.take i a).adds A').bar b → (γ.adds (a :: A')).bar b := fun b h => by
        rcases Gho.adds_bar.mp h with h | h
        · rcases Gho.add_bar.mp (Gho.take_bar h) with h | h
          · exact adds_fw b h
          · exact Gho.adds_bar.mpr (.inr (h ▸ List.mem_cons_self ..))
        · exact Gho.adds_bar.mpr (.inr (List.mem_cons_of_mem _ h))
      have R2 : StR T ((γ.take i a).adds A') H' (ρ.set i (.own d)) (σ.set i (some (.ref a))) g' := by
        refine ⟨by rw [List.length_set, List.length_set]; exact R.len, fun j x h => ?_, fun j x h => ?_, fun j b h => ?_, fun j l b q1 q2 => ?_, fun j b h => ?_, fun b h => ?_, R.cells.fewer fw, fun j k h => by
          obtain ⟨n, h⟩ := mk_of_set (by simp) h
          obtain ⟨m, e1, e2, r⟩ := R.mks j k h
          exact ⟨m, e1, by rw [List.getElem?_set_ne n]; exact e2, r.fewer fw⟩⟩
        · by_cases hj : i = j
          · subst hj
            rw [List.getElem?_set_self hi] at h; cases h
          · rw [List.getElem?_set_ne hj] at h
            obtain ⟨v, e1, q1⟩ := R.vals j x h
            exact ⟨v, by rw [List.getElem?_set_ne hj]; exact e1, q1.fewer fw⟩
        · by_cases hj : i = j
          · subst hj
            rw [List.getElem?_set_self hi] at h; cases h
            exact ⟨a, if_pos rfl, List.getElem?_set_self (by rw [R.len]; exact hi), r1.fewer fw, mu⟩
          · rw [List.getElem?_set_ne hj] at h
            obtain ⟨b, e1, e2, q1, m1⟩ := R.owns j x h
            exact ⟨b, by show (if j = i then some a else γ.oa j) = _; rw [if_neg (Ne.symm hj)]; exact e1, by rw [List.getElem?_set_ne hj]; exact e2, q1.fewer fw, m1⟩
        · rcases Gho.take_oa h with ⟨q, _⟩ | ⟨n, h⟩
          · rw [q]; exact ⟨d, List.getElem?_set_self hi⟩
          · obtain ⟨x, q⟩ := R.oad j b h
            exact ⟨x, by rw [List.getElem?_set_ne (Ne.symm n)]; exact q⟩
        · rcases Gho.take_oa q1 with ⟨e1, e1'⟩ | ⟨m1, q1⟩
          · rcases Gho.take_oa q2 with ⟨e2, _⟩ | ⟨m2, q2⟩
            · rw [e1, e2]
            · exact absurd (.inr (.inl ⟨l, e1' ▸ q2⟩)) h3
          · rcases Gho.take_oa q2 with ⟨e2, e2'⟩ | ⟨m2, q2⟩
            · exact absurd (.inr (.inl ⟨j, e2' ▸ q1⟩)) h3
            · exact R.oinj j l b q1 q2
        · rcases Gho.take_oa h with ⟨q, q'⟩ | ⟨n, h⟩
          · rw [q']
            refine ⟨h2, ?_⟩
            rintro (z | z)
            · exact h3 (.inr (.inr z))
            · exact na' z
          · refine ⟨(R.oi j b h).1, ?_⟩
            rintro (z | z)
            · exact (R.oi j b h).2 (.inl z)
            · exact (R.oi j b h).2 (.inr (List.mem_cons_of_mem _ z))
        · rcases h with h | h
          · exact R.avt b (.inl h)
          · exact R.avt b (.inr (List.mem_cons_of_mem _ h))
      refine StS.sets is ds vs' A' (γ.take i a) _ ρ' _ R2 (k.fewer fw) s fa (fun j b h => ?_) nd' (fun b h => ?_) (r2.fewer fw) (by simpa using e)
      · rcases Gho.take_oa h with ⟨_, q⟩ | ⟨_, h⟩
        · rw [q]; exact h1
        · exact ow j b h
      · obtain ⟨q1, q2, q3⟩ := hA b (List.mem_cons_of_mem _ h)
        refine ⟨q1, q2, fun z => ?_⟩
        rcases Gho.add_bar.mp (Gho.take_bar z) with z | z
        · exact q3 z
        · exact na' (z ▸ h)
    · cases e
end
def sPar (is : List Nat) (m : EvF) : Sm := fun ρ g => match m ρ g with
  | .ok ds g' => match setFs is ds ρ with
    | some ρ' => .nx ρ' g'
    | none => .bad
  | .exc x g' => .exc x ρ g'
  | .bad => .bad
/-- many new things barred at once -/
theorem StR.stepAdds {T : Wd} {γ : Gho} {H H' : Hp} {ρ : Env} {σ : L2.St} {g g' : G} {ι' : List Addr} {A : List Addr} (R0 : StR T γ H ρ σ g) (s : Stp γ.ι ι' H H') (hA : ∀ a ∈ A, H a = none ∧ a ∉ ι' ∧ ¬ (γ.to ι').bar a ∧ H' a ≠ none) (G' : GR T ι' ((γ.to ι').adds A).bar H' g') :
    StR T ((γ.to ι').adds A) H' ρ σ g' := by
  have R := R0.step s (G'.fewer adds_fw)
  have bg : Grows H γ.bar ((γ.to ι').adds A).bar := grows_adds (ι1 := ι') s fun a h => (hA a h).1
  refine ⟨R.len, fun j x h => ?_, fun j x h => ?_, R.oad, R.oinj, fun j b h => ?_, fun b h => ?_, G', fun j k h => let ⟨m, e1, e2, r⟩ := R0.mks j k h; ⟨m, e1, e2, r.keep s γ.bi bg⟩⟩
  · obtain ⟨v, e1, r1⟩ := R0.vals j x h
    exact ⟨v, e1, r1.keep s γ.bi bg⟩
  · obtain ⟨b, e1, e2, r1, m1⟩ := R0.owns j x h
    obtain ⟨b2, e3, _, _, m2⟩ := R.owns j x h
    have : b2 = b := by
      have e3 : γ.oa j = some b2 := e3
      rw [e1] at e3; cases e3; rfl
    subst this
    exact ⟨b2, e1, e2, r1.keep s γ.bi bg (R0.oi j b2 e1).1, m2⟩
  · refine ⟨(R.oi j b h).1, ?_⟩
    rintro (z | z)
    · exact (R.oi j b h).2 z
    · exact R0.owned h (hA b z).1
  · rcases h with h | h
    · exact R.avt b h
    · exact (hA b h).2.2.2
theorem par_imp {T : Wd} {W : WX} {m : EvF} {is : List Nat} {D' : Ends} {σ : L2.St} {H : Hp} (h : tS T W (sPar is m) D' σ H) : tFs T W m σ H fun vs H1 => D'.nx (setVs is vs σ) H1 := by
  obtain ⟨E0, γ, ρ, g, S, p⟩ := h
  refine ⟨γ, ρ, g, S.st, ?_⟩
  unfold sPar at p
  revert p
  cases m ρ g with
  | bad => exact fun p => p
  | exc x g1 => exact fun p cls dx ι' H' s1 G1 r1 => p (γ.to ι') σ H' cls dx (S.step s1 G1) r1
  | ok ds g1 =>
    dsimp only
    cases he : setFs is ds ρ with
    | none => exact fun p => p.elim
    | some ρ' =>
      intro p vs A ι1 H1 s1 nd hA G1 r1
      have R1 := S.st.stepAdds s1 hA G1
      obtain ⟨γ', S'⟩ := StS.sets (E0 := E0) is ds vs A (γ.to ι1) ρ ρ' σ R1 (S.kept.keep s1 γ.bi (grows_adds (ι1 := ι1) s1 fun a h => (hA a h).1)) (S.ent.trans s1) S.fav S.own0 nd (fun a h => ⟨S.ent.back (hA a h).1, (hA a h).2.1, (hA a h).2.2.1⟩) r1 he
      exact p γ' _ H1 S'
theorem RelFs.len {T : Wd} {ι : List Addr} {bar : Addr → Prop} {H : Hp} : ∀ {ds : List (Bool × D)} {vs : List V} {A : List Addr}, RelFs T ι bar H ds vs A → vs.length = ds.length
  | [], _, _, ⟨e, _⟩ => by rw [e]; rfl
  | (false, d) :: r, _, _, ⟨v, vs', e, h1, h2⟩ => by rw [e, List.length_cons, List.length_cons, RelFs.len h2]
  | (true, d) :: r, _, _, ⟨a, vs', A', e, e2, h1, m, h2⟩ => by rw [e, List.length_cons, List.length_cons, RelFs.len h2]
theorem setFs_len : ∀ {is : List Nat} {ds : List (Bool × D)} {ρ ρ' : Env}, setFs is ds ρ = some ρ' → ds.length = is.length
  | [], [], _, _, _ => rfl
  | [], _ :: _, _, _, e => by cases e
  | _ :: _, [], _, _, e => by cases e
  | i :: is, (o, d) :: ds, ρ, ρ', e => by
    simp only [setFs] at e
    split at e
    · rw [List.length_cons, List.length_cons, setFs_len e]
    · cases e
/-- .. with as many values as names -/
theorem par_imp2 {T : Wd} {W : WX} {m : EvF} {is : List Nat} {D' : Ends} {σ : L2.St} {H : Hp} (h : tS T W (sPar is m) D' σ H) : tFs T W m σ H fun vs H1 => vs.length = is.length ∧ D'.nx (setVs is vs σ) H1 := by
  have hk := par_imp h
  obtain ⟨E0, γ, ρ, g, S, p⟩ := h
  obtain ⟨E0, γ, ρ, g, S, p⟩ : ∃ E0 γ ρ g, StS T E0 γ H ρ σ g ∧ SPost T E0 W D' (sPar is m ρ g) := ⟨E0, γ, ρ, g, S, p⟩
  have h : tS T W (sPar is m) D' σ H := ⟨E0, γ, ρ, g, S, p⟩
  have key : ∀ ds g1, m ρ g = .ok ds g1 → ds.length = is.length := fun ds g1 e => by
    unfold sPar at p
    rw [e] at p
    dsimp only at p
    cases he : setFs is ds ρ with
    | none => rw [he] at p; exact p.elim
    | some ρ' => exact setFs_len he
  refine ⟨γ, ρ, g, S.st, ?_⟩
  unfold sPar at p
  revert p
  cases hm : m ρ g with
  | bad => exact fun p => p
  | exc x g1 => exact fun p cls dx ι' H' s1 G1 r1 => p (γ.to ι') σ H' cls dx (S.step s1 G1) r1
  | ok ds g1 =>
    have hl := key ds g1 hm
    dsimp only
    cases he : setFs is ds ρ with
    | none => exact fun p => p.elim
    | some ρ' =>
      intro p vs A ι1 H1 s1 nd hA G1 r1
      have R1 := S.st.stepAdds s1 hA G1
      obtain ⟨γ', S'⟩ := StS.sets (E0 := E0) is ds vs A (γ.to ι1) ρ ρ' σ R1 (S.kept.keep s1 γ.bi (grows_adds (ι1 := ι1) s1 fun a h => (hA a h).1)) (S.ent.trans s1) S.fav S.own0 nd (fun a h => ⟨S.ent.back (hA a h).1, (hA a h).2.1, (hA a h).2.2.1⟩) r1 he
      exact ⟨by rw [r1.len, hl], p γ' _ H1 S'⟩
section
variable {T : Wd} {W : WX} {X : Cx} {m : EvF} {pos : Pos}
theorem ss_par2 (i j : Nat) {x y : Str} {a b : Expr} {px py pt : Pos} {kt k2 pt2} (hc : X.calm = true) (hN : X.N.Nodup) (ha : EFs T W X [a, b] m) (hi : X.N[i]? = some x := by rfl) (hj : X.N[j]? = some y := by rfl) (hij : i ≠ j := by decide)
    (hx : X.env.scope.names.lookup x = some .local := by rfl) (hy : X.env.scope.names.lookup y = some .local := by rfl)
    (hw : swappedStores [.Tuple [.Name x px, .Name y py] kt pt] (.Tuple [a, b] k2 pt2) X.env = pure (some [x, y]) := by rfl)
    (hs : swapsWithSole [.Tuple [.Name x px, .Name y py] kt pt] (.Tuple [a, b] k2 pt2) pos.line X.env = pure false := by rfl) :
    SS T W X (.Assign [.Tuple [.Name x px, .Name y py] kt pt] (.Tuple [a, b] k2 pt2) pos) (sPar [i, j] m) := PS.imp (ps_par hc hN hi hj hij hx hy ha hw hs) fun D' σ H h => by
  obtain ⟨γ, ρ, g, S, p⟩ := par_imp2 h
  refine ⟨γ, ρ, g, S, ?_⟩
  revert p
  cases m ρ g with
  | bad => exact fun p => p
  | exc x g1 => exact fun p => p
  | ok ds g1 =>
    intro p vs A ι1 H1 s1 nd hA G1 r1
    obtain ⟨hl, q⟩ := p vs A ι1 H1 s1 nd hA G1 r1
    match vs, hl, q with
    | [u, v], _, q => exact ⟨u, v, rfl, q⟩
/-- target = value, any target -/
def sAsg (m : Ev) (t : Tg) : Sm := fun ρ g => match m ρ g with
  | .ok d g' => match t d ρ with
    | some ρ' => .nx ρ' g'
    | none => .bad
  | .exc x g' => .exc x ρ g'
  | .bad => .bad
theorem ss_asg {tg e : Expr} {me : Ev} {t : Tg} {sl : List Nat} (he : EE T W X e me) (hg : GT T X tg sl t) (hs : swapsWithSole [tg] e pos.line X.env = pure false := by rfl) (hw : swappedStores [tg] e X.env = pure none := by rfl)
    (h1 : (assignEach [tg] X.env).map (·.2) = [assign tg X.env] := by rfl) : SS T W X (.Assign [tg] e pos) (sAsg me t) := PS.imp (ps_asg he hg hs hw h1) fun D' σ H ⟨E0, γ, ρ, g, S, p⟩ => by
  refine ⟨γ, ρ, g, S.st, ?_⟩
  unfold sAsg at p
  revert p
  cases me ρ g with
  | bad => exact fun p => p
  | exc x g' => exact fun p cls dx ι' H' s1 G1 r1 => p (γ.to ι') σ H' cls dx (S.step s1 G1) r1
  | ok d g' =>
    dsimp only
    cases ht : t d ρ with
    | none => exact fun p => p.elim
    | some ρ' =>
      intro p v ι' H' s1 G1 r1
      have S1 := S.step s1 G1
      exact ⟨_, ρ, g', d, ρ', S1.st, r1, ht, fun γ2 σ2 H2 sm R2 l2 _ => p γ2 σ2 H2 ((S1.step (.same sm) (S1.st.cells.keep sm (Gho.bi _) (Gho.grows (.same sm)))).lesser l2 R2)⟩
end
end Z
namespace Z
open PySem PySem.Spec PyProof.Rows L2
set_option autoImplicit false
section
variable {T : Wd} {γ : Gho} {H : Hp} {ρ : Env} {σ : L2.St} {g : G} {E0 : Ent} {i : Nat} {d d' : D} {a : Addr} {o' : HO}
theorem mut_soft {o : HO} (h : Mut (some o)) : Soft o := fun i => by
  cases o <;> first | exact i | exact h
theorem era_to {H : Hp} {a : Addr} {o' : HO} : Same (era H a) (upd H a o') := fun b u h => by
  obtain ⟨n, h⟩ := era_some h
  rw [upd_ne n]; exact h
theorem StR.get (R : StR T γ H ρ σ g) (h : ρ[i]? = some (.own d)) : ∃ a o, γ.oa i = some a ∧ σ[i]? = some (some (.ref a)) ∧ RelC T γ.ι γ.bar H d a ∧ H a = some o ∧ Mut (some o) := by
  obtain ⟨a, e1, e2, r, m⟩ := R.owns i d h
  cases q : H a with
  | none => rw [q] at m; exact m.elim
  | some o => exact ⟨a, o, e1, e2, r, q, by rw [← q]; exact m⟩
/-- values lie elsewhere -/
theorem RelD.turn {ι : List Addr} {bar : Addr → Prop} {o : HO} (hi : ∀ a ∈ ι, bar a) (hb : bar a) (hp : H a = some o) (so : Soft o) {e : D} {v : V} (r : RelD T ι bar H e v) : RelD T ι bar (upd H a o') e v :=
  (r.era hb hp so).keep (.same era_to) hi fun b h => .inl h
theorem RelDs.turn {ι : List Addr} {bar : Addr → Prop} {o : HO} (hi : ∀ a ∈ ι, bar a) (hb : bar a) (hp : H a = some o) (so : Soft o) {e : List D} {v : List V} (r : RelDs T ι bar H e v) : RelDs T ι bar (upd H a o') e v :=
  (r.era hb hp so).keep (.same era_to) hi fun b h => .inl h
theorem StS.turn {o : HO} (S : StS T E0 γ H ρ σ g) (h : ρ[i]? = some (.own d)) (ha : γ.oa i = some a) (hp : H a = some o) (mu : Mut (some o)) (mu' : Mut (some o')) (r : RelC T γ.ι γ.bar (upd H a o') d' a) : StS T E0 γ (upd H a o') (ρ.set i (.own d')) σ g := by
  have R := S.st
  have so : Soft o := mut_soft mu
  have hb : γ.bar a := .inr (.inl ⟨i, ha⟩)
  have nι : a ∉ γ.ι := (R.oi i a ha).1
  have hi : i < ρ.length := (List.getElem?_eq_some_iff.mp h).1
  have e0 := S.own0 i a ha
  refine ⟨⟨by rw [List.length_set]; exact R.len, fun j x q => ?_, fun j x q => ?_, fun j b q => ?_, R.oinj, R.oi, fun b q => ?_, ?_, fun j k q => ?_⟩, ?_, S.fav, S.own0, S.kept.turn γ.bi hb hp so⟩
  · by_cases hj : i = j
    · subst hj; rw [List.getElem?_set_self hi] at q; cases q
    · rw [List.getElem?_set_ne hj] at q
      obtain ⟨v, e1, r1⟩ := R.vals j x q
      exact ⟨v, e1, r1.turn γ.bi hb hp so⟩
  · by_cases hj : i = j
    · subst hj
      rw [List.getElem?_set_self hi] at q; cases q
      obtain ⟨b, e1, e2, _, _⟩ := R.owns i d h
      have : b = a := by rw [ha] at e1; cases e1; rfl
      subst this
      exact ⟨b, ha, e2, r, by rw [upd_same]; exact mu'⟩
    · rw [List.getElem?_set_ne hj] at q
      obtain ⟨b, e1, e2, r1, m1⟩ := R.owns j x q
      have nb : b ≠ a := fun z => hj (R.oinj i j a ha (z ▸ e1))
      exact ⟨b, e1, e2, (r1.era hb hp so nb).keep (.same era_to) γ.bi (fun c h => .inl h) (R.oi j b e1).1, by rw [upd_ne nb]; exact m1⟩
  · obtain ⟨x, q2⟩ := R.oad j b q
    by_cases hj : i = j
    · subst hj; exact ⟨d', List.getElem?_set_self hi⟩
    · exact ⟨x, by rw [List.getElem?_set_ne hj]; exact q2⟩
  · by_cases n : b = a
    · rw [n, upd_same]; simp
    · rw [upd_ne n]; exact R.avt b q
  · exact (R.cells.era hb hp so nι).keep era_to γ.bi fun c h => .inl h
  · obtain ⟨n, q⟩ := mk_of_set (by simp) q
    obtain ⟨m, e1, e2, r1⟩ := R.mks j k q
    exact ⟨m, e1, e2, (r1.era hb hp so).keep (.same era_to) γ.bi fun c h => .inl h⟩
  · refine ⟨fun b u q n => ?_, fun b u q im => ?_, fun b u q => ?_, S.ent.pre⟩
    · have nb : b ≠ a := fun z => by rw [z, e0] at q; cases q
      rw [upd_ne nb]; exact S.ent.ext b u q n
    · have nb : b ≠ a := fun z => by rw [z, e0] at q; cases q
      rw [upd_ne nb]; exact S.ent.imm b u q im
    · have nb : b ≠ a := fun z => by rw [z, e0] at q; cases q
      rw [upd_ne nb]; exact S.ent.live b u q
theorem own_lst {ds : List D} {o : HO} {ι : List Addr} {bar : Addr → Prop} (r : RelC T ι bar H (.lst ds) a) (hp : H a = some o) (mu : Mut (some o)) : ∃ vs, H a = some (.lst vs) ∧ RelDs T ι bar H ds vs := by
  obtain ⟨vs, q, r⟩ := r
  rcases q with q | ⟨u, q⟩
  · exact ⟨vs, q, r⟩
  · rw [q] at hp; cases hp; exact mu.elim
end
def ownL (ρ : Env) (i : Nat) : Option (List D) := match ρ[i]? with
  | some (.own (.lst ds)) => some ds
  | _ => none
theorem ownL_eq {ρ : Env} {i : Nat} {ds : List D} (h : ownL ρ i = some ds) : ρ[i]? = some (.own (.lst ds)) := by
  unfold ownL at h
  split at h
  · rename_i q; cases h; exact q
  · cases h
def sApp (i : Nat) (m : Ev) : Sm := fun ρ g => match ownL ρ i with
  | none => .bad
  | some ds => match m ρ g with
    | .ok d g' => if fits (ds.length + 1) = true then .nx (ρ.set i (.own (.lst (ds ++ [d])))) g' else .bad
    | .exc x g' => .exc x ρ g'
    | .bad => .bad
def sExt (i : Nat) (m : Ev) : Sm := fun ρ g => match ownL ρ i with
  | none => .bad
  | some ds => match m ρ g with
    | .ok (.lst es) g' => if fits (ds.length + es.length) = true then .nx (ρ.set i (.own (.lst (ds ++ es)))) g' else .bad
    | .exc x g' => .exc x ρ g'
    | _ => .bad
/-- the receiver is a list -/
theorem tyV_lst {K : PySem.W.Frag} {H : Hp} {a : Addr} {vs : List V} (h : H a = some (.lst vs)) : tyV K "list" (.ref a) H := .inl ⟨rfl, vs, .inl (.inl h)⟩
/-- extending by a list, frozen or not -/
def rExtR : V → List V → Hp → VK → Prop := fun x vs H Q => ∃ l b xs zs, x = .ref l ∧ vs = [.ref b] ∧ H l = some (.lst xs) ∧ Rd H b (.lst zs) ∧ xs.length + zs.length ≤ sizeLine ∧ Q .non (upd H l (.lst (xs ++ zs)))
theorem mt_extR {X : Cx} : MtR X "list.extend" rExtR := by
  intro pins s σ H x vs v us Q I rx rv ⟨l, b, xs, zs, e1, e2, hH, hB, hz, q⟩
  subst e1 e2
  cases rx
  obtain ⟨u, rfl, ru⟩ := rv.one
  cases ru
  obtain ⟨hx, its, n, r, hl, e⟩ := I.lstM hH
  obtain ⟨hy, its2, n2, r2, eB⟩ := hB.ok I.hok
  have l1 := r.length
  have l2 := r2.length
  have sz : its.toArray.size + its2.toArray.size ≤ sizeLine := by simp only [List.size_toArray]; omega
  have lg : ¬ (!its.toArray.isEmpty && Builtin.List.listTooLong (its.toArray.size + its2.toArray.size)) = true := by
    rw [notLongL sz, Bool.and_false]; simp
  exact call_meets F.slot_list_extend ⟨_, e, rfl⟩ F.entry_list_extend (F.args_list_extend_2 _ _)
    (AutoSeq1.list_extend_list_list_0 l its.toArray n b its2.toArray n2 lg (by simp only [List.size_toArray]; omega) (by simp only [List.size_toArray]; omega))
    ⟨e, eB, .non, _, I.lset (its' := its ++ its2) hH e (by simp) (r.append r2) (by rw [List.length_append]; omega), rfl, q⟩
section
variable {T : Wd} {W : WX} {X : Cx} {e : Expr} {m : Ev} {pos cpos apos p : Pos} {x : Str}
theorem app_test {i : Nat} {D' : Ends} {σ : L2.St} {H : Hp} (ok : Ok T X) (h : tS T W (sApp i m) D' σ H) : tDrop (tBM X.K "list" rAppend (tVar i) (fun σ H Q => tX T W (rD T) m σ H fun v H1 => Q [v] H1)) D' σ H := by
  obtain ⟨E0, γ, ρ, g, S, p⟩ := h
  unfold sApp at p
  cases ho : ownL ρ i with
  | none => rw [ho] at p; exact p.elim
  | some ds =>
    rw [ho] at p
    have ho := ownL_eq ho
    obtain ⟨a, o, e1, e2, r, hp, mu⟩ := S.st.get ho
    obtain ⟨vs, hv, rs⟩ := own_lst r hp mu
    refine ⟨_, e2, tyV_lst hv, γ, ρ, g, S.st, ?_⟩
    revert p
    cases m ρ g with
    | bad => exact fun p => p
    | exc x g' => exact fun p cls dx ι' H' s1 G1 r1 => p (γ.to ι') σ H' cls dx (S.step s1 G1) r1
    | ok d g' =>
      intro p v ι' H' s1 G1 r1
      dsimp only at p
      split at p
      · rename_i hf
        have S1 := S.step s1 G1
        have nι := (S.st.oi i a e1).1
        have hv' : H' a = some (.lst vs) := s1.ext a _ hv nι
        have rs' := rs.keep s1 γ.bi (Gho.grows s1)
        refine ⟨a, vs, v, rfl, rfl, hv', ?_, ?_⟩
        · have := fits_line hf
          rw [rs.length]; omega
        · have hb : (γ.to ι').bar a := .inr (.inl ⟨i, e1⟩)
          have so : Soft (.lst vs) := fun i => i
          refine p (γ.to ι') σ _ (S1.turn ho e1 hv' trivial trivial ⟨vs ++ [v], .inl upd_same, RelDs.append (rs'.turn (γ.to ι').bi hb hv' so) (.cons (r1.turn (γ.to ι').bi hb hv' so) .nil)⟩)
      · exact p.elim
theorem ext_test {i : Nat} {D' : Ends} {σ : L2.St} {H : Hp} (ok : Ok T X) (h : tS T W (sExt i m) D' σ H) : tDrop (tBM X.K "list" rExtR (tVar i) (fun σ H Q => tX T W (rD T) m σ H fun v H1 => Q [v] H1)) D' σ H := by
  obtain ⟨E0, γ, ρ, g, S, p⟩ := h
  unfold sExt at p
  cases ho : ownL ρ i with
  | none => rw [ho] at p; exact p.elim
  | some ds =>
    rw [ho] at p
    have ho := ownL_eq ho
    obtain ⟨a, o, e1, e2, r, hp, mu⟩ := S.st.get ho
    obtain ⟨vs, hv, rs⟩ := own_lst r hp mu
    refine ⟨_, e2, tyV_lst hv, γ, ρ, g, S.st, ?_⟩
    revert p
    cases m ρ g with
    | bad => exact fun p => p
    | exc x g' => exact fun p cls dx ι' H' s1 G1 r1 => p (γ.to ι') σ H' cls dx (S.step s1 G1) r1
    | ok d g' =>
      intro p v ι' H' s1 G1 r1
      cases d with
      | lst es =>
        dsimp only at p
        split at p
        · rename_i hf
          have S1 := S.step s1 G1
          have nι := (S.st.oi i a e1).1
          have hv' : H' a = some (.lst vs) := s1.ext a _ hv nι
          have rs' := rs.keep s1 γ.bi (Gho.grows s1)
          obtain ⟨b, zs, rfl, hB, nb, r2⟩ : ∃ b zs, v = .ref b ∧ Rd H' b (.lst zs) ∧ ¬ (γ.to ι').bar b ∧ RelDs T ι' (γ.to ι').bar H' es zs := by simpa only [RelD] using r1
          refine ⟨a, b, vs, zs, rfl, rfl, hv', hB, ?_, ?_⟩
          · have := fits_line hf
            rw [rs.length, r2.length]; exact this
          · have hb : (γ.to ι').bar a := .inr (.inl ⟨i, e1⟩)
            have so : Soft (.lst vs) := fun i => i
            exact p (γ.to ι') σ _ (S1.turn ho e1 hv' trivial trivial ⟨vs ++ zs, .inl upd_same, RelDs.append (rs'.turn (γ.to ι').bi hb hv' so) (r2.turn (γ.to ι').bi hb hv' so)⟩)
        · exact p.elim
      | _ => exact p.elim
theorem pa_of {t : TE} (he : PE X e t) (hs : starEach [e] X.env = (false, eval e X.env) :: starEach [] X.env) : PA X [e] (fun σ H Q => t σ H fun v H1 => Q [v] H1) := PA.imp (pa_cons he pa_nil hs) fun σ H Q h => h
theorem ss_append (i : Nat) (ok : Ok T X) (he : EE T W X e m) (hN : X.N[i]? = some x := by rfl) (hv : Vis X.env.scope x := by first | exact Or.inl rfl | exact Or.inr (Or.inl rfl) | exact Or.inr (Or.inr rfl))
    (hd : (x == ("__debug__" : Str)) = false := by decide) (hcd : (x == ("__classdict__" : Str)) = false := by decide)
    (hs : starEach [e] X.env = (false, eval e X.env) :: starEach [] X.env := by rfl) (hbase : attributeBase (.Name x p) "append" X.env (eval (.Name x p) X.env) = eval (.Name x p) X.env := by rfl)
    (hline : (apos.endLine == cpos.line) = true := by rfl)
    (hfew : ((backTo cpos (starEach [e] X.env)).all (fun x => !x.1) && (backToKw cpos (keywordEach [] X.env)).all (fun x => x.1.isSome)
      && decide ([e].length + ([] : List Keyword).length + (if ([] : List Keyword).isEmpty then 0 else 1) < 30)) = true := by rfl)
    (hplain : (backTo cpos (starEach [] X.env)).any (·.1) = false := by rfl)
    (hsw : swapsWith (.Call (.Attribute (.Name x p) "append" apos) [e] [] cpos) none pos.line X.env = pure false := by rfl) :
    SS T W X (.Expr (.Call (.Attribute (.Name x p) "append" apos) [e] [] cpos) pos) (sApp i m) :=
  PS.imp (ps_expr (pe_bm F.plainAttrs_list F.slot_list_append F.type_list_append mt_append (pe_var hN hv hd hcd) (pa_of he hs) hbase hfew hline hs hplain) hsw) fun D' σ H h => app_test ok h
theorem ss_extend (i : Nat) (ok : Ok T X) (he : EE T W X e m) (hN : X.N[i]? = some x := by rfl) (hv : Vis X.env.scope x := by first | exact Or.inl rfl | exact Or.inr (Or.inl rfl) | exact Or.inr (Or.inr rfl))
    (hd : (x == ("__debug__" : Str)) = false := by decide) (hcd : (x == ("__classdict__" : Str)) = false := by decide)
    (hs : starEach [e] X.env = (false, eval e X.env) :: starEach [] X.env := by rfl) (hbase : attributeBase (.Name x p) "extend" X.env (eval (.Name x p) X.env) = eval (.Name x p) X.env := by rfl)
    (hline : (apos.endLine == cpos.line) = true := by rfl)
    (hfew : ((backTo cpos (starEach [e] X.env)).all (fun x => !x.1) && (backToKw cpos (keywordEach [] X.env)).all (fun x => x.1.isSome)
      && decide ([e].length + ([] : List Keyword).length + (if ([] : List Keyword).isEmpty then 0 else 1) < 30)) = true := by rfl)
    (hplain : (backTo cpos (starEach [] X.env)).any (·.1) = false := by rfl)
    (hsw : swapsWith (.Call (.Attribute (.Name x p) "extend" apos) [e] [] cpos) none pos.line X.env = pure false := by rfl) :
    SS T W X (.Expr (.Call (.Attribute (.Name x p) "extend" apos) [e] [] cpos) pos) (sExt i m) :=
  PS.imp (ps_expr (pe_bm F.plainAttrs_list F.slot_list_extend F.type_list_extend mt_extR (pe_var hN hv hd hcd) (pa_of he hs) hbase hfew hline hs hplain) hsw) fun D' σ H h => ext_test ok h
end
end Z
namespace Z
open PySem PySem.Spec PyProof.Rows L2
set_option autoImplicit false
def luS : List Str → List D → Str → Option D
  | k :: ks, d :: ds, x => if k = x then some d else luS ks ds x
  | _, _, _ => none
def ixS : List Str → Str → Option Nat
  | k :: ks, x => if k = x then some 0 else (ixS ks x).map (· + 1)
  | [], _ => none
abbrev kvS (ks : List Str) (ws : List V) : List (Key × V) := (ks.map Sum.inr).zip ws
theorem valV_zip {T : Wd} {ι : List Addr} {bar : Addr → Prop} {H : Hp} : ∀ {ks : List Str} {ds : List D} {ws : List V} {x : Str} {d : D}, RelDs T ι bar H ds ws → luS ks ds x = some d → ∃ v, valV (kvS ks ws) (Sum.inr x) = some v ∧ RelD T ι bar H d v
  | [], ds, ws, x, d, r, e => by simp [luS] at e
  | _ :: _, [], ws, x, d, r, e => by simp [luS] at e
  | k :: ks, y :: ds, ws, x, d, r, e => by
    obtain ⟨v, us, rfl, h1, h2⟩ := r.uncons
    simp only [luS] at e
    split at e
    · rename_i hk
      cases e
      exact ⟨v, valV_pos (r := kvS ks us) (p := (Sum.inr k, v)) (by rw [hk]), h1⟩
    · rename_i hk
      obtain ⟨u, e1, r1⟩ := valV_zip h2 e
      refine ⟨u, ?_, r1⟩
      show valV ((Sum.inr k, v) :: kvS ks us) (Sum.inr x) = some u
      rw [valV_neg (p := ((Sum.inr k : Key), v)) (r := kvS ks us) (k := Sum.inr x) (fun z => hk (by injection z))]; exact e1
theorem putK_zip : ∀ {ks : List Str} {ws : List V} {x : Str} {j : Nat} (v : V), ks.length = ws.length → ks.Nodup → ixS ks x = some j → putK (kvS ks ws) (Sum.inr x) v = kvS ks (ws.set j v) := by
  intro ks ws x j v hl nd e
  have h1 : ∀ {ks : List Str} {ws : List V} {j : Nat}, ks.length = ws.length → ks.Nodup → ixS ks x = some j → ((kvS ks ws).any fun kv => decide (kv.1 = (Sum.inr x : Key))) = true ∧ (kvS ks ws).map (fun kv => if kv.1 = (Sum.inr x : Key) then (kv.1, v) else kv) = kvS ks (ws.set j v) := by
    intro ks
    induction ks with
    | nil => intro ws j _ _ e; simp [ixS] at e
    | cons k ks ih =>
      intro ws j hl nd e
      match ws, hl with
      | w :: ws, hl =>
        obtain ⟨nk, nd⟩ := List.nodup_cons.mp nd
        simp only [ixS] at e
        split at e
        · rename_i hk
          cases e
          subst hk
          constructor
          · show ((Sum.inr k, w) :: kvS ks ws).any _ = true
            simp
          · show ((Sum.inr k, w) :: kvS ks ws).map _ = (Sum.inr k, v) :: kvS ks ws
            rw [List.map_cons, if_pos rfl]
            congr 1
            have : ∀ kv ∈ kvS ks ws, ¬ kv.1 = (Sum.inr k : Key) := fun kv hm z => by
              obtain ⟨a, b⟩ := kv
              have := (List.of_mem_zip hm).1
              rw [List.mem_map] at this
              obtain ⟨c, hc, e⟩ := this
              rw [← e] at z
              injection z with z
              exact nk (z ▸ hc)
            conv => rhs; rw [← List.map_id (kvS ks ws)]
            exact List.map_congr_left fun kv hm => by rw [if_neg (this kv hm)]; rfl
        · rename_i hk
          rw [Option.map_eq_some_iff] at e
          obtain ⟨j', e, rfl⟩ := e
          obtain ⟨a, b⟩ := ih (by simpa using hl) nd e
          constructor
          · show ((Sum.inr k, w) :: kvS ks ws).any _ = true
            rw [List.any_cons, a, Bool.or_true]
          · show ((Sum.inr k, w) :: kvS ks ws).map _ = (Sum.inr k, w) :: kvS ks (ws.set j' v)
            rw [List.map_cons, b, if_neg]
            exact fun z => hk (by injection z)
  obtain ⟨a, b⟩ := h1 hl nd e
  unfold putK
  rw [if_pos a, b]
theorem mergeK_nodup : ∀ (more acc : List (Key × V)), ((acc ++ more).map (·.1)).Nodup → mergeK acc more = acc ++ more
  | [], acc, _ => by simp [mergeK]
  | p :: more, acc, h => by
    have h2 : valV acc p.1 = none := by
      have : ¬ (acc.any fun kv => decide (kv.1 = p.1)) = true := fun z => by
        rw [List.any_eq_true] at z
        obtain ⟨q, hq, e⟩ := z
        have e := of_decide_eq_true e
        rw [List.map_append, List.nodup_append] at h
        exact h.2.2 q.1 (List.mem_map_of_mem hq) p.1 (List.mem_map_of_mem (List.mem_cons_self ..)) e
      rw [valV_any] at this
      cases q : valV acc p.1 with
      | none => rfl
      | some _ => rw [q] at this; exact absurd rfl this
    show mergeK (putK acc p.1 p.2) more = _
    rw [putK_new _ h2, mergeK_nodup more (acc ++ [p]) (by simpa using h)]
    simp
theorem nodup_ix {α : Type} : ∀ {l : List α} {i j : Nat}, l.Nodup → l[i]? = l[j]? → i < l.length → i = j
  | [], i, j, _, _, h => by simp at h
  | x :: l, i, j, nd, e, h => by
    obtain ⟨n1, n2⟩ := List.nodup_cons.mp nd
    cases i with
    | zero =>
      cases j with
      | zero => rfl
      | succ j =>
        simp only [List.getElem?_cons_zero, List.getElem?_cons_succ] at e
        exact absurd (List.mem_of_getElem? e.symm) n1
    | succ i =>
      cases j with
      | zero =>
        simp only [List.getElem?_cons_zero, List.getElem?_cons_succ] at e
        exact absurd (List.mem_of_getElem? e) n1
      | succ j =>
        simp only [List.getElem?_cons_succ] at e
        rw [nodup_ix n2 e (by simpa using h)]
def evPs : List (Str × Ev) → EvL
  | [] => mNil
  | (_, m) :: r => mCons m (evPs r)
def trPs (T : Wd) (W : WX) : List (Str × Ev) → List (TE × TE)
  | [] => []
  | (k, m) :: r => (tC (.str k), tX T W (rD T) m) :: trPs T W r
abbrev EPs (T : Wd) (W : WX) (X : Cx) (pos : Pos) (keys : List (Option Expr)) (values : List Expr) (l : List (Str × Ev)) : Prop := PPs X pos keys values (trPs T W l)
theorem eps_nil {T : Wd} {W : WX} {X : Cx} {pos : Pos} : EPs T W X pos [] [] [] := pps_nil
theorem eps_cons {T : Wd} {W : WX} {X : Cx} {pos p : Pos} {k : Str} {j} {v : Expr} {m : Ev} {ks : List (Option Expr)} {vs : List Expr} {l : List (Str × Ev)} (hv : EE T W X v m) (hr : EPs T W X pos ks vs l) : EPs T W X pos (some (.Constant (.str k) j p) :: ks) (v :: vs) ((k, m) :: l) := pps_cons pe_str hv hr
theorem pairs_test {T : Wd} {W : WX} {σ : L2.St} : ∀ {l : List (Str × Ev)} {H : Hp} {Q : List (V × V) → Hp → Prop}, tX T W (rDs T) (evPs l) σ H (fun vs H1 => vs.length = l.length → Q ((l.map fun p => V.str p.1).zip vs) H1) → tPairs (trPs T W l) σ H Q
  | [], H, Q, ⟨γ, ρ, g, S, p⟩ => p [] γ.ι H .refl S.cells RelDs.nil rfl
  | (k, m) :: l, H, Q, ⟨γ, ρ, g, S, p⟩ => by
    refine ⟨γ, ρ, g, S, Post.bind p fun d g1 _ v ι1 H1 s1 G1 r1 p1 => ?_⟩
    have S1 := S.step s1 G1
    refine pairs_test ⟨_, ρ, g1, S1, Post.bind p1 fun ds g2 _ vs ι2 H2 s2 G2 r2 p2 hl => ?_⟩
    have S2 := S1.step s2 G2
    exact p2.ret0 (g0 := g) S2 (RelDs.cons (r1.keep s2 (Gho.bi _) (Gho.grows s2)) r2) (by rw [List.length_cons, List.length_cons, hl])
def mCellN (l : List (Str × Ev)) : Ev := fun ρ g => match evPs l ρ g with
  | .ok ds g' => .ok (.ref g'.length) (g' ++ [.dk (l.map (·.1)) ds])
  | .exc x g' => .exc x g'
  | .bad => .bad
theorem evPs_len {l : List (Str × Ev)} : ∀ {ρ : Env} {g : G} {ds : List D} {g' : G}, evPs l ρ g = .ok ds g' → ds.length = l.length := by
  induction l with
  | nil => intro ρ g ds g' e; cases e; rfl
  | cons p l ih =>
    intro ρ g ds g' e
    obtain ⟨k, m⟩ := p
    simp only [evPs, mCons] at e
    cases h1 : m ρ g with
    | bad => rw [h1] at e; cases e
    | exc x g1 => rw [h1] at e; cases e
    | ok d g1 =>
      rw [h1] at e
      simp only [Res.bind] at e
      cases h2 : evPs l ρ g1 with
      | bad => rw [h2] at e; cases e
      | exc x g1 => rw [h2] at e; cases e
      | ok es g2 =>
        rw [h2] at e
        cases e
        rw [List.length_cons, List.length_cons, ih h2]
/-- an error stays told when more is known to be free -/
theorem ExcR.fewer {T : Wd} {ι : List Addr} {bar bar' : Addr → Prop} {H : Hp} {x : Xc} {cls : Value} {dx : Option Addr} (hb : ∀ a, bar' a → bar a) (h : ExcR T ι bar H x cls dx) : ExcR T ι bar' H x cls dx := by
  obtain ⟨e, d, ws, e1, r, l, q, n⟩ := h
  exact ⟨e, d, ws, e1, r.fewer hb, l, q, fun z => n (hb _ z)⟩
section
variable {T : Wd} {W : WX} {X : Cx} {pos : Pos} {keys : List (Option Expr)} {values : List Expr} {l : List (Str × Ev)}
theorem ee_cell (h : EPs T W X pos keys values l) (hall : keys.all (·.isSome) = true := by rfl) (hl : keys.length = values.length := by rfl) (h0 : keys ≠ [] := by exact fun z => nomatch z)
    (h15 : keys.length ≤ 15 := by decide) (hk : l.length ≤ 15 := by decide) (nd : (l.map (·.1)).Nodup := by decide) : EE T W X (.Dict keys values pos) (mCellN l) := PE.imp (pe_disp h hall hl h0 h15) fun σ H Q ⟨γ, ρ, g, S, p⟩ => by
  intro P hP
  have nι : P ∉ γ.ι := fun z => S.cells.tracked P z hP
  have S1 := S.lay (o := .dK []) hP
  refine pairs_test ⟨_, ρ, g, S1, ?_⟩
  unfold mCellN at p
  revert p
  cases hm : evPs l ρ g with
  | bad => exact fun p => p
  | exc x g1 => exact fun p cls dx ι' H' s1 G1 r1 => p cls dx ι' H' ((Stp.same (same_lay hP)).trans s1) (G1.fewer add_fw) (r1.fewer add_fw)
  | ok ds g1 =>
    intro p vs ι1 H1 s1 G1 r1 hlen
    have hP1 : H1 P = some (.dK []) := s1.ext P _ upd_same nι
    have so : Soft (.dK []) := fun i => i
    have n1 : P ∉ ι1 := s1.not (by rw [upd_same]; simp) nι
    have s2 : Stp γ.ι ι1 H (era H1 P) := by
      have := s1.era (p := P)
      rw [upd_era hP] at this
      exact this
    have G2 : GR T ι1 (γ.to ι1).bar (era H1 P) g1 := (G1.era (γ.to ι1).add_self hP1 so n1).fewer add_fw
    have S2 := S.step s2 G2
    have ee := evPs_len hm
    have kl : (l.map fun q => V.str q.1).zip vs = (kvS (l.map (·.1)) vs).map (fun kv => (kV kv.1, kv.2)) := by
      have : ∀ (ks : List Str) (vs : List V), (ks.map V.str).zip vs = (kvS ks vs).map (fun kv => (kV kv.1, kv.2)) := by
        intro ks
        induction ks with
        | nil => intro vs; rfl
        | cons k ks ih => intro vs; cases vs with
          | nil => rfl
          | cons v vs => simp [kvS, kV] at ih ⊢; exact ih vs
      have := this (l.map (·.1)) vs
      rw [List.map_map] at this
      exact this
    refine ⟨hP1, kvS (l.map (·.1)) vs, kl, by simp [kvS]; omega, ?_⟩
    have mk : mergeK [] (kvS (l.map (·.1)) vs) = kvS (l.map (·.1)) vs := by
      rw [mergeK_nodup _ [] ?_]; rfl
      have : (kvS (l.map (·.1)) vs).map (·.1) = (l.map (·.1)).map Sum.inr := by
        unfold kvS
        rw [List.map_fst_zip]
        simp [hlen]
      rw [List.nil_append, this]
      exact List.Pairwise.map _ (fun a b (z : a ≠ b) (q : (Sum.inr a : Key) = Sum.inr b) => z (by injection q)) nd
    rw [mk]
    have ue : upd H1 P (.dK (kvS (l.map (·.1)) vs)) = upd (era H1 P) P (.dK (kvS (l.map (·.1)) vs)) := by
      funext a
      by_cases e : a = P
      · subst e; rw [upd_same, upd_same]
      · rw [upd_ne e, upd_ne e, era_ne e]
    rw [ue]
    have nP : era H1 P P = none := era_self
    have st : Stp γ.ι (ι1 ++ [P]) H (upd (era H1 P) P (.dK (kvS (l.map (·.1)) vs))) := by
      have s3 := s2.trans (.same (same_lay (o := .dK (kvS (l.map (·.1)) vs)) nP))
      obtain ⟨m, e, f⟩ := s3.pre
      refine ⟨s3.ext, s3.imm, s3.live, m ++ [P], by rw [e, List.append_assoc], fun a ha => ?_⟩
      rcases List.mem_append.mp ha with h | h
      · exact f a h
      · simp at h; rw [h]; exact hP
    have fw : ∀ a, (γ.to (ι1 ++ [P])).bar a → ((γ.to ι1).add P).bar a := fun a h => by
      rcases h with h | h | h
      · have h : a ∈ ι1 ++ [P] := h
        rcases List.mem_append.mp h with h | h
        · exact add_fw a (.inl h)
        · simp at h; exact Gho.add_bar.mpr (.inr h)
      · exact add_fw a (.inr (.inl h))
      · exact add_fw a (.inr (.inr h))
    have gr : Grows (era H1 P) (γ.to ι1).bar (γ.to (ι1 ++ [P])).bar := fun a h => by
      rcases Gho.add_bar.mp (fw a h) with h | h
      · exact .inl h
      · exact .inr (h ▸ nP)
    have smm : Stp ι1 (ι1 ++ [P]) (era H1 P) (upd (era H1 P) P (.dK (kvS (l.map (·.1)) vs))) := by
      have s3 : Stp ι1 ι1 (era H1 P) (upd (era H1 P) P (.dK (kvS (l.map (·.1)) vs))) := .same (same_lay nP)
      exact ⟨s3.ext, s3.imm, s3.live, [P], rfl, fun a ha => by simp at ha; rw [ha]; exact nP⟩
    refine p (.ref P) (ι1 ++ [P]) _ st ⟨?_, ?_, fun n c e => ?_⟩ ?_
    · rw [List.length_append, List.length_append, G2.len]; rfl
    · rw [List.nodup_append]
      refine ⟨G2.nd, by simp, fun a ha b hb z => ?_⟩
      simp at hb
      exact n1 (hb ▸ z ▸ ha)
    · by_cases hn : n < g1.length
      · rw [List.getElem?_append_left hn] at e
        obtain ⟨a, e1, rc⟩ := G2.at_ n c e
        refine ⟨a, by rw [List.getElem?_append_left (by rw [G2.len]; exact hn)]; exact e1, ?_⟩
        cases c with
        | dk ks vs =>
          obtain ⟨ws, q1, q2, q3⟩ := rc
          exact ⟨ws, q1.keep smm (γ.to ι1).bi gr, q2, by rw [upd_ne (ne_of_none q3 nP)]; exact q3⟩
        | tb q =>
          obtain ⟨eP, ps, q1, q2, q3⟩ := rc
          refine ⟨eP, ps, by rw [upd_ne (ne_of_none q1 nP)]; exact q1, q2, fun pos cv hcv => ?_⟩
          obtain ⟨c2, u1, u2, u3⟩ := q3 pos cv hcv
          exact ⟨c2, u1, by rw [upd_ne (ne_of_none u2 nP)]; exact u2, nbar_keep gr (some_ne u2) u3⟩
        | ls vs =>
          obtain ⟨ws, q1, q3⟩ := rc
          exact ⟨ws, q1.keep smm (γ.to ι1).bi gr, by rw [upd_ne (ne_of_none q3 nP)]; exact q3⟩
        | ob k fs =>
          obtain ⟨ws, q1, dx_, q3⟩ := rc
          exact ⟨ws, q1.keep smm (γ.to ι1).bi gr, dx_, by rw [upd_ne (ne_of_none q3 nP)]; exact q3⟩
      · rw [List.getElem?_append_right (by omega)] at e
        have hz : n - g1.length = 0 := by
          cases q : n - g1.length with
          | zero => rfl
          | succ k => rw [q] at e; simp at e
        rw [hz] at e
        cases e
        refine ⟨P, by rw [List.getElem?_append_right (by rw [G2.len]; omega), G2.len, hz]; rfl, vs, ?_, by rw [List.length_map, ee], upd_same⟩
        exact ((r1.era (γ.to ι1).add_self hP1 so).fewer add_fw).keep smm (γ.to ι1).bi gr
    · simp only [RelD]
      exact ⟨P, by rw [List.getElem?_append_right (by rw [G2.len]; exact Nat.le_refl _), G2.len, Nat.sub_self]; rfl, rfl⟩
def mGetC (o : Ev) (k : Str) : Ev := fun ρ g => match o ρ g with
  | .ok (.ref n) g' => match g'[n]? with
    | some (.dk ks vs) => match luS ks vs k with
      | some d => .ok d g'
      | none => .bad
    | _ => .bad
  | .exc x g' => .exc x g'
  | _ => .bad
theorem RelW.ref {T : Wd} {ι : List Addr} {bar : Addr → Prop} {H : Hp} {n : Nat} {x : V} (h : RelW T ι bar H (.ref n) x) : ∃ a, ι[n]? = some a ∧ x = .ref a := by
  rcases h with h | ⟨a, _, _, h⟩
  · simpa only [RelD] using h
  · exact h.elim
theorem ee_cget {o : Expr} {mo : Ev} {k : Str} {j} {p : Pos} (rm : Rm X) (ho : EW T W X o mo) (hs : NoSl (.Constant (.str k) j p) := by exact fun _ _ => rfl) : EE T W X (.Subscript o (.Constant (.str k) j p) pos) (mGetC mo k) := PE.imp (pe_dget (Nat.lt_of_le_of_lt (Nat.add_le_add_left (by decide) _) rm.hu) ho pe_str hs) fun σ H Q ⟨γ, ρ, g, S, p⟩ => by
  refine ⟨γ, ρ, g, S, ?_⟩
  unfold mGetC at p
  revert p
  cases mo ρ g with
  | bad => exact fun p => p
  | exc x g1 => exact fun p => p
  | ok d g1 =>
    cases d with
    | ref n =>
      dsimp only
      cases hg : g1[n]? with
      | none => exact fun p => p.elim
      | some c =>
        cases c with
        | dk ks vs =>
          dsimp only
          cases hl : luS ks vs k with
          | none => exact fun p => p.elim
          | some d =>
            intro p v ι1 H1 s1 G1 r1
            obtain ⟨a, e1, rfl⟩ := RelW.ref r1
            obtain ⟨b, e2, ws, q1, q2, q3⟩ := G1.at_ n _ hg
            have : b = a := by rw [e1] at e2; cases e2; rfl
            subst this
            obtain ⟨u, e3, r3⟩ := valV_zip q1 hl
            refine ⟨b, u, rfl, ?_, p u ι1 H1 s1 G1 r3⟩
            have := DGet.k (k := Sum.inr k) q3
            rw [e3] at this
            exact this
        | tb q => exact fun p => p.elim
        | ls vs => exact fun p => p.elim
        | ob k fs => exact fun p => p.elim
    | _ => exact fun p => p.elim
def setC (g : G) (n : Nat) (k : Str) (d : D) : Option G := match g[n]? with
  | some (.dk ks vs) => match ixS ks k with
    | some j => if ks.Nodup ∧ ks.length ≤ 1000 then some (g.set n (.dk ks (vs.set j d))) else none
    | none => none
  | _ => none
/-- o[k] = e -/
def sSetC (o : Ev) (k : Str) (m : Ev) : Sm := fun ρ g => match m ρ g with
  | .ok d g1 => match o ρ g1 with
    | .ok (.ref n) g2 => match setC g2 n k d with
      | some g3 => .nx ρ g3
      | none => .bad
    | .exc x g2 => .exc x ρ g2
    | _ => .bad
  | .exc x g1 => .exc x ρ g1
  | .bad => .bad
theorem ss_cset {o e : Expr} {mo me : Ev} {k : Str} {j} {p pos' : Pos} (rm : Rm X) (ho : EW T W X o mo) (he : EE T W X e me) (hs : swapsWith e (some (.Subscript o (.Constant (.str k) j p) pos')) pos.line X.env = pure false := by rfl) :
    SS T W X (.Assign [.Subscript o (.Constant (.str k) j p) pos'] e pos) (sSetC mo k me) := PS.imp (ps_dput (Nat.lt_of_le_of_lt (Nat.add_le_add_left (by decide) _) rm.hu) ho pe_str he hs) fun D' σ H ⟨E0, γ, ρ, g, S, p⟩ => by
  refine ⟨γ, ρ, g, S.st, ?_⟩
  unfold sSetC at p
  revert p
  cases me ρ g with
  | bad => exact fun p => p
  | exc x g1 => exact fun p cls dx ι' H' s1 G1 r1 => p (γ.to ι') σ H' cls dx (S.step s1 G1) r1
  | ok d g1 =>
    intro p v ι1 H1 s1 G1 r1
    have S1 := S.step s1 G1
    refine ⟨_, ρ, g1, S1.st, ?_⟩
    dsimp only at p
    revert p
    cases mo ρ g1 with
    | bad => exact fun p => p
    | exc x g2 => exact fun p cls dx ι' H' s2 G2 r2 => p (γ.to ι') σ H' cls dx (S1.step s2 G2) r2
    | ok f g2 =>
      cases f with
      | ref n =>
        dsimp only
        cases hc : setC g2 n k d with
        | none => exact fun p => p.elim
        | some g3 =>
          intro p x ι2 H2 s2 G2 r2
          have S2 := S1.step s2 G2
          obtain ⟨a, e1, rfl⟩ := RelW.ref r2
          unfold setC at hc
          cases hg : g2[n]? with
          | none => rw [hg] at hc; cases hc
          | some c =>
            cases c with
            | dk ks vs =>
              rw [hg] at hc
              dsimp only at hc
              cases hj : ixS ks k with
              | none => rw [hj] at hc; cases hc
              | some jj =>
                rw [hj] at hc
                dsimp only at hc
                split at hc
                · rename_i hnd
                  cases hc
                  obtain ⟨b, e2, ws, q1, q2, q3⟩ := G2.at_ n _ hg
                  have : b = a := by rw [e1] at e2; cases e2; rfl
                  subst this
                  have hbι : b ∈ ι2 := List.mem_of_getElem? e1
                  have hb : ((γ.to ι1).to ι2).bar b := .inl hbι
                  have so : Soft (.dK (kvS ks ws)) := fun i => i
                  have wl := q1.length
                  refine ⟨b, _, rfl, .inl ⟨_, Sum.inr k, q3, rfl, ?_, rfl⟩, ?_⟩
                  · simp only [kvS, List.length_zip, List.length_map]
                    rw [sizeLine_eq]; omega
                  · rw [putK_zip v (by rw [q2, wl]) hnd.1 hj]
                    have st : Stp ι2 ι2 H2 (upd H2 b (.dK (kvS ks (ws.set jj v)))) := by
                      refine ⟨fun c u h nn => ?_, fun c u h im => ?_, fun c u h => ?_, [], by simp, by simp⟩
                      · rw [upd_ne fun z => nn (by rw [z]; exact hbι)]; exact h
                      · rw [upd_ne fun z => ?_]; exact h
                        subst z; rw [q3] at h; cases h; exact so im
                      · by_cases z : c = b
                        · rw [z]; exact ⟨_, upd_same⟩
                        · exact ⟨u, by rw [upd_ne z]; exact h⟩
                    refine p _ σ _ (S2.step (ι' := ι2) (g' := g2.set n (.dk ks (vs.set jj d))) st ⟨by rw [List.length_set]; exact G2.len, G2.nd, fun m c e => ?_⟩)
                    have rv := (r1.keep s2 (γ.to ι1).bi (Gho.grows s2))
                    by_cases z : n = m
                    · subst z
                      have hl : n < g2.length := (List.getElem?_eq_some_iff.mp hg).1
                      rw [List.getElem?_set_self hl] at e
                      cases e
                      exact ⟨b, e1, ws.set jj v, RelDs.set (rv.turn ((γ.to ι1).to ι2).bi hb q3 so) jj (q1.turn ((γ.to ι1).to ι2).bi hb q3 so), by rw [List.length_set]; exact q2, upd_same⟩
                    · rw [List.getElem?_set_ne z] at e
                      obtain ⟨c', e4, rc⟩ := G2.at_ m c e
                      have nc : c' ≠ b := fun q => z (by
                        have h1 := List.getElem?_eq_some_iff.mp e1
                        have h2 := List.getElem?_eq_some_iff.mp e4
                        obtain ⟨l1, h1⟩ := h1
                        obtain ⟨l2, h2⟩ := h2
                        exact nodup_ix G2.nd (by rw [List.getElem?_eq_getElem l1, List.getElem?_eq_getElem l2, h1, h2, q]) l1)
                      refine ⟨c', e4, ?_⟩
                      cases c with
                      | dk ks2 vs2 =>
                        obtain ⟨ws2, t1, t2, t3⟩ := rc
                        exact ⟨ws2, t1.turn ((γ.to ι1).to ι2).bi hb q3 so, t2, by rw [upd_ne nc]; exact t3⟩
                      | tb q =>
                        obtain ⟨eP, ps, t1, t2, t3⟩ := rc
                        refine ⟨eP, ps, by rw [upd_ne nc]; exact t1, t2, fun pos cv hcv => ?_⟩
                        obtain ⟨c2, u1, u2, u3⟩ := t3 pos cv hcv
                        exact ⟨c2, u1, by rw [upd_ne fun z => u3 (by rw [z]; exact hb)]; exact u2, u3⟩
                      | ls vs2 =>
                        obtain ⟨ws2, t1, t3⟩ := rc
                        exact ⟨ws2, t1.turn ((γ.to ι1).to ι2).bi hb q3 so, by rw [upd_ne nc]; exact t3⟩
                      | ob k fs =>
                        obtain ⟨ws2, t1, dx_, t3⟩ := rc
                        exact ⟨ws2, t1.turn ((γ.to ι1).to ι2).bi hb q3 so, dx_, by rw [upd_ne nc]; exact t3⟩
                · cases hc
            | tb q => rw [hg] at hc; cases hc
            | ls vs => rw [hg] at hc; cases hc
            | ob k fs => rw [hg] at hc; cases hc
      | _ => exact fun p => p.elim
end
end Z
namespace Z
open PySem PySem.Spec PyProof.Rows L2
set_option autoImplicit false
abbrev Den := List D → G → Res D
/-- the promise -/
def spD (T : Wd) (den : Den) (vs : List V) (H : Hp) (Q : VK) (E : XK) : Prop :=
  ∃ (γ : Gho) (ds : List D) (g : G), GR T γ.ι γ.bar H g ∧ (∀ i, γ.oa i = none) ∧ (∀ a, γ.av a → H a ≠ none) ∧ RelDs T γ.ι γ.bar H ds vs ∧ Post T γ H [] (fun cls dx _ H' => E cls dx H') (rD T) Q (den ds g)
/-- a def at f does what den says: k levels of room -/
structure FnG (T : Wd) (mg : Str → Option Value) (base : Heap) (k : Nat) (f : Addr) (fd : FuncData) (ps : List Str) (den : Den) : Prop where
  run : ∀ (A : Around) (outer : List PySem.Env) (s : Shared) (H : Hp) (args : Args) (us : List Value) (vs : List V) (Q : VK) (E : XK), Room k A → A.guards = some [] → Env0 T.P T.w T.K mg base A outer s H → BindsTo s fd args (ps.zip us) → Vals vs us → vs.length = ps.length → spD T den vs H Q E →
    codeAny (model T.P T.w) A (.call (.ref f) args) (CR (L2.CX T.P T.w) outer T.P T.w H s Q E) s
theorem FnG.mono {T : Wd} {mg : Str → Option Value} {base : Heap} {j k : Nat} {f : Addr} {fd : FuncData} {ps : List Str} {den : Den} (F : FnG T mg base j f fd ps den) (h : j ≤ k) : FnG T mg base k f fd ps den :=
  ⟨fun A outer s H args us vs Q E hr => F.run A outer s H args us vs Q E (hr.mono h)⟩
/-- the slots at the entry -/
def entE (n : Nat) (ds : List D) : Z.Env := ds.map Sl.val ++ List.replicate (n - ds.length) .no
def denOf (n : Nat) (m : Sm) : Den := fun ds g => match m (entE n ds) g with
  | .rt d g' => .ok d g'
  | .nx _ g' => .ok .non g'
  | .exc x _ g' => .exc x g'
  | _ => .bad
section
variable {T : Wd} {mg : Str → Option Value} {base : Heap} {k : Nat} {f : Addr} {x qual : Str} {params : Arguments} {body : List Stmt} {scope : Scope} {dvs : List V} {kws : List (Str × V)} {fd : FuncData} {N ps : List Str}
theorem ent_str {γ : Gho} {H : Hp} {g : G} {ds : List D} {vs : List V} (GG : GR T γ.ι γ.bar H g) (ho : ∀ i, γ.oa i = none) (hv : ∀ a, γ.av a → H a ≠ none) (r : RelDs T γ.ι γ.bar H ds vs) (n : Nat) : StR T γ H (entE n ds) (L2.start (List.replicate n "") vs) g := by
  have hl := r.length
  refine ⟨by simp [entE, L2.start, hl], fun i d e => ?_, fun i d e => ?_, fun i a e => ?_, fun i j a e => ?_, fun i a e => ?_, hv, GG, fun i k e => ?_⟩
  · have hi : i < ds.length := by
      by_cases hi : i < ds.length
      · exact hi
      · unfold entE at e
        rw [List.getElem?_append_right (by simpa using hi), List.getElem?_replicate] at e
        split at e <;> cases e
    unfold entE at e
    rw [List.getElem?_append_left (by simpa using hi), List.getElem?_map] at e
    cases q : ds[i]? with
    | none => rw [q] at e; cases e
    | some d' =>
      rw [q] at e; cases e
      obtain ⟨v, e1, r1⟩ := r.get q
      refine ⟨v, ?_, r1⟩
      unfold L2.start
      rw [List.getElem?_append_left (by rw [List.length_map, hl]; exact hi), List.getElem?_map, e1]; rfl
  · exfalso
    unfold entE at e
    by_cases hi : i < ds.length
    · rw [List.getElem?_append_left (by simpa using hi), List.getElem?_map] at e
      cases q : ds[i]? with
      | none => rw [q] at e; cases e
      | some d' => rw [q] at e; cases e
    · rw [List.getElem?_append_right (by simpa using hi), List.getElem?_replicate] at e
      split at e <;> cases e
  · rw [ho] at e; cases e
  · rw [ho] at e; cases e
  · rw [ho] at e; cases e
  · exfalso
    unfold entE at e
    by_cases hi : i < ds.length
    · rw [List.getElem?_append_left (by simpa using hi), List.getElem?_map] at e
      cases q : ds[i]? with
      | none => rw [q] at e; cases e
      | some d' => rw [q] at e; cases e
    · rw [List.getElem?_append_right (by simpa using hi), List.getElem?_replicate] at e
      split at e <;> cases e
theorem start_len {N : List Str} {vs : List V} : L2.start N vs = L2.start (List.replicate N.length "") vs := by simp [L2.start]
/-- what is known of a def's context -/
structure DefX (T : Wd) (mg : Str → Option Value) (base : Heap) (k : Nat) (X : Cx) (W : WX) : Prop where
  ok : Ok T X
  rm : Rm X
  room : Room k X.A
  mg : X.mg = mg
  base : X.base = base
  tk : Takes X W
  calm : X.calm = true
theorem DefX.blk {X : Cx} {W : WX} (d : DefX T mg base k X W) {s : Shared} {H : Hp} {sc : Scope} {ce : PySem.Env} {fp : List Addr} : DefX T mg base k (X.blk s H sc ce fp) W0 := by
  refine ⟨⟨d.ok.P, d.ok.w, d.ok.K⟩, ⟨d.rm.hu, d.rm.hg⟩, d.room, d.mg, d.base, fun _ _ x => ?_, d.calm⟩
  obtain ⟨_, _, _, _, _, _, _, _, _, _, _, _, _, _, _, _, z⟩ := x
  exact z.elim
theorem fn_denC (F : FunD T.K x qual params body scope dvs kws f fd) (S : FnScope N ps scope) {m : Sm}
    (hbody : ∀ (cdv : Value), (∃ oc od osl, T.K.lookup f = some ⟨oc, od, .func fd, osl⟩ ∧ fd.code = cdv ∧ PySem.W.codeIn T.K cdv qual = true) → ∀ (A : Around) (outer : List PySem.Env) (s : Shared) (H : Hp) (E : XK), DefX T mg base k (cxOf (L2.CX T.P T.w) T.P T.w T.K mg base N qual scope f cdv A outer s H E) (fun cls dx _ H' => E cls dx H') →
      PassesOwn (model T.P T.w) (A.deeper (envOfC qual scope s.heap.objs.size f cdv)) (envOfC qual scope s.heap.objs.size f cdv) (cxOf (L2.CX T.P T.w) T.P T.w T.K mg base N qual scope f cdv A outer s H E).xe → SB T (fun cls dx _ H' => E cls dx H') (cxOf (L2.CX T.P T.w) T.P T.w T.K mg base N qual scope f cdv A outer s H E) body m) : FnG T mg base (k + 1) f fd ps (denOf N.length m) := by
  obtain ⟨oc, od, dV, kV, doc, pm, an, cdv, ct, osl, hfd, lk, hcd, _, _⟩ := F.ex
  refine ⟨fun A outer s H args us vs Q E hr hg e0 hb r hl hsp => ?_⟩
  have hcc : ∃ oc od osl, T.K.lookup f = some ⟨oc, od, .func fd, osl⟩ ∧ fd.code = cdv ∧ PySem.W.codeIn T.K cdv qual = true := ⟨_, _, _, lk, by rw [hfd] <;> rfl, hcd⟩
  subst hfd
  have inK : T.K.In s.heap := e0.mod.kin.keeps fun b o q => (e0.bs b o q).1
  have noL : s.heap.NoLimit := e0.mod.nolimit.keeps fun b o q => (e0.bs b o q).1
  have kinds : ∀ y ∈ ps.zip us, scope.names.lookup y.1 = some .local ∨ (scope.names.lookup y.1 = some .cell ∧ ((cellsFrom (s.heap.objs.size + 1) scope.names []).lookup y.1).isSome = true) := by
    rintro ⟨n, v⟩ hy
    rcases S.par n (List.of_mem_zip hy).1 with q | q
    · left; exact q
    · right; exact ⟨q, PySem.W.cellsFrom_some _ _ _ (.inl q)⟩
  refine codeAny_call_function hr.depth (inK _ _ lk) rfl S.co S.gen rfl (PySem.W.codeRec_of inK hcd) (hb _ _ _ _ ?_)
  refine wpAny_newFunctionEnv_cells S.kind kinds fun env he s1 x1 => ?_
  subst he
  refine ⟨noL.keeps x1.toInCall.keep, codeAny_func ?_⟩
  have R2 := hr.deeper (envOfC qual scope s.heap.objs.size f cdv)
  have hX : DefX T mg base k (cxOf (L2.CX T.P T.w) T.P T.w T.K mg base N qual scope f cdv A outer s H E) (fun cls dx _ H' => E cls dx H') := by
    refine ⟨⟨rfl, rfl, rfl⟩, ⟨?_, hg⟩, R2, rfl, rfl, takes_of rfl rfl rfl rfl, rfl⟩
    have := R2.un
    show (A.deeper (envOfC qual scope s.heap.objs.size f cdv)).units + 120 < cLine
    omega
  have I := inv_start (CX := L2.CX T.P T.w) (E := E) (qual := qual) (f := f) (cd := cdv) S hr.hd e0 hl r x1
  obtain ⟨γ, ds, g, GG, ho, hv, rs, p⟩ := hsp
  have St := ent_str GG ho hv rs N.length
  rw [← start_len] at St
  have ends : ∀ {σ' : L2.St} {H' : Hp} {v : V} {u : Value} {s' : Shared}, Inv (cxOf (L2.CX T.P T.w) T.P T.w T.K mg base N qual scope f cdv A outer s H E) [] σ' H' s' → RelV v u → Q v H' → CE outer T.P T.w H s Q u s' := fun {σ' H' v u s'} J rv q => ⟨v, H', J.os, J.bare, J.base, J.hok, rv, q⟩
  refine wpAny_mono ((hbody cdv hcc A outer s H E hX (passes_of rfl)).run [] s1 (L2.start N vs) H { nx := fun _ H' => Q .non H', rt := Q, bk := fun _ _ => False, ct := fun _ _ => False } I ⟨⟨γ.ι, H, γ.av, [], []⟩, γ, entE N.length ds, g, ⟨St, .refl, rfl, fun i a q => (by rw [ho] at q; cases q), .nil⟩, ?_⟩) (fun fl s' hs => ?_) fun e s' hs => hs
  · unfold denOf at p
    revert p
    have drp : ∀ {γ' : Gho} {a : Addr}, (γ.to γ'.ι).bar a → γ'.av = γ.av → γ'.bar a := by
      rintro γ' a (q | ⟨i, q⟩ | q) e
      · exact .inl q
      · rw [ho] at q; cases q
      · exact .inr (.inr (e ▸ q))
    cases m (entE N.length ds) g with
    | nx ρ' g' =>
      intro p γ' σ' H' S'
      exact p .non γ'.ι H' S'.ent (S'.st.cells.fewer fun a q => drp q S'.fav) RelD.ofNon
    | rt d g' =>
      intro p v γ' H' fa ow st G' r'
      exact p v γ'.ι H' st (G'.fewer fun a q => drp q fa) (r'.fewer fun a q => drp q fa)
    | bk ρ' g' => exact fun p => p.elim
    | ct ρ' g' => exact fun p => p.elim
    | exc xc ρ' g' =>
      intro p γ' σ' H' cls dx S' r'
      exact p cls dx γ'.ι H' S'.ent (S'.st.cells.fewer fun a q => drp q S'.fav) (r'.fewer fun a q => drp q S'.fav)
    | bad => exact fun p => p
  · cases fl with
    | ret u =>
      obtain ⟨v, σ', H', J, rv, q⟩ := hs
      exact ends J rv q
    | next =>
      obtain ⟨σ', H', J, q⟩ := hs
      exact ends (v := V.non) (u := Value.none) J rfl q
    | brk =>
      obtain ⟨_, _, _, q⟩ := hs
      exact q.elim
    | cont =>
      obtain ⟨_, _, _, q⟩ := hs
      exact q.elim
theorem fn_den (F : FunD T.K x qual params body scope dvs kws f fd) (S : FnScope N ps scope) {m : Sm}
    (hbody : ∀ (cdv : Value) (A : Around) (outer : List PySem.Env) (s : Shared) (H : Hp) (E : XK), DefX T mg base k (cxOf (L2.CX T.P T.w) T.P T.w T.K mg base N qual scope f cdv A outer s H E) (fun cls dx _ H' => E cls dx H') →
      PassesOwn (model T.P T.w) (A.deeper (envOfC qual scope s.heap.objs.size f cdv)) (envOfC qual scope s.heap.objs.size f cdv) (cxOf (L2.CX T.P T.w) T.P T.w T.K mg base N qual scope f cdv A outer s H E).xe → SB T (fun cls dx _ H' => E cls dx H') (cxOf (L2.CX T.P T.w) T.P T.w T.K mg base N qual scope f cdv A outer s H E) body m) : FnG T mg base (k + 1) f fd ps (denOf N.length m) := fn_denC F S fun cdv _ => hbody cdv
end
/-- the callee's view of the caller's ghost -/
def Gho.out (γ : Gho) : Gho := { ι := γ.ι, oa := fun _ => none, av := fun a => γ.av a ∨ ∃ i, γ.oa i = some a }
theorem Gho.out_bar {γ : Gho} {a : Addr} : γ.out.bar a ↔ γ.bar a := by
  constructor
  · rintro (h | ⟨i, h⟩ | h | ⟨i, h⟩)
    · exact .inl h
    · cases h
    · exact .inr (.inr h)
    · exact .inr (.inl ⟨i, h⟩)
  · rintro (h | ⟨i, h⟩ | h)
    · exact .inl h
    · exact .inr (.inr (.inr ⟨i, h⟩))
    · exact .inr (.inr (.inl h))
theorem out_to {γ : Gho} {ι' : List Addr} {a : Addr} : (γ.out.to ι').bar a ↔ (γ.to ι').bar a := Gho.out_bar (γ := γ.to ι')
theorem spD_of {T : Wd} {W : WX} {den : Den} {γ : Gho} {H : Hp} {ρ : Env} {σ : L2.St} {g : G} {ds : List D} {vs : List V} {Q : VK} (S : StR T γ H ρ σ g) (r : RelDs T γ.ι γ.bar H ds vs) (p : Post T γ H σ W (rD T) Q (den ds g)) : spD T den vs H Q (WE W σ) := by
  refine ⟨γ.out, ds, g, S.cells.fewer fun a h => Gho.out_bar.mp h, fun _ => rfl, fun a h => S.bart a (Gho.out_bar.mp (.inr (.inr h))), r.fewer fun a h => Gho.out_bar.mp h, ?_⟩
  revert p
  cases den ds g with
  | bad => exact fun p => p
  | exc x g' => exact fun p cls dx ι' H' s1 G1 r1 => p cls dx ι' H' s1 (G1.fewer fun a h => out_to.mpr h) (r1.fewer fun a h => out_to.mpr h)
  | ok d g' => exact fun p v ι' H' s1 G1 r1 => p v ι' H' s1 (G1.fewer fun a h => out_to.mpr h) (r1.fewer fun a h => out_to.mpr h)
/-- what a function name stands for -/
structure FnN (T : Wd) (mg : Str → Option Value) (base : Heap) (k : Nat) (x : Str) (ps : List Str) (f : Addr) (fd : FuncData) (den : Den) : Prop where
  fn : FnG T mg base k f fd ps den
  gl : mg x = some (.ref f)
  kp : PySem.W.keepIn T.K (.ref f) = true
section
variable {T : Wd} {W : WX} {X : Cx} {mg : Str → Option Value} {base : Heap} {k : Nat} {x : Str} {ps : List Str} {f : Addr} {fd : FuncData} {den : Den} {p pos : Pos} {e : Expr} {es : List Expr} {m mk : EvL}
theorem run_fnG {pins : List (Addr × Obj)} {σ : L2.St} {H : Hp} {s : Shared} {Q : VK} {us : List Value} {vs : List V} {args : Args} (F : FnN T mg base k x ps f fd den) (dx : DefX T mg base k X W) (hb : BindsTo s fd args (ps.zip us)) (I : Inv X pins σ H s) (r : Vals vs us) (hl : vs.length = ps.length) (h : spD T den vs H Q (WE W σ)) :
    codeAny (model X.prog X.w) X.A (.call (.ref f) args) (fun r s' => match r with
      | .ok (.ret u) => EP X pins σ Q u s'
      | .ok _ => False
      | .error e => X.xe e s') s := by
  have e0 := I.env0
  have key : codeAny (model T.P T.w) X.A (.call (.ref f) args) (CR (L2.CX T.P T.w) X.stack T.P T.w H s Q (WE W σ)) s := by
    refine F.fn.run X.A X.stack s H args us vs Q _ dx.room dx.rm.hg ?_ hb r hl h
    rw [← dx.ok.P, ← dx.ok.w, ← dx.ok.K, ← dx.mg, ← dx.base]
    exact e0
  rw [← dx.ok.P, ← dx.ok.w] at key
  refine codeAny_mono key fun r s' hq => ?_
  cases r with
  | error er => exact passAt dx.tk σ pins H s er s' I hq
  | ok fl =>
    cases fl with
    | ret u => exact I.after hq
    | next => exact hq
    | brk => exact hq
    | cont => exact hq
/-- how a call binds: the written values, the keywords' values; the parameters' values -/
structure Bd (K : PySem.W.Frag) (fd : FuncData) (ps : List Str) (n : Nat) (ks : List Str) (gV : List V → List V → List V) (gD : List D → List D → List D) : Prop where
  to : ∀ (s : Shared) (us ws : List Value) (vs zs : List V), K.In s.heap → us.length = n → ws.length = ks.length → Vals vs us → Vals zs ws → ∃ xs, BindsTo s fd ⟨us, ks.zip ws⟩ (ps.zip xs) ∧ Vals (gV vs zs) xs ∧ (gV vs zs).length = ps.length
  rel : ∀ {T : Wd} {ι : List Addr} {bar : Addr → Prop} {H : Hp} {ds es : List D} {vs zs : List V}, ds.length = n → es.length = ks.length → RelDs T ι bar H ds vs → RelDs T ι bar H es zs → RelDs T ι bar H (gD ds es) (gV vs zs)
def mCallB (den : Den) (n : Nat) (q : Nat) (gD : List D → List D → List D) (m mk : EvL) : Ev := fun ρ g => (m ρ g).bind fun ds g1 => (mk ρ g1).bind fun es g2 => if ds.length = n ∧ es.length = q then den (gD ds es) g2 else .bad
/-- the test behind the arguments -/
theorem call_post {γ : Gho} {H : Hp} {ρ : Env} {σ : L2.St} {g : G} {n : Nat} {ks : List Str} {gV : List V → List V → List V} {gD : List D → List D → List D} {ds es : List D} {vs zs : List V} {Q : VK} {pins : List (Addr × Obj)} {s : Shared} {us ws : List Value} (F : FnN T mg base k x ps f fd den) (dx : DefX T mg base k X W) (B : Bd T.K fd ps n ks gV gD)
    (I : Inv X pins σ H s) (ru : Vals vs us) (rw_ : Vals zs ws) (S : StR T γ H ρ σ g) (r1 : RelDs T γ.ι γ.bar H ds vs) (r2 : RelDs T γ.ι γ.bar H es zs) (p : Post T γ H σ W (rD T) Q (if ds.length = n ∧ es.length = ks.length then den (gD ds es) g else .bad)) : wpAny (model X.prog X.w) X.A (call (.ref f) us (ks.zip ws)) (EP X pins σ Q) X.xe s := by
  by_cases hl : ds.length = n ∧ es.length = ks.length
  · rw [if_pos hl] at p
    have inK : T.K.In s.heap := by rw [← dx.ok.K]; exact I.kIn
    have l1 : us.length = n := by rw [← ru.length, r1.length, hl.1]
    have l2 : ws.length = ks.length := by rw [← rw_.length, r2.length, hl.2]
    obtain ⟨xs, hb, rx, lx⟩ := B.to s us ws vs zs inK l1 l2 ru rw_
    refine wpAny_call (codeAny_mono (run_fnG F dx hb I rx lx (spD_of S (B.rel hl.1 hl.2 r1 r2) p)) fun r s' hq => ?_)
    cases r with
    | error er => exact hq
    | ok fl =>
      cases fl with
      | ret u => exact hq
      | next => exact hq
      | brk => exact hq
      | cont => exact hq
  · rw [if_neg hl] at p; exact p.elim
theorem ee_call {n : Nat} {gV : List V → List V → List V} {gD : List D → List D → List D} (F : FnN T mg base k x ps f fd den) (dx : DefX T mg base k X W) (B : Bd T.K fd ps n [] gV gD) (hg : Gl X x) (ha : EAs T W X (e :: es) m) (hdb : (x == ("__debug__" : Str)) = false := by decide)
    (he : starEach (e :: es) X.env = (false, eval e X.env) :: starEach es X.env := by rfl) (hpl : (backTo pos (starEach es X.env)).any (·.1) = false := by rfl) : EE T W X (.Call (.Name x p) (e :: es) [] pos) (mCallB den n 0 gD m mNil) := by
  refine ⟨fun pins s σ H Q I h => ?_⟩
  obtain ⟨γ, ρ, g, S, q⟩ := h
  have hk : PySem.W.keepIn X.K (.ref f) = true := by rw [dx.ok.K]; exact F.kp
  refine wpAny_Call_Name_kw (ld_glob I hg (by rw [dx.mg]; exact F.gl) ?_ hdb)
  refine PySem.W.callWith_K (h₀ := X.base) I.ok.mod.kin hk (thn (ha.run pos pins s σ H (fun vs H1 => ∃ γ1 g1 ds, StR T γ1 H1 ρ σ g1 ∧ RelDs T γ1.ι γ1.bar H1 ds vs ∧ Post T γ1 H1 σ W (rD T) Q (if ds.length = n ∧ ([] : List D).length = ([] : List Str).length then den (gD ds []) g1 else .bad)) I ⟨γ, ρ, g, S, q.bind fun ds g1 _ v ι1 H1 s1 G1 r1 p1 => ⟨γ.to ι1, g1, ds, S.step s1 G1, r1, p1⟩⟩) fun us s1 ⟨vs, H1, I1, r, γ1, g1, ds, S1, r1, p1⟩ => ⟨I1.kIn, ?_⟩) he hpl
  exact call_post F dx B I1 r .nil S1 r1 .nil p1
end
end Z
namespace Z
open PySem PySem.Spec PyProof.Rows L2
set_option autoImplicit false
/-- the parameters' values, by their places among: the written ones, the keywords', the defaults -/
def pkV {α : Type} (z : α) (pl : List Nat) (xs : List α) : List α := pl.map fun i => xs.getD i z
theorem pk_vals {pl : List Nat} {vs : List V} {us : List Value} (r : Vals vs us) (h : ∀ i ∈ pl, i < vs.length) : Vals (pkV V.non pl vs) (pkV Value.none pl us) := by
  induction pl with
  | nil => exact .nil
  | cons i pl ih =>
    have hi := h i (List.mem_cons_self ..)
    obtain ⟨u, e, ru⟩ := r.get (List.getElem?_eq_getElem hi)
    refine .cons ?_ (ih fun j hj => h j (List.mem_cons_of_mem _ hj))
    dsimp only
    rw [List.getD_eq_getElem?_getD, List.getD_eq_getElem?_getD, e, List.getElem?_eq_getElem hi]
    exact ru
theorem pk_rel {T : Wd} {ι : List Addr} {bar : Addr → Prop} {H : Hp} {pl : List Nat} {ds : List D} {vs : List V} (r : RelDs T ι bar H ds vs) (h : ∀ i ∈ pl, i < ds.length) : RelDs T ι bar H (pkV D.non pl ds) (pkV V.non pl vs) := by
  induction pl with
  | nil => exact .nil
  | cons i pl ih =>
    have hi := h i (List.mem_cons_self ..)
    obtain ⟨u, e, ru⟩ := r.get (List.getElem?_eq_getElem hi)
    refine .cons ?_ (ih fun j hj => h j (List.mem_cons_of_mem _ hj))
    dsimp only
    rw [List.getD_eq_getElem?_getD, List.getD_eq_getElem?_getD, e, List.getElem?_eq_getElem hi]
    exact ru
/-- plain defaults -/
def scV : D → Option V
  | .non => some .non
  | .bl b => some (.bl b)
  | .int i => some (.int i)
  | .str x => some (.str x)
  | _ => none
def scVs : List D → Option (List V)
  | [] => some []
  | d :: ds => match scV d, scVs ds with
    | some v, some vs => some (v :: vs)
    | _, _ => none
theorem scVs_rel {T : Wd} {ι : List Addr} {bar : Addr → Prop} {H : Hp} : ∀ {ds : List D} {vs : List V}, scVs ds = some vs → RelDs T ι bar H ds vs
  | [], vs, e => by cases e; exact .nil
  | d :: ds, vs, e => by
    simp only [scVs] at e
    split at e
    · rename_i v us h1 h2
      cases e
      refine .cons ?_ (scVs_rel h2)
      cases d <;> simp only [scV] at h1 <;> cases h1 <;> simp [RelD]
    · cases e
section
variable {K : PySem.W.Frag} {x qual : Str} {params : Arguments} {body : List Stmt} {scope : Scope} {f : Addr} {fd : FuncData} {ps : List Str} {dvs : List V}
/-- no default is used up -/
theorem bd_plain (F : FunD K x qual params body scope [] [] f fd) (n : Nat) (ks : List Str) (pl : List Nat) (hp : (pl.all fun i => decide (i < n + ks.length)) = true) (hl : pl.length = ps.length)
    (h : ∀ (kV doc pm : Value) (an : Option Addr) (cdv ct : Value) (us ws : List Value), us.length = n → ws.length = ks.length → bindArgs (PySem.W.fnOf x qual params body scope .none kV doc pm an cdv ct) ⟨us, ks.zip ws⟩ = pure (ps.zip (pkV Value.none pl (us ++ ws)))) :
    Bd K fd ps n ks (fun vs zs => pkV V.non pl (vs ++ zs)) (fun ds es => pkV D.non pl (ds ++ es)) := by
  have hp' : ∀ i ∈ pl, i < n + ks.length := fun i hi => of_decide_eq_true (List.all_eq_true.mp hp i hi)
  refine ⟨fun s us ws vs zs inK l1 l2 r1 r2 => ?_, fun {T ι bar H ds es vs zs} l1 l2 r1 r2 => ?_⟩
  · obtain ⟨oc, od, dV, kV, doc, pm, an, cdv, ct, osl, rfl, lk, hcd, hD, hK⟩ := F.ex
    have rr := r1.append r2
    have ll : (vs ++ zs).length = n + ks.length := by rw [rr.length, List.length_append, l1, l2]
    rcases hD with ⟨_, rfl⟩ | ⟨e, _⟩
    · exact ⟨_, .of_eq (h kV doc pm an cdv ct us ws l1 l2), pk_vals rr fun i hi => by rw [ll]; exact hp' i hi, by simp [pkV, hl]⟩
    · exact absurd rfl e
  · exact pk_rel (r1.append r2) fun i hi => by rw [List.length_append, l1, l2]; exact hp' i hi
theorem bd_dfl (F : FunD K x qual params body scope dvs [] f fd) (dD : List D) (hd : scVs dD = some dvs) (hne : dvs ≠ []) (n : Nat) (ks : List Str) (pl : List Nat) (hp : (pl.all fun i => decide (i < n + ks.length + dvs.length)) = true) (hl : pl.length = ps.length)
    (h : ∀ (A : Addr) (kV doc pm : Value) (an : Option Addr) (cdv ct : Value) (us ws its : List Value), us.length = n → ws.length = ks.length → its.length = dvs.length →
      ∃ k, bindArgs (PySem.W.fnOf x qual params body scope (.ref A) kV doc pm an cdv ct) ⟨us, ks.zip ws⟩ = seqItems? (.ref A) >>= k ∧ k (some its.toArray) = pure (ps.zip (pkV Value.none pl (us ++ ws ++ its)))) :
    Bd K fd ps n ks (fun vs zs => pkV V.non pl (vs ++ zs ++ dvs)) (fun ds es => pkV D.non pl (ds ++ es ++ dD)) := by
  have hp' : ∀ i ∈ pl, i < n + ks.length + dvs.length := fun i hi => of_decide_eq_true (List.all_eq_true.mp hp i hi)
  refine ⟨fun s us ws vs zs inK l1 l2 r1 r2 => ?_, fun {T ι bar H ds es vs zs} l1 l2 r1 r2 => ?_⟩
  · obtain ⟨oc, od, dV, kV, doc, pm, an, cdv, ct, osl, rfl, lk, hcd, hD, hK⟩ := F.ex
    rcases hD with ⟨e, _⟩ | ⟨_, A, o, its, m, rfl, lT, oT, rT⟩
    · exact absurd e hne
    · have rr := (r1.append r2).append rT
      have li := rT.length
      have ll : (vs ++ zs ++ dvs).length = n + ks.length + dvs.length := by rw [rr.length, List.length_append, List.length_append, l1, l2, li]
      obtain ⟨k, e1, e2⟩ := h A kV doc pm an cdv ct us ws its l1 l2 li.symm
      refine ⟨_, BindsTo.of_looks fun M => ?_, pk_vals rr fun i hi => by rw [ll]; exact hp' i hi, by simp [pkV, hl]⟩
      rw [e1]
      exact looks_items inK lT oT (.of_pure e2)
  · have rs := (r1.append r2).append (scVs_rel (T := T) (ι := ι) (bar := bar) (H := H) hd)
    exact pk_rel rs fun i hi => by
      have := rs.length
      rw [List.length_append, List.length_append] at this
      rw [List.length_append, List.length_append, l1, l2]
      have hz := (scVs_rel (T := T) (ι := ι) (bar := bar) (H := H) hd).length
      rw [← hz]; exact hp' i hi
end
theorem RelV_true {v : V} {u : Value} (h : v = .bl true) (r : RelV v u) : u = Value.bool true := by subst h; exact r
end Z
namespace Z
open PySem PySem.Spec PyProof.Rows L2
set_option autoImplicit false
def sBad : Sm := fun _ _ => .bad
abbrev EvO := Env → G → Res (Option Int)
abbrev rO : Rel (Option Int) (Option Int) := fun _ _ _ a b => b = a
abbrev EO (T : Wd) (W : WX) (X : Cx) (e : Option Expr) (m : EvO) : Prop := PO X e (fun σ H Q => ∃ γ ρ g, StR T γ H ρ σ g ∧ Post T γ H σ W rO Q (m ρ g))
def oNo : EvO := fun _ g => .ok none g
def oIs (m : Ev) : EvO := fun ρ g => (m ρ g).bind fun d g1 => match d with
  | .int i => .ok (some i) g1
  | _ => .bad
def mSl (a : Ev) (lo hi : EvO) : Ev := fun ρ g => (a ρ g).bind fun d g1 => (lo ρ g1).bind fun l g2 => (hi ρ g2).bind fun u g3 => ret (slO d l u) g3
theorem PO.imp {X : Cx} {e : Option Expr} {t t' : TO} (h : PO X e t) (i : ∀ σ H Q, t' σ H Q → t σ H Q) : PO X e t' := ⟨fun pins s σ H Q I q => h.run pins s σ H Q I (i σ H Q q)⟩
section
variable {T : Wd} {W : WX} {X : Cx} {a e : Expr} {ma m : Ev} {lo hi : Option Expr} {ml mh : EvO} {pos p2 : Pos}
theorem eo_no : EO T W X none oNo := PO.imp po_none fun σ H Q ⟨γ, ρ, g, S, p⟩ => p none γ.ι H .refl S.cells rfl
theorem eo_is (h : EW T W X e m) : EO T W X (some e) (oIs m) := PO.imp (po_some h) fun σ H Q ⟨γ, ρ, g, S, p⟩ => by
  refine ⟨γ, ρ, g, S, p.bind fun d g1 _ v ι1 H1 s1 G1 r1 p1 => ?_⟩
  have S1 := S.step s1 G1
  cases d with
  | int i =>
    obtain rfl := RelW.int r1
    exact ⟨i, rfl, p1.ret0 (g0 := g) S1 rfl⟩
  | _ => exact p1.elim
theorem ee_sl (ok : Ok T X) (ha : EW T W X a ma) (hl : EO T W X lo ml) (hh : EO T W X hi mh) : EE T W X (.Subscript a (.Slice lo hi none p2) pos) (mSl ma ml mh) := PE.imp (pe_slice (sl_data ok) ha hl hh) fun σ H Q ⟨γ, ρ, g, S, p⟩ => by
  refine ⟨γ, ρ, g, S, p.bind fun d g1 _ v ι1 H1 s1 G1 r1 p1 => ?_⟩
  have S1 := S.step s1 G1
  refine ⟨_, ρ, g1, S1, p1.bind fun l g2 _ l' ι2 H2 s2 G2 r2 p2 => ?_⟩
  have S2 := S1.step s2 G2
  refine ⟨_, ρ, g2, S2, p2.bind fun u g3 _ u' ι3 H3 s3 G3 r3 p3 => ?_⟩
  have S3 := S2.step s3 G3
  subst r2 r3
  cases hk : slO d l' u' with
  | none => rw [hk] at p3; exact p3.elim
  | some r =>
    rw [hk] at p3
    exact ⟨ι3, (((γ.to ι1).to ι2).to ι3).bar, d, r, S3.bart, fun a h => .inl h, (r1.keep s2 (γ.to ι1).bi (Gho.grows s2)).keep s3 ((γ.to ι1).to ι2).bi (Gho.grows s3), hk, fun z H' s r => p3.ret1 S3 s r⟩
end
end Z
namespace Z
open PySem PySem.Spec PyProof.Rows L2
set_option autoImplicit false
abbrev gP (pl : List Nat) : List D → List D → List D := fun ds es => pkV D.non pl (ds ++ es)
abbrev gPd (pl : List Nat) (dD : List D) : List D → List D → List D := fun ds es => pkV D.non pl (ds ++ es ++ dD)
theorem FnN.mono {T : Wd} {mg : Str → Option Value} {base : Heap} {j k : Nat} {x : Str} {ps : List Str} {f : Addr} {fd : FuncData} {den : Den} (F : FnN T mg base j x ps f fd den) (h : j ≤ k) : FnN T mg base k x ps f fd den := ⟨F.fn.mono h, F.gl, F.kp⟩
/-- name = [.. for ..], the name never changed in place -/
def sFzz (i : Nat) (m : Sm) : Sm := fun ρ g => match m ρ g with
  | .nx ρ' g' => .nx (frz ρ' i) g'
  | r => r
theorem ss_fzz {T : Wd} {W : WX} {X : Cx} {st : Stmt} {m : Sm} (i : Nat) (h : SS T W X st m) : SS T W X st (sFzz i m) := PS.imp h fun D' σ H ⟨E0, γ, ρ, g, S, p⟩ => by
  refine ⟨E0, γ, ρ, g, S, ?_⟩
  unfold sFzz at p
  revert p
  cases m ρ g with
  | nx ρ' g' =>
    intro p γ' σ' H' S'
    obtain ⟨γ2, S2⟩ := S'.freeze i
    exact p γ2 σ' H' S2
  | rt d g' => exact fun p => p
  | bk ρ' g' => exact fun p => p
  | ct ρ' g' => exact fun p => p
  | exc x ρ' g' => exact fun p => p
  | bad => exact fun p => p
end Z
namespace Z
open PySem PySem.Spec PyProof.Rows L2
set_option autoImplicit false
/-- u0 P: what lies at P at first; st: what a turn does with it -/
def tMk (wi : TI) (g : TG) (tt : TT) (st : Addr → Stage) (vs : List Nat) (u0 : Addr → HO) : TE := fun σ H Q => wi σ H fun J H1 => ∀ P, H1 P = none → ∃ W : Nat → Nat → Hp → Prop, (∃ m, W 0 m (upd H1 P (u0 P))) ∧ ∀ i m H, W i m H →
  (J.stop i H ∧ Q (.ref P) H) ∨ (J.go i H ∧ ∃ Nx : Hp → Prop, (∀ H', Nx H' → ∃ m', m' < m ∧ W (i + 1) m' H') ∧ ∀ x H', J.yld i H x H' → g x (wipe σ vs) H' fun σ2 H2 => wipe σ2 vs = wipe σ vs ∧ tt σ2 H2 fun b H3 => if b = true then st P σ2 H3 Nx else Nx H3)
abbrev Stw := PySem.Env → Addr → (Shared → Prop) → (Value → Shared → Prop) → Shared → Prop
section
variable {X : Cx} {ce tg iter : Expr} {ifs : List Expr} {new : Sem Value} {u0 : Addr → HO} {st : Addr → Stage} {sw : Stw} {scope : Scope} {own : List (Str × Nat)} {wi : TI} {g : TG} {tt : TT} {pos' : Pos}
theorem pe_mk (calm : X.calm = true) (nd : X.N.Nodup) (hi : PI X tg iter wi) (bo : BlkOk X.N X.env.scope scope own)
    (hg : ∀ (s : Shared) (H : Hp) (C : Addr) (cl : List (Str × Addr)) (fp : List Addr), PG (X.blk s H scope (compEnvC scope cl C X.env) fp) tg g)
    (ht : ∀ (s : Shared) (H : Hp) (C : Addr) (cl : List (Str × Addr)) (fp : List Addr), PTs (X.blk s H scope (compEnvC scope cl C X.env) fp) ifs tt)
    {rest : List Comprehension} (hcl : clausesOf ce = ⟨tg, iter, ifs, 0⟩ :: rest) (hf : ∀ x, foldedSetIterable iter X.env x = pure x)
    (hev : eval ce X.env = comprehension ce scope X.env pos' new false (eval iter X.env))
    (hnew : ∀ (pins : List (Addr × Obj)) (σ : L2.St) (H : Hp) (s : Shared) (Q : Value → Shared → Prop), Inv X pins σ H s → (∀ s', Inv X pins σ (upd H s.heap.objs.size (u0 s.heap.objs.size)) s' → (∀ b o, s.heap.get? b = some o → s'.heap.get? b = some o) → s'.heap.objs.size = s.heap.objs.size + 1 → Q (.ref s.heap.objs.size) s') → wpAny (model X.prog X.w) X.A new Q X.xe s)
    (hloop : ∀ (cenv : PySem.Env) (itv : Value) (P : Addr) (R : Result → Shared → Prop) (I : Nat → Shared → Prop),
      (∀ n s, I n s → wpAny (model X.prog X.w) X.A (pyNext itv) (fun r s1 => match r with
        | none => R (.ok .next) s1
        | some v => wpAny (model X.prog X.w) X.A (letOwnedTupleGo tg itv v) (fun _ s2 => wpAny (model X.prog X.w) X.A (assign tg cenv v) (fun _ s3 => wpAny (model X.prog X.w) X.A (testsOf ifs cenv) (fun ok s4 =>
            if ok = true then sw cenv P (fun s' => ∃ m, m < n ∧ I m s') (notedBy (model X.prog X.w) X.A cenv fun e s' => R (.error e) s') s4
            else ∃ m, m < n ∧ I m s4) (notedBy (model X.prog X.w) X.A cenv fun e s' => R (.error e) s') s3) (notedBy (model X.prog X.w) X.A cenv fun e s' => R (.error e) s') s2) (notedBy (model X.prog X.w) X.A cenv fun e s' => R (.error e) s') s1) (notedBy (model X.prog X.w) X.A cenv fun e s' => R (.error e) s') s) →
      ∀ n s, I n s → codeAny (model X.prog X.w) X.A (.compLoop ce 0 itv (.ref P) cenv) R s)
    (hstart : ∀ (cenv : PySem.Env) (itv : Value) (P : Addr) (R : Result → Shared → Prop) (s : Shared), codeAny (model X.prog X.w) X.A (.compLoop ce 0 itv (.ref P) cenv) R s → wpAny (model X.prog X.w) X.A (pyIter itv) (fun it' s' => codeAny (model X.prog X.w) X.A (.compLoop ce 0 it' (.ref P) cenv) R s') (notedBy (model X.prog X.w) X.A cenv fun x s' => R (.error x) s') s → codeAny (model X.prog X.w) X.A (.compStart ce 0 itv (.ref P) cenv) R s)
    (hstage : ∀ (s0 : Shared) (H0 : Hp) (C : Addr) (cl : List (Str × Addr)) (fp : List Addr) (pins : List (Addr × Obj)) (σ : L2.St) (H : Hp) (s : Shared) (P : Addr) (Nx : Hp → Prop) (N : Shared → Prop) (Er : Value → Shared → Prop), Inv (X.blk s0 H0 scope (compEnvC scope cl C X.env) fp) pins σ H s → st P σ H Nx →
      (∀ s' H', Inv (X.blk s0 H0 scope (compEnvC scope cl C X.env) fp) pins σ H' s' → Nx H' → N s') → sw (compEnvC scope cl C X.env) P N Er s) :
    PE X ce (tMk wi g tt st (own.map (·.2)) u0) := by
  refine ⟨fun pins s σ H Q I h => ?_⟩
  rw [hev]
  have frees : ∀ y ∈ scope.names, y.2 = .free → ∃ c, X.env.cells.lookup y.1 = some c := fun y hy e => (bo.free y hy e).elim (fun k => I.ok.has _ (.inl k)) fun k => I.ok.has _ (.inr k)
  refine wpAny_comprehension_free (use := none) hcl hf (closure_ok frees) bo.kind (fun y hy e => by rw [bo.uniq y hy, e]) (thn (hi.run pins s σ H _ I h) fun xv sa ha => thn ha fun itv sb hb => ?_)
  obtain ⟨it, fp, tn, J, H2, rfl, I2, T, t2, fp2, q⟩ := hb
  refine hnew pins σ H2 sb _ I2 fun s3 I3 k3 z3 => newEnv_comp ?_
  generalize hP : sb.heap.objs.size = P at I3 z3 ⊢
  have nP : H2 P = none := by rw [← hP]; exact I2.hok.fresh (Nat.le_refl _)
  obtain ⟨W, ⟨m0, w0⟩, turn⟩ := q P nP
  have lt2 : ∀ b ∈ fp, b < sb.heap.objs.size := fun b hb => by
    obtain ⟨o, e, _⟩ := T.obj _ _ t2 b hb
    exact Heap.lt_size e
  have fp3 : ∀ b ∈ fp, FpOk X pins (upd H2 P (u0 P)) b ∧ b < s3.heap.objs.size := fun b hb => by
    have l := lt2 b hb
    have ne : b ≠ P := by rw [← hP]; exact Nat.ne_of_lt l
    refine ⟨⟨by rw [upd_ne ne]; exact (fp2 b hb).1, (fp2 b hb).2⟩, by rw [z3, ← hP]; exact Nat.lt_succ_of_lt l⟩
  have t3 : tn 0 s3.heap := T.keep _ _ _ t2 fun b _ o e => k3 b o e
  have I4 := block_start I3 bo nd fp3
  generalize hcl2 : cellsFrom (s3.heap.objs.size + 1) scope.names (cloFrom X.env.cells scope.names []) = cl at I4 ⊢
  generalize hC : s3.heap.objs.size = C at I4 ⊢
  have pg := hg s3 (upd H2 P (u0 P)) C cl fp
  have pt := ht s3 (upd H2 P (u0 P)) C cl fp
  have ps := hstage s3 (upd H2 P (u0 P)) C cl fp
  show codeAny _ _ (.compStart ce 0 (.ref it) (.ref P) (compEnvC scope cl C X.env)) (compPost (model X.prog X.w) X.A X.xe none (EP X pins σ Q) (.ref P) C) { s3 with heap := pushCells (s3.heap.push { cls := .type "dict", data := .dict #[] }) scope.names }
  generalize hs4 : ({ s3 with heap := pushCells (s3.heap.push { cls := .type "dict", data := .dict #[] }) scope.names } : Shared) = s4 at I4 ⊢
  have nfp : ∀ b ∈ fp, upd H2 P (u0 P) b = none := fun b hb => (fp3 b hb).1.1
  generalize hH3 : upd H2 P (u0 P) = H3 at I3 I4 pg pt ps w0 nfp fp3
  have t4 : tn 0 s4.heap := T.keep _ _ _ t3 fun b _ o e => by rw [← hs4]; exact pushCells_keeps _ _ _ _ (Heap.get?_push_of_some _ e)
  generalize hce : compEnvC scope cl C X.env = cv at I4 pg pt ps ⊢
  have cL : cv.locals = C := by rw [← hce]; rfl
  have its : ∀ {σ' : L2.St} {H' : Hp} {s' : Shared}, Inv (X.blk s3 H3 scope cv fp) [] σ' H' s' → (∀ b ∈ fp, H' b = none) → ∀ b ∈ fp, FpOk (X.blk s3 H3 scope cv fp) [] H' b := fun {σ' H' s'} I' hn b hb => by
    have e1 := I'.ok.exf b hb
    refine ⟨hn b hb, e1.1, I'.ok.exfs b hb, .inl hb, fun x c e => e1.2 x c e, fun p hp => ?_⟩
    have hp : p ∈ ([] : List (Addr × Obj)) ++ [] := hp
    simp at hp
  have loop : codeAny (model X.prog X.w) X.A (.compLoop ce 0 (.ref it) (.ref P) cv) (compPost (model X.prog X.w) X.A X.xe none (EP X pins σ Q) (.ref P) C) s4 := by
    refine hloop cv (.ref it) P _ (fun n s' => ∃ i H', Inv (X.blk s3 H3 scope cv fp) [] (wipe σ (own.map (·.2))) H' s' ∧ tn i s'.heap ∧ (∀ b ∈ fp, H' b = none) ∧ W i n H') ?_ m0 s4 ⟨0, H3, I4, t4, nfp, w0⟩
    rintro n s5 ⟨i, H5, I5, t5, n5, w5⟩
    rcases turn i n H5 w5 with ⟨stop, fin⟩ | ⟨go, Nx, hNx, step⟩
    · refine thnF (T.done (X.blk s3 H3 scope cv fp) rfl rfl rfl calm i [] s5 _ H5 (fun _ _ => False) I5 (its I5 n5) t5 stop) fun r s6 ⟨hr, I6⟩ => ?_
      subst hr
      have I7 : Inv X pins σ H5 s6 := I3.call' (ch := fp) I6.os I6.base I6.hok I6.bare fun b hb => ⟨(fp3 b hb).1.2.2.2.1, (fp3 b hb).1.2.1, (fp3 b hb).1.2.2.2.2.1, (fp3 b hb).1.2.2.2.2.2⟩
      have nC : H5 C = none := by
        have z : H5 cv.locals = none := I6.free
        rw [cL] at z; exact z
      obtain ⟨m, ns, _⟩ := I6.loc
      have ns : s6.heap.Ns cv.locals m := ns
      rw [cL] at ns
      have fC := I3.fpOk (b := C) (H' := H5) (by rw [hC]; exact Nat.le_refl _) nC
      refine ⟨m, ns, fun h'' sb => ?_⟩
      obtain ⟨f0, f1, f2, f3, f4, f5⟩ := fC
      exact ⟨.ref P, H5, I7.turned (t' := s6.toks) (fun b o hb e => (sb.2 b hb).trans e) f0 f1 f3 f4 f5, rfl, fin⟩
    · refine thnF (T.item (X.blk s3 H3 scope cv fp) rfl rfl rfl calm i [] s5 _ H5 (fun _ _ => False) I5 (its I5 n5) t5 go) fun r s6 ⟨u, hr, h6⟩ => ?_
      subst hr
      refine thnF h6 fun _ s7 ⟨x, H7, I7, r7, y7, t7, n7⟩ => ?_
      have I7' := I7.pinned (its I7 n7) (T.obj _ _ t7)
      refine thnF (pg.run _ s7 _ H7 x u _ I7' r7 (step x H7 y7)) fun _ s8 ⟨σ8, H8, I8, hw8, q8⟩ => ?_
      refine thnF (pt.run _ s8 σ8 H8 _ I8 q8) fun b s9 ⟨H9, I9, q9⟩ => ?_
      have endT : ∀ (s' : Shared) (H' : Hp), Inv (X.blk s3 H3 scope cv fp) ([] ++ pinsAt fp s7.heap) σ8 H' s' → Nx H' → ∃ m, m < n ∧ ∃ i H', Inv (X.blk s3 H3 scope cv fp) [] (wipe σ (own.map (·.2))) H' s' ∧ tn i s'.heap ∧ (∀ b ∈ fp, H' b = none) ∧ W i m H' := fun s' H' I' nx => by
        obtain ⟨m', hm, w'⟩ := hNx H' nx
        have held : ∀ b ∈ fp, ∀ o, s7.heap.get? b = some o → s'.heap.get? b = some o ∧ H' b = none := fun b hb o e => by
          have z := I'.pin (b, o) (List.mem_append_right _ (List.mem_append_right _ (mem_pinsAt hb e)))
          exact ⟨z.1, z.2.1⟩
        have hl : (wipe σ (own.map (·.2))).length = σ8.length := by rw [← hw8, wipe_length]
        refine ⟨m', hm, i + 1, H', (I'.unpinned (pins := [])).weak hl (fun j v e => ?_), T.keep _ _ _ t7 fun b hb o e => (held b hb o e).1, fun b hb => ?_, w'⟩
        · rw [← hw8] at e; exact (wipe_some e).1
        · obtain ⟨o, e, _⟩ := T.obj _ _ t7 b hb
          exact (held b hb o e).2
      cases b with
      | false =>
        simp only [Bool.false_eq_true, if_false] at q9 ⊢
        exact endT s9 H9 I9 q9
      | true =>
        simp only [if_true] at q9 ⊢
        rw [← hce] at I9 endT ⊢
        rw [← hce] at ps
        exact ps _ σ8 H9 s9 P Nx _ _ I9 q9 endT
  exact hstart _ _ _ _ _ loop (T.self X.A 0 _ _ _ t4 loop)
end
end Z
namespace Z
open PySem PySem.Spec PyProof.Rows L2
set_option autoImplicit false
section
variable {T : Wd} {X : Cx} {pins : List (Addr × Obj)} {σ : L2.St} {H : Hp} {s : Shared} {ι : List Addr} {bar : Addr → Prop}
mutual
theorem nested_of (ok : Ok T X) (I : Inv X pins σ H s) : ∀ {d : D} {v : V} {u : Value}, isK d = true → RelD T ι bar H d v → L2.RelV v u → NestedIs s.heap (nk d) u
  | .non, v, u, _, r, rv => by
    have e : v = .non := by simpa [RelD] using r
    subst e; cases rv; exact .none
  | .bl b, v, u, _, r, rv => by
    have e : v = .bl b := by simpa [RelD] using r
    subst e; cases rv; exact .bool rfl
  | .int i, v, u, _, r, rv => by
    have e : v = .int i := by simpa [RelD] using r
    subst e; obtain ⟨t, rfl⟩ := rv; exact .int i t
  | .str x, v, u, _, r, rv => by
    have e : v = .str x := by simpa [RelD] using r
    subst e; obtain ⟨t, rfl⟩ := rv; exact .text x t
  | .tup ds, v, u, k, r, rv => by
    simp only [RelD] at r
    obtain ⟨a, vs, e, sq, rs⟩ := r
    subst e; cases rv
    obtain ⟨its, rvs, ht, _⟩ := I.tuple (ok.K ▸ sq)
    obtain ⟨o, ho, hc, n, hd⟩ := ht
    simp only [nk]
    exact .tup ho hc hd (by simpa using nested_ofs ok I (by simpa [isK] using k) rs rvs)
  | .lst _, _, _, k, _, _ => by simp [isK] at k
  | .set _, _, _, k, _, _ => by simp [isK] at k
  | .dct _ _, _, _, k, _, _ => by simp [isK] at k
  | .ref _, _, _, k, _, _ => by simp [isK] at k
  | .clo _ _, _, _, k, _, _ => by simp [isK] at k
  | .err _ _, _, _, k, _, _ => by simp [isK] at k
  | .scr _, _, _, k, _, _ => by simp [isK] at k
theorem nested_ofs (ok : Ok T X) (I : Inv X pins σ H s) : ∀ {ds : List D} {vs : List V} {us : List Value}, isKs ds = true → RelDs T ι bar H ds vs → Vals vs us → NestedAll s.heap (nks ds) us
  | [], vs, us, _, r, rv => by
    have e : vs = [] := by simpa [RelDs] using r
    subst e; cases rv; exact .nil
  | d :: ds, vs, us, k, r, rv => by
    obtain ⟨v, rs, e, r1, r2⟩ := r.uncons
    subst e
    cases rv with
    | cons h1 h2 =>
      have k : isK d = true ∧ isKs ds = true := by simpa [isKs] using k
      simp only [nks]
      exact .cons (nested_of ok I k.1 r1 h1) (nested_ofs ok I k.2 r2 h2)
end
end
def ixN : List NestedKey → NestedKey → Option Nat
  | [], _ => none
  | k :: ks, x => if k = x then some 0 else (ixN ks x).map (· + 1)
theorem nks_len : ∀ ds : List D, (nks ds).length = ds.length
  | [] => rfl
  | d :: ds => by simp [nks, nks_len ds]
theorem nks_app : ∀ ds es : List D, nks (ds ++ es) = nks ds ++ nks es
  | [], _ => rfl
  | d :: ds, es => by simp [nks, nks_app ds es]
abbrev z3 (ks : List NestedKey) (bs : List Addr) (us : List Value) : List (NestedKey × Addr × Value) := ks.zip (bs.zip us)
theorem ixN_lt : ∀ {ks : List NestedKey} {k : NestedKey} {j : Nat}, ixN ks k = some j → j < ks.length
  | [], _, _, e => by simp [ixN] at e
  | x :: ks, k, j, e => by
    simp only [ixN] at e
    split at e
    · cases e; simp
    · rw [Option.map_eq_some_iff] at e
      obtain ⟨j', e, rfl⟩ := e
      simpa using ixN_lt e
theorem ixN_none : ∀ {ks : List NestedKey} {k : NestedKey}, ixN ks k = none → k ∉ ks
  | [], _, _ => by simp
  | x :: ks, k, e => by
    simp only [ixN] at e
    split at e
    · cases e
    · rename_i h
      rw [Option.map_eq_none_iff] at e
      intro z
      rcases List.mem_cons.mp z with z | z
      · exact h z.symm
      · exact ixN_none e z
theorem at_z3 : ∀ {ks : List NestedKey} {bs : List Addr} {us : List Value} {k : NestedKey}, ks.length = bs.length → ks.length = us.length → atKey (z3 ks bs us) k = (ixN ks k).bind fun j => (bs.zip us)[j]?
  | [], _, _, _, _, _ => by simp [atKey, ixN]
  | x :: ks, [], _, _, h, _ => by simp at h
  | x :: ks, _ :: _, [], _, _, h => by simp at h
  | x :: ks, b :: bs, u :: us, k, h1, h2 => by
    simp only [z3, List.zip_cons_cons, atKey, List.find?_cons, ixN]
    by_cases e : x = k
    · simp [e]
    · simp only [e, decide_false, if_false, Option.bind_map]
      have := at_z3 (ks := ks) (bs := bs) (us := us) (k := k) (by simpa using h1) (by simpa using h2)
      simp only [atKey, z3] at this
      rw [this]
      cases ixN ks k with
      | none => rfl
      | some j => simp
theorem stored_z3 {ks : List NestedKey} {bs : List Addr} {us : List Value} {k : NestedKey} {a : Addr} {v : Value} (h1 : ks.length = bs.length) (h2 : ks.length = us.length) (nd : ks.Nodup) :
    storedH (z3 ks bs us) k a v = match ixN ks k with
      | some j => z3 ks bs (us.set j v)
      | none => z3 (ks ++ [k]) (bs ++ [a]) (us ++ [v]) := by
  cases hj : ixN ks k with
  | none =>
    have : atKey (z3 ks bs us) k = none := by rw [at_z3 h1 h2, hj]; rfl
    rw [storedH_new this]
    show _ = (ks ++ [k]).zip ((bs ++ [a]).zip (us ++ [v]))
    rw [List.zip_append (by omega), List.zip_append (by rw [List.length_zip]; omega)]
    rfl
  | some j =>
    have hl := ixN_lt hj
    have : atKey (z3 ks bs us) k = some ((bs.zip us)[j]'(by rw [List.length_zip]; omega)) := by
      rw [at_z3 h1 h2, hj]
      exact List.getElem?_eq_getElem _
    rw [storedH_old this]
    have key : ∀ {ks : List NestedKey} {bs : List Addr} {us : List Value} {j : Nat}, ks.length = bs.length → ks.length = us.length → ks.Nodup → ixN ks k = some j → (z3 ks bs us).map (putAt k v) = z3 ks bs (us.set j v) := by
      intro ks
      induction ks with
      | nil => intro bs us j _ _ _ e; simp [ixN] at e
      | cons x ks ih =>
        intro bs us j h1 h2 nd e
        match bs, us, h1, h2 with
        | b :: bs, u :: us, h1, h2 =>
          obtain ⟨nx, nd⟩ := List.nodup_cons.mp nd
          simp only [ixN] at e
          split at e
          · rename_i hx
            cases e
            subst hx
            simp only [z3, List.zip_cons_cons, List.map_cons, putAt, if_true, List.set_cons_zero]
            congr 1
            conv => rhs; rw [← List.map_id (ks.zip (bs.zip us))]
            refine List.map_congr_left fun p hp => ?_
            have hm := (List.of_mem_zip hp).1
            have : ¬ p.1 = x := fun z => nx (z ▸ hm)
            show (if p.1 = x then _ else p) = p
            rw [if_neg this]
          · rename_i hx
            rw [Option.map_eq_some_iff] at e
            obtain ⟨j', e, rfl⟩ := e
            simp only [z3, List.zip_cons_cons, List.map_cons, putAt, List.set_cons_succ]
            rw [if_neg hx]
            congr 1
            exact ih (by simpa using h1) (by simpa using h2) nd e
    exact key h1 h2 nd hj
theorem fst_zip {α β : Type} : ∀ (xs : List α) (ys : List β), (xs.zip ys).map (·.1) = xs.take (xs.zip ys).length
  | [], _ => by simp
  | _ :: _, [] => by simp
  | x :: xs, y :: ys => by
    have := fst_zip xs ys
    simp only [List.zip_cons_cons, List.map_cons, List.length_cons, List.take_succ_cons]
    rw [this]
def tupK : D → Bool
  | .tup ds => isKs ds && decide (NestedKey.depth (.tup (nks ds)) ≤ 8)
  | _ => false
theorem tupK_isK {d : D} (h : tupK d = true) : isK d = true ∧ (nk d).depth ≤ 8 ∧ ∃ ds, d = .tup ds := by
  cases d <;> simp [tupK] at h
  rename_i ds
  exact ⟨by simpa [isK] using h.1, by simpa [nk] using h.2, ds, rfl⟩
def putK2 (ks vs : List D) (k v : D) : List D × List D := match ixN (nks ks) (nk k) with
  | some j => (ks, vs.set j v)
  | none => (ks ++ [k], vs ++ [v])
/-- how the dict at a stands -/
structure DctA (T : Wd) (ι : List Addr) (bar : Addr → Prop) (H : Hp) (a : Addr) (ks vs : List D) (o : HO) : Prop where
  ex : ∃ (bs : List Addr) (ws : List V), (∃ ep, o = .ext (DctN T.P T.w a ep (nks ks) bs ws)) ∧ RelDs T ι bar H ks (bs.map V.ref) ∧ RelDs T ι bar H vs ws
  len : ks.length = vs.length
  keys : ks.all tupK = true
section
variable {T : Wd} {X : Cx} {pins : List (Addr × Obj)} {σ : L2.St} {H : Hp} {s : Shared} {ι : List Addr} {bar : Addr → Prop} {a : Addr} {ks vs : List D}
theorem ext_at (I : Inv X pins σ H s) {φ : Heap → Prop} (h : H a = some (.ext φ)) : φ s.heap := (I.hok a _ h).1
theorem keys_at (ok : Ok T X) (I : Inv X pins σ H s) : ∀ {ks : List D} {bs : List Addr}, ks.all tupK = true → RelDs T ι bar H ks (bs.map V.ref) → ∀ (us : List Value), ∀ x ∈ z3 (nks ks) bs us, (nestedKind T.P T.w).is s.heap x.1 x.2.1
  | [], bs, _, r, us, x, hx => absurd hx (by simp [z3, nks])
  | k :: ks, [], _, r, us, x, hx => absurd hx (by simp [z3])
  | k :: ks, b :: bs, hk, r, us, x, hx => by
    have hk : tupK k = true ∧ ks.all tupK = true := by simpa using hk
    obtain ⟨v, rs, e, r1, r2⟩ := RelDs.uncons r
    simp only [List.map_cons, List.cons.injEq] at e
    obtain ⟨e1, e2⟩ := e
    subst e2
    cases us with
    | nil => exact absurd hx (by simp [z3])
    | cons u us =>
      have hx : x ∈ (nk k, b, u) :: z3 (nks ks) bs us := hx
      rw [List.mem_cons] at hx
      rcases hx with rfl | hx
      · obtain ⟨q1, q2, _⟩ := tupK_isK hk.1
        exact ⟨nested_of ok I q1 (v := .ref b) (by rw [e1]; exact r1) (show L2.RelV (.ref b) (.ref b) from rfl), q2⟩
      · exact keys_at ok I hk.2 r2 us x hx
theorem dct_at (ok : Ok T X) (I : Inv X pins σ H s) {bs : List Addr} {ws : List V} {ep : Nat} (h : H a = some (.ext (DctN T.P T.w a ep (nks ks) bs ws))) (hk : ks.all tupK = true) (r : RelDs T ι bar H ks (bs.map V.ref)) :
    (a == sysModules) = false ∧ ∃ us, Vals ws us ∧ s.heap.DictOfH (nestedKind T.P T.w) a (z3 (nks ks) bs us) ∧ (nks ks).Nodup := by
  obtain ⟨h1, us, rv, o, es, ho, he, hd, hl, nd⟩ := ext_at I h
  refine ⟨h1, us, rv, ⟨o, es, ep, ho, he, hd, hl, keys_at ok I hk r us, ?_⟩, nd⟩
  have this : (z3 (nks ks) bs us).map (·.1) = (nks ks).take (z3 (nks ks) bs us).length := fst_zip _ _
  rw [this]
  exact nd.sublist (List.take_sublist _ _)
end
end Z
namespace Z
open PySem PySem.Spec PyProof.Rows L2
set_option autoImplicit false
/-- a[y] = z done by the model: the thing at a is o' behind it -/
def DAdd (X : Cx) (H : Hp) (a : Addr) (y z : V) (o' : Nat → HO) : Prop :=
  ∀ (X' : Cx) (pins : List (Addr × Obj)) (σ : L2.St) (s : Shared) (E : Value → Shared → Prop) (Q : Unit → Shared → Prop) (u r : Value), X'.prog = X.prog → X'.w = X.w → X'.K = X.K → X'.A = X.A → Inv X' pins σ H s → L2.RelV y u → L2.RelV z r →
    (∀ s' ep, Inv X' pins σ (upd H a (o' ep)) s' → Q () s') → wpAny (model X.prog X.w) X.A (dictSet a u r) Q E s
section
variable {T : Wd} {X : Cx} {H : Hp} {ι : List Addr} {bar : Addr → Prop} {a : Addr} {ks vs : List D} {k v : D} {y z : V} {o : HO}
theorem DctA.soft (d : DctA T ι bar H a ks vs o) : Soft o := by
  obtain ⟨bs, ws, ⟨ep, rfl⟩, _⟩ := d.ex
  exact fun i => i
theorem DctA.keep {ι' : List Addr} {bar' : Addr → Prop} {H' : Hp} (s : Stp ι ι' H H') (hi : ∀ a ∈ ι, bar a) (hb : Grows H bar bar') (d : DctA T ι bar H a ks vs o) : DctA T ι' bar' H' a ks vs o := by
  obtain ⟨⟨bs, ws, e, r1, r2⟩, l, k⟩ := d
  exact ⟨⟨bs, ws, e, r1.keep s hi hb, r2.keep s hi hb⟩, l, k⟩
theorem DctA.fewer {bar' : Addr → Prop} (hb : ∀ a, bar' a → bar a) (d : DctA T ι bar H a ks vs o) : DctA T ι bar' H a ks vs o := by
  obtain ⟨⟨bs, ws, e, r1, r2⟩, l, k⟩ := d
  exact ⟨⟨bs, ws, e, r1.fewer hb, r2.fewer hb⟩, l, k⟩
theorem DctA.era {p : Addr} {u : HO} (hb : bar p) (hp : H p = some u) (so : Soft u) (d : DctA T ι bar H a ks vs o) : DctA T ι bar (Z.era H p) a ks vs o := by
  obtain ⟨⟨bs, ws, e, r1, r2⟩, l, k⟩ := d
  exact ⟨⟨bs, ws, e, r1.era hb hp so, r2.era hb hp so⟩, l, k⟩
/-- putting one in -/
theorem DctA.put (ok : Ok T X) (rm : Rm X) (d : DctA T ι bar H a ks vs o) (hp : H a = some o) (hk : tupK k = true) (rk : RelD T ι bar H k y) (rv : RelD T ι bar H v z) (hz : ks.length < 16777216) :
    ∃ o', DAdd X H a y z o' ∧ (∃ (bs : List Addr) (ws : List V), o' = (fun ep => .ext (DctN T.P T.w a ep (nks (putK2 ks vs k v).1) bs ws)) ∧ RelDs T ι bar H (putK2 ks vs k v).1 (bs.map V.ref) ∧ RelDs T ι bar H (putK2 ks vs k v).2 ws) ∧ (putK2 ks vs k v).1.length = (putK2 ks vs k v).2.length ∧ (putK2 ks vs k v).1.all tupK = true := by
  obtain ⟨⟨bs, ws, ⟨ep0, rfl⟩, r1, r2⟩, hl, hks⟩ := d
  obtain ⟨q1, q2, kd, rfl⟩ := tupK_isK hk
  have hy : ∃ b, y = .ref b := by
    simp only [RelD] at rk
    obtain ⟨b, _, e, _⟩ := rk
    exact ⟨b, e⟩
  obtain ⟨b, rfl⟩ := hy
  have l1 : ks.length = bs.length := by have := r1.length; rw [List.length_map] at this; exact this.symm
  have l2 : vs.length = ws.length := r2.length.symm
  have lk : (nks ks).length = bs.length := by rw [nks_len, l1]
  -- the new lists
  let bs' := match ixN (nks ks) (nk (.tup kd)) with | some _ => bs | none => bs ++ [b]
  let ws' := match ixN (nks ks) (nk (.tup kd)) with | some j => ws.set j z | none => ws ++ [z]
  have main : ∀ us : List Value, Vals ws us → (nks ks).Nodup → ∀ r : Value, L2.RelV z r → ∃ us', Vals ws' us' ∧ storedH (z3 (nks ks) bs us) (nk (.tup kd)) b r = z3 (nks (putK2 ks vs (.tup kd) v).1) bs' us' ∧ (nks (putK2 ks vs (.tup kd) v).1).Nodup := by
    intro us rv' nd r rr
    have lu : (nks ks).length = us.length := by rw [nks_len, hl, l2, rv'.length]
    rw [stored_z3 lk lu nd]
    cases hj : ixN (nks ks) (nk (.tup kd)) with
    | some j =>
      refine ⟨us.set j r, ?_, ?_, ?_⟩
      · show Vals (match ixN (nks ks) (nk (.tup kd)) with | some j => ws.set j z | none => ws ++ [z]) _
        rw [hj]; exact Vals.set rr j rv'
      · show z3 _ _ _ = z3 (nks (putK2 ks vs (.tup kd) v).1) (match ixN (nks ks) (nk (.tup kd)) with | some _ => bs | none => bs ++ [b]) _
        rw [hj]; simp only [putK2, hj]
      · simp only [putK2, hj]; exact nd
    | none =>
      refine ⟨us ++ [r], ?_, ?_, ?_⟩
      · show Vals (match ixN (nks ks) (nk (.tup kd)) with | some j => ws.set j z | none => ws ++ [z]) _
        rw [hj]; exact rv'.append (.cons rr .nil)
      · show z3 _ _ _ = z3 (nks (putK2 ks vs (.tup kd) v).1) (match ixN (nks ks) (nk (.tup kd)) with | some _ => bs | none => bs ++ [b]) _
        rw [hj]; simp only [putK2, hj, nks_app]; rfl
      · simp only [putK2, hj, nks_app]
        have := ixN_none hj
        rw [List.nodup_append]
        exact ⟨nd, by simp [nks], fun x hx w hw e => by simp [nks] at hw; exact this (by rw [← hw, ← e]; exact hx)⟩
  refine ⟨fun ep => .ext (DctN T.P T.w a ep (nks (putK2 ks vs (.tup kd) v).1) bs' ws'), fun X' pins σ s E Q u r e1 e2 e3 e4 I ru rr hQ => ?_, ⟨bs', ws', rfl, ?_, ?_⟩, ?_, ?_⟩
  · have ok' : Ok T X' := ⟨e1.trans ok.P, e2.trans ok.w, e3.trans ok.K⟩
    obtain ⟨hsys, us, rvs, hd, nd⟩ := dct_at ok' I hp hks r1
    cases ru
    obtain ⟨us', rvs', st, nd'⟩ := main us rvs nd r rr
    have isk : (nestedKind T.P T.w).is s.heap (nk (.tup kd)) b := ⟨nested_of ok' I q1 rk (show L2.RelV (.ref b) (.ref b) from rfl), q2⟩
    rw [ok.P, ok.w]
    refine wpAny_dictSet_heap (knd := nestedKind T.P T.w) (hsz := ?hz) ?hr isk hd fun h' hd' hs => ?hq
    case hz =>
      have : (z3 (nks ks) bs us).length ≤ (nks ks).length := by simp only [z3, List.length_zip]; exact Nat.min_le_left _ _
      rw [nks_len] at this
      rw [sizeLine_eq]; omega
    case hr =>
      show X.A.units + 8 < cLine
      have := rm.hu; omega
    case hq =>
      rw [st] at hd'
      obtain ⟨o2, es, ep, ho, he, hdt, hes, _, _⟩ := hd'
      refine hQ _ ep (d_write I (by rw [hp]; trivial) hs ⟨_, ho⟩ ⟨⟨hsys, us', rvs', o2, es, ho, he, hdt, hes, nd'⟩, ⟨_, ho⟩, fun h1 h2 p k => ?_⟩)
      obtain ⟨p1, us2, p2, o3, es3, p3, p4⟩ := p
      exact ⟨p1, us2, p2, o3, es3, k _ p3, p4⟩
  · show RelDs T ι bar H (putK2 ks vs (.tup kd) v).1 (List.map V.ref (match ixN (nks ks) (nk (.tup kd)) with | some _ => bs | none => bs ++ [b]))
    cases hj : ixN (nks ks) (nk (.tup kd)) with
    | some j => simp only [putK2, hj]; exact r1
    | none => simp only [putK2, hj, List.map_append, List.map_cons, List.map_nil]; exact r1.append (.cons rk .nil)
  · show RelDs T ι bar H (putK2 ks vs (.tup kd) v).2 (match ixN (nks ks) (nk (.tup kd)) with | some j => ws.set j z | none => ws ++ [z])
    cases hj : ixN (nks ks) (nk (.tup kd)) with
    | some j => simp only [putK2, hj]; exact RelDs.set rv j r2
    | none => simp only [putK2, hj]; exact r2.append (.cons rv .nil)
  · cases hj : ixN (nks ks) (nk (.tup kd)) with
    | some j => simp only [putK2, hj, List.length_set]; exact hl
    | none => simp only [putK2, hj, List.length_append]; rw [hl]; rfl
  · cases hj : ixN (nks ks) (nk (.tup kd)) with
    | some j => simp only [putK2, hj]; exact hks
    | none => simp only [putK2, hj, List.all_append, hks, Bool.true_and]; simpa using hk
end
def stepP (acc : Option (List D × List D)) (d : D) : Option (List D × List D) := match acc with
  | some p => match d with
    | .tup [k, v] => if tupK k then some (putK2 p.1 p.2 k v) else none
    | _ => none
  | none => none
def foldP (ds : List D) : Option (List D × List D) := ds.foldl stepP (some ([], []))
theorem foldP_none : ∀ es : List D, es.foldl stepP none = none
  | [] => rfl
  | e :: es => foldP_none es
theorem foldP_app (ds es : List D) : foldP (ds ++ es) = es.foldl stepP (foldP ds) := by simp [foldP, List.foldl_append]
theorem putK2_le (ks vs : List D) (k v : D) : (putK2 ks vs k v).1.length ≤ ks.length + 1 := by
  unfold putK2
  split <;> simp
theorem foldP_le : ∀ {es : List D} {p q : List D × List D}, es.foldl stepP (some p) = some q → q.1.length ≤ p.1.length + es.length
  | [], p, q, h => by cases h; simp
  | e :: es, p, q, h => by
    simp only [List.foldl_cons] at h
    cases hs : stepP (some p) e with
    | none => rw [hs, foldP_none] at h; cases h
    | some p' =>
      rw [hs] at h
      have := foldP_le h
      unfold stepP at hs
      dsimp only at hs
      split at hs
      · rename_i k v
        split at hs
        · cases hs
          have := putK2_le p.1 p.2 k v
          simp only [List.length_cons]
          omega
        · cases hs
      · cases hs
def accD (T : Wd) (P : Addr) : Acc T where
  A := fun ι bar H ds o => ∃ p, foldP ds = some p ∧ DctA T ι bar H P p.1 p.2 o
  soft := fun ι bar H ds o ⟨p, _, d⟩ => d.soft
  keep := fun ι ι' bar bar' H H' ds o s hi hb ⟨p, e, d⟩ => ⟨p, e, d.keep s hi hb⟩
  era := fun ι bar H ds o p u hb hp so ⟨q, e, d⟩ => ⟨q, e, d.era hb hp so⟩
  fewer := fun ι bar bar' H ds o hb ⟨p, e, d⟩ => ⟨p, e, d.fewer hb⟩
  room := fun ds => fits ds.length = true ∧ (foldP ds).isSome = true
  less := fun ds es ⟨h, h2⟩ => by
    constructor
    · unfold fits at *
      rw [List.length_append] at h
      simp only [decide_eq_true_eq] at *
      omega
    · rw [foldP_app] at h2
      cases q : foldP ds with
      | none => rw [q, foldP_none] at h2; cases h2
      | some _ => rfl
def elD (mt : EvB) (mk mv : Ev) : ElM := fun ρ g => match mt ρ g with
  | .ok c g1 => if c = true then (match mk ρ g1 with
    | .ok k g2 => match mv ρ g2 with
      | .ok v g3 => .ok [.tup [k, v]] g3
      | _ => .bad
    | _ => .bad) else .ok [] g1
  | _ => .bad
def mDc (mi : EvI) (vs : List Nat) (t : Tg) (ms : ElM) : Ev := fun ρ g => match mi ρ g with
  | .ok ds g1 => match gaL t ms (wipeE ρ vs) ds g1 with
    | .ok ys g2 => match foldP ys with
      | some p => if fits ys.length = true then .ok (.dct p.1 p.2) g2 else .bad
      | none => .bad
    | _ => .bad
  | .exc x g1 => .exc x g1
  | .bad => .bad
abbrev stD (T : Wd) (X : Cx) (mk mv : Ev) (P : Addr) : Stage := fun σ H Nx => tX T W0 (rD T) mk σ H fun y H4 => tX T W0 (rD T) mv σ H4 fun z H5 => ∃ o', DAdd X H5 P y z o' ∧ ∀ ep, Nx (upd H5 P (o' ep))
abbrev stDT (T : Wd) (X : Cx) (mt : EvB) (mk mv : Ev) (P : Addr) : Stage := fun σ H Nx => tX T W0 rB mt σ H fun b H3 => if b = true then stD T X mk mv P σ H3 Nx else Nx H3
theorem upd_era2 {H : Hp} {P : Addr} {o : HO} : upd H P o = upd (era H P) P o := by
  funext a
  by_cases e : a = P
  · subst e; rw [upd_same, upd_same]
  · rw [upd_ne e, upd_ne e, era_ne e]
theorem stg_dct {T : Wd} {X : Cx} {P : Addr} {mt : EvB} {mk mv : Ev} (ok : Ok T X) (rm : Rm X) : Stg T (accD T P) P (elD mt mk mv) (stDT T X mt mk mv P) := by
  intro γ ρ σ H g ds o Nx R nP nι nv A p
  obtain ⟨pp, ef, dA⟩ := A
  have so : Soft o := dA.soft
  have R1 := R.lay (o := o) nP
  refine ⟨_, ρ, g, R1, ?_⟩
  have growA : ∀ {ι2 : List Addr} {H2 : Hp}, Stp γ.ι ι2 H H2 → Grows H (γ.add P).bar ((γ.to ι2).add P).bar := fun s a h => by
    rcases Gho.add_bar.mp h with h | h
    · rcases Gho.grows s a h with q | q
      · exact .inl (add_fw a q)
      · exact .inr q
    · exact .inl (Gho.add_bar.mpr (.inr h))
  have biA : ∀ a ∈ γ.ι, (γ.add P).bar a := fun a h => add_fw a (γ.bi a h)
  unfold elD at p
  revert p
  cases mt ρ g with
  | bad => exact fun p => p
  | exc x g1 => exact fun p => p.elim
  | ok c g1 =>
    intro p b ι1 H1 s1 G1 e1
    subst e1
    have hP1 : H1 P = some o := s1.ext P _ upd_same nι
    have n1 : P ∉ ι1 := s1.not (by rw [upd_same]; simp) nι
    have cut : ∀ {ι2 : List Addr} {H2 : Hp}, Stp γ.ι ι2 (upd H P o) H2 → Stp γ.ι ι2 H (era H2 P) := fun s => by
      have := s.era (p := P)
      rw [upd_era nP] at this
      exact this
    cases b with
    | false =>
      simp only [Bool.false_eq_true, if_false, List.append_nil] at p ⊢
      rw [← era_upd hP1]
      exact p.2 ι1 _ o (cut s1) ((G1.era (γ.to ι1).add_self hP1 so n1).fewer add_fw) era_self n1 ⟨pp, ef, dA.keep (cut s1) biA (growA (cut s1))⟩
    | true =>
      simp only [if_true] at p ⊢
      refine ⟨_, ρ, g1, R1.step s1 G1, ?_⟩
      revert p
      cases mk ρ g1 with
      | bad => exact fun p => p
      | exc x g2 => exact fun p => p.elim
      | ok k g2 =>
        intro p y ι2 H2 s2 G2 r2
        have hP2 : H2 P = some o := s2.ext P _ hP1 n1
        have n2 : P ∉ ι2 := s2.not (by rw [hP1]; simp) n1
        refine ⟨_, ρ, g2, (R1.step s1 G1).step s2 G2, ?_⟩
        dsimp only at p
        revert p
        cases mv ρ g2 with
        | bad => exact fun p => p
        | exc x g3 => exact fun p => p.elim
        | ok v g3 =>
          intro p z ι3 H3 s3 G3 r3
          dsimp only at p
          have hP3 : H3 P = some o := s3.ext P _ hP2 n2
          have n3 : P ∉ ι3 := s3.not (by rw [hP2]; simp) n2
          have s123 := (s1.trans s2).trans s3
          have sc := cut s123
          have bars : ∀ a ∈ ι2, ((γ.to ι2).add P).bar a := fun a h => .inl h
          have r2' : RelD T ι3 ((γ.to ι3).add P).bar H3 k y := r2.keep s3 bars (Gho.grows (γ := (γ.add P).to ι2) s3)
          -- the entry is told at H3, where P stands
          have dE : DctA T ι3 ((γ.to ι3).add P).bar (era H3 P) P pp.1 pp.2 o := dA.keep sc biA (growA sc)
          have d3 : DctA T ι3 ((γ.to ι3).add P).bar H3 P pp.1 pp.2 o := dE.keep (.same era_same) (fun a h => .inl h) fun a h => .inl h
          have hroom := p.1
          have hfit := hroom.1
          have hsome := hroom.2
          have ek : tupK k = true := by
            rw [foldP_app, ef] at hsome
            cases q : tupK k with
            | true => rfl
            | false => simp [stepP, q] at hsome
          have hlen : pp.1.length < 16777216 := by
            have := foldP_le (p := ([], [])) ef
            unfold fits at hfit
            simp only [decide_eq_true_eq, List.length_append, List.length_cons, List.length_nil] at hfit this
            omega
          obtain ⟨o', hadd, ⟨bs', ws', eo, q1, q2⟩, hl', hk'⟩ := d3.put ok rm hP3 ek r2' r3 hlen
          refine ⟨o', hadd, fun ep => ?_⟩
          rw [upd_era2]
          refine p.2 ι3 _ (o' ep) sc ((G3.era (γ.to ι3).add_self hP3 so n3).fewer add_fw) era_self n3 ⟨putK2 pp.1 pp.2 k v, ?_, ⟨bs', ws', ⟨ep, by rw [eo]⟩, q1.era (γ.to ι3).add_self hP3 so, q2.era (γ.to ι3).add_self hP3 so⟩, hl', hk'⟩
          rw [foldP_app, ef]
          simp [stepP, ek]
theorem dc_test {T : Wd} {W : WX} {X : Cx} {mi : EvI} {vs sl : List Nat} {t : Tg} {mt : EvB} {mk mv : Ev} (ok : Ok T X) (rm : Rm X) (hs : ∀ i ∈ sl, i ∈ vs) {σ : L2.St} {H : Hp} {Q : VK} (h : tX T W (rD T) (mDc mi vs t (elD mt mk mv)) σ H Q) :
    tMk (tI T W Stays mi) (tG T sl t) (tX T W0 rB mt) (stD T X mk mv) vs (fun P => .ext (DctN T.P T.w P 0 [] [] [])) σ H Q := by
  obtain ⟨γ, ρ, g, R, p⟩ := h
  refine ⟨γ, ρ, g, R, ?_⟩
  unfold mDc at p
  revert p
  cases mi ρ g with
  | bad => exact fun p => p
  | exc x g1 => exact fun p => p
  | ok dd g1 =>
    intro p J K ι1 H1 hK okJ s1 G1 k1 P nP
    dsimp only at p
    have R1 := R.step s1 G1
    have nι : P ∉ ι1 := fun z => G1.tracked P z nP
    have W := turns (C := accD T P) (st := stDT T X mt mk mv P) (g0 := tG T sl t) (vs := vs) (Qd := fun H => Q (.ref P) H) (P := P) (sl := sl) (t := t) (ms := elD mt mk mv) (dd := dd) (J := J) (a0 := []) (o0 := .ext (DctN T.P T.w P 0 [] [] [])) hK okJ (fun _ _ _ _ h => h) hs (stg_dct ok rm) (R1.hides vs) wipe_wipe (fun i h => hides_oa h) nP (by rw [Gho.hides_ι]; exact nι) (by
        rw [Gho.hides_ι]
        exact hK _ _ _ _ _ _ .refl (γ.to ι1).bi (fun a h => .inl (Gho.hides_bar.mp h)) k1) ⟨([], []), rfl, ⟨⟨[], [], ⟨0, rfl⟩, .nil, .nil⟩, rfl, rfl⟩⟩ (by
      revert p
      cases gaL t (elD mt mk mv) (wipeE ρ vs) dd g1 with
      | bad => exact fun p => p
      | exc x g' => exact fun p => p.elim
      | ok ys g' =>
        dsimp only
        cases hf : foldP ys with
        | none => exact fun p => p.elim
        | some pp =>
          dsimp only
          split
          · rename_i hfit
            refine fun p => ⟨⟨by simpa using hfit, by simp [hf]⟩, fun ι5 H5 o5 s5 G5 n5 np5 A5 => ?_⟩
            rw [Gho.hides_ι] at s5
            obtain ⟨pp', ef, dA⟩ := A5
            simp only [List.nil_append, hf, Option.some.injEq] at ef
            subst ef
            have dB : DctA T ι5 (γ.to ι5).bar H5 P pp.1 pp.2 o5 := dA.fewer (bar' := (γ.to ι5).bar) fun a h => Gho.add_bar.mpr (.inl (hides_bi (γ := γ.to ι1).mpr h))
            have G6 : GR T ι5 (γ.to ι5).bar H5 g' := G5.fewer fun a h => hides_bi.mpr h
            have gr : Grows H5 (γ.to ι5).bar (γ.to ι5).bar := fun a h => .inl h
            have nb : ¬ (γ.to ι5).bar P := fun z => (R.step (s1.trans s5) G6).bart P z n5
            refine p (.ref P) ι5 _ ((s1.trans s5).trans (.same (same_lay n5))) (G6.keep (same_lay n5) (γ.to ι5).bi gr) ?_
            obtain ⟨⟨bs, ws, ⟨ep, eo⟩, q1, q2⟩, hl, hk⟩ := dB
            have hkk : ∀ k ∈ pp.1, tupK k = true := fun k hk' => List.all_eq_true.mp hk k hk'
            simp only [RelD]
            refine ⟨P, bs.map V.ref, ws, rfl, nb, q1.keep (.same (same_lay n5)) (γ.to ι5).bi gr, q2.keep (.same (same_lay n5)) (γ.to ι5).bi gr, hl, .inr ⟨bs, rfl, ?_, ?_, ep, by rw [upd_same, eo]⟩⟩
            · have : ∀ {l : List D}, (∀ k ∈ l, tupK k = true) → isKs l = true := by
                intro l
                induction l with
                | nil => intro _; rfl
                | cons x l ih => intro h; simp only [isKs, (tupK_isK (h x (List.mem_cons_self ..))).1, ih fun k hk => h k (List.mem_cons_of_mem _ hk), Bool.and_self]
              exact this hkk
            · have : ∀ {l : List D}, (∀ k ∈ l, tupK k = true) → ∀ k ∈ nks l, k.depth ≤ 8 := by
                intro l
                induction l with
                | nil => intro _ k hk; simp [nks] at hk
                | cons x l ih =>
                  intro h k hk
                  simp only [nks, List.mem_cons] at hk
                  rcases hk with rfl | hk
                  · exact (tupK_isK (h x (List.mem_cons_self ..))).2.1
                  · exact ih (fun k hk => h k (List.mem_cons_of_mem _ hk)) k hk
              exact this hkk
          · exact fun p => p.elim)
    obtain ⟨W1, w0, turn⟩ := W
    refine ⟨W1, w0, fun i m H w => ?_⟩
    rcases turn i m H w with t1 | ⟨t1, Nx, t2, t3⟩
    · exact .inl t1
    · exact .inr ⟨t1, Nx, t2, t3⟩
section
variable {T : Wd} {W : WX} {X : Cx} {kx vx tg iter : Expr} {ifs : List Expr} {scope : Scope} {pos : Pos} {mi : EvI} {t : Tg} {mt : EvB} {mk mv : Ev} {sl : List Nat}
theorem ee_dc (ok : Ok T X) (rm : Rm X) (hc : X.calm = true) (hN : X.N.Nodup) (hi : EIw T W X tg iter mi) (own : List (Str × Nat)) (bo : blkC X.N X.env.scope scope own = true)
    (hg : ∀ (s : Shared) (H : Hp) (C : Addr) (cl : List (Str × Addr)) (fp : List Addr), GT T (X.blk s H scope (compEnvC scope cl C X.env) fp) tg sl t)
    (ht : ∀ (s : Shared) (H : Hp) (C : Addr) (cl : List (Str × Addr)) (fp : List Addr), PTs (X.blk s H scope (compEnvC scope cl C X.env) fp) ifs (tX T W0 rB mt))
    (hk : ∀ (s : Shared) (H : Hp) (C : Addr) (cl : List (Str × Addr)) (fp : List Addr), EE T W0 (X.blk s H scope (compEnvC scope cl C X.env) fp) kx mk)
    (he : ∀ (s : Shared) (H : Hp) (C : Addr) (cl : List (Str × Addr)) (fp : List Addr), EE T W0 (X.blk s H scope (compEnvC scope cl C X.env) fp) vx mv)
    (hs : (sl.all fun i => decide (i ∈ own.map (·.2))) = true := by rfl) (hf : ∀ x, foldedSetIterable iter X.env x = pure x := by intro _; rfl) :
    EE T W X (.DictComp kx vx [⟨tg, iter, ifs, 0⟩] scope pos) (mDc mi (own.map (·.2)) t (elD mt mk mv)) := by
  refine PE.imp (pe_mk (new := newDict) (pos' := firstIterPos [⟨tg, iter, ifs, 0⟩] pos) (u0 := fun P => .ext (DctN T.P T.w P 0 [] [] [])) (st := stD T X mk mv)
    (sw := fun cenv P N Er s => wpAny (model X.prog X.w) X.A (eval kx cenv) (fun kv s4 => wpAny (model X.prog X.w) X.A (eval vx cenv) (fun vv s5 => wpAny (model X.prog X.w) X.A (dictSet P kv vv) (fun _ s6 => N s6) Er s5) Er s4) Er s)
    hc hN hi (blkOk_by bo) hg ht rfl hf (arm_eval_DictComp ..) ?_ (fun cenv itv P R I turn n s hI => compLoop_anyD I turn n hI) (fun cenv itv P R s h1 h2 => codeAny_compStart_dict h1 h2) ?_) fun σ H Q h => dc_test ok rm (fun i h => of_decide_eq_true (List.all_eq_true.mp hs i h)) h
  · intro pins σ H s Q I hQ
    refine wpAny_newObj_type (hQ _ ?_ (fun b o e => Heap.get?_push_of_some _ e) (Heap.size_push ..))
    refine I.laid (t' := s.toks) (fun b o e => Heap.get?_push_of_some _ e) (Nat.le_refl _) ?_
    have big := I.big
    refine ⟨⟨by simpa using Nat.ne_of_gt big, [], .nil, _, #[], Heap.get?_push_size _ rfl, ⟨rfl, rfl, rfl⟩, rfl, rfl, List.nodup_nil⟩, ⟨_, Heap.get?_push_size _ rfl⟩, fun h1 h2 p k => ?_⟩
    obtain ⟨p1, us2, p2, o3, es3, p3, p4⟩ := p
    exact ⟨p1, us2, p2, o3, es3, k _ p3, p4⟩
  · intro s0 H0 C cl fp pins σ H s P Nx N Er I h hN
    refine thnF ((hk s0 H0 C cl fp).run pins s σ H _ I h) fun kv s4 ⟨y, H4, I4, r4, h4⟩ => ?_
    refine thnF ((he s0 H0 C cl fp).run pins s4 σ H4 _ I4 h4) fun vv s5 ⟨z, H5, I5, r5, o', hadd, nx⟩ => ?_
    exact hadd (X.blk s0 H0 scope (compEnvC scope cl C X.env) fp) pins σ s5 Er _ kv vv rfl rfl rfl rfl I5 r4 r5 fun s6 ep I6 => hN s6 _ I6 (nx ep)
end
end Z
namespace Z
open PySem PySem.Spec PyProof.Rows L2
set_option autoImplicit false
theorem tupK_leaf {k : D} (h : tupK k = true) : lf k = none := by
  obtain ⟨_, _, ds, rfl⟩ := tupK_isK h
  rfl
section
variable {T : Wd} {W : WX} {X : Cx} {pins : List (Addr × Obj)} {σ : L2.St} {H : Hp} {s : Shared} {ι : List Addr} {bar : Addr → Prop} {ks vs : List D} {x : V}
/-- a dict whose keys are tuples, read -/
theorem dct_read (ok : Ok T X) (I : Inv X pins σ H s) (r : RelW T ι bar H (.dct ks vs) x) (hk : ks.all tupK = true) :
    ∃ a, x = .ref a ∧ (a == sysModules) = false ∧ ∃ (bs : List Addr) (us : List Value) (ws : List V), Vals ws us ∧ RelDs T ι bar H vs ws ∧ s.heap.DictOfH (nestedKind T.P T.w) a (z3 (nks ks) bs us) ∧ (nks ks).length = bs.length ∧ (nks ks).length = us.length := by
  have core : ∀ (a : Addr) (us ws : List V), x = .ref a → RelDs T ι bar H ks us → RelDs T ι bar H vs ws → ks.length = vs.length → ((∃ ls, ks ≠ [] ∧ lfs ks = some ls ∧ H a = some (.ext (DctF T.P T.w a ls ws))) ∨ (∃ bs : List Addr, us = bs.map V.ref ∧ isKs ks = true ∧ (∀ k ∈ nks ks, k.depth ≤ 8) ∧ ∃ ep, H a = some (.ext (DctN T.P T.w a ep (nks ks) bs ws)))) →
      ∃ a, x = .ref a ∧ (a == sysModules) = false ∧ ∃ (bs : List Addr) (us : List Value) (ws : List V), Vals ws us ∧ RelDs T ι bar H vs ws ∧ s.heap.DictOfH (nestedKind T.P T.w) a (z3 (nks ks) bs us) ∧ (nks ks).length = bs.length ∧ (nks ks).length = us.length := by
    intro a us ws e r1 r2 hl alt
    rcases alt with ⟨ls, ne, el, hh⟩ | ⟨bs, eu, _, _, ep, hh⟩
    · cases ks with
      | nil => exact (ne rfl).elim
      | cons k ks =>
        have hk : tupK k = true ∧ ks.all tupK = true := by simpa using hk
        simp only [lfs, tupK_leaf hk.1] at el
        cases el
    · subst eu
      obtain ⟨h1, us2, rv, hd, nd⟩ := dct_at ok I hh hk r1
      have l1 : bs.length = ks.length := by have := r1.length; rw [List.length_map] at this; exact this
      exact ⟨a, e, h1, bs, us2, ws, rv, r2, hd, by rw [nks_len, l1], by rw [nks_len, ← rv.length, r2.length, hl]⟩
  rcases r with r | ⟨a, e, _, r⟩
  · simp only [RelD] at r
    obtain ⟨a, us, ws, e, _, r1, r2, hl, alt⟩ := r
    exact core a us ws e r1 r2 hl alt
  · obtain ⟨us, ws, r1, r2, hl, alt⟩ := r
    exact core a us ws e r1 r2 hl alt
/-- the entry at a key -/
theorem entry_of {bs : List Addr} {us : List Value} {ws : List V} {k : NestedKey} {j : Nat} {d : D} (rv : Vals ws us) (r : RelDs T ι bar H vs ws) (h1 : (nks ks).length = bs.length) (h2 : (nks ks).length = us.length) (hj : ixN (nks ks) k = some j) (hd : vs[j]? = some d) :
    ∃ u w, valueAt (pairsH (z3 (nks ks) bs us)) k = some u ∧ L2.RelV w u ∧ RelD T ι bar H d w := by
  obtain ⟨w, e1, r1⟩ := r.get hd
  obtain ⟨u, e2, r2⟩ := rv.get e1
  refine ⟨u, w, ?_, r2, r1⟩
  rw [valueAt_pairsH, at_z3 h1 h2, hj]
  have hl := ixN_lt hj
  have : (bs.zip us)[j]? = some (bs[j]'(by omega), us[j]'(by omega)) := by
    rw [List.getElem?_eq_getElem (by rw [List.length_zip]; omega), List.getElem_zip]
  rw [Option.bind_some, this]
  have : us[j]? = some (us[j]'(by omega)) := List.getElem?_eq_getElem _
  rw [e2] at this
  simp only [Option.map_some, Option.some.injEq] at this ⊢
  exact this.symm
end
def mDix (o k : Ev) : Ev := fun ρ g => (o ρ g).bind fun d g1 => match d with
  | .dct ks vs => (k ρ g1).bind fun e g2 => if tupK e = true ∧ ks.all tupK = true then (match ixN (nks ks) (nk e) with
    | some j => ret (vs[j]?) g2
    | none => .bad) else .bad
  | _ => .bad
def mDgt (o k z : Ev) : Ev := fun ρ g => (o ρ g).bind fun d g1 => match d with
  | .dct ks vs => if ks.all tupK = true then ((k ρ g1).bind fun e g2 => (z ρ g2).bind fun f g3 => if tupK e = true ∧ ks.all tupK = true then (match ixN (nks ks) (nk e) with
    | some j => ret (vs[j]?) g3
    | none => .ok f g3) else .bad) else .bad
  | _ => .bad
section
variable {T : Wd} {W : WX} {X : Cx} {o i e f : Expr} {mo mk mz : Ev} {pos apos cpos : Pos}
theorem tup_ref {ι : List Addr} {bar : Addr → Prop} {H : Hp} {k : D} {y : V} (h : tupK k = true) (r : RelD T ι bar H k y) : ∃ b, y = .ref b := by
  obtain ⟨_, _, ds, rfl⟩ := tupK_isK h
  simp only [RelD] at r
  obtain ⟨b, _, e, _⟩ := r
  exact ⟨b, e⟩
theorem ee_dix (ok : Ok T X) (rm : Rm X) (ho : EW T W X o mo) (hi : EE T W X i mk) (hs : NoSl i := by exact fun _ _ => rfl) : EE T W X (.Subscript o i pos) (mDix mo mk) := by
  refine ⟨fun pins s σ H Q I h => ?_⟩
  obtain ⟨γ, ρ, g, S, p⟩ := h
  refine subD_of PySem.F.slot_dict_getitem.lookup hs (thn (ho.run pins s σ H (fun x H1 => ∃ γ1 g1 d, StR T γ1 H1 ρ σ g1 ∧ RelW T γ1.ι γ1.bar H1 d x ∧ Post T γ1 H1 σ W (rD T) Q (match d with
      | .dct ks vs => (mk ρ g1).bind fun e g2 => if tupK e = true ∧ ks.all tupK = true then (match ixN (nks ks) (nk e) with
        | some j => ret (vs[j]?) g2
        | none => .bad) else .bad
      | _ => .bad)) I ⟨γ, ρ, g, S, p.bind fun d g1 _ v ι1 H1 s1 G1 r1 p1 => ⟨γ.to ι1, g1, d, S.step s1 G1, r1, p1⟩⟩) fun u s1 ⟨x, H1, I1, rx, γ1, g1, d, S1, r1, p1⟩ => ?_)
  cases d with
  | dct ks vs =>
    refine thn (hi.run pins s1 σ H1 (fun y H2 => ∃ γ2 g2 e, StR T γ2 H2 ρ σ g2 ∧ RelW T γ2.ι γ2.bar H2 (.dct ks vs) x ∧ RelD T γ2.ι γ2.bar H2 e y ∧ Post T γ2 H2 σ W (rD T) Q (if tupK e = true ∧ ks.all tupK = true then (match ixN (nks ks) (nk e) with
        | some j => ret (vs[j]?) g2
        | none => .bad) else .bad)) I1 ⟨γ1, ρ, g1, S1, p1.bind fun e g2 _ v ι2 H2 s2 G2 r2 p2 => ⟨γ1.to ι2, g2, e, S1.step s2 G2, r1.keep s2 γ1.bi (Gho.grows s2), r2, p2⟩⟩) fun iv s2 ⟨y, H2, I2, ry, γ2, g2, e, S2, rx2, r2, p2⟩ => ?_
    split at p2
    · rename_i hc
      obtain ⟨a, ex, hsys, bs, us, ws, rv, rw_, hd, l1, l2⟩ := dct_read ok I2 rx2 hc.2
      subst ex
      cases rx
      refine ⟨hd.typeIs, ?_⟩
      cases hj : ixN (nks ks) (nk e) with
      | none => rw [hj] at p2; exact p2.elim
      | some j =>
        rw [hj] at p2
        dsimp only at p2
        cases hv : vs[j]? with
        | none => rw [hv] at p2; exact p2.elim
        | some dd =>
          rw [hv] at p2
          obtain ⟨u, w, e1, e2, e3⟩ := entry_of rv rw_ l1 l2 hj hv
          obtain ⟨b, rfl⟩ := tup_ref hc.1 r2
          cases ry
          obtain ⟨q1, q2, _⟩ := tupK_isK hc.1
          rw [ok.P, ok.w]
          refine getItem_keyed (knd := nestedKind T.P T.w) (k := nk e) ?_ ⟨nested_of ok I2 q1 r2 (show L2.RelV (.ref b) (.ref b) from rfl), q2⟩ ⟨_, hd, rfl⟩ e1 ?_
          · show X.A.in1.units + 8 < cLine
            have := rm.hu
            show X.A.units + 1 + 8 < cLine
            omega
          · exact ⟨w, H2, I2.tok _, e2, p2 w γ2.ι H2 .refl S2.cells e3⟩
    · exact p2.elim
  | _ => exact p1.elim
/-- d.get(k, z) -/
theorem ee_dgt (ok : Ok T X) (rm : Rm X) (ho : EW T W X o mo) (he : EE T W X e mk) (hf : EE T W X f mz) (m : M2 X o "get" apos e f cpos := by exact ⟨rfl, rfl, rfl, rfl⟩) : EE T W X (.Call (.Attribute o "get" apos) [e, f] [] cpos) (mDgt mo mk mz) := by
  refine ⟨fun pins s σ H Q I h => ?_⟩
  obtain ⟨γ, ρ, g, S, p⟩ := h
  refine wpAny_Call_method m.base m.few m.line PySem.F.plainAttrs_dict PySem.F.slot_dict_get PySem.F.type_dict_get (thn (ho.run pins s σ H (fun x H1 => ∃ γ1 g1 d, StR T γ1 H1 ρ σ g1 ∧ RelW T γ1.ι γ1.bar H1 d x ∧ Post T γ1 H1 σ W (rD T) Q (match d with
      | .dct ks vs => if ks.all tupK = true then ((mk ρ g1).bind fun e g2 => (mz ρ g2).bind fun f g3 => if tupK e = true ∧ ks.all tupK = true then (match ixN (nks ks) (nk e) with
        | some j => ret (vs[j]?) g3
        | none => .ok f g3) else .bad) else .bad
      | _ => .bad)) I ⟨γ, ρ, g, S, p.bind fun d g1 _ v ι1 H1 s1 G1 r1 p1 => ⟨γ.to ι1, g1, d, S.step s1 G1, r1, p1⟩⟩) fun u s1 ⟨x, H1, I1, rx, γ1, g1, d, S1, r1, p1⟩ => ?_)
  cases d with
  | dct ks vs =>
    by_cases hall : ks.all tupK = true
    · dsimp only at p1
      rw [if_pos hall] at p1
      obtain ⟨a, ex, hsys, bs0, us0, ws0, rv0, rw0, hd0, _, _⟩ := dct_read ok I1 r1 hall
      subst ex
      cases rx
      refine ⟨hd0.typeIs, fun b eb => ?_, ?_⟩
      · cases eb
        obtain ⟨ob, es, ep, h1, h2, _⟩ := hd0
        exact ⟨ob, h1, h2.2.1⟩
      rw [m.trees]
      refine Calls.callWith_builtin rfl (Calls.evalArgs_plain (Calls.spliced_cons (thn (he.run pins s1 σ H1 (fun y H2 => ∃ γ2 g2 e, StR T γ2 H2 ρ σ g2 ∧ RelW T γ2.ι γ2.bar H2 (.dct ks vs) (.ref a) ∧ RelD T γ2.ι γ2.bar H2 e y ∧ Post T γ2 H2 σ W (rD T) Q ((mz ρ g2).bind fun f g3 => if tupK e = true ∧ ks.all tupK = true then (match ixN (nks ks) (nk e) with
        | some j => ret (vs[j]?) g3
        | none => .ok f g3) else .bad)) I1 ⟨γ1, ρ, g1, S1, p1.bind fun e g2 _ v ι2 H2 s2 G2 r2 p2 => ⟨γ1.to ι2, g2, e, S1.step s2 G2, r1.keep s2 γ1.bi (Gho.grows s2), r2, p2⟩⟩) fun iv s2 ⟨y, H2, I2, ry, γ2, g2, e, S2, rx2, r2, p2⟩ => Calls.spliced_cons (thn (hf.run pins s2 σ H2 (fun z H3 => ∃ γ3 g3 f, StR T γ3 H3 ρ σ g3 ∧ RelW T γ3.ι γ3.bar H3 (.dct ks vs) (.ref a) ∧ RelD T γ3.ι γ3.bar H3 e y ∧ RelD T γ3.ι γ3.bar H3 f z ∧ Post T γ3 H3 σ W (rD T) Q (if tupK e = true ∧ ks.all tupK = true then (match ixN (nks ks) (nk e) with
        | some j => ret (vs[j]?) g3
        | none => .ok f g3) else .bad)) I2 ⟨γ2, ρ, g2, S2, p2.bind fun f g3 _ v ι3 H3 s3 G3 r3 p3 => ⟨γ2.to ι3, g3, f, S2.step s3 G3, rx2.keep s3 γ2.bi (Gho.grows s3), r2.keep s3 γ2.bi (Gho.grows s3), r3, p3⟩⟩) fun fv s3 ⟨z, H3, I3, rz, γ3, g3, f, S3, rx3, r3, rf, p3⟩ => Calls.spliced_nil ?_))))
      split at p3
      · rename_i hc
        obtain ⟨a', ex, hsys, bs, us, ws, rv, rw_, hd, l1, l2⟩ := dct_read ok I3 rx3 hc.2
        cases ex
        obtain ⟨b, rfl⟩ := tup_ref hc.1 r3
        cases ry
        obtain ⟨q1, q2, _⟩ := tupK_isK hc.1
        have isk : (nestedKind T.P T.w).is s3.heap (nk e) b := ⟨nested_of ok I3 q1 r3 (show L2.RelV (.ref b) (.ref b) from rfl), q2⟩
        have room : (nestedKind T.P T.w).room X.A.in1 := by
          show X.A.units + 1 + 8 < cLine
          have := rm.hu; omega
        rw [ok.P, ok.w]
        refine getOr_keyed (knd := nestedKind T.P T.w) (k := nk e) room isk hsys ⟨_, hd, rfl⟩ ?_
        cases hj : ixN (nks ks) (nk e) with
        | none =>
          rw [hj] at p3
          have : valueAt (pairsH (z3 (nks ks) bs us)) (nk e) = none := by rw [valueAt_pairsH, at_z3 l1 l2, hj]; rfl
          rw [this]
          exact ⟨z, H3, I3.tok _, rz, p3 z γ3.ι H3 .refl S3.cells rf⟩
        | some j =>
          rw [hj] at p3
          dsimp only at p3
          cases hv : vs[j]? with
          | none => rw [hv] at p3; exact p3.elim
          | some dd =>
            rw [hv] at p3
            obtain ⟨u, w, e1, e2, e3⟩ := entry_of rv rw_ l1 l2 hj hv
            rw [e1]
            exact ⟨w, H3, I3.tok _, e2, p3 w γ3.ι H3 .refl S3.cells e3⟩
      · exact p3.elim
    · dsimp only at p1
      rw [if_neg hall] at p1
      exact p1.elim
  | _ => exact p1.elim
end
end Z
namespace Z
open PySem PySem.Spec PyProof.Rows L2
set_option autoImplicit false
section
variable {prog : Program} {w : World} {A : Around} {E : Value → Shared → Prop} {s : Shared}
theorem star_tup {l : Addr} {items : Array Value} {n i : Nat} {Q : List Value → Shared → Prop} (hl : IsTup s.heap l items) (hh : A.handled = none) (hi : i < n) (hn : n ≤ items.size + 1) (hz : items.size ≤ 16384)
    (hQ : ∀ (h' : Heap) (tk : Nat), (∀ b o, s.heap.get? b = some o → h'.get? b = some o) → Q (items.toList.take i ++ [.ref h'.objs.size] ++ (items.toList.drop i).drop (items.size + 1 - n)) { s with heap := h'.push { cls := .type "list", data := .seq ((items.toList.drop i).take (items.size + 1 - n)).toArray }, toks := tk }) :
    wpAny (model prog w) A (unpackItems (.ref l) n (some i)) Q E s := by
  have ne : l ≠ s.heap.objs.size := by
    obtain ⟨o, ho, _⟩ := hl
    exact Nat.ne_of_lt (Heap.lt_size ho)
  unfold unpackItems
  refine wpAny_bind ?_
  unfold notIterableAtAll
  refine wpAny_bind (wpAny_specialOf hl.typeIs slot_tuple_iter.lookup (wpAny_pure ?_))
  simp only [Bool.false_eq_true, if_false]
  refine wpAny_bind (wpAny_holding (iter_tuple hl ?_))
  refine wpAny_bind (wpAny_holding (draw_tuple ne i 0 _ _ ⟨_, Heap.get?_push_size _ rfl, rfl, rfl⟩ (hl.push _) (by omega) fun h1 it1 same1 => ?_))
  have tl : IsTup h1 l items := (hl.push _).extBut same1.extBut ne
  rw [Nat.zero_add] at it1
  have it1' := it1
  have tl' := tl
  obtain ⟨oi, ei, _⟩ := it1'
  obtain ⟨ol, el, _⟩ := tl'
  rw [List.drop_zero]
  have len1 : (items.toList.take i).length = i := by rw [List.length_take, Array.length_toList]; omega
  have not1 : ¬ (items.toList.take i).length < i := by omega
  rw [if_neg not1]
  refine wpAny_bind (wpAny_holding (PySem.W.kun_collect (s := { s with heap := h1 }) (T := "tuple_iterator") (.inr (.inr (.inr rfl))) (PySem.Walks.tuple (A := A.in1) hh s.heap.objs.size l ne items) (fun j u st => st.1.typeIs) (k := i) (by omega) ⟨it1, tl⟩ (Heap.lt_size ei) (Heap.lt_size el) (fun h2 tk keep2 => ?_) (by rw [sizeLine_eq]; omega)))
  have len2 : (items.toList.drop i).length = items.size - i := by rw [List.length_drop, Array.length_toList]
  have mid : (items.toList.drop i).length - (n - 1 - i) = items.size + 1 - n := by rw [len2]; omega
  have not2 : ¬ (items.toList.drop i).length < n - 1 - i := by rw [len2]; omega
  show wpAny _ _ (if (items.toList.drop i).length < n - 1 - i then _ else _) _ _ _
  rw [if_neg not2]
  show wpAny _ _ (newList ((items.toList.drop i).take ((items.toList.drop i).length - (n - 1 - i))) >>= fun d => pure (items.toList.take i ++ [d] ++ (items.toList.drop i).drop ((items.toList.drop i).length - (n - 1 - i)))) _ _ _
  rw [mid]
  have old : ∀ b o, s.heap.get? b = some o → h2.get? b = some o := fun b o e => by
    have nb : b ≠ s.heap.objs.size := Nat.ne_of_lt (Heap.lt_size e)
    exact keep2 b o nb (same1.extBut b o nb (Heap.get?_push_of_some _ e))
  exact wpAny_bind (wpAny_newList (wpAny_pure (hQ h2 tk old)) (by rw [List.length_take, len2, sizeLine_eq]; omega))
end
/-- n targets, the i-th of them starred -/
def gSt (n i : Nat) (u : Tgs) : Tg := fun d ρ => match d with
  | .tup ds => if i < n ∧ n ≤ ds.length + 1 ∧ ds.length ≤ 16384 then u (ds.take i ++ [.lst ((ds.drop i).take (ds.length + 1 - n))] ++ (ds.drop i).drop (ds.length + 1 - n)) ρ else none
  | _ => none
theorem fresh_of {X : Cx} {pins : List (Addr × Obj)} {σ : L2.St} {H : Hp} {s : Shared} {h' : Heap} {tk : Nat} (I : Inv X pins σ H s) (hk : ∀ b o, s.heap.get? b = some o → h'.get? b = some o) : H h'.objs.size = none := by
  cases c : H h'.objs.size with
  | none => rfl
  | some o => exact absurd ((I.kept (t' := tk) hk).hok _ o c).lt (Nat.lt_irrefl _)
section
variable {T : Wd} {X : Cx} {es : List Expr} {pos : Pos} {u : Tgs} {sl : List Nat}
theorem gt_star {k n i : Nat} (hc : X.calm = true) (hK : X.K = T.K) (h : GTs T X es sl u) (hn : (assignEach es X.env).length = n := by rfl) (hst : (assignEach es X.env).findIdx? (·.1) = some i := by rfl) : GT T X (.Tuple es k pos) sl (gSt n i u) := by
  refine ⟨fun pins s σ H v w Q I rv q => ?_⟩
  obtain ⟨γ, ρ, g, d, ρ', R, r, e, q⟩ := q
  unfold gSt at e
  split at e
  · rename_i ds
    split at e
    · rename_i hb
      simp only [RelD] at r
      obtain ⟨a, vs, rfl, sq, rs⟩ := r
      cases rv
      obtain ⟨its, rvs, ht, _⟩ := I.tuple (hK ▸ sq)
      have l1 := rvs.length
      have l2 := rs.length
      have ls : its.toArray.size = ds.length := by rw [List.size_toArray, ← l1, l2]
      rw [PyProof.Rows.assign_Tuple]
      refine wpAny_bind (wpAny_standAt ?_)
      unfold unpack
      rw [hn, hst]
      refine wpAny_bind (wpAny_holding (star_tup ht (I.ok.hd hc) hb.1 (by rw [ls]; exact hb.2.1) (by rw [ls]; exact hb.2.2) fun h' tk hk => ?_))
      have nf : H h'.objs.size = none := fresh_of (tk := tk) I hk
      have I1 : Inv X pins σ H { s with heap := h', toks := tk } := I.kept hk
      have mids : Vals ((vs.drop i).take (ds.length + 1 - n)) ((its.drop i).take (ds.length + 1 - n)) := (rvs.drop i).take _
      have I2 : Inv X pins σ (upd H h'.objs.size (.lst ((vs.drop i).take (ds.length + 1 - n)))) { s with heap := h'.push { cls := .type "list", data := .seq ((its.drop i).take (ds.length + 1 - n)).toArray }, toks := tk } := by
        refine I1.laid (t' := tk) (fun b o e => Heap.get?_push_of_some _ e) (Nat.le_refl _) ⟨?_, _, 0, mids, Heap.get?_push_size _ rfl⟩
        rw [List.length_take, List.length_drop, l2, sizeLine_eq]
        omega
      have sm : Same H (upd H h'.objs.size (.lst ((vs.drop i).take (ds.length + 1 - n)))) := same_lay nf
      have gr : Grows H γ.bar γ.bar := fun a h => .inl h
      have rs2 := rs.keep (.same sm) γ.bi gr
      have big : RelDs T γ.ι γ.bar (upd H h'.objs.size (.lst ((vs.drop i).take (ds.length + 1 - n)))) (ds.take i ++ [.lst ((ds.drop i).take (ds.length + 1 - n))] ++ (ds.drop i).drop (ds.length + 1 - n)) (vs.take i ++ [.ref h'.objs.size] ++ (vs.drop i).drop (ds.length + 1 - n)) :=
        ((rs2.take i).append (.cons (RelD.newLst R.bart γ.bi nf ((rs.drop i).take _)) .nil)).append ((rs2.drop i).drop _)
      have vals : Vals (vs.take i ++ [V.ref h'.objs.size] ++ (vs.drop i).drop (ds.length + 1 - n)) (its.take i ++ [Value.ref h'.objs.size] ++ (its.drop i).drop (ds.length + 1 - n)) :=
        ((rvs.take i).append (.cons (show L2.RelV (.ref _) (.ref _) from rfl) .nil)).append ((rvs.drop i).drop _)
      rw [ls]
      simp only [List.size_toArray] at *
      refine h.run pins _ σ _ _ _ Q I2 (by simpa using vals) ⟨γ, ρ, g, _, ρ', R.same sm, big, e, fun γ' σ' H' sm' R' l' o' => q γ' σ' H' (fun b o h => sm' b o (sm b o h)) R' l' o'⟩
    · cases e
  · cases e
/-- the targets, a starred one among them -/
theorem gts_star {e : Expr} {p : Pos} {t : Tg} {sl' : List Nat} (h1 : GT T X e sl t) (h2 : GTs T X es sl' u) (hs : (assignEach (.Starred e p :: es) X.env).map (·.2) = assign e X.env :: (assignEach es X.env).map (·.2) := by rfl) : GTs T X (.Starred e p :: es) (sl ++ sl') (gCn t u) := by
  refine ⟨fun pins s σ H vs us Q I r h => ?_⟩
  obtain ⟨γ, ρ, g, d, ρ', R, rr, e1, q⟩ := h
  cases d with
  | nil => cases e1
  | cons d ds =>
    obtain ⟨x, xs, rfl, r1, r2⟩ := rr.uncons
    simp only [gCn] at e1
    split at e1
    · rename_i ρ1 e2
      cases r with
      | cons rv rvs =>
        rw [hs]
        refine assignInOrder_cons (thn (h1.run pins s σ H x _ (fun σ1 H1 => ∃ γ1, StR T γ1 H1 ρ1 σ1 g ∧ Less γ1 γ ∧ Only sl γ γ1 σ σ1 ∧ Same H H1) I rv ⟨γ, ρ, g, d, ρ1, R, r1, e2, fun γ1 σ1 H1 m1 R1 l1 k1 => ⟨γ1, R1, l1, k1, m1⟩⟩) fun _ s1 ⟨σ1, H1, I1, γ1, R1, l1, k1, m1⟩ => ?_)
        refine h2.run pins s1 σ1 H1 _ _ Q I1 rvs ⟨γ1, ρ1, g, ds, ρ', R1, l1.rels (r2.keep (.same m1) γ.bi fun a h => .inl h), e1, fun γ2 σ2 H2 m2 R2 l2 k2 => ?_⟩
        refine q _ _ H2 (fun a o h => m2 a o (m1 a o h)) R2 (l2.trans l1) ⟨k2.len.trans k1.len, fun j hj => ?_, fun j a hj h => ?_⟩
        · rw [k2.at_ j fun z => hj (List.mem_append_right _ z), k1.at_ j fun z => hj (List.mem_append_left _ z)]
        · exact k2.oa j a (fun z => hj (List.mem_append_right _ z)) (k1.oa j a (fun z => hj (List.mem_append_left _ z)) h)
    · cases e1
end
end Z
namespace Z
open PySem PySem.Spec PyProof.Rows L2
set_option autoImplicit false
section
variable (P : Program) (w : World)
def NoCls (n : Nat) (s : Shared) (v : Value) : Prop := ∀ (A : Around) (E : Value → Shared → Prop) (Q : Bool → Shared → Prop), Q false s → wpAny (model P w) A (ofAClassStatement n v) Q E s
def HashV (n : Nat) (s : Shared) (v : Value) : Prop := ∀ (A : Around) (E : Value → Shared → Prop) (Q : Bool → Shared → Prop), (∀ b, Q b s) → wpAny (model P w) A (hashByValue n v) Q E s
end
section
variable {P : Program} {w : World}
theorem NoCls.of {n : Nat} {s : Shared} {v : Value} (h : ofAClassStatement n v = pure false) : NoCls P w n s v := fun A E Q q => by rw [h]; exact wpAny_pure q
theorem HashV.of {n : Nat} {s : Shared} {v : Value} {b : Bool} (h : hashByValue n v = pure b) : HashV P w n s v := fun A E Q q => by rw [h]; exact wpAny_pure (q b)
theorem NoCls.tup {n : Nat} {s : Shared} {a : Addr} {o : Obj} {vs : Array Value} {m : Nat} (ho : s.heap.get? a = some o) (hc : o.cls = .type "tuple") (hd : o.data = .seq vs m) (hv : ∀ v ∈ vs.toList, NoCls P w n s v) : NoCls P w (n + 1) s (.ref a) := fun A E Q q => by
  have ty : s.TypeIs (.ref a) "tuple" := ⟨o, ho, hc⟩
  unfold ofAClassStatement
  refine wpAny_bind (wpAny_typeOf ty ?_)
  dsimp only
  simp only [show (("tuple" : String) == "tuple") = true from by decide, if_true]
  first
    | refine wpAny_bind (wpAny_pure ?_)
    | skip
  simp only [Bool.not_true, Bool.false_eq_true, if_false]
  show wpAny _ _ (seqItems? (.ref a) >>= _) _ _ s
  refine wpAny_bind (wpAny_seqItems ho hd ?_)
  dsimp only
  refine wpAny_bind ?_
  show wpAny _ _ (forIn vs _ _) _ _ s
  rw [← Array.forIn_toList]
  refine wpAny_forIn_list _ (fun more r s2 => (∀ v ∈ more, NoCls P w n s v) ∧ r.1 = none ∧ s2 = s) _ ?_ ?_ _ _ ⟨hv, rfl, rfl⟩
  · rintro v more r s2 ⟨all, _, rfl⟩
    refine wpAny_bind (all v List.mem_cons_self A E _ ?_)
    simp only [Bool.false_eq_true, if_false]
    exact wpAny_pure ⟨fun u hu => all u (List.mem_cons_of_mem _ hu), rfl, rfl⟩
  · rintro ⟨r1, r2⟩ s2 ⟨_, e, rfl⟩
    dsimp only at e
    subst e
    exact wpAny_pure q
theorem HashV.tup {n : Nat} {s : Shared} {a : Addr} {o : Obj} {vs : Array Value} {m : Nat} (ho : s.heap.get? a = some o) (hc : o.cls = .type "tuple") (hd : o.data = .seq vs m) (hv : ∀ v ∈ vs.toList, HashV P w n s v) : HashV P w (n + 1) s (.ref a) := fun A E Q q => by
  have ty : s.TypeIs (.ref a) "tuple" := ⟨o, ho, hc⟩
  unfold hashByValue
  refine wpAny_bind (wpAny_specialOf ty F.slot_tuple_hash.lookup ?_)
  show wpAny _ _ (seqItems? (.ref a) >>= _) _ _ s
  refine wpAny_bind (wpAny_seqItems ho hd ?_)
  refine wpAny_bind ?_
  show wpAny _ _ (forIn vs _ _) _ _ s
  rw [← Array.forIn_toList]
  refine wpAny_forIn_list _ (fun more r s2 => (∀ v ∈ more, HashV P w n s v) ∧ r.1 = none ∧ s2 = s) _ ?_ ?_ _ _ ⟨hv, rfl, rfl⟩
  · rintro v more r s2 ⟨all, _, rfl⟩
    refine wpAny_bind (all v List.mem_cons_self A E _ fun b => ?_)
    cases b with
    | true =>
      simp only [Bool.not_true, Bool.false_eq_true, if_false]
      exact wpAny_pure ⟨fun u hu => all u (List.mem_cons_of_mem _ hu), rfl, rfl⟩
    | false =>
      simp only [Bool.not_false, if_true]
      exact wpAny_pure (wpAny_pure (q false))
  · rintro ⟨r1, r2⟩ s2 ⟨_, e, rfl⟩
    dsimp only at e
    subst e
    exact wpAny_pure (q true)
mutual
theorem noCls_key : ∀ (k : NestedKey) (v : Value) (n : Nat) (s : Shared), NestedIs s.heap k v → k.depth ≤ n → NoCls P w n s v
  | .none, _, n, s, x, _ => by cases x; exact .of (by cases n <;> rfl)
  | .num i, _, n, s, x, _ => by cases x <;> exact .of (by cases n <;> rfl)
  | .text y, _, n, s, x, _ => by cases x; exact .of (by cases n <;> rfl)
  | .tup ks, _, n, s, x, hn => by
    cases x with
    | tup hg hc hd hk =>
      simp only [NestedKey.depth] at hn
      cases n with
      | zero => omega
      | succ n => exact .tup hg hc hd (noCls_keys ks _ n s hk (by omega))
theorem noCls_keys : ∀ (ks : List NestedKey) (vs : List Value) (n : Nat) (s : Shared), NestedAll s.heap ks vs → NestedKey.depthAll ks ≤ n → ∀ v ∈ vs, NoCls P w n s v
  | [], _, n, s, x, _, v, hv => by cases x; cases hv
  | k :: ks, _, n, s, x, hn, v, hv => by
    cases x with
    | cons x1 x2 =>
      simp only [NestedKey.depthAll] at hn
      rcases List.mem_cons.mp hv with e | hv
      · rw [e]; exact noCls_key k _ n s x1 (by omega)
      · exact noCls_keys ks _ n s x2 (by omega) v hv
end
mutual
theorem hashV_key : ∀ (k : NestedKey) (v : Value) (n : Nat) (s : Shared), NestedIs s.heap k v → k.depth ≤ n → HashV P w n s v
  | .none, _, n, s, x, _ => by cases x; exact .of (b := true) (by cases n <;> rfl)
  | .num i, _, n, s, x, _ => by cases x <;> exact .of (b := true) (by cases n <;> rfl)
  | .text y, _, n, s, x, _ => by cases x; exact .of (b := false) (by cases n <;> rfl)
  | .tup ks, _, n, s, x, hn => by
    cases x with
    | tup hg hc hd hk =>
      simp only [NestedKey.depth] at hn
      cases n with
      | zero => omega
      | succ n => exact .tup hg hc hd (hashV_keys ks _ n s hk (by omega))
theorem hashV_keys : ∀ (ks : List NestedKey) (vs : List Value) (n : Nat) (s : Shared), NestedAll s.heap ks vs → NestedKey.depthAll ks ≤ n → ∀ v ∈ vs, HashV P w n s v
  | [], _, n, s, x, _, v, hv => by cases x; cases hv
  | k :: ks, _, n, s, x, hn, v, hv => by
    cases x with
    | cons x1 x2 =>
      simp only [NestedKey.depthAll] at hn
      rcases List.mem_cons.mp hv with e | hv
      · rw [e]; exact hashV_key k _ n s x1 (by omega)
      · exact hashV_keys ks _ n s x2 (by omega) v hv
end
end
/-- the tuple at b is the key k -/
def KeyAt (h : Heap) (k : NestedKey) (b : Addr) : Prop := NestedIs h k (.ref b) ∧ k.depth ≤ 8
section
variable {P : Program} {w : World} {A : Around} {E : Value → Shared → Prop} {s : Shared}
theorem quiet_seen {x : Addr} {k : NestedKey} (hx : KeyAt s.heap k x) {ys : List Value} (hy : ∀ y ∈ ys, ∃ k' c, y = Value.ref c ∧ KeyAt s.heap k' c) {Q : Bool → Shared → Prop} (q : Q false s) : wpAny (model P w) A (searchCouldBeSeen (.ref x) ys) Q E s := by
  unfold searchCouldBeSeen
  refine wpAny_bind ?_
  refine wpAny_forIn_list _ (fun more r s2 => (∀ y ∈ more, ∃ k' c, y = Value.ref c ∧ KeyAt s.heap k' c) ∧ r.1 = none ∧ s2 = s) _ ?_ ?_ _ _ ⟨hy, rfl, rfl⟩
  · rintro v more r s2 ⟨all, _, rfl⟩
    have left : ∀ y ∈ more, ∃ k' c, y = Value.ref c ∧ KeyAt s2.heap k' c := fun u hu => all u (List.mem_cons_of_mem _ hu)
    obtain ⟨k', c, rfl, hc⟩ := all v List.mem_cons_self
    dsimp only
    by_cases same : (x == c || (carriedByValue (.ref x) && carriedByValue (.ref c))) = true
    · exact wp_if_pos same (wpAny_pure ⟨left, rfl, rfl⟩)
    · refine wp_if_neg same (wpAny_bind (quiet_key k _ 8 s2 hx.1 hx.2 A E _ ?_))
      simp only [Bool.not_true, Bool.false_eq_true, if_false]
      refine wpAny_bind (quiet_key k' _ 8 s2 hc.1 hc.2 A E _ ?_)
      simp only [Bool.not_true, Bool.false_eq_true, if_false]
      refine wpAny_bind (noCls_key k _ 8 s2 hx.1 hx.2 A E _ ?_)
      simp only [Bool.false_eq_true, if_false]
      refine wpAny_bind (noCls_key k' _ 8 s2 hc.1 hc.2 A E _ ?_)
      simp only [Bool.false_eq_true, if_false]
      exact wpAny_pure ⟨left, rfl, rfl⟩
  · rintro ⟨r1, r2⟩ s2 ⟨_, e, rfl⟩
    dsimp only at e
    subst e
    exact wpAny_pure q
theorem maskW_odd {m : Nat} (h : MaskW m) : m % 2 = 1 := by
  simp only [MaskW, List.mem_cons, List.not_mem_nil, or_false] at h
  omega
abbrev KeysN (h : Heap) (L : List (Addr × NestedKey)) : Prop := ∀ p ∈ L, KeyAt h p.2 p.1
variable {a : Addr} {L : List (Addr × NestedKey)} {es : Array (Int × Value)} {ep : Nat} {t : SetTable}
theorem TabN.size (R : TabN w s.heap a L es ep t) : es.size = L.length := by
  have e := congrArg List.length R.rows
  simpa [rowsN] using e
theorem TabN.fits (R : TabN w s.heap a L es ep t) : t.fits es.size = true := by
  have e1 : t.place.size = L.length := by simpa [hsN] using R.tab.sz
  have e2 := R.size
  have e3 := R.room
  unfold SetTable.fits SetTable.fill
  rw [R.tab.dm, Bool.and_eq_true, beq_iff_eq, decide_eq_true_eq]
  constructor
  · show t.place.size = es.size; omega
  · show t.place.size + 0 ≤ t.mask; omega
theorem TabN.entry (R : TabN w s.heap a L es ep t) {i : Nat} {p : Addr × NestedKey} (e : L[i]? = some p) : es[i]? = some (p.2.hash w, Value.ref p.1) := by
  rw [← Array.getElem?_toList, R.rows, List.getElem?_map, e]; rfl
theorem TabN.ok (R : TabN w s.heap a L es ep t) : ¬ t.gaveWay = true := by
  unfold SetTable.gaveWay
  rw [maskW_odd R.tab.mok]; decide
abbrev st0 (t : SetTable) (h : Int) : SetTable.Probe := runAt t.mask (SetTable.bits h % (t.mask + 1)) (SetTable.bits h)
theorem nth_plain (m : Nat) : ∀ (n : Nat) (p : SetTable.Probe), p.dummy = none → (nth m p n).dummy = none
  | 0, _, e => e
  | n + 1, p, e => nth_plain m n (adv m p) (by unfold adv; split <;> exact e)
/-- the search, from the c-th place of its way; K: the first free one -/
theorem seek (R : TabN w s.heap a L es ep t) (kL : KeysN s.heap L) {x : Addr} {k : NestedKey} (hx : KeyAt s.heap k x) (hu : A.units + 8 < cLine) (adding : Bool) {K : Nat} (hKf : K < 10 * SetTable.turns t.mask)
    (hK : way t.mask (k.hash w) K ∉ t.place.toList) (hKb : ∀ c, c < K → way t.mask (k.hash w) c ∈ t.place.toList) {Q : SetFound → Shared → Prop}
    (hin : k ∈ L.map (·.2) → ∀ r : Option Nat, (adding = false → r.isSome = true) → Q (.there r) s) (hout : k ∉ L.map (·.2) → Q (.free (way t.mask (k.hash w) K) false) s) :
    ∀ (f c : Nat) (stand : Option SetTable.Probe), stand.getD (t.probeStart (k.hash w)) = nth t.mask (st0 t (k.hash w)) c → c ≤ K → K - c < f →
      (∀ (i : Nat) p, L[i]? = some p → p.2 = k → ∃ c', c ≤ c' ∧ c' < K ∧ t.place.toList[i]? = some (way t.mask (k.hash w) c')) →
      wpAny (model P w) A (setSearchFrom a (.ref x) (k.hash w) adding f stand) Q E s
  | 0, c, stand, _, _, hf, _ => absurd hf (Nat.not_lt_zero _)
  | f + 1, c, stand, hst, hc, hf, hre => by
    obtain ⟨o, ho, hex, hd⟩ := R.ob
    have unf : setSearchFrom a (.ref x) (k.hash w) adding (f + 1) stand = (do
      let (es, _, t) ← setState a
      if t.gaveWay then unsupported "set:on-a-table-that-gave-way"
      let some met := t.probe (fun i => (es[i]?.map (·.1)).getD 0) (k.hash w) (stand.getD (t.probeStart (k.hash w))) | unsupported "internal:set-table-without-an-empty-slot"
      match met with
      | .empty j dummy =>
        match dummy with
        | none => return .free j false
        | some d =>
          if adding && t.slot d != .dummy then rule "set.search.the-dummy-was-taken"; return ← setSearchFrom a (.ref x) (k.hash w) adding f none
          return .free d true
      | .candidate j i next =>
        if !t.led then
          if ← searchCouldBeSeen (.ref x) ((es.filter (·.1 == k.hash w)).toList.map (·.2)) then unsupported "set:the-search-would-show-the-table"
        searchRest a (.ref x) (k.hash w) adding f es t j i next) := by rfl
    rw [unf]
    refine wpAny_bind (wpAny_setState_of ho hd R.fits ?_)
    dsimp only
    refine wp_if_neg R.ok ?_
    try refine wpAny_bind (wpAny_pure ?_)
    have plain0 := nth_plain t.mask c (st0 t (k.hash w)) rfl
    have at_ : ∀ q, nth t.mask (nth t.mask (st0 t (k.hash w)) c) q = nth t.mask (st0 t (k.hash w)) (c + q) := fun q => (nth_add t.mask c _ q).symm
    have atj : ∀ q, (nth t.mask (nth t.mask (st0 t (k.hash w)) c) q).j = way t.mask (k.hash w) (c + q) := fun q => congrArg SetTable.Probe.j (at_ q)
    have eK : c + (K - c) = K := by omega
    have told := L2.go_spec t R.tab.ris R.tab.dm (fun i => (es[i]?.map (·.1)).getD 0) (k.hash w) (10 * SetTable.turns t.mask) (K - c) _ plain0 (by omega) (fun q hq => by rw [atj]; exact hKb (c + q) (by omega)) (by rw [atj, eK]; exact hK)
    have hsh : ∀ (i : Nat) p, L[i]? = some p → (fun i => (es[i]?.map (·.1)).getD 0) i = p.2.hash w := fun i p e => by
      show (es[i]?.map (·.1)).getD 0 = _
      rw [R.entry e]; rfl
    rcases told with ⟨q, i, hq, hi, hh, hno, hpr⟩ | ⟨hno, hpr⟩
    · have met : t.probe (fun i => (es[i]?.map (·.1)).getD 0) (k.hash w) (stand.getD (t.probeStart (k.hash w))) = some (.candidate (way t.mask (k.hash w) (c + q)) i (nth t.mask (st0 t (k.hash w)) (c + (q + 1)))) := by
        rw [hst, ← atj, ← at_]; exact hpr
      rw [met]
      dsimp only
      rw [atj] at hi
      have il : i < L.length := by
        have e1 : i < t.place.toList.length := (List.getElem?_eq_some_iff.mp hi).1
        have e2 : t.place.size = L.length := by simpa [hsN] using R.tab.sz
        rw [Array.length_toList] at e1
        omega
      obtain ⟨p, hp⟩ : ∃ p, L[i]? = some p := ⟨_, List.getElem?_eq_getElem il⟩
      have pin : p ∈ L := List.mem_of_getElem? hp
      have pk := kL p pin
      have rest : wpAny (model P w) A (searchRest a (.ref x) (k.hash w) adding f es t (way t.mask (k.hash w) (c + q)) i (nth t.mask (st0 t (k.hash w)) (c + (q + 1)))) Q E s := by
        unfold searchRest
        rw [R.entry hp]
        dsimp only
        refine wpAny_bind (wpAny_holding (eqAt_key p.2 k A s _ _ pk.1 hx.1 (by have := pk.2; omega) P w E _ ?_))
        refine wpAny_bind (wpAny_setState_of ho hd R.fits ?_)
        dsimp only
        have slot : t.slot (way t.mask (k.hash w) (c + q)) = .live i := slot_live R.tab.ris hi
        have eb : NestedKey.beq p.2 k = decide (p.2 = k) := (NestedKey.decide_eq _ _).symm
        rw [eb]
        by_cases hk : p.2 = k
        · have inL : k ∈ L.map (·.2) := List.mem_map.mpr ⟨p, pin, hk⟩
          cases adding with
          | true =>
            refine wp_if_pos (by simp [hk]) ?_
            exact wpAny_pure (hin inL none (fun z => by cases z))
          | false =>
            refine wp_if_neg (by simp) ?_
            try refine wpAny_bind (wpAny_pure ?_)
            rw [sameMem]
            dsimp only
            simp only [if_true, slot, R.entry hp]
            refine wpAny_bind (wpAny_isSame_ref_self (wpAny_bind (wpAny_pure ?_)))
            simp only [if_true]
            refine wp_if_pos (by simp [hk]) ?_
            exact wpAny_pure (hin inL (some i) (fun _ => rfl))
        · refine wp_if_neg (by simp [hk]) ?_
          try refine wpAny_bind (wpAny_pure ?_)
          rw [sameMem]
          dsimp only
          simp only [if_true, slot, R.entry hp]
          refine wpAny_bind (wpAny_isSame_ref_self (wpAny_bind (wpAny_pure ?_)))
          simp only [if_true]
          refine wp_if_neg (by simp [hk]) ?_
          refine seek R kL hx hu adding hKf hK hKb hin hout f (c + (q + 1)) _ rfl (by omega) (by omega) fun i0 p0 h0 hk0 => ?_
          obtain ⟨c', a1, a2, a3⟩ := hre i0 p0 h0 hk0
          refine ⟨c', ?_, a2, a3⟩
          by_cases lt : c' < c + q
          · exfalso
            refine hno (c' - c) i0 (by omega) (by rw [atj, show c + (c' - c) = c' by omega]; exact a3) ?_
            exact (hsh i0 p0 h0).trans (by rw [hk0])
          · by_cases eq : c' = c + q
            · exfalso
              subst eq
              have := slot_live R.tab.ris a3
              rw [slot] at this
              injection this with this
              subst this
              rw [hp] at h0
              cases h0
              exact hk hk0
            · omega
      by_cases led : t.led = true
      · refine wp_if_neg (by simp [led]) ?_
        try refine wpAny_bind (wpAny_pure ?_)
        exact rest
      · refine wp_if_pos (by simp [led]) (wpAny_bind (quiet_seen hx (fun y hy => ?_) ?_))
        · obtain ⟨e, he, ee⟩ := List.mem_map.mp hy
          have h1 : e ∈ es ∧ e.1 = k.hash w := by simpa using he
          have h2 : e ∈ es.toList := by simpa using h1.1
          rw [R.rows] at h2
          obtain ⟨p2, hp2, e2⟩ := List.mem_map.mp h2
          exact ⟨p2.2, p2.1, by rw [← ee, ← e2], kL p2 hp2⟩
        · refine wp_if_neg (by decide) ?_
          try refine wpAny_bind (wpAny_pure ?_)
          exact rest
    · have met : t.probe (fun i => (es[i]?.map (·.1)).getD 0) (k.hash w) (stand.getD (t.probeStart (k.hash w))) = some (.empty (way t.mask (k.hash w) K) none) := by
        have e2 : way t.mask (k.hash w) K = (nth t.mask (nth t.mask (st0 t (k.hash w)) c) (K - c)).j := by rw [atj, eK]
        rw [hst, e2]; exact hpr
      rw [met]
      dsimp only
      refine wpAny_pure (hout fun hm => ?_)
      obtain ⟨p0, h0, hk0⟩ := List.mem_map.mp hm
      obtain ⟨i0, hi0, e0⟩ := List.getElem_of_mem h0
      have h00 : L[i0]? = some p0 := by rw [List.getElem?_eq_getElem hi0, e0]
      obtain ⟨c', a1, a2, a3⟩ := hre i0 p0 h00 hk0
      refine hno (c' - c) i0 (by omega) (by rw [atj, show c + (c' - c) = c' by omega]; exact a3) ?_
      exact (hsh i0 p0 h00).trans (by rw [hk0])
/-- the whole search -/
theorem seek_all (R : TabN w s.heap a L es ep t) (kL : KeysN s.heap L) {x : Addr} {k : NestedKey} (hx : KeyAt s.heap k x) (hu : A.units + 8 < cLine) (adding : Bool) {Q : SetFound → Shared → Prop}
    (hin : k ∈ L.map (·.2) → ∀ r : Option Nat, (adding = false → r.isSome = true) → Q (.there r) s)
    (hout : ∀ K, k ∉ L.map (·.2) → way t.mask (k.hash w) K ∉ t.place.toList → (∀ c, c < K → way t.mask (k.hash w) c ∈ t.place.toList) → Q (.free (way t.mask (k.hash w) K) false) s) :
    wpAny (model P w) A (setSearch a (.ref x) (k.hash w) adding) Q E s := by
  have rm := R.room
  have len : (hsN w L).length = L.length := by simp [hsN]
  obtain ⟨K, hKf, hK, hKb⟩ := R.tab.first (by rw [len]; omega) (k.hash w)
  have few : 10 * SetTable.turns t.mask ≤ 41100 := by
    have := (maskW_le R.tab.mok).1
    unfold SetTable.turns
    omega
  refine seek R kL hx hu adding hKf hK hKb hin (fun hn => hout K hn hK hKb) 100000 0 none rfl (Nat.zero_le _) (by omega) fun i p hp hk => ?_
  have hi : (hsN w L)[i]? = some (k.hash w) := by
    simp only [hsN, List.getElem?_map, hp, Option.map_some, hk]
  have il : i < t.place.toList.length := by
    have e1 : i < L.length := (List.getElem?_eq_some_iff.mp hp).1
    have e2 : t.place.size = L.length := by simpa [hsN] using R.tab.sz
    rw [Array.length_toList]; omega
  have hj := List.getElem?_eq_getElem il
  obtain ⟨c, hc, e⟩ := R.tab.before hK hi hj
  exact ⟨c, Nat.zero_le _, hc, by rw [hj, e]⟩
/-- x in the set -/
theorem find_in (R : TabN w s.heap a L es ep t) (kL : KeysN s.heap L) {x : Addr} {k : NestedKey} (hx : KeyAt s.heap k x) (hu : A.units + 8 < cLine) {Q : Option Nat → Shared → Prop} (q : ∀ r : Option Nat, r.isSome = decide (k ∈ L.map (·.2)) → Q r s) : wpAny (model P w) A (setFind a (.ref x) (k.hash w)) Q E s := by
  obtain ⟨o, ho, hex, hd⟩ := R.ob
  show wpAny _ _ (setFindIn a (.ref x) (k.hash w) (99999 + 1)) _ _ _
  unfold setFindIn
  refine wpAny_bind (wpAny_setState_of ho hd R.fits ?_)
  dsimp only
  refine wp_if_neg (by simp [byScan, Value.scannable]) ?_
  try refine wpAny_bind (wpAny_pure ?_)
  refine wpAny_bind (seek_all R kL hx hu false (fun hm r hr => ?_) fun K hm _ _ => ?_)
  · dsimp only
    exact wpAny_pure (q r (by rw [hr rfl, decide_eq_true hm]))
  · dsimp only
    exact wpAny_pure (q none (by rw [decide_eq_false hm]; rfl))
end
end Z
set_option maxHeartbeats 1600000
namespace Z
open PySem PySem.Spec PyProof.Rows L2
set_option autoImplicit false
section
variable {P : Program} {w : World} {A : Around} {E : Value → Shared → Prop} {s : Shared} {a : Addr} {L : List (Addr × NestedKey)} {es : Array (Int × Value)} {ep : Nat} {t : SetTable}
theorem rowsN_ins (L : List (Addr × NestedKey)) (p : Nat) (x : Addr × NestedKey) : rowsN w (L.take p ++ x :: L.drop p) = (rowsN w L).take p ++ (x.2.hash w, Value.ref x.1) :: (rowsN w L).drop p := by
  simp only [rowsN, List.map_append, List.map_cons, List.map_take, List.map_drop]
theorem hsN_ins (L : List (Addr × NestedKey)) (p : Nat) (x : Addr × NestedKey) : hsN w (L.take p ++ x :: L.drop p) = (hsN w L).take p ++ x.2.hash w :: (hsN w L).drop p := by
  simp only [hsN, List.map_append, List.map_cons, List.map_take, List.map_drop]
theorem ins_perm {α : Type} (L : List α) (p : Nat) (x : α) : (L.take p ++ x :: L.drop p).Perm (x :: L) := by
  have e : (L.take p ++ x :: L.drop p).Perm (x :: (L.take p ++ L.drop p)) := List.perm_middle
  rwa [List.take_append_drop] at e
/-- the rows in another order -/
theorem rows_order (L : List (Addr × NestedKey)) (es : Array (Int × Value)) (order : Array Nat) (hr : es.toList = rowsN w L) (hp : order.toList.Perm (List.range L.length)) :
    ∃ M, (order.filterMap (es[·]?)).toList = rowsN w M ∧ M.Perm L ∧ hsN w M = order.toList.map fun i => (es.map (·.1)).getD i 0 := by
  have sz : es.size = L.length := by
    have e := congrArg List.length hr
    simpa [rowsN] using e
  have at_ : ∀ i (h : i < L.length), es[i]? = some (L[i].2.hash w, Value.ref L[i].1) := fun i h => by
    rw [← Array.getElem?_toList, hr]
    simp only [rowsN, List.getElem?_map, List.getElem?_eq_getElem h, Option.map_some]
  have each : ∀ l : List Nat, (∀ i ∈ l, i < L.length) → l.filterMap (fun i => es[i]?) = rowsN w (l.filterMap fun i => L[i]?) ∧ hsN w (l.filterMap fun i => L[i]?) = l.map fun i => (es.map (·.1)).getD i 0 := by
    intro l
    induction l with
    | nil => intro _; exact ⟨rfl, rfl⟩
    | cons i l ih =>
      intro hl
      have hi := hl i List.mem_cons_self
      obtain ⟨e1, e2⟩ := ih fun j hj => hl j (List.mem_cons_of_mem _ hj)
      have g : (es.map (·.1)).getD i 0 = L[i].2.hash w := by
        have : (es.map (·.1))[i]? = some (L[i].2.hash w) := by rw [Array.getElem?_map, at_ i hi]; rfl
        simp [Array.getD_eq_getD_getElem?, this]
      rw [List.filterMap_cons_some (at_ i hi), List.filterMap_cons_some (List.getElem?_eq_getElem hi), e1]
      refine ⟨rfl, ?_⟩
      rw [List.map_cons, g, ← e2]; rfl
  obtain ⟨e1, e2⟩ := each order.toList fun i hi => List.mem_range.mp (hp.mem_iff.mp hi)
  refine ⟨order.toList.filterMap fun i => L[i]?, ?_, ?_, e2⟩
  · first
      | (rw [Array.toList_filterMap]; exact e1)
      | simpa using e1
  · have q := hp.filterMap fun i => L[i]?
    have all : (List.range L.length).filterMap (fun i => L[i]?) = L := by
      have upto : ∀ n, n ≤ L.length → (List.range n).filterMap (fun i => L[i]?) = L.take n := by
        intro n
        induction n with
        | zero => intro _; rfl
        | succ n ih =>
          intro hn
          have lt : n < L.length := hn
          rw [List.range_succ, List.filterMap_append, ih (Nat.le_of_lt lt), List.take_succ, List.getElem?_eq_getElem lt, List.filterMap_cons_some (List.getElem?_eq_getElem lt)]
          rfl
      rw [upto L.length (Nat.le_refl _), List.take_length]
    rwa [all] at q
/-- a larger table -/
theorem relayN {o : Obj} (ho : s.heap.get? a = some o) (hex : o.ExactSet) (hd : o.data = .set es ep t) (hr : es.toList = rowsN w L) (sz : t.place.size = es.size) (dm : t.dummies = #[]) (fl : es.size ≤ t.mask)
    (nd : (L.map (·.2)).Nodup) (few : L.length < 1200) {wanted M : Nat}
    (hw : SetTable.sizeAbove wanted - 1 = M) (hM : MaskW M) (hn : L.length * 5 < M * 3) {Q : Unit → Shared → Prop}
    (hQ : ∀ h' L' es' ep' t', Heap.SameBut a s.heap h' → TabN w h' a L' es' ep' t' → L'.Perm L → t'.led = t.led → Q () { s with heap := h' }) : wpAny (model P w) A (setRelay a wanted) Q E s := by
  have len : es.size = L.length := by
    have e := congrArg List.length hr
    simpa [rowsN] using e
  have fit : t.fits es.size = true := by
    unfold SetTable.fits SetTable.fill
    rw [dm, Bool.and_eq_true, beq_iff_eq, decide_eq_true_eq]
    constructor
    · show t.place.size = es.size; omega
    · show t.place.size + 0 ≤ t.mask; omega
  have mle := (maskW_le hM).1
  obtain ⟨t', order, e, hp, T, em, el⟩ := relaidW t (hs := es.map (·.1)) (wanted := wanted) hw hM (by rw [Array.size_map, len]; omega)
  rw [Array.size_map, len] at hp
  obtain ⟨L2, r1, r2, r3⟩ := rows_order L es order hr hp
  rw [← r3] at T
  have sz2 : (order.filterMap (es[·]?)).size = es.size := by
    have e2 := congrArg List.length r1
    simp only [Array.length_toList, rowsN, List.length_map, r2.length_eq] at e2
    rw [e2, len]
  rw [setRelay_eq]
  refine wpAny_bind (wpAny_setState_of ho hd fit ?_)
  dsimp only
  refine wp_if_neg (by rw [sizeLine_eq]; omega) ?_
  try refine wpAny_bind (wpAny_pure ?_)
  rw [e]
  dsimp only
  refine wpAny_bind (wp_if_neg (by rw [sz2]; simp) ?_)
  try refine wpAny_bind (wpAny_pure ?_)
  refine wpAny_pure ?_
  dsimp only
  refine wpAny_storeSet_of ho hd ?_ (by rw [sz2, len, sizeLine_eq]; omega)
  have sb : Heap.SameBut a s.heap (s.heap.update a (Obj.putSet (order.filterMap (es[·]?)) t')) := Heap.SameBut.update ..
  exact hQ _ L2 (order.filterMap (es[·]?)) (ep + 1) t' sb ⟨⟨_, store_at ho hd, ⟨hex.1, hex.2.1, hex.2.2⟩, rfl⟩, r1, T, (r2.map (·.2)).nodup_iff.mpr nd, by rw [r2.length_eq, em]; exact hn, by rw [r2.length_eq]; exact few⟩ r2 el
/-- one put in -/
theorem addN (R : TabN w s.heap a L es ep t) (kL : KeysN s.heap L) {x : Addr} {k : NestedKey} (hx : KeyAt s.heap k x) (hu : A.units + 8 < cLine) (hfew : L.length + 1 < 1200) {Q : Bool → Shared → Prop}
    (hQ : ∀ b h' L' es' ep' t', Heap.SameBut a s.heap h' → TabN w h' a L' es' ep' t' → (k ∈ L.map (·.2) → L' = L) → (k ∉ L.map (·.2) → L'.Perm ((x, k) :: L)) → t'.led = t.led → Q b { s with heap := h' }) :
    wpAny (model P w) A (setAddHashed a (.ref x) (k.hash w)) Q E s := by
  obtain ⟨o, ho, hex, hd⟩ := R.ob
  have len := R.size
  have rm := R.room
  unfold setAddHashed
  refine wpAny_holding ?_
  rw [show (100000 : Nat) = 99999 + 1 from rfl, setAddHashedIn_succ]
  refine wpAny_bind (wpAny_setState_of ho hd R.fits ?_)
  dsimp only
  refine wp_if_neg (by simp [byScan, Value.scannable]) ?_
  try refine wpAny_bind (wpAny_pure ?_)
  refine wpAny_bind (seek_all R kL hx hu true (fun hm r _ => ?_) fun K hm hK hb => ?_)
  · dsimp only
    exact wpAny_pure (hQ false s.heap L es ep t (Heap.SameBut.refl a s.heap) R (fun _ => rfl) (fun z => absurd hm z) rfl)
  · dsimp only
    refine wpAny_bind (wpAny_setState_of ho hd R.fits ?_)
    dsimp only
    obtain ⟨q1, q3, q4, q5, q9⟩ := R.tab.put hK hb
    generalize hpt : t.put (way t.mask (k.hash w) K) = pt at q1 q3 q4 q5 q9 ⊢
    obtain ⟨t1, p⟩ := pt
    dsimp only at q1 q3 q4 q5 q9 ⊢
    subst q1
    have step : ∀ t2 : SetTable, t2.place = t1.place → t2.mask = t1.mask → t2.dummies = t1.dummies → t2.led = t1.led →
        wpAny (model P w) A (do
          storeSet a (SetTable.insertAt es (SetTable.below t.place (way t.mask (k.hash w) K)) (k.hash w, Value.ref x)) t2
          if !false && t2.tooFull then setRelay a (SetTable.grown (es.size + 1))
          return true) Q E s := by
      intro t2 g1 g2 g3 g4
      have T2 : TabW t2 ((hsN w L).take (SetTable.below t.place (way t.mask (k.hash w) K)) ++ k.hash w :: (hsN w L).drop (SetTable.below t.place (way t.mask (k.hash w) K))) := ⟨by rw [g1]; exact q3.ris, by rw [g3]; exact q3.dm, by rw [g1]; exact q3.sz, by rw [g2]; exact q3.mok, by rw [g1, g2]; exact q3.bd, by rw [g1, g2]; exact q3.reach⟩
      have fill2 : t2.fill = L.length + 1 := by
        have : t1.fill = L.length + 1 := by rw [q9]; simp [hsN]
        unfold SetTable.fill at this ⊢
        rw [g1, g3]; exact this
      rw [← hsN_ins L _ (x, k)] at T2
      have rows2 : (SetTable.insertAt es (SetTable.below t.place (way t.mask (k.hash w) K)) (k.hash w, Value.ref x)).toList = rowsN w (L.take (SetTable.below t.place (way t.mask (k.hash w) K)) ++ (x, k) :: L.drop (SetTable.below t.place (way t.mask (k.hash w) K))) := by
        rw [SetTable.toList_insertAt, rowsN_ins, R.rows]
      have pm := ins_perm L (SetTable.below t.place (way t.mask (k.hash w) K)) (x, k)
      generalize SetTable.insertAt es (SetTable.below t.place (way t.mask (k.hash w) K)) (k.hash w, Value.ref x) = es1 at rows2 ⊢
      generalize L.take (SetTable.below t.place (way t.mask (k.hash w) K)) ++ (x, k) :: L.drop (SetTable.below t.place (way t.mask (k.hash w) K)) = L1 at rows2 pm T2
      have len1 : L1.length = L.length + 1 := pm.length_eq
      have es1s : es1.size = L.length + 1 := by
        have e := congrArg List.length rows2
        simp only [Array.length_toList, rowsN, List.length_map] at e
        rw [e, len1]
      have nd1 : (L1.map (·.2)).Nodup := by
        refine (pm.map (·.2)).nodup_iff.mpr ?_
        rw [List.map_cons]
        exact List.nodup_cons.mpr ⟨hm, R.nd⟩
      refine wpAny_bind (wpAny_storeSet_of ho hd ?_ (by rw [es1s, sizeLine_eq]; omega))
      have sb : Heap.SameBut a s.heap (s.heap.update a (Obj.putSet es1 t2)) := Heap.SameBut.update ..
      have ho1 := store_at (es' := es1) (t' := t2) ho hd
      generalize s.heap.update a (Obj.putSet es1 t2) = h1 at sb ho1 ⊢
      have mk2 : t2.mask = t.mask := g2.trans q4
      by_cases full : t2.tooFull = true
      · have fullN : (L.length + 1) * 5 ≥ t2.mask * 3 := by
          unfold SetTable.tooFull at full
          rw [decide_eq_true_eq, fill2] at full
          exact full
        have c1 : (!false && t2.tooFull) = true := by simp [full]
        refine wp_if_pos c1 (wpAny_bind ?_)
        rw [len]
        have szp : t2.place.size = es1.size := by
          have e := T2.sz
          simp only [hsN, List.length_map] at e
          rw [e, len1, es1s]
        have two : (t.mask = 7 ∧ L.length = 4) ∨ (t.mask = 31 ∧ L.length = 18) ∨ (t.mask = 127 ∧ L.length = 76) ∨ (t.mask = 511 ∧ L.length = 306) ∨ (t.mask = 15 ∧ L.length = 8) ∨ (t.mask = 63 ∧ L.length = 37) ∨ (t.mask = 255 ∧ L.length = 152) ∨ (t.mask = 1023 ∧ L.length = 613) := by
          have mo := R.tab.mok
          simp only [MaskW, List.mem_cons, List.not_mem_nil, or_false] at mo
          rw [mk2] at fullN
          rcases mo with mo | mo | mo | mo | mo | mo | mo | mo | mo | mo
          · exact .inl ⟨mo, by omega⟩
          · exact .inr (.inl ⟨mo, by omega⟩)
          · exact .inr (.inr (.inl ⟨mo, by omega⟩))
          · exact .inr (.inr (.inr (.inl ⟨mo, by omega⟩)))
          · exfalso; omega
          · exact .inr (.inr (.inr (.inr (.inl ⟨mo, by omega⟩))))
          · exact .inr (.inr (.inr (.inr (.inr (.inl ⟨mo, by omega⟩)))))
          · exact .inr (.inr (.inr (.inr (.inr (.inr (.inl ⟨mo, by omega⟩))))))
          · exact .inr (.inr (.inr (.inr (.inr (.inr (.inr (⟨mo, by omega⟩)))))))
          · exfalso; omega
        have go : ∀ M, SetTable.sizeAbove (SetTable.grown (L.length + 1)) - 1 = M → MaskW M → (L.length + 1) * 5 < M * 3 →
            wpAny (model P w) A (setRelay a (SetTable.grown (L.length + 1))) (fun _ s' => wpAny (model P w) A (pure true) Q E s') E { s with heap := h1 } := fun M z1 z2 z4 => by
          refine relayN (s := { s with heap := h1 }) ho1 ⟨hex.1, hex.2.1, hex.2.2⟩ rfl rows2 szp T2.dm (by rw [es1s, mk2]; omega) nd1 (by rw [len1]; exact hfew) z1 z2 (by rw [len1]; exact z4) ?_
          exact fun h2 L2 es2 ep2 t3 sb2 R2 pm2 l2 => wpAny_pure (hQ true h2 L2 es2 ep2 t3 (sb.trans sb2) R2 (fun z => absurd z hm) (fun _ => pm2.trans pm) (l2.trans (g4.trans q5)))
        rcases two with ⟨_, e2⟩ | ⟨_, e2⟩ | ⟨_, e2⟩ | ⟨_, e2⟩ | ⟨_, e2⟩ | ⟨_, e2⟩ | ⟨_, e2⟩ | ⟨_, e2⟩
        · exact go 31 (by rw [e2, size_20]) (by simp [MaskW]) (by omega)
        · exact go 127 (by rw [e2, size_76]) (by simp [MaskW]) (by omega)
        · exact go 511 (by rw [e2, size_308]) (by simp [MaskW]) (by omega)
        · exact go 2047 (by rw [e2, size_1228]) (by simp [MaskW]) (by omega)
        · exact go 63 (by rw [e2, size_36]) (by simp [MaskW]) (by omega)
        · exact go 255 (by rw [e2, size_152]) (by simp [MaskW]) (by omega)
        · exact go 1023 (by rw [e2, size_612]) (by simp [MaskW]) (by omega)
        · exact go 4095 (by rw [e2, size_2456]) (by simp [MaskW]) (by omega)
      · have c1 : ¬ (!false && t2.tooFull) = true := by simp [full]
        refine wp_if_neg c1 ?_
        refine wpAny_pure (hQ true h1 L1 es1 (ep + 1) t2 sb ⟨⟨_, ho1, ⟨hex.1, hex.2.1, hex.2.2⟩, rfl⟩, rows2, T2, nd1, ?_, by rw [len1]; exact hfew⟩ (fun z => absurd z hm) (fun _ => pm) (g4.trans q5))
        unfold SetTable.tooFull at full
        rw [decide_eq_true_eq, fill2] at full
        rw [len1]
        omega
    by_cases pl : t1.plain = true
    · first
        | (refine wpAny_bind (wp_if_pos pl ?_); refine hashV_key k _ 8 s hx.1 hx.2 A E _ fun b => ?_)
        | refine wp_if_pos pl (wpAny_bind (hashV_key k _ 8 s hx.1 hx.2 A E _ fun b => ?_))
      cases b with
      | true =>
        simp only [if_true]
        exact step t1 rfl rfl rfl rfl
      | false =>
        simp only [Bool.false_eq_true, if_false]
        exact step { t1 with plain := false } rfl rfl rfl rfl
    · first
        | (refine wpAny_bind (wp_if_neg pl (wpAny_pure ?_)); simp only [if_true]; exact step t1 rfl rfl rfl rfl)
        | (refine wp_if_neg pl ?_; simp only [if_true]; exact step t1 rfl rfl rfl rfl)
        | (refine wp_if_neg pl (wpAny_bind (wpAny_pure ?_)); simp only [if_true]; exact step t1 rfl rfl rfl rfl)
end
end Z
namespace Z
open PySem PySem.Spec PyProof.Rows L2
set_option autoImplicit false
def SAdd (X : Cx) (H : Hp) (a : Addr) (y : V) (o' : HO) : Prop :=
  ∀ (X' : Cx) (pins : List (Addr × Obj)) (σ : L2.St) (s : Shared) (E : Value → Shared → Prop) (Q : Value → Shared → Prop) (u : Value), X'.prog = X.prog → X'.w = X.w → X'.K = X.K → X'.A = X.A → Inv X' pins σ H s → L2.RelV y u →
    (∀ s', Inv X' pins σ (upd H a o') s' → Q .none s') → wpAny (model X.prog X.w) X.A (call (.builtin "set.add") [.ref a, u]) Q E s
def putS (ds : List D) (k : D) : List D := match ixN (nks ds) (nk k) with
  | some _ => ds
  | none => ds ++ [k]
structure SetA (T : Wd) (ι : List Addr) (bar : Addr → Prop) (H : Hp) (a : Addr) (ds : List D) (o : HO) : Prop where
  ex : ∃ bs : List Addr, o = .ext (SetNh T.w a (nks ds) bs) ∧ RelDs T ι bar H ds (bs.map V.ref)
  keys : ds.all tupK = true
section
variable {T : Wd} {X : Cx} {H : Hp} {ι : List Addr} {bar : Addr → Prop} {a : Addr} {ds : List D} {k : D} {y : V} {o : HO}
theorem SetA.soft (d : SetA T ι bar H a ds o) : Soft o := by
  obtain ⟨bs, rfl, _⟩ := d.ex
  exact fun i => i
theorem SetA.keep {ι' : List Addr} {bar' : Addr → Prop} {H' : Hp} (s : Stp ι ι' H H') (hi : ∀ a ∈ ι, bar a) (hb : Grows H bar bar') (d : SetA T ι bar H a ds o) : SetA T ι' bar' H' a ds o := by
  obtain ⟨⟨bs, e, r1⟩, k⟩ := d
  exact ⟨⟨bs, e, r1.keep s hi hb⟩, k⟩
theorem SetA.fewer {bar' : Addr → Prop} (hb : ∀ a, bar' a → bar a) (d : SetA T ι bar H a ds o) : SetA T ι bar' H a ds o := by
  obtain ⟨⟨bs, e, r1⟩, k⟩ := d
  exact ⟨⟨bs, e, r1.fewer hb⟩, k⟩
theorem SetA.era {p : Addr} {u : HO} (hb : bar p) (hp : H p = some u) (so : Soft u) (d : SetA T ι bar H a ds o) : SetA T ι bar (Z.era H p) a ds o := by
  obtain ⟨⟨bs, e, r1⟩, k⟩ := d
  exact ⟨⟨bs, e, r1.era hb hp so⟩, k⟩
theorem keysN_of (ok : Ok T X) {pins : List (Addr × Obj)} {σ : L2.St} {s : Shared} (I : Inv X pins σ H s) : ∀ {ds : List D} {bs : List Addr}, ds.all tupK = true → RelDs T ι bar H ds (bs.map V.ref) → KeysN s.heap (bs.zip (nks ds))
  | [], bs, _, _, p, hp => absurd hp (by simp [nks])
  | k :: ds, [], _, _, p, hp => absurd hp (by simp)
  | k :: ds, b :: bs, hk, r, p, hp => by
    have hk : tupK k = true ∧ ds.all tupK = true := by simpa using hk
    obtain ⟨v, rs, e, r1, r2⟩ := RelDs.uncons r
    simp only [List.map_cons, List.cons.injEq] at e
    obtain ⟨e1, e2⟩ := e
    subst e2
    have hp : p ∈ (b, nk k) :: bs.zip (nks ds) := hp
    rcases List.mem_cons.mp hp with rfl | hp
    · obtain ⟨q1, q2, _⟩ := tupK_isK hk.1
      exact ⟨nested_of ok I q1 (v := .ref b) (by rw [e1]; exact r1) (show L2.RelV (.ref b) (.ref b) from rfl), q2⟩
    · exact keysN_of ok I hk.2 r2 p hp
theorem ixN_mem : ∀ {ks : List NestedKey} {k : NestedKey}, (ixN ks k).isSome = decide (k ∈ ks)
  | [], k => by simp [ixN]
  | x :: ks, k => by
    simp only [ixN]
    by_cases e : x = k
    · simp [e]
    · have e' : ¬ k = x := fun z => e z.symm
      rw [if_neg e, Option.isSome_map, ixN_mem]
      simp [e']
theorem snd_zip {α β : Type} : ∀ {xs : List α} {ys : List β}, xs.length = ys.length → (xs.zip ys).map (·.2) = ys
  | [], [], _ => rfl
  | x :: xs, y :: ys, h => by simp only [List.zip_cons_cons, List.map_cons]; rw [snd_zip (by simpa using h)]
/-- adding -/
theorem SetA.put (ok : Ok T X) (rm : Rm X) (d : SetA T ι bar H a ds o) (hp : H a = some o) (hk : tupK k = true) (rk : RelD T ι bar H k y) (hz : ds.length < 1199) :
    ∃ o', SAdd X H a y o' ∧ (∃ bs : List Addr, o' = .ext (SetNh T.w a (nks (putS ds k)) bs) ∧ RelDs T ι bar H (putS ds k) (bs.map V.ref)) ∧ (putS ds k).all tupK = true := by
  obtain ⟨⟨bs, rfl, r1⟩, hks⟩ := d
  obtain ⟨q1, q2, kd, rfl⟩ := tupK_isK hk
  obtain ⟨b, rfl⟩ := tup_ref hk rk
  have l1 : bs.length = ds.length := by have := r1.length; rw [List.length_map] at this; exact this
  have l2 : bs.length = (nks ds).length := by rw [nks_len, l1]
  let bs' := match ixN (nks ds) (nk (.tup kd)) with | some _ => bs | none => bs ++ [b]
  refine ⟨.ext (SetNh T.w a (nks (putS ds (.tup kd))) bs'), fun X' pins σ s E Q u e1 e2 e3 e4 I ru hQ => ?_, ⟨bs', rfl, ?_⟩, ?_⟩
  · have ok' : Ok T X' := ⟨e1.trans ok.P, e2.trans ok.w, e3.trans ok.K⟩
    obtain ⟨L, es, ep, t, pm, R, ld⟩ := ext_at I hp
    cases ru
    have kL : KeysN s.heap L := fun p hm => keysN_of ok' I hks r1 p (pm.mem_iff.mp hm)
    have hx : KeyAt s.heap (nk (.tup kd)) b := ⟨nested_of ok' I q1 rk (show L2.RelV (.ref b) (.ref b) from rfl), q2⟩
    have inL : (nk (.tup kd)) ∈ L.map (·.2) ↔ (nk (.tup kd)) ∈ nks ds := by
      rw [(pm.map (·.2)).mem_iff, snd_zip l2]
    obtain ⟨ob, hob, hex, hd⟩ := R.ob
    have ty : s.TypeIs (.ref a) "set" := ⟨ob, hob, hex.1⟩
    rw [ok.P, ok.w]
    refine wpAny_call_entry F.slot_set_add ty F.entry_set_add ?_ (F.args_set_add_2 _ _)
    unfold Builtin.«set.add» Builtin.Frozenset.oneOther
    simp only [List.isEmpty_nil, bind_assoc]
    unfold Builtin.Frozenset.addrOf setAdd
    refine wpAny_bind (wpAny_pure ?_)
    try dsimp only
    refine wpAny_bind (wpAny_pure ?_)
    try dsimp only
    refine wpAny_bind (wpAny_holding (wpAny_bind (pyHash_key _ _ _ s _ hx.1 (by have := rm.hu; have := hx.2; show X.A.units + 1 + _ < _; omega) ?_)))
    have lenL : L.length = ds.length := by rw [pm.length_eq, List.length_zip, l2, Nat.min_self, nks_len]
    refine addN (s := { s with toks := s.toks + (nk (.tup kd)).draws }) R kL hx (by have := rm.hu; show X.A.units + 1 + 8 < _; omega) (by rw [lenL]; omega) fun bb h' L' es' ep' t' sb R' in1 out1 el => ?_
    show wpAny _ _ (PySem.ret Value.none) _ _ _
    refine wpAny_pure ⟨_, rfl, hQ _ ?_⟩
    have pm' : L'.Perm (bs'.zip (nks (putS ds (.tup kd)))) := by
      show L'.Perm ((match ixN (nks ds) (nk (.tup kd)) with | some _ => bs | none => bs ++ [b]).zip _)
      cases hj : ixN (nks ds) (nk (.tup kd)) with
      | some j =>
        have hm : nk (.tup kd) ∈ nks ds := by
          have := ixN_mem (ks := nks ds) (k := nk (.tup kd)); rw [hj] at this; exact of_decide_eq_true this.symm
        rw [in1 (inL.mpr hm)]
        simp only [putS, hj]
        exact pm
      | none =>
        have hm : nk (.tup kd) ∉ nks ds := by
          have := ixN_mem (ks := nks ds) (k := nk (.tup kd)); rw [hj] at this; exact of_decide_eq_false this.symm
        have q := out1 fun z => hm (inL.mp z)
        simp only [putS, hj, nks_app]
        rw [List.zip_append l2]
        refine q.trans ((List.Perm.cons _ pm).trans ?_)
        exact (List.perm_append_comm (l₁ := [(b, nk (.tup kd))]) (l₂ := bs.zip (nks ds)))
    have hob' : ∃ q, h'.get? a = some q := let ⟨q, e, _⟩ := R'.ob; ⟨q, e⟩
    exact d_write (t' := s.toks + (nk (.tup kd)).draws) (I.tok _) (by rw [hp]; trivial) sb hob' ⟨⟨L', es', ep', t', pm', R', by rw [el]; exact ld⟩, hob', fun h1 h2 z kk => by
      obtain ⟨L2, es2, ep2, t2, z1, z2, z3⟩ := z
      obtain ⟨o2, y1, y2⟩ := z2.ob
      exact ⟨L2, es2, ep2, t2, z1, ⟨⟨o2, kk _ y1, y2⟩, z2.rows, z2.tab, z2.nd, z2.room, z2.few⟩, z3⟩⟩
  · show RelDs T ι bar H (putS ds (.tup kd)) (List.map V.ref (match ixN (nks ds) (nk (.tup kd)) with | some _ => bs | none => bs ++ [b]))
    cases hj : ixN (nks ds) (nk (.tup kd)) with
    | some j => simp only [putS, hj]; exact r1
    | none => simp only [putS, hj, List.map_append, List.map_cons, List.map_nil]; exact r1.append (.cons rk .nil)
  · cases hj : ixN (nks ds) (nk (.tup kd)) with
    | some j => simp only [putS, hj]; exact hks
    | none => simp only [putS, hj, List.all_append, hks, Bool.true_and]; simpa using hk
end
end Z
namespace Z
open PySem PySem.Spec PyProof.Rows L2
set_option autoImplicit false
def stepS (acc : Option (List D)) (d : D) : Option (List D) := match acc with
  | some ds => if tupK d then some (putS ds d) else none
  | none => none
def foldS (ds : List D) : Option (List D) := ds.foldl stepS (some [])
theorem foldS_none : ∀ es : List D, es.foldl stepS none = none
  | [] => rfl
  | e :: es => foldS_none es
theorem foldS_app (ds es : List D) : foldS (ds ++ es) = es.foldl stepS (foldS ds) := by simp [foldS, List.foldl_append]
theorem putS_ge (ds : List D) (k : D) : ds.length ≤ (putS ds k).length := by
  unfold putS
  split <;> simp
theorem foldS_ge : ∀ {es : List D} {p q : List D}, es.foldl stepS (some p) = some q → p.length ≤ q.length
  | [], p, q, h => by cases h; exact Nat.le_refl _
  | e :: es, p, q, h => by
    rw [List.foldl_cons] at h
    cases hs : stepS (some p) e with
    | none => rw [hs, foldS_none] at h; cases h
    | some p' =>
      rw [hs] at h
      refine Nat.le_trans ?_ (foldS_ge h)
      unfold stepS at hs
      dsimp only at hs
      split at hs
      · cases hs; exact putS_ge p e
      · cases hs
def accS (T : Wd) (P : Addr) : Acc T where
  A := fun ι bar H ds o => ∃ p, foldS ds = some p ∧ SetA T ι bar H P p o
  soft := fun ι bar H ds o ⟨p, _, d⟩ => d.soft
  keep := fun ι ι' bar bar' H H' ds o s hi hb ⟨p, e, d⟩ => ⟨p, e, d.keep s hi hb⟩
  era := fun ι bar H ds o p u hb hp so ⟨q, e, d⟩ => ⟨q, e, d.era hb hp so⟩
  fewer := fun ι bar bar' H ds o hb ⟨p, e, d⟩ => ⟨p, e, d.fewer hb⟩
  room := fun ds => ∃ p, foldS ds = some p ∧ p.length ≤ 1190
  less := fun ds es ⟨p, e, l⟩ => by
    rw [foldS_app] at e
    cases q : foldS ds with
    | none => rw [q, foldS_none] at e; cases e
    | some p0 =>
      rw [q] at e
      exact ⟨p0, rfl, Nat.le_trans (foldS_ge e) l⟩
def mSc (mi : EvI) (vs : List Nat) (t : Tg) (ms : ElM) : Ev := fun ρ g => match mi ρ g with
  | .ok ds g1 => match gaL t ms (wipeE ρ vs) ds g1 with
    | .ok ys g2 => match foldS ys with
      | some p => if p.length ≤ 1190 then .ok (.set p) g2 else .bad
      | none => .bad
    | _ => .bad
  | .exc x g1 => .exc x g1
  | .bad => .bad
abbrev stS (T : Wd) (X : Cx) (mk : Ev) (P : Addr) : Stage := fun σ H Nx => tX T W0 (rD T) mk σ H fun y H4 => ∃ o', SAdd X H4 P y o' ∧ Nx (upd H4 P o')
abbrev stST (T : Wd) (X : Cx) (mt : EvB) (mk : Ev) (P : Addr) : Stage := fun σ H Nx => tX T W0 rB mt σ H fun b H3 => if b = true then stS T X mk P σ H3 Nx else Nx H3
theorem stg_set {T : Wd} {X : Cx} {P : Addr} {mt : EvB} {mk : Ev} (ok : Ok T X) (rm : Rm X) : Stg T (accS T P) P (el1 mt mk) (stST T X mt mk P) := by
  intro γ ρ σ H g ds o Nx R nP nι nv A p
  obtain ⟨pp, ef, dA⟩ := A
  have so : Soft o := dA.soft
  have R1 := R.lay (o := o) nP
  refine ⟨_, ρ, g, R1, ?_⟩
  have growA : ∀ {ι2 : List Addr} {H2 : Hp}, Stp γ.ι ι2 H H2 → Grows H (γ.add P).bar ((γ.to ι2).add P).bar := fun s a h => by
    rcases Gho.add_bar.mp h with h | h
    · rcases Gho.grows s a h with q | q
      · exact .inl (add_fw a q)
      · exact .inr q
    · exact .inl (Gho.add_bar.mpr (.inr h))
  have biA : ∀ a ∈ γ.ι, (γ.add P).bar a := fun a h => add_fw a (γ.bi a h)
  unfold el1 at p
  revert p
  cases mt ρ g with
  | bad => exact fun p => p
  | exc x g1 => exact fun p => p.elim
  | ok c g1 =>
    intro p b ι1 H1 s1 G1 e1
    subst e1
    have hP1 : H1 P = some o := s1.ext P _ upd_same nι
    have n1 : P ∉ ι1 := s1.not (by rw [upd_same]; simp) nι
    have cut : ∀ {ι2 : List Addr} {H2 : Hp}, Stp γ.ι ι2 (upd H P o) H2 → Stp γ.ι ι2 H (era H2 P) := fun s => by
      have := s.era (p := P)
      rw [upd_era nP] at this
      exact this
    cases b with
    | false =>
      simp only [Bool.false_eq_true, if_false, List.append_nil] at p ⊢
      rw [← era_upd hP1]
      exact p.2 ι1 _ o (cut s1) ((G1.era (γ.to ι1).add_self hP1 so n1).fewer add_fw) era_self n1 ⟨pp, ef, dA.keep (cut s1) biA (growA (cut s1))⟩
    | true =>
      simp only [if_true] at p ⊢
      refine ⟨_, ρ, g1, R1.step s1 G1, ?_⟩
      revert p
      cases mk ρ g1 with
      | bad => exact fun p => p
      | exc x g2 => exact fun p => p.elim
      | ok k g2 =>
        intro p y ι2 H2 s2 G2 r2
        dsimp only at p
        have hP2 : H2 P = some o := s2.ext P _ hP1 n1
        have n2 : P ∉ ι2 := s2.not (by rw [hP1]; simp) n1
        have sc := cut (s1.trans s2)
        have dE : SetA T ι2 ((γ.to ι2).add P).bar (era H2 P) P pp o := dA.keep sc biA (growA sc)
        have d3 : SetA T ι2 ((γ.to ι2).add P).bar H2 P pp o := dE.keep (.same era_same) (fun a h => .inl h) fun a h => .inl h
        have hroom := p.1
        obtain ⟨pq, hsome, hfit⟩ := hroom
        rw [foldS_app, ef] at hsome
        have hge := foldS_ge hsome
        have ek : tupK k = true := by
          cases q : tupK k with
          | true => rfl
          | false => simp [stepS, q] at hsome
        have hlen : pp.length < 1199 := by omega
        obtain ⟨o', hadd, ⟨bs', eo, q1⟩, hk'⟩ := d3.put ok rm hP2 ek r2 hlen
        refine ⟨o', hadd, ?_⟩
        rw [upd_era2]
        refine p.2 ι2 _ o' sc ((G2.era (γ.to ι2).add_self hP2 so n2).fewer add_fw) era_self n2 ⟨putS pp k, ?_, ⟨bs', eo, q1.era (γ.to ι2).add_self hP2 so⟩, hk'⟩
        rw [foldS_app, ef]
        simp [stepS, ek]
theorem tupKs_keys : ∀ {l : List D}, l.all tupK = true → isKs l = true ∧ ∀ k ∈ nks l, k.depth ≤ 8
  | [], _ => ⟨rfl, fun k hk => by simp [nks] at hk⟩
  | x :: l, h => by
    have h : tupK x = true ∧ l.all tupK = true := by simpa using h
    obtain ⟨a, b⟩ := tupKs_keys h.2
    obtain ⟨c, d, _⟩ := tupK_isK h.1
    refine ⟨by simp only [isKs, c, a, Bool.and_self], fun k hk => ?_⟩
    simp only [nks, List.mem_cons] at hk
    rcases hk with rfl | hk
    · exact d
    · exact b k hk
theorem sc_testG {T : Wd} {W : WX} {X : Cx} {mi : EvI} {vs sl : List Nat} {t : Tg} {ms : ElM} {tt : TT} {st : Addr → Stage} (ok : Ok T X) (hs : ∀ i ∈ sl, i ∈ vs) (hst : ∀ P, Stg T (accS T P) P ms (fun σ H Nx => tt σ H fun b H3 => if b = true then st P σ H3 Nx else Nx H3)) {σ : L2.St} {H : Hp} {Q : VK} (h : tX T W (rD T) (mSc mi vs t ms) σ H Q) :
    tMk (tI T W Stays mi) (tG T sl t) tt st vs (fun P => .ext (SetNh T.w P [] [])) σ H Q := by
  obtain ⟨γ, ρ, g, R, p⟩ := h
  refine ⟨γ, ρ, g, R, ?_⟩
  unfold mSc at p
  revert p
  cases mi ρ g with
  | bad => exact fun p => p
  | exc x g1 => exact fun p => p
  | ok dd g1 =>
    intro p J K ι1 H1 hK okJ s1 G1 k1 P nP
    dsimp only at p
    have R1 := R.step s1 G1
    have nι : P ∉ ι1 := fun z => G1.tracked P z nP
    have W := turns (C := accS T P) (st := fun σ H Nx => tt σ H fun b H3 => if b = true then st P σ H3 Nx else Nx H3) (g0 := tG T sl t) (vs := vs) (Qd := fun H => Q (.ref P) H) (P := P) (sl := sl) (t := t) (ms := ms) (dd := dd) (J := J) (a0 := []) (o0 := .ext (SetNh T.w P [] [])) hK okJ (fun _ _ _ _ h => h) hs (hst P) (R1.hides vs) wipe_wipe (fun i h => hides_oa h) nP (by rw [Gho.hides_ι]; exact nι) (by
        rw [Gho.hides_ι]
        exact hK _ _ _ _ _ _ .refl (γ.to ι1).bi (fun a h => .inl (Gho.hides_bar.mp h)) k1) ⟨[], rfl, ⟨⟨[], rfl, .nil⟩, rfl⟩⟩ (by
      revert p
      cases gaL t ms (wipeE ρ vs) dd g1 with
      | bad => exact fun p => p
      | exc x g' => exact fun p => p.elim
      | ok ys g' =>
        dsimp only
        cases hf : foldS ys with
        | none => exact fun p => p.elim
        | some pp =>
          dsimp only
          split
          · rename_i hfit
            refine fun p => ⟨⟨pp, by simpa using hf, hfit⟩, fun ι5 H5 o5 s5 G5 n5 np5 A5 => ?_⟩
            rw [Gho.hides_ι] at s5
            obtain ⟨pp', ef, dA⟩ := A5
            simp only [List.nil_append, hf, Option.some.injEq] at ef
            subst ef
            have dB : SetA T ι5 (γ.to ι5).bar H5 P pp o5 := dA.fewer (bar' := (γ.to ι5).bar) fun a h => Gho.add_bar.mpr (.inl (hides_bi (γ := γ.to ι1).mpr h))
            have G6 : GR T ι5 (γ.to ι5).bar H5 g' := G5.fewer fun a h => hides_bi.mpr h
            have gr : Grows H5 (γ.to ι5).bar (γ.to ι5).bar := fun a h => .inl h
            have nb : ¬ (γ.to ι5).bar P := fun z => (R.step (s1.trans s5) G6).bart P z n5
            refine p (.ref P) ι5 _ ((s1.trans s5).trans (.same (same_lay n5))) (G6.keep (same_lay n5) (γ.to ι5).bi gr) ?_
            obtain ⟨⟨bs, eo, q1⟩, hk⟩ := dB
            obtain ⟨c1, c2⟩ := tupKs_keys hk
            simp only [RelD]
            exact ⟨P, bs.map V.ref, rfl, nb, q1.keep (.same (same_lay n5)) (γ.to ι5).bi gr, .inr (.inr ⟨bs, rfl, c1, c2, by rw [upd_same, eo]⟩)⟩
          · exact fun p => p.elim)
    obtain ⟨W1, w0, turn⟩ := W
    refine ⟨W1, w0, fun i m H w => ?_⟩
    rcases turn i m H w with t1 | ⟨t1, Nx, t2, t3⟩
    · exact .inl t1
    · exact .inr ⟨t1, Nx, t2, t3⟩
theorem sc_test {T : Wd} {W : WX} {X : Cx} {mi : EvI} {vs sl : List Nat} {t : Tg} {mt : EvB} {mk : Ev} (ok : Ok T X) (rm : Rm X) (hs : ∀ i ∈ sl, i ∈ vs) {σ : L2.St} {H : Hp} {Q : VK} (h : tX T W (rD T) (mSc mi vs t (el1 mt mk)) σ H Q) :
    tMk (tI T W Stays mi) (tG T sl t) (tX T W0 rB mt) (stS T X mk) vs (fun P => .ext (SetNh T.w P [] [])) σ H Q :=
  sc_testG (st := stS T X mk) ok hs (fun P => stg_set ok rm) h
theorem fresh_tab {w : World} {h : Heap} {a : Addr} {led : Bool} (e : h.get? a = some { cls := .type "set", dict := none, data := .set #[] 0 (.fresh 0 0 led) }) : TabN w h a [] #[] 0 (.fresh 0 0 led) :=
  ⟨⟨_, e, ⟨rfl, rfl, rfl⟩, rfl⟩, rfl, ⟨List.Pairwise.nil, rfl, rfl, (by show MaskW 7; simp [MaskW]), fun x hx => (by cases hx), fun i h j hi => (by simp [hsN] at hi)⟩, List.nodup_nil, (by show 0 * 5 < 7 * 3; decide), (by show 0 < 1200; decide)⟩
section
variable {T : Wd} {W : WX} {X : Cx} {kx tg iter : Expr} {ifs : List Expr} {scope : Scope} {pos : Pos} {mi : EvI} {t : Tg} {mt : EvB} {mk : Ev} {sl : List Nat}
theorem ee_sc (ok : Ok T X) (rm : Rm X) (hc : X.calm = true) (hN : X.N.Nodup) (hi : EIw T W X tg iter mi) (own : List (Str × Nat)) (bo : blkC X.N X.env.scope scope own = true)
    (hg : ∀ (s : Shared) (H : Hp) (C : Addr) (cl : List (Str × Addr)) (fp : List Addr), GT T (X.blk s H scope (compEnvC scope cl C X.env) fp) tg sl t)
    (ht : ∀ (s : Shared) (H : Hp) (C : Addr) (cl : List (Str × Addr)) (fp : List Addr), PTs (X.blk s H scope (compEnvC scope cl C X.env) fp) ifs (tX T W0 rB mt))
    (hk : ∀ (s : Shared) (H : Hp) (C : Addr) (cl : List (Str × Addr)) (fp : List Addr), EE T W0 (X.blk s H scope (compEnvC scope cl C X.env) fp) kx mk)
    (hs : (sl.all fun i => decide (i ∈ own.map (·.2))) = true := by rfl) (hf : ∀ x, foldedSetIterable iter X.env x = pure x := by intro _; rfl) :
    EE T W X (.SetComp kx [⟨tg, iter, ifs, 0⟩] scope pos) (mSc mi (own.map (·.2)) t (el1 mt mk)) := by
  refine PE.imp (pe_mk (new := newSet (.type "set")) (pos' := firstIterPos [⟨tg, iter, ifs, 0⟩] pos) (u0 := fun P => .ext (SetNh T.w P [] [])) (st := stS T X mk)
    (sw := fun cenv P N Er s => wpAny (model X.prog X.w) X.A (eval kx cenv) (fun kv s4 => wpAny (model X.prog X.w) X.A (call (.builtin "set.add") [.ref P, kv]) (fun _ s6 => N s6) Er s4) Er s)
    hc hN hi (blkOk_by bo) hg ht rfl hf (arm_eval_SetComp ..) ?_ (fun cenv itv P R I turn n s hI => compLoop_set_any I turn n hI) (fun cenv itv P R s h1 h2 => codeAny_compStart_set h1 h2) ?_) fun σ H Q h => sc_test ok rm (fun i h => of_decide_eq_true (List.all_eq_true.mp hs i h)) h
  · intro pins σ H s Q I hQ
    refine wpAny_newSet_raw fun led el => hQ _ ?_ (fun b o e => Heap.get?_push_of_some _ e) (Heap.size_push ..)
    refine I.laid (t' := s.toks) (fun b o e => Heap.get?_push_of_some _ e) (Nat.le_refl _) ?_
    refine ⟨⟨[], #[], 0, _, .nil, fresh_tab (Heap.get?_push_size _ rfl), by
      show _ ∨ led = true
      rw [el, ok.w]
      cases T.w.params.followText "set-order"
      · exact .inr rfl
      · exact .inl rfl⟩, ⟨_, Heap.get?_push_size _ rfl⟩, fun h1 h2 z kk => ?_⟩
    obtain ⟨L2, es2, ep2, t2, z1, z2, z3⟩ := z
    obtain ⟨o2, y1, y2⟩ := z2.ob
    exact ⟨L2, es2, ep2, t2, z1, ⟨⟨o2, kk _ y1, y2⟩, z2.rows, z2.tab, z2.nd, z2.room, z2.few⟩, z3⟩
  · intro s0 H0 C cl fp pins σ H s P Nx N Er I h hN
    refine thnF ((hk s0 H0 C cl fp).run pins s σ H _ I h) fun kv s4 ⟨y, H4, I4, r4, o', hadd, nx⟩ => ?_
    exact hadd (X.blk s0 H0 scope (compEnvC scope cl C X.env) fp) pins σ s4 Er _ kv rfl rfl rfl rfl I4 r4 fun s6 I6 => hN s6 _ I6 nx
end
theorem set_read {T : Wd} {X : Cx} {pins : List (Addr × Obj)} {σ : L2.St} {H : Hp} {s : Shared} {ι : List Addr} {bar : Addr → Prop} {ds : List D} {x : V} (ok : Ok T X) (I : Inv X pins σ H s) (r : RelW T ι bar H (.set ds) x) (hk : ds.all tupK = true) :
    ∃ a L es ep t, x = .ref a ∧ TabN T.w s.heap a L es ep t ∧ KeysN s.heap L ∧ ∀ k, k ∈ L.map (·.2) ↔ k ∈ nks ds := by
  have core : ∀ (a : Addr) (us : List V), x = .ref a → RelDs T ι bar H ds us → ((∃ led, ds = [] ∧ H a = some (.ext (SetE a led))) ∨ (∃ ls, ds ≠ [] ∧ lfs ds = some ls ∧ ls.Nodup ∧ H a = some (.ext (SetF T.P T.w a ls us))) ∨ (∃ bs : List Addr, us = bs.map V.ref ∧ isKs ds = true ∧ (∀ k ∈ nks ds, k.depth ≤ 8) ∧ H a = some (.ext (SetNh T.w a (nks ds) bs)))) →
      ∃ a L es ep t, x = .ref a ∧ TabN T.w s.heap a L es ep t ∧ KeysN s.heap L ∧ ∀ k, k ∈ L.map (·.2) ↔ k ∈ nks ds := by
    intro a us e r1 alt
    rcases alt with ⟨led, ed, hh⟩ | ⟨ls, ne, el, _, hh⟩ | ⟨bs, eu, _, _, hh⟩
    · exact ((ext_at I hh).2 rfl).elim
    · cases ds with
      | nil => exact absurd rfl ne
      | cons k ds =>
        have hk : tupK k = true ∧ ds.all tupK = true := by simpa using hk
        simp only [lfs, tupK_leaf hk.1] at el
        cases el
    · subst eu
      obtain ⟨L, es, ep, t, pm, R, _⟩ := ext_at I hh
      have l1 : bs.length = (nks ds).length := by have := r1.length; rw [List.length_map] at this; rw [nks_len, this]
      refine ⟨a, L, es, ep, t, e, R, fun p hm => keysN_of ok I hk r1 p (pm.mem_iff.mp hm), fun k => ?_⟩
      rw [(pm.map (·.2)).mem_iff, snd_zip l1]
  rcases r with r | ⟨a, e, _, r⟩
  · simp only [RelD] at r
    obtain ⟨a, us, e, _, r1, alt⟩ := r
    exact core a us e r1 alt
  · obtain ⟨us, r1, alt⟩ := r
    exact core a us e r1 alt
def inS (d e : D) : Option Bool := match e with
  | .set ds => if tupK d = true ∧ ds.all tupK = true then some (ixN (nks ds) (nk d)).isSome else none
  | _ => inB d e
def inO2 (d e : D) : Option D := (inS d e).map .bl
def notInO2 (d e : D) : Option D := (inS d e).map fun b => .bl !b
section
variable {T : Wd} {X : Cx}
theorem contains_set {pins : List (Addr × Obj)} {σ : L2.St} {H : Hp} {s : Shared} {ι : List Addr} {bar : Addr → Prop} {d : D} {ds : List D} {x y : V} {v u : Value} {E : Value → Shared → Prop} {Q : Bool → Shared → Prop} (ok : Ok T X) (rm : Rm X) (I : Inv X pins σ H s) (rd : RelW T ι bar H d x) (re : RelW T ι bar H (.set ds) y) (rv : L2.RelV x v) (ru : L2.RelV y u)
    (hd : tupK d = true) (hk : ds.all tupK = true) (q : ∀ s', Inv X pins σ H s' → Q (ixN (nks ds) (nk d)).isSome s') : wpAny (model X.prog X.w) X.A (contains u v) Q E s := by
  obtain ⟨q1, q2, kd, rfl⟩ := tupK_isK hd
  have rd : RelD T ι bar H (.tup kd) x := by
    rcases rd with rd | ⟨_, _, _, rd⟩
    · exact rd
    · exact rd.elim
  obtain ⟨b, rfl⟩ := tup_ref hd rd
  cases rv
  obtain ⟨a, L, es, ep, t, rfl, R, kL, hmem⟩ := set_read ok I re hk
  cases ru
  have hx : KeyAt s.heap (nk (.tup kd)) b := ⟨nested_of ok I q1 rd (show L2.RelV (.ref b) (.ref b) from rfl), q2⟩
  obtain ⟨ob, hob, hex, hdt⟩ := R.ob
  have ty : s.TypeIs (.ref a) "set" := ⟨ob, hob, hex.1⟩
  rw [ok.P, ok.w]
  unfold contains
  try with_reducible refine wpAny_holding ?_
  refine wpAny_bind (wpAny_specialOf ty F.slot_set_contains.lookup ?_)
  show wpAny _ _ (if (some (Value.builtin "set.__contains__") == some Value.none) = true then _ else _) _ E s
  rw [if_neg (by rw [beq_builtin_none]; exact Bool.false_ne_true)]
  refine wpAny_bind (wpAny_callSpecialUnlessNone?_slot (name := Str.ofString "__contains__") ty F.slot_set_contains (wpAny_call_entry F.slot_set_contains ty entry_set_contains ?_ (F.args_set_contains_2 _ _)))
  unfold Builtin.«frozenset.__contains__» Builtin.Frozenset.oneOther
  simp only [List.isEmpty_nil, bind_assoc]
  unfold Builtin.Frozenset.addrOf Builtin.Frozenset.withSetAsKey setContains
  refine wpAny_bind (wpAny_pure ?_)
  try dsimp only
  refine wpAny_bind (wpAny_pure ?_)
  try dsimp only
  refine wpAny_bind (wpAny_tryCatch (wpAny_holding (wpAny_bind (pyHash_key _ _ _ s _ hx.1 (by have := rm.hu; have := hx.2; show X.A.units + 1 + _ < _; omega) ?_))))
  refine wpAny_bind (find_in (s := { s with toks := s.toks + (nk (.tup kd)).draws }) R kL hx (by have := rm.hu; show X.A.units + 1 + 8 < _; omega) fun r hr => wpAny_pure ?_)
  show wpAny _ _ (PySem.ret (Value.bool r.isSome)) _ _ _
  have e : r.isSome = (ixN (nks ds) (nk (.tup kd))).isSome := by
    rw [hr, ixN_mem]
    exact decide_eq_decide.mpr (hmem _)
  rw [e]
  exact wpAny_pure ⟨_, rfl, wpAny_truthy_bool (q _ (I.tok _))⟩
theorem od_in2 (ok : Ok T X) (rm : Rm X) : OpD T X (compareOp .In) inO2 := by
  intro pins s σ H x y v u Q I rx ry ⟨ι, bar, d, e, r, hb, hi, rd, re, hk, q⟩
  by_cases he : ∃ ds, e = .set ds
  · obtain ⟨ds, rfl⟩ := he
    unfold inO2 inS at hk
    dsimp only at hk
    split at hk
    · rename_i hc
      cases hk
      show wpAny _ _ (do return Value.bool (← contains u v)) _ _ s
      exact wpAny_bind (contains_set ok rm I rd re rx ry hc.1 hc.2 fun s' I' => wpAny_pure ⟨.bl _, H, I', rfl, q _ H (Same.refl H) (RelD.ofBl _)⟩)
    · cases hk
  · refine od_in ok rm pins s σ H x y v u Q I rx ry ⟨ι, bar, d, e, r, hb, hi, rd, re, ?_, q⟩
    unfold inO2 inS at hk
    split at hk
    · exact absurd ⟨_, rfl⟩ he
    · exact hk
theorem od_notIn2 (ok : Ok T X) (rm : Rm X) : OpD T X (compareOp .NotIn) notInO2 := by
  intro pins s σ H x y v u Q I rx ry ⟨ι, bar, d, e, r, hb, hi, rd, re, hk, q⟩
  by_cases he : ∃ ds, e = .set ds
  · obtain ⟨ds, rfl⟩ := he
    unfold notInO2 inS at hk
    dsimp only at hk
    split at hk
    · rename_i hc
      cases hk
      show wpAny _ _ (do return Value.bool (!(← contains u v))) _ _ s
      exact wpAny_bind (contains_set ok rm I rd re rx ry hc.1 hc.2 fun s' I' => wpAny_pure ⟨.bl _, H, I', rfl, q _ H (Same.refl H) (RelD.ofBl _)⟩)
    · cases hk
  · refine od_notIn ok rm pins s σ H x y v u Q I rx ry ⟨ι, bar, d, e, r, hb, hi, rd, re, ?_, q⟩
    unfold notInO2 inS at hk
    split at hk
    · exact absurd ⟨_, rfl⟩ he
    · exact hk
end
end Z
namespace Z
open PySem PySem.Spec PyProof.Rows L2
set_option autoImplicit false
def sl (x : Str) : List Nat := x.cps.toList
theorem sl_append (x y : Str) : sl (x ++ y) = sl x ++ sl y := Array.toList_append
theorem sl_inj {x y : Str} (h : sl x = sl y) : x = y := by
  cases x; cases y
  exact congrArg Str.mk (Array.ext' h)
theorem sl_mk (l : List Nat) : sl ⟨l.toArray⟩ = l := rfl
mutual
def shF : PyData → List Nat → List Nat
  | .none, r => 78 :: 111 :: 110 :: 101 :: r
  | .bool b, r => sl (if b then "True" else "False") ++ r
  | .int i, r => sl (toString i) ++ r
  | .str x, r => sl (reprText x) ++ r
  | .list xs, r => 91 :: shFs xs (93 :: r)
  | .tuple xs, r => 40 :: shFs xs (match xs with
    | [_] => 44 :: 41 :: r
    | _ => 41 :: r)
  | .dict kvs, r => sl (dictText (PyData.shownKv kvs)) ++ r
def shFs : List PyData → List Nat → List Nat
  | [], r => r
  | x :: xs, r => shF x (shFt xs r)
def shFt : List PyData → List Nat → List Nat
  | [], r => r
  | x :: xs, r => 44 :: 32 :: shF x (shFt xs r)
end
def flatT (ts : List Str) : List Nat := ts.flatMap fun t => 44 :: 32 :: sl t
theorem sl_textFrom : ∀ (ts : List Str) (k : Nat) (acc : Str), sl (textFrom (k + 1) acc ts) = sl acc ++ flatT ts
  | [], k, acc => by simp [textFrom, flatT]
  | t :: ts, k, acc => by
    rw [textFrom, sl_textFrom ts (k + 1), sl_append, sl_append, if_pos (Nat.succ_pos k)]
    have e : sl ((", " : String) : Str) = [44, 32] := by decide +kernel
    rw [e]
    simp [flatT]
theorem sl_listText : ∀ ts : List Str, sl (listText ts) = match ts with
    | [] => [91, 93]
    | t :: r => 91 :: (sl t ++ flatT r ++ [93])
  | [] => by decide +kernel
  | t :: r => by
    have e1 : sl ("]" : Str) = [93] := by decide +kernel
    have e2 : sl ("[" : Str) = [91] := by decide +kernel
    have e3 : sl (("" : String) : Str) = [] := by decide +kernel
    rw [listText, textFrom, sl_append, sl_textFrom, sl_append, sl_append, if_neg (Nat.lt_irrefl 0), e1, e2, e3]
    simp
theorem sl_join : ∀ (t : Str) (r : List Str), sl (Str.join ", " (t :: r)) = sl t ++ flatT r
  | t, [] => by simp [Str.join, flatT]
  | t, u :: r => by
    have e : sl ((", " : String) : Str) = [44, 32] := by decide +kernel
    rw [Str.join, sl_append, sl_append, sl_join u r, e]
    · simp [flatT]
    · simp
theorem sl_tupleText (ts : List Str) : sl (tupleText ts) = 40 :: ((match ts with
    | [] => []
    | t :: r => sl t ++ flatT r) ++ (if ts.length == 1 then [44, 41] else [41])) := by
  have e1 : sl ("(" : Str) = [40] := by decide +kernel
  have e2 : sl ((if ts.length == 1 then ",)" else ")" : String) : Str) = (if ts.length == 1 then [44, 41] else [41]) := by
    split <;> decide +kernel
  rw [tupleText, sl_append, sl_append, e1, e2]
  cases ts with
  | nil => simp [Str.join, sl, Str.empty]
  | cons t r => rw [sl_join]; simp
mutual
theorem shF_eq : ∀ (d : PyData) (r : List Nat), shF d r = sl d.shown ++ r
  | .none, r => by
    have e : sl (("None" : String) : Str) = [78, 111, 110, 101] := by decide +kernel
    simp only [shF, PyData.shown, e]
    rfl
  | .bool b, r => by simp only [shF, PyData.shown]
  | .int i, r => by simp only [shF, PyData.shown]
  | .str x, r => by simp only [shF, PyData.shown]
  | .list xs, r => by
    simp only [shF, PyData.shown]
    rw [sl_listText]
    cases xs with
    | nil => simp [shFs, PyData.shownAll]
    | cons x xs =>
      simp only [shFs, PyData.shownAll]
      rw [shF_eq x, shFt_eq xs]
      simp
  | .tuple xs, r => by
    simp only [shF, PyData.shown]
    rw [sl_tupleText]
    cases xs with
    | nil => simp [shFs, PyData.shownAll]
    | cons x xs =>
      simp only [shFs, PyData.shownAll]
      rw [shF_eq x, shFt_eq xs]
      cases xs with
      | nil => simp [PyData.shownAll]
      | cons y ys => simp [PyData.shownAll]
  | .dict kvs, r => by simp only [shF, PyData.shown]
theorem shFt_eq : ∀ (xs : List PyData) (r : List Nat), shFt xs r = flatT (PyData.shownAll xs) ++ r
  | [], r => by simp [shFt, PyData.shownAll, flatT]
  | x :: xs, r => by
    simp only [shFt, PyData.shownAll]
    rw [shF_eq x, shFt_eq xs]
    simp [flatT]
end
def shT (d : PyData) : List Nat := shF d []
theorem shT_eq (d : PyData) : shT d = sl d.shown := by rw [shT, shF_eq, List.append_nil]
def reprF (d : D) : Option D := match d with
  | .tup ds => let p := py (.tup ds)
    if isD (.tup ds) && sh (.tup ds) && p.showable && fits (shT p).length then some (.str ⟨(shT p).toArray⟩) else none
  | .lst ds => let p := py (.lst ds)
    if isD (.lst ds) && sh (.lst ds) && p.showable && fits (shT p).length then some (.str ⟨(shT p).toArray⟩) else none
  | _ => none
theorem shT_mk (p : PyData) : (⟨(shT p).toArray⟩ : Str) = p.shown := sl_inj (by rw [sl_mk, shT_eq])
theorem shT_len (p : PyData) : (shT p).length = p.shown.length := by rw [shT_eq]; rfl
theorem reprF_eq (d : D) : reprF d = reprO d := by
  cases d with
  | tup ds => simp only [reprF, reprO, reprOk, shT_mk, shT_len]; congr
  | lst ds => simp only [reprF, reprO, reprOk, shT_mk, shT_len]; congr
  | _ => rfl
theorem ud_reprF {T : Wd} {X : Cx} (ok : Ok T X) (rm : Rm X) : Call1 T X (.builtin "repr") reprF := by
  have e : reprF = reprO := funext reprF_eq
  rw [e]
  exact ud_repr ok rm
def lEq : List Nat → List Nat → Bool
  | [], [] => true
  | x :: xs, y :: ys => Nat.beq x y && lEq xs ys
  | _, _ => false
theorem lEq_iff : ∀ xs ys : List Nat, lEq xs ys = true ↔ xs = ys
  | [], [] => by simp [lEq]
  | x :: xs, y :: ys => by
    simp only [lEq, Bool.and_eq_true, lEq_iff xs ys, List.cons.injEq, Nat.beq_eq]
  | [], _ :: _ => by simp [lEq]
  | _ :: _, [] => by simp [lEq]
def sEq (x y : Str) : Bool := lEq (sl x) (sl y)
theorem sEq_eq (x y : Str) : sEq x y = (x == y) := by
  by_cases h : x = y
  · subst h
    rw [beq_self_eq_true]
    exact (lEq_iff _ _).mpr rfl
  · rw [beq_false_of_ne h]
    exact Bool.eq_false_iff.mpr fun z => h (sl_inj ((lEq_iff _ _).mp z))
def eqF (d e : D) : Option D := match d, e with
  | .str x, .str y => some (.bl (sEq x y))
  | d, e => eqO d e
def neF (d e : D) : Option D := match d, e with
  | .str x, .str y => some (.bl !(sEq x y))
  | d, e => neO d e
theorem eqF_eq (d e : D) : eqF d e = eqO d e := by
  unfold eqF
  split
  · rw [sEq_eq]; rfl
  · rfl
theorem neF_eq (d e : D) : neF d e = neO d e := by
  unfold neF
  split
  · rw [sEq_eq]; rfl
  · rfl
theorem od_eqF {T : Wd} {X : Cx} (ok : Ok T X) (rm : Rm X) : OpD T X (compareOp .Eq) eqF := by
  have e : eqF = eqO := funext fun d => funext fun e => eqF_eq d e
  rw [e]
  exact od_eq ok rm
theorem od_neF {T : Wd} {X : Cx} (ok : Ok T X) (rm : Rm X) : OpD T X (compareOp .NotEq) neF := by
  have e : neF = neO := funext fun d => funext fun e => neF_eq d e
  rw [e]
  exact od_ne ok rm
end Z
namespace Z
open PySem PySem.Spec PyProof.Rows L2
set_option autoImplicit false
section
variable {prog : Program} {w : World} {A : Around} {E : Value → Shared → Prop} {s : Shared}
abbrev cpT (h : Heap) (vs : List Value) : Heap := (h.push (seqObj "list" #[] 0)).update h.objs.size (Obj.mapSeq (· ++ vs.toArray))
theorem collect_tp {l : Addr} {vs : List Value} {Q : List Value → Shared → Prop} (hl : IsTup s.heap l vs.toArray) (hsz : vs.length ≤ sizeLine) (h : Q vs { s with heap := cpT s.heap vs }) : wpAny (model prog w) A (collect (.ref l)) Q E s := by
  obtain ⟨o, q1, q2, k, q3⟩ := id hl
  have fr : (s.heap.push (seqObj "list" #[] 0)).get? s.heap.objs.size = some (seqObj "list" #[] 0) := Heap.get?_push_size _ rfl
  have up : (#[] ++ vs.toArray).size ≤ sizeLine + 1 := by simp only [Array.size_append, List.size_toArray, List.length_nil]; omega
  unfold collect
  refine wpAny_bind (wpAny_runValue (codeAny_builtin entry_proto_collect' ?_))
  show wpAny _ _ (do again (.builtin "list.__iadd__" ⟨[← newList [], .ref l], []⟩)) _ _ s
  refine wpAny_bind (wpAny_newList (wpAny_pure ⟨Code.quiet_builtin _ (by decide +kernel), codeAny_builtin entry_list_iadd' ?_⟩))
  show wpAny _ _ (Builtin.List.listExtendWith (.ref s.heap.objs.size) (.ref l) (.ref s.heap.objs.size)) _ _ { s with heap := s.heap.push (seqObj "list" #[] 0) }
  unfold Builtin.List.listExtendWith
  have q1' : (s.heap.push (seqObj "list" #[] 0)).get? l = some o := Heap.get?_push_of_some _ q1
  refine wpAny_bind (wpAny_typeOf (T := "tuple") ⟨o, q1', q2⟩ ?_)
  have tt : (Value.type "tuple" == Value.type "tuple") = true := by rfl
  rw [if_pos (by rw [tt, Bool.or_true])]
  refine wpAny_bind (listItems_at q1' q3 ?_)
  refine wpAny_bind (listItems_at (xs := #[]) (n := 0) fr rfl ?_)
  rw [if_neg (by simp)]
  refine wpAny_bind (listUpdate_at (xs := #[]) (n := 0) fr rfl ?_ (Nat.zero_le _) up)
  refine wpAny_pure ?_
  show wpAny (model prog w) A (do
      let ob ← load s.heap.objs.size
      match ob.data with
      | .seq xs _ => pure xs.toList
      | _ => unsupported "internal:collect") Q E { s with heap := cpT s.heap vs }
  refine wpAny_bind (wpAny_load (get?_update_seq fr _) ?_)
  show wpAny _ _ (pure ((#[] : Array Value) ++ vs.toArray).toList) Q E _
  rw [show ((#[] : Array Value) ++ vs.toArray).toList = vs by simp]
  exact wpAny_pure h
theorem sorted_tp {l : Addr} {vs : List Value} {κ : PyProof.Rows.KeyKind} {Q : Value → Shared → Prop} (hl : IsTup s.heap l vs.toArray) (S : PySem.W.SortsAt prog w A.in1.in1 { s with heap := PySem.W.sortingHeap (PySem.W.copyHeap s.heap vs) (s.heap.objs.size + 1) vs } κ vs) (hL : vs.length ≤ sizeLine)
    (h : Q (.ref (s.heap.objs.size + 1)) { s with heap := sortedAll s.heap vs (PySem.W.sortVals κ false vs vs).toArray }) : wpAny (model prog w) A (call (.builtin "sorted") [.ref l]) Q E s := by
  refine Calls.call_function_entry kind_sorted plain_sorted entry_sorted (args_sorted1 _) ?_
  unfold Builtin.«sorted»
  refine wpAny_bind (m := checkCount "sorted" 1 1 _) (wpAny_pure ?_)
  refine wpAny_bind (collect_tp hl hL ?_)
  refine wpAny_bind (wpAny_newList ?_ hL)
  have z : (cpT s.heap vs).objs.size = s.heap.objs.size + 1 := by rw [Heap.size_update, size_push']
  show wpAny _ _ _ _ _ { s with heap := PySem.W.copyHeap s.heap vs }
  rw [z]
  refine wpAny_bind (wpAny_holding (PyProof.Rows.wpAny_call_entry_kw slot_list_sort ⟨_, PySem.W.copyHeap_at s.heap vs, rfl⟩ entry_list_sort ?body (args_list_sort _)))
  case body =>
    refine wpAny_mono (PySem.W.list_sort_vals (s := { s with heap := PySem.W.copyHeap s.heap vs }) (P := fun f s' => f = .done (.ret .none) ∧ Q (.ref (s.heap.objs.size + 1)) s') (PySem.W.copyHeap_at s.heap vs) S hL ⟨rfl, h⟩) (fun f s' hf => ?_) fun _ _ e => e
    obtain ⟨rfl, hq⟩ := hf
    exact ⟨_, rfl, wpAny_pure ⟨_, rfl, hq⟩⟩
theorem sorted_dtp {β : Type} {enc : β → PyData} {bs : List β} {R : Value → β → Prop} {l : Addr} {vs : List Value} {Q : Value → Shared → Prop} (hl : IsTup s.heap l vs.toArray) (e : PySem.W.EachIs R vs bs) (er : PySem.W.EachIs (fun v b => ∃ as, Reads s.heap v (enc b) as) vs bs) (hal : PySem.W.AllAlike (bs.map enc)) (hk : PySem.W.Sortable (bs.map enc)) (hL : bs.length ≤ sizeLine)
    (hu : ∀ b, b ∈ bs → A.units + 2 + (enc b).depth < cLine) (h : ∀ out, out.length = bs.length → PySem.W.EachIs R out (bs.mergeSort (PySem.W.dataLe false enc)) → Q (.ref (s.heap.objs.size + 1)) { s with heap := sortedAll s.heap vs (List.toArray out) }) :
    wpAny (model prog w) A (call (.builtin "sorted") [.ref l]) Q E s := by
  have er2 : PySem.W.EachIs (fun v b => ∃ as, Reads (PySem.W.sortingHeap (PySem.W.copyHeap s.heap vs) (s.heap.objs.size + 1) vs) v (enc b) as) vs bs := er.mono fun _ _ ⟨as, r⟩ => ⟨as, PyProof.Rows.Reads.keeps (fun _ _ => PySem.W.sorting_copy_old) r⟩
  exact sorted_tp hl (PySem.W.SortsAt.data (s := { s with heap := PySem.W.sortingHeap (PySem.W.copyHeap s.heap vs) (s.heap.objs.size + 1) vs }) (PySem.W.each_map (R := fun v d => ∃ as, Reads (PySem.W.sortingHeap (PySem.W.copyHeap s.heap vs) (s.heap.objs.size + 1) vs) v d as) enc er2) hal hk (PySem.W.bound_map hu)) (by rw [e.length]; exact hL)
    (h _ (by rw [PySem.W.sortVals_length false rfl]; exact e.length) (PySem.W.sortVals_data false e er2 hal))
end
def sortedF : D → Option D
  | .lst ds => if sortOk ds then some (.lst (sortD ds)) else none
  | .tup ds => if sortOk ds then some (.lst (sortD ds)) else none
  | _ => none
theorem ud_sortedF {T : Wd} {X : Cx} (ok : Ok T X) (rm : Rm X) : Call1 T X (.builtin "sorted") sortedF := by
  intro pins s σ H x v Q I rx ⟨ι, bar, d, r, hb, hi, rd, hk, q⟩
  by_cases ht : ∃ ds, d = .tup ds
  · obtain ⟨ds, rfl⟩ := ht
    have hu := rm.hu
    have hk : (if sortOk ds = true then some (D.lst (sortD ds)) else none) = some r := hk
    split at hk
    · rename_i hc
      cases hk
      obtain ⟨a, vs, rfl, h1, rs⟩ := rd.tup
      rw [← ok.K] at h1
      cases rx
      obtain ⟨its, rv, pl, hz⟩ := I.tuple h1
      obtain ⟨p1, p2, p3, p4, p5⟩ := sort_prem hc
      obtain ⟨as, hr⟩ := rs.reads ok I rv p4
      have ea : PySem.W.EachIs (fun v b => ∃ as, Reads s.heap v (py b) as) its ds := by
        rw [pys_map] at hr
        exact PySem.W.readsAll_each py hr
      exact sort_core ok rm I hb hi rs rv hc q fun {Q'} hq => sorted_dtp pl (each_of rs rv) ea p1 p2 p3 (fun b hbm => by have := depth_mem hbm; omega) hq
    · cases hk
  · refine ud_sorted ok rm pins s σ H x v Q I rx ⟨ι, bar, d, r, hb, hi, rd, ?_, q⟩
    cases d with
    | tup ds => exact absurd ⟨_, rfl⟩ ht
    | _ => exact hk
end Z
namespace Z
open PySem PySem.Spec PyProof.Rows L2
set_option autoImplicit false
abbrev feedC (cs : List Int) (i r t : Int) : Cell := .dk ["cells", "index", "rest", "turn"] [.lst (cs.map D.int), .int i, .int r, .int t]
section
variable {a b c d : D} {x y z : Int}
theorem lu_cells : luS ["cells", "index", "rest", "turn"] [a, b, c, d] "cells" = some a := by kernel_rfl
theorem lu_index : luS ["cells", "index", "rest", "turn"] [a, b, c, d] "index" = some b := by kernel_rfl
theorem lu_rest : luS ["cells", "index", "rest", "turn"] [a, b, c, d] "rest" = some c := by kernel_rfl
theorem lu_turn : luS ["cells", "index", "rest", "turn"] [a, b, c, d] "turn" = some d := by kernel_rfl
theorem cmp_ii : cmpOk (.int x) (.int y) = true := rfl
theorem gtO_ii : gtO (.int x) (.int y) = some (.bl (decide (y < x))) := by simp only [gtO, cmp_ii, if_true, py, PySem.W.dataLt_int]
theorem geO_ii : geO (.int x) (.int y) = some (.bl (!decide (x < y))) := by simp only [geO, cmp_ii, if_true, py, PySem.W.dataLt_int]
theorem ltO_ii : ltO (.int x) (.int y) = some (.bl (decide (x < y))) := by simp only [ltO, cmp_ii, if_true, py, PySem.W.dataLt_int]
theorem addO_ii : addO (.int x) (.int y) = some (.int (x + y)) := rfl
theorem intO_i : intO (.int x) = some (.int x) := rfl
theorem modO_ii (h : 0 < y) : modO (.int x) (.int y) = some (.int (x % y)) := by
  simp only [modO, decide_eq_true h, if_true]
theorem divO_ii (h : 0 < y) (h2 : y.natAbs.log2 < 9000) : divO (.int x) (.int y) = some (.int (x / y)) := by
  simp only [divO, decide_eq_true h, decide_eq_true h2, Bool.and_self, if_true]
theorem mulO_ii (h : x.natAbs < 18446744073709551616) : mulO (.int x) (.int y) = some (.int (x * y)) := by
  simp only [mulO, decide_eq_true h, Bool.or_true, if_true]
theorem log_small (h0 : 0 < x) (h : x < 18446744073709551616) : x.natAbs.log2 < 9000 := by
  have : x.natAbs < 2 ^ 64 := by omega
  have := (Nat.log2_lt (n := x.natAbs) (k := 64) (by omega)).mpr this
  omega
theorem divO_jj (h0 : 0 < y) (h : y < 18446744073709551616) : divO (.int x) (.int y) = some (.int (x / y)) := divO_ii h0 (log_small h0 h)
theorem isDs_ints : ∀ cs : List Int, isDs (cs.map D.int) = true
  | [] => rfl
  | c :: cs => by simp [isDs, isD, isDs_ints cs]
theorem neF_nil (cs : List Int) : neF (.lst (cs.map D.int)) (.lst []) = some (.bl (!cs.isEmpty)) := by
  cases cs with
  | nil => rfl
  | cons c cs =>
    have h := isDs_ints cs
    show neO (.lst (.int c :: cs.map D.int)) (.lst []) = _
    simp only [neO, isD, isDs, h, Bool.and_self, Bool.and_true, Bool.true_and]
    have e2 : sh (.lst []) = true := rfl
    rw [e2, Bool.or_true]
    rfl
theorem idx_ints (cs : List Int) (j : Int) (h0 : 0 ≤ j) (h1 : j < cs.length) : ∃ c : Int, idxO (.lst (cs.map D.int)) (.int j) = some (.int c) := by
  have e : L2.ixN (cs.map D.int).length j = some j.toNat := by
    unfold L2.ixN
    rw [if_pos h0, if_pos (by rw [List.length_map]; exact h1)]
  have hj : j.toNat < cs.length := by omega
  refine ⟨cs[j.toNat], ?_⟩
  show atI (cs.map D.int) j = _
  unfold atI
  rw [e]
  simp [hj]
theorem pow18 : powO (.int 10) (.int 18) = some (.int 1000000000000000000) := by kernel_rfl
theorem cell_ok {ρ : Z.Env} {g : G} {cs : List Int} {i e : Int} (h3 : ρ[3]? = some (.val (.int i))) (h4 : ρ[4]? = some (.val (.lst (cs.map D.int)))) : ∃ c : Int, mIf (mB (mOp neF (mV 4) (mLst mNil))) (mOp idxO (mV 4) (mOp modO (mUn intO (mV 3)) (mUn lenO (mV 4)))) (mC (.int e)) ρ g = .ok (.int c) g := by
  have f0 : fits 0 = true := rfl
  cases cs with
  | nil =>
    refine ⟨e, ?_⟩
    have hn := neF_nil []
    simp only [List.map_nil] at hn h4
    simp only [mIf, mB, mOp, mV, h4, mLst, mNil, Res.bind, ret, List.length_nil, f0, if_true, hn, isB, List.isEmpty_nil, Bool.not_true, Bool.false_eq_true, if_false, mC]
  | cons c cs =>
    have hp : (0 : Int) < ((c :: cs).length : Int) := by simp only [List.length_cons]; omega
    obtain ⟨d, hd⟩ := idx_ints (c :: cs) (i % ((c :: cs).length : Int)) (Int.emod_nonneg _ (by omega)) (Int.emod_lt_of_pos _ hp)
    refine ⟨d, ?_⟩
    have hn := neF_nil (c :: cs)
    have hl : lenO (.lst ((c :: cs).map D.int)) = some (.int ((c :: cs).length : Int)) := by simp [lenO]
    simp only [mIf, mB, mOp, mUn, mV, h3, h4, mLst, mNil, Res.bind, ret, List.length_nil, f0, if_true, hn, isB, List.isEmpty_cons, Bool.not_false, intO_i, hl, modO_ii hp, hd]
theorem lenO_ints (cs : List Int) : lenO (.lst (cs.map D.int)) = some (.int cs.length) := by simp [lenO]
end
end Z
namespace Z
open PySem PySem.Spec PyProof.Rows L2
set_option autoImplicit false
abbrev iEnv (q : Str) (sc : Scope) (L fI cda cc : Addr) : PySem.Env := PySem.W.ksEnv q sc L fI (.ref cda) cc
structure InitK (P : Program) (K : PySem.W.Frag) (C fI cda cc : Addr) (qual : Str) (params : Arguments) (body : List Stmt) (sc : Scope) (fs : List Str) : Prop where
  oex : OexC K C
  ini : PySem.W.findIn K (.ref C) "__init__" = some (some (.ref fI))
  tyI : PySem.W.typeIn K (.ref fI) = some (.type "function")
  fn : ∃ oc od osl kV doc pm an ct, K.lookup fI = some ⟨oc, od, .func (PySem.W.ksFn "__init__" qual params body sc .none kV doc pm an (.ref cda) ct cc), osl⟩
  code : PySem.W.codeIn K (.ref cda) qual = true
  file : ∃ ccl cdd vs ccs tf, K.lookup cda = some ⟨ccl, cdd, .fields vs, ccs⟩ ∧ vs[2]? = some (.str P.main.file tf)
  cell : ∃ cl cld csl, K.lookup cc = some ⟨cl, cld, .cell (some (.ref C)), csl⟩
  msub : PySem.W.mroIn K C (.ref C) = some true
  sup : PySem.W.ks_superIn K C C "__init__" = some (some (.builtin "ValueError.__init__"))
  isV : PySem.W.subIn K (.ref C) (.type "ValueError") = some true
  opq : PySem.W.nsIn K cStatics "thirdparty.any" = some none
  noat : ∀ f ∈ fs, PySem.W.findIn K (.ref C) f = some none
/-- what a module's heap gives to names -/
structure GlH (h : Heap) : Prop where
  sup : ∃ mg, h.Ns mainGlobals mg ∧ mg "super" = none
  blt : ∃ mb, h.Ns builtinsNs mb ∧ mb "super" = some (.type "super")
section
variable {P : Program} {w : World} {A : Around} {E : Value → Shared → Prop} {K : PySem.W.Frag} {C fI cda cc : Addr} {qual : Str} {params : Arguments} {body : List Stmt} {sc : Scope} {fs : List Str}
theorem InitK.excObj (I : InitK P K C fI cda cc qual params body sc fs) {h : Heap} (X : K.In h) : ∃ nm q N bs bm sn sub ab col dd k0 k1 k2 k3 k5, h.get? C = some (excClassObj nm q C N bs bm true sn sub ab col dd k0 k1 k2 k3 k5 "ValueError.__new__") ∧ PySem.HandSPX.refsVE bm = true := by
  obtain ⟨nm, q, N, bs, bm, sn, sub, ab, col, dd, k0, k1, k2, k3, k5, hC, hbm⟩ := I.oex.cls
  exact ⟨nm, q, N, bs, bm, sn, sub, ab, col, dd, k0, k1, k2, k3, k5, X _ _ hC, hbm⟩
/-- super().__init__(u, ..), the error new -/
theorem super_run (I : InitK P K C fI cda cc qual params body sc fs) {s : Shared} {L e t0 : Addr} {m : Str → Option Value} {p0 p1 p2 p3 p4 : Pos} {e1 : Expr} {es : List Expr} {us : List Value} {Q : Flow → Shared → Prop} {ar : Arg} {pl : Sem Bool}
    (X : K.In s.heap) (G : GlH s.heap) (hL : s.heap.Ns L m) (he : s.heap.get? e = some (PySem.HandSPX.excO C t0)) (hself : m "self" = some (.ref e)) (har : (params.posonlyargs ++ params.args).head? = some ar) (ha : ar.arg = "self")
    (hks : sc.names.lookup ("super" : Str) = some .globalImplicit) (hkc : sc.names.lookup ("__class__" : Str) = some .free) (hka : sc.names.lookup ("self" : Str) = some .local) (hk : sc.kind = .function) (htop : (P.main.scope.names.lookup ("super" : Str)).isSome = false)
    (hsp : ∀ (s1 : Shared) (Q1 : List Value → Shared → Prop) (E1 : Value → Shared → Prop), s1.heap.Ns L m → Q1 us s1 → wpAny (model P w) A (spliced (backTo p3 (starEach (e1 :: es) (iEnv qual sc L fI cda cc)))) Q1 E1 s1)
    (hus : us.length ≤ sizeLine)
    (hev : eval (.Call (.Attribute (.Call (.Name "super" p0) [] [] p1) "__init__" p2) (e1 :: es) [] p3) (iEnv qual sc L fI cda cc) = (do
      let ov ← attributeBase (.Call (.Name "super" p0) [] [] p1) "__init__" (iEnv qual sc L fI cda cc) (eval (.Call (.Name "super" p0) [] [] p1) (iEnv qual sc L fI cda cc))
      standAt p2.atName
      let (f, first) ← holding [ov] (getMethod ov "__init__" pl)
      callWith p3 f first (backTo p3 (starEach (e1 :: es) (iEnv qual sc L fI cda cc))) []))
    (hst : starEach (e1 :: es) (iEnv qual sc L fI cda cc) = (false, eval e1 (iEnv qual sc L fI cda cc)) :: starEach es (iEnv qual sc L fI cda cc)) (hpl : (backTo p3 (starEach es (iEnv qual sc L fI cda cc))).any (·.1) = false)
    (hsw : swapsWith (.Call (.Attribute (.Call (.Name "super" p0) [] [] p1) "__init__" p2) (e1 :: es) [] p3) none p4.line (iEnv qual sc L fI cda cc) = pure false) (hint : interactive (iEnv qual sc L fI cda cc) = false)
    (hq : ∀ h' tk t1, (∀ b o, b ≠ e → s.heap.get? b = some o → h'.get? b = some o) → h'.get? e = some (PySem.HandSPX.excO C t1) → Q .next { s with heap := h', toks := tk }) :
    PySem.wpAt (model P w) A (.func body (iEnv qual sc L fI cda cc)) (exec (.Expr (.Call (.Attribute (.Call (.Name "super" p0) [] [] p1) "__init__" p2) (e1 :: es) [] p3) p4) (iEnv qual sc L fI cda cc)) Q E s := by
  obtain ⟨oc, od, osl, kV, doc, pm, an, ct, hfI⟩ := I.fn
  obtain ⟨ccl, cdd, vs, ccs, tf, hcode, hvs⟩ := I.file
  obtain ⟨cl, cld, csl, hcell⟩ := I.cell
  obtain ⟨nm, q, N, bs, bm, sn, sub, ab, col, dd, k0, k1, k2, k3, k5, hC, hbm⟩ := I.excObj X
  obtain ⟨mg, hg, hgs⟩ := G.sup
  obtain ⟨mb, hb, hbs⟩ := G.blt
  obtain ⟨cd, hcd⟩ : ∃ cd, PySem.W.clsIn K C = some cd := by
    have := I.sup
    unfold PySem.W.ks_superIn at this
    cases hc : PySem.W.clsIn K C with
    | none => rw [hc] at this; cases this
    | some cd => exact ⟨cd, rfl⟩
  have hal : PySem.W.alongIn K "__init__" ((cd.mro.dropWhile (· != .ref C)).drop 1) = some (some (.builtin "ValueError.__init__")) := by
    have := I.sup
    unfold PySem.W.ks_superIn at this
    rw [hcd] at this
    exact this
  obtain ⟨hh, g, d, t, os⟩ := s
  have IA : PySem.W.InstAt hh e (PySem.HandSPX.excO C t0) C none := ⟨he, rfl, rfl, trivial⟩
  refine ks_wpAt_Expr_any ?_ hint hsw
  refine ks_wpAt_MethodCall (pl := pl) ?_ hev
  refine ks_wpAt_super_base (f := fI) (cc := cda) (ar := ar) (file := P.main.file) (tf := tf) hks hkc rfl rfl (X _ _ hfI) rfl har rfl (X _ _ hcode) rfl hvs (by simp) htop ?_
  refine PySem.W.ks_loadName_global hk hks (Calls.loadGlobal_builtin (env := iEnv qual sc L fI cda cc) hg hgs hb hbs ⟨rfl, ?_⟩)
  refine wpAny_loadName_free hk hkc rfl ⟨_, X _ _ hcell, rfl⟩ ?_
  rw [ha]
  refine wpAny_loadName_local hk hka hL hself ?_
  refine ks_wpAny_isType_cls hC rfl ⟨rfl, ?_⟩
  refine ks_wpAny_call_super hC rfl he rfl (fun c z => by cases z) (PySem.W.looks_mroIn X I.msub) (fun h' e' k => ?_)
  have X' : K.In h' := fun b o z => k _ _ (X b o z)
  have IA' : PySem.W.InstAt h' e (PySem.HandSPX.excO C t0) C none := ⟨k _ _ he, rfl, rfl, trivial⟩
  refine PySem.W.kxs_getMethod PySem.W.kxs_ValueError e' (PySem.W.looks_opaque X' I.opq) (l₀ := cd.mro) ?_ rfl X' hal (IA'.type.andThen (PySem.W.looks_subIn X' I.isV)) (PySem.W.ks_ne X IA hcd) (by decide) ?_
  · exact fun A Q E s k q => wpAny_bind ((PySem.W.looks_clsIn X' hcd) A _ E s k (wpAny_pure q))
  rw [hst]
  refine PySem.W.kxs_callWith (i := "ValueError.__init__") (x := e) (by show (false || (backTo p3 (starEach es (iEnv qual sc L fI cda cc))).any (·.1)) = false; rw [hpl]; rfl) ?_
  refine Calls.evalArgs_plain ?_
  have k2 : ∀ b o, hh.get? b = some o → (h'.push (PySem.W.kxs_mw "ValueError.__init__" e)).get? b = some o := fun b o z => Heap.get?_push_of_some _ (k b o z)
  have hu : (h'.push (PySem.W.kxs_mw "ValueError.__init__" e)).get? h'.objs.size = some (PySem.W.kxs_mw "ValueError.__init__" e) := Heap.get?_push_at rfl rfl
  have hsp1 := hsp ⟨h'.push (PySem.W.kxs_mw "ValueError.__init__" e), g, d, t + 1, os⟩
  rw [hst] at hsp1
  refine hsp1 _ _ (hL.at fun o z => k2 _ _ z) ?_
  refine ⟨hu, ?_⟩
  refine wpAny_call (codeAny_of_tree ?_)
  show wpAny _ A.in1 (callAny (.ref h'.objs.size) ⟨us, []⟩) _ _ _
  simp only [callAny]
  refine wpAny_bind (wpAny_load hu ?_)
  simp only [PySem.W.kxs_mw, show (Value.type "method-wrapper" == Value.type "method" || Value.type "method-wrapper" == Value.type "builtin_function_or_method" || Value.type "method-wrapper" == Value.type "method-wrapper") = true by decide, if_true]
  refine PySem.W.KFB.if_so (by decide) ?_
  refine wpAny_bind (PySem.W.check_bound_init F.excBase_ValueError.toExcCallFacts (k2 _ _ hC) (k2 _ _ he) rfl ?_)
  refine wpAny_bind (wpAny_pure (wpAny_pure ?_))
  refine ⟨plainId_quiet F.excBase_ValueError.init.plain _, codeAny_builtin F.excBase_ValueError.initEntry ?_⟩
  refine PySem.W.exc_init_tree (cls := .ref C) (t0 := t0) (dv := none) (c2 := .none) (c3 := .none) (b4 := .bool false) (k2 _ _ he) hus (fun h2 kk e2 _ => ?_)
  exact hq h2 _ _ (fun b o hb z => kk b o hb (k2 b o z)) e2
/-- self.f = f -/
theorem store_1 (I : InitK P K C fI cda cc qual params body sc fs) {s : Shared} {L e t0 : Addr} {m : Str → Option Value} {p0 p1 p2 p3 : Pos} {f : Str} {u : Value} {Q : Flow → Shared → Prop}
    (X : K.In s.heap) (hL : s.heap.Ns L m) (he : s.heap.get? e = some (PySem.HandSPX.excO C t0)) (hself : m "self" = some (.ref e)) (hf : m f = some u) (hka : sc.names.lookup ("self" : Str) = some .local) (hkf : sc.names.lookup f = some .local) (hk : sc.kind = .function) (hff : f ∈ fs) (hd : (f == ("__debug__" : Str)) = false)
    (hsw : swapsWith (.Name f p2) (some (.Attribute (.Name "self" p0) f p1)) p3.line (iEnv qual sc L fI cda cc) = pure false)
    (hq : ∀ h' tk dx, (∀ b o, b ≠ e → s.heap.get? b = some o → h'.get? b = some o) → s.heap.objs.size ≤ dx → dx ≠ e → h'.get? e = some { cls := .ref C, dict := some dx, data := .fields #[.ref t0, .none, .none, .none, .bool false, .none] } →
      h'.Ns1 dx (fun y => if y = f then some u else none) → Q .next { s with heap := h', toks := tk }) :
    wpAny (model P w) A (exec (.Assign [.Attribute (.Name "self" p0) f p1] (.Name f p2) p3) (iEnv qual sc L fI cda cc)) Q E s := by
  obtain ⟨nm, q, N, bs, bm, sn, sub, ab, col, dd, k0, k1, k2, k3, k5, hC, hbm⟩ := I.oex.cls
  have hcl : PySem.W.clsIn K C = some { name := nm, bases := bs, mro := .ref C :: bm, ns := N, qualname := q, hasDict := true, slotNames := sn, subclasses := sub, abstract := ab, collection := col, hasDel := false } := by unfold PySem.W.clsIn; rw [hC] <;> rfl
  obtain ⟨hp, g, d, t, os⟩ := s
  refine plainObj_wpAny_Assign_Attribute ?_ hsw
  refine wpAny_Name (wpAny_loadName_local hk hkf hL hf ?_) hd
  refine wpAny_Name (wpAny_loadName_local hk hka hL hself ?_) (by decide)
  refine PySem.W.set_plain X (ox := PySem.HandSPX.excO C t0) (od := none) ⟨he, rfl, rfl, trivial⟩ I.oex.sa ?_
  refine PySem.HandSPX.exc_osa X he hcl (show PySem.HandSPX.refsVE (.ref C :: bm) = true from hbm) rfl (I.noat f hff) (fun h' tk' dx k dn dne hx hn => ?_)
  exact hq h' tk' dx k dn dne hx hn
theorem store_2 (I : InitK P K C fI cda cc qual params body sc fs) {s : Shared} {L e t0 dx : Addr} {m m0 : Str → Option Value} {p0 p1 p2 p3 : Pos} {f : Str} {u : Value} {Q : Flow → Shared → Prop} {ns : List Str}
    (X : K.In s.heap) (hL : s.heap.Ns L m) (he : s.heap.get? e = some { cls := .ref C, dict := some dx, data := .fields #[.ref t0, .none, .none, .none, .bool false, .none] }) (hns : s.heap.Ns1 dx m0) (hw : Within m0 ns) (hz : ns.length ≤ 1000)
    (hself : m "self" = some (.ref e)) (hf : m f = some u) (hka : sc.names.lookup ("self" : Str) = some .local) (hkf : sc.names.lookup f = some .local) (hk : sc.kind = .function) (hff : f ∈ fs) (hd : (f == ("__debug__" : Str)) = false)
    (hsw : swapsWith (.Name f p2) (some (.Attribute (.Name "self" p0) f p1)) p3.line (iEnv qual sc L fI cda cc) = pure false)
    (hq : ∀ h' tk, (∀ b o, b ≠ dx → s.heap.get? b = some o → h'.get? b = some o) → h'.Ns1 dx (fun y => if y = f then some u else m0 y) → Q .next { s with heap := h', toks := tk }) :
    wpAny (model P w) A (exec (.Assign [.Attribute (.Name "self" p0) f p1] (.Name f p2) p3) (iEnv qual sc L fI cda cc)) Q E s := by
  obtain ⟨nm, q, N, bs, bm, sn, sub, ab, col, dd, k0, k1, k2, k3, k5, hC, hbm⟩ := I.oex.cls
  have hcl : PySem.W.clsIn K C = some { name := nm, bases := bs, mro := .ref C :: bm, ns := N, qualname := q, hasDict := true, slotNames := sn, subclasses := sub, abstract := ab, collection := col, hasDel := false } := by unfold PySem.W.clsIn; rw [hC] <;> rfl
  obtain ⟨hp, g, d, t, os⟩ := s
  obtain ⟨oD, _, _, hoD, _, _⟩ := hns.count hw
  refine plainObj_wpAny_Assign_Attribute ?_ hsw
  refine wpAny_Name (wpAny_loadName_local hk hkf hL hf ?_) hd
  refine wpAny_Name (wpAny_loadName_local hk hka hL hself ?_) (by decide)
  refine PySem.W.set_plain X (od := some oD) ⟨he, rfl, rfl, hoD⟩ I.oex.sa ?_
  refine PySem.OEX.osa_old X he hns hw hz hcl (show PySem.HandSPX.refsVE (.ref C :: bm) = true from hbm) rfl (I.noat f hff) (fun h' tk' k hn => ?_)
  exact hq h' tk' k hn
end
end Z
namespace Z
open PySem PySem.Spec PyProof.Rows L2
set_option autoImplicit false
section
variable {P : Program} {w : World} {A : Around} {E : Value → Shared → Prop} {K : PySem.W.Frag} {C fI cda cc : Addr} {qual : Str} {params : Arguments} {body : List Stmt} {sc : Scope} {fs : List Str}
/-- what is asked of the scope of an __init__ -/
structure InitS (P : Program) (params : Arguments) (qual : Str) (sc : Scope) (fs : List Str) : Prop where
  ks : sc.names.lookup ("super" : Str) = some .globalImplicit
  kc : sc.names.lookup ("__class__" : Str) = some .free
  ka : sc.names.lookup ("self" : Str) = some .local
  kf : ∀ f ∈ fs, sc.names.lookup f = some .local
  kd : ∀ f ∈ fs, (f == ("__debug__" : Str)) = false
  k : sc.kind = .function
  co : sc.isCoroutine = false
  gen : sc.isGenerator = false
  cell : ∀ x ∈ sc.names, x.2 ≠ .cell
  top : (P.main.scope.names.lookup ("super" : Str)).isSome = false
  ar : ∃ ar, (params.posonlyargs ++ params.args).head? = some ar ∧ ar.arg = "self"
  nd : ((("self" : Str)) :: fs).Nodup
  bind : ∀ (kV doc pm : Value) (an : Option Addr) (cdv ct : Value) (cc : Addr) (us : List Value), us.length = fs.length + 1 → bindArgs (PySem.W.ksFn "__init__" qual params [] sc .none kV doc pm an cdv ct cc) ⟨us, []⟩ = pure (((("self" : Str)) :: fs).zip us)
theorem bind_body {q : Str} {kV doc pm : Value} {an : Option Addr} {cdv ct : Value} {cc : Addr} {a : Args} : bindArgs (PySem.W.ksFn "__init__" q params body sc .none kV doc pm an cdv ct cc) a = bindArgs (PySem.W.ksFn "__init__" q params [] sc .none kV doc pm an cdv ct cc) a := rfl
/-- the entry of the __init__ -/
theorem init_enter (I : InitK P K C fI cda cc qual params body sc fs) (S : InitS P params qual sc fs) {s : Shared} {e t0 : Addr} {us : List Value} {R : Result → Shared → Prop} (hl : us.length = fs.length)
    (X : K.In s.heap) (nl : s.heap.NoLimit) (hroom : A.depth < recursionLimit)
    (h : ∀ h1 (m : Str → Option Value), h1.Ns s.heap.objs.size m → (∀ b o, s.heap.get? b = some o → h1.get? b = some o) → m "self" = some (.ref e) → (∀ (i : Nat) (f : Str) (u : Value), fs[i]? = some f → us[i]? = some u → m f = some u) →
      PySem.wpAt (model P w) (A.deeper (iEnv qual sc s.heap.objs.size fI cda cc)) (.func body (iEnv qual sc s.heap.objs.size fI cda cc)) (execs body (iEnv qual sc s.heap.objs.size fI cda cc)) (fun f s' => R (.ok (.ret (match f with | .ret v => v | _ => .none))) s')
        (fun e s' => wpAny (model P w) (A.deeper (iEnv qual sc s.heap.objs.size fI cda cc)) (leaving (iEnv qual sc s.heap.objs.size fI cda cc) e) (fun _ s'' => R (.error e) s'') (fun e' s'' => R (.error e') s'') s')
        { s with heap := h1, toks := s.toks + (((("self" : Str)) :: fs).zip (Value.ref e :: us)).length }) : codeAny (model P w) A (.call (.ref fI) ⟨.ref e :: us, []⟩) R s := by
  obtain ⟨oc, od, osl, kV, doc, pm, an, ct, hfI⟩ := I.fn
  refine ks_codeAny_call_defAt (binds := ((("self" : Str)) :: fs).zip (Value.ref e :: us)) hroom (X _ _ hfI) rfl nl (PySem.W.codeRec_of X I.code) rfl (.of_eq (bind_body.trans (S.bind _ _ _ _ _ _ _ _ (by simp [hl])))) S.cell ?_ (fun h1 hns k1 => ?_) S.co S.gen S.k
  · intro x hx
    have := (List.of_mem_zip (show (x.1, x.2) ∈ _ from hx)).1
    rcases List.mem_cons.mp this with e | hm
    · rw [e]; exact S.ka
    · exact S.kf _ hm
  · refine h h1 _ hns k1 ?_ ?_
    · have nd := (List.nodup_cons.mp S.nd).1
      have : ∀ (l : List (Str × Value)), (∀ p ∈ l, p.1 ≠ ("self" : Str)) → (l ++ [(("self" : Str), Value.ref e)]).lookup ("self" : Str) = some (.ref e) := by
        intro l
        induction l with
        | nil => intro _; rfl
        | cons p l ih =>
          intro hp
          obtain ⟨a, b⟩ := p
          have h1 := hp (a, b) List.mem_cons_self
          rw [List.cons_append, List.lookup_cons, show (("self" : Str) == a) = false from by simpa using fun z => h1 z.symm]
          exact ih fun q hq => hp q (List.mem_cons_of_mem _ hq)
      show (List.reverse ((("self" : Str), Value.ref e) :: fs.zip us)).lookup ("self" : Str) = _
      rw [List.reverse_cons]
      refine this _ fun p hp z => nd ?_
      have := (List.of_mem_zip (show (p.1, p.2) ∈ fs.zip us from List.mem_reverse.mp hp)).1
      rw [z] at this; exact this
    · intro i f u hf hu
      have key : ∀ (l : List (Str × Value)) (i : Nat), (l.map (·.1)).Nodup → l[i]? = some (f, u) → l.reverse.lookup f = some u := by
        intro l
        induction l with
        | nil => intro i _ h; simp at h
        | cons p l ih =>
          intro i nd h
          obtain ⟨a, b⟩ := p
          obtain ⟨nd1, nd2⟩ : a ∉ l.map (·.1) ∧ (l.map (·.1)).Nodup := List.nodup_cons.mp nd
          have app : ∀ (r : List (Str × Value)) (x : Str) (y : Str × Value), (r ++ [y]).lookup x = match r.lookup x with | some z => some z | none => if x = y.1 then some y.2 else none := by
            intro r x y
            induction r with
            | nil =>
              obtain ⟨y1, y2⟩ := y
              rw [List.nil_append, List.lookup_cons]
              by_cases e : x = y1
              · subst e; simp
              · simp [show (x == y1) = false by simpa using e, e]
            | cons q r ihr =>
              obtain ⟨q1, q2⟩ := q
              rw [List.cons_append, List.lookup_cons, List.lookup_cons]
              cases x == q1 with
              | true => rfl
              | false => exact ihr
          rw [List.reverse_cons, app]
          cases i with
          | zero =>
            have h : (a, b) = (f, u) := by simpa using h
            cases h
            cases z : l.reverse.lookup f with
            | none => simp
            | some v =>
              exfalso
              refine nd1 ?_
              have mem : ∀ (r : List (Str × Value)), r.lookup f = some v → f ∈ r.map (·.1) := by
                intro r
                induction r with
                | nil => intro h; cases h
                | cons q r ihr =>
                  obtain ⟨q1, q2⟩ := q
                  intro h
                  rw [List.lookup_cons] at h
                  cases e : f == q1 with
                  | true => simp [eq_of_beq e]
                  | false => rw [e] at h; exact List.mem_cons_of_mem _ (ihr h)
              have := mem _ z
              simpa using this
          | succ i =>
            rw [ih i nd2 (by simpa using h)]
      refine key ((("self" : Str), Value.ref e) :: fs.zip us) (i + 1) ?_ ?_
      · rw [List.map_cons, List.map_fst_zip (by omega)]
        exact S.nd
      · rw [List.getElem?_cons_succ, List.getElem?_zip_eq_some]
        exact ⟨hf, hu⟩
end
end Z
namespace Z
open PySem PySem.Spec PyProof.Rows L2
set_option autoImplicit false
abbrev supB (p0 p1 p2 p3 p4 : Pos) (es : List Expr) : Stmt := .Expr (.Call (.Attribute (.Call (.Name "super" p0) [] [] p1) "__init__" p2) es [] p3) p4
abbrev EvS (p0 p1 p2 p3 : Pos) (es : List Expr) (pl : Sem Bool) : Prop := ∀ (qual : Str) (sc : Scope) (L fI cda cc : Addr), eval (.Call (.Attribute (.Call (.Name "super" p0) [] [] p1) "__init__" p2) es [] p3) (iEnv qual sc L fI cda cc) = (do
      let ov ← attributeBase (.Call (.Name "super" p0) [] [] p1) "__init__" (iEnv qual sc L fI cda cc) (eval (.Call (.Name "super" p0) [] [] p1) (iEnv qual sc L fI cda cc))
      standAt p2.atName
      let (f, first) ← holding [ov] (getMethod ov "__init__" pl)
      callWith p3 f first (backTo p3 (starEach es (iEnv qual sc L fI cda cc))) [])
abbrev stB (f : Str) (p0 p1 p2 p3 : Pos) : Stmt := .Assign [.Attribute (.Name "self" p0) f p1] (.Name f p2) p3
section
variable {P : Program} {w : World} {A : Around} {E : Value → Shared → Prop} {K : PySem.W.Frag} {C fI cda cc : Addr} {qual : Str} {params : Arguments} {body : List Stmt} {sc : Scope} {fs : List Str}
/-- a name of the entry -/
theorem ld_par {e : PySem.Env} {L : Addr} {m : Str → Option Value} {s : Shared} {f : Str} {u : Value} {p : Pos} {M : Model} {Q : Value → Shared → Prop} (hk : e.scope.kind = .function) (hl : e.kindOf f = some .local) (hL : e.locals = L) (hn : s.heap.Ns L m) (hf : m f = some u) (hd : (f == ("__debug__" : Str)) = false) (q : Q u s) : wpAny M A (eval (.Name f p) e) Q E s := by
  subst hL
  exact wpAny_Name (wpAny_loadName_local hk hl hn hf q) hd
theorem init_2 {f1 f2 : Str} {p0 p1 p2 p3 p4 q0 q1 q2 q3 r0 r1 r2 r3 n1 n2 : Pos}
    (I : InitK P K C fI cda cc qual params [supB p0 p1 p2 p3 p4 [.Name f1 n1, .Name f2 n2], stB f1 q0 q1 q2 q3, stB f2 r0 r1 r2 r3] sc [f1, f2]) (S : InitS P params qual sc [f1, f2]) {pl : Sem Bool} (hev : EvS p0 p1 p2 p3 [.Name f1 n1, .Name f2 n2] pl) {s : Shared} {e t0 : Addr} {u1 u2 : Value} {R : Result → Shared → Prop}
    (X : K.In s.heap) (G : GlH s.heap) (nl : s.heap.NoLimit) (hroom : A.depth < recursionLimit) (he : s.heap.get? e = some (PySem.HandSPX.excO C t0)) (hKe : ∀ b o, K.lookup b = some o → b ≠ e)
    (hq : ∀ h' tk dx, (∀ b o, b ≠ e → s.heap.get? b = some o → h'.get? b = some o) → s.heap.objs.size ≤ dx → dx ≠ e → (∃ t1 : Addr, h'.get? e = some { cls := .ref C, dict := some dx, data := .fields #[.ref t1, .none, .none, .none, .bool false, .none] }) →
      (∃ m, h'.Ns1 dx m ∧ ∀ f, m f = [(f1, u1), (f2, u2)].lookup f) → R (.ok (.ret .none)) { s with heap := h', toks := tk }) :
    codeAny (model P w) A (.call (.ref fI) ⟨[.ref e, u1, u2], []⟩) R s := by
  obtain ⟨ar, har, hara⟩ := S.ar
  have nd1 : f1 ≠ f2 := by
    have := (List.nodup_cons.mp (List.nodup_cons.mp S.nd).2).1
    intro z; exact this (by rw [z]; exact List.mem_singleton.mpr rfl)
  refine init_enter (t0 := t0) I S rfl X nl hroom fun h1 m hns k1 hself hfs => ?_
  have g1 : m f1 = some u1 := hfs 0 f1 u1 rfl rfl
  have g2 : m f2 = some u2 := hfs 1 f2 u2 rfl rfl
  have X1 : K.In h1 := fun b o z => k1 _ _ (X b o z)
  have G1 : GlH h1 := ⟨let ⟨mg, a, b⟩ := G.sup; ⟨mg, a.at fun o z => k1 _ _ z, b⟩, let ⟨mg, a, b⟩ := G.blt; ⟨mg, a.at fun o z => k1 _ _ z, b⟩⟩
  refine ks_wpAt_execs_cons ?_
  refine super_run I X1 G1 hns (k1 _ _ he) hself har hara S.ks S.kc S.ka S.k S.top (us := [u1, u2]) ?_ (by rw [sizeLine_eq]; simp) (hev _ _ _ _ _ _) rfl rfl (by rfl) ?_ fun h2 tk t1 k2 e2 => ?_
  · intro s1 Q1 E1 hn q1
    refine Calls.spliced_cons (ld_par (L := s.heap.objs.size) S.k (S.kf f1 (by simp)) rfl hn g1 (S.kd f1 (by simp)) ?_)
    refine Calls.spliced_cons (ld_par (L := s.heap.objs.size) S.k (S.kf f2 (by simp)) rfl hn g2 (S.kd f2 (by simp)) ?_)
    exact Calls.spliced_nil q1
  · unfold interactive
    have := S.k
    simp [this]
  have xL : s.heap.objs.size ≠ e := Nat.ne_of_gt (Heap.lt_size he)
  have L2' : h2.Ns s.heap.objs.size m := hns.at fun o z => k2 _ _ xL z
  have X2 : K.In h2 := fun b o z => k2 _ _ (hKe b o z) (X1 b o z)
  show PySem.wpAt _ _ _ (execs [stB f1 q0 q1 q2 q3, stB f2 r0 r1 r2 r3] (iEnv qual sc s.heap.objs.size fI cda cc)) _ _ _
  refine wpAt_of_wpAny (wpAny_execs_cons ?_)
  refine store_1 I X2 L2' e2 hself g1 S.ka (S.kf f1 (by simp)) S.k (by simp) (S.kd f1 (by simp)) (by rfl) fun h3 tk3 dx k3 ndx ne3 e3 ns3 => ?_
  have X3 : K.In h3 := fun b o z => k3 _ _ (hKe b o z) (X2 b o z)
  have L3 : h3.Ns s.heap.objs.size m := L2'.at fun o z => k3 _ _ xL z
  have sz2 : s.heap.objs.size ≤ dx := by
    obtain ⟨oL, esL, epL, hL, _⟩ := L2'
    exact Nat.le_trans (Nat.le_of_lt (Heap.lt_size hL)) ndx
  have dL : s.heap.objs.size ≠ dx := by
    obtain ⟨oL, esL, epL, hL, _⟩ := L2'
    have := Heap.lt_size hL
    have : s.heap.objs.size < dx := Nat.lt_of_lt_of_le this ndx
    omega
  show wpAny _ _ (execs [stB f2 r0 r1 r2 r3] (iEnv qual sc s.heap.objs.size fI cda cc)) _ _ _
  refine wpAny_execs_cons ?_
  refine store_2 I X3 L3 e3 ns3 (ns := [f1]) (fun y hy => ?_) (by simp) hself g2 S.ka (S.kf f2 (by simp)) S.k (by simp) (S.kd f2 (by simp)) (by rfl) fun h4 tk4 k4 ns4 => ?_
  · by_cases e : y = f1
    · rw [e]; exact List.mem_singleton.mpr rfl
    · exact absurd (if_neg e) hy
  show wpAny _ _ (execs [] (iEnv qual sc s.heap.objs.size fI cda cc)) _ _ _
  refine wpAny_execs_nil ?_
  refine hq h4 _ dx (fun b o hb z => ?_) sz2 ne3 ⟨_, k4 _ _ (Ne.symm ne3) e3⟩ ⟨_, ns4, fun f => ?_⟩
  · have z3 := k3 _ _ hb (k2 _ _ hb (k1 _ _ z))
    have : b ≠ dx := Nat.ne_of_lt (Nat.lt_of_lt_of_le (Heap.lt_size z) sz2)
    exact k4 _ _ this z3
  · simp only [List.lookup_cons, List.lookup_nil]
    by_cases e1 : f = f1
    · subst e1
      simp [nd1]
    · have : (f == f1) = false := by simpa using e1
      rw [this]
      by_cases e2 : f = f2
      · subst e2; simp
      · have : (f == f2) = false := by simpa using e2
        rw [this, if_neg e2, if_neg e1]
theorem init_1 {f1 : Str} {p0 p1 p2 p3 p4 q0 q1 q2 q3 n1 : Pos}
    (I : InitK P K C fI cda cc qual params [supB p0 p1 p2 p3 p4 [.Name f1 n1], stB f1 q0 q1 q2 q3] sc [f1]) (S : InitS P params qual sc [f1]) {pl : Sem Bool} (hev : EvS p0 p1 p2 p3 [.Name f1 n1] pl) {s : Shared} {e t0 : Addr} {u1 : Value} {R : Result → Shared → Prop}
    (X : K.In s.heap) (G : GlH s.heap) (nl : s.heap.NoLimit) (hroom : A.depth < recursionLimit) (he : s.heap.get? e = some (PySem.HandSPX.excO C t0)) (hKe : ∀ b o, K.lookup b = some o → b ≠ e)
    (hq : ∀ h' tk dx, (∀ b o, b ≠ e → s.heap.get? b = some o → h'.get? b = some o) → s.heap.objs.size ≤ dx → dx ≠ e → (∃ t1 : Addr, h'.get? e = some { cls := .ref C, dict := some dx, data := .fields #[.ref t1, .none, .none, .none, .bool false, .none] }) →
      (∃ m, h'.Ns1 dx m ∧ ∀ f, m f = [(f1, u1)].lookup f) → R (.ok (.ret .none)) { s with heap := h', toks := tk }) :
    codeAny (model P w) A (.call (.ref fI) ⟨[.ref e, u1], []⟩) R s := by
  obtain ⟨ar, har, hara⟩ := S.ar
  refine init_enter (t0 := t0) I S rfl X nl hroom fun h1 m hns k1 hself hfs => ?_
  have g1 : m f1 = some u1 := hfs 0 f1 u1 rfl rfl
  have X1 : K.In h1 := fun b o z => k1 _ _ (X b o z)
  have G1 : GlH h1 := ⟨let ⟨mg, a, b⟩ := G.sup; ⟨mg, a.at fun o z => k1 _ _ z, b⟩, let ⟨mg, a, b⟩ := G.blt; ⟨mg, a.at fun o z => k1 _ _ z, b⟩⟩
  refine ks_wpAt_execs_cons ?_
  refine super_run I X1 G1 hns (k1 _ _ he) hself har hara S.ks S.kc S.ka S.k S.top (us := [u1]) ?_ (by rw [sizeLine_eq]; simp) (hev _ _ _ _ _ _) rfl rfl (by rfl) ?_ fun h2 tk t1 k2 e2 => ?_
  · intro s1 Q1 E1 hn q1
    refine Calls.spliced_cons (ld_par (L := s.heap.objs.size) S.k (S.kf f1 (by simp)) rfl hn g1 (S.kd f1 (by simp)) ?_)
    exact Calls.spliced_nil q1
  · unfold interactive
    have := S.k
    simp [this]
  have xL : s.heap.objs.size ≠ e := Nat.ne_of_gt (Heap.lt_size he)
  have L2' : h2.Ns s.heap.objs.size m := hns.at fun o z => k2 _ _ xL z
  have X2 : K.In h2 := fun b o z => k2 _ _ (hKe b o z) (X1 b o z)
  show PySem.wpAt _ _ _ (execs [stB f1 q0 q1 q2 q3] (iEnv qual sc s.heap.objs.size fI cda cc)) _ _ _
  refine wpAt_of_wpAny (wpAny_execs_cons ?_)
  refine store_1 I X2 L2' e2 hself g1 S.ka (S.kf f1 (by simp)) S.k (by simp) (S.kd f1 (by simp)) (by rfl) fun h3 tk3 dx k3 ndx ne3 e3 ns3 => ?_
  have sz2 : s.heap.objs.size ≤ dx := by
    obtain ⟨oL, esL, epL, hL, _⟩ := L2'
    exact Nat.le_trans (Nat.le_of_lt (Heap.lt_size hL)) ndx
  show wpAny _ _ (execs [] (iEnv qual sc s.heap.objs.size fI cda cc)) _ _ _
  refine wpAny_execs_nil ?_
  refine hq h3 _ dx (fun b o hb z => k3 _ _ hb (k2 _ _ hb (k1 _ _ z))) sz2 ne3 ⟨_, e3⟩ ⟨_, ns3, fun f => ?_⟩
  simp only [List.lookup_cons, List.lookup_nil]
  by_cases e1 : f = f1
  · subst e1
    simp
  · have : (f == f1) = false := by simpa using e1
    rw [this, if_neg e1]
end
end Z
namespace Z
open PySem PySem.Spec PyProof.Rows L2
set_option autoImplicit false
/-- an error class whose making is known -/
structure ErrC (P : Program) (K : PySem.W.Frag) (C fI : Addr) (fs : List Str) : Prop where
  oex : OexC K C
  ini : PySem.W.findIn K (.ref C) "__init__" = some (some (.ref fI))
  tyI : PySem.W.typeIn K (.ref fI) = some (.type "function")
  few : fs.length ≤ 2
  run : ∀ (w : World) (A : Around) (R : Result → Shared → Prop) (s : Shared) (e t0 : Addr) (us : List Value), us.length = fs.length → K.In s.heap → GlH s.heap → s.heap.NoLimit → A.depth < recursionLimit → s.heap.get? e = some (PySem.HandSPX.excO C t0) → (∀ b o, K.lookup b = some o → b ≠ e) →
    (∀ h' tk dx, (∀ b o, b ≠ e → s.heap.get? b = some o → h'.get? b = some o) → s.heap.objs.size ≤ dx → dx ≠ e → (∃ t1 : Addr, h'.get? e = some { cls := .ref C, dict := some dx, data := .fields #[.ref t1, .none, .none, .none, .bool false, .none] }) →
      (∃ m, h'.Ns1 dx m ∧ ∀ f, m f = (fs.zip us).lookup f) → R (.ok (.ret .none)) { s with heap := h', toks := tk }) →
    codeAny (model P w) A (.call (.ref fI) ⟨.ref e :: us, []⟩) R s
theorem zip_relO : ∀ {fs : List Str} {vs : List V} {us : List Value}, Vals vs us → ∀ f, RelO ((fs.zip vs).lookup f) ((fs.zip us).lookup f)
  | [], _, _, _, f => trivial
  | _ :: _, [], [], _, f => trivial
  | g :: fs, v :: vs, u :: us, .cons r t, f => by
    rw [List.zip_cons_cons, List.zip_cons_cons, List.lookup_cons, List.lookup_cons]
    cases f == g with
    | true => exact r
    | false => exact zip_relO t f
theorem glH_of {X : Cx} {pins : List (Addr × Obj)} {σ : L2.St} {H : Hp} {s : Shared} (I : Inv X pins σ H s) (hm : X.mg "super" = none) {h : Heap} (k : ∀ b o, s.heap.get? b = some o → h.get? b = some o) : GlH h := by
  obtain ⟨mb, h1, h2⟩ := I.mod.blt
  exact ⟨⟨_, I.mod.glob.keeps fun b o z => k _ _ (I.bk b o z), hm⟩, ⟨mb, h1.keeps fun b o z => k _ _ (I.bk b o z), (h2 _ (by decide)).trans (by decide +kernel)⟩⟩
def tMkE (C : Addr) (fs : List Str) (ta : TA) : L2.St → Hp → XK → Prop := fun σ H Q => ta σ H fun vs H1 => vs.length = fs.length ∧ ∀ d, H1 d = none → Q (.ref C) (some d) (upd H1 d (.xd (fs.zip vs)))
section
variable {X : Cx} {C fI : Addr} {fs : List Str} {x : Str} {e : Expr} {es : List Expr} {ta : TA} {p pos : Pos}
theorem made_mkP {pins : List (Addr × Obj)} {σ : L2.St} {H1 : Hp} {Q : XK} {s1 : Shared} {h' : Heap} {tk : Nat} {a dx t1 : Addr} {vs : List V} {us : List Value} {m : Str → Option Value} (T : Raises X (.ref C)) (I1 : Inv X pins σ H1 s1) (r1 : Vals vs us)
    (k : ∀ b o, s1.heap.get? b = some o → h'.get? b = some o) (ha : s1.heap.objs.size ≤ a) (hd : s1.heap.objs.size ≤ dx) (dne : dx ≠ a) (hat : h'.get? a = some ({ cls := .ref C, dict := some dx, data := .fields #[.ref t1, .none, .none, .none, .bool false, .none] } : Obj))
    (hns : h'.Ns1 dx m) (hmf : ∀ f, m f = (fs.zip us).lookup f) (q : Q (.ref C) (some dx) (upd H1 dx (.xd (fs.zip vs)))) : MkP X pins σ Q (.ref a) { s1 with heap := h', toks := tk } := by
  obtain ⟨G, g1', g2'⟩ := restrict h' fun b => decide (b ≠ a)
  have gk : ∀ b, b ≠ a → G.get? b = h'.get? b := fun b hb => g1' b (decide_eq_true hb)
  have ge : G.get? a = none := g2' a (by simp)
  have nb : ∀ b o, s1.heap.get? b = some o → b ≠ a := fun b o z => Nat.ne_of_lt (Nat.lt_of_lt_of_le (Heap.lt_size z) ha)
  have J : Inv X pins σ (upd H1 dx (.xd (fs.zip vs))) { s1 with heap := G, toks := tk } := I1.laid (t' := tk) (a := dx) (o := .xd (fs.zip vs)) (h' := G) (fun b o z => (gk b (nb b o z)).trans (k b o z)) hd
    ⟨m, hns.at fun o y => (gk dx dne).trans y, fun f => by rw [hmf f]; exact zip_relO r1 f⟩
  refine ⟨a, _, _, { s1 with heap := G, toks := tk }, _, .ref C, some dx, rfl, J, fun b o z => ?_, ge, hat, ⟨rfl, rfl⟩, rfl, rfl, ?_, rfl, I1.bare, T, q⟩
  · by_cases hba : b = a
    · rw [hba, ge] at z; cases z
    · exact (gk b hba).symm.trans z
  · rw [upd_ne (Ne.symm dne)]; exact I1.hok.fresh ha
theorem pmk_err (T : ErrC X.prog X.K C fI fs) (hms : X.mg "super" = none) (hr : Room 1 X.A) (hg : Gl X x) (hm : X.mg x = some (.ref C)) (ha : PA X (e :: es) ta)
    (hdb : (x == ("__debug__" : Str)) = false := by decide) (he : starEach (e :: es) X.env = (false, eval e X.env) :: starEach es X.env := by rfl) (hpl : (backTo pos (starEach es X.env)).any (·.1) = false := by rfl) :
    PMk X (.Call (.Name x p) (e :: es) [] pos) (tMkE C fs ta) := by
  intro pins s σ H Q I h
  obtain ⟨nm, q, N, bs, bm, sn, sub, ab, col, dd, k0, k1, k2, k3, k5, hC, hbm⟩ := T.oex.cls
  refine wpAny_Call_Name_kw (ld_glob I hg hm ?_ hdb)
  refine PySem.W.callWith_K (h₀ := X.base) I.ok.mod.kin T.oex.kC (thn (ha.run pos pins s σ H _ I h) fun us s1 ⟨vs, H1, I1, r1, hz, q1⟩ => ⟨I1.kIn, ?_⟩) he hpl
  show wpAny _ _ (call (.ref C) us) _ _ _
  have hul : us.length = fs.length := by rw [← r1.length, hz]
  have hus : us.length ≤ sizeLine := by have := T.few; rw [sizeLine_eq]; omega
  have kk : ∀ b o, s1.heap.get? b = some o → ((s1.heap.push (PySem.W.kdv_tup us)).push (PySem.HandSPX.excO C s1.heap.objs.size)).get? b = some o := fun b o e => Heap.get?_push_of_some _ (Heap.get?_push_of_some _ e)
  have hget : ((s1.heap.push (PySem.W.kdv_tup us)).push (PySem.HandSPX.excO C s1.heap.objs.size)).get? (s1.heap.objs.size + 1) = some (PySem.HandSPX.excO C s1.heap.objs.size) := by heap_get
  have big : ((s1.heap.push (PySem.W.kdv_tup us)).push (PySem.HandSPX.excO C s1.heap.objs.size)).objs.size = s1.heap.objs.size + 2 := by simp [size_push']
  obtain ⟨hp, g, dr, tk, os⟩ := s1
  refine wpAny_call (PySem.HandSPX.call_own F.excBase_ValueError (fun Y => PySem.HandSPX.refsVE_contains Y bm hbm) (I1.kIn _ _ hC) (PySem.W.looks_findIn I1.kIn T.ini) (fun self => PySem.W.bind_fn I1.kIn self T.tyI) hus
    (T.run X.w _ _ ⟨(hp.push (PySem.W.kdv_tup us)).push (PySem.HandSPX.excO C hp.objs.size), g, dr, tk, os⟩ (hp.objs.size + 1) hp.objs.size us hul (fun b o z => kk _ _ (I1.kIn b o z)) (glH_of I1 hms kk) (I1.nolimit.keeps kk) ?_ hget
      (fun b o z => Nat.ne_of_lt (Nat.lt_succ_of_lt (Heap.lt_size (I1.kIn b o z)))) fun h' tk' dx k2 nd dne hat hns => ?_))
  · exact (hr.make C us []).depth
  · obtain ⟨t1, hat⟩ := hat
    obtain ⟨m, hns, hmf⟩ := hns
    rw [big] at nd
    refine ⟨rfl, ?_⟩
    exact made_mkP (s1 := ⟨hp, g, dr, tk, os⟩) (raises_own T.oex.exC T.oex.tyC) I1 r1 (fun b o z => k2 b o (Nat.ne_of_lt (Nat.lt_succ_of_lt (Heap.lt_size z))) (kk b o z)) (Nat.le_succ _) (Nat.le_trans (Nat.le_succ_of_le (Nat.le_succ _)) nd) dne hat hns hmf (q1 dx (I1.hok.fresh (Nat.le_trans (Nat.le_succ_of_le (Nat.le_succ _)) nd)))
end
def sRaise (c n : Nat) (m : EvL) : Sm := fun ρ g => match m ρ g with
  | .ok ds g1 => if ds.length = n then .exc ⟨c, ds⟩ ρ g1 else .bad
  | .exc x g1 => .exc x ρ g1
  | .bad => .bad
section
variable {T : Wd} {W : WX} {X : Cx} {C fI : Addr} {fs : List Str} {x : Str} {e : Expr} {es : List Expr} {m : EvL} {p pos pos' : Pos}
theorem ss_raise {c n : Nat} (ec : ErrC X.prog X.K C fI fs) (hT : T.ct c = .ref C) (hF : T.cf c = fs) (hn : n = fs.length) (hms : X.mg "super" = none) (hr : Room 1 X.A) (hc : X.calm = true) (tk : Takes X W) (hg : Gl X x) (hm : X.mg x = some (.ref C)) (ha : EAs T W X (e :: es) m)
    (hdb : (x == ("__debug__" : Str)) = false := by decide) (he : starEach (e :: es) X.env = (false, eval e X.env) :: starEach es X.env := by rfl) (hpl : (backTo pos (starEach es X.env)).any (·.1) = false := by rfl) :
    SS T W X (.Raise (some (.Call (.Name x p) (e :: es) [] pos)) none pos') (sRaise c n m) := by
  refine PS.imp (ps_raise hc tk (pmk_err ec hms hr hg hm ha hdb he hpl)) fun D' σ H ⟨E0, γ, ρ, g, S, q⟩ => ?_
  unfold sRaise at q
  refine ⟨γ, ρ, g, S.st, ?_⟩
  cases hm : m ρ g with
  | bad => rw [hm] at q; exact q
  | exc xc g1 =>
    rw [hm] at q
    intro cls dx ι' H' s1 G1 r1
    exact q _ _ _ _ _ (S.step s1 G1) r1
  | ok ds g1 =>
    rw [hm] at q
    dsimp only at q
    intro vs ι' H' s1 G1 r1
    by_cases hl : ds.length = n
    · rw [if_pos hl] at q
      refine ⟨by rw [r1.length, hl, hn], fun d hd => ?_⟩
      have S1 := S.step s1 G1
      have sm : Same H' (upd H' d (.xd (fs.zip vs))) := same_upd hd
      have st : Stp ι' ι' H' (upd H' d (.xd (fs.zip vs))) := .laid hd
      have S2 := S1.step (g' := g1) st (G1.keep sm (Gho.bi (γ.to ι')) (Gho.grows (γ := γ.to ι') st))
      refine q _ _ _ _ _ S2 ⟨hT.symm, d, vs, rfl, r1.keep st (Gho.bi (γ.to ι')) (Gho.grows (γ := γ.to ι') st), by rw [hF, ← hn, ← hl], by rw [hF, upd_same], fun z => S1.st.bart d z hd⟩
    · rw [if_neg hl] at q; exact q.elim
end
end Z
namespace Z
open PySem PySem.Spec PyProof.Rows L2
set_option autoImplicit false
abbrev Wd.as (T : Wd) (f : Nat → Option Mk) : Wd := { T with mks := f }
section
variable {T : Wd} {f : Nat → Option Mk} {ι : List Addr} {bar : Addr → Prop} {H : Hp}
mutual
theorem RelD.as : ∀ {d : D} {v : V}, RelD T ι bar H d v → RelD (T.as f) ι bar H d v
  | .non, _, h => by simpa [RelD] using h
  | .bl _, _, h => by simpa [RelD] using h
  | .int _, _, h => by simpa [RelD] using h
  | .str _, _, h => by simpa [RelD] using h
  | .tup ds, v, h => by
    simp only [RelD] at h ⊢
    obtain ⟨a, vs, e, s, r⟩ := h
    exact ⟨a, vs, e, s, RelDs.as r⟩
  | .lst ds, v, h => by
    simp only [RelD] at h ⊢
    obtain ⟨a, vs, e, s, n, r⟩ := h
    exact ⟨a, vs, e, s, n, RelDs.as r⟩
  | .set ds, v, h => by
    simp only [RelD] at h ⊢
    obtain ⟨a, us, e, n, r, k⟩ := h
    exact ⟨a, us, e, n, RelDs.as r, k⟩
  | .dct ks vs, v, h => by
    simp only [RelD] at h ⊢
    obtain ⟨a, us, ws, e, n, r1, r2, l, k⟩ := h
    exact ⟨a, us, ws, e, n, RelDs.as r1, RelDs.as r2, l, k⟩
  | .ref _, _, h => by simpa [RelD] using h
  | .clo _ _, _, h => by simpa [RelD] using h
  | .err _ _, _, h => by simpa [RelD] using h
  | .scr _, _, h => by simpa [RelD] using h
theorem RelDs.as : ∀ {ds : List D} {vs : List V}, RelDs T ι bar H ds vs → RelDs (T.as f) ι bar H ds vs
  | [], _, h => by simpa [RelDs] using h
  | d :: ds, vs, h => by
    simp only [RelDs] at h ⊢
    obtain ⟨v, r, e, h1, h2⟩ := h
    exact ⟨v, r, e, RelD.as h1, RelDs.as h2⟩
end
theorem RelC.as {d : D} {a : Addr} (h : RelC T ι bar H d a) : RelC (T.as f) ι bar H d a := by
  cases d with
  | lst ds => obtain ⟨vs, e, r⟩ := h; exact ⟨vs, e, r.as⟩
  | set ds => obtain ⟨us, r, k⟩ := h; exact ⟨us, r.as, k⟩
  | dct ks vs => obtain ⟨us, ws, r1, r2, l, k⟩ := h; exact ⟨us, ws, r1.as, r2.as, l, k⟩
  | _ => exact h.elim
theorem GR.as {g : G} (h : GR T ι bar H g) : GR (T.as f) ι bar H g := by
  refine ⟨h.len, h.nd, fun n c e => ?_⟩
  obtain ⟨a, e1, r⟩ := h.at_ n c e
  refine ⟨a, e1, ?_⟩
  cases c with
  | dk ks vs => obtain ⟨ws, r, l, k⟩ := r; exact ⟨ws, r.as, l, k⟩
  | tb q => exact r
  | ls vs => obtain ⟨ws, r, k⟩ := r; exact ⟨ws, r.as, k⟩
  | ob k fs => obtain ⟨ws, r, dx_, k⟩ := r; exact ⟨ws, r.as, dx_, k⟩
theorem MkR.as {m : Mk} (h : MkR T ι bar H m) : MkR (T.as f) ι bar H m := by
  cases m with
  | ex a dx c ds => obtain ⟨ws, r, l, k⟩ := h; exact ⟨ws, r.as, l, k⟩
  | fn _ c o ds vs => obtain ⟨e, n, r⟩ := h; exact ⟨e, n, r.as⟩
theorem ExcR.as {x : Xc} {cls : Value} {dx : Option Addr} (h : ExcR T ι bar H x cls dx) : ExcR (T.as f) ι bar H x cls dx := by
  obtain ⟨e, d, ws, e1, r, k⟩ := h
  exact ⟨e, d, ws, e1, r.as, k⟩
end
def unm (k : Nat) (ρ : Env) : Env := ρ.map fun s => match s with
  | .mk j => if j = k then .no else .mk j
  | s => s
theorem unm_get {k : Nat} {ρ : Env} {i : Nat} {s : Sl} (h : (unm k ρ)[i]? = some s) : s = .no ∨ (ρ[i]? = some s ∧ s ≠ .mk k) := by
  unfold unm at h
  rw [List.getElem?_map, Option.map_eq_some_iff] at h
  obtain ⟨t, e, h⟩ := h
  split at h
  · rename_i j
    split at h
    · exact .inl h.symm
    · rename_i n
      exact .inr ⟨by rw [e, ← h], by rw [← h]; exact fun z => n (by injection z)⟩
  · rename_i n
    subst h
    exact .inr ⟨e, fun z => n k z⟩
theorem unm_val {k : Nat} {ρ : Env} {i : Nat} {d : D} (h : ρ[i]? = some (.own d)) : (unm k ρ)[i]? = some (.own d) := by
  unfold unm; rw [List.getElem?_map, h]; rfl
section
variable {T : Wd} {γ : Gho} {H : Hp} {ρ : Env} {σ : L2.St} {g : G} {E0 : Ent}
/-- into a suite: slot i holds the error -/
theorem StS.toEx (S : StS T E0 γ H ρ σ g) (h0 : T.mks 0 = none) (i a dx c : Nat) (ds : List D) (hi : i < ρ.length) (m : MkR T γ.ι γ.bar H (.ex a dx c ds)) :
    StS (T.as fun k => if k = 0 then some (.ex a dx c ds) else T.mks k) E0 (γ.drop i) H (ρ.set i (.mk 0)) (σ.set i (some (.ref a))) g := by
  have R := S.st
  have fw : ∀ a, (γ.drop i).bar a → γ.bar a := fun a h => Gho.drop_bar h
  have get : ∀ {j : Nat} {s : Sl}, (∀ k, s ≠ .mk k) → (ρ.set i (.mk 0))[j]? = some s → i ≠ j ∧ ρ[j]? = some s := by
    intro j s n h
    by_cases e : i = j
    · subst e
      rw [List.getElem?_set_self hi] at h
      exact absurd (Option.some.inj h).symm (n 0)
    · rw [List.getElem?_set_ne e] at h; exact ⟨e, h⟩
  refine ⟨⟨by simp [R.len], fun j d h => ?_, fun j d h => ?_, fun j b h => ?_, fun j k b h1 h2 => R.oinj j k b (Gho.drop_oa h1).2 (Gho.drop_oa h2).2, fun j b h => R.oi j b (Gho.drop_oa h).2, R.avt, (R.cells.fewer fw).as, fun j k h => ?_⟩,
    S.ent, S.fav, fun j b h => S.own0 j b (Gho.drop_oa h).2, (S.kept.fewer fw).as⟩
  · obtain ⟨n, h⟩ := get (by simp) h
    obtain ⟨v, e1, r⟩ := R.vals j d h
    exact ⟨v, by rw [List.getElem?_set_ne n]; exact e1, (r.fewer fw).as⟩
  · obtain ⟨n, h⟩ := get (by simp) h
    obtain ⟨b, e1, e2, r, u⟩ := R.owns j d h
    exact ⟨b, by show (if j = i then none else γ.oa j) = some b; rw [if_neg (Ne.symm n)]; exact e1, by rw [List.getElem?_set_ne n]; exact e2, (r.fewer fw).as, u⟩
  · obtain ⟨n, h⟩ := Gho.drop_oa h
    obtain ⟨e, q⟩ := R.oad j b h
    exact ⟨e, by rw [List.getElem?_set_ne (Ne.symm n)]; exact q⟩
  · by_cases e : i = j
    · subst e
      rw [List.getElem?_set_self hi] at h
      have : 0 = k := by injection (Option.some.inj h)
      subst this
      exact ⟨_, rfl, List.getElem?_set_self (by rw [R.len]; exact hi), (m.fewer fw).as⟩
    · rw [List.getElem?_set_ne e] at h
      obtain ⟨m', e1, e2, r⟩ := R.mks j k h
      have nk : k ≠ 0 := fun z => by rw [z, h0] at e1; cases e1
      exact ⟨m', by show (if k = 0 then _ else _) = _; rw [if_neg nk]; exact e1, by rw [List.getElem?_set_ne e]; exact e2, (r.fewer fw).as⟩
/-- out of it -/
theorem StS.ofEx {f : Nat → Option Mk} (hf : ∀ k, k ≠ 0 → f k = T.mks k) (S : StS (T.as f) E0 γ H ρ σ g) (i : Nat) : StS T E0 (γ.drop i) H (unm 0 (ρ.set i .no)) (σ.set i none) g := by
  have R := S.st
  have fw : ∀ a, (γ.drop i).bar a → γ.bar a := fun a h => Gho.drop_bar h
  have get : ∀ {j : Nat} {s : Sl}, s ≠ .no → (unm 0 (ρ.set i .no))[j]? = some s → i ≠ j ∧ ρ[j]? = some s ∧ s ≠ .mk 0 := by
    intro j s n h
    rcases unm_get h with h | ⟨h, h2⟩
    · exact absurd h n
    · by_cases e : i = j
      · subst e
        have hi : i < ρ.length := by simpa using (List.getElem?_eq_some_iff.mp h).1
        rw [List.getElem?_set_self hi] at h
        exact absurd (Option.some.inj h).symm n
      · rw [List.getElem?_set_ne e] at h; exact ⟨e, h, h2⟩
  refine ⟨⟨by simp [unm, R.len], fun j d h => ?_, fun j d h => ?_, fun j b h => ?_, fun j k b h1 h2 => R.oinj j k b (Gho.drop_oa h1).2 (Gho.drop_oa h2).2, fun j b h => R.oi j b (Gho.drop_oa h).2, R.avt, GR.as (T := T.as f) (f := T.mks) (R.cells.fewer fw), fun j k h => ?_⟩,
    S.ent, S.fav, fun j b h => S.own0 j b (Gho.drop_oa h).2, RelDs.as (T := T.as f) (f := T.mks) (S.kept.fewer fw)⟩
  · obtain ⟨n, h, _⟩ := get (by simp) h
    obtain ⟨v, e1, r⟩ := R.vals j d h
    exact ⟨v, by rw [List.getElem?_set_ne n]; exact e1, RelD.as (T := T.as f) (f := T.mks) (r.fewer fw)⟩
  · obtain ⟨n, h, _⟩ := get (by simp) h
    obtain ⟨b, e1, e2, r, u⟩ := R.owns j d h
    exact ⟨b, by show (if j = i then none else γ.oa j) = some b; rw [if_neg (Ne.symm n)]; exact e1, by rw [List.getElem?_set_ne n]; exact e2, RelC.as (T := T.as f) (f := T.mks) (r.fewer fw), u⟩
  · obtain ⟨n, h⟩ := Gho.drop_oa h
    obtain ⟨e, q⟩ := R.oad j b h
    exact ⟨e, unm_val (by rw [List.getElem?_set_ne (Ne.symm n)]; exact q)⟩
  · obtain ⟨n, h, h2⟩ := get (by simp) h
    obtain ⟨m', e1, e2, r⟩ := R.mks j k h
    have nk : k ≠ 0 := fun z => h2 (by rw [z])
    refine ⟨m', ?_, by rw [List.getElem?_set_ne n]; exact e2, MkR.as (T := T.as f) (f := T.mks) (r.fewer fw)⟩
    rw [← hf k nk]; exact e1
end
def sTry (i : Nat) (hit : Nat → Option Bool) (b : Sm) (h : Xc → Sm) : Sm := fun ρ g => match b ρ g with
  | .exc x ρ1 g1 => (match hit x.c with
    | some true => if i < ρ1.length then (match h x (ρ1.set i (.mk 0)) g1 with
      | .nx ρ2 g2 => .nx (unm 0 (ρ2.set i .no)) g2
      | .rt d g2 => .rt d g2
      | _ => .bad) else .bad
    | some false => .exc x ρ1 g1
    | none => .bad)
  | r => r
section
variable {T : Wd} {W : WX} {X : Cx} {x n : Str} {c : Value} {i : Nat} {body suite : List Stmt} {b0 : Stmt} {np pos pos' : Pos} {mb : Sm} {ms : Xc → Sm} {hit : Nat → Option Bool}
abbrev Wd.ex (T : Wd) (a dx c : Nat) (ds : List D) : Wd := T.as fun k => if k = 0 then some (.ex a dx c ds) else T.mks k
theorem ss_try (h0 : T.mks 0 = none) (hs : X.stack = X.env :: X.outer) (hf : X.env.frame = some X.env.locals) (hN : X.N.Nodup) (hi : X.N[i]? = some n) (hln : X.env.kindOf n = some .local) (hc : Names X x c) (tk : Takes X W)
    (hh : ∀ k b, hit k = some b → PySem.W.exmOne X.K (T.ct k) c = some b)
    (hb : ∀ (W' : WX) (pn : List (Addr × Obj)) (xe : Value → Shared → Prop), Takes (X.tr pn xe) W' → PassesOwn (model X.prog X.w) X.A X.env xe → SB T W' (X.tr pn xe) body mb)
    (hsu : ∀ (a : Addr) (oe : Obj) (dx k : Nat) (ds : List D) (pn : List (Addr × Obj)), Zc (T.ct k) (some dx) oe → (∃ vs, oe.data = .fields vs) → SB (T.ex a dx k ds) W0 (X.suite a ((a, oe) :: pn)) (b0 :: suite) (ms ⟨k, ds⟩)) :
    SS T W X (.Try body [.ExceptHandler (some (.Name x np)) (some n) (b0 :: suite) pos'] [] [] pos) (sTry i hit mb ms) := by
  refine PS.imp (ps_try_as (tb := fun W' => tS T W' mb) (ts := fun a cls d D' σ H => ∃ dx k ds, cls = T.ct k ∧ d = some dx ∧ tS (T.ex a dx k ds) W0 (ms ⟨k, ds⟩) D' σ H) hs hf hN hi hln hc tk hb (fun a oe cls d pn hz hv => ⟨fun pins s σ H D' I ⟨dx, k, ds, e1, e2, h⟩ => ?_⟩)) fun D' σ H ⟨E0, γ, ρ, g, S, p⟩ => ?_
  · subst e1 e2
    exact (hsu a oe dx k ds pn hz hv).run pins s σ H D' I h
  · refine ⟨E0, γ, ρ, g, S, ?_⟩
    unfold sTry at p
    revert p
    cases mb ρ g with
    | nx ρ1 g1 => exact fun p => p
    | rt d g1 => exact fun p => p
    | bk ρ1 g1 => exact fun p => p
    | ct ρ1 g1 => exact fun p => p
    | bad => exact fun p => p
    | exc xc ρ1 g1 =>
      intro p γ1 σ1 H1 cls dx S1 r1
      obtain ⟨e1, d, ws, e2, r2, l2, k2, n2⟩ := id r1
      subst e1 e2
      dsimp only at p
      cases hq : hit xc.c with
      | none => rw [hq] at p; exact p.elim
      | some b =>
        refine ⟨b, hh _ _ hq, fun hbt a ha => ?_, fun hbf => ?_⟩
        · subst hbt
          rw [hq] at p
          dsimp only at p
          by_cases hl : i < ρ1.length
          · rw [if_pos hl] at p
            refine ⟨d, xc.c, xc.ds, rfl, rfl, E0, _, _, g1, S1.toEx h0 i a d xc.c xc.ds hl ⟨ws, r2, l2, k2, n2⟩, ?_⟩
            have hfk : ∀ k, k ≠ 0 → (fun k => if k = 0 then some (Mk.ex a d xc.c xc.ds) else T.mks k) k = T.mks k := fun k hk => if_neg hk
            revert p
            cases ms xc (ρ1.set i (.mk 0)) g1 with
            | nx ρ2 g2 => exact fun p γ2 σ2 H2 S2 => p _ _ _ (S2.ofEx hfk i)
            | rt d2 g2 => exact fun p v γ2 H2 fa ow st G2 r2 => p v γ2 H2 fa ow st (GR.as (T := T.ex a d xc.c xc.ds) (f := T.mks) G2) (RelD.as (T := T.ex a d xc.c xc.ds) (f := T.mks) r2)
            | bk _ _ => exact fun p => p.elim
            | ct _ _ => exact fun p => p.elim
            | exc _ _ _ => exact fun p => p.elim
            | bad => exact fun p => p.elim
          · rw [if_neg hl] at p; exact p.elim
        · subst hbf
          rw [hq] at p
          exact p _ _ _ _ _ S1 r1
end
end Z
namespace Z
open PySem PySem.Spec PyProof.Rows L2
set_option autoImplicit false
/-- what a class of errors says of its instances -/
structure ErrX (K : PySem.W.Frag) (C : Addr) : Prop where
  cl : (PySem.W.clsIn K C).isSome = true
  ga : PySem.W.findIn K (.ref C) "__getattribute__" = some (some (.builtin "BaseException.__getattribute__"))
  gg : PySem.W.findIn K (.ref C) "__getattr__" = some none
  sub : PySem.W.subIn K (.ref C) (.type "BaseException") = some true
  hd : PySem.W.hasDictIn K C = true
  ca : PySem.W.findIn K (.ref C) "__class__" = some (some (.builtin "object.__class__"))
  sp : PySem.W.specialIn K (.builtin "object.__class__") "__get__" = some (some (.builtin "getset_descriptor.__get__"))
  tk : PySem.W.takesIn K (.builtin "object.__class__") = some true
  om : PySem.W.mroIn K C (.type "object") = some true
def mMk (i : Nat) (d : D) : Ev := fun ρ g => match ρ[i]? with
  | some (.mk 0) => .ok d g
  | _ => .bad
def mErf (i : Nat) (fs : List Str) (ds : List D) (f : Str) : Ev := fun ρ g => match ρ[i]? with
  | some (.mk 0) => ret (luS fs ds f) g
  | _ => .bad
section
variable {T : Wd} {W : WX} {X : Cx} {x y n : Str} {i a dx k C : Nat} {oe : Obj} {pn : List (Addr × Obj)} {ds : List D} {p p1 p2 pos : Pos}
theorem ee_isE {b : Bool} {c : V} {cv : Value} (hT : T.ct k = .ref C) (EX : ErrX X.K C) (hz : Zc (T.ct k) (some dx) oe) (hf : ∃ vs, oe.data = .fields vs) (hg : Gl X "isinstance") (hm : X.mg "isinstance" = none)
    (hy : PE (X.suite a ((a, oe) :: pn)) (.Name y p2) (tC c)) (hcv : ∀ u, L2.RelV c u → u = cv) (hk : PySem.W.kitOne X.K (T.ct k) cv = some b)
    (i : Nat) (hN : X.N[i]? = some n := by rfl) (hv : Vis X.env.scope n := by first | exact Or.inl rfl | exact Or.inr (Or.inl rfl) | exact Or.inr (Or.inr rfl)) (hd : (n == ("__debug__" : Str)) = false := by decide) (hcd : (n == ("__classdict__" : Str)) = false := by decide)
    (hs : starEach [.Name n p1, .Name y p2] X.env = (false, eval (.Name n p1) X.env) :: starEach [.Name y p2] X.env := by rfl) (hpl : (backTo pos (starEach [.Name y p2] X.env)).any (·.1) = false := by rfl)
    (hs2 : starEach [.Name y p2] X.env = (false, eval (.Name y p2) X.env) :: starEach [] X.env := by rfl) :
    EE (T.ex a dx k ds) W (X.suite a ((a, oe) :: pn)) (.Call (.Name "isinstance" p) [.Name n p1, .Name y p2] [] pos) (mMk i (.bl b)) := by
  have hc : CallR (X.suite a ((a, oe) :: pn)) (.builtin "isinstance") (fun xs H Q => xs = [.ref a, c] ∧ (∃ fs, H dx = some (.xd fs)) ∧ Q (.bl b) H) := by
    intro pins s σ H xs us Q I r hq
    obtain ⟨rfl, ⟨fs, hx⟩, q⟩ := hq
    cases r with
    | cons rx rr =>
      cases rr with
      | cons rt rr =>
        cases rr
        cases rx
        have ec := hcv _ rt
        subst ec
        obtain ⟨hget, _⟩ := I.pin (a, oe) (List.mem_append_left _ List.mem_cons_self)
        obtain ⟨vs, hvs⟩ := hf
        have ho : ObjOk X.prog X.w H s.heap dx (.xd fs) := I.hok dx _ hx
        obtain ⟨mA, hns, _⟩ := ho
        obtain ⟨od, hod, _⟩ := lookIn_ns hns
        have J : PySem.W.InstAt s.heap a oe C (some od) := ⟨hget, by rw [← hT]; exact hz.1, by unfold PySem.W.notCls; rw [hvs] <;> rfl, by rw [hz.2]; exact hod⟩
        rw [hT] at hk
        exact PySem.W.kia_one (PySem.W.kitx_exc EX.cl EX.ga EX.gg EX.sub EX.ca EX.sp EX.tk EX.om) I.kIn J hk (fun z => nomatch z) fun tk => ⟨.bl b, H, I.kept (t' := tk) fun _ _ z => z, rfl, q⟩
  refine PE.imp (pe_callB (X := X.suite a ((a, oe) :: pn)) hc hg hm (by decide +kernel) (pa_cons (pe_var (X := X.suite a ((a, oe) :: pn)) (i := i) hN hv hd hcd) (pa_cons hy pa_nil hs2) hs) (by decide) (by decide) hs hpl) fun σ H Q ⟨γ, ρ, g, S, q⟩ => ?_
  unfold mMk at q
  split at q
  · rename_i e
    obtain ⟨m, e1, e2, r⟩ := S.mks i 0 e
    have e1 : some (Mk.ex a dx k ds) = some m := e1
    cases e1
    obtain ⟨ws, _, _, hx, _⟩ := r
    exact ⟨_, e2, rfl, ⟨_, hx⟩, q.ret0 (g0 := g) S (RelD.ofBl b)⟩
  · exact q.elim
theorem luS_rel {ι : List Addr} {bar : Addr → Prop} {H : Hp} : ∀ {fs : List Str} {ds : List D} {ws : List V} {f : Str} {d : D}, RelDs T ι bar H ds ws → luS fs ds f = some d → ∃ v, (fs.zip ws).lookup f = some v ∧ RelD T ι bar H d v
  | [], ds, ws, f, d, r, e => by simp [luS] at e
  | _ :: _, [], ws, f, d, r, e => by simp [luS] at e
  | h :: fs, e1 :: ds, ws, f, d, r, e => by
    obtain ⟨v, us, rfl, r1, r2⟩ := r.uncons
    simp only [luS] at e
    rw [List.zip_cons_cons, List.lookup_cons]
    by_cases z : h = f
    · rw [if_pos z] at e
      cases e
      exact ⟨v, by rw [z]; simp, r1⟩
    · rw [if_neg z] at e
      obtain ⟨u, h1, h2⟩ := luS_rel r2 e
      exact ⟨u, by rw [show (f == h) = false from by simpa using fun q => z q.symm]; exact h1, h2⟩
theorem ee_erf {f : Str} {fs : List Str} (hT : T.ct k = .ref C) (hF : T.cf k = fs) (EX : ErrX X.K C) (hno : PySem.W.findIn X.K (.ref C) f = some none) (hz : Zc (T.ct k) (some dx) oe) (hf : ∃ vs, oe.data = .fields vs)
    (i : Nat) (hN : X.N[i]? = some n := by rfl) (hv : Vis X.env.scope n := by first | exact Or.inl rfl | exact Or.inr (Or.inl rfl) | exact Or.inr (Or.inr rfl)) (hd : (n == ("__debug__" : Str)) = false := by decide) (hcd : (n == ("__classdict__" : Str)) = false := by decide)
    (hb : attributeBase (.Name n p1) f X.env (eval (.Name n p1) X.env) = eval (.Name n p1) X.env := by rfl) :
    EE (T.ex a dx k ds) W (X.suite a ((a, oe) :: pn)) (.Attribute (.Name n p1) f pos) (mErf i fs ds f) := by
  refine PE.imp (pe_xf (X := X) (a := a) (C := C) (oe := oe) (pn := pn) ⟨EX.ga, EX.gg, EX.sub, EX.hd⟩ hno hz hf (pe_var (X := X.suite a ((a, oe) :: pn)) (i := i) hN hv hd hcd) hb) fun σ H Q ⟨γ, ρ, g, S, q⟩ => ?_
  unfold mErf at q
  split at q
  · rename_i e
    obtain ⟨m, e1, e2, r⟩ := S.mks i 0 e
    have e1 : some (Mk.ex a dx k ds) = some m := e1
    cases e1
    obtain ⟨ws, r, l, hx, nb⟩ := r
    have hx : H dx = some (.xd ((T.cf k).zip ws)) := hx
    cases hl : luS fs ds f with
    | none => rw [hl] at q; exact q.elim
    | some d =>
      rw [hl] at q
      obtain ⟨v, h1, h2⟩ := luS_rel r hl
      exact ⟨_, e2, rfl, hT, dx, _, v, rfl, hx, by rw [hF]; exact h1, q.ret0 (g0 := g) S h2⟩
  · exact q.elim
end
end Z
namespace Z
open PySem PySem.Spec PyProof.Rows L2 LamX
set_option autoImplicit false
section
variable {X : Cx} {pins : List (Addr × Obj)} {σ : L2.St} {H : Hp} {s : Shared}
abbrev lamObj (X : Cx) (params : Arguments) (body : Expr) (scope : Scope) (pm : Value) (c' : Addr) (ctv : Value) : Obj := PySem.W.kla_obj "<lambda>" (X.env.qual ++ "<lambda>") params body scope (cloFrom X.env.cells scope.names []) pm c' ctv
/-- how the tracked things stand behind it -/
def LamH (bar : Addr → Prop) (H H1 : Hp) (P c' : Addr) (q : Str) : Prop :=
  H1 c' = some (CodeO c' q) ∧ ¬ bar c' ∧ (H1 = H ∨ ∃ ps more : Array Value, H P = some (.tbl ps) ∧ H c' = none ∧ H1 = upd (upd H P (.tbl (ps ++ more))) c' (CodeO c' q)) ∧ TabZ bar H1 P q
theorem lam_new {bar : Addr → Prop} {c P : Addr} {params : Arguments} {body : Expr} {scope : Scope} {pos : Pos} {E : Value → Shared → Prop} {Q : Value → Shared → Prop} (I : Inv X pins σ H s) (TB : TabB X.base X.mg c P) (hcode : X.env.code = .ref c)
    (hb : ∀ a, bar a → H a ≠ none) (tz : TabZ bar H P (X.env.qual ++ "<lambda>")) (hdef : defaultsOf params X.env = ([], [])) (L : LamS X.env.scope scope)
    (h : ∀ (f c' : Addr) (pm ctv : Value) (H1 : Hp) (s' : Shared), Inv X pins σ H1 s' → LamH bar H H1 P c' (X.env.qual ++ "<lambda>") → s'.heap.get? f = some (lamObj X params body scope pm c' ctv) → H1 f = none → f ∉ frs X.stack → Q (.ref f) s') :
    wpAny (model X.prog X.w) X.A (eval (.Lambda params body scope pos) X.env) Q E s := by
  obtain ⟨ps, hP, ht, ha⟩ := tz
  have hfree := L.has I.ok
  have tabP : s.heap.get? P = some { cls := .none, data := .fields ps } := I.hok P _ hP
  have bmP : s.heap.BuiltinsAt X.mg P := TB.bm.keeps I.bk
  have gl : s.heap.Ns mainGlobals X.mg := I.mod.glob.keeps I.bk
  have away : ∀ f, s.heap.objs.size ≤ f → f ∉ frs X.stack := by
    intro f hf hm
    cases List.mem_cons.mp (I.stkSub _ hm) with
    | inl e => have := I.lt; rw [← e] at this; exact absurd this (Nat.not_lt.mpr hf)
    | inr e => exact I.nofs hf e
  apply PySem.W.kla_eval hdef
  cases found : codeAmong pos ps.toList with
  | some cv =>
    obtain ⟨c', rfl, hco, nb⟩ := ha pos cv found
    refine PySem.W.kla_makeFunctionHit (mg := X.mg) (c := c) (P := P) (ps := ps) (closure_ok hfree) I.ok.glob gl hcode (TB.code.keeps I.bk) tabP ht found bmP ?_
    intro ctv h' tk keep big
    refine h h'.objs.size c' _ ctv H _ (I.kept (t' := tk) fun b o z => Heap.get?_push_of_some _ (keep b o z)) ⟨hco, nb, .inl rfl, ps, hP, ht, ha⟩ (Heap.get?_push_size _ rfl) (I.hok.fresh big) (away _ big)
  | none =>
    refine PySem.W.kla_makeFunction (mg := X.mg) (c := c) (P := P) (ps := ps) (closure_ok hfree) I.ok.glob gl hcode (TB.code.keeps I.bk) tabP ht found TB.gP bmP ?_
    intro c' ctv h' tk keep ge lt rec tab
    obtain ⟨c2, oc, vs, t, e2, hoc, hd, hv⟩ := rec
    cases e2
    have nC : H c' = none := I.hok.fresh ge
    have big : s.heap.objs.size ≤ h'.objs.size := Nat.le_trans ge (Nat.le_of_lt lt)
    have neP : c' ≠ P := fun z => by rw [z, hP] at nC; cases nC
    have J := inv_table (t' := tk) (more := #[rawInt pos.line, rawInt pos.col, .ref c']) (h' := h'.push (lamObj X params body scope ((X.mg "__name__").getD .none) c' ctv)) I hP (fun b o nb z => Heap.get?_push_of_some _ (keep b o nb z)) (Heap.get?_push_of_some _ tab) ge ⟨oc, vs, t, Heap.get?_push_of_some _ hoc, hd, hv⟩
    have el : (ps ++ #[rawInt pos.line, rawInt pos.col, .ref c']).toList = ps.toList ++ [rawInt pos.line, rawInt pos.col, .ref c'] := by simp
    have nbar : ¬ bar c' := fun z => hb _ z nC
    refine h h'.objs.size c' _ ctv _ _ J ⟨upd_same, nbar, .inr ⟨ps, _, hP, nC, rfl⟩, ps ++ #[rawInt pos.line, rawInt pos.col, .ref c'], by rw [upd_ne (Ne.symm neP), upd_same], by rw [el]; exact PySem.TriplesOk_snoc _ _ _ _ ht, ?_⟩ (Heap.get?_push_size _ rfl) ?_ (away _ big)
    · intro p cv hcv
      rw [el] at hcv
      cases among_app _ ht hcv with
      | inr e => exact ⟨c', e, upd_same, nbar⟩
      | inl e =>
        obtain ⟨c0, e1, e2, e3⟩ := ha p cv e
        refine ⟨c0, e1, ?_, e3⟩
        rw [upd_ne (ne_of_none e2 nC), upd_ne fun z => ?_]
        · exact e2
        · rw [z, hP] at e2
          exact codeO_ne _ (Option.some.inj e2).symm
    · rw [upd_ne (Nat.ne_of_gt lt), upd_ne (Nat.ne_of_gt (Nat.lt_of_lt_of_le (Heap.lt_size tabP) big))]
      exact I.hok.fresh big
end
end Z
namespace Z
open PySem PySem.Spec PyProof.Rows L2 LamX
set_option autoImplicit false
def mAsk (i : Nat) (th : G → Res D) : Ev := fun ρ g => match ρ[i]? with
  | some (.mk 1) => th g
  | _ => .bad
def capE (ρ : Env) : Env := ρ.map fun s => match s with
  | .val d => .val d
  | _ => .no
def capD (ρ : Env) : List D := ρ.map fun s => match s with
  | .val d => d
  | _ => .non
theorem capE_get {ρ : Env} {i : Nat} {s : Sl} (h : (capE ρ)[i]? = some s) : s = .no ∨ ∃ d, s = .val d ∧ ρ[i]? = some (.val d) := by
  unfold capE at h
  rw [List.getElem?_map, Option.map_eq_some_iff] at h
  obtain ⟨t, e, h⟩ := h
  split at h
  · exact .inr ⟨_, h.symm, e⟩
  · exact .inl h.symm
theorem capD_get {ρ : Env} {i : Nat} {d : D} (h : ρ[i]? = some (.val d)) : (capD ρ)[i]? = some d := by
  unfold capD; rw [List.getElem?_map, h]; rfl
theorem cap_rel {T : Wd} {ι : List Addr} {bar : Addr → Prop} {H : Hp} : ∀ (ρ : Env) (σ : L2.St), (∀ (i : Nat) (d : D), ρ[i]? = some (.val d) → ∃ v, σ[i]? = some (some v) ∧ RelD T ι bar H d v) →
    ∃ vs, RelDs T ι bar H (capD ρ) vs ∧ ∀ (i : Nat) (d : D), ρ[i]? = some (.val d) → ∃ v, vs[i]? = some v ∧ σ[i]? = some (some v)
  | [], σ, _ => ⟨[], .nil, fun i d e => by simp at e⟩
  | s :: ρ, σ, h => by
    obtain ⟨vs, r, q⟩ := cap_rel ρ σ.tail fun i d e => by
      obtain ⟨v, e1, r1⟩ := h (i + 1) d (by rw [List.getElem?_cons_succ]; exact e)
      refine ⟨v, ?_, r1⟩
      cases σ with
      | nil => simp at e1
      | cons x σ => simpa using e1
    have up : ∀ (i : Nat) (v : V), σ.tail[i]? = some (some v) → σ[i + 1]? = some (some v) := fun i v e => by
      cases σ with
      | nil => simp at e
      | cons x σ => simpa using e
    have tl : ∀ v, RelD T ι bar H (match s with | .val d => d | _ => .non) v → (∀ d, s = .val d → σ[0]? = some (some v)) → ∃ vs, RelDs T ι bar H (capD (s :: ρ)) vs ∧ ∀ (i : Nat) (d : D), (s :: ρ)[i]? = some (.val d) → ∃ v, vs[i]? = some v ∧ σ[i]? = some (some v) := fun v rv e0 => by
      refine ⟨v :: vs, .cons rv r, fun i d e => ?_⟩
      cases i with
      | zero =>
        have e : s = .val d := by simpa using e
        exact ⟨v, rfl, e0 d e⟩
      | succ i =>
        obtain ⟨u, e1, e2⟩ := q i d (by simpa using e)
        exact ⟨u, by simpa using e1, up i u e2⟩
    cases s with
    | val d =>
      obtain ⟨v, e1, r1⟩ := h 0 d rfl
      exact tl v r1 fun _ _ => e1
    | no => exact tl .non RelD.ofNon fun _ z => by cases z
    | own d => exact tl .non RelD.ofNon fun _ z => by cases z
    | mk k => exact tl .non RelD.ofNon fun _ z => by cases z
section
variable {T : Wd} {X : Cx} {pins : List (Addr × Obj)} {σ : L2.St} {H : Hp} {s : Shared} {ρ : Env} {mg : Str → Option Value} {base : Heap}
abbrev heCx (X : Cx) (T : Wd) (N : List Str) (qg : Str) (sg : Scope) (fg : Addr) (cdg : Value) (s : Shared) (H : Hp) (E : XK) : Cx := cxOf (L2.CX T.P T.w) T.P T.w T.K X.mg X.base N qg sg fg cdg X.A X.stack s H E
/-- x(), in the def that got the lambda -/
theorem ee_ask {f : Nat → Option Mk} {Ng : List Str} {qg : Str} {sg : Scope} {fg fl c' : Addr} {cdg pm ctv : Value} {params : Arguments} {body : Expr} {scope : Scope} {k i : Nat} {a : Str} {pn : List (Addr × Obj)} {xe : Value → Shared → Prop} {W : WX} {Eg : XK} {vs : List V} {mb : Ev} {p1 p2 : Pos} {o : HO}
    (ok : Ok T X) (I : Inv X pins σ H s) (L : LamS X.env.scope scope) (hf : s.heap.get? fl = some (lamObj X params body scope pm c' ctv)) (hfn : H fl = none) (hfr : fl ∉ frs X.stack) (ho : o = CodeO c' (X.env.qual ++ "<lambda>"))
    (hbind : bindArgs (PySem.W.kla_fn "<lambda>" (X.env.qual ++ "<lambda>") params body scope (cloFrom X.env.cells scope.names []) pm (.ref c') ctv) ⟨[], []⟩ = pure [])
    (hm : f 1 = some (.fn fl c' o (capD ρ) vs)) (hcap : ∀ (i : Nat) (d : D), ρ[i]? = some (.val d) → ∃ v, vs[i]? = some v ∧ σ[i]? = some (some v)) (hlen : σ.length = ρ.length)
    (tk : Takes ((heCx X T Ng qg sg fg cdg s H Eg).tr pn xe) W) (hr : Room (k + 1) (X.A.deeper (envOfC qg sg s.heap.objs.size fg cdg))) (hgu : X.A.guards = some [])
    (hbody : ∀ (A : Around) (outer : List PySem.Env) (s : Shared) (H : Hp) (E : XK), DefX T X.mg X.base k (lamCx X A outer s H E scope fl c') (fun cls dx _ H' => E cls dx H') → EE T (fun cls dx _ H' => E cls dx H') (lamCx X A outer s H E scope fl c') body mb)
    (hN : Ng[i]? = some a) (hv : Vis sg a) (hd : (a == ("__debug__" : Str)) = false) (hcd : (a == ("__classdict__" : Str)) = false) :
    EE (T.as f) W ((heCx X T Ng qg sg fg cdg s H Eg).tr pn xe) (.Call (.Name a p1) [] [] p2) (mAsk i fun g => mb (capE ρ) g) := by
  subst ho
  refine ⟨fun pinsZ sZ σZ HZ Q IZ ⟨γz, ρz, gz, S, p⟩ => ?_⟩
  unfold mAsk at p
  split at p
  case h_2 => exact p.elim
  rename_i e
  obtain ⟨m, e1, e2, r⟩ := S.mks i 1 e
  have e1 : f 1 = some m := e1
  rw [hm] at e1
  cases e1
  obtain ⟨hc, _, rd⟩ := r
  refine wpAny_Call_Name_kw (thn ((pe_var (X := (heCx X T Ng qg sg fg cdg s H Eg).tr pn xe) (pos := p1) (i := i) hN hv hd hcd).run pinsZ sZ σZ HZ (fun v H1 => v = .ref fl ∧ H1 = HZ) IZ ⟨.ref fl, e2, rfl, rfl⟩) fun u s1 ⟨v, H1, I1, r1, ev, eH⟩ => ?_)
  subst ev
  rw [eH] at I1
  obtain rfl : u = Value.ref fl := r1
  have at1 : s1.heap.get? fl = some (lamObj X params body scope pm c' ctv) := I1.base.keep fl _ hf hfn hfr (fun z => nomatch (show fl ∈ ([] : List Addr) from z))
  refine PySem.W.callWith_F0 ⟨_, _, _, _, at1⟩ ?_
  have un : Un (frs X.stack) [] H HZ s.heap s1.heap := I1.base
  obtain ⟨⟨oc, ws, t, hoc, hdc, hvc⟩, _, _⟩ := I1.hok c' _ hc
  have e0 : Env0 T.P T.w T.K X.mg X.base (X.A.deeper (envOfC qg sg s.heap.objs.size fg cdg)) (envOfC qg sg s.heap.objs.size fg cdg :: X.stack) s1 HZ := I1.env0
  let γl : Gho := ⟨γz.ι, fun _ => none, γz.bar⟩
  have b1 : ∀ a, γl.bar a → γz.bar a := by
    rintro a (h | ⟨j, h⟩ | h)
    · exact .inl h
    · cases h
    · exact h
  have b2 : ∀ (ι' : List Addr) a, (γz.to ι').bar a → (γl.to ι').bar a := by
    rintro ι' a (h | ⟨j, h⟩ | h)
    · exact .inl h
    · exact .inr (.inr (.inr (.inl ⟨j, h⟩)))
    · exact .inr (.inr (.inr (.inr h)))
  have SL : StR T γl HZ (capE ρ) σ gz := by
    refine ⟨by simp [capE, hlen], fun j d h => ?_, fun j d h => ?_, fun j a h => (by cases h), fun j k a h => (by cases h), fun j a h => (by cases h), fun a h => S.bart a h, GR.as (T := T.as f) (f := T.mks) (S.cells.fewer b1), fun j k h => ?_⟩
    · rcases capE_get h with h | ⟨d', h1, h2⟩
      · cases h
      · cases h1
        obtain ⟨v, g1, g2⟩ := hcap j d h2
        obtain ⟨v', q1, q2⟩ := rd.get (capD_get h2)
        rw [g1] at q1; cases q1
        exact ⟨v, g2, RelD.as (T := T.as f) (f := T.mks) (q2.fewer b1)⟩
    · rcases capE_get h with h | ⟨d', h1, h2⟩
      · cases h
      · cases h1
    · rcases capE_get h with h | ⟨d', h1, h2⟩
      · cases h
      · cases h1
  have pl : Post T γl HZ σ (fun cls dx _ H' => W cls dx σZ H') (rD T) Q (mb (capE ρ) gz) := by
    have p : Post (T.as f) γz HZ σZ W (rD (T.as f)) Q (mb (capE ρ) gz) := p
    revert p
    cases mb (capE ρ) gz with
    | bad => exact fun p => p
    | ok d g' => exact fun p v ι' H' s2 G2 r2 => p v ι' H' s2 ((G2.fewer (b2 ι')).as) ((r2.fewer (b2 ι')).as)
    | exc x g' => exact fun p cls dx ι' H' s2 G2 r2 => p cls dx ι' H' s2 ((G2.fewer (b2 ι')).as) ((r2.fewer (b2 ι')).as)
  have rc : codeAny (model T.P T.w) (X.A.deeper (envOfC qg sg s.heap.objs.size fg cdg)) (.call (.ref fl) ⟨[], []⟩) (CR (L2.CX T.P T.w) (envOfC qg sg s.heap.objs.size fg cdg :: X.stack) T.P T.w HZ s1 Q (WE W σZ)) s1 := by
    refine PySem.W.kla_callFunE hr.depth at1 rfl L.co L.gen rfl ⟨c', oc, ws, t, rfl, hoc, hdc, hvc⟩ ?_
    rw [hbind]
    refine wpAny_pure (wpAny_newFunctionEnv (fun y hy => (L.own y hy).2) (fun y hy => absurd hy (by simp)) (fun h1 hns hsb => ⟨I1.nolimit.fresh _ hsb, ?_⟩) L.kind)
    show codeAny _ _ (.expr body (lamEnv X scope s1.heap.objs.size fl c')) _ _
    have kp : ∀ b o, s1.heap.get? b = some o → h1.get? b = some o := fun b o z => hsb.extBut b o (Nat.ne_of_lt (Heap.lt_size z)) (Heap.get?_push_of_some _ z)
    have e1 : Env0 X.prog X.w X.K X.mg X.base (X.A.deeper (envOfC qg sg s.heap.objs.size fg cdg)) (envOfC qg sg s.heap.objs.size fg cdg :: X.stack) s1 HZ := by rw [ok.P, ok.w, ok.K]; exact e0
    have J := lam_start2 (f := fl) (c' := c') (E := WE W σZ) (tk := s1.toks + ([] : List (Str × Value)).length) I L e1 hr.hd un hns kp
    have R2 := hr.deeper (lamEnv X scope s1.heap.objs.size fl c')
    have DX : DefX T X.mg X.base k (lamCx X (X.A.deeper (envOfC qg sg s.heap.objs.size fg cdg)) (envOfC qg sg s.heap.objs.size fg cdg :: X.stack) s1 HZ (WE W σZ) scope fl c') (fun cls dx _ H' => WE W σZ cls dx H') := by
      refine ⟨⟨ok.P, ok.w, ok.K⟩, ⟨?_, hgu⟩, R2, rfl, rfl, takes_of rfl rfl rfl rfl, rfl⟩
      have := R2.un
      show ((X.A.deeper (envOfC qg sg s.heap.objs.size fg cdg)).deeper (lamEnv X scope s1.heap.objs.size fl c')).units + 120 < cLine
      omega
    rw [← ok.P, ← ok.w]
    refine PySem.W.kla_codeExpr (wpAny_mono ((hbody _ _ s1 HZ (WE W σZ) DX).run [] _ _ HZ Q J ⟨γl, capE ρ, gz, SL, pl⟩) (fun v s' hq => ?_) fun e s' hq => ?_)
    · obtain ⟨w', H', J', rv, q⟩ := hq
      exact ⟨w', H', J'.os, J'.bare, J'.base, J'.hok, rv, q⟩
    · exact hq
  refine wpAny_call (codeAny_mono rc fun r s' hq => ?_)
  cases r with
  | error er => exact passAt tk σZ pinsZ HZ s1 er s' I1 hq
  | ok flw =>
    cases flw with
    | ret u => exact I1.after hq
    | next => exact False.elim hq
    | brk => exact False.elim hq
    | cont => exact False.elim hq
end
end Z
namespace Z
open PySem PySem.Spec PyProof.Rows L2 LamX
set_option autoImplicit false
def heE (n : Nat) : Env := Sl.mk 1 :: List.replicate (n - 1) .no
def denHe (n : Nat) (m : Sm) : G → Res D := fun g => match m (heE n) g with
  | .rt d g' => .ok d g'
  | .nx _ g' => .ok .non g'
  | .exc x _ g' => .exc x g'
  | _ => .bad
def mHear (j : Nat) (q : Str) (n : Nat) (mH : (G → Res D) → Sm) (mb : Ev) : Ev := fun ρ g => match g[j]? with
  | some (.tb q') => if q' = q then denHe n (mH fun g' => mb (capE ρ) g') g else .bad
  | _ => .bad
/-- a def that calls the lambda that it gets -/
structure HearD (T : Wd) (mg : Str → Option Value) (base : Heap) (k : Nat) (x a : Str) (N : List Str) (fg : Addr) (mH : (G → Res D) → Sm) : Prop where
  gl : mg x = some (.ref fg)
  da : (a == ("__debug__" : Str)) = false
  dc : (a == ("__classdict__" : Str)) = false
  a0 : N[0]? = some a
  ex : ∃ (qual : Str) (params : Arguments) (body : List Stmt) (scope : Scope) (fd : FuncData), FunD T.K x qual params body scope [] [] fg fd ∧ FnScope N [a] scope ∧ Vis scope a ∧ (∀ (s : Shared) (u : Value), BindsTo s fd ⟨[u], []⟩ [(a, u)]) ∧
    ∀ (f0 : Nat → Option Mk) (cdv : Value) (A : Around) (outer : List PySem.Env) (s : Shared) (H : Hp) (E : XK) (th : G → Res D), f0 0 = none → DefX (T.as f0) mg base k (cxOf (L2.CX T.P T.w) T.P T.w T.K mg base N qual scope fg cdv A outer s H E) (fun cls dx _ H' => E cls dx H') →
      (∀ (W' : WX) (pn : List (Addr × Obj)) (xe : Value → Shared → Prop) (p1 p2 : Pos), Takes ((cxOf (L2.CX T.P T.w) T.P T.w T.K mg base N qual scope fg cdv A outer s H E).tr pn xe) W' → EE (T.as f0) W' ((cxOf (L2.CX T.P T.w) T.P T.w T.K mg base N qual scope fg cdv A outer s H E).tr pn xe) (.Call (.Name a p1) [] [] p2) (mAsk 0 th)) →
      SB (T.as f0) (fun cls dx _ H' => E cls dx H') (cxOf (L2.CX T.P T.w) T.P T.w T.K mg base N qual scope fg cdv A outer s H E) body (mH th)
theorem HearD.mono {T : Wd} {mg : Str → Option Value} {base : Heap} {j k : Nat} {x a : Str} {N : List Str} {fg : Addr} {mH : (G → Res D) → Sm} (F : HearD T mg base j x a N fg mH) (h : j ≤ k) : HearD T mg base k x a N fg mH := by
  obtain ⟨q, pa, b, sc, fd, h1, h2, h3, h4, h5⟩ := F.ex
  exact ⟨F.gl, F.da, F.dc, F.a0, q, pa, b, sc, fd, h1, h2, h3, h4, fun f0 cdv A outer s H E th h0 dx ask => h5 f0 cdv A outer s H E th h0 ⟨dx.ok, dx.rm, dx.room.mono h, dx.mg, dx.base, dx.tk, dx.calm⟩ ask⟩
theorem start_one {N : List Str} {v : V} {a : Str} (h : N[0]? = some a) : L2.start N [v] = some v :: List.replicate (N.length - 1) none := by
  cases N with
  | nil => simp at h
  | cons b N => simp [L2.start]
theorem heE_get {n i : Nat} {s : Sl} (h : (heE n)[i]? = some s) : s = .no ∨ (i = 0 ∧ s = .mk 1) := by
  unfold heE at h
  cases i with
  | zero => exact .inr ⟨rfl, by simpa using h.symm⟩
  | succ i =>
    rw [List.getElem?_cons_succ, List.getElem?_replicate] at h
    split at h
    · exact .inl (Option.some.inj h).symm
    · cases h
section
variable {T : Wd} {W : WX} {X : Cx} {mg : Str → Option Value} {base : Heap}
theorem ee_hear {k : Nat} {x a q : Str} {N : List Str} {fg c : Addr} {mH : (G → Res D) → Sm} {mb : Ev} {params : Arguments} {body : Expr} {scope : Scope} {p lpos pos : Pos}
    (F : HearD T mg base (k + 1) x a N fg mH) (dx : DefX T mg base (k + 2) X W) (m0 : T.mks 0 = none) (hg : Gl X x) (hq : q = X.env.qual ++ "<lambda>") (TB : TabB base mg c (T.tb q)) (hcode : X.env.code = .ref c) (L : LamS X.env.scope scope) (hdef : defaultsOf params X.env = ([], []))
    (hbind : ∀ (q : Str) (cl : List (Str × Addr)) (pm cv ctv : Value), bindArgs (PySem.W.kla_fn "<lambda>" q params body scope cl pm cv ctv) ⟨[], []⟩ = pure [])
    (hbody : ∀ (A : Around) (outer : List PySem.Env) (s : Shared) (H : Hp) (E : XK) (fl c' : Addr), DefX T mg base k (lamCx X A outer s H E scope fl c') (fun cls dx _ H' => E cls dx H') → EE T (fun cls dx _ H' => E cls dx H') (lamCx X A outer s H E scope fl c') body mb)
    (j : Nat) (hdb : (x == ("__debug__" : Str)) = false := by decide) (he : starEach [.Lambda params body scope lpos] X.env = (false, eval (.Lambda params body scope lpos) X.env) :: starEach [] X.env := by rfl) (hpl : (backTo pos (starEach [] X.env)).any (·.1) = false := by rfl) :
    EE T W X (.Call (.Name x p) [.Lambda params body scope lpos] [] pos) (mHear j q N.length mH mb) := by
  subst hq
  refine ⟨fun pins s σ H Q I ⟨γ, ρ, g, S, pp⟩ => ?_⟩
  unfold mHear at pp
  split at pp
  case h_2 => exact pp.elim
  rename_i q' hj
  split at pp
  case isFalse => exact pp.elim
  rename_i eq
  subst eq
  obtain ⟨P, eP, eT, tz⟩ := S.cells.at_ j _ hj
  obtain ⟨qual, pa, bd, sc, fd, FD, FS, hv, hb, hrun⟩ := F.ex
  have hk : PySem.W.keepIn X.K (.ref fg) = true := by rw [dx.ok.K]; exact FD.kp
  have TBX : TabB X.base X.mg c P := by rw [dx.base, dx.mg, eT]; exact TB
  refine wpAny_Call_Name_kw (ld_glob I hg (by rw [dx.mg]; exact F.gl) ?_ hdb)
  refine PySem.W.callWith_K (h₀ := X.base) I.ok.mod.kin hk ?_ he hpl
  rw [he]
  refine Calls.spliced_cons (lam_new (bar := γ.bar) I TBX hcode S.bart tz hdef L fun fl c' pm ctv H1 s1 I1 lh hfl hfn hfr => ?_)
  refine Calls.spliced_nil ⟨I1.kIn, ?_⟩
  show wpAny _ _ (call (.ref fg) [.ref fl]) _ _ _
  obtain ⟨hco, nbc, cases_, tz1⟩ := lh
  have Pι : P ∈ γ.ι := List.mem_of_getElem? eP
  have st : Stp γ.ι γ.ι H H1 := by
    rcases cases_ with rfl | ⟨ps, more, hP, hc0, rfl⟩
    · exact .refl
    · refine ⟨fun b o e n => ?_, fun b o e im => ?_, fun b o e => ?_, [], by simp, by simp⟩
      · rw [upd_ne (ne_of_none e hc0), upd_ne fun z => n (by rw [z]; exact Pι)]; exact e
      · rw [upd_ne (ne_of_none e hc0), upd_ne fun z => ?_]
        · exact e
        · rw [z, hP] at e; cases e; exact im
      · by_cases h1 : b = P
        · rw [h1, upd_ne (ne_of_none hP hc0), upd_same]; exact ⟨_, rfl⟩
        · rw [upd_ne (ne_of_none e hc0), upd_ne h1]; exact ⟨o, e⟩
  have G1 : GR T γ.ι (γ.to γ.ι).bar H1 g := by
    refine ⟨S.cells.len, S.cells.nd, fun n c2 e => ?_⟩
    obtain ⟨a2, e2, r2⟩ := S.cells.at_ n c2 e
    refine ⟨a2, e2, ?_⟩
    by_cases hn : n = j
    · subst hn
      rw [hj] at e; cases e
      rw [eP] at e2; cases e2
      exact ⟨eT, tz1⟩
    · have na : a2 ≠ P := fun z => by
        subst z
        obtain ⟨l1, h1⟩ := List.getElem?_eq_some_iff.mp e2
        obtain ⟨l2, h2⟩ := List.getElem?_eq_some_iff.mp eP
        exact hn ((List.getElem_inj S.cells.nd).mp (h1.trans h2.symm))
      cases c2 with
      | dk ks vs =>
        obtain ⟨ws, q1, q2, q3⟩ := r2
        refine ⟨ws, q1.keep st γ.bi (Gho.grows st), q2, ?_⟩
        rcases cases_ with rfl | ⟨ps, more, hP, hc0, rfl⟩
        · exact q3
        · rw [upd_ne (ne_of_none q3 hc0), upd_ne na]; exact q3
      | tb q2 =>
        obtain ⟨eT2, ps2, q1, q2, q3⟩ := r2
        rcases cases_ with rfl | ⟨ps, more, hP, hc0, rfl⟩
        · exact ⟨eT2, ps2, q1, q2, q3⟩
        · refine ⟨eT2, ps2, by rw [upd_ne (ne_of_none q1 hc0), upd_ne na]; exact q1, q2, fun pos2 cv hcv => ?_⟩
          obtain ⟨c0, u1, u2, u3⟩ := q3 pos2 cv hcv
          refine ⟨c0, u1, ?_, u3⟩
          rw [upd_ne (ne_of_none u2 hc0), upd_ne fun z => ?_]
          · exact u2
          · rw [z, hP] at u2
            exact codeO_ne _ (Option.some.inj u2).symm
      | ls vs =>
        obtain ⟨ws, q1, q3⟩ := r2
        refine ⟨ws, q1.keep st γ.bi (Gho.grows st), ?_⟩
        rcases cases_ with rfl | ⟨ps, more, hP, hc0, rfl⟩
        · exact q3
        · rw [upd_ne (ne_of_none q3 hc0), upd_ne na]; exact q3
      | ob k fs =>
        obtain ⟨ws, q1, dx_, q3⟩ := r2
        refine ⟨ws, q1.keep st γ.bi (Gho.grows st), dx_, ?_⟩
        rcases cases_ with rfl | ⟨ps, more, hP, hc0, rfl⟩
        · exact q3
        · rw [upd_ne (ne_of_none q3 hc0), upd_ne na]; exact q3
  have S1 : StR T γ H1 ρ σ g := S.step st G1
  obtain ⟨vs, rv, hcap⟩ := cap_rel ρ σ S1.vals
  let f0 : Nat → Option Mk := fun n => if n = 1 then some (.fn fl c' (CodeO c' (X.env.qual ++ "<lambda>")) (capD ρ) vs) else none
  have key : codeAny (model T.P T.w) X.A (.call (.ref fg) ⟨[.ref fl], []⟩) (CR (L2.CX T.P T.w) X.stack T.P T.w H1 s1 Q (WE W σ)) s1 := by
    obtain ⟨oc, od, dV, kV, doc, pm2, an, cdv, ct, osl, rfl, lk, hcd, _, _⟩ := FD.ex
    have e0 : Env0 T.P T.w T.K X.mg X.base X.A X.stack s1 H1 := by
      have := I1.env0
      rw [dx.ok.P, dx.ok.w, dx.ok.K] at this
      exact this
    refine run_ofS (us := [Value.ref fl]) lk hcd FS dx.room e0 (hb s1 (.ref fl)) (vs := [V.ref fl]) (.cons rfl .nil) rfl fun hr2 => ?_
    have I1' : Inv X pins σ H1 s1 := I1
    have DX : DefX (T.as f0) mg base (k + 1) (cxOf (L2.CX T.P T.w) T.P T.w T.K mg base N qual sc fg cdv X.A X.stack s1 H1 (WE W σ)) (fun cls d _ H' => WE W σ cls d H') := by
      refine ⟨⟨rfl, rfl, rfl⟩, ⟨?_, dx.rm.hg⟩, hr2, rfl, rfl, takes_of rfl rfl rfl rfl, rfl⟩
      have := hr2.un
      show (X.A.deeper (envOfC qual sc s1.heap.objs.size fg cdv)).units + 120 < cLine
      omega
    have em : X.mg = mg := dx.mg
    have eb : X.base = base := dx.base
    subst em eb
    refine ⟨tS (T.as f0) (fun cls d _ H' => WE W σ cls d H') (mH fun g' => mb (capE ρ) g'), hrun f0 cdv X.A X.stack s1 H1 (WE W σ) _ rfl DX (fun W' pn xe p1 p2 tk => ?_), ?_⟩
    · exact ee_ask dx.ok I1' L hfl hfn hfr rfl (hbind _ _ _ _ _) rfl hcap S1.len tk hr2 dx.rm.hg (fun A outer s H E dl => hbody A outer s H E fl c' dl) F.a0 hv F.da F.dc
    · have ob : ∀ a, γ.out.bar a → γ.bar a := fun a => Gho.out_bar.mp
      have nm : ∀ n, n ≠ 1 → f0 n = none := fun n h => if_neg h
      refine ⟨⟨γ.ι, H1, γ.out.av, [], []⟩, γ.out, heE N.length, g, ⟨⟨?_, fun i d h => ?_, fun i d h => ?_, fun i a h => (by cases h), fun i j a h => (by cases h), fun i a h => (by cases h), fun a h => S1.bart a (ob _ (.inr (.inr h))), (S1.cells.fewer ob).as, fun i n h => ?_⟩, .refl, rfl, fun i a h => (by cases h), .nil⟩, ?_⟩
      · rw [start_one F.a0]; simp [heE]
      · rcases heE_get h with h | ⟨_, h⟩ <;> cases h
      · rcases heE_get h with h | ⟨_, h⟩ <;> cases h
      · rcases heE_get h with h | ⟨rfl, h⟩
        · cases h
        · cases h
          exact ⟨.fn fl c' (CodeO c' (X.env.qual ++ "<lambda>")) (capD ρ) vs, rfl, by rw [start_one F.a0]; rfl, hco, fun z => nbc (ob _ z), (rv.fewer ob).as⟩
      · have pp : Post T γ H σ W (rD T) Q (denHe N.length (mH fun g' => mb (capE ρ) g') g) := pp
        unfold denHe at pp
        have back : ∀ {γ' : Gho} {a : Addr}, (γ.to γ'.ι).bar a → γ'.av = γ.out.av → γ'.bar a := by
          rintro γ' a (q | ⟨i, q⟩ | q) e
          · exact .inl q
          · exact .inr (.inr (e ▸ .inr ⟨i, q⟩))
          · exact .inr (.inr (e ▸ .inl q))
        revert pp
        cases mH (fun g' => mb (capE ρ) g') (heE N.length) g with
        | nx ρ' g' => exact fun pp γ' σ' H' S' => pp .non γ'.ι H' (st.trans S'.ent) (GR.as (T := T.as f0) (f := T.mks) (S'.st.cells.fewer fun a q => back q S'.fav)) RelD.ofNon
        | rt d g' => exact fun pp v γ' H' fa ow st' G' r' => pp v γ'.ι H' (st.trans st') (GR.as (T := T.as f0) (f := T.mks) (G'.fewer fun a q => back q fa)) (RelD.as (T := T.as f0) (f := T.mks) (r'.fewer fun a q => back q fa))
        | bk ρ' g' => exact fun pp => pp.elim
        | ct ρ' g' => exact fun pp => pp.elim
        | exc xc ρ' g' => exact fun pp γ' σ' H' cls d S' r' => pp cls d γ'.ι H' (st.trans S'.ent) (GR.as (T := T.as f0) (f := T.mks) (S'.st.cells.fewer fun a q => back q S'.fav)) (ExcR.as (T := T.as f0) (f := T.mks) (r'.fewer fun a q => back q S'.fav))
        | bad => exact fun pp => pp.elim
  rw [← dx.ok.P, ← dx.ok.w] at key
  refine wpAny_call (codeAny_mono key fun r s' hq => ?_)
  cases r with
  | error er => exact passAt dx.tk σ pins H1 s1 er s' I1 hq
  | ok flw =>
    cases flw with
    | ret u => exact I1.after hq
    | next => exact hq
    | brk => exact hq
    | cont => exact hq
end
end Z
namespace Z
open PySem PySem.Spec PyProof.Rows L2 LamX
set_option autoImplicit false
/-- the law's own answer, at any script; qs: the defs' names whose lambdas' code is kept in tables -/
def LawT (den : Den) (n : Nat) (qs : List Str) : Prop := ∀ ns : List Int, ns.length ≤ n → ∃ g, den [.scr ns] (qs.map Cell.tb) = .ok (.bl true) g
/-- one table: the name, the code object -/
abbrev TbE := Str × Addr
abbrev emptyO : Obj := { cls := .none, data := .fields #[] }
theorem law_endT {T : Wd} {mg mb : Str → Option Value} {k : Nat} {fa a : Addr} {fd : FuncData} {x : Str} {den : Den} {n : Nat} {s1 : Shared} {vs : List Value} {ns : List Int} {cs : List TbE}
    (inK : T.K.In s1.heap) (gg : s1.heap.Ns mainGlobals mg) (gb : s1.heap.Ns builtinsNs mb) (bb : ∀ x : Str, x ≠ "__name__" → mb x = bootBuiltins x) (nl : s1.heap.NoLimit) (ng : s1.gens = #[])
    (hT : ∀ p ∈ cs, s1.heap.get? (T.tb p.1) = some emptyO) (nT : ∀ p ∈ cs, T.K.lookup (T.tb p.1) = none) (hC : ∀ p ∈ cs, PySem.W.CodeHd s1.heap p.2 (T.tb p.1)) (nd : (cs.map fun p => T.tb p.1).Nodup)
    (hbm : ∃ (bm : Addr) (ob : Obj), mg "__builtins__" = some (.ref bm) ∧ bm ≠ builtinsNs ∧ s1.heap.get? bm = some ob ∧ ob.cls = .type "module" ∧ ob.dict = some builtinsNs ∧ ob.data = .plain)
    (ha : s1.heap.get? a = some { cls := .type "list", data := .seq vs.toArray }) (hi : IntsAre vs ns) (hz : ns.length ≤ sizeLine) (hn : ns.length ≤ n) (hr : Room k callerA)
    (F : ∀ base : Heap, T.K.In base → base.Ns mainGlobals mg → (∀ p ∈ cs, TabB base mg p.2 (T.tb p.1)) → FnG T mg base k fa fd [x] den) (hb : ∀ (s : Shared) (u : Value), BindsTo s fd ⟨[u], []⟩ [(x, u)]) (L : LawT den n (cs.map (·.1))) :
    codeAny (model T.P T.w) callerA (.call (.ref fa) ⟨[.ref a], []⟩) (fun r s' => r = .ok (.ret (.bool true)) ∧ OldK s1.heap s'.heap ∧ s'.os = s1.os ∧ AllBare s'.gens) s1 := by
  have rv : Vals (ns.map V.int) vs := vals_ints hi
  have lv := hi.length
  obtain ⟨g', hden⟩ := L ns hn
  let Ps : List Addr := cs.map fun p => T.tb p.1
  have inPs : ∀ b, b ∈ Ps → ∃ p ∈ cs, T.tb p.1 = b := fun b h => by
    obtain ⟨p, hp, e⟩ := List.mem_map.mp h
    exact ⟨p, hp, e⟩
  have isT : ∀ b, b ∈ Ps → s1.heap.get? b = some emptyO := fun b h => by
    obtain ⟨p, hp, e⟩ := inPs b h
    rw [← e]; exact hT p hp
  have aPs : a ∉ Ps := fun z => by
    have q := isT a z
    rw [ha] at q
    cases congrArg Obj.data (Option.some.inj q)
  suffices core : ∀ H : Hp, (∀ b ∈ Ps, H b = some (.tbl #[])) → ScrA T.K H a (ns.map V.int) → HOk T.P T.w H s1.heap → (∀ b, H b ≠ none → b = a ∨ b ∈ Ps) → (H a ≠ none → T.K.lookup a = none ∧ ∃ o xs, H a = some (.frz o (.lst xs))) →
      codeAny (model T.P T.w) callerA (.call (.ref fa) ⟨[.ref a], []⟩) (fun r s' => r = .ok (.ret (.bool true)) ∧ OldK s1.heap s'.heap ∧ s'.os = s1.os ∧ AllBare s'.gens) s1 by
    let H0 : Hp := fun b => if b ∈ Ps then some (.tbl #[]) else none
    have H0t : ∀ b ∈ Ps, H0 b = some (.tbl #[]) := fun b h => if_pos h
    have H0n : ∀ b, b ∉ Ps → H0 b = none := fun b h => if_neg h
    have okT : ∀ (H : Hp) b, b ∈ Ps → ObjOk T.P T.w H s1.heap b (.tbl #[]) := fun H b h => isT b h
    cases hk : T.K.lookup a with
    | some o =>
      have q := inK a o hk
      rw [ha] at q; cases q
      refine core H0 H0t (.inr ⟨_, vs.toArray, _, hk, rfl, rfl, rfl, by rw [List.size_toArray, lv]; exact hz, by simpa using rv⟩) (fun b u z => ?_) (fun b z => ?_) fun z => absurd (H0n a aPs) z
      · by_cases c : b ∈ Ps
        · rw [H0t b c] at z; cases z; exact okT _ b c
        · rw [H0n b c] at z; cases z
      · exact .inr (Classical.byContradiction fun c => z (H0n b c))
    | none =>
      have lst : ∀ (H : Hp), ObjOk T.P T.w H s1.heap a (.frz { cls := .type "list", data := .seq vs.toArray } (.lst (ns.map V.int))) := fun H => ⟨ha, by rw [List.length_map]; exact hz, vs, _, rv, ha⟩
      refine core (upd H0 a (.frz { cls := .type "list", data := .seq vs.toArray } (.lst (ns.map V.int)))) (fun b h => ?_) (.inl ⟨_, upd_same⟩) (fun b u z => ?_) (fun b z => ?_) fun _ => ⟨hk, _, _, upd_same⟩
      · rw [upd_ne (show b ≠ a from fun e => aPs (by rw [← e]; exact h))]; exact H0t b h
      · by_cases c : b = a
        · subst c
          rw [upd_same] at z; cases z
          exact lst _
        · rw [upd_ne c] at z
          by_cases c2 : b ∈ Ps
          · rw [H0t b c2] at z; cases z; exact okT _ b c2
          · rw [H0n b c2] at z; cases z
      · by_cases c : b = a
        · exact .inl c
        · rw [upd_ne c] at z
          exact .inr (Classical.byContradiction fun c2 => z (H0n b c2))
  intro H tH sH okH one noK
  have old : ∀ {b : Addr} {o : Obj}, s1.heap.get? b = some o → H b = none → (hidT s1.heap H).get? b = some o := fun q nb => hidT_get q nb
  have free : ∀ {b : Addr} {o : Obj}, s1.heap.get? b = some o → (∀ us m, o.data ≠ .seq us m) → o.data ≠ .fields #[] → H b = none := fun {b o} q h1 h2 => by
    cases c : H b with
    | none => rfl
    | some u =>
      rcases one b (by rw [c]; simp) with e | e
      · rw [e, ha] at q; cases q; exact absurd rfl (h1 _ _)
      · rw [isT b e] at q; cases q; exact absurd rfl h2
  have nsB : ∀ {b : Addr} {m : Str → Option Value}, s1.heap.Ns b m → (hidT s1.heap H).Ns b m := fun {b m} ⟨o, es, ep, q, hd, rest⟩ =>
    ⟨o, es, ep, old q (free q (fun us m z => by rw [hd] at z; cases z) fun z => by rw [hd] at z; cases z), hd, rest⟩
  have kB : T.K.In (hidT s1.heap H) := fun b o q => old (inK b o q) (by
    cases c : H b with
    | none => rfl
    | some u =>
      rcases one b (by rw [c]; simp) with e | e
      · subst e
        rw [(noK (by rw [c]; simp)).1] at q; cases q
      · obtain ⟨p, hp, ep⟩ := inPs b e
        rw [← ep, nT p hp] at q; cases q)
  have modB : Mod T.K mg (hidT s1.heap H) := ⟨kB, nsB gg, ⟨mb, nsB gb, bb⟩, by obtain ⟨mc, p1, p2⟩ := nl; exact ⟨mc, nsB p1, p2⟩⟩
  have tabB : ∀ p ∈ cs, TabB (hidT s1.heap H) mg p.2 (T.tb p.1) := fun p hp => by
    have atP := hT p hp
    refine ⟨?_, ?_, fun z => ?_⟩
    · obtain ⟨o, us, fl, tf, fg, tg, inF, tx, tt, g1, r1, r2, r3, rest⟩ := hC p hp
      refine ⟨o, us, fl, tf, fg, tg, inF, tx, tt, old g1 (free g1 (fun vs m z => by rw [r2] at z; cases z) fun z => ?_), r1, r2, r3, rest⟩
      rw [r2] at z; cases z; simp at r3
    · obtain ⟨bm, ob, b1, b2, b3, b4, b5, b6⟩ := hbm
      refine ⟨bm, ob, b1, b2, fun q => ?_, fun q => ?_, old b3 (free b3 (fun vs m z => by rw [b6] at z; cases z) fun z => by rw [b6] at z; cases z), b4, b5, b6⟩
      · obtain ⟨o, es, ep, e, hd, _⟩ := gg
        rw [q, e] at b3; cases b3; rw [hd] at b6; cases b6
      · rw [q, atP] at b3; cases b3; cases b6
    · obtain ⟨o, es, ep, e, hd, _⟩ := gg
      rw [z, atP] at e; cases e; cases hd
  have env0 : Env0 T.P T.w T.K mg (hidT s1.heap H) callerA [] s1 H := ⟨rfl, modB, fun b o q => of_hidT q, Nat.le_of_eq (hidT_size _ _), trivial, fun b z => (by simp [frs] at z), okH, .of_eq ng⟩
  have spec : spD T den [.ref a] H (fun v _ => v = .bl true) (fun _ _ _ => False) := by
    refine ⟨⟨Ps, fun _ => none, fun _ => False⟩, [.scr ns], (cs.map (·.1)).map Cell.tb, ⟨by simp [Ps], nd, fun m c e => ?_⟩, fun _ => rfl, fun _ z => z.elim, ?_, ?_⟩
    · rw [List.getElem?_map, List.getElem?_map, Option.map_eq_some_iff] at e
      obtain ⟨q, e, rfl⟩ := e
      rw [Option.map_eq_some_iff] at e
      obtain ⟨p, e, rfl⟩ := e
      refine ⟨T.tb p.1, by simp [Ps, e], rfl, #[], tH _ (List.mem_map.mpr ⟨p, List.mem_of_getElem? e, rfl⟩), trivial, fun pos cv hc => ?_⟩
      have z : codeAmong pos [] = some cv := hc
      simp [codeAmong] at z
    · exact .cons (by simp only [RelD]; exact ⟨a, rfl, sH⟩) .nil
    · rw [hden]
      intro v ι' H' _ _ r1
      simpa only [RelD] using r1
  refine codeAny_mono ((F _ kB (nsB gg) tabB).run callerA [] s1 H ⟨[.ref a], []⟩ [.ref a] [.ref a] _ _ hr rfl env0 (hb s1 (.ref a)) (.cons rfl .nil) rfl spec) fun r s' h => ?_
  cases r with
  | error e =>
    obtain ⟨_, _, _, _, _, _, _, _, _, _, _, _, z⟩ := h
    exact z.elim
  | ok fl =>
    cases fl with
    | next => exact h.elim
    | brk => exact h.elim
    | cont => exact h.elim
    | ret u =>
      obtain ⟨v, H', os, bare, un, ok', rr, hv⟩ := h
      have hu := RelV_true hv rr
      subst hu
      have key : ∀ b o, b ∉ Ps → s1.heap.get? b = some o → s'.heap.get? b = some o := fun b o nb q => by
        cases c : H b with
        | none => exact un.keep b o q c (by intro z; cases z) (by simp)
        | some w =>
          rcases one b (by rw [c]; simp) with e | e
          · subst e
            obtain ⟨_, ob, ys, z⟩ := noK (by rw [c]; simp)
            obtain ⟨p1, _⟩ := okH b _ z
            obtain ⟨p2, _⟩ := ok' b _ (un.frzs b ob _ z)
            rw [p1] at q; cases q
            exact p2
          · exact absurd e nb
      have grown : ∀ p ∈ cs, ∃ more : Array Value, s'.heap.get? (T.tb p.1) = some { cls := .none, data := .fields more } := fun p hp => by
        obtain ⟨more, z⟩ := un.tbls (T.tb p.1) #[] (tH _ (List.mem_map.mpr ⟨p, hp, rfl⟩))
        exact ⟨_, ok' _ _ z⟩
      refine ⟨rfl, ⟨fun b o q => ?_, fun b o q => ?_⟩, os, bare⟩
      · by_cases c : b ∈ Ps
        · obtain ⟨p, hp, rfl⟩ := inPs b c
          obtain ⟨more, hm⟩ := grown p hp
          rw [hT p hp] at q; cases q
          exact .inr (.inl ⟨((hC p hp).tab (hT p hp)).isCodeTable, rfl, #[], more, rfl, by rw [Array.empty_append]; exact hm⟩)
        · exact .inl (key b o c q)
      · by_cases c : b ∈ Ps
        · obtain ⟨p, hp, rfl⟩ := inPs b c
          obtain ⟨more, hm⟩ := grown p hp
          exact ⟨_, hm⟩
        · exact ⟨o, key b o c q⟩
/-- the walk's goal behind a head by facts -/
theorem walk_endT {l : PySem.W.OpenLaw} {n k : Nat} {q : Program} {loose : List Str} {XP : (Str → Option Value) → Heap → Prop} {YP : World → Heap → Prop} {d : DefRec} {x : Str}
    (hn : l.most = some n) (hn2 : n ≤ sizeLine) (hdf : d.params.defaults = []) (hr : Room k callerA)
    (F : ∀ (w : World) (mg : Str → Option Value) (fa : Addr) (h : Heap), YP w h → h.Ns mainGlobals mg → mg d.name = some (.ref fa) →
      ∃ (T : Wd) (fd : FuncData) (den : Den) (cs : List TbE), T.P = l.prog ∧ T.w = w ∧ T.K.In h ∧ (∀ (s : Shared) (u : Value), BindsTo s fd ⟨[u], []⟩ [(x, u)]) ∧ LawT den n (cs.map (·.1)) ∧
        (∀ p ∈ cs, h.get? (T.tb p.1) = some emptyO) ∧ (∀ p ∈ cs, T.K.lookup (T.tb p.1) = none) ∧ (∀ p ∈ cs, PySem.W.CodeHd h p.2 (T.tb p.1)) ∧ (cs.map fun p => T.tb p.1).Nodup ∧
        ∀ base : Heap, T.K.In base → base.Ns mainGlobals mg → (∀ p ∈ cs, TabB base mg p.2 (T.tb p.1)) → FnG T mg base k fa fd [x] den) :
    PySem.W.WalkO q loose XP YP l.row.toRowW d [] (fun f vs => PySem.call f vs) := by
  refine Att.attach_callB hn hdf fun w s0 s1 mg mb fa o pm cd doc a vs ns GG YY ho hd hcd hmg hobj hints hlen hbits hg => ?_
  obtain ⟨T, fd, den, cs, e1, e2, inK, hb, L, t1, t2, t3, t4, hF⟩ := F w mg fa _ YY GG.T.g hmg
  have := law_endT (T := T) inK GG.T.g GG.T.b GG.T.builtins GG.T.nolimit hg t1 t2 t3 t4 GG.T.bmain hobj hints (Nat.le_trans hlen hn2) hlen hr hF hb L
  rw [e1, e2] at this
  exact this
end Z
namespace Z
open PySem PySem.Spec PyProof.Rows L2 LamX
set_option autoImplicit false
structure ErD where
  x : Str
  qual : Str
  params : Arguments
  body : List Stmt
  scope : Scope
  fs : List Str
abbrev FnE : Type := Option (Str × Str × Arguments × FuncBody × Scope × Addr × List Str × Value × Addr)
abbrev eC (K : PySem.W.Frag) (x : Str) : Addr := He.ga K x
abbrev eI (K : PySem.W.Frag) (x : Str) : Addr := He.ma K (He.ga K x) "__init__"
def fnE (K : PySem.W.Frag) (x : Str) : FnE := match K.lookup (eI K x) with
  | some ⟨_, _, .func fd, _⟩ => some (fd.name, fd.qualname, fd.params, fd.body, fd.scope, fd.globals, fd.closure.map (·.1), fd.defaults, fd.builtins)
  | _ => none
def ErD.val (e : ErD) : FnE := some ("__init__", e.qual, e.params, .stmts e.body, e.scope, mainGlobals, ["__class__"], .none, builtinsNs)
def oexB (K : PySem.W.Frag) (C : Addr) : Bool := match K.lookup C with
  | some ⟨.type "type", _, .cls cd, sl⟩ => (match cd.mro, sl.toList with
    | .ref C' :: bm, [_, _, _, _, some (.builtin n), _] => decide (C' = C) && (decide (n = "ValueError.__new__") && (!cd.hasDel && (cd.hasDict && PySem.HandSPX.refsVE bm)))
    | _, _ => false)
  | _ => false
theorem oexB_ok {K : PySem.W.Frag} {C : Addr} (h : oexB K C = true) : ∃ nm q N bs bm sn sub ab col dd k0 k1 k2 k3 k5, K.lookup C = some (excClassObj nm q C N bs bm true sn sub ab col dd k0 k1 k2 k3 k5 "ValueError.__new__") ∧ PySem.HandSPX.refsVE bm = true := by
  unfold oexB at h
  split at h
  · rename_i dd cd sl ho
    split at h
    · rename_i C' bm k0 k1 k2 k3 n k5 hm hs
      obtain ⟨h1, h⟩ := He.ba h
      obtain ⟨h2, h⟩ := He.ba h
      obtain ⟨h3, h⟩ := He.ba h
      obtain ⟨h4, h5⟩ := He.ba h
      have h1 := of_decide_eq_true h1
      have h2 := of_decide_eq_true h2
      subst h1 h2
      obtain ⟨nm, bs, mro, ns, qn, hd, sn, sub, ab, col, del⟩ := cd
      dsimp only at hm h3 h4
      subst hm h4
      have h3 : del = false := by simpa using h3
      subst h3
      have hsl : sl = #[k0, k1, k2, k3, some (.builtin "ValueError.__new__"), k5] := by
        obtain ⟨l⟩ := sl
        simp only at hs
        rw [hs]
      subst hsl
      exact ⟨_, _, _, _, _, _, _, _, _, _, _, _, _, _, _, ho, h5⟩
    · cases h
  · cases h
def xB (K : PySem.W.Frag) (C : Addr) : Bool := (PySem.W.clsIn K C).isSome && (He.eqO (PySem.W.findIn K (.ref C) "__getattribute__") (some (some (.builtin "BaseException.__getattribute__"))) && (He.eqO (PySem.W.findIn K (.ref C) "__getattr__") (some none) &&
  (decide (PySem.W.subIn K (.ref C) (.type "BaseException") = some true) && (PySem.W.hasDictIn K C && (He.eqO (PySem.W.findIn K (.ref C) "__class__") (some (some (.builtin "object.__class__"))) &&
  (He.eqO (PySem.W.specialIn K (.builtin "object.__class__") "__get__") (some (some (.builtin "getset_descriptor.__get__"))) && (decide (PySem.W.takesIn K (.builtin "object.__class__") = some true) && decide (PySem.W.mroIn K C (.type "object") = some true))))))))
theorem xB_ok {K : PySem.W.Frag} {C : Addr} (h : xB K C = true) : ErrX K C := by
  obtain ⟨h1, h⟩ := He.ba h
  obtain ⟨h2, h⟩ := He.ba h
  obtain ⟨h3, h⟩ := He.ba h
  obtain ⟨h4, h⟩ := He.ba h
  obtain ⟨h5, h⟩ := He.ba h
  obtain ⟨h6, h⟩ := He.ba h
  obtain ⟨h7, h⟩ := He.ba h
  obtain ⟨h8, h9⟩ := He.ba h
  exact ⟨h1, He.eqO_ok h2, He.eqO_ok h3, of_decide_eq_true h4, h5, He.eqO_ok h6, He.eqO_ok h7, of_decide_eq_true h8, of_decide_eq_true h9⟩
def codB (file : Str) (K : PySem.W.Frag) (C fI : Addr) (q : Str) : Bool := match K.lookup fI with
  | some ⟨_, _, .func fd, _⟩ => (match fd.code, fd.closure with
    | .ref cda, [(_, cc)] => PySem.W.codeIn K (.ref cda) q && ((match K.lookup cda with
      | some ⟨_, _, .fields vs, _⟩ => (match (vs[2]? : Option Value) with
        | some (.str f _) => decide (f = file)
        | _ => false)
      | _ => false) && (match K.lookup cc with
      | some ⟨_, _, .cell (some (.ref D)), _⟩ => decide (D = C)
      | _ => false))
    | _, _ => false)
  | _ => false
def erB (file : Str) (K : PySem.W.Frag) (e : ErD) : Bool := oexB K (eC K e.x) && (He.eqO (PySem.W.findIn K (.ref (eC K e.x)) "__setattr__") (some (some (.builtin "object.__setattr__"))) && (decide (PySem.W.typeIn K (.ref (eC K e.x)) = some (.type "type")) && (PySem.W.keepIn K (.ref (eC K e.x)) &&
  (He.eqO (PySem.W.nsIn K mainGlobals e.x) (some (some (.ref (eC K e.x)))) && (He.eqO (PySem.W.findIn K (.ref (eC K e.x)) "__init__") (some (some (.ref (eI K e.x)))) && (decide (PySem.W.typeIn K (.ref (eI K e.x)) = some (.type "function")) &&
  (codB file K (eC K e.x) (eI K e.x) e.qual && (decide (PySem.W.mroIn K (eC K e.x) (.ref (eC K e.x)) = some true) && (He.eqO (PySem.W.ks_superIn K (eC K e.x) (eC K e.x) "__init__") (some (some (.builtin "ValueError.__init__"))) &&
  (decide (PySem.W.subIn K (.ref (eC K e.x)) (.type "ValueError") = some true) && (He.eqO (PySem.W.nsIn K cStatics "thirdparty.any") (some none) && ((e.fs.all fun f => He.eqO (PySem.W.findIn K (.ref (eC K e.x)) f) (some none)) && xB K (eC K e.x)))))))))))))
/-- what is known of a class of errors -/
structure ErOk (P : Program) (K : PySem.W.Frag) (e : ErD) : Prop where
  gl : PySem.W.nsIn K mainGlobals e.x = some (some (.ref (eC K e.x)))
  ini : ∃ cda cc, InitK P K (eC K e.x) (eI K e.x) cda cc e.qual e.params e.body e.scope e.fs
  ex : ErrX K (eC K e.x)
theorem erB_ok {P : Program} {K : PySem.W.Frag} {e : ErD} (h : erB P.main.file K e = true) (hv : fnE K e.x = e.val) : ErOk P K e := by
  obtain ⟨h1, h⟩ := He.ba h
  obtain ⟨h2, h⟩ := He.ba h
  obtain ⟨h3, h⟩ := He.ba h
  obtain ⟨h4, h⟩ := He.ba h
  obtain ⟨h5, h⟩ := He.ba h
  obtain ⟨h6, h⟩ := He.ba h
  obtain ⟨h7, h⟩ := He.ba h
  obtain ⟨h8, h⟩ := He.ba h
  obtain ⟨h9, h⟩ := He.ba h
  obtain ⟨h10, h⟩ := He.ba h
  obtain ⟨h11, h⟩ := He.ba h
  obtain ⟨h12, h⟩ := He.ba h
  obtain ⟨h13, h14⟩ := He.ba h
  have X := xB_ok h14
  refine ⟨He.eqO_ok h5, ?_, X⟩
  unfold codB at h8
  unfold fnE at hv
  split at h8
  · rename_i oc od fd osl lk
    rw [lk] at hv
    split at h8
    · rename_i cda x cc ecd ecl
      obtain ⟨g1, g⟩ := He.ba h8
      obtain ⟨g2, g3⟩ := He.ba g
      obtain ⟨n1, n2, n3, n4, n5, n6, n7, n8, n9, n10, n11, n12, n13, n14, n15⟩ := fd
      dsimp only at ecd ecl
      subst ecd ecl
      have hv : (some (n1, n2, n3, n4, n5, n6, [x], n8, n15) : FnE) = (some (("__init__" : Str), e.qual, e.params, FuncBody.stmts e.body, e.scope, mainGlobals, [("__class__" : Str)], Value.none, builtinsNs) : FnE) := hv
      simp only [Option.some.injEq, Prod.mk.injEq, List.cons.injEq, and_true] at hv
      obtain ⟨e1, e2, e3, e4, e5, e6, e7, e8, e9⟩ := hv
      subst e1 e2 e3 e4 e5 e6 e7 e8 e9
      refine ⟨cda, cc, ⟨oexB_ok h1, He.eqO_ok h2, X.sub, of_decide_eq_true h3, h4⟩, He.eqO_ok h6, of_decide_eq_true h7, ⟨_, _, _, _, _, _, _, _, lk⟩, g1, ?_, ?_, of_decide_eq_true h9, He.eqO_ok h10, of_decide_eq_true h11, He.eqO_ok h12, fun f hf => He.eqO_ok (List.all_eq_true.mp h13 f hf)⟩
      · split at g2
        · rename_i vs _ lc
          split at g2
          · rename_i f tf hvs
            have := of_decide_eq_true g2
            subst this
            exact ⟨_, _, _, _, _, lc, hvs⟩
          · cases g2
        · cases g2
      · split at g3
        · rename_i D _ lc
          have := of_decide_eq_true g3
          subst this
          exact ⟨_, _, _, lc⟩
        · cases g3
    · cases h8
  · cases h8
abbrev AlE : Type := He.AlD × List FnE × Bool
def asE (g : Addr → Option Obj) (n : Nat) : List Addr := cStatics :: He.asD g n
def obsE (n : Nat) (fa : List He.Fa) (fn : List He.DefD) (er : List ErD) (tf : List He.Defn) (ex : PySem.W.Frag → Bool) (g : Addr → Option Obj) : AlE :=
  (He.obsD fa fn (He.frT g (asE g n)), er.map fun e => fnE (He.frT g (asE g n)) e.x, ex (He.frT g (asE g n)) && He.tabsB g tf (He.frT g (asE g n)))
def valE (fn : List He.DefD) (er : List ErD) : AlE := (He.valD fn, er.map ErD.val, true)
structure SaysE (fa : List He.Fa) (fn : List He.DefD) (er : List ErD) (tf : List He.Defn) (ex : PySem.W.Frag → Bool) (h : Heap) (K : PySem.W.Frag) : Prop where
  d : He.SaysD fa fn K
  er : ∀ e ∈ er, fnE K e.x = e.val
  more : ex K = true
  hd : ∀ p ∈ tf, PySem.W.codeHdIn K (He.cT K p).1 (He.cT K p).2 = true
  out : ∀ p ∈ tf, K.lookup (He.cT K p).2 = none
  empty : ∀ p ∈ tf, h.get? (He.cT K p).2 = some emptyO
theorem saysE_of {n : Nat} {fa : List He.Fa} {fn : List He.DefD} {er : List ErD} {tf : List He.Defn} {ex : PySem.W.Frag → Bool} {h : Heap} (e : obsE n fa fn er tf ex h.get? = valE fn er) : SaysE fa fn er tf ex h (He.frT h.get? (asE h.get? n)) := by
  have e1 : He.obsD fa fn (He.frT h.get? (asE h.get? n)) = He.valD fn := congrArg (fun z : AlE => z.1) e
  have e2 : (er.map fun e => fnE (He.frT h.get? (asE h.get? n)) e.x) = er.map ErD.val := congrArg (fun z : AlE => z.2.1) e
  have e3 : (ex (He.frT h.get? (asE h.get? n)) && He.tabsB h.get? tf (He.frT h.get? (asE h.get? n))) = true := congrArg (fun z : AlE => z.2.2) e
  obtain ⟨a, b⟩ := He.ba e3
  have tab : ∀ p ∈ tf, PySem.W.codeHdIn (He.frT h.get? (asE h.get? n)) (He.cT (He.frT h.get? (asE h.get? n)) p).1 (He.cT (He.frT h.get? (asE h.get? n)) p).2 = true ∧ ∃ o, h.get? (He.cT (He.frT h.get? (asE h.get? n)) p).2 = some o ∧ He.emptyTab o = true := fun p hp => by
    obtain ⟨u, v⟩ := He.ba (List.all_eq_true.mp b p hp)
    refine ⟨u, ?_⟩
    cases q : h.get? (He.cT (He.frT h.get? (asE h.get? n)) p).2 with
    | some o => rw [q] at v; exact ⟨o, rfl, v⟩
    | none => rw [q] at v; cases v
  refine ⟨e1, fun e he => List.map_inj_left.mp e2 e he, a, fun p hp => (tab p hp).1, fun p hp => ?_, fun p hp => ?_⟩
  · obtain ⟨_, o, q, z⟩ := tab p hp
    exact He.frT_none q z
  · obtain ⟨_, o, q, z⟩ := tab p hp
    rw [q, He.emptyTab_eq z]
end Z
namespace Z
open PySem PySem.Spec PyProof.Rows L2 LamX
set_option autoImplicit false
section
variable {P : Program} {K : PySem.W.Frag} {e : ErD}
theorem errC_2 {f1 f2 : Str} {p0 p1 p2 p3 p4 q0 q1 q2 q3 r0 r1 r2 r3 n1 n2 : Pos} {pl : Sem Bool} (o : ErOk P K e) (hf : e.fs = [f1, f2])
    (hb : e.body = [supB p0 p1 p2 p3 p4 [.Name f1 n1, .Name f2 n2], stB f1 q0 q1 q2 q3, stB f2 r0 r1 r2 r3]) (S : InitS P e.params e.qual e.scope [f1, f2]) (hev : EvS p0 p1 p2 p3 [.Name f1 n1, .Name f2 n2] pl) : ErrC P K (eC K e.x) (eI K e.x) e.fs := by
  obtain ⟨cda, cc, I⟩ := o.ini
  refine ⟨I.oex, I.ini, I.tyI, by rw [hf]; simp, ?_⟩
  rw [hf, hb] at I
  rw [hf]
  intro w A R s e0 t0 us hl X G nl hr he hK hq
  match us, hl with
  | [u1, u2], _ => exact init_2 I S hev X G nl hr he hK hq
theorem errC_1 {f1 : Str} {p0 p1 p2 p3 p4 q0 q1 q2 q3 n1 : Pos} {pl : Sem Bool} (o : ErOk P K e) (hf : e.fs = [f1])
    (hb : e.body = [supB p0 p1 p2 p3 p4 [.Name f1 n1], stB f1 q0 q1 q2 q3]) (S : InitS P e.params e.qual e.scope [f1]) (hev : EvS p0 p1 p2 p3 [.Name f1 n1] pl) : ErrC P K (eC K e.x) (eI K e.x) e.fs := by
  obtain ⟨cda, cc, I⟩ := o.ini
  refine ⟨I.oex, I.ini, I.tyI, by rw [hf]; simp, ?_⟩
  rw [hf, hb] at I
  rw [hf]
  intro w A R s e0 t0 us hl X G nl hr he hK hq
  match us, hl with
  | [u1], _ => exact init_1 I S hev X G nl hr he hK hq
end
def ctz (er : List ErD) (K : PySem.W.Frag) : Nat → Value := fun k => match er[k]? with
  | some e => .ref (eC K e.x)
  | none => .none
def cfz (fss : List (List Str)) : Nat → List Str := fun k => fss.getD k []
/-- the facts: ys the classes that isinstance asks for, fl the fields that are read, hz the class of the except clause, tab: who is what -/
def exE (er : List ErD) (ys : List Str) (fl : List Str) (hz : Str) (tab : List (List Bool)) (K : PySem.W.Frag) : Bool :=
  (He.eqO (PySem.W.nsIn K mainGlobals hz) (some (some (.ref (He.ga K hz)))) && ys.all fun y => He.eqO (PySem.W.nsIn K mainGlobals y) (some (some (.ref (He.ga K y))))) && (decide (tab.length = er.length) && (er.zip tab).all fun p =>
    (decide (p.2.length = ys.length) && (ys.zip p.2).all fun q => decide (PySem.W.kitOne K (.ref (eC K p.1.x)) (.ref (He.ga K q.1)) = some q.2)) && (decide (PySem.W.kitOne K (.ref (eC K p.1.x)) (.type "ValueError") = some true) &&
    ((fl.all fun f => He.eqO (PySem.W.findIn K (.ref (eC K p.1.x)) f) (some none)) && decide (PySem.W.exmOne K (.ref (eC K p.1.x)) (.ref (He.ga K hz)) = some true))))
structure ErK (K : PySem.W.Frag) (ys fl : List Str) (hz : Str) (row : List Bool) (C : Addr) : Prop where
  ex : ErrX K C
  isa : ∀ (i : Nat) (y : Str), ys[i]? = some y → PySem.W.kitOne K (.ref C) (.ref (He.ga K y)) = some (row.getD i false)
  isv : PySem.W.kitOne K (.ref C) (.type "ValueError") = some true
  fld : ∀ f ∈ fl, PySem.W.findIn K (.ref C) f = some none
  hit : PySem.W.exmOne K (.ref C) (.ref (He.ga K hz)) = some true
theorem zip_get? {α β : Type} : ∀ (xs : List α) (ys : List β) (i : Nat) (x : α) (y : β), xs[i]? = some x → ys[i]? = some y → (x, y) ∈ xs.zip ys
  | [], _, _, _, _, h, _ => by simp at h
  | _ :: _, [], _, _, _, _, h => by simp at h
  | a :: xs, b :: ys, 0, x, y, h1, h2 => by simp at h1 h2; subst h1 h2; simp
  | a :: xs, b :: ys, i + 1, x, y, h1, h2 => by
    have := zip_get? xs ys i x y (by simpa using h1) (by simpa using h2)
    simp [this]
section
variable {P : Program} {K : PySem.W.Frag} {er : List ErD} {ys fl : List Str} {hz : Str} {tab : List (List Bool)}
theorem exE_glo (h : exE er ys fl hz tab K = true) {y : Str} (hy : y ∈ ys) : PySem.W.nsIn K mainGlobals y = some (some (.ref (He.ga K y))) := He.eqO_ok (List.all_eq_true.mp (He.ba (He.ba h).1).2 y hy)
theorem exE_hz (h : exE er ys fl hz tab K = true) : PySem.W.nsIn K mainGlobals hz = some (some (.ref (He.ga K hz))) := He.eqO_ok (He.ba (He.ba h).1).1
theorem exE_ok (h : exE er ys fl hz tab K = true) (ho : ∀ e ∈ er, ErOk P K e) (k : Nat) (hk : k < er.length) : ∃ C, ctz er K k = .ref C ∧ ErK K ys fl hz (tab.getD k []) C := by
  obtain ⟨hl, h2⟩ := He.ba (He.ba h).2
  have hl := of_decide_eq_true hl
  have g1 : er[k]? = some er[k] := List.getElem?_eq_getElem hk
  have hk2 : k < tab.length := by rw [hl]; exact hk
  have g2 : tab[k]? = some tab[k] := List.getElem?_eq_getElem hk2
  have h3 := List.all_eq_true.mp h2 _ (zip_get? _ _ _ _ _ g1 g2)
  obtain ⟨h4, h5⟩ := He.ba h3
  obtain ⟨h6, h7⟩ := He.ba h4
  obtain ⟨h8, h9⟩ := He.ba h5
  obtain ⟨h10, h11⟩ := He.ba h9
  have h6 := of_decide_eq_true h6
  have gd : tab.getD k [] = tab[k] := by rw [List.getD_eq_getElem?_getD, g2] <;> rfl
  refine ⟨eC K er[k].x, by unfold ctz; rw [g1], (ho _ (List.getElem_mem hk)).ex, fun i y hy => ?_, of_decide_eq_true h8, fun f hf => He.eqO_ok (List.all_eq_true.mp h10 f hf), of_decide_eq_true h11⟩
  rw [gd]
  obtain ⟨hi, _⟩ := List.getElem?_eq_some_iff.mp hy
  have hi2 : i < (tab[k]).length := by rw [h6]; exact hi
  have g3 : (tab[k])[i]? = some (tab[k])[i] := List.getElem?_eq_getElem hi2
  rw [List.getD_eq_getElem?_getD, g3]
  exact of_decide_eq_true (List.all_eq_true.mp h7 _ (zip_get? _ _ _ _ _ hy g3))
end
/-- in a suite -/
structure SuX (T : Wd) (X : Cx) : Prop where
  ok : Ok T X
  rm : Rm X
theorem DefX.su {T : Wd} {mg : Str → Option Value} {base : Heap} {k : Nat} {X : Cx} {W : WX} (d : DefX T mg base k X W) {a : Addr} {pn : List (Addr × Obj)} {f : Nat → Option Mk} : SuX (T.as f) (X.suite a pn) := ⟨⟨d.ok.P, d.ok.w, d.ok.K⟩, ⟨d.rm.hu, d.rm.hg⟩⟩
theorem DefX.tr {T : Wd} {mg : Str → Option Value} {base : Heap} {k : Nat} {X : Cx} {W W' : WX} (d : DefX T mg base k X W) {pn : List (Addr × Obj)} {xe : Value → Shared → Prop} (tk : Takes (X.tr pn xe) W') : DefX T mg base k (X.tr pn xe) W' := ⟨⟨d.ok.P, d.ok.w, d.ok.K⟩, ⟨d.rm.hu, d.rm.hg⟩, d.room, d.mg, d.base, tk, d.calm⟩
section
variable {T : Wd} {W : WX} {X : Cx}
theorem sb_bad {b : Stmt} {bs : List Stmt} : SB T W X (b :: bs) sBad := ⟨fun _ _ _ _ _ _ ⟨_, _, _, _, _, p⟩ => p.elim⟩
theorem py_ref {x : Str} {C : Addr} {pos : Pos} (hg : Gl X x) (hm : X.mg x = some (.ref C)) (hd : (x == ("__debug__" : Str)) = false := by decide) : PE X (.Name x pos) (tC (.ref C)) := pe_glob hg hm rfl hd
theorem cv_ref {C : Addr} : ∀ u, L2.RelV (.ref C) u → u = .ref C := fun _ h => h
theorem py_ve {pos : Pos} (hg : Gl X "ValueError") (hm : X.mg "ValueError" = none) : PE X (.Name "ValueError" pos) (tC (.ty "ValueError")) := pe_bltn hg hm boot_ValueError rfl
theorem cv_ve : ∀ u, L2.RelV (.ty "ValueError") u → u = .type "ValueError" := fun _ h => h
theorem nm_ref {x : Str} {C : Addr} (hg : Gl X x) (hm : X.mg x = some (.ref C)) (hd : (x == ("__debug__" : Str)) = false := by decide) : Names X x (.ref C) := ⟨hg, hd, .inl hm⟩
end
def mStar (a : Ev) (b : EvL) : EvL := fun ρ g => (a ρ g).bind fun d g1 => match d with
  | .lst ds => (b ρ g1).bind fun es g2 => .ok (ds ++ es) g2
  | .tup ds => (b ρ g1).bind fun es g2 => .ok (ds ++ es) g2
  | _ => .bad
section
variable {T : Wd} {W : WX} {X : Cx} {a : Expr} {es : List Expr} {ma : Ev} {ms : EvL} {p : Pos}
theorem eas_star (ok : Ok T X) (ha : EW T W X a ma) (hr : EAs T W X es ms) (hs : starEach (.Starred a p :: es) X.env = (true, eval a X.env) :: starEach es X.env := by rfl) : EAs T W X (.Starred a p :: es) (mStar ma ms) := PA.imp (StX.pa_star ha hr hs) fun σ H Q ⟨γ, ρ, g, S, q⟩ => by
  refine ⟨γ, ρ, g, S, q.bind fun d g1 _ v ι1 H1 s1 G1 r1 q1 => ?_⟩
  have S1 := S.step s1 G1
  have fin : ∀ {ds : List D} {vs : List V}, RelDs T ι1 (γ.to ι1).bar H1 ds vs → Post T (γ.to ι1) H1 σ W (rDs T) Q ((ms ρ g1).bind fun es g2 => .ok (ds ++ es) g2) → tX T W (rDs T) ms σ H1 fun ys H2 => Q (vs ++ ys) H2 := fun {ds vs} rv q2 => by
    refine ⟨_, ρ, g1, S1, q2.bind fun es g2 _ ws ι2 H2 s2 G2 r2 p2 => ?_⟩
    have S2 := S1.step s2 G2
    exact p2.ret0 (g0 := g) S2 (RelDs.append (rv.keep s2 (Gho.bi _) (Gho.grows s2)) r2)
  cases d with
  | lst ds =>
    obtain ⟨b, vs, rfl, h1, rv⟩ := r1.lst
    exact ⟨b, vs, rfl, .inr (.inl h1), fin rv q1⟩
  | tup ds =>
    obtain ⟨b, vs, rfl, h1, rv⟩ := r1.tup
    rw [← ok.K] at h1
    exact ⟨b, vs, rfl, .inl h1, fin rv q1⟩
  | _ => exact q1.elim
end
end Z
namespace Z
open PySem PySem.Spec PyProof.Rows L2 LamX
set_option autoImplicit false
def rM (T : Wd) (f : D → List D → Option D) : V → List V → Hp → VK → Prop := fun x xs H Q => ∃ ι bar d ds r, (∀ a, bar a → H a ≠ none) ∧ (∀ a ∈ ι, bar a) ∧ RelW T ι bar H d x ∧ RelDs T ι bar H ds xs ∧ f d ds = some r ∧ ∀ z H', Same H H' → RelD T ι bar H' r z → Q z H'
def isLst : D → Bool
  | .lst _ => true
  | _ => false
def isStr : D → Bool
  | .str _ => true
  | _ => false
def tyL (x : V) (H : Hp) : Prop := ∃ a vs, x = .ref a ∧ Rd H a (.lst vs)
def tyS (x : V) (_ : Hp) : Prop := ∃ y, x = .str y
def mMt (kd : D → Bool) (f : D → List D → Option D) (mo : Ev) (ma : EvL) : Ev := fun ρ g => (mo ρ g).bind fun d g1 => if kd d then (ma ρ g1).bind fun ds g2 => ret (f d ds) g2 else .bad
section
variable {T : Wd} {W : WX} {X : Cx} {o e : Expr} {es : List Expr} {mo : Ev} {ma : EvL} {name : Str} {apos cpos : Pos}
theorem ty_L : TyOk X "list" tyL := by
  intro pins σ H s x v I r ⟨a, vs, ex, h⟩
  subst ex
  cases r
  obtain ⟨its, rv, ⟨ob, n, ho, hc, hdn, hd⟩, _⟩ := I.list (.inl h)
  refine ⟨⟨ob, ho, hc⟩, fun b e => ?_⟩
  cases e
  exact ⟨ob, ho, hdn⟩
theorem ty_S : TyOk X "str" tyS := by
  intro pins σ H s x v I r ⟨y, ex⟩
  subst ex
  obtain ⟨t, rfl⟩ := r
  exact ⟨typeIs_str _ _ _, fun b e => nomatch e⟩
theorem ee_mt {kd : D → Bool} {f : D → List D → Option D} {Tn id : String} {ty : V → Hp → Prop} (hk : ∀ ι bar H d x, kd d = true → RelW T ι bar H d x → ty x H) (ht : TyOk X Tn ty) (pa : PlainAttrs Tn) (slot : Slot Tn name id) (hty : typeOf (.builtin id) = pure (.type "method_descriptor")) (hm : MtR X id (rM T f))
    (ho : EW T W X o mo) (ha : EAs T W X (e :: es) ma)
    (hbase : attributeBase o name X.env (eval o X.env) = eval o X.env := by rfl)
    (hfew : ((backTo cpos (starEach (e :: es) X.env)).all (fun x => !x.1) && (backToKw cpos (keywordEach [] X.env)).all (fun x => x.1.isSome)
      && decide ((e :: es).length + ([] : List Keyword).length + (if ([] : List Keyword).isEmpty then 0 else 1) < 30)) = true := by rfl)
    (hline : (apos.endLine == cpos.line) = true := by rfl) (hs : starEach (e :: es) X.env = (false, eval e X.env) :: starEach es X.env := by rfl) (hplain : (backTo cpos (starEach es X.env)).any (·.1) = false := by rfl) :
    EE T W X (.Call (.Attribute o name apos) (e :: es) [] cpos) (mMt kd f mo ma) := PE.imp (pe_mG ht pa slot hty hm ho ha hbase hfew hline hs hplain) fun σ H Q ⟨γ, ρ, g, S, p⟩ => by
  refine ⟨γ, ρ, g, S, p.bind fun d g1 _ v ι1 H1 s1 G1 r1 p1 => ?_⟩
  have S1 := S.step s1 G1
  cases hkd : kd d with
  | false => rw [hkd] at p1; exact p1.elim
  | true =>
    rw [hkd] at p1
    refine ⟨hk _ _ _ _ _ hkd r1, _, ρ, g1, S1, p1.bind fun ds g2 _ vs ι2 H2 s2 G2 r2 p2 => ?_⟩
    have S2 := S1.step s2 G2
    cases hf : f d ds with
    | none => rw [hf] at p2; exact p2.elim
    | some r =>
      rw [hf] at p2
      exact ⟨ι2, ((γ.to ι1).to ι2).bar, d, ds, r, S2.bart, fun a h => .inl h, r1.keep s2 (γ.to ι1).bi (Gho.grows s2), r2, hf, fun z H' s r => p2.ret1 S2 s r⟩
theorem kd_L : ∀ ι bar H d x, isLst d = true → RelW T ι bar H d x → tyL x H := fun ι bar H d x h r => by
  cases d with
  | lst ds => obtain ⟨a, vs, e, q, _⟩ := r.lst; exact ⟨a, vs, e, q⟩
  | _ => cases h
theorem kd_S : ∀ ι bar H d x, isStr d = true → RelW T ι bar H d x → tyS x H := fun ι bar H d x h r => by
  cases d with
  | str y => exact ⟨y, RelW.str r⟩
  | _ => cases h
def cnt (d : D) : List D → Nat
  | [] => 0
  | x :: xs => bif PyData.eqv (py x) (py d) then cnt d xs + 1 else cnt d xs
theorem cnt_eq (d : D) : ∀ ds : List D, cnt d ds = (pys ds).countP fun y => PyData.eqv y (py d)
  | [] => rfl
  | x :: xs => by
    have ih := cnt_eq d xs
    rw [pys, List.countP_cons, ← ih]
    show (bif PyData.eqv (py x) (py d) then cnt d xs + 1 else cnt d xs) = _
    cases PyData.eqv (py x) (py d) <;> simp
def cntF (d : D) (es : List D) : Option D := match d, es with
  | .lst ds, [e] => if isDs ds && isD e && (sh e || shs ds) then some (.int (cnt e ds)) else none
  | _, _ => none
theorem mt_cnt (ok : Ok T X) (rm : Rm X) : MtR X "list.count" (rM T cntF) := by
  intro pins s σ H x xs v us Q I rx rxs ⟨ι, bar, d, es, r, hb, hi, rd, re, hk, q⟩
  unfold cntF at hk
  split at hk
  · rename_i ds e
    split at hk
    · rename_i hc
      cases hk
      simp only [Bool.and_eq_true] at hc
      obtain ⟨⟨h2, h1⟩, h3⟩ := hc
      obtain ⟨x1, xs1, rfl, re1, re2⟩ := re.uncons
      cases re2
      obtain ⟨u, rfl, ru⟩ := rxs.one
      obtain ⟨as, r1⟩ := re1.reads ok I ru h1
      obtain ⟨a, vs, rfl, hr, rs⟩ := rd.lst
      cases rx
      obtain ⟨its, rv, ⟨ob, n, ho, hc, hdn, hd⟩, _⟩ := I.list (.inl hr)
      obtain ⟨bs, r2⟩ := RelDs.reads ok I rs rv h2
      refine SeqAt.count_list_data (vs := its.toArray) ⟨ob, ho, hc, n, hd⟩ (by simpa using r2) r1 (plains_of ds h2) (plain_of e h1) (depth_in rm h3) ?_
      refine ⟨.int (cnt e ds : Nat), H, I.tok _, ⟨s.toks, by rw [cnt_eq]⟩, q _ _ (Same.refl H) (RelD.ofInt _)⟩
    · cases hk
  · cases hk
theorem ee_cnt (ok : Ok T X) (rm : Rm X) (ho : EW T W X o mo) (ha : EAs T W X [e] ma)
    (hbase : attributeBase o "count" X.env (eval o X.env) = eval o X.env := by rfl)
    (hfew : ((backTo cpos (starEach [e] X.env)).all (fun x => !x.1) && (backToKw cpos (keywordEach [] X.env)).all (fun x => x.1.isSome)
      && decide (([e] : List Expr).length + ([] : List Keyword).length + (if ([] : List Keyword).isEmpty then 0 else 1) < 30)) = true := by rfl)
    (hline : (apos.endLine == cpos.line) = true := by rfl) (hs : starEach [e] X.env = (false, eval e X.env) :: starEach [] X.env := by rfl) (hplain : (backTo cpos (starEach [] X.env)).any (·.1) = false := by rfl) :
    EE T W X (.Call (.Attribute o "count" apos) [e] [] cpos) (mMt isLst cntF mo ma) := ee_mt kd_L ty_L PySem.F.plainAttrs_list PySem.F.slot_list_count PySem.F.type_list_count (mt_cnt ok rm) ho ha hbase hfew hline hs hplain
end
end Z
namespace Z
open PySem PySem.Spec PyProof.Rows L2 LamX
set_option autoImplicit false
theorem codeIn_ref {K : PySem.W.Frag} {c : Value} {q : Str} (h : PySem.W.codeIn K c q = true) : ∃ a, c = .ref a := by
  cases c with
  | ref a => exact ⟨a, rfl⟩
  | _ => cases h
/-- (the def's name, its lambdas' name) -/
abbrev LamN := Str × Str
def tbz (ls : List LamN) (K : PySem.W.Frag) : Str → Addr := fun q => match ls.find? (fun p => p.2 == q) with
  | some p => (He.cT K (p.1, none)).2
  | none => 0
abbrev tfz (ls : List LamN) : List He.Defn := ls.map fun p => (p.1, none)
abbrev csz (ls : List LamN) (K : PySem.W.Frag) : List TbE := ls.map fun p => (p.2, He.codeOf K (p.1, none))
def tabNd (ls : List LamN) (K : PySem.W.Frag) : Bool := decide ((ls.map fun p => (He.cT K (p.1, none)).2).Nodup)
abbrev Tabs (T : Wd) (mg : Str → Option Value) (base : Heap) (ls : List LamN) : Prop := ∀ p ∈ ls, TabB base mg (He.codeOf T.K (p.1, none)) (T.tb p.2)
theorem tbz_mem {ls : List LamN} {K : PySem.W.Frag} (nd : (ls.map (·.2)).Nodup) {p : LamN} (hp : p ∈ ls) : tbz ls K p.2 = (He.cT K (p.1, none)).2 := by
  unfold tbz
  induction ls with
  | nil => cases hp
  | cons q ls ih =>
    rw [List.map_cons, List.nodup_cons] at nd
    rw [List.find?_cons]
    rcases List.mem_cons.mp hp with e | e
    · subst e; simp
    · have : q.2 ≠ p.2 := fun z => nd.1 (by rw [z]; exact List.mem_map_of_mem e)
      rw [show (q.2 == p.2) = false from beq_false_of_ne this]
      exact ih nd.2 e
section
variable {T : Wd} {mg : Str → Option Value} {base : Heap} {k : Nat} {x x0 qual : Str} {params : Arguments} {body : List Stmt} {scope : Scope} {dvs : List V} {kws : List (Str × V)} {fd : FuncData} {N ps : List Str}
theorem fn_denL (F : FunD T.K x qual params body scope dvs kws (He.fAd T.K (x0, none)) fd) (S : FnScope N ps scope) {m : Sm}
    (hbody : ∀ (A : Around) (outer : List PySem.Env) (s : Shared) (H : Hp) (E : XK), DefX T mg base k (cxOf (L2.CX T.P T.w) T.P T.w T.K mg base N qual scope (He.fAd T.K (x0, none)) (.ref (He.codeOf T.K (x0, none))) A outer s H E) (fun cls dx _ H' => E cls dx H') →
      PassesOwn (model T.P T.w) (A.deeper (envOfC qual scope s.heap.objs.size (He.fAd T.K (x0, none)) (.ref (He.codeOf T.K (x0, none))))) (envOfC qual scope s.heap.objs.size (He.fAd T.K (x0, none)) (.ref (He.codeOf T.K (x0, none)))) (cxOf (L2.CX T.P T.w) T.P T.w T.K mg base N qual scope (He.fAd T.K (x0, none)) (.ref (He.codeOf T.K (x0, none))) A outer s H E).xe →
      SB T (fun cls dx _ H' => E cls dx H') (cxOf (L2.CX T.P T.w) T.P T.w T.K mg base N qual scope (He.fAd T.K (x0, none)) (.ref (He.codeOf T.K (x0, none))) A outer s H E) body m) : FnG T mg base (k + 1) (He.fAd T.K (x0, none)) fd ps (denOf N.length m) := by
  refine fn_denC F S fun cdv hc A outer s H E dx => ?_
  obtain ⟨oc, od, osl, lk, e, hcd⟩ := hc
  obtain ⟨c, rfl⟩ := codeIn_ref hcd
  have := He.codeOf_eq (p := (x0, none)) lk e
  subst this
  exact hbody A outer s H E dx
end
section
variable {T : Wd} {mg : Str → Option Value} {base : Heap} {kk : Nat} {W W' : WX} {X : Cx} {x y n : Str} {i a dx k C : Nat} {oe : Obj} {pn : List (Addr × Obj)} {ds : List D} {p p1 p2 pos : Pos}
theorem ee_isD {b : Bool} {c : V} {cv : Value} (_ : DefX T mg base kk X W') (hT : T.ct k = .ref C) (EX : ErrX X.K C) (hz : Zc (T.ct k) (some dx) oe) (hf : ∃ vs, oe.data = .fields vs) (hg : Gl X "isinstance") (hm : X.mg "isinstance" = none)
    (hy : PE (X.suite a ((a, oe) :: pn)) (.Name y p2) (tC c)) (hcv : ∀ u, L2.RelV c u → u = cv) (hk : PySem.W.kitOne X.K (T.ct k) cv = some b)
    (i : Nat) (hN : X.N[i]? = some n := by rfl) (hv : Vis X.env.scope n := by first | exact Or.inl rfl | exact Or.inr (Or.inl rfl) | exact Or.inr (Or.inr rfl)) (hd : (n == ("__debug__" : Str)) = false := by decide) (hcd : (n == ("__classdict__" : Str)) = false := by decide)
    (hs : starEach [.Name n p1, .Name y p2] X.env = (false, eval (.Name n p1) X.env) :: starEach [.Name y p2] X.env := by rfl) (hpl : (backTo pos (starEach [.Name y p2] X.env)).any (·.1) = false := by rfl)
    (hs2 : starEach [.Name y p2] X.env = (false, eval (.Name y p2) X.env) :: starEach [] X.env := by rfl) :
    EE (T.ex a dx k ds) W (X.suite a ((a, oe) :: pn)) (.Call (.Name "isinstance" p) [.Name n p1, .Name y p2] [] pos) (mMk i (.bl b)) := ee_isE hT EX hz hf hg hm hy hcv hk i hN hv hd hcd hs hpl hs2
theorem ee_erD {f : Str} {fs : List Str} (_ : DefX T mg base kk X W') (hT : T.ct k = .ref C) (hF : T.cf k = fs) (EX : ErrX X.K C) (hno : PySem.W.findIn X.K (.ref C) f = some none) (hz : Zc (T.ct k) (some dx) oe) (hf : ∃ vs, oe.data = .fields vs)
    (i : Nat) (hN : X.N[i]? = some n := by rfl) (hv : Vis X.env.scope n := by first | exact Or.inl rfl | exact Or.inr (Or.inl rfl) | exact Or.inr (Or.inr rfl)) (hd : (n == ("__debug__" : Str)) = false := by decide) (hcd : (n == ("__classdict__" : Str)) = false := by decide)
    (hb : attributeBase (.Name n p1) f X.env (eval (.Name n p1) X.env) = eval (.Name n p1) X.env := by rfl) :
    EE (T.ex a dx k ds) W (X.suite a ((a, oe) :: pn)) (.Attribute (.Name n p1) f pos) (mErf i fs ds f) := ee_erf hT hF EX hno hz hf i hN hv hd hcd hb
theorem ee_hr {j k : Nat} {a q : Str} {N : List Str} {fg c : Addr} {mH : (G → Res D) → Sm} {mb : Ev} {params : Arguments} {body : Expr} {scope : Scope} {lpos : Pos}
    (F : HearD T mg base (k + 1) x a N fg mH) (dx : DefX T mg base (k + 2) X W) (m0 : T.mks 0 = none) (hg : Gl X x) (hq : q = X.env.qual ++ "<lambda>") (TB : TabB base mg c (T.tb q)) (hcode : X.env.code = .ref c) (L : LamS X.env.scope scope) (hdef : defaultsOf params X.env = ([], []))
    (hbind : ∀ (q : Str) (cl : List (Str × Addr)) (pm cv ctv : Value), bindArgs (PySem.W.kla_fn "<lambda>" q params body scope cl pm cv ctv) ⟨[], []⟩ = pure [])
    (hbody : ∀ (A : Around) (outer : List PySem.Env) (s : Shared) (H : Hp) (E : XK) (fl c' : Addr), DefX T mg base k (lamCx X A outer s H E scope fl c') (fun cls dx _ H' => E cls dx H') → EE T (fun cls dx _ H' => E cls dx H') (lamCx X A outer s H E scope fl c') body mb)
    (hdb : (x == ("__debug__" : Str)) = false := by decide) (he : starEach [.Lambda params body scope lpos] X.env = (false, eval (.Lambda params body scope lpos) X.env) :: starEach [] X.env := by rfl) (hpl : (backTo pos (starEach [] X.env)).any (·.1) = false := by rfl) :
    EE T W X (.Call (.Name x p) [.Lambda params body scope lpos] [] pos) (mHear j q N.length mH mb) := ee_hear F dx m0 hg hq TB hcode L hdef hbind hbody j hdb he hpl
end
/-- the law's end: from the head's facts -/
theorem tabs_of {T : Wd} {mg : Str → Option Value} {base : Heap} {ls : List LamN} (h : ∀ p ∈ csz ls T.K, TabB base mg p.2 (T.tb p.1)) : Tabs T mg base ls := fun p hp => h (p.2, He.codeOf T.K (p.1, none)) (List.mem_map.mpr ⟨p, hp, rfl⟩)
end Z
namespace Z
open PySem PySem.Spec PyProof.Rows L2 LamX
set_option autoImplicit false
theorem headT {fa : List He.Fa} {fn : List He.DefD} {er : List ErD} {ls : List LamN} {ex : PySem.W.Frag → Bool} {h : Heap} {K : PySem.W.Frag} (X : K.In h) (c : SaysE fa fn er (tfz ls) ex h K) (nd : (ls.map (·.2)).Nodup) (hn : tabNd ls K = true) :
    (∀ p ∈ csz ls K, h.get? (tbz ls K p.1) = some emptyO) ∧ (∀ p ∈ csz ls K, K.lookup (tbz ls K p.1) = none) ∧ (∀ p ∈ csz ls K, PySem.W.CodeHd h p.2 (tbz ls K p.1)) ∧ ((csz ls K).map fun p => tbz ls K p.1).Nodup := by
  have tf : ∀ p ∈ ls, (p.1, none) ∈ tfz ls := fun p hp => List.mem_map.mpr ⟨p, hp, rfl⟩
  refine ⟨fun p hp => ?_, fun p hp => ?_, fun p hp => ?_, ?_⟩
  · obtain ⟨q, hq, rfl⟩ := List.mem_map.mp hp
    show h.get? (tbz ls K q.2) = _
    rw [tbz_mem nd hq]
    exact c.empty _ (tf q hq)
  · obtain ⟨q, hq, rfl⟩ := List.mem_map.mp hp
    show K.lookup (tbz ls K q.2) = _
    rw [tbz_mem nd hq]
    exact c.out _ (tf q hq)
  · obtain ⟨q, hq, rfl⟩ := List.mem_map.mp hp
    show PySem.W.CodeHd h (He.codeOf K (q.1, none)) (tbz ls K q.2)
    rw [tbz_mem nd hq]
    exact PySem.W.codeHd_of_K X (c.hd _ (tf q hq))
  · have e : (csz ls K).map (fun p => tbz ls K p.1) = ls.map fun p => (He.cT K (p.1, none)).2 := by
      rw [List.map_map]
      exact List.map_congr_left fun p hp => tbz_mem nd hp
    rw [e]
    exact of_decide_eq_true hn
theorem ers_of {P : Program} {fa : List He.Fa} {fn : List He.DefD} {er : List ErD} {tf : List He.Defn} {ex : PySem.W.Frag → Bool} {h : Heap} {K : PySem.W.Frag} (c : SaysE fa fn er tf ex h K) (hb : (er.all fun e => erB P.main.file K e) = true) : ∀ e ∈ er, ErOk P K e :=
  fun e he => erB_ok (List.all_eq_true.mp hb e he) (c.er e he)
end Z
namespace Z
open PySem PySem.Spec PyProof.Rows L2 LamX
set_option autoImplicit false
set_option maxHeartbeats 1000000 in
theorem en1_meets {v : Value} {ob : Obj} {Hc : Heap → Prop} (Bg : Begins v ob Hc) :
    Meets (Builtin.«enumerate.__new__» ⟨[.type "enumerate", v], []⟩) (fun _ R st => Hc st.heap ∧
      R (.ok (.ret (.ref (st.heap.push ob).objs.size))) { st with heap := (st.heap.push ob).push { cls := .type "enumerate", data := .fields #[.none, .bool false, .ref st.heap.objs.size, rawInt 0, .none, .none] } }) :=
  .of_wp fun prog w A R st hh => by
    obtain ⟨hp, g, d, tk, os⟩ := st; obtain ⟨hc1, hh⟩ := hh
    have hsub := sub_enumerate
    have qi : ∀ {A' : Around} {E : Value → Shared → Prop} {Q : Value → Shared → Prop}, Q (.ref hp.objs.size) ⟨hp.push ob, g, d, tk, os⟩ → wpAny (model prog w) A' (pyIter v) Q E ⟨hp, g, d, tk, os⟩ :=
      fun q => Bg.iter prog w _ _ ⟨hp, g, d, tk, os⟩ _ hc1 q
    wp_walk using qi
    refine wpAny_stack_any fun _ => wpAny_pure ?_
    split
    · rename_i c _ _ _ _ _
      cases (c == Value.type "enumerate")
      · wp_walk using qi
        exact ⟨_, rfl, hh⟩
      · wp_walk using qi
        exact ⟨_, rfl, hh⟩
    · wp_walk using qi
      exact ⟨_, rfl, hh⟩
theorem en1_call {prog : Program} {w : World} {A : Around} {E : Value → Shared → Prop} {st : Shared} {v : Value} {ob : Obj} {Hc : Heap → Prop} {Q : Value → Shared → Prop} (Bg : Begins v ob Hc) (hc1 : Hc st.heap)
    (hh : ∀ h', IsEnum h' (st.heap.objs.size + 1) st.heap.objs.size 0 .none → h'.get? st.heap.objs.size = some ob → (∀ b o, st.heap.get? b = some o → h'.get? b = some o) → Q (.ref (st.heap.objs.size + 1)) { st with heap := h' }) :
    wpAny (model prog w) A (call (.type "enumerate") [v]) Q E st := by
  refine callType_new F.called_enumerate (by decide) (F.typeCall_enumerate_1 _) (F.newCall_enumerate_1 _) (fun obj => F.args_object_init_2 obj _) F.entry_enumerate_new (en1_meets Bg) ⟨hc1, ?_⟩
  have sz : (st.heap.push ob).objs.size = st.heap.objs.size + 1 := Heap.size_push ..
  show _ ∧ _
  rw [sz]
  have en : IsEnum ((st.heap.push ob).push { cls := .type "enumerate", data := .fields #[.none, .bool false, .ref st.heap.objs.size, rawInt 0, .none, .none] }) (st.heap.objs.size + 1) st.heap.objs.size 0 .none := by
    have := Heap.get?_push_size (st.heap.push ob) (o := { cls := .type "enumerate", data := .fields #[.none, .bool false, .ref st.heap.objs.size, rawInt 0, .none, .none] }) rfl
    rw [sz] at this
    exact this
  exact ⟨⟨_, en, rfl⟩, hh _ en (Heap.get?_push_of_some _ (Heap.get?_push_size _ Bg.free)) fun b o z => Heap.get?_push_of_some _ (Heap.get?_push_of_some _ z)⟩
theorem en_end {prog : Program} {w : World} {A : Around} {E : Value → Shared → Prop} {st : Shared} {e it a : Addr} {i : Nat} {xs : Array Value} {old : Value} {Q : Option Value → Shared → Prop} (ha : A.handled = none) (en : IsEnum st.heap e it i old) (ti : st.heap.IsTupleIter it a i) (ta : st.heap.IsTuple a xs) (no : xs[i]? = none)
    (q : ∀ h', Heap.ExtBut it st.heap h' → Q none { st with heap := h' }) : wpAny (model prog w) A (pyNext (.ref e)) Q E st := by
  have ty : st.TypeIs (.ref e) "enumerate" := ⟨_, en, rfl⟩
  unfold pyNext
  refine wpAny_bind (wpAny_attempt (wpAny_callSpecial?_slot (name := Str.ofString "__next__") ty F.slot_enumerate_next (wpAny_call_entry F.slot_enumerate_next ty F.entry_enumerate_next ?_ (F.args_enumerate_next_1 _))))
  show wpAny _ _ (field (.ref e) 2 >>= _) _ _ _
  refine wpAny_bind (wpAny_field en rfl (x := .ref it) rfl (wpAny_bind (wpAny_nextOf_tuple_end ha ti ta no fun h' x eb ⟨o, ho, hc⟩ => ?_)))
  exact wpAny_bind (wpAny_isInstance (T := "StopIteration") (b := true) ⟨o, ho, hc⟩ isSubtype_stop (wpAny_pure (q _ eb)))
/-- the tuple at a, each item in a new pair -/
def IteT (K : PySem.W.Frag) (a : Addr) : It :=
  ⟨fun i H => ∃ (xs : List V) (x : V), SqT K H a xs ∧ xs[i]? = some x, fun i H v H' => ∃ T x, v = .ref T ∧ H T = none ∧ H' = upd H T (.tup [.int (i : Nat), x]) ∧ ∀ xs, SqT K H a xs → xs[i]? = some x, fun i H => ∃ xs : List V, SqT K H a xs ∧ xs.length ≤ i⟩
theorem enT_turn {P : Program} {w : World} {K : PySem.W.Frag} {elts : List Expr} {kk : Nat} {tpos : Pos} (a e it : Addr) :
    Turn P w K (.Tuple elts kk tpos) (IteT K a) [e, it] e (fun i h => (∃ old, IsEnum h e it ((i : Nat) : Int) old) ∧ h.IsTupleIter it a i ∧ e ≠ it ∧ a ≠ it ∧ e ≠ a) where
  mem := by simp
  obj := fun i h st b hb => by
    obtain ⟨⟨old, he⟩, ⟨o, ho, hc, hd⟩, _⟩ := st
    have e' : b = e ∨ b = it := by simpa using hb
    rcases e' with z | z
    · rw [z]; exact ⟨_, he, fun v q => nomatch q⟩
    · rw [z]; exact ⟨o, ho, fun v q => by rw [hd] at q; cases q⟩
  keep := fun i h h' st k => let ⟨⟨old, he⟩, hi, hne⟩ := st; ⟨⟨old, k e (by simp) _ he⟩, hi.at fun o q => k it (by simp) o q, hne⟩
  item := by
    intro X hP hw hK hc i pins s σ H E I hf st hg
    subst hP hw hK
    obtain ⟨⟨old, he⟩, hit, hne, hat, hea⟩ := st
    obtain ⟨xs, x, hq, hx⟩ := hg
    obtain ⟨its, rv, p, hz⟩ := I.tuple hq
    obtain ⟨u, hu, ru⟩ := rv.get hx
    have hlt : i < its.toArray.size := by
      have := (List.getElem?_eq_some_iff.mp hu).1
      simpa using this
    have hel : e < s.heap.objs.size := Heap.lt_size he
    have hil : it < s.heap.objs.size := by obtain ⟨_, q, _⟩ := hit; exact Heap.lt_size q
    refine wpAny_pyNext_enum_itemD (Draws.tuple (A := X.A.in1) (show X.A.in1.handled = none from I.ok.hd hc) it a hat its.toArray) he ⟨hit, p⟩ hlt hne (by simp [hne, hea]) fun y h' tk hy ho hst hT hsz hk => ?_
    have hy' : its[i]? = some y := by simpa using hy
    rw [hu] at hy'
    cases hy'
    refine ⟨_, rfl, wpAny_letOwnedTupleGo_enum (s := { s with heap := h', toks := tk + 1 }) ho fun h'' he' sb => ?_⟩
    have hT2 : h''.get? s.heap.objs.size = some { cls := .type "tuple", data := .seq #[.int i tk, u] } := (sb.2 _ (Nat.ne_of_gt hel)).trans hT
    have new : ObjOk X.prog X.w (upd H s.heap.objs.size (.tup [.int (i : Nat), x])) h'' s.heap.objs.size (.tup [.int (i : Nat), x]) :=
      ⟨by show 2 ≤ sizeLine; decide, [.int i tk, u], .cons ⟨_, rfl⟩ (.cons ru .nil), ⟨_, hT2, rfl, _, rfl⟩⟩
    have I1 : Inv X pins σ (upd H s.heap.objs.size (.tup [.int (i : Nat), x])) { s with heap := h'', toks := tk + 1 } :=
      I.turnedNew (ch := [e, it]) (fun b ob hb q => (sb.2 b (fun z => hb (by simp [z]))).trans (hk b ob (fun z => hb (by simp [z])) (fun z => hb (by simp [z])) q)) hf (Nat.le_refl _) new
    refine ⟨.ref s.heap.objs.size, _, I1, rfl, ⟨_, x, rfl, I.hok.fresh (Nat.le_refl _), rfl, fun ys hy => by rw [I.tuple_inj hy hq]; exact hx⟩, ⟨⟨u, ?_⟩, hst.1.at fun o q => (sb.2 it (Ne.symm hne)).trans q, hne, hat, hea⟩, fun b hb => ?_⟩
    · have e1 : ((i + 1 : Nat) : Int) = (i : Int) + 1 := by omega
      rw [e1]; exact he'
    · have hb' : b < s.heap.objs.size := by
        have e' : b = e ∨ b = it := by simpa using hb
        rcases e' with z | z
        · rw [z]; exact hel
        · rw [z]; exact hil
      rw [upd_ne (Nat.ne_of_lt hb')]
      exact (hf b hb).1
  done := by
    intro X hP hw hK hc i pins s σ H E I hf st hg
    subst hP hw hK
    obtain ⟨⟨old, he⟩, hit, hne, hat, hea⟩ := st
    obtain ⟨xs, hq, hx⟩ := hg
    obtain ⟨its, rv, p, hz⟩ := I.tuple hq
    obtain ⟨f0, f1, f2, f3, f4, f5⟩ := hf it (by simp)
    have hl := rv.length
    exact en_end (I.ok.hd hc) he hit p (by
      have hx2 : its.toArray.size ≤ i := by rw [List.size_toArray, ← hl]; exact hx
      simpa using hx2) fun h' eb => ⟨rfl, I.turned (t' := s.toks) (fun b o hb q => eb b o hb q) f0 f1 f3 f4 f5⟩
  self := fun A i s Q E st h => let ⟨⟨_, he⟩, _⟩ := st; wpAny_pyIter_enum he h
def iEnT (K : PySem.W.Frag) (ta : TA) : TI := fun σ H R => ta σ H fun vs H1 => ∃ a xs, vs = [.ref a] ∧ SqT K H1 a xs ∧ R (IteT K a) H1
theorem pi_enT {X : Cx} {e : Expr} {ta : TA} {p pos tpos : Pos} {elts : List Expr} {kk : Nat} (hg : Gl X "enumerate") (hm : X.mg "enumerate" = none) (ha : PA X [e] ta) (hs : starEach [e] X.env = [(false, eval e X.env)]) :
    PI X (.Tuple elts kk tpos) (.Call (.Name "enumerate" p) [e] [] pos) (iEnT X.K ta) := by
  refine ⟨fun pins s σ H R I h => ?_⟩
  refine Call_ (ld_blt I hg hm boot_enumerate (PyProof.Rows.callWith_type1 (thn (ha.run pos pins s σ H _ I h) fun us s1 ⟨vs, H1, I1, r1, q1⟩ => ?_) hs rfl))
  obtain ⟨a, xs, ex, hq, q⟩ := q1
  subst ex
  cases r1 with
  | cons r rr =>
    cases rr
    cases r
    obtain ⟨its, rv, p', hz⟩ := I1.tuple hq
    have hlt := p'.lt
    refine en1_call (begins_tuple a its.toArray) p' fun h' he hit hk => wpAny_pyIter_enum he ?_
    have I2 : Inv X pins σ H1 { s1 with heap := h' } := I1.kept (t' := s1.toks) hk
    refine ⟨s1.heap.objs.size + 1, [s1.heap.objs.size + 1, s1.heap.objs.size], _, _, H1, rfl, I2, enT_turn a (s1.heap.objs.size + 1) s1.heap.objs.size, ⟨⟨.none, he⟩, ⟨_, hit, rfl, rfl⟩, Nat.succ_ne_self _, Nat.ne_of_lt hlt, Nat.ne_of_gt (Nat.lt_succ_of_lt hlt)⟩, fun b hb => ?_, q⟩
    have hle : s1.heap.objs.size ≤ b := by
      have e' : b = s1.heap.objs.size + 1 ∨ b = s1.heap.objs.size := by simpa using hb
      rcases e' with z | z
      · rw [z]; exact Nat.le_add_right _ _
      · rw [z]; exact Nat.le_refl _
    exact I1.fpOk hle (I1.hok.fresh hle)
/-- what enumerate yields -/
def enD (ds : List D) : List D := ds.zipIdx.map fun p => .tup [.int (p.2 : Nat), p.1]
theorem enD_get {ds : List D} {i : Nat} : (enD ds)[i]? = (ds[i]?).map fun d => .tup [.int (i : Nat), d] := by
  unfold enD
  rw [List.getElem?_map, List.getElem?_zipIdx]
  cases ds[i]? <;> simp
theorem enD_len {ds : List D} : (enD ds).length = ds.length := by simp [enD]
def iEn (m : Ev) : EvI := fun ρ g => match m ρ g with
  | .ok (.tup ds) g' => .ok (enD ds) g'
  | .ok (.lst ds) g' => .ok (enD ds) g'
  | .exc x g' => .exc x g'
  | _ => .bad
theorem it_enT (T : Wd) (a : Addr) (ds : List D) : ItOk T (IteT T.K a) (enD ds) (fun ι bar H => RelDs T ι bar H [.tup ds] [.ref a]) := by
  have key : ∀ ι bar H, RelDs T ι bar H [.tup ds] [.ref a] → ∃ vs, SqT T.K H a vs ∧ RelDs T ι bar H ds vs := fun ι bar H h => by
    obtain ⟨v, r, e, h1, _⟩ := h.uncons
    cases e
    simp only [RelD] at h1
    obtain ⟨b, vs, e, q, rs⟩ := h1
    cases e
    exact ⟨vs, q, rs⟩
  refine ⟨fun ι bar H i k hl => ?_, fun ι bar H i d k e => ?_, fun ι bar H i d x H' hi k e y => ?_⟩
  · obtain ⟨vs, q, rs⟩ := key _ _ _ k
    rw [enD_len] at hl
    exact ⟨vs, q, by rw [rs.length]; exact hl⟩
  · obtain ⟨vs, q, rs⟩ := key _ _ _ k
    rw [enD_get] at e
    obtain ⟨d0, e0, _⟩ := Option.map_eq_some_iff.mp e
    obtain ⟨v, e1, _⟩ := rs.get e0
    exact ⟨vs, v, q, e1⟩
  · skip
    obtain ⟨vs, q, rs⟩ := key _ _ _ k
    rw [enD_get] at e
    obtain ⟨d0, e0, rfl⟩ := Option.map_eq_some_iff.mp e
    obtain ⟨v, e1, r1⟩ := rs.get e0
    obtain ⟨p, u, rfl, np, rfl, y⟩ := y
    have := y vs q
    rw [e1] at this; cases this
    exact ⟨same_upd np, RelD.newTup hi np (.cons (RelD.ofInt _) (.cons r1 .nil))⟩
end Z
namespace Z
open PySem PySem.Spec PyProof.Rows L2 LamX
set_option autoImplicit false
section
variable {T : Wd} {W : WX} {X : Cx} {e : Expr} {m : Ev} {elts : List Expr} {kk : Nat} {tpos p pos : Pos}
theorem ei_en (ok : Ok T X) (hg : Gl X "enumerate") (hm : X.mg "enumerate" = none) (he : EE T W X e m) (hs : starEach [e] X.env = [(false, eval e X.env)] := by rfl) (hs2 : starEach [e] X.env = (false, eval e X.env) :: starEach [] X.env := by rfl) : EI T W X (.Tuple elts kk tpos) (.Call (.Name "enumerate" p) [e] [] pos) (iEn m) := by
  refine ⟨fun pins s σ H R I q => ?_⟩
  obtain ⟨γ, ρ, g, S, pp⟩ := q
  unfold iEn at pp
  cases hmm : m ρ g with
  | bad => rw [hmm] at pp; exact pp.elim
  | exc x g' =>
    rw [hmm] at pp
    refine (pi_enT hg hm (pa_cons he pa_nil hs2) hs).run pins s σ H R I ⟨γ, ρ, g, S, ?_⟩
    rw [hmm]
    exact pp
  | ok d g' =>
    rw [hmm] at pp
    cases d with
    | tup ds =>
      refine (pi_enT hg hm (pa_cons he pa_nil hs2) hs).run pins s σ H R I ⟨γ, ρ, g, S, ?_⟩
      rw [hmm]
      intro v ι' H' s1 G1 r1
      obtain ⟨a, vs, rfl, sq, rs⟩ : ∃ a vs, v = .ref a ∧ SqT T.K H' a vs ∧ RelDs T ι' (γ.to ι').bar H' ds vs := by simpa only [RelD] using r1
      refine ⟨a, vs, rfl, ok.K ▸ sq, ?_⟩
      rw [ok.K]
      exact pp _ _ _ _ ⟨[.tup ds], [.ref a], fun _ _ _ => Iff.rfl⟩ (it_enT T a ds) s1 G1 (.cons r1 .nil)
    | lst ds =>
      refine (pi_enum hg hm (pa_cons he pa_nil hs2) hs).run pins s σ H R I ⟨γ, ρ, g, S, ?_⟩
      rw [hmm]
      intro v ι' H' s1 G1 r1
      obtain ⟨a, vs, rfl, sq, nb, rs⟩ : ∃ a vs, v = .ref a ∧ Rd H' a (.lst vs) ∧ ¬ (γ.to ι').bar a ∧ RelDs T ι' (γ.to ι').bar H' ds vs := by simpa only [RelD] using r1
      refine ⟨a, vs, rfl, .inl sq, ?_⟩
      rw [ok.K]
      refine pp _ _ _ _ ⟨[.lst ds], [.ref a], fun _ _ _ => Iff.rfl⟩ ⟨fun ι bar H i k hl => ?_, fun ι bar H i d k e => ?_, fun ι bar H i d x H' hi k e y => ?_⟩ s1 G1 (.cons r1 .nil)
      · obtain ⟨vs, q, rs⟩ := lst_key _ _ _ k
        rw [enD_len] at hl
        exact ⟨vs, .inl q, by rw [rs.length]; exact hl⟩
      · obtain ⟨vs, q, rs⟩ := lst_key _ _ _ k
        rw [enD_get] at e
        obtain ⟨d0, e0, _⟩ := Option.map_eq_some_iff.mp e
        obtain ⟨v, e1, _⟩ := rs.get e0
        exact ⟨vs, v, .inl q, e1⟩
      · obtain ⟨vs, q, rs⟩ := lst_key _ _ _ k
        rw [enD_get] at e
        obtain ⟨d0, e0, rfl⟩ := Option.map_eq_some_iff.mp e
        obtain ⟨v, e1, r1⟩ := rs.get e0
        obtain ⟨p, u, rfl, np, rfl, y⟩ := y
        have := y vs (.inl q)
        rw [e1] at this; cases this
        exact ⟨same_upd np, RelD.newTup hi np (.cons (RelD.ofInt _) (.cons r1 .nil))⟩
    | _ => exact pp.elim
end
end Z
namespace Z
open PySem PySem.Spec PyProof.Rows L2 LamX
set_option autoImplicit false
def isO2 (d e : D) : Option D := match e with
  | .bl b => (match d with
    | .bl a => some (.bl (decide (a = b)))
    | _ => none)
  | e => isO d e
theorem od_is2 {T : Wd} {X : Cx} : OpD T X (compareOp .Is) isO2 := by
  intro pins s σ H x y v u Q I rx ry ⟨ι, bar, d, e, r, hb, hi, rd, re, hk, q⟩
  unfold isO2 at hk
  split at hk
  · split at hk
    · cases hk
      have ex := rd.bl
      have ey := re.bl
      exact op_is_bl pins s σ H x y v u Q I rx ry ⟨_, _, ex, ey, q _ _ (Same.refl H) (RelD.ofBl _)⟩
    · cases hk
  · exact od_is pins s σ H x y v u Q I rx ry ⟨ι, bar, d, _, r, hb, hi, rd, re, hk, q⟩
def isNotO2 (d e : D) : Option D := match e with
  | .bl b => (match d with
    | .bl a => some (.bl (!decide (a = b)))
    | _ => none)
  | e => isNotO d e
theorem od_isNot2 {T : Wd} {X : Cx} : OpD T X (compareOp .IsNot) isNotO2 := by
  intro pins s σ H x y v u Q I rx ry ⟨ι, bar, d, e, r, hb, hi, rd, re, hk, q⟩
  unfold isNotO2 at hk
  split at hk
  · split at hk
    · cases hk
      have ex := rd.bl
      have ey := re.bl
      exact op_isnot_bl pins s σ H x y v u Q I rx ry ⟨_, _, ex, ey, q _ _ (Same.refl H) (RelD.ofBl _)⟩
    · cases hk
  · exact od_isNot pins s σ H x y v u Q I rx ry ⟨ι, bar, d, _, r, hb, hi, rd, re, hk, q⟩
end Z
namespace Z
open PySem PySem.Spec PyProof.Rows L2 LamX
set_option autoImplicit false
def strsD : List D → Option (List Str)
  | [] => some []
  | .str x :: ds => (match strsD ds with
    | some ys => some (x :: ys)
    | none => none)
  | _ => none
theorem strsD_vs {T : Wd} {ι : List Addr} {bar : Addr → Prop} {H : Hp} : ∀ {ds : List D} {ys : List Str} {vs : List V}, strsD ds = some ys → RelDs T ι bar H ds vs → vs = ys.map V.str
  | [], ys, vs, h, r => by cases h; cases r; rfl
  | d :: ds, ys, vs, h, r => by
    obtain ⟨v, us, rfl, r1, r2⟩ := r.uncons
    cases d with
    | str x =>
      unfold strsD at h
      cases q : strsD ds with
      | none => rw [q] at h; cases h
      | some zs =>
        rw [q] at h
        cases h
        have r1 : v = .str x := by simpa only [RelD] using r1
        rw [r1, strsD_vs q r2]
        rfl
    | _ => cases h
def joinOk (a : Str) (ys : List Str) : Bool := decide ((ys.map (·.length)).sum + ys.length * a.length ≤ 16777216)
def joinF (d : D) (es : List D) : Option D := match d, es with
  | .str a, [.lst ds] => (match strsD ds with
    | some ys => if joinOk a ys then some (.str (Txt.join a ys)) else none
    | none => none)
  | .str a, [.tup ds] => (match strsD ds with
    | some ys => if joinOk a ys then some (.str (Txt.join a ys)) else none
    | none => none)
  | _, _ => none
section
variable {T : Wd} {W : WX} {X : Cx} {o e : Expr} {mo : Ev} {ma : EvL} {apos cpos : Pos}
theorem mt_joinD (ok : Ok T X) : MtR X "str.join" (rM T joinF) := by
  intro pins s σ H x xs v us Q I rx rxs ⟨ι, bar, d, es, r, hb, hi, rd, re, hk, q⟩
  have go : ∀ a ds ys p vs, d = .str a → strsD ds = some ys → joinOk a ys = true → r = .str (Txt.join a ys) → xs = [.ref p] → RelDs T ι bar H ds vs → (SqL X.K H p vs ∨ SqT X.K H p vs) →
      wpAny (model X.prog X.w) X.A (call (.builtin "str.join") (v :: us)) (EP X pins σ Q) X.xe s := by
    intro a ds ys p vs e1 e2 e3 e4 e5 rr hp
    subst e1
    refine mt_join pins s σ H x xs v us Q I rx rxs ⟨a, p, ys, RelW.str rd, e5, ?_, of_decide_eq_true e3, q _ _ (Same.refl H) (by subst e4; simp only [RelD])⟩
    rw [strsD_vs e2 rr] at hp
    exact hp
  unfold joinF at hk
  split at hk
  · rename_i a ds
    obtain ⟨x1, xs1, rfl, re1, re2⟩ := re.uncons
    cases re2
    split at hk
    · rename_i ys hy
      split at hk
      · rename_i hj
        cases hk
        obtain ⟨p, vs, rfl, hr, _, rs⟩ : ∃ p vs, x1 = .ref p ∧ Rd H p (.lst vs) ∧ ¬ bar p ∧ RelDs T ι bar H ds vs := by simpa only [RelD] using re1
        exact go a ds ys p vs rfl hy hj rfl rfl rs (.inl (.inl hr))
      · cases hk
    · cases hk
  · rename_i a ds
    obtain ⟨x1, xs1, rfl, re1, re2⟩ := re.uncons
    cases re2
    split at hk
    · rename_i ys hy
      split at hk
      · rename_i hj
        cases hk
        obtain ⟨p, vs, rfl, hr, rs⟩ : ∃ p vs, x1 = .ref p ∧ SqT T.K H p vs ∧ RelDs T ι bar H ds vs := by simpa only [RelD] using re1
        exact go a ds ys p vs rfl hy hj rfl rfl rs (.inr (ok.K ▸ hr))
      · cases hk
    · cases hk
  · cases hk
theorem ee_join (ok : Ok T X) (ho : EW T W X o mo) (ha : EAs T W X [e] ma)
    (hbase : attributeBase o "join" X.env (eval o X.env) = eval o X.env := by rfl)
    (hfew : ((backTo cpos (starEach [e] X.env)).all (fun x => !x.1) && (backToKw cpos (keywordEach [] X.env)).all (fun x => x.1.isSome)
      && decide (([e] : List Expr).length + ([] : List Keyword).length + (if ([] : List Keyword).isEmpty then 0 else 1) < 30)) = true := by rfl)
    (hline : (apos.endLine == cpos.line) = true := by rfl) (hs : starEach [e] X.env = (false, eval e X.env) :: starEach [] X.env := by rfl) (hplain : (backTo cpos (starEach [] X.env)).any (·.1) = false := by rfl) :
    EE T W X (.Call (.Attribute o "join" apos) [e] [] cpos) (mMt isStr joinF mo ma) := ee_mt kd_S ty_S PySem.F.plainAttrs_str PySem.F.slot_str_join PySem.F.type_str_join (mt_joinD ok) ho ha hbase hfew hline hs hplain
end
end Z
namespace Z
open PySem PySem.Spec PyProof.Rows L2 LamX
set_option autoImplicit false
abbrev LV := Leaf × Value
def putV (acc : List LV) (p : LV) : List LV := if p.1 ∈ acc.map (·.1) then acc else acc ++ [p]
theorem putV_in {acc : List LV} {p : LV} (h : p.1 ∈ acc.map (·.1)) : putV acc p = acc := if_pos h
theorem putV_out {acc : List LV} {p : LV} (h : p.1 ∉ acc.map (·.1)) : putV acc p = acc ++ [p] := if_neg h
section
variable {P : Program} {w : World} {A : Around} {E : Value → Shared → Prop} {st : Shared} {a : Addr} {L : List LV}
abbrev rowV (P : Program) (w : World) (p : LV) : Int × Value := ((leafKind P w).hash p.1, p.2)
theorem LfS.keep {h h' : Heap} (R : LfS P w h a L) (k : ∀ o, h.get? a = some o → h'.get? a = some o) : LfS P w h' a L := ⟨let ⟨o, es, ep, t, e, r⟩ := R.ob; ⟨o, es, ep, t, k o e, r⟩, R.good, R.nd, R.few⟩
theorem rowsV_good (g : ∀ p ∈ L, (leafKind P w).is p.1 p.2 = true ∧ p.2.scannable = true) : ElemsOf (leafKind P w) (L.map (rowV P w)) := fun e he => by
  obtain ⟨p, hp, rfl⟩ := List.mem_map.mp he
  exact ⟨⟨p.1, (g p hp).1, rfl⟩, (g p hp).2⟩
theorem find_row (g : ∀ p ∈ L, (leafKind P w).is p.1 p.2 = true ∧ p.2.scannable = true) (k : Leaf) : k ∈ L.map (·.1) ↔ ∃ e ∈ L.map (rowV P w), (leafKind P w).is k e.2 = true := by
  constructor
  · intro h
    obtain ⟨p, hp, rfl⟩ := List.mem_map.mp h
    exact ⟨rowV P w p, List.mem_map.mpr ⟨p, hp, rfl⟩, (g p hp).1⟩
  · rintro ⟨e, he, q⟩
    obtain ⟨p, hp, rfl⟩ := List.mem_map.mp he
    exact List.mem_map.mpr ⟨p, hp, (leafKind P w).inj _ _ _ (g p hp).1 q⟩
/-- rows, rearranged -/
theorem rows_perm {rs : List (Int × Value)} (pm : rs.Perm (L.map (rowV P w))) : ∃ L' : List LV, L'.Perm L ∧ rs = L'.map (rowV P w) := by
  have go : ∀ {xs ys : List (Int × Value)}, xs.Perm ys → ∀ M : List LV, ys = M.map (rowV P w) → ∃ M' : List LV, M'.Perm M ∧ xs = M'.map (rowV P w) := by
    intro xs ys h
    induction h with
    | nil => intro M e; exact ⟨M, .refl _, e⟩
    | cons x _ ih =>
      intro M e
      cases M with
      | nil => cases e
      | cons m M =>
        simp only [List.map_cons, List.cons.injEq] at e
        obtain ⟨M', q, e2⟩ := ih M e.2
        exact ⟨m :: M', q.cons m, by rw [List.map_cons, ← e.1, ← e2]⟩
    | swap x y l =>
      intro M e
      cases M with
      | nil => cases e
      | cons m M =>
        cases M with
        | nil => cases e
        | cons n M =>
          simp only [List.map_cons, List.cons.injEq] at e
          exact ⟨n :: m :: M, .swap m n M, by rw [List.map_cons, List.map_cons, ← e.1, ← e.2.1, ← e.2.2]⟩
    | trans _ _ ih1 ih2 =>
      intro M e
      obtain ⟨M1, q1, e1⟩ := ih2 M e
      obtain ⟨M2, q2, e2⟩ := ih1 M1 e1
      exact ⟨M2, q2.trans q1, e2⟩
  exact go pm L rfl
theorem addV_tail {gv : Bool → Sem Unit} (hgv : ∀ (b : Bool) (s1 : Shared) (Q1 : Unit → Shared → Prop), Q1 () s1 → wpAny (model P w) A (gv b) Q1 E s1)
    {ob : Obj} {es : Array (Int × Value)} {ep : Nat} {tb : SetTable} (hob : st.heap.get? a = some ob) (hx : ob.ExactSet) (hdt : ob.data = .set es ep tb)
    {es1 : Array (Int × Value)} {tb2 : SetTable} {L1 : List LV} (e1 : es1.toList = L1.map (rowV P w)) (g1 : ∀ p ∈ L1, (leafKind P w).is p.1 p.2 = true ∧ p.2.scannable = true) (nd1 : (L1.map (·.1)).Nodup)
    (few : L1.length < scanBound) (ft : tb2.fits es1.size = true) (rs : Ris tb2.place.toList) (ld : w.params.followText "set-order" = true ∨ tb2.led = true) {wasD : Bool} {R : Option Bool → Shared → Prop}
    (q : ∀ h' L', Heap.SameBut a st.heap h' → LfS P w h' a L' → L'.Perm L1 → R (some true) { st with heap := h' }) :
    wpAny (model P w) A (do
        storeSet a es1 tb2
        if (!wasD && tb2.tooFull) = true then do
            gv (relayAll tb2 es1 (SetTable.grown es1.size)).2.2
            storeSet a (relayAll tb2 es1 (SetTable.grown es1.size)).1 (relayAll tb2 es1 (SetTable.grown es1.size)).2.1
            pure (some true)
          else pure (some true)) R E st := by
  have sz1 : es1.size = L1.length := by rw [← Array.length_toList, e1, List.length_map]
  refine wpAny_bind (wpAny_storeSet_of hob hdt ?_ (fits_of_scanBound (by rw [sz1]; exact few)))
  have hob1 := store_at (es' := es1) (t' := tb2) hob hdt
  have sb1 := Heap.SameBut.update st.heap a (Obj.putSet es1 tb2)
  split
  · have pm := relayAll_perm tb2 es1 (SetTable.grown es1.size); have ft3 := relayAll_fits tb2 es1 (SetTable.grown es1.size)
    have rs3 := relayAll_ris tb2 es1 (SetTable.grown es1.size); have ld3 := relayAll_led tb2 es1 (SetTable.grown es1.size)
    generalize relayAll tb2 es1 (SetTable.grown es1.size) = Zr at pm ft3 rs3 ld3 ⊢
    obtain ⟨es2, tb3, gave⟩ := Zr
    dsimp only at pm ft3 rs3 ld3 ⊢
    rw [e1] at pm
    obtain ⟨L2, pL, e2⟩ := rows_perm pm
    have sz2 : es2.size = L1.length := by rw [← Array.length_toList, e2, List.length_map, pL.length_eq]
    refine wpAny_bind (hgv _ _ _ ?_)
    refine wpAny_bind (wpAny_storeSet_of hob1 rfl ?_ (fits_of_scanBound (by rw [sz2]; exact few)))
    have hob2 := store_at (es' := es2) (t' := tb3) hob1 rfl
    refine wpAny_pure (q _ L2 (sb1.trans (Heap.SameBut.update _ a _)) ⟨⟨_, es2, _, tb3, hob2, hx, rfl, e2, ft3, rs3, ld.imp id fun z => by rw [ld3]; exact z⟩, fun p hp => g1 p (pL.mem_iff.mp hp), (pL.map (·.1)).nodup_iff.mpr nd1, by rw [pL.length_eq]; exact few⟩ pL)
  · exact wpAny_pure (q _ L1 sb1 ⟨⟨_, es1, _, tb2, hob1, hx, rfl, e1, ft, rs, ld⟩, g1, nd1, few⟩ (.refl _))
theorem addV {k : Leaf} {v : Value} {Q : Bool → Shared → Prop} (R : LfS P w st.heap a L) (hk : (leafKind P w).is k v = true) (hs : v.scannable = true) (room : L.length + 1 < scanBound)
    (q : ∀ b h' L', Heap.SameBut a st.heap h' → LfS P w h' a L' → L'.Perm (putV L (k, v)) → Q b { st with heap := h' }) :
    wpAny (model P w) A (setAddHashed a v ((leafKind P w).hash k)) Q E st := by
  obtain ⟨ob, es, ep, tb, hob, hx, hdt, ers, ft, rs, ld⟩ := R.ob
  have g := R.good
  have sz : es.size = L.length := by rw [← Array.length_toList, ers, List.length_map]
  have hb : es.size < scanBound := by rw [sz]; exact R.few
  have hel : ElemsOf (leafKind P w) es.toList := by rw [ers]; exact rowsV_good g
  unfold setAddHashed setAddHashedIn
  refine wpAny_holding (wpAny_bind (wpAny_setState_of hob hdt ft ?_))
  dsimp only
  rw [byScan_of hs hb hel]
  simp only [↓reduceIte]
  unfold setAddByScan
  refine wpAny_bind (wpAny_bind (wpAny_rule (wpAny_bind (wpAny_setScan_of hk hob hdt ft hel ?_))))
  cases hfi : List.findIdx? (fun e => (leafKind P w).is k e.2) es.toList with
  | some j =>
    dsimp only
    obtain ⟨hj, pj, _⟩ := List.findIdx?_eq_some_iff_getElem.mp hfi
    have hin : k ∈ L.map (·.1) := (find_row (P := P) (w := w) g k).2 ⟨es.toList[j], by rw [← ers]; exact List.getElem_mem hj, pj⟩
    refine wpAny_pure (wpAny_pure ?_)
    exact q _ st.heap L (Heap.SameBut.refl a st.heap) R (by unfold putV; rw [if_pos hin])
  | none =>
    dsimp only
    have hnk : k ∉ L.map (·.1) := fun z => by
      obtain ⟨e, he, qq⟩ := (find_row (P := P) (w := w) g k).1 z
      have c := List.findIdx?_eq_none_iff.mp hfi e (by rw [ers]; exact he)
      rw [qq] at c
      cases c
    have hgw : ∀ (b : Bool) {s1 : Shared} {Q1 : Unit → Shared → Prop}, Q1 () s1 → wpAny (model P w) A (match b with | true => rule "set.scan.the-table-gave-way" | false => pure ()) Q1 E s1 :=
      fun b s1 Q1 qq => by cases b <;> first | exact wpAny_pure qq | exact wpAny_rule qq
    have pm := layNew_perm tb es ((leafKind P w).hash k) v; have ft1 := layNew_fits tb es ((leafKind P w).hash k) v
    have rs1 := layNew_ris tb es ((leafKind P w).hash k) v rs; have ld1 := layNew_led tb es ((leafKind P w).hash k) v
    generalize layNew tb es ((leafKind P w).hash k) v = Zr at pm ft1 rs1 ld1 ⊢
    obtain ⟨es1, tb1, wasD, gave⟩ := Zr
    dsimp only at pm ft1 rs1 ld1 ⊢
    rw [Array.toList_push, ers] at pm
    have pm2 : es1.toList.Perm ((L ++ [(k, v)]).map (rowV P w)) := by rw [List.map_append]; exact pm
    obtain ⟨L1, pL, e1⟩ := rows_perm pm2
    have g1 : ∀ p ∈ L1, (leafKind P w).is p.1 p.2 = true ∧ p.2.scannable = true := fun p hp => by
      rcases List.mem_append.mp (pL.mem_iff.mp hp) with z | z
      · exact g p z
      · rw [List.mem_singleton.mp z]; exact ⟨hk, hs⟩
    have nd1 : (L1.map (·.1)).Nodup := by
      refine (pL.map (·.1)).nodup_iff.mpr ?_
      rw [List.map_append, List.nodup_append]
      refine ⟨R.nd, by simp, fun x hx1 y hy => ?_⟩
      simp only [List.map_cons, List.map_nil, List.mem_singleton] at hy
      rw [hy]
      exact fun z => hnk (z ▸ hx1)
    have few1 : L1.length < scanBound := by rw [pL.length_eq, List.length_append]; exact room
    have led1 : w.params.followText "set-order" = true ∨ tb1.led = true := ld.imp id fun z => by rw [ld1]; exact z
    have fin : ∀ h' L', Heap.SameBut a st.heap h' → LfS P w h' a L' → L'.Perm L1 → Q true { st with heap := h' } := fun h' L' sb r pr => q _ h' L' sb r (by unfold putV; rw [if_neg hnk]; exact pr.trans pL)
    refine wpAny_bind (hgw _ ?_)
    split
    · refine wpAny_bind ?_
      rw [hashByValue_scannable 8 hs]
      refine wpAny_pure ?_
      refine addV_tail ?_ hob hx hdt e1 g1 nd1 few1 ?_ ?_ ?_ ?_
      · intro b s1 Q1 qq; cases b <;> first | exact wpAny_pure qq | exact wpAny_rule qq
      · first | (split <;> first | exact ft1 | exact SetTable.fits_plain_off ft1) | exact ft1
      · first | (split <;> exact rs1) | exact rs1
      · first | (split <;> exact led1) | exact led1
      · intro h' L' sb r pr; dsimp only; exact wpAny_pure (fin h' L' sb r pr)
    · refine wpAny_bind (wpAny_pure ?_)
      simp only [↓reduceIte]
      refine addV_tail ?_ hob hx hdt e1 g1 nd1 few1 ft1 rs1 led1 ?_
      · intro b s1 Q1 qq; cases b <;> first | exact wpAny_pure qq | exact wpAny_rule qq
      · intro h' L' sb r pr; dsimp only; exact wpAny_pure (fin h' L' sb r pr)
end
end Z
namespace Z
open PySem PySem.Spec PyProof.Rows L2 LamX
set_option autoImplicit false
def lE : Leaf → Leaf → Bool
  | .none, .none => true
  | .num i, .num j => i == j
  | .text x, .text y => sEq x y
  | _, _ => false
theorem lE_iff (a b : Leaf) : lE a b = true ↔ a = b := by
  cases a <;> cases b <;> simp [lE, sEq_eq]
def hasL (acc : List D) (l : Leaf) : Bool := acc.any fun e => match lf e with
  | some m => lE m l
  | none => false
def putF (acc : List D) (d : D) : List D := match lf d with
  | some l => if hasL acc l then acc else acc ++ [d]
  | none => acc
theorem lfs_cons {d : D} {ds : List D} {ls : List Leaf} (h : lfs (d :: ds) = some ls) : ∃ l m, lf d = some l ∧ lfs ds = some m ∧ ls = l :: m := by
  unfold lfs at h
  split at h
  · cases h; exact ⟨_, _, by assumption, by assumption, rfl⟩
  · cases h
theorem lfs_app : ∀ {ds es : List D} {ls ms : List Leaf}, lfs ds = some ls → lfs es = some ms → lfs (ds ++ es) = some (ls ++ ms)
  | [], es, ls, ms, h, h2 => by cases h; exact h2
  | d :: ds, es, ls, ms, h, h2 => by
    obtain ⟨l, m, e1, e2, rfl⟩ := lfs_cons h
    have ih := lfs_app e2 h2
    show lfs (d :: (ds ++ es)) = _
    unfold lfs
    rw [e1, ih]
    rfl
theorem lfs_len : ∀ {ds : List D} {ls : List Leaf}, lfs ds = some ls → ls.length = ds.length
  | [], ls, h => by cases h; rfl
  | d :: ds, ls, h => by
    obtain ⟨l, m, e1, e2, rfl⟩ := lfs_cons h
    simp [lfs_len e2]
theorem hasL_iff : ∀ {ds : List D} {ls : List Leaf} (l : Leaf), lfs ds = some ls → (hasL ds l = true ↔ l ∈ ls)
  | [], ls, l, h => by cases h; simp [hasL]
  | d :: ds, ls, l, h => by
    obtain ⟨a, m, e1, e2, rfl⟩ := lfs_cons h
    have ih := hasL_iff l e2
    unfold hasL at ih ⊢
    rw [List.any_cons, Bool.or_eq_true, ih, e1]
    simp only [lE_iff, List.mem_cons]
    constructor
    · rintro (h | h)
      · exact .inl h.symm
      · exact .inr h
    · rintro (h | h)
      · exact .inl h.symm
      · exact .inr h
theorem leaf_is {P : Program} {w : World} {T : Wd} {ι : List Addr} {bar : Addr → Prop} {H : Hp} {d : D} {v : V} {u : Value} {l : Leaf} (h : lf d = some l) (r : RelD T ι bar H d v) (ru : L2.RelV v u) : (leafKind P w).is l u = true ∧ u.scannable = true := by
  cases d with
  | non => cases h; have r : v = .non := by simpa only [RelD] using r
           subst r; cases ru; exact ⟨rfl, rfl⟩
  | bl b =>
    cases h
    have r : v = .bl b := by simpa only [RelD] using r
    subst r; cases ru; cases b <;> exact ⟨rfl, rfl⟩
  | int i =>
    cases h
    have r : v = .int i := by simpa only [RelD] using r
    subst r
    obtain ⟨t, rfl⟩ := ru
    exact ⟨decide_eq_true rfl, rfl⟩
  | str x =>
    cases h
    have r : v = .str x := by simpa only [RelD] using r
    subst r
    obtain ⟨t, rfl⟩ := ru
    exact ⟨by show (x == x) = true; simp, rfl⟩
  | _ => cases h
theorem Vals.app {vs ws : List V} {us zs : List Value} (r : Vals vs us) (q : Vals ws zs) : Vals (vs ++ ws) (us ++ zs) := by
  induction r with
  | nil => exact q
  | cons a _ ih => exact .cons a ih
theorem fst_zipL {α β : Type} : ∀ {xs : List α} {ys : List β}, xs.length = ys.length → (xs.zip ys).map (·.1) = xs
  | [], _, _ => by simp
  | x :: xs, [], h => by simp at h
  | x :: xs, y :: ys, h => by simp [fst_zipL (xs := xs) (ys := ys) (by simpa using h)]
end Z
namespace Z
open PySem PySem.Spec PyProof.Rows L2 LamX
set_option autoImplicit false
section
variable {T : Wd} {W : WX} {X : Cx}
theorem setF_new {P : Program} {w : World} {H : Hp} {h : Heap} {a : Addr} {ls : List Leaf} {us : List V} (r : SetF P w a ls us h) : ObjOk P w H h a (.ext (SetF P w a ls us)) := by
  obtain ⟨L, zs, vz, pm, R⟩ := r
  refine ⟨⟨L, zs, vz, pm, R⟩, let ⟨q, _, _, _, e, _⟩ := R.ob; ⟨q, e⟩, fun h1 h2 z kk => ?_⟩
  obtain ⟨L2, z2, y1, y2, y3⟩ := z
  exact ⟨L2, z2, y1, y2, y3.keep kk⟩
end
end Z
namespace Z
open PySem PySem.Spec PyProof.Rows L2 LamX
set_option autoImplicit false
def Res.Ok {α : Type} (r : Res α) (P : α → G → Prop) : Prop := match r with
  | .ok a g => P a g
  | _ => False
def SR.Ok (r : SR) (N : Env → G → Prop) (R : D → G → Prop) : Prop := match r with
  | .nx ρ g => N ρ g
  | .rt d g => R d g
  | _ => False
section
variable {α β : Type}
theorem Res.Ok.mono {r : Res α} {P Q : α → G → Prop} (h : r.Ok P) (i : ∀ a g, P a g → Q a g) : r.Ok Q := by
  cases r with
  | ok a g => exact i a g h
  | _ => exact h.elim
theorem Res.Ok.ex {r : Res α} {P : α → G → Prop} (h : r.Ok P) : ∃ a g, r = .ok a g ∧ P a g := by
  cases r with
  | ok a g => exact ⟨a, g, rfl, h⟩
  | _ => exact h.elim
theorem Res.Ok.of {r : Res α} {P : α → G → Prop} {a : α} {g : G} (e : r = .ok a g) (h : P a g) : r.Ok P := by subst e; exact h
theorem SR.Ok.mono {r : SR} {N N' : Env → G → Prop} {R R' : D → G → Prop} (h : r.Ok N R) (i : ∀ ρ g, N ρ g → N' ρ g) (j : ∀ d g, R d g → R' d g) : r.Ok N' R' := by
  cases r with
  | nx ρ g => exact i ρ g h
  | rt d g => exact j d g h
  | _ => exact h.elim
theorem bind_ok (r : Res α) (f : α → G → Res β) (P : β → G → Prop) : (r.bind f).Ok P ↔ r.Ok fun a g => (f a g).Ok P := by cases r <;> exact Iff.rfl
end
end Z
namespace Z
open PySem PySem.Spec PyProof.Rows L2 LamX
set_option autoImplicit false
mutual
def wtP : PyData → Nat
  | .none => 4
  | .bool _ => 5
  | .int i => if i.natAbs < 1000 then 4 else 1921
  | .str x => 10 * x.length + 2
  | .list xs => wtPs xs + 2
  | .tuple xs => wtPs xs + 4
  | .dict _ => 0
def wtPs : List PyData → Nat
  | [] => 0
  | x :: xs => wtP x + 2 + wtPs xs
end
mutual
def gdP : PyData → Bool
  | .none => true
  | .bool _ => true
  | .int i => decide (i.natAbs.log2 < 1920)
  | .str x => x.cps.toList.all fun c => decide (c < 16 ^ 8)
  | .list xs => gdPs xs
  | .tuple xs => gdPs xs
  | .dict _ => false
def gdPs : List PyData → Bool
  | [] => true
  | x :: xs => gdP x && gdPs xs
end
/-- pure data, of a length and a depth -/
structure Fit (n k : Nat) (d : D) : Prop where
  p : isD d = true
  g : gdP (py d) = true
  w : wtP (py d) ≤ n
  z : (py d).depth ≤ k
theorem Fit.mono {n k n' k' : Nat} {d : D} (h : Fit n k d) (a : n ≤ n') (b : k ≤ k') : Fit n' k' d := ⟨h.p, h.g, Nat.le_trans h.w a, Nat.le_trans h.z b⟩
theorem Fits.all {n k : Nat} : ∀ {ds : List D}, (∀ d ∈ ds, Fit n k d) → isDs ds = true ∧ gdPs (pys ds) = true ∧ wtPs (pys ds) ≤ ds.length * (n + 2) ∧ PyData.depthAll (pys ds) ≤ k
  | [], _ => by simp [isDs, pys, gdPs, wtPs, PyData.depthAll]
  | d :: ds, h => by
    obtain ⟨a, b, c, e⟩ := Fits.all (ds := ds) fun x hx => h x (List.mem_cons_of_mem _ hx)
    have f := h d List.mem_cons_self
    have := f.w
    have := f.z
    refine ⟨by simp [isDs, f.p, a], by simp [pys, gdPs, f.g, b], ?_, ?_⟩
    · simp only [pys, wtPs, List.length_cons, Nat.add_mul]; omega
    · simp only [pys, PyData.depthAll]; omega
theorem Fit.tup {n k : Nat} {ds : List D} (h : ∀ d ∈ ds, Fit n k d) {m : Nat} (hm : ds.length ≤ m) : Fit (m * (n + 2) + 4) (k + 1) (.tup ds) := by
  obtain ⟨a, b, c, e⟩ := Fits.all h
  have := Nat.mul_le_mul_right (n + 2) hm
  refine ⟨by simpa [isD] using a, by simpa [py, gdP] using b, ?_, ?_⟩
  · simp only [py, wtP]; omega
  · simp only [py, PyData.depth]; omega
theorem Fit.lst {n k : Nat} {ds : List D} (h : ∀ d ∈ ds, Fit n k d) {m : Nat} (hm : ds.length ≤ m) : Fit (m * (n + 2) + 2) (k + 1) (.lst ds) := by
  obtain ⟨a, b, c, e⟩ := Fits.all h
  have := Nat.mul_le_mul_right (n + 2) hm
  refine ⟨by simpa [isD] using a, by simpa [py, gdP] using b, ?_, ?_⟩
  · simp only [py, wtP]; omega
  · simp only [py, PyData.depth]; omega
theorem Fit.non : Fit 4 0 .non := ⟨rfl, rfl, Nat.le_refl _, Nat.le_refl _⟩
theorem Fit.bl (b : Bool) : Fit 5 0 (.bl b) := ⟨rfl, rfl, Nat.le_refl _, Nat.le_refl _⟩
theorem Fit.int {i : Int} (h : i.natAbs < 2 ^ 1000) : Fit 1921 0 (.int i) := by
  refine ⟨rfl, ?_, by show (if i.natAbs < 1000 then 4 else 1921) ≤ 1921; split <;> omega, Nat.le_refl _⟩
  show decide (i.natAbs.log2 < 1920) = true
  refine decide_eq_true ?_
  by_cases z : i.natAbs = 0
  · rw [z]; decide
  · exact Nat.lt_of_lt_of_le ((Nat.log2_lt z).mpr h) (by decide)
end Z
namespace Z
open PySem PySem.Spec PyProof.Rows L2 LamX
set_option autoImplicit false
def repD (n : Nat) (ds : List D) : List D := (List.replicate n ds).flatten
theorem repD_rel {T : Wd} {ι : List Addr} {bar : Addr → Prop} {H : Hp} {ds : List D} {vs : List V} (r : RelDs T ι bar H ds vs) : ∀ n : Nat, RelDs T ι bar H (repD n ds) (List.replicate n vs).flatten
  | 0 => .nil
  | n + 1 => by
    show RelDs T ι bar H ((List.replicate (n + 1) ds).flatten) _
    rw [List.replicate_succ, List.replicate_succ, List.flatten_cons, List.flatten_cons]
    exact r.append (repD_rel r n)
theorem rep_len {α : Type} (xs : List α) (n : Nat) : (List.replicate n xs).flatten.length = n * xs.length := by
  induction n with
  | zero => simp
  | succ n ih => rw [List.replicate_succ, List.flatten_cons, List.length_append, ih, Nat.add_mul]; omega
def mulO2 (d e : D) : Option D := match d, e with
  | .lst ds, .int k => if decide (0 ≤ k) && decide (k ≤ 1000) && decide (ds.length ≤ 1000) then some (.lst (repD k.toNat ds)) else none
  | .tup ds, .int k => if decide (2 ≤ k) && decide (k ≤ 1000) && decide (ds.length ≤ 1000) && !ds.isEmpty then some (.tup (repD k.toNat ds)) else none
  | d, e => mulO d e
section
variable {T : Wd} {X : Cx}
theorem rep_list {pins : List (Addr × Obj)} {σ : L2.St} {H : Hp} {s : Shared} {l : Addr} {k : Int} {xs : List V} {v u : Value} {Q : VK} (I : L2.Inv X pins σ H s) (rx : L2.RelV (.ref l) v) (ry : L2.RelV (.int k) u) (hH : Rd H l (.lst xs)) (h1 : 0 ≤ k) (h2 : k ≤ 1000) (hz : xs.length ≤ 1000)
    (q : ∀ p, H p = none → Q (.ref p) (upd H p (.lst (List.replicate k.toNat xs).flatten))) : wpAny (model X.prog X.w) X.A (binaryOp .Mult v u) (L2.EP X pins σ Q) X.xe s := by
  cases rx
  obtain ⟨t, rfl⟩ := ry
  obtain ⟨z, its, n, r, e⟩ := hH.ok I.hok
  have hl := r.length
  have hsz : xs.length * k.toNat ≤ sizeLine := by
    have a1 : xs.length * k.toNat ≤ 1000 * 1000 := Nat.mul_le_mul hz (by omega)
    rw [sizeLine_eq]
    omega
  have hlen : its.toArray.size * k.toNat ≤ sizeLine := by rw [List.size_toArray, ← hl]; exact hsz
  have hcap : ¬ its.toArray.size * k.toNat > (2 ^ 63 - 1) / 8 := by
    have : (sizeLine : Nat) ≤ (2 ^ 63 - 1) / 8 := by decide
    omega
  have hfit : ¬ (!Builtin.List.listFitsIndex k) = true := by
    rw [fitsIndex_both (by omega) (by omega)]
    exact Bool.false_ne_true
  have hlong : ¬ Builtin.List.listTooLong (its.toArray.size * k.toNat) = true := by
    rw [notLongL hlen]
    exact Bool.false_ne_true
  have new : List.foldl (fun p q => p ++ q) #[] (List.replicate (if its.toArray.isEmpty = true then 0 else k.toNat) its.toArray) = (List.replicate k.toNat its).flatten.toArray := by
    have f0 : ∀ m : Nat, List.foldl (fun p q => p ++ q) #[] (List.replicate m its.toArray) = (List.replicate m its).flatten.toArray := fun m => by
      have := foldl_rep its m []
      rw [List.nil_append] at this
      exact this
    rw [f0]
    cases its with
    | nil => simp
    | cons a r' => rw [if_neg (by simp)]
  refine wpAny_binaryOp_repeat_ref (T := "list") (U := "int") (by decide) ⟨_, e, rfl⟩ (fun s2 => typeIs_int s2 k t) noFill_list_mul PySem.F.fills_int_mul PySem.F.slot_int_rmul repeat_list PySem.F.slot_int_index.lookup
    (call_meets PySem.F.slot_int_rmul (typeIs_int s k t) PySem.F.entry_int_rmul (PySem.F.args_int_rmul_2 _ _) (int___rmul___int_list k t l its.toArray n)
      ⟨e, rfl, ⟨_, e, rfl⟩, call_meets PySem.F.slot_list_mul ⟨_, e, rfl⟩ PySem.F.entry_list_mul (PySem.F.args_list_mul_2 _ _) (AutoListH.list___mul___list_int_3 l its.toArray n k t hfit hcap hlong) ⟨e, ?_⟩⟩)
  rw [new]
  exact ⟨.ref _, _, I.lnew (t' := s.toks) (r.rep k.toNat) (by rw [rep_len, Nat.mul_comm]; exact hsz), rfl, q _ I.fresh⟩
theorem od_mul2 (ok : Ok T X) : OpD T X (binaryOp .Mult) mulO2 := by
  intro pins s σ H x y v u Q I rx ry ⟨ι, bar, d, e, r, hb, hi, rd, re, hk, q⟩
  by_cases c1 : ∃ ds k, d = .lst ds ∧ e = .int k
  · obtain ⟨ds, k, rfl, rfl⟩ := c1
    have hk : (if (decide (0 ≤ k) && decide (k ≤ 1000) && decide (ds.length ≤ 1000)) = true then some (D.lst (repD k.toNat ds)) else none) = some r := hk
    split at hk
    · rename_i hc
      cases hk
      simp only [Bool.and_eq_true, decide_eq_true_eq] at hc
      obtain ⟨a, vs, rfl, hr, rs⟩ := rd.lst
      obtain rfl := re.int
      refine rep_list I rx ry hr hc.1.1 hc.1.2 (by rw [rs.length]; exact hc.2) fun p hp => ?_
      exact q _ _ (same_upd hp) (RelD.newLst hb hi hp (repD_rel rs _))
    · cases hk
  · by_cases c2 : ∃ ds k, d = .tup ds ∧ e = .int k
    · obtain ⟨ds, k, rfl, rfl⟩ := c2
      have hk : (if (decide (2 ≤ k) && decide (k ≤ 1000) && decide (ds.length ≤ 1000) && !ds.isEmpty) = true then some (D.tup (repD k.toNat ds)) else none) = some r := hk
      split at hk
      · rename_i hc
        cases hk
        simp only [Bool.and_eq_true, decide_eq_true_eq, Bool.not_eq_true'] at hc
        obtain ⟨a, vs, rfl, h1, rs⟩ := rd.tup
        obtain rfl := re.int
        rw [← ok.K] at h1
        refine op_repT pins s σ H _ _ v u Q I rx ry ⟨a, k, vs, rfl, rfl, h1, fun z => ?_, hc.1.1.1, hc.1.1.2, by rw [rs.length]; exact hc.1.2, fun p hp => ?_⟩
        · have := rs.length
          rw [z] at this
          cases ds with
          | nil => simp at hc
          | cons _ _ => simp at this
        · exact q _ _ (same_upd hp) (RelD.newTup hi hp (repD_rel rs _))
      · cases hk
    · refine od_mul pins s σ H x y v u Q I rx ry ⟨ι, bar, d, e, r, hb, hi, rd, re, ?_, q⟩
      unfold mulO2 at hk
      split at hk
      · exact absurd ⟨_, _, rfl, rfl⟩ c1
      · exact absurd ⟨_, _, rfl, rfl⟩ c2
      · exact hk
end
end Z
namespace Z
open PySem PySem.Spec PyProof.Rows L2 LamX
set_option autoImplicit false
def strsB : List Str → List Value → Bool
  | [], [] => true
  | x :: xs, .str y _ :: vs => decide (y = x) && strsB xs vs
  | _, _ => false
def tupO (xs : List Str) : Option Obj → Bool
  | some ⟨c, _, .seq its _, _⟩ => decide (c = .type "tuple") && (decide (its.size ≤ 1000) && strsB xs its.toList)
  | _ => false
def tupB (K : PySem.W.Frag) (p : Str × List Str) : Bool := He.eqO (PySem.W.nsIn K mainGlobals p.1) (some (some (.ref (He.ga K p.1)))) && tupO p.2 (K.lookup (He.ga K p.1))
end Z
namespace Z
open PySem PySem.Spec PyProof.Rows L2 LamX
set_option autoImplicit false
def rDL (T : Wd) : Rel (List D × List D) V := fun ι bar H p v => ∃ a ls ws, v = .ref a ∧ ¬ bar a ∧ lfs p.1 = some ls ∧ H a = some (.ext (DctF T.P T.w a ls ws)) ∧ RelDs T ι bar H p.2 ws ∧ p.1.length = p.2.length
def lenL (ds : List D) : Option D := some (.int ds.length)
section
variable {T : Wd} {W : WX} {X : Cx} {o e f : Expr} {mo : Env → G → Res (List D × List D)} {mk mz : Ev} {apos cpos : Pos}
theorem rDL.keep {ι ι' : List Addr} {bar bar' : Addr → Prop} {H H' : Hp} {p : List D × List D} {v : V} (s : Stp ι ι' H H') (hi : ∀ a ∈ ι, bar a) (hb : Grows H bar bar') (h : rDL T ι bar H p v) : rDL T ι' bar' H' p v := by
  obtain ⟨a, ls, ws, e, nb, el, hp, rs, hl⟩ := h
  exact ⟨a, ls, ws, e, nbar_keep hb (some_ne hp) nb, el, s.ext a _ hp fun z => nb (hi a z), rs.keep s hi hb, hl⟩
end
end Z
namespace Z
open PySem PySem.Spec PyProof.Rows L2 LamX
set_option autoImplicit false
structure SetB (T : Wd) (ι : List Addr) (bar : Addr → Prop) (H : Hp) (a : Addr) (ds : List D) (o : HO) : Prop where
  ex : ∃ ls us, lfs ds = some ls ∧ o = .ext (SetF T.P T.w a ls us) ∧ RelDs T ι bar H ds us
section
variable {T : Wd} {X : Cx} {H : Hp} {ι : List Addr} {bar : Addr → Prop} {a : Addr} {ds : List D} {k : D} {y : V} {o : HO}
theorem SetB.soft (d : SetB T ι bar H a ds o) : Soft o := by
  obtain ⟨ls, us, _, rfl, _⟩ := d.ex
  exact fun i => i
theorem SetB.keep {ι' : List Addr} {bar' : Addr → Prop} {H' : Hp} (s : Stp ι ι' H H') (hi : ∀ a ∈ ι, bar a) (hb : Grows H bar bar') (d : SetB T ι bar H a ds o) : SetB T ι' bar' H' a ds o := by
  obtain ⟨ls, us, e, e2, r1⟩ := d.ex
  exact ⟨ls, us, e, e2, r1.keep s hi hb⟩
theorem SetB.fewer {bar' : Addr → Prop} (hb : ∀ a, bar' a → bar a) (d : SetB T ι bar H a ds o) : SetB T ι bar' H a ds o := by
  obtain ⟨ls, us, e, e2, r1⟩ := d.ex
  exact ⟨ls, us, e, e2, r1.fewer hb⟩
theorem SetB.era {p : Addr} {u : HO} (hb : bar p) (hp : H p = some u) (so : Soft u) (d : SetB T ι bar H a ds o) : SetB T ι bar (Z.era H p) a ds o := by
  obtain ⟨ls, us, e, e2, r1⟩ := d.ex
  exact ⟨ls, us, e, e2, r1.era hb hp so⟩
theorem SetB.put (ok : Ok T X) (rm : Rm X) (d : SetB T ι bar H a ds o) (hp : H a = some o) {l : Leaf} (hk : lf k = some l) (rk : RelD T ι bar H k y) (hz : ds.length < 4000) :
    ∃ o', SAdd X H a y o' ∧ SetB T ι bar H a (putF ds k) o' := by
  obtain ⟨ls, vs, el, rfl, r1⟩ := d.ex
  let ls' := if hasL ds l then ls else ls ++ [l]
  let vs' := if hasL ds l then vs else vs ++ [y]
  have e1 : lfs (putF ds k) = some ls' := by
    show lfs (putF ds k) = some (if hasL ds l then ls else ls ++ [l])
    unfold putF
    rw [hk]
    dsimp only
    split
    · exact el
    · exact lfs_app el (by unfold lfs; rw [hk]; rfl)
  have e2 : RelDs T ι bar H (putF ds k) vs' := by
    show RelDs T ι bar H (putF ds k) (if hasL ds l then vs else vs ++ [y])
    unfold putF
    rw [hk]
    dsimp only
    split
    · exact r1
    · exact r1.append (.cons rk .nil)
  refine ⟨.ext (SetF T.P T.w a ls' vs'), fun X' pins σ s E Q u f1 f2 f3 f4 I ru hQ => ?_, ⟨ls', vs', e1, rfl, e2⟩⟩
  obtain ⟨L, zs, vz, pm, R⟩ := ext_at I hp
  obtain ⟨ob, es, ep, tb, hob, hx, hdt, ers, ft, ris, ld⟩ := R.ob
  have lenz : ls.length = zs.length := by rw [lfs_len el, ← vz.length, r1.length]
  have lenL : L.length = ds.length := by rw [pm.length_eq, List.length_zip, ← lenz, Nat.min_self, lfs_len el]
  obtain ⟨isl, scn⟩ := leaf_is (P := T.P) (w := T.w) hk rk ru
  have ty : s.TypeIs (.ref a) "set" := ⟨ob, hob, hx.1⟩
  rw [ok.P, ok.w]
  refine wpAny_call_entry PySem.F.slot_set_add ty PySem.F.entry_set_add ?_ (PySem.F.args_set_add_2 _ _)
  unfold Builtin.«set.add» Builtin.Frozenset.oneOther
  simp only [List.isEmpty_nil, bind_assoc]
  unfold Builtin.Frozenset.addrOf setAdd
  refine wpAny_bind (wpAny_pure ?_)
  try dsimp only
  refine wpAny_bind (wpAny_pure ?_)
  try dsimp only
  refine wpAny_bind (wpAny_holding (wpAny_bind ((leafKind T.P T.w).pyHash isl ?_)))
  have bound : scanBound = 4096 := rfl
  refine addV (st := { s with toks := s.toks + 1 }) R isl scn (by omega) fun bb h' L' sb R' pr => ?_
  show wpAny _ _ (PySem.ret Value.none) _ _ _
  refine wpAny_pure ⟨_, rfl, hQ _ ?_⟩
  have inL : l ∈ L.map (·.1) ↔ l ∈ ls := by rw [(pm.map (·.1)).mem_iff, fst_zipL lenz]
  have sf : SetF T.P T.w a ls' vs' h' := by
    show SetF T.P T.w a (if hasL ds l then ls else ls ++ [l]) (if hasL ds l then vs else vs ++ [y]) h'
    by_cases hh : hasL ds l = true
    · rw [if_pos hh, if_pos hh]
      have e4 : putV L (l, u) = L := putV_in (inL.mpr ((hasL_iff l el).mp hh))
      rw [e4] at pr
      exact ⟨L', zs, vz, pr.trans pm, R'⟩
    · rw [if_neg hh, if_neg hh]
      have e4 : putV L (l, u) = L ++ [(l, u)] := putV_out fun z => hh ((hasL_iff l el).mpr (inL.mp z))
      rw [e4] at pr
      refine ⟨L', zs ++ [u], Vals.app vz (.cons ru .nil), ?_, R'⟩
      rw [List.zip_append lenz]
      exact pr.trans (pm.append_right _)
  have hob' : ∃ q, h'.get? a = some q := let ⟨q, _, _, _, e, _⟩ := R'.ob; ⟨q, e⟩
  refine d_write (t' := s.toks + 1) (I.tok _) (by rw [hp]; trivial) sb hob' ?_
  rw [f1, f2, ok.P, ok.w]
  exact setF_new sf
end
end Z
namespace Z
open PySem PySem.Spec PyProof.Rows L2
set_option autoImplicit false
def reprG (d : D) : Option D := if isD d && sh d && (py d).showable && fits (shT (py d)).length then some (.str ⟨(shT (py d)).toArray⟩) else none
section
variable {T : Wd} {X : Cx}
theorem ud_reprG (ok : Ok T X) (rm : Rm X) : Call1 T X (.builtin "repr") reprG := by
  intro pins s σ H x v Q I rx ⟨ι, bar, d, r, hb, hi, rd, hk, q⟩
  have go : isD d = true → reprF d = none → wpAny (model X.prog X.w) X.A (call (.builtin "repr") [v]) (EP X pins σ Q) X.xe s := by
    intro hd hn
    unfold reprG at hk
    split at hk
    · rename_i hc
      cases hk
      simp only [Bool.and_eq_true] at hc
      obtain ⟨⟨⟨h1, h2⟩, h3⟩, h4⟩ := hc
      rw [shT_len] at h4
      have fin : ∀ u tk, EP X pins σ Q (.str (py d).shown u) { s with toks := tk } := fun u tk => ⟨.str _, H, I.kept (t' := tk) (fun _ _ e => e), ⟨u, rfl⟩, q _ _ (Same.refl H) (by rw [shT_mk]; exact RelD.ofStr _)⟩
      cases d with
      | non =>
        obtain rfl := rd.non
        cases rx
        exact PySem.P.repr_of_none (fin _ _)
      | bl b =>
        obtain rfl := rd.bl
        cases rx
        exact PySem.P.repr_of_bool (fin _ _)
      | int i =>
        obtain rfl := rd.int
        obtain ⟨t, rfl⟩ := rx
        exact PySem.P.repr_of_int (by simpa [py, PyData.showable] using h3) (fin _ _)
      | str y =>
        obtain rfl := rd.str
        obtain ⟨t, rfl⟩ := rx
        exact PySem.P.repr_of_str (fin _ _) (fits_line h4)
      | tup ds =>
        have : reprF (.tup ds) = some _ := if_pos (by simp only [Bool.and_eq_true]; rw [← shT_len] at h4; exact ⟨⟨⟨h1, h2⟩, h3⟩, h4⟩)
        rw [hn] at this
        cases this
      | lst ds =>
        have : reprF (.lst ds) = some _ := if_pos (by simp only [Bool.and_eq_true]; rw [← shT_len] at h4; exact ⟨⟨⟨h1, h2⟩, h3⟩, h4⟩)
        rw [hn] at this
        cases this
      | _ => cases hd
    · cases hk
  cases hd : isD d with
  | false =>
    unfold reprG at hk
    rw [if_neg (by rw [hd]; simp)] at hk
    cases hk
  | true =>
    cases hn : reprF d with
    | none => exact go hd hn
    | some r2 =>
      have e : reprG d = reprF d := by
        cases d <;> first | rfl | (cases hn; done)
      rw [e] at hk
      exact ud_reprF ok rm pins s σ H x v Q I rx ⟨ι, bar, d, r, hb, hi, rd, hk, q⟩
end
end Z
namespace Z
open PySem PySem.Spec PyProof.Rows L2
set_option autoImplicit false
def spF (T : Wd) (den : Den) (vs : List V) (H : Hp) (Q : VK) (E : XK) : Prop :=
  ∃ (γ : Gho) (ds : List D) (g : G), GR T γ.ι γ.bar H g ∧ (∀ i, γ.oa i = none) ∧ (∀ a, γ.av a → H a ≠ none) ∧ RelDs T γ.ι γ.bar H ds vs ∧ PostF T γ H [] (fun cls dx _ H' => E cls dx H') Q (den ds g)
structure FnF (T : Wd) (mg : Str → Option Value) (base : Heap) (k : Nat) (f : Addr) (fd : FuncData) (ps : List Str) (den : Den) : Prop where
  run : ∀ (A : Around) (outer : List PySem.Env) (s : Shared) (H : Hp) (args : Args) (us : List Value) (vs : List V) (Q : VK) (E : XK), Room k A → A.guards = some [] → Env0 T.P T.w T.K mg base A outer s H → BindsTo s fd args (ps.zip us) → Vals vs us → vs.length = ps.length → spF T den vs H Q E →
    codeAny (model T.P T.w) A (.call (.ref f) args) (CR (L2.CX T.P T.w) outer T.P T.w H s Q E) s
structure FnNF (T : Wd) (mg : Str → Option Value) (base : Heap) (k : Nat) (x : Str) (ps : List Str) (f : Addr) (fd : FuncData) (den : Den) : Prop where
  fn : FnF T mg base k f fd ps den
  gl : mg x = some (.ref f)
  kp : PySem.W.keepIn T.K (.ref f) = true
theorem FnNF.mono {T : Wd} {mg : Str → Option Value} {base : Heap} {j k : Nat} {x : Str} {ps : List Str} {f : Addr} {fd : FuncData} {den : Den} (F : FnNF T mg base j x ps f fd den) (h : j ≤ k) : FnNF T mg base k x ps f fd den :=
  ⟨⟨fun A outer s H args us vs Q E hr hg e0 hb r hl hs => F.fn.run A outer s H args us vs Q E (hr.mono h) hg e0 hb r hl hs⟩, F.gl, F.kp⟩
end Z
namespace Z
open PySem PySem.Spec PyProof.Rows L2
set_option autoImplicit false
mutual
def hI : NestedKey → Option Int
  | .num i => some (hashInt i)
  | .tup ks => (hIs ks).map fun hs => reduceHash (Builtin.Tuple.tupleHashOf hs)
  | _ => none
def hIs : List NestedKey → Option (List Int)
  | [] => some []
  | k :: ks => match hI k, hIs ks with
    | some h, some hs => some (h :: hs)
    | _, _ => none
end
end Z
namespace Z
open PySem PySem.Spec PyProof.Rows L2 LamX
set_option autoImplicit false
structure Ex where
  E : Xc → G → Prop
  B : Env → G → Prop
def Res.Oe {α : Type} (r : Res α) (X : Ex) (P : α → G → Prop) : Prop := match r with
  | .ok a g => P a g
  | .exc x g => X.E x g
  | .bad => False
def SR.Oe (r : SR) (X : Ex) (N : Env → G → Prop) (R : D → G → Prop) : Prop := match r with
  | .nx ρ g => N ρ g
  | .rt d g => R d g
  | .exc x ρ g => X.E x g
  | .bk ρ g => X.B ρ g
  | _ => False
section
variable {α β : Type} {X : Ex}
theorem Res.Oe.mono {X X' : Ex} {r : Res α} {P Q : α → G → Prop} (h : r.Oe X P) (i : ∀ a g, P a g → Q a g) (e : ∀ x g, X.E x g → X'.E x g) : r.Oe X' Q := by
  cases r with
  | ok a g => exact i a g h
  | exc x g => exact e x g h
  | bad => exact h
theorem Res.Oe.of {r : Res α} {P : α → G → Prop} {a : α} {g : G} (e : r = .ok a g) (h : P a g) : r.Oe X P := by subst e; exact h
theorem SR.Oe.mono {X X' : Ex} {r : SR} {N N' : Env → G → Prop} {R R' : D → G → Prop} (h : r.Oe X N R) (i : ∀ ρ g, N ρ g → N' ρ g) (j : ∀ d g, R d g → R' d g) (e : ∀ x g, X.E x g → X'.E x g) (b : ∀ ρ g, X.B ρ g → X'.B ρ g) : r.Oe X' N' R' := by
  cases r with
  | nx ρ g => exact i ρ g h
  | rt d g => exact j d g h
  | exc x ρ g => exact e x g h
  | bk ρ g => exact b ρ g h
  | _ => exact h.elim
end
theorem Res.Oe.ok {α : Type} {X : Ex} {r : Res α} {P : α → G → Prop} (h : r.Oe X P) (n : ∀ x g, ¬ X.E x g) : r.Ok P := by
  cases r with
  | ok a g => exact h
  | exc x g => exact n x g h
  | bad => exact h
theorem SR.Oe.ok {X : Ex} {r : SR} {N : Env → G → Prop} {R : D → G → Prop} (h : r.Oe X N R) (n : ∀ x g, ¬ X.E x g) (b : ∀ ρ g, ¬ X.B ρ g) : r.Ok N R := by
  cases r with
  | nx ρ g => exact h
  | rt d g => exact h
  | exc x ρ g => exact n x g h
  | bk ρ g => exact b ρ g h
  | _ => exact h
end Z
namespace Z
open PySem PySem.Spec PyProof.Rows L2
set_option autoImplicit false
def sStL (i : Nat) (mi mv : Ev) : Sm := fun ρ g => match ownL ρ i with
  | none => .bad
  | some ds => match mv ρ g with
    | .ok v g1 => (match mi ρ g1 with
      | .ok (.int j) g2 => (match L2.ixN ds.length j with
        | some k => .nx (ρ.set i (.own (.lst (ds.set k v)))) g2
        | none => .bad)
      | .ok _ _ => .bad
      | .exc x g2 => .exc x ρ g2
      | .bad => .bad)
    | .exc x g1 => .exc x ρ g1
    | .bad => .bad
section
variable {T : Wd} {W : WX} {X : Cx} {kx e : Expr} {mi mv : Ev} {pos pos' p : Pos} {x : Str}
theorem stl_test {i : Nat} {D' : Ends} {σ : L2.St} {H : Hp} (ok : Ok T X) (h : tS T W (sStL i mi mv) D' σ H) : tAsg (tX T W (rD T) mv) (gSub (tVar i) (tX T W (rD T) mi) rSetL) D' σ H := by
  obtain ⟨E0, γ, ρ, g, S, p⟩ := h
  unfold sStL at p
  cases ho : ownL ρ i with
  | none => rw [ho] at p; exact p.elim
  | some ds =>
    rw [ho] at p
    have ho := ownL_eq ho
    refine ⟨γ, ρ, g, S.st, ?_⟩
    revert p
    cases mv ρ g with
    | bad => exact fun p => p
    | exc x g' => exact fun p cls dx ι' H' s1 G1 r1 => p (γ.to ι') σ H' cls dx (S.step s1 G1) r1
    | ok v g1 =>
      intro p vv ι1 H1 s1 G1 r1
      have S1 := S.step s1 G1
      obtain ⟨a, o, e1, e2, r, hp, mu⟩ := S1.st.get ho
      refine ⟨_, e2, γ.to ι1, ρ, g1, S1.st, ?_⟩
      dsimp only at p
      revert p
      cases mi ρ g1 with
      | bad => exact fun p => p
      | exc x g' => exact fun p cls dx ι' H' s2 G2 r2 => p (γ.to ι') σ H' cls dx (S1.step s2 G2) r2
      | ok k g2 =>
        intro p y ι2 H2 s2 G2 r2
        have S2 := S1.step s2 G2
        obtain ⟨a', o2, f1, f2, r', hp', mu'⟩ := S2.st.get ho
        have ea : a' = a := by
          have e1 : γ.oa i = some a := e1
          have f1 : γ.oa i = some a' := f1
          rw [e1] at f1; cases f1; rfl
        subst ea
        obtain ⟨vs, hv, rs⟩ := own_lst r' hp' mu'
        have rv : RelD T ι2 (γ.to ι2).bar H2 v vv := r1.keep s2 (γ.to ι1).bi (Gho.grows s2)
        cases k with
        | int j =>
          dsimp only at p
          obtain rfl : y = V.int j := r2
          cases hj : L2.ixN ds.length j with
          | none => rw [hj] at p; exact p.elim
          | some q =>
            rw [hj] at p
            have hb : (γ.to ι2).bar a' := .inr (.inl ⟨i, f1⟩)
            have so : Soft (.lst vs) := fun i => i
            refine ⟨a', vs, j, q, rfl, rfl, hv, by rw [rs.length]; exact hj, ?_⟩
            exact p (γ.to ι2) σ _ (S2.turn ho f1 hv trivial trivial ⟨vs.set q vv, .inl upd_same, RelDs.set (rv.turn (γ.to ι2).bi hb hv so) q (rs.turn (γ.to ι2).bi hb hv so)⟩)
        | _ => exact p.elim
theorem ss_stl (i : Nat) (ok : Ok T X) (hk : EE T W X kx mi) (he : EE T W X e mv) (hN : X.N[i]? = some x := by rfl) (hv : Vis X.env.scope x := by first | exact Or.inl rfl | exact Or.inr (Or.inl rfl) | exact Or.inr (Or.inr rfl))
    (hd : (x == ("__debug__" : Str)) = false := by decide) (hcd : (x == ("__classdict__" : Str)) = false := by decide)
    (hs : swapsWithSole [.Subscript (.Name x p) kx pos'] e pos.line X.env = pure false := by rfl) (hw : swappedStores [.Subscript (.Name x p) kx pos'] e X.env = pure none := by rfl)
    (h1 : (assignEach [.Subscript (.Name x p) kx pos'] X.env).map (·.2) = [assign (.Subscript (.Name x p) kx pos') X.env] := by rfl)
    (ha : ∀ v, assign (.Subscript (.Name x p) kx pos') X.env v = (do
      let ov ← holding [v] (eval (.Name x p) X.env)
      let iv ← holding [v, ov] (eval kx X.env)
      standAt pos'
      holding [v, ov, iv] (setItem ov iv v)
      release [v, ov, iv] []) := by intro _; rfl) :
    SS T W X (.Assign [.Subscript (.Name x p) kx pos'] e pos) (sStL i mi mv) :=
  PS.imp (ps_asg he (pg_sub (pe_var hN hv hd hcd) hk set_list ha) hs hw h1) fun D' σ H h => stl_test ok h
end
end Z
namespace Z
open PySem PySem.Spec PyProof.Rows L2
set_option autoImplicit false
def exS (n : Nat) : Env := Sl.mk 0 :: List.replicate (n - 1) .no
def denX (n : Nat) (m : Xc → Sm) (x : Xc) : G → Res D := fun g => match m x (exS n) g with
  | .rt d g' => .ok d g'
  | .nx _ g' => .ok .non g'
  | _ => .bad
/-- a def that gets the error that is handled -/
structure FnEx (T : Wd) (mg : Str → Option Value) (base : Heap) (k : Nat) (x : Str) (n : Nat) (fA : Addr) (mE : Xc → Sm) : Prop where
  gl : mg x = some (.ref fA)
  kp : PySem.W.keepIn T.K (.ref fA) = true
  run : ∀ (f : Nat → Option Mk) (A : Around) (outer : List PySem.Env) (s : Shared) (H : Hp) (a : Addr) (dx c : Nat) (ds : List D) (oe : Obj) (γ : Gho) (g : G) (Q : VK) (E : XK), L2H.RoomH k A → A.guards = some [] → A.handled = some (.ref a) → L2H.PinOk outer H s (a, oe) → Env0 T.P T.w T.K mg base A outer s H →
    Zc (T.ct c) (some dx) oe → (∃ vs, oe.data = .fields vs) → f 0 = some (.ex a dx c ds) → MkR T γ.ι γ.bar H (.ex a dx c ds) → GR T γ.ι γ.bar H g → (∀ i, γ.oa i = none) → (∀ a, γ.av a → H a ≠ none) → Post T γ H [] W0 (rD T) Q (denX n mE ⟨c, ds⟩ g) →
    codeAny (model T.P T.w) A (.call (.ref fA) ⟨[.ref a], []⟩) (CR (L2.CX T.P T.w) outer T.P T.w H s Q E) s
theorem FnEx.mono {T : Wd} {mg : Str → Option Value} {base : Heap} {j k n : Nat} {x : Str} {fA : Addr} {mE : Xc → Sm} (F : FnEx T mg base j x n fA mE) (h : j ≤ k) : FnEx T mg base k x n fA mE :=
  ⟨F.gl, F.kp, fun f A outer s H a dx c ds oe γ g Q E hr => F.run f A outer s H a dx c ds oe γ g Q E (hr.mono h)⟩
end Z
set_option maxHeartbeats 4000000
namespace Z
open PySem PySem.Spec PyProof.Rows L2
set_option autoImplicit false
section
variable {T : Wd} {ι ι' : List Addr} {bar : Addr → Prop} {H : Hp}
def RelWs (T : Wd) (ι : List Addr) (bar : Addr → Prop) (H : Hp) : List D → List V → Prop
  | [], vs => vs = []
  | d :: ds, vs => ∃ v r, vs = v :: r ∧ RelW T ι bar H d v ∧ RelWs T ι bar H ds r
theorem RelWs.keep {bar' : Addr → Prop} {H' : Hp} (s : Stp ι ι' H H') (hi : ∀ a ∈ ι, bar a) (hb : Grows H bar bar') : ∀ {ds : List D} {vs : List V}, RelWs T ι bar H ds vs → RelWs T ι' bar' H' ds vs
  | [], _, h => h
  | _ :: _, _, ⟨v, r, e, h1, h2⟩ => ⟨v, r, e, h1.keep s hi hb, RelWs.keep s hi hb h2⟩
end
section
variable {T : Wd} {W : WX} {X : Cx} {a e : Expr} {es : List Expr} {ma : Ev} {ms m : EvL}
theorem RelWs.length {ι : List Addr} {bar : Addr → Prop} {H : Hp} : ∀ {ds : List D} {vs : List V}, RelWs T ι bar H ds vs → vs.length = ds.length
  | [], _, h => by rw [show _ = [] from h]; rfl
  | _ :: _, _, ⟨v, r, e, _, h2⟩ => by rw [e, List.length_cons, List.length_cons, RelWs.length h2]
variable {mg : Str → Option Value} {base : Heap} {k : Nat} {x : Str} {ps : List Str} {f : Addr} {fd : FuncData} {den : Den} {p pos : Pos}
end
end Z
set_option maxHeartbeats 4000000
set_option maxHeartbeats 4000000
set_option maxHeartbeats 4000000
set_option maxHeartbeats 4000000
namespace Z
open PySem PySem.Spec PyProof.Rows L2
set_option autoImplicit false
def Ent.pin (E : Ent) (a : Addr) (o : HO) : Ent := { E with H := fun b => if b = a then some o else E.H b }
theorem Ent.pin_eq (E : Ent) (a : Addr) (o : HO) : (E.pin a o).H a = some o := by simp [Ent.pin]
theorem Ent.pin_ne (E : Ent) {a b : Addr} (o : HO) (h : b ≠ a) : (E.pin a o).H b = E.H b := by simp [Ent.pin, h]
section
variable {T : Wd} {E0 : Ent} {γ γ2 : Gho} {H H2 : Hp} {ρ ρ2 : Env} {σ σ2 : L2.St} {g g2 : G} {a : Addr} {o : HO} {ι : List Addr}
theorem pin_stp (c : ∀ o1, E0.H a = some o1 → o1 = o) (S : Stp E0.ι ι (E0.pin a o).H H2) : Stp E0.ι ι E0.H H2 := by
  have up : ∀ b o', E0.H b = some o' → (E0.pin a o).H b = some o' := fun b o' e => by
    by_cases q : b = a
    · subst q
      rw [c _ e, Ent.pin_eq]
    · rw [Ent.pin_ne _ _ q, e]
  have dn : ∀ b, (E0.pin a o).H b = none → E0.H b = none := fun b e => by
    by_cases q : b = a
    · subst q
      rw [Ent.pin_eq] at e
      cases e
    · rwa [Ent.pin_ne _ _ q] at e
  obtain ⟨m, e1, f⟩ := S.pre
  exact ⟨fun b o' e n => S.ext b o' (up b o' e) n, fun b o' e i => S.imm b o' (up b o' e) i, fun b o' e => S.live b o' (up b o' e), m, e1, fun x hx => dn x (f x hx)⟩
theorem StS.pin (S : StS T E0 γ H ρ σ g) (h : H a = some o) (nb : ¬ γ.bar a) : StS T (E0.pin a o) γ H ρ σ g := by
  have ni : a ∉ γ.ι := fun z => nb (.inl z)
  obtain ⟨m, e1, f⟩ := S.ent.pre
  refine ⟨S.st, ⟨fun b o' e n => ?_, fun b o' e i => ?_, fun b o' e => ?_, m, e1, fun x hx => ?_⟩, S.fav, fun i x hx => ?_, S.kept⟩
  · by_cases q : b = a
    · subst q
      rw [Ent.pin_eq] at e
      rw [h, ← e]
    · rw [Ent.pin_ne _ _ q] at e
      exact S.ent.ext b o' e n
  · by_cases q : b = a
    · subst q
      rw [Ent.pin_eq] at e
      rw [h, ← e]
    · rw [Ent.pin_ne _ _ q] at e
      exact S.ent.imm b o' e i
  · by_cases q : b = a
    · subst q
      exact ⟨o, h⟩
    · rw [Ent.pin_ne _ _ q] at e
      exact S.ent.live b o' e
  · have q : x ≠ a := fun q => ni (by rw [← q, e1]; exact List.mem_append_right _ hx)
    rw [Ent.pin_ne _ _ q]
    exact f x hx
  · have q : x ≠ a := fun q => nb (.inr (.inl ⟨i, by rw [← q]; exact hx⟩))
    rw [Ent.pin_ne _ _ q]
    exact S.own0 i x hx
theorem StS.pinned (S : StS T (E0.pin a o) γ2 H2 ρ2 σ2 g2) (n : a ∉ E0.ι) : a ∉ γ2.ι ∧ H2 a = some o := by
  refine ⟨fun z => ?_, S.ent.ext a o (Ent.pin_eq _ _ _) n⟩
  obtain ⟨m, e1, f⟩ := S.ent.pre
  have e1 : γ2.ι = E0.ι ++ m := e1
  rw [e1, List.mem_append] at z
  rcases z with z | z
  · exact n z
  · have := f a z
    rw [Ent.pin_eq] at this
    cases this
theorem StS.unpin (c : ∀ o1, E0.H a = some o1 → o1 = o) (S : StS T (E0.pin a o) γ2 H2 ρ2 σ2 g2) : StS T E0 γ2 H2 ρ2 σ2 g2 := by
  refine ⟨S.st, pin_stp c S.ent, S.fav, fun i x hx => ?_, S.kept⟩
  have e := S.own0 i x hx
  by_cases q : x = a
  · subst q
    rw [Ent.pin_eq] at e
    cases e
  · rwa [Ent.pin_ne _ _ q] at e
theorem SPost.pin {W : WX} {D' : Ends} (c : ∀ o1, E0.H a = some o1 → o1 = o) : ∀ {r : SR}, SPost T E0 W D' r → SPost T (E0.pin a o) W D' r
  | .nx _ _, p => fun γ σ H S => p γ σ H (S.unpin c)
  | .bk _ _, p => fun γ σ H S => p γ σ H (S.unpin c)
  | .ct _ _, p => fun γ σ H S => p γ σ H (S.unpin c)
  | .rt _ _, p => fun v γ H h1 h2 h3 => p v γ H h1 h2 (pin_stp c h3)
  | .exc _ _ _, p => fun γ σ H cl dx S => p γ σ H cl dx (S.unpin c)
  | .bad, p => p
end
end Z
set_option maxHeartbeats 4000000
set_option maxHeartbeats 4000000
namespace Z
open PySem PySem.Spec PyProof.Rows L2
set_option autoImplicit false
section
variable {T : Wd} {W : WX} {X : Cx} {e : Expr} {m : Ev} {p apos cpos pos : Pos}
def mulF : D → D → Option (List D)
  | .lst ds, .int k => if decide (0 ≤ k) && decide (k ≤ 1000) && decide (ds.length ≤ 1000) then some (repD k.toNat ds) else none
  | _, _ => none
theorem of_mul : OpR X (binaryOp .Mult) (rOpF T mulF) := by
  intro pins s σ H x y v u Q I rx ry ⟨ι, bar, d, e, r, hb, hi, rd, re, hk, q⟩
  unfold mulF at hk
  split at hk
  · split at hk
    · rename_i hc
      cases hk
      simp only [Bool.and_eq_true, decide_eq_true_eq] at hc
      obtain ⟨a, vs, rfl, hr, rs⟩ := rd.lst
      obtain rfl := re.int
      have := rs.length
      exact rep_list I rx ry hr hc.1.1 hc.1.2 (by omega) fun p hp => q _ _ hp (repD_rel rs _)
    · cases hk
  · cases hk
theorem ef_mul {a b : Expr} {ma mb : Ev} (ha : EW T W X a ma) (hb : EW T W X b mb) : EF T W X (.BinOp a .Mult b pos) (mOpF mulF ma mb) := PE.imp (pe_op of_mul ha hb) fun _ _ _ h => opF_imp h
end
end Z
set_option maxHeartbeats 4000000
set_option maxHeartbeats 4000000
set_option maxHeartbeats 4000000
set_option maxHeartbeats 4000000
set_option maxHeartbeats 4000000
set_option maxHeartbeats 4000000
namespace Z
open PySem PySem.Spec PyProof.Rows L2
set_option autoImplicit false
def mFldO (cs : List Nat) (x : Str) (o : Ev) : Ev := fun ρ g => match o ρ g with
  | .ok (.ref n) g' => match g'[n]? with
    | some (.ob c fs) => if c ∈ cs then (match fs.lookup x with
      | some d => .ok d g'
      | none => .bad) else .bad
    | _ => .bad
  | .exc x g' => .exc x g'
  | _ => .bad
theorem lu_rel {T : Wd} {ι : List Addr} {bar : Addr → Prop} {H : Hp} : ∀ {fs : List (Str × D)} {ws : List V} {x : Str} {d : D}, RelDs T ι bar H (fs.map (·.2)) ws → fs.lookup x = some d → ∃ v, ((fs.map (·.1)).zip ws).lookup x = some v ∧ RelD T ι bar H d v
  | [], _, _, _, _, e => by cases e
  | (y, e0) :: fs, ws, x, d, r, e => by
    obtain ⟨v, ws', rfl, r1, r2⟩ := RelDs.uncons (d := e0) (ds := fs.map (·.2)) r
    have e : (match x == y with | true => some e0 | false => fs.lookup x) = some d := e
    cases q : x == y with
    | true =>
      rw [q] at e
      cases e
      exact ⟨v, by show (match x == y with | true => some v | false => _) = some v; rw [q], r1⟩
    | false =>
      rw [q] at e
      obtain ⟨v', h1, h2⟩ := lu_rel r2 e
      exact ⟨v', by show (match x == y with | true => some v | false => ((fs.map (·.1)).zip ws').lookup x) = some v'; rw [q]; exact h1, h2⟩
theorem lu_none {T : Wd} {ι : List Addr} {bar : Addr → Prop} {H : Hp} : ∀ {fs : List (Str × D)} {ws : List V} {x : Str}, RelDs T ι bar H (fs.map (·.2)) ws → fs.lookup x = none → ((fs.map (·.1)).zip ws).lookup x = none
  | [], _, _, _, _ => rfl
  | (y, e0) :: fs, ws, x, r, e => by
    obtain ⟨v, ws', rfl, r1, r2⟩ := RelDs.uncons (d := e0) (ds := fs.map (·.2)) r
    have e : (match x == y with | true => some e0 | false => fs.lookup x) = none := e
    cases q : x == y with
    | true => rw [q] at e; cases e
    | false =>
      rw [q] at e
      show (match x == y with | true => some v | false => ((fs.map (·.1)).zip ws').lookup x) = none
      rw [q]
      exact lu_none r2 e
def putD (x : Str) (d : D) : List (Str × D) → List (Str × D)
  | [] => [(x, d)]
  | (y, e) :: r => if y = x then (y, d) :: r else (y, e) :: putD x d r
theorem put_rel {T : Wd} {ι : List Addr} {bar : Addr → Prop} {H : Hp} {x : Str} {d : D} {v : V} (rv : RelD T ι bar H d v) : ∀ {fs : List (Str × D)} {ws : List V}, RelDs T ι bar H (fs.map (·.2)) ws → ∃ ws', RelDs T ι bar H ((putD x d fs).map (·.2)) ws' ∧ L2.putF x v ((fs.map (·.1)).zip ws) = ((putD x d fs).map (·.1)).zip ws'
  | [], ws, r => by
    have : ws = [] := by simpa [RelDs] using r
    subst this
    exact ⟨[v], .cons rv .nil, rfl⟩
  | (y, e0) :: fs, ws, r => by
    obtain ⟨w, ws', rfl, r1, r2⟩ := RelDs.uncons (d := e0) (ds := fs.map (·.2)) r
    by_cases q : y = x
    · have e1 : putD x d ((y, e0) :: fs) = (y, d) :: fs := if_pos q
      have e2 : L2.putF x v ((y, w) :: (fs.map (·.1)).zip ws') = (y, v) :: (fs.map (·.1)).zip ws' := if_pos q
      exact ⟨v :: ws', by rw [e1]; exact .cons rv r2, by rw [e1]; exact e2⟩
    · obtain ⟨w2, h1, h2⟩ := put_rel rv r2
      have e1 : putD x d ((y, e0) :: fs) = (y, e0) :: putD x d fs := if_neg q
      have e2 : L2.putF x v ((y, w) :: (fs.map (·.1)).zip ws') = (y, w) :: L2.putF x v ((fs.map (·.1)).zip ws') := if_neg q
      exact ⟨w :: w2, by rw [e1]; exact .cons r1 h1, by rw [e1]; exact e2.trans (by rw [h2]; rfl)⟩
/-- a field of these classes -/
def FldK (T : Wd) (cs : List Nat) (x : Str) : Prop := ∀ c ∈ cs, Cls T.K (T.oc c) ∧ NoAttr T.K (T.oc c) x
section
variable {T : Wd} {W : WX} {X : Cx} {pos : Pos} {o e : Expr} {mo me : Ev} {x : Str} {cs : List Nat}
theorem ee_fld (ok : Ok T X) (hc : FldK T cs x) (ho : EW T W X o mo) (hb : attributeBase o x X.env (eval o X.env) = eval o X.env := by rfl) : EE T W X (.Attribute o x pos) (mFldO cs x mo) := PE.imp (pe_fld ho hb) fun σ H Q ⟨γ, ρ, g, S, p⟩ => by
  refine ⟨γ, ρ, g, S, ?_⟩
  unfold mFldO at p
  revert p
  cases mo ρ g with
  | bad => exact fun p => p
  | exc x g1 => exact fun p => p
  | ok d g1 =>
    cases d with
    | ref n =>
      dsimp only
      cases hg : g1[n]? with
      | none => exact fun p => p.elim
      | some c =>
        cases c with
        | ob c fs =>
          dsimp only
          by_cases hcs : c ∈ cs
          · rw [if_pos hcs]
            cases hl : fs.lookup x with
            | none => exact fun p => p.elim
            | some d =>
              intro p v ι1 H1 s1 G1 r1
              obtain ⟨a, e1, rfl⟩ := RelW.ref r1
              obtain ⟨b, e2, ws, q1, dx, q3⟩ := G1.at_ n _ hg
              have : b = a := by rw [e1] at e2; cases e2; rfl
              subst this
              obtain ⟨u, e3, r3⟩ := lu_rel q1 hl
              exact ⟨b, _, dx, _, u, rfl, q3, by rw [ok.K]; exact (hc c hcs).1, by rw [ok.K]; exact (hc c hcs).2, e3, p u ι1 H1 s1 G1 r3⟩
          · rw [if_neg hcs]; exact fun p => p.elim
        | _ => exact fun p => p.elim
    | _ => exact fun p => p.elim
/-- o.x = e -/
def sFldO (cs : List Nat) (x : Str) (o m : Ev) : Sm := fun ρ g => match m ρ g with
  | .ok d g1 => match o ρ g1 with
    | .ok (.ref n) g2 => match g2[n]? with
      | some (.ob c fs) => if c ∈ cs ∧ fs.length < 1000 then .nx ρ (g2.set n (.ob c (putD x d fs))) else .bad
      | _ => .bad
    | .exc x g2 => .exc x ρ g2
    | _ => .bad
  | .exc x g1 => .exc x ρ g1
  | .bad => .bad
theorem ss_fld {p' : Pos} (ok : Ok T X) (hcs : FldK T cs x) (ho : EW T W X o mo) (he : EE T W X e me) (hs : swapsWith e (some (.Attribute o x p')) pos.line X.env = pure false := by rfl) : SS T W X (.Assign [.Attribute o x p'] e pos) (sFldO cs x mo me) :=
  PS.imp (ps_fld ho he hs) fun D' σ H ⟨E0, γ, ρ, g, S, p⟩ => by
  refine ⟨γ, ρ, g, S.st, ?_⟩
  unfold sFldO at p
  revert p
  cases me ρ g with
  | bad => exact fun p => p
  | exc x g1 => exact fun p cls dx ι' H' s1 G1 r1 => p (γ.to ι') σ H' cls dx (S.step s1 G1) r1
  | ok d g1 =>
    intro p v ι1 H1 s1 G1 r1
    have S1 := S.step s1 G1
    refine ⟨_, ρ, g1, S1.st, ?_⟩
    dsimp only at p
    revert p
    cases mo ρ g1 with
    | bad => exact fun p => p
    | exc x g2 => exact fun p cls dx ι' H' s2 G2 r2 => p (γ.to ι') σ H' cls dx (S1.step s2 G2) r2
    | ok f g2 =>
      cases f with
      | ref n =>
        dsimp only
        cases hg : g2[n]? with
        | none => exact fun p => p.elim
        | some c =>
          cases c with
          | ob c fs =>
            dsimp only
            by_cases hc : c ∈ cs ∧ fs.length < 1000
            · rw [if_pos hc]
              intro p y ι2 H2 s2 G2 r2
              have S2 := S1.step s2 G2
              obtain ⟨a, e1, rfl⟩ := RelW.ref r2
              obtain ⟨b, e2, ws, q1, dx, q3⟩ := G2.at_ n _ hg
              have : b = a := by rw [e1] at e2; cases e2; rfl
              subst this
              have hbι : b ∈ ι2 := List.mem_of_getElem? e1
              have hb : ((γ.to ι1).to ι2).bar b := .inl hbι
              have so : Soft (.ins (T.oc c) dx ((fs.map (·.1)).zip ws)) := fun i => i
              have wl := q1.length
              have rv := (r1.keep s2 (γ.to ι1).bi (Gho.grows s2))
              refine ⟨b, _, dx, _, rfl, q3, by rw [ok.K]; exact (hcs c hc.1).1, by rw [ok.K]; exact (hcs c hc.1).2, ?_, ?_⟩
              · rw [List.length_zip, List.length_map]
                exact Nat.lt_of_le_of_lt (Nat.min_le_left _ _) hc.2
              have st : Stp ι2 ι2 H2 (upd H2 b (.ins (T.oc c) dx (L2.putF x v ((fs.map (·.1)).zip ws)))) := by
                refine ⟨fun c u h nn => ?_, fun c u h im => ?_, fun c u h => ?_, [], by simp, by simp⟩
                · rw [upd_ne fun z => nn (by rw [z]; exact hbι)]; exact h
                · rw [upd_ne fun z => ?_]; exact h
                  subst z; rw [q3] at h; cases h; exact so im
                · by_cases z : c = b
                  · rw [z]; exact ⟨_, upd_same⟩
                  · exact ⟨u, by rw [upd_ne z]; exact h⟩
              refine p _ σ _ (S2.step (ι' := ι2) (g' := g2.set n (.ob c (putD x d fs))) st ⟨by rw [List.length_set]; exact G2.len, G2.nd, fun m c' e => ?_⟩)
              by_cases z : n = m
              · subst z
                have hl : n < g2.length := (List.getElem?_eq_some_iff.mp hg).1
                rw [List.getElem?_set_self hl] at e
                cases e
                obtain ⟨ws', h1, h2⟩ := put_rel (x := x) (rv.turn ((γ.to ι1).to ι2).bi hb q3 so) (q1.turn ((γ.to ι1).to ι2).bi hb q3 so)
                exact ⟨b, e1, ws', h1, dx, by rw [upd_same, h2]⟩
              · rw [List.getElem?_set_ne z] at e
                obtain ⟨c2, e4, rc⟩ := G2.at_ m c' e
                have nc : c2 ≠ b := fun q => z (by
                  have h1 := List.getElem?_eq_some_iff.mp e1
                  have h2 := List.getElem?_eq_some_iff.mp e4
                  obtain ⟨l1, h1⟩ := h1
                  obtain ⟨l2, h2⟩ := h2
                  exact nodup_ix G2.nd (by rw [List.getElem?_eq_getElem l1, List.getElem?_eq_getElem l2, h1, h2, q]) l1)
                refine ⟨c2, e4, ?_⟩
                cases c' with
                | dk ks2 vs2 =>
                  obtain ⟨ws2, t1, t2, t3⟩ := rc
                  exact ⟨ws2, t1.turn ((γ.to ι1).to ι2).bi hb q3 so, t2, by rw [upd_ne nc]; exact t3⟩
                | tb q =>
                  obtain ⟨eP, ps, t1, t2, t3⟩ := rc
                  refine ⟨eP, ps, by rw [upd_ne nc]; exact t1, t2, fun pos cv hcv => ?_⟩
                  obtain ⟨c3, u1, u2, u3⟩ := t3 pos cv hcv
                  exact ⟨c3, u1, by rw [upd_ne fun z => u3 (by rw [z]; exact hb)]; exact u2, u3⟩
                | ls vs2 =>
                  obtain ⟨ws2, t1, t3⟩ := rc
                  exact ⟨ws2, t1.turn ((γ.to ι1).to ι2).bi hb q3 so, by rw [upd_ne nc]; exact t3⟩
                | ob k fs2 =>
                  obtain ⟨ws2, t1, dx2, t3⟩ := rc
                  exact ⟨ws2, t1.turn ((γ.to ι1).to ι2).bi hb q3 so, dx2, by rw [upd_ne nc]; exact t3⟩
            · rw [if_neg hc]; exact fun p => p.elim
          | _ => exact fun p => p.elim
      | _ => exact fun p => p.elim
end
end Z
set_option maxHeartbeats 4000000
namespace Z
open PySem PySem.Spec PyProof.Rows L2
set_option autoImplicit false
theorem RelCell.stp {T : Wd} {ι ι' : List Addr} {bar bar' : Addr → Prop} {H H' : Hp} (s : Stp ι ι' H H') (hi : ∀ a ∈ ι, bar a) (hb : Grows H bar bar') {c : Cell} {a : Addr} (sm : ∀ o, H a = some o → H' a = some o) (h : RelCell T ι bar H c a) : RelCell T ι' bar' H' c a := by
  cases c with
  | dk ks vs =>
    obtain ⟨ws, r, l, e⟩ := h
    exact ⟨ws, r.keep s hi hb, l, sm _ e⟩
  | tb q =>
    obtain ⟨eP, ps, e, t, f⟩ := h
    refine ⟨eP, ps, sm _ e, t, fun pos cv hc => ?_⟩
    obtain ⟨c, e1, e2, n⟩ := f pos cv hc
    exact ⟨c, e1, s.ext _ _ e2 fun z => n (hi _ z), nbar_keep hb (some_ne e2) n⟩
  | ls vs =>
    obtain ⟨ws, r, e⟩ := h
    exact ⟨ws, r.keep s hi hb, sm _ e⟩
  | ob k fs =>
    obtain ⟨ws, r, dx, e⟩ := h
    exact ⟨ws, r.keep s hi hb, dx, sm _ e⟩
theorem grows_new {γ : Gho} {H : Hp} {P : Addr} (hP : H P = none) : Grows H γ.bar (γ.to (γ.ι ++ [P])).bar := fun a h => by
  rcases h with h | h | h
  · have h : a ∈ γ.ι ++ [P] := h
    rcases List.mem_append.mp h with h | h
    · exact .inl (.inl h)
    · simp at h; exact .inr (h ▸ hP)
  · exact .inl (.inr (.inl h))
  · exact .inl (.inr (.inr h))
theorem stp_new {γ : Gho} {H H' : Hp} {P : Addr} (hP : H P = none) (sm : ∀ a o, H a = some o → H' a = some o) : Stp γ.ι (γ.ι ++ [P]) H H' :=
  ⟨fun a o e _ => sm a o e, fun a o e _ => sm a o e, fun a o e => ⟨o, sm a o e⟩, [P], rfl, fun a ha => by simp at ha; rw [ha]; exact hP⟩
theorem gr_new {T : Wd} {γ : Gho} {H H' : Hp} {g : G} (R : GR T γ.ι γ.bar H g) {P : Addr} (hP : H P = none) (sm : ∀ a o, H a = some o → H' a = some o) {c : Cell} (rc : RelCell T (γ.ι ++ [P]) (γ.to (γ.ι ++ [P])).bar H' c P) : GR T (γ.ι ++ [P]) (γ.to (γ.ι ++ [P])).bar H' (g ++ [c]) := by
  have n1 : P ∉ γ.ι := fun z => R.tracked P z hP
  refine ⟨by rw [List.length_append, List.length_append, R.len]; rfl, ?_, fun n c' e => ?_⟩
  · rw [List.nodup_append]
    refine ⟨R.nd, by simp, fun a ha b hb z => ?_⟩
    simp at hb
    exact n1 (hb ▸ z ▸ ha)
  · by_cases hn : n < g.length
    · rw [List.getElem?_append_left hn] at e
      obtain ⟨a, e1, rc'⟩ := R.at_ n c' e
      exact ⟨a, by rw [List.getElem?_append_left (by rw [R.len]; exact hn)]; exact e1, rc'.stp (stp_new hP sm) γ.bi (grows_new hP) (sm a)⟩
    · rw [List.getElem?_append_right (by omega)] at e
      have hz : n - g.length = 0 := by
        cases q : n - g.length with
        | zero => rfl
        | succ k => rw [q] at e; simp at e
      rw [hz] at e
      cases e
      exact ⟨P, by rw [List.getElem?_append_right (by rw [R.len]; omega), R.len, hz]; rfl, rc⟩
theorem ref_new {T : Wd} {γ : Gho} {H H' : Hp} {g : G} (R : GR T γ.ι γ.bar H g) {P : Addr} {bar : Addr → Prop} : RelD T (γ.ι ++ [P]) bar H' (.ref g.length) (.ref P) := by
  simp only [RelD]
  exact ⟨P, by rw [List.getElem?_append_right (by rw [R.len]; exact Nat.le_refl _), R.len, Nat.sub_self]; rfl, rfl⟩
def newP (c : Nat) (den : Den) (n q : Nat) (gD : List D → List D → List D) (ds es : List D) (g : G) : Res D := if ds.length = n ∧ es.length = q then (match den (gD (.ref g.length :: ds) es) (g ++ [.ob c []]) with
  | .ok .non g' => .ok (.ref g.length) g'
  | .exc x g' => .exc x g'
  | _ => .bad) else .bad
def mNewO (c : Nat) (den : Den) (n q : Nat) (gD : List D → List D → List D) (m mk : EvL) : Ev := fun ρ g => (m ρ g).bind fun ds g1 => (mk ρ g1).bind fun es g2 => newP c den n q gD ds es g2
theorem guards_make {A : Around} (h : A.guards = some []) (C : Addr) (us : List Value) (kw : List (Str × Value)) : (A.under (.builtin "type.__call__" ⟨.ref C :: us, kw⟩)).guards = some [] := by
  first | exact h | (simpa [Around.under, Code.guards, pushGuards] using h)
section
variable {T : Wd} {W : WX} {X : Cx} {mg : Str → Option Value} {base : Heap} {k : Nat} {x : Str} {ps ks : List Str} {f : Addr} {fd : FuncData} {den : Den} {p pos : Pos} {e : Expr} {es : List Expr} {m mk : EvL} {c n : Nat} {gV : List V → List V → List V} {gD : List D → List D → List D}
theorem new_post {γ : Gho} {H : Hp} {ρ : Env} {σ : L2.St} {g : G} {ds es : List D} {vs zs : List V} {Q : VK} {pins : List (Addr × Obj)} {s : Shared} {us ws : List Value} (M : L2.Mk T.K (T.oc c) f) (F : FnG T mg base k f fd ps den) (dx : DefX T mg base (k + 1) X W) (B : Bd T.K fd ps (n + 1) ks gV gD)
    (I : Inv X pins σ H s) (ru : Vals vs us) (rw_ : Vals zs ws) (S : StR T γ H ρ σ g) (r1 : RelDs T γ.ι γ.bar H ds vs) (r2 : RelDs T γ.ι γ.bar H es zs) (p : Post T γ H σ W (rD T) Q (newP c den n ks.length gD ds es g)) : wpAny (model X.prog X.w) X.A (call (.ref (T.oc c)) us (ks.zip ws)) (EP X pins σ Q) X.xe s := by
  unfold newP at p
  by_cases hl : ds.length = n ∧ es.length = ks.length
  · rw [if_pos hl] at p
    have na : H (s.heap.objs.size + 1) = none := I.hok.fresh (Nat.le_succ _)
    have nd : H s.heap.objs.size = none := I.hok.fresh (Nat.le_refl _)
    have ne : s.heap.objs.size ≠ s.heap.objs.size + 1 := Nat.ne_of_lt (Nat.lt_succ_self _)
    have I2 := Inv.made (C := T.oc c) I
    generalize hH2 : upd (upd H s.heap.objs.size (.own (s.heap.objs.size + 1))) (s.heap.objs.size + 1) (.ins (T.oc c) s.heap.objs.size []) = H2 at I2
    have sm : ∀ a o, H a = some o → H2 a = some o := fun a o e => by
      rw [← hH2, upd_ne (ne_of_none e na), upd_ne (ne_of_none e nd)]
      exact e
    have hx : H2 (s.heap.objs.size + 1) = some (.ins (T.oc c) s.heap.objs.size []) := by rw [← hH2, upd_same]
    have st : Stp γ.ι (γ.ι ++ [s.heap.objs.size + 1]) H H2 := stp_new na sm
    have rc : RelCell T (γ.ι ++ [s.heap.objs.size + 1]) (γ.to (γ.ι ++ [s.heap.objs.size + 1])).bar H2 (.ob c []) (s.heap.objs.size + 1) := ⟨[], .nil, _, hx⟩
    have S2 : StR T (γ.to (γ.ι ++ [s.heap.objs.size + 1])) H2 ρ σ (g ++ [.ob c []]) := S.step st (gr_new S.cells na sm rc)
    have rself : RelD T (γ.ι ++ [s.heap.objs.size + 1]) (γ.to (γ.ι ++ [s.heap.objs.size + 1])).bar H2 (.ref g.length) (.ref (s.heap.objs.size + 1)) := ref_new S.cells
    have ra : RelDs T (γ.ι ++ [s.heap.objs.size + 1]) (γ.to (γ.ι ++ [s.heap.objs.size + 1])).bar H2 (gD (.ref g.length :: ds) es) (gV (.ref (s.heap.objs.size + 1) :: vs) zs) := B.rel (by rw [List.length_cons, hl.1]) hl.2 (.cons rself (r1.keep st γ.bi (Gho.grows st))) (r2.keep st γ.bi (Gho.grows st))
    have inK : T.K.In (s.heap.push PySem.W.emptyDict |>.push (PySem.W.instObj (T.oc c) s.heap.objs.size)) := by rw [← dx.ok.K]; exact I2.kIn
    have l1 : (Value.ref (s.heap.objs.size + 1) :: us).length = n + 1 := by rw [List.length_cons, ← ru.length, r1.length, hl.1]
    have l2 : ws.length = ks.length := by rw [← rw_.length, r2.length, hl.2]
    obtain ⟨xs, hb, rx, lx⟩ := B.to { s with heap := (s.heap.push PySem.W.emptyDict).push (PySem.W.instObj (T.oc c) s.heap.objs.size) } (Value.ref (s.heap.objs.size + 1) :: us) ws (V.ref (s.heap.objs.size + 1) :: vs) zs inK l1 l2 (.cons rfl ru) rw_
    have sp : spD T den (gV (.ref (s.heap.objs.size + 1) :: vs) zs) H2 (fun v H' => v = .non ∧ Q (.ref (s.heap.objs.size + 1)) H') (WE W σ) := by
      refine spD_of S2 ra ?_
      revert p
      cases den (gD (.ref g.length :: ds) es) (g ++ [.ob c []]) with
      | bad => exact fun p => p
      | exc x g' => exact fun p => Post.after (r := .exc x g') st p
      | ok d g' =>
        cases d with
        | non =>
          intro p v ι' H' s1 G1 rv
          refine ⟨by simpa [RelD] using rv, p _ ι' H' (st.trans s1) G1 ?_⟩
          exact rself.keep s1 (γ.to (γ.ι ++ [s.heap.objs.size + 1])).bi (Gho.grows s1)
        | _ => exact fun p => p.elim
    have hMi : PySem.W.makesIn X.K (T.oc c) = true := by rw [dx.ok.K]; exact M.makes
    have hMn : PySem.W.findIn X.K (.ref (T.oc c)) "__init__" = some (some (.ref f)) := by rw [dx.ok.K]; exact M.init
    have hMf : PySem.W.isFn X.K (.ref f) = true := by rw [dx.ok.K]; exact M.fn
    have key : codeAny (model T.P T.w) (X.A.under (.builtin "type.__call__" ⟨.ref (T.oc c) :: us, ks.zip ws⟩)) (.call (.ref f) ⟨.ref (s.heap.objs.size + 1) :: us, ks.zip ws⟩) (CR (L2.CX T.P T.w) X.stack T.P T.w H2 { s with heap := (s.heap.push PySem.W.emptyDict).push (PySem.W.instObj (T.oc c) s.heap.objs.size) } (fun v H' => v = .non ∧ Q (.ref (s.heap.objs.size + 1)) H') (WE W σ)) { s with heap := (s.heap.push PySem.W.emptyDict).push (PySem.W.instObj (T.oc c) s.heap.objs.size) } := by
      refine F.run _ X.stack _ H2 _ xs _ _ _ (dx.room.make (T.oc c) us (ks.zip ws)) (guards_make dx.rm.hg (T.oc c) us (ks.zip ws)) ?_ hb rx lx sp
      have e0 := I2.env0.make (T.oc c) us (ks.zip ws)
      rw [dx.ok.P, dx.ok.w, dx.ok.K, dx.mg, dx.base] at e0
      exact e0
    rw [← dx.ok.P, ← dx.ok.w] at key
    refine wpAny_call (make_map (f := f) I.kIn hMi hMn (beq_iff_eq.mp hMf) (codeAny_mono key fun r s' hq' => ?_))
    cases r with
    | error er => exact passAt dx.tk σ pins H2 _ er s' I2 hq'
    | ok fl =>
      cases fl with
      | ret u =>
        obtain ⟨v, H', I3, rv, ev, q3⟩ := I2.after hq'
        subst ev
        exact ⟨rv, ⟨V.ref (s.heap.objs.size + 1), H', I3, rfl, q3⟩⟩
      | next => exact False.elim hq'
      | brk => exact False.elim hq'
      | cont => exact False.elim hq'
  · rw [if_neg hl] at p
    exact p.elim
/-- what makes a class: its name, its __init__ -/
structure MkN (T : Wd) (mg : Str → Option Value) (base : Heap) (k : Nat) (x : Str) (c : Nat) (ps : List Str) (f : Addr) (fd : FuncData) (den : Den) : Prop where
  M : L2.Mk T.K (T.oc c) f
  fn : FnG T mg base k f fd ps den
  gl : mg x = some (.ref (T.oc c))
theorem ee_new (F : MkN T mg base k x c ps f fd den) (dx : DefX T mg base (k + 1) X W) (B : Bd T.K fd ps (n + 1) [] gV gD) (hg : Gl X x) (ha : EAs T W X (e :: es) m) (hdb : (x == ("__debug__" : Str)) = false := by decide)
    (he : starEach (e :: es) X.env = (false, eval e X.env) :: starEach es X.env := by rfl) (hpl : (backTo pos (starEach es X.env)).any (·.1) = false := by rfl) : EE T W X (.Call (.Name x p) (e :: es) [] pos) (mNewO c den n 0 gD m mNil) := by
  refine ⟨fun pins s σ H Q I h => ?_⟩
  obtain ⟨γ, ρ, g, S, q⟩ := h
  have hk : PySem.W.keepIn X.K (.ref (T.oc c)) = true := by rw [dx.ok.K]; exact F.M.kp
  refine wpAny_Call_Name_kw (ld_glob I hg (by rw [dx.mg]; exact F.gl) ?_ hdb)
  refine PySem.W.callWith_K (h₀ := X.base) I.ok.mod.kin hk (thn (ha.run pos pins s σ H (fun vs H1 => ∃ γ1 g1 ds, StR T γ1 H1 ρ σ g1 ∧ RelDs T γ1.ι γ1.bar H1 ds vs ∧ Post T γ1 H1 σ W (rD T) Q (newP c den n ([] : List Str).length gD ds [] g1)) I ⟨γ, ρ, g, S, q.bind fun ds g1 _ v ι1 H1 s1 G1 r1 p1 => ⟨γ.to ι1, g1, ds, S.step s1 G1, r1, p1⟩⟩) fun us s1 ⟨vs, H1, I1, r, γ1, g1, ds, S1, r1, p1⟩ => ⟨I1.kIn, ?_⟩) he hpl
  exact new_post (ks := []) (ws := []) F.M F.fn dx B I1 r .nil S1 r1 .nil p1
end
end Z
set_option maxHeartbeats 4000000
namespace Z
open PySem PySem.Spec PyProof.Rows L2
set_option autoImplicit false
/-- an around at which a def may run as at X's own -/
structure Aro (X : Cx) (k : Nat) (A' : Around) : Prop where
  room : Room k A'
  hg : A'.guards = some []
  env : ∀ {pins : List (Addr × Obj)} {σ : L2.St} {H : Hp} {s : Shared}, Inv X pins σ H s → Env0 X.prog X.w X.K X.mg X.base A' X.stack s H
section
variable {T : Wd} {W : WX} {X : Cx} {mg : Str → Option Value} {base : Heap} {k k0 : Nat} {x : Str} {ps ks : List Str} {f : Addr} {fd : FuncData} {den : Den} {n : Nat} {A' : Around}
theorem aro0 (dx : DefX T mg base k X W) : Aro X k X.A := ⟨dx.room, dx.rm.hg, fun I => I.env0⟩
theorem aro1 (dx : DefX T mg base (k + 1) X W) : Aro X k X.A.in1 := ⟨dx.room.in1, dx.rm.hg, fun I => I.env0.in1⟩
theorem aro2 (dx : DefX T mg base (k + 2) X W) : Aro X k X.A.in1.in1 := ⟨dx.room.in1.in1, dx.rm.hg, fun I => I.env0.in1.in1⟩
theorem run_fnA {pins : List (Addr × Obj)} {σ : L2.St} {H : Hp} {s : Shared} {Q : VK} {us : List Value} {vs : List V} {args : Args} (ar : Aro X k A') (F : FnG T mg base k f fd ps den) (dx : DefX T mg base k0 X W) (hb : BindsTo s fd args (ps.zip us)) (I : Inv X pins σ H s) (r : Vals vs us) (hl : vs.length = ps.length) (h : spD T den vs H Q (WE W σ)) :
    codeAny (model X.prog X.w) A' (.call (.ref f) args) (fun r s' => match r with
      | .ok (.ret u) => EP X pins σ Q u s'
      | .ok _ => False
      | .error e => X.xe e s') s := by
  have e0 := ar.env I
  have key : codeAny (model T.P T.w) A' (.call (.ref f) args) (CR (L2.CX T.P T.w) X.stack T.P T.w H s Q (WE W σ)) s := by
    refine F.run A' X.stack s H args us vs Q _ ar.room ar.hg ?_ hb r hl h
    rw [← dx.ok.P, ← dx.ok.w, ← dx.ok.K, ← dx.mg, ← dx.base]
    exact e0
  rw [← dx.ok.P, ← dx.ok.w] at key
  refine codeAny_mono key fun r s' hq => ?_
  cases r with
  | error er => exact passAt dx.tk σ pins H s er s' I hq
  | ok fl =>
    cases fl with
    | ret u => exact I.after hq
    | next => exact hq
    | brk => exact hq
    | cont => exact hq
end
/-- the def at f, called with n values and these keywords -/
structure RunsK (T : Wd) (mg : Str → Option Value) (base : Heap) (k : Nat) (f : Addr) (den : Den) (n : Nat) (ks : List Str) (gD : List D → List D → List D) : Prop where
  run : ∀ {W : WX} {X : Cx} {A' : Around} {k0 : Nat} {γ : Gho} {H : Hp} {ρ : Env} {σ : L2.St} {g : G} {ds es : List D} {vs zs : List V} {Q : VK} {pins : List (Addr × Obj)} {s : Shared} {us ws : List Value}, Aro X k A' → DefX T mg base k0 X W → Inv X pins σ H s → Vals vs us → Vals zs ws → StR T γ H ρ σ g →
    RelDs T γ.ι γ.bar H ds vs → RelDs T γ.ι γ.bar H es zs → ds.length = n → es.length = ks.length → Post T γ H σ W (rD T) Q (den (gD ds es) g) → wpAny (model X.prog X.w) A' (call (.ref f) us (ks.zip ws)) (EP X pins σ Q) X.xe s
theorem RunsK.mono {T : Wd} {mg : Str → Option Value} {base : Heap} {j k : Nat} {f : Addr} {den : Den} {n : Nat} {ks : List Str} {gD : List D → List D → List D} (F : RunsK T mg base j f den n ks gD) (h : j ≤ k) : RunsK T mg base k f den n ks gD :=
  ⟨fun ar => F.run ⟨ar.room.mono h, ar.hg, ar.env⟩⟩
theorem RunsK.of {T : Wd} {mg : Str → Option Value} {base : Heap} {k : Nat} {ps ks : List Str} {f : Addr} {fd : FuncData} {den : Den} {n : Nat} {gV : List V → List V → List V} {gD : List D → List D → List D} (F : FnG T mg base k f fd ps den) (B : Bd T.K fd ps n ks gV gD) : RunsK T mg base k f den n ks gD := by
  refine ⟨fun {W X A' k0 γ H ρ σ g ds es vs zs Q pins s us ws} ar dx I ru rw_ S r1 r2 h1 h2 p => ?_⟩
  have inK : T.K.In s.heap := by rw [← dx.ok.K]; exact I.kIn
  have l1 : us.length = n := by rw [← ru.length, r1.length, h1]
  have l2 : ws.length = ks.length := by rw [← rw_.length, r2.length, h2]
  obtain ⟨xs, hb, rx, lx⟩ := B.to s us ws vs zs inK l1 l2 ru rw_
  refine wpAny_call (codeAny_mono (run_fnA ar F dx hb I rx lx (spD_of S (B.rel h1 h2 r1 r2) p)) fun r s' hq => ?_)
  cases r with
  | error er => exact hq
  | ok fl =>
    cases fl with
    | ret u => exact hq
    | next => exact hq
    | brk => exact hq
    | cont => exact hq
abbrev MtTab := List (Nat × Den × (List D → List D → List D))
def methP (x : Str) (tab : MtTab) (n q : Nat) (m mk : EvL) (ρ : Env) (d : D) (g0 : G) : Res D := match d with
  | .ref i => match g0[i]? with
    | some (.ob c fs) => match tab.lookup c with
      | some (den, gD) => if (fs.lookup x).isNone = true then (m ρ g0).bind fun ds g1 => (mk ρ g1).bind fun es g2 => if ds.length = n ∧ es.length = q then den (gD (.ref i :: ds) es) g2 else .bad else .bad
      | none => .bad
    | _ => .bad
  | _ => .bad
def mMethO (x : Str) (tab : MtTab) (n q : Nat) (o : Ev) (m mk : EvL) : Ev := fun ρ g => (o ρ g).bind fun d g0 => methP x tab n q m mk ρ d g0
structure MtK (T : Wd) (mg : Str → Option Value) (base : Heap) (k : Nat) (x : Str) (c n : Nat) (ks : List Str) (den : Den) (gD : List D → List D → List D) : Prop where
  ex : ∃ (f : Addr), Cls T.K (T.oc c) ∧ Meth T.K (T.oc c) x f ∧ PySem.W.fnIn T.K f = true ∧ RunsK T mg base k f den (n + 1) ks gD
def MtT (T : Wd) (mg : Str → Option Value) (base : Heap) (k : Nat) (x : Str) (n : Nat) (ks : List Str) (tab : MtTab) : Prop := ∀ c den gD, tab.lookup c = some (den, gD) → MtK T mg base k x c n ks den gD
section
variable {T : Wd} {W : WX} {X : Cx} {mg : Str → Option Value} {base : Heap} {k : Nat} {x : Str} {ps ks : List Str} {f : Addr} {fd : FuncData} {den : Den} {p pos apos : Pos} {o e : Expr} {es : List Expr} {mo : Ev} {m mk : EvL} {c n : Nat} {gV : List V → List V → List V} {gD : List D → List D → List D} {tab : MtTab}
theorem MtK.mono {j : Nat} (F : MtK T mg base j x c n ks den gD) (h : j ≤ k) : MtK T mg base k x c n ks den gD := by
  obtain ⟨f, a, b, fi, F⟩ := F.ex
  exact ⟨f, a, b, fi, F.mono h⟩
theorem mtt_nil : MtT T mg base k x n ks [] := fun c den gD h => by cases h
theorem mtt_cons (F : MtK T mg base k x c n ks den gD) (h : MtT T mg base k x n ks tab) : MtT T mg base k x n ks ((c, den, gD) :: tab) := fun c' den' gD' e => by
  have e : (match c' == c with | true => some (den, gD) | false => tab.lookup c') = some (den', gD') := e
  cases q : c' == c with
  | true =>
    rw [q] at e
    cases e
    rw [eq_of_beq q]
    exact F
  | false => rw [q] at e; exact h c' den' gD' e
/-- the call of the method, its arguments known -/
theorem meth_post {γ : Gho} {H : Hp} {ρ : Env} {σ : L2.St} {g : G} {i : Nat} {a : Addr} {ds es : List D} {vs zs : List V} {Q : VK} {pins : List (Addr × Obj)} {s : Shared} {us ws : List Value} (F : RunsK T mg base k f den (n + 1) ks gD) (dx : DefX T mg base k X W)
    (I : Inv X pins σ H s) (ra : γ.ι[i]? = some a) (ru : Vals vs us) (rw_ : Vals zs ws) (S : StR T γ H ρ σ g) (r1 : RelDs T γ.ι γ.bar H ds vs) (r2 : RelDs T γ.ι γ.bar H es zs) (p : Post T γ H σ W (rD T) Q (if ds.length = n ∧ es.length = ks.length then den (gD (.ref i :: ds) es) g else .bad)) : wpAny (model X.prog X.w) X.A (call (.ref f) (.ref a :: us) (ks.zip ws)) (EP X pins σ Q) X.xe s := by
  by_cases hl : ds.length = n ∧ es.length = ks.length
  · rw [if_pos hl] at p
    have rs : RelD T γ.ι γ.bar H (.ref i) (.ref a) := by simp only [RelD]; exact ⟨a, ra, rfl⟩
    exact F.run (vs := .ref a :: vs) (aro0 dx) dx I (.cons rfl ru) rw_ S (.cons rs r1) r2 (by rw [List.length_cons, hl.1]) hl.2 p
  · rw [if_neg hl] at p; exact p.elim
theorem meth_at {γ : Gho} {H : Hp} {ρ : Env} {σ : L2.St} {g : G} {q : Nat} {d : D} {v : V} {Q : VK} (S : StR T γ H ρ σ g) (r : RelW T γ.ι γ.bar H d v) (p : Post T γ H σ W (rD T) Q (methP x tab n q m mk ρ d g)) :
    ∃ (i c : Nat) (fs : List (Str × D)) (den : Den) (gD : List D → List D → List D) (a : Addr) (ws : List V) (dx : Addr), γ.ι[i]? = some a ∧ v = .ref a ∧ tab.lookup c = some (den, gD) ∧ H a = some (.ins (T.oc c) dx ((fs.map (·.1)).zip ws)) ∧ ((fs.map (·.1)).zip ws).lookup x = none ∧ Post T γ H σ W (rD T) Q ((m ρ g).bind fun ds g1 => (mk ρ g1).bind fun es g2 => if ds.length = n ∧ es.length = q then den (gD (.ref i :: ds) es) g2 else .bad) := by
  unfold methP at p
  cases d with
  | ref i =>
    dsimp only at p
    cases hg : g[i]? with
    | none => rw [hg] at p; exact p.elim
    | some cl =>
      rw [hg] at p
      cases cl with
      | ob c fs =>
        dsimp only at p
        cases ht : tab.lookup c with
        | none => rw [ht] at p; exact p.elim
        | some dg =>
          obtain ⟨den, gD⟩ := dg
          rw [ht] at p
          dsimp only at p
          cases hl : (fs.lookup x).isNone with
          | false => rw [hl] at p; exact p.elim
          | true =>
            rw [hl, if_pos rfl] at p
            obtain ⟨a, e1, rfl⟩ := RelW.ref r
            obtain ⟨b, e2, ws, q1, dx, q3⟩ := S.cells.at_ i _ hg
            have : b = a := by rw [e1] at e2; cases e2; rfl
            subst this
            exact ⟨i, c, fs, den, gD, b, ws, dx, e1, rfl, ht, q3, lu_none q1 (Option.isNone_iff_eq_none.mp hl), p⟩
      | _ => exact p.elim
  | _ => exact p.elim
theorem ee_meth {pl : Sem Bool} (F : MtT T mg base k x n [] tab) (dx : DefX T mg base k X W) (ho : EW T W X o mo) (ha : EAs T W X (e :: es) m)
    (hst : starEach (e :: es) X.env = (false, eval e X.env) :: starEach es X.env := by rfl) (hpl : (backTo pos (starEach es X.env)).any (·.1) = false := by rfl)
    (ht : eval (.Call (.Attribute o x apos) (e :: es) [] pos) X.env = (do
      let ov ← eval o X.env
      standAt apos.atName
      let (f, first) ← holding [ov] (getMethod ov x pl)
      callWith pos f first (backTo pos (starEach (e :: es) X.env)) (backToKw pos (keywordEach [] X.env))) := by rfl) : EE T W X (.Call (.Attribute o x apos) (e :: es) [] pos) (mMethO x tab n 0 mo m mNil) := by
  refine ⟨fun pins s σ H Q I h => ?_⟩
  obtain ⟨γ, ρ, g, S, q⟩ := h
  refine PySem.W.methodCall_KW (pl := pl) (thn (ho.run pins s σ H (fun x1 H1 => ∃ γ1 g1 d, StR T γ1 H1 ρ σ g1 ∧ RelW T γ1.ι γ1.bar H1 d x1 ∧ Post T γ1 H1 σ W (rD T) Q (methP x tab n 0 m mNil ρ d g1)) I ⟨γ, ρ, g, S, q.bind fun d g1 _ v ι1 H1 s1 G1 r1 p1 => ⟨γ.to ι1, g1, d, S.step s1 G1, r1, p1⟩⟩) fun u s1 ⟨v, H1, I1, rv, γ1, g1, d, S1, r1, p1⟩ => ?_) ht
  obtain ⟨i, c, fs, den, gD, a, ws, dx0, e1, rfl, ht2, ea, hl, p2⟩ := meth_at S1 r1 p1
  obtain ⟨f, hc, hm, _, Fn⟩ := (F c den gD ht2).ex
  obtain rfl : u = Value.ref a := rv
  have hk : PySem.W.keepIn X.K (.ref f) = true := by rw [dx.ok.K]; exact hm.kp
  refine getmeth_ok I1 ea (by rw [dx.ok.K]; exact hc) (by rw [dx.ok.K]; exact hm) hl ?_
  refine PySem.W.callWith_K (first := [.ref a]) (h₀ := X.base) I1.ok.mod.kin hk (thn (ha.run pos pins s1 σ H1 (fun vs H2 => ∃ γ2 g2 ds, StR T γ2 H2 ρ σ g2 ∧ γ2.ι[i]? = some a ∧ RelDs T γ2.ι γ2.bar H2 ds vs ∧ Post T γ2 H2 σ W (rD T) Q (if ds.length = n ∧ ([] : List D).length = ([] : List Str).length then den (gD (.ref i :: ds) []) g2 else .bad)) I1 ⟨γ1, ρ, g1, S1, p2.bind fun ds g2 _ vs ι2 H2 s2 G2 r2 p3 => ⟨γ1.to ι2, g2, ds, S1.step s2 G2, s2.get e1, r2, p3⟩⟩) fun us s2 ⟨vs, H2, I2, r, γ2, g2, ds, S2, e2, r2, p3⟩ => ⟨I2.kIn, ?_⟩) hst hpl
  exact meth_post (ks := []) (ws := []) Fn dx I2 e2 r .nil S2 r2 .nil p3
theorem ee_meth0 {pl : Sem Bool} (F : MtT T mg base k x 0 [] tab) (dx : DefX T mg base k X W) (ho : EW T W X o mo)
    (ht : eval (.Call (.Attribute o x apos) [] [] pos) X.env = (do
      let ov ← eval o X.env
      standAt apos.atName
      let (f, first) ← holding [ov] (getMethod ov x pl)
      callWith pos f first (backTo pos (starEach [] X.env)) (backToKw pos (keywordEach [] X.env))) := by rfl) : EE T W X (.Call (.Attribute o x apos) [] [] pos) (mMethO x tab 0 0 mo mNil mNil) := by
  refine ⟨fun pins s σ H Q I h => ?_⟩
  obtain ⟨γ, ρ, g, S, q⟩ := h
  refine PySem.W.methodCall_KW (pl := pl) (thn (ho.run pins s σ H (fun x1 H1 => ∃ γ1 g1 d, StR T γ1 H1 ρ σ g1 ∧ RelW T γ1.ι γ1.bar H1 d x1 ∧ Post T γ1 H1 σ W (rD T) Q (methP x tab 0 0 mNil mNil ρ d g1)) I ⟨γ, ρ, g, S, q.bind fun d g1 _ v ι1 H1 s1 G1 r1 p1 => ⟨γ.to ι1, g1, d, S.step s1 G1, r1, p1⟩⟩) fun u s1 ⟨v, H1, I1, rv, γ1, g1, d, S1, r1, p1⟩ => ?_) ht
  obtain ⟨i, c, fs, den, gD, a, ws, dx0, e1, rfl, ht2, ea, hl, p2⟩ := meth_at S1 r1 p1
  obtain ⟨f, hc, hm, _, Fn⟩ := (F c den gD ht2).ex
  obtain rfl : u = Value.ref a := rv
  have hk : PySem.W.keepIn X.K (.ref f) = true := by rw [dx.ok.K]; exact hm.kp
  refine getmeth_ok I1 ea (by rw [dx.ok.K]; exact hc) (by rw [dx.ok.K]; exact hm) hl ?_
  exact PySem.W.callWith_K0 (first := [.ref a]) I1.kIn hk (meth_post (ks := []) (ws := []) (us := []) (vs := []) (ds := []) Fn dx I1 e1 .nil .nil S1 .nil .nil p2)
end
def propP (tab : List (Nat × Den)) (d : D) (g0 : G) : Res D := match d with
  | .ref i => match g0[i]? with
    | some (.ob c fs) => match tab.lookup c with
      | some den => (match den [.ref i] g0 with
        | .ok d g => .ok d g
        | _ => .bad)
      | none => .bad
    | _ => .bad
  | _ => .bad
def mPropO (tab : List (Nat × Den)) (o : Ev) : Ev := fun ρ g => (o ρ g).bind fun d g0 => propP tab d g0
structure PrK (T : Wd) (mg : Str → Option Value) (base : Heap) (k : Nat) (x : Str) (c : Nat) (den : Den) : Prop where
  ex : ∃ (p f : Addr) (fd : FuncData) (ps : List Str) (gV : List V → List V → List V) (gD : List D → List D → List D), Cls T.K (T.oc c) ∧ PropOf T.K (T.oc c) x p f ∧ FnG T mg base k f fd ps den ∧ Bd T.K fd ps 1 [] gV gD ∧ ∀ d, gD [d] [] = [d]
def PrT (T : Wd) (mg : Str → Option Value) (base : Heap) (k : Nat) (x : Str) (tab : List (Nat × Den)) : Prop := ∀ c den, tab.lookup c = some den → PrK T mg base k x c den
section
variable {T : Wd} {W : WX} {X : Cx} {mg : Str → Option Value} {base : Heap} {k : Nat} {x : Str} {den : Den} {pos : Pos} {o : Expr} {mo : Ev} {c : Nat} {tab : List (Nat × Den)}
theorem PrK.mono {j : Nat} (F : PrK T mg base j x c den) (h : j ≤ k) : PrK T mg base k x c den := by
  obtain ⟨p, f, fd, ps, gV, gD, a, b, F, B⟩ := F.ex
  exact ⟨p, f, fd, ps, gV, gD, a, b, F.mono h, B⟩
theorem prt_nil : PrT T mg base k x [] := fun c den h => by cases h
theorem prt_cons (F : PrK T mg base k x c den) (h : PrT T mg base k x tab) : PrT T mg base k x ((c, den) :: tab) := fun c' den' e => by
  have e : (match c' == c with | true => some den | false => tab.lookup c') = some den' := e
  cases q : c' == c with
  | true =>
    rw [q] at e
    cases e
    rw [eq_of_beq q]
    exact F
  | false => rw [q] at e; exact h c' den' e
theorem ee_prop (F : PrT T mg base k x tab) (dx : DefX T mg base (k + 1) X W) (ho : EW T W X o mo) (hab : attributeBase o x X.env (eval o X.env) = eval o X.env := by rfl) : EE T W X (.Attribute o x pos) (mPropO tab mo) := by
  refine ⟨fun pins s σ H Q I h => ?_⟩
  obtain ⟨γ, ρ, g, S, q⟩ := h
  refine attr_of hab (thn (ho.run pins s σ H (fun x1 H1 => ∃ γ1 g1 d, StR T γ1 H1 ρ σ g1 ∧ RelW T γ1.ι γ1.bar H1 d x1 ∧ Post T γ1 H1 σ W (rD T) Q (propP tab d g1)) I ⟨γ, ρ, g, S, q.bind fun d g1 _ v ι1 H1 s1 G1 r1 p1 => ⟨γ.to ι1, g1, d, S.step s1 G1, r1, p1⟩⟩) fun u s1 ⟨v, H1, I1, rv, γ1, g1, d, S1, r1, p1⟩ => ?_)
  unfold propP at p1
  cases d with
  | ref i =>
    dsimp only at p1
    cases hg : g1[i]? with
    | none => rw [hg] at p1; exact p1.elim
    | some cl =>
      rw [hg] at p1
      cases cl with
      | ob c fs =>
        dsimp only at p1
        cases ht : tab.lookup c with
        | none => rw [ht] at p1; exact p1.elim
        | some den =>
          rw [ht] at p1
          dsimp only at p1
          obtain ⟨a, e1, rfl⟩ := RelW.ref r1
          obtain ⟨b, e2, ws, q1, dx0, ea⟩ := S1.cells.at_ i _ hg
          have : b = a := by rw [e1] at e2; cases e2; rfl
          subst this
          obtain rfl : u = Value.ref b := rv
          obtain ⟨p, f, fd, ps, gV, gD, hc, hp, Fn, B, hgD⟩ := (F c den ht).ex
          have rs : RelD T γ1.ι γ1.bar H1 (.ref i) (.ref b) := by simp only [RelD]; exact ⟨b, e1, rfl⟩
          have sp : spD T den (gV [.ref b] []) H1 Q (fun _ _ _ => False) := by
            have rel := B.rel (T := T) (ι := γ1.out.ι) (bar := γ1.out.bar) (H := H1) (ds := [.ref i]) (es := []) (vs := [.ref b]) (zs := []) rfl rfl (.cons (rs.fewer fun a h => Gho.out_bar.mp h) .nil) .nil
            rw [hgD] at rel
            refine ⟨γ1.out, [.ref i], g1, S1.cells.fewer fun a h => Gho.out_bar.mp h, fun _ => rfl, fun a h => S1.bart a (Gho.out_bar.mp (.inr (.inr h))), rel, ?_⟩
            revert p1
            cases den [.ref i] g1 with
            | bad => exact fun p => p
            | exc x g' => exact fun p => p.elim
            | ok d g' => exact fun p v ι' H' s1 G1 r1 => p v ι' H' s1 (G1.fewer fun a h => out_to.mpr h) (r1.fewer fun a h => out_to.mpr h)
          obtain ⟨mA, O, _, _, _, _⟩ := ins_get I1.hok ea
          obtain ⟨od, J, _⟩ := O.look
          have hp' : PropOf X.K (T.oc c) x p f := by rw [dx.ok.K]; exact hp
          have hc' : Cls X.K (T.oc c) := by rw [dx.ok.K]; exact hc
          obtain ⟨rest, hrec⟩ := hp'.rec_
          have I2 := I1.tok (s1.toks + 1)
          have inK : T.K.In ({ s1 with toks := s1.toks + 1 } : Shared).heap := by rw [← dx.ok.K]; exact I1.kIn
          obtain ⟨xs, hb, rx, lx⟩ := B.to { s1 with toks := s1.toks + 1 } [.ref b] [] [.ref b] [] inK rfl rfl (.cons rfl .nil) .nil
          have hcl : (PySem.W.clsIn X.K (T.oc c)).isSome = true := by
            obtain ⟨cd, hc, _⟩ := PySem.W.any_some hc'.hd
            rw [hc]
            rfl
          have key : codeAny (model T.P T.w) X.A.in1 (.call (.ref f) ⟨[.ref b], []⟩) (CR (L2.CX T.P T.w) X.stack T.P T.w H1 { s1 with toks := s1.toks + 1 } Q (fun _ _ _ => False)) { s1 with toks := s1.toks + 1 } := by
            refine Fn.run X.A.in1 X.stack _ H1 ⟨[.ref b], []⟩ xs _ Q _ dx.room.in1 dx.rm.hg ?_ hb rx lx sp
            have e0 := I2.env0.in1
            rw [dx.ok.P, dx.ok.w, dx.ok.K, dx.mg, dx.base] at e0
            exact e0
          rw [← dx.ok.P, ← dx.ok.w] at key
          refine PySem.W.get_bind I1.kIn J (PySem.W.plainGet_of (hc'.get x)).1 (PySem.W.findObj_data hcl hp'.at_ hp'.get hp'.tak) (PySem.W.plainGet_of (hc'.get x)).2 (wpAny_call (PySem.W.prop_get (s := { s1 with toks := s1.toks + 1 }) I1.kIn hrec ?_))
          refine codeAny_mono key fun r s' hq => ?_
          cases r with
          | error er =>
            obtain ⟨_, _, _, _, _, _, _, _, _, _, _, _, z⟩ := hq
            exact z.elim
          | ok fl =>
            cases fl with
            | ret u =>
              obtain ⟨v, H', I3, rv, q3⟩ := I2.after hq
              show wpAny _ _ (handedOut u) _ _ _
              rw [PySem.W.handedOut_of (handed_of rv)]
              exact wpAny_pure ⟨v, H', I3, rv, q3⟩
            | next => exact False.elim hq
            | brk => exact False.elim hq
            | cont => exact False.elim hq
      | _ => exact p1.elim
  | _ => exact p1.elim
end
end Z
set_option maxHeartbeats 4000000
namespace Z
open PySem PySem.Spec PyProof.Rows L2
set_option autoImplicit false
def dunP (tab : MtTab) (d : D) (ds : List D) (g : G) : Res D := match d with
  | .ref i => match g[i]? with
    | some (.ob c fs) => match tab.lookup c with
      | some (den, gD) => den (gD (.ref i :: ds) []) g
      | none => .bad
    | _ => .bad
  | _ => .bad
section
variable {T : Wd} {W : WX} {X : Cx} {mg : Str → Option Value} {base : Heap} {k k0 : Nat} {x : Str} {ps ks : List Str} {f : Addr} {fd : FuncData} {den : Den} {n : Nat} {tab : MtTab} {A' : Around}
/-- the object, its method, the method's call -/
theorem dun_run2 {γ : Gho} {H : Hp} {ρ : Env} {σ : L2.St} {g : G} {d : D} {v : V} {ds : List D} {vs : List V} {Q : VK} {pins : List (Addr × Obj)} {s : Shared} {u : Value} {us : List Value} (ar : Aro X k A') (F : MtT T mg base k x n [] tab) (dx : DefX T mg base k0 X W) (S : StR T γ H ρ σ g) (I : Inv X pins σ H s)
    (r : RelW T γ.ι γ.bar H d v) (rv : RelV v u) (rs : RelDs T γ.ι γ.bar H ds vs) (ru : Vals vs us) (hn : ds.length = n) (p : Post T γ H σ W (rD T) Q (dunP tab d ds g)) :
    ∃ (a C f : Addr) (ox od : Obj), (∃ (c i : Nat) (dg : Den × (List D → List D → List D)) (fs : List (Str × D)), d = .ref i ∧ g[i]? = some (.ob c fs) ∧ C = T.oc c ∧ tab.lookup c = some dg) ∧ u = .ref a ∧ PySem.W.InstAt s.heap a ox C (some od) ∧ PySem.W.findIn X.K (.ref C) x = some (some (.ref f)) ∧ PySem.W.isFn X.K (.ref f) = true ∧ PySem.W.fnIn X.K f = true ∧ wpAny (model X.prog X.w) A' (call (.ref f) (.ref a :: us)) (EP X pins σ Q) X.xe s := by
  unfold dunP at p
  cases d with
  | ref i =>
    dsimp only at p
    cases hg : g[i]? with
    | none => rw [hg] at p; exact p.elim
    | some cl =>
      rw [hg] at p
      cases cl with
      | ob c fs =>
        dsimp only at p
        cases ht : tab.lookup c with
        | none => rw [ht] at p; exact p.elim
        | some dg =>
          obtain ⟨den, gD⟩ := dg
          rw [ht] at p
          dsimp only at p
          obtain ⟨a, e1, rfl⟩ := RelW.ref r
          obtain ⟨b, e2, ws, q1, dx0, q3⟩ := S.cells.at_ i _ hg
          have : b = a := by rw [e1] at e2; cases e2; rfl
          subst this
          obtain rfl : u = Value.ref b := rv
          obtain ⟨f, hc, hm, fi, Fn⟩ := (F c den gD ht).ex
          obtain ⟨mA, O, _, _, _, _⟩ := ins_get I.hok q3
          obtain ⟨od, J, _⟩ := O.look
          have rself : RelD T γ.ι γ.bar H (.ref i) (.ref b) := by simp only [RelD]; exact ⟨b, e1, rfl⟩
          exact ⟨b, T.oc c, f, _, od, ⟨c, i, (den, gD), fs, rfl, hg, rfl, ht⟩, rfl, J, by rw [dx.ok.K]; exact hm.at_, by rw [dx.ok.K]; exact hm.fn, by rw [dx.ok.K]; exact fi, Fn.run (vs := .ref b :: vs) (zs := []) (es := []) (us := .ref b :: us) (ws := []) ar dx I (.cons rfl ru) .nil S (.cons rself rs) .nil (by rw [List.length_cons, hn]) rfl p⟩
      | _ => exact p.elim
  | _ => exact p.elim
theorem dun_run {γ : Gho} {H : Hp} {ρ : Env} {σ : L2.St} {g : G} {d : D} {v : V} {ds : List D} {vs : List V} {Q : VK} {pins : List (Addr × Obj)} {s : Shared} {u : Value} {us : List Value} (ar : Aro X k A') (F : MtT T mg base k x n [] tab) (dx : DefX T mg base k0 X W) (S : StR T γ H ρ σ g) (I : Inv X pins σ H s)
    (r : RelW T γ.ι γ.bar H d v) (rv : RelV v u) (rs : RelDs T γ.ι γ.bar H ds vs) (ru : Vals vs us) (hn : ds.length = n) (p : Post T γ H σ W (rD T) Q (dunP tab d ds g)) :
    ∃ (a C f : Addr) (ox od : Obj), u = .ref a ∧ PySem.W.InstAt s.heap a ox C (some od) ∧ PySem.W.findIn X.K (.ref C) x = some (some (.ref f)) ∧ PySem.W.isFn X.K (.ref f) = true ∧ PySem.W.fnIn X.K f = true ∧ wpAny (model X.prog X.w) A' (call (.ref f) (.ref a :: us)) (EP X pins σ Q) X.xe s := by
  obtain ⟨a, C, f, ox, od, _, z⟩ := dun_run2 ar F dx S I r rv rs ru hn p
  exact ⟨a, C, f, ox, od, z⟩
end
def mLenO (tab : MtTab) (o : Ev) : Ev := fun ρ g => (o ρ g).bind fun d g0 => (dunP tab d [] g0).bind fun r g1 => match r with
  | .int n => if 0 ≤ n ∧ n < 2 ^ 63 then .ok (.int n) g1 else .bad
  | _ => .bad
section
variable {T : Wd} {W : WX} {X : Cx} {mg : Str → Option Value} {base : Heap} {k : Nat} {x : Str} {p pos : Pos} {o e : Expr} {mo me : Ev} {tab : MtTab}
/-- what stands behind len -/
theorem len_back {γ : Gho} {H : Hp} {σ : L2.St} {Q : VK} {r : Res D} (p : Post T γ H σ W (rD T) Q (r.bind fun r g1 => match r with
  | .int n => if 0 ≤ n ∧ n < 2 ^ 63 then .ok (.int n) g1 else .bad
  | _ => .bad)) : Post T γ H σ W (rD T) (fun v H' => ∃ n : Int, v = .int n ∧ (0 ≤ n ∧ n < 2 ^ 63) ∧ Q (.int n) H') r := by
  cases r with
  | bad => exact p
  | exc x g' => exact p
  | ok d g' =>
    intro v ι' H' s1 G1 rv
    cases d with
    | int n =>
      have p : Post T γ H σ W (rD T) Q (if 0 ≤ n ∧ n < 2 ^ 63 then .ok (.int n) g' else .bad) := p
      by_cases hn : 0 ≤ n ∧ n < 2 ^ 63
      · rw [if_pos hn] at p
        have ev : v = .int n := by simpa [RelD] using rv
        exact ⟨n, ev, hn, p _ ι' H' s1 G1 (by simp [RelD])⟩
      · rw [if_neg hn] at p; exact p.elim
    | _ => exact p.elim
theorem ee_lenO (F : MtT T mg base k "__len__" 0 [] tab) (dx : DefX T mg base (k + 1) X W) (ho : EW T W X o mo) (hg : Gl X "len") (hm : X.mg "len" = none) (hv : bootBuiltins "len" = some (.builtin "len") := by rfl)
    (hs : starEach [o] X.env = (false, eval o X.env) :: starEach [] X.env := by rfl) : EE T W X (.Call (.Name "len" p) [o] [] pos) (mLenO tab mo) := by
  refine ⟨fun pins s σ H Q I h => ?_⟩
  obtain ⟨γ, ρ, g, S, q⟩ := h
  refine wpAny_Call_Name_kw (ld_blt I hg hm hv ?_ (by decide) (by decide))
  refine PyProof.Rows.callWith_builtin1 (thn ((pa_cons ho pa_nil hs).run pos pins s σ H (fun vs H1 => ∃ v γ1 g1 d, vs = [v] ∧ StR T γ1 H1 ρ σ g1 ∧ RelW T γ1.ι γ1.bar H1 d v ∧ Post T γ1 H1 σ W (rD T) (fun v H' => ∃ n : Int, v = .int n ∧ (0 ≤ n ∧ n < 2 ^ 63) ∧ Q (.int n) H') (dunP tab d [] g1)) I ⟨γ, ρ, g, S, q.bind fun d g1 _ v ι1 H1 s1 G1 r1 p1 => ⟨v, γ.to ι1, g1, d, rfl, S.step s1 G1, r1, len_back p1⟩⟩) fun us s1 ⟨vs, H1, I1, r, v, γ1, g1, d, ev, S1, r1, p1⟩ => ?_) hs rfl
  subst ev
  cases r with
  | cons rv rn =>
    cases rn with
    | nil =>
      obtain ⟨a, C, f, ox, od, rfl, J, h1, h2, h3, h4⟩ := dun_run (aro1 dx) F dx S1 I1 r1 rv .nil .nil rfl p1
      obtain ⟨mF, fr⟩ := I1.fr
      refine PySem.W.len_K fr I1.mod.kin J h1 h2 (wpAny_mono h4 (fun u s2 hq => ?_) fun _ _ z => z)
      obtain ⟨v2, H2, I2, rv2, n, rfl, hn, q2⟩ := hq
      obtain ⟨t, rfl⟩ := (show ∃ t, u = Value.int n t from rv2)
      exact ⟨hn, .int n, H2, I2.tok _, ⟨_, rfl⟩, q2⟩
def mItemO (tab : MtTab) (o e : Ev) : Ev := fun ρ g => (o ρ g).bind fun d g0 => (e ρ g0).bind fun i g1 => dunP tab d [i] g1
theorem ee_itemO (F : MtT T mg base k "__getitem__" 1 [] tab) (dx : DefX T mg base (k + 1) X W) (ho : EW T W X o mo) (he : EE T W X e me)
    (hsl : ∀ (a : Addr) (i : Value), subscripted e true (.ref a) i = runValue (.builtin "lifetime.subscript" ⟨[.ref a, i], []⟩) := by intro _ _; with_unfolding_all rfl) : EE T W X (.Subscript o e pos) (mItemO tab mo me) := by
  refine ⟨fun pins s σ H Q I h => ?_⟩
  obtain ⟨γ, ρ, g, S, q⟩ := h
  refine Subscript_ (thn (ho.run pins s σ H (fun v H1 => ∃ γ1 g1 d, StR T γ1 H1 ρ σ g1 ∧ RelW T γ1.ι γ1.bar H1 d v ∧ Post T γ1 H1 σ W (rD T) Q ((me ρ g1).bind fun i g2 => dunP tab d [i] g2)) I ⟨γ, ρ, g, S, q.bind fun d g1 _ v ι1 H1 s1 G1 r1 p1 => ⟨γ.to ι1, g1, d, S.step s1 G1, r1, p1⟩⟩) fun u s1 ⟨v, H1, I1, rv, γ1, g1, d, S1, r1, p1⟩ => ?_)
  refine thn (he.run pins s1 σ H1 (fun w H2 => ∃ γ2 g2 i, StR T γ2 H2 ρ σ g2 ∧ RelW T γ2.ι γ2.bar H2 d v ∧ RelD T γ2.ι γ2.bar H2 i w ∧ Post T γ2 H2 σ W (rD T) Q (dunP tab d [i] g2)) I1 ⟨γ1, ρ, g1, S1, p1.bind fun i g2 _ w ι2 H2 s2 G2 r2 p2 => ⟨γ1.to ι2, g2, i, S1.step s2 G2, r1.keep s2 γ1.bi (Gho.grows s2), r2, p2⟩⟩) fun ui s2 ⟨w, H2, I2, rw_, γ2, g2, i, S2, r2, ri, p2⟩ => ?_
  obtain ⟨a, C, f, ox, od, rfl, J, h1, h2, h3, h4⟩ := dun_run (aro1 dx) F dx S2 I2 r2 rv (.cons ri .nil) (.cons rw_ .nil) rfl p2
  obtain ⟨mF, fr⟩ := I2.fr
  exact PySem.W.sub_K fr I2.mod.kin J h1 h3 h2 h4 (hsl a ui)
end
end Z
set_option maxHeartbeats 4000000
namespace Z
open PySem PySem.Spec PyProof.Rows L2
set_option autoImplicit false
theorem cb_of {X : Cx} {pins : List (Addr × Obj)} {σ : L2.St} {Q : VK} {u : Value} {s : Shared} (h : L2.EP X pins σ Q u s) : PySem.W.CmpBack (L2.EP X pins σ Q) u s := by
  obtain ⟨v, H', I, rv, q⟩ := h
  cases u with
  | notImplemented => cases v <;> first | exact Value.noConfusion rv | (obtain ⟨_, rv⟩ := rv; exact Value.noConfusion rv) | exact rv.elim
  | _ => exact ⟨v, H', I, rv, q⟩
def mCls (c : Nat) : Ev := fun _ g => .ok (.clo c []) g
abbrev NwTab := List (Nat × (Den × (List D → List D → List D)))
def mNewC (tab : NwTab) (n q : Nat) (mo : Ev) (m mk : EvL) : Ev := fun ρ g => (mo ρ g).bind fun d g0 => match d with
  | .clo c [] => match tab.lookup c with
    | some (den, gD) => (m ρ g0).bind fun ds g1 => (mk ρ g1).bind fun es g2 => newP c den n q gD ds es g2
    | none => .bad
  | _ => .bad
structure NwK (T : Wd) (mg : Str → Option Value) (base : Heap) (k n : Nat) (ks : List Str) (c : Nat) (den : Den) (gD : List D → List D → List D) : Prop where
  ex : ∃ (ps : List Str) (f : Addr) (fd : FuncData) (gV : List V → List V → List V), L2.Mk T.K (T.oc c) f ∧ FnG T mg base k f fd ps den ∧ Bd T.K fd ps (n + 1) ks gV gD
def NwT (T : Wd) (mg : Str → Option Value) (base : Heap) (k n : Nat) (ks : List Str) (tab : NwTab) : Prop := ∀ c den gD, tab.lookup c = some (den, gD) → NwK T mg base k n ks c den gD
section
variable {T : Wd} {W : WX} {X : Cx} {mg : Str → Option Value} {base : Heap} {k : Nat} {x : Str} {p pos apos : Pos} {e o : Expr} {es : List Expr} {m mk : EvL} {c n : Nat} {den : Den} {gD : List D → List D → List D} {mo : Ev} {ks : List Str}
theorem NwK.mono {j : Nat} (F : NwK T mg base j n ks c den gD) (h : j ≤ k) : NwK T mg base k n ks c den gD := by
  obtain ⟨ps, f, fd, gV, M, Fn, B⟩ := F.ex
  exact ⟨ps, f, fd, gV, M, Fn.mono h, B⟩
theorem nwt_nil : NwT T mg base k n ks [] := fun c den gD h => by cases h
theorem nwt_cons {tab : NwTab} (F : NwK T mg base k n ks c den gD) (h : NwT T mg base k n ks tab) : NwT T mg base k n ks ((c, (den, gD)) :: tab) := fun c' den' gD' e => by
  have e : (match c' == c with | true => some (den, gD) | false => tab.lookup c') = some (den', gD') := e
  cases q : c' == c with
  | true =>
    rw [q] at e
    cases e
    rw [eq_of_beq q]
    exact F
  | false => rw [q] at e; exact h c' den' gD' e
theorem ee_cls (dx : DefX T mg base k X W) (hm : mg x = some (.ref (T.oc c))) (hg : Gl X x) (hdb : (x == ("__debug__" : Str)) = false := by decide) : EE T W X (.Name x p) (mCls c) := by
  refine ⟨fun pins s σ H Q I h => ?_⟩
  obtain ⟨γ, ρ, g, S, q⟩ := h
  exact ld_glob I hg (by rw [dx.mg]; exact hm) ⟨.ref (T.oc c), H, I, rfl, q _ γ.ι H .refl S.cells (by simp [RelD])⟩ hdb
/-- x(..), x a name that holds a class -/
theorem ee_newC {tab : NwTab} (F : NwT T mg base k n [] tab) (dx : DefX T mg base (k + 1) X W) (ho : EE T W X (.Name x p) mo) (ha : EAs T W X (e :: es) m)
    (he : starEach (e :: es) X.env = (false, eval e X.env) :: starEach es X.env := by rfl) (hpl : (backTo pos (starEach es X.env)).any (·.1) = false := by rfl) : EE T W X (.Call (.Name x p) (e :: es) [] pos) (mNewC tab n 0 mo m mNil) := by
  refine ⟨fun pins s σ H Q I h => ?_⟩
  obtain ⟨γ, ρ, g, S, q⟩ := h
  refine wpAny_Call_Name_kw (thn (ho.run pins s σ H (fun v H1 => ∃ γ1 g1 d, StR T γ1 H1 ρ σ g1 ∧ RelD T γ1.ι γ1.bar H1 d v ∧ ∃ c dg, d = .clo c [] ∧ tab.lookup c = some dg ∧ Post T γ1 H1 σ W (rD T) Q ((m ρ g1).bind fun ds g1 => newP c dg.1 n 0 dg.2 ds [] g1)) I ⟨γ, ρ, g, S, q.bind fun d g1 _ v ι1 H1 s1 G1 r1 p1 => ⟨γ.to ι1, g1, d, S.step s1 G1, r1, ?_⟩⟩) fun u s1 ⟨v, H1, I1, rv, γ1, g1, d, S1, r1, c, dg, ed, ht, p1⟩ => ?_)
  · split at p1
    · rename_i c _
      cases ht : tab.lookup c with
      | none => rw [ht] at p1; exact p1.elim
      | some dg => rw [ht] at p1; exact ⟨c, dg, rfl, ht, p1⟩
    · exact p1.elim
  · subst ed
    have ev : v = .ref (T.oc c) := by simpa [RelD] using r1
    subst ev
    obtain rfl : u = Value.ref (T.oc c) := rv
    obtain ⟨ps, f, fd, gV, M, Fn, B⟩ := (F c dg.1 dg.2 ht).ex
    have hk : PySem.W.keepIn X.K (.ref (T.oc c)) = true := by rw [dx.ok.K]; exact M.kp
    refine PySem.W.callWith_K (h₀ := X.base) I1.ok.mod.kin hk (thn (ha.run pos pins s1 σ H1 (fun vs H2 => ∃ γ2 g2 ds, StR T γ2 H2 ρ σ g2 ∧ RelDs T γ2.ι γ2.bar H2 ds vs ∧ Post T γ2 H2 σ W (rD T) Q (newP c dg.1 n ([] : List Str).length dg.2 ds [] g2)) I1 ⟨γ1, ρ, g1, S1, p1.bind fun ds g2 _ vs ι2 H2 s2 G2 r2 p2 => ⟨γ1.to ι2, g2, ds, S1.step s2 G2, r2, p2⟩⟩) fun us s2 ⟨vs, H2, I2, r, γ2, g2, ds, S2, r2, p2⟩ => ⟨I2.kIn, ?_⟩) he hpl
    exact new_post (ks := []) (ws := []) M Fn dx B I2 r .nil S2 r2 .nil p2
end
def mClsM (x : Str) (tab : MtTab) (n : Nat) (mo : Ev) (m : EvL) : Ev := fun ρ g => (mo ρ g).bind fun d g0 => match d with
  | .clo c [] => match tab.lookup c with
    | some (den, gD) => (m ρ g0).bind fun ds g1 => if ds.length = n then den (gD (.clo c [] :: ds) []) g1 else .bad
    | none => .bad
  | _ => .bad
structure CmK (T : Wd) (mg : Str → Option Value) (base : Heap) (k n : Nat) (x : Str) (c : Nat) (den : Den) (gD : List D → List D → List D) : Prop where
  ex : ∃ (mc : Value) (p f : Addr) (ps : List Str) (fd : FuncData) (gV : List V → List V → List V), ClX.CRead T.K (T.oc c) mc ∧ ClX.CMet T.K (T.oc c) mc x p f ∧ FnG T mg base k f fd ps den ∧ Bd T.K fd ps (n + 1) [] gV gD
def CmT (T : Wd) (mg : Str → Option Value) (base : Heap) (k n : Nat) (x : Str) (tab : MtTab) : Prop := ∀ c den gD, tab.lookup c = some (den, gD) → CmK T mg base k n x c den gD
section
variable {T : Wd} {W : WX} {X : Cx} {mg : Str → Option Value} {base : Heap} {k : Nat} {x : Str} {p pos apos : Pos} {e o : Expr} {es : List Expr} {m mk : EvL} {c n : Nat} {den : Den} {gD : List D → List D → List D} {mo : Ev} {ks : List Str} {tab : MtTab}
theorem CmK.mono {j : Nat} (F : CmK T mg base j n x c den gD) (h : j ≤ k) : CmK T mg base k n x c den gD := by
  obtain ⟨mc, p, f, ps, fd, gV, R, M, Fn, B⟩ := F.ex
  exact ⟨mc, p, f, ps, fd, gV, R, M, Fn.mono h, B⟩
theorem cmt_nil : CmT T mg base k n x [] := fun c den gD h => by cases h
theorem cmt_cons (F : CmK T mg base k n x c den gD) (h : CmT T mg base k n x tab) : CmT T mg base k n x ((c, (den, gD)) :: tab) := fun c' den' gD' e => by
  have e : (match c' == c with | true => some (den, gD) | false => tab.lookup c') = some (den', gD') := e
  cases q : c' == c with
  | true =>
    rw [q] at e
    cases e
    rw [eq_of_beq q]
    exact F
  | false => rw [q] at e; exact h c' den' gD' e
theorem ee_clsM {pl : Sem Bool} (F : CmT T mg base k n x tab) (dx : DefX T mg base k X W) (ho : EE T W X o mo) (ha : EAs T W X (e :: es) m)
    (hst : starEach (e :: es) X.env = (false, eval e X.env) :: starEach es X.env := by rfl) (hpl : (backTo pos (starEach es X.env)).any (·.1) = false := by rfl)
    (ht : eval (.Call (.Attribute o x apos) (e :: es) [] pos) X.env = (do
      let ov ← eval o X.env
      standAt apos.atName
      let (f, first) ← holding [ov] (getMethod ov x pl)
      callWith pos f first (backTo pos (starEach (e :: es) X.env)) (backToKw pos (keywordEach [] X.env))) := by rfl) : EE T W X (.Call (.Attribute o x apos) (e :: es) [] pos) (mClsM x tab n mo m) := by
  refine ⟨fun pins s σ H Q I h => ?_⟩
  obtain ⟨γ, ρ, g, S, q⟩ := h
  refine PySem.W.methodCall_KW (pl := pl) (thn (ho.run pins s σ H (fun v H1 => ∃ γ1 g1 d, StR T γ1 H1 ρ σ g1 ∧ RelD T γ1.ι γ1.bar H1 d v ∧ ∃ c dg, d = .clo c [] ∧ tab.lookup c = some dg ∧ Post T γ1 H1 σ W (rD T) Q ((m ρ g1).bind fun ds g1 => if ds.length = n then dg.1 (dg.2 (.clo c [] :: ds) []) g1 else .bad)) I ⟨γ, ρ, g, S, q.bind fun d g1 _ v ι1 H1 s1 G1 r1 p1 => ⟨γ.to ι1, g1, d, S.step s1 G1, r1, ?_⟩⟩) fun u s1 ⟨v, H1, I1, rv, γ1, g1, d, S1, r1, c, dg, ed, htb, p1⟩ => ?_) ht
  · split at p1
    · rename_i c _
      cases ht : tab.lookup c with
      | none => rw [ht] at p1; exact p1.elim
      | some dg => rw [ht] at p1; exact ⟨c, dg, rfl, ht, p1⟩
    · exact p1.elim
  · subst ed
    have ev : v = .ref (T.oc c) := by simpa [RelD] using r1
    subst ev
    obtain rfl : u = Value.ref (T.oc c) := rv
    obtain ⟨mc, p, f, ps, fd, gV, R, M, Fn, B⟩ := (F c dg.1 dg.2 htb).ex
    have R' : ClX.CRead X.K (T.oc c) mc := by rw [dx.ok.K]; exact R
    have M' : ClX.CMet X.K (T.oc c) mc x p f := by rw [dx.ok.K]; exact M
    refine ClX.getmethcm_ok I1 R' M' fun s2 I2 => ?_
    refine ClX.callwith_cm I2 (ClX.base_none I1 (Nat.le_refl _)) M'.fi (thn (ha.run pos _ s2 σ H1 (fun vs H2 => ∃ γ2 g2 ds, StR T γ2 H2 ρ σ g2 ∧ RelDs T γ2.ι γ2.bar H2 ds vs ∧ Post T γ2 H2 σ W (rD T) Q (if ds.length = n then dg.1 (dg.2 (.clo c [] :: ds) []) g2 else .bad)) I2 ⟨γ1, ρ, g1, S1, p1.bind fun ds g2 _ vs ι2 H2 s2 G2 r2 p2 => ⟨γ1.to ι2, g2, ds, S1.step s2 G2, r2, p2⟩⟩) fun us s3 ⟨vs, H3, I3, r, γ2, g2, ds, S2, r2, p2⟩ => ⟨⟨ClX.pin_at I3, I3.kIn⟩, ?_⟩) hst hpl
    by_cases hl : ds.length = n
    · rw [if_pos hl] at p2
      have inK : T.K.In s3.heap := by rw [← dx.ok.K]; exact I3.kIn
      have l1 : (Value.ref (T.oc c) :: us).length = n + 1 := by rw [List.length_cons, ← r.length, r2.length, hl]
      have rself : RelD T γ2.ι γ2.bar H3 (.clo c []) (.ref (T.oc c)) := by simp [RelD]
      obtain ⟨xs, hb, rx, lx⟩ := B.to s3 (.ref (T.oc c) :: us) [] (.ref (T.oc c) :: vs) [] inK l1 rfl (.cons rfl r) .nil
      have key := run_fnA (aro0 dx) Fn dx hb I3 rx lx (spD_of S2 (B.rel (by rw [List.length_cons, hl]) rfl (.cons rself r2) .nil) p2)
      have z : wpAny (model X.prog X.w) X.A (call (.ref s1.heap.objs.size) us) (L2.EP X ((s1.heap.objs.size, PySem.W.methodObj (.ref f) (.ref (T.oc c))) :: pins) σ Q) X.xe s3 := by
        refine wpAny_call (PySem.W.method_call (ClX.pin_at I3) (codeAny_mono key fun r s' hq => ?_))
        cases r with
        | error er => exact hq
        | ok fl =>
          cases fl with
          | ret u => exact hq
          | next => exact hq
          | brk => exact hq
          | cont => exact hq
      exact thn z fun _ _ y => ClX.unpinE y
    · rw [if_neg hl] at p2; exact p2.elim
end
def mAugO (tab : MtTab) (i : Nat) (m : Ev) : Ev := fun ρ g => match ρ[i]? with
  | some (.val d0) => (m ρ g).bind fun d g1 => dunP tab d0 [d] g1
  | _ => .bad
section
variable {T : Wd} {W : WX} {X : Cx} {mg : Str → Option Value} {base : Heap} {k : Nat} {x : Str} {p pos pos' : Pos} {e o : Expr} {me mo : Ev} {tab : MtTab}
theorem ss_augO {op : Operator} {dn : Str} (i : Nat) (F : MtT T mg base k dn 1 [] tab) (dx : DefX T mg base k X W) (hdn : PySem.dunderI op.info.2 = dn) (hsf : ∀ c dg, tab.lookup c = some dg → PySem.W.selfFirst T.K (T.oc c) = true) (hN : X.N.Nodup) (he : EE T W X e me) (hi : X.N[i]? = some x := by rfl) (hx : Loc X.env.scope x := by first | exact .inl rfl | exact .inr rfl)
    (hf : X.fn x = true ∨ X.env.scope.names.lookup x = some .local := by first | exact .inl rfl | exact .inr rfl | assumption) : SS T W X (.AugAssign (.Name x pos') op e pos) (sSet i (mAugO tab i me)) := by
  subst hdn
  refine ⟨fun pins s σ H D I h => ?_⟩
  have h0 := set_imp h
  obtain ⟨γ, ρ, g, S, p⟩ := h0
  unfold mAugO at p
  cases hr : ρ[i]? with
  | none => rw [hr] at p; exact p.elim
  | some sl =>
    rw [hr] at p
    cases sl with
    | val d0 =>
      dsimp only at p
      obtain ⟨v, e1, rv0⟩ := S.vals i _ hr
      obtain ⟨m, hn, hl⟩ := I.loc
      have vis : Vis X.env.scope x := by rcases hx with k | k; exact .inl k; exact .inr (.inl k)
      obtain ⟨u, r, l⟩ := hl i x v hi e1 vis
      refine wpAny_AugAssign_Name ?_
      have go : wpAny (model X.prog X.w) X.A (eval e X.env) (fun w s₂ => wpAny (model X.prog X.w) X.A (inplaceOp op u w) (fun r s₃ => wpAny (model X.prog X.w) X.A (storeName X.env x r) (fun _ => SP X pins D .next) X.xe s₃) X.xe s₂) X.xe s := by
        refine thn (he.run pins s σ H (fun y H1 => ∃ γ1 g1 d, StR T γ1 H1 ρ σ g1 ∧ RelD T γ1.ι γ1.bar H1 d y ∧ RelW T γ1.ι γ1.bar H1 d0 v ∧ Post T γ1 H1 σ W (rD T) (fun v H' => D.nx (σ.set i (some v)) H') (dunP tab d0 [d] g1)) I ⟨γ, ρ, g, S, p.bind fun d g1 _ y ι1 H1 s1 G1 r1 p1 => ⟨γ.to ι1, g1, d, S.step s1 G1, r1, ((show RelW T γ.ι γ.bar H d0 v from .inl rv0).keep s1 γ.bi (Gho.grows s1)), p1⟩⟩) fun w s1 ⟨y, H1, I1, ry, γ1, g1, d, S1, r1, r0, p1⟩ => ?_
        obtain ⟨a, C, f, ox, od, ⟨c, i', dg, fs, _, _, rfl, hlk⟩, rfl, J, h1, h2, h3, h4⟩ := dun_run2 (aro0 dx) F dx S1 I1 r0 r (.cons r1 .nil) (.cons ry .nil) rfl p1
        obtain ⟨mF, fr⟩ := I1.fr
        have hC : PySem.W.selfFirst X.K (T.oc c) = true := by rw [dx.ok.K]; exact hsf c dg hlk
        refine PySem.W.ksp_inplace fr I1.mod.kin J hC h1 h2 (wpAny_mono h4 (fun z s2 hq => ?_) fun _ _ z => z)
        have hq := cb_of hq
        cases z with
        | notImplemented => exact hq
        | _ =>
          obtain ⟨zv, H2, I2, r2, q2⟩ := hq
          exact store_ok I2 hN hi hx r2 (fun s3 I3 => ⟨_, H2, I3, q2⟩) hf
      rcases l with ⟨hk, hm⟩ | ⟨hk, c, hc, hcell⟩
      · exact wpAny_loadName_local I.ok.kind hk hn hm go
      · rcases hk with hk | hk
        · exact wpAny_loadName_cell I.ok.kind hk hc hcell go
        · rcases hx with k | k
          · have : X.env.scope.names.lookup x = some .free := hk
            rw [k] at this; cases this
          · have : X.env.scope.names.lookup x = some .free := hk
            rw [k] at this; cases this
    | _ => exact p.elim
end
end Z
set_option maxHeartbeats 4000000
namespace Z
open PySem PySem.Spec PyProof.Rows L2
set_option autoImplicit false
def strP (r : Res D) : Res D := r.bind fun r g => match r with
  | .str x => .ok (.str x) g
  | _ => .bad
def mStrO (tab : MtTab) (o : Ev) : Ev := fun ρ g => (o ρ g).bind fun d g0 => strP (dunP tab d [] g0)
section
variable {T : Wd} {W : WX} {X : Cx} {mg : Str → Option Value} {base : Heap} {k : Nat} {x : Str} {p p2 pos : Pos} {o e : Expr} {mo me : Ev} {tab : MtTab}
theorem str_back {γ : Gho} {H : Hp} {σ : L2.St} {Q : VK} {r : Res D} (p : Post T γ H σ W (rD T) Q (strP r)) : Post T γ H σ W (rD T) (fun v H' => ∃ x : Str, v = .str x ∧ Q (.str x) H') r := by
  unfold strP at p
  cases r with
  | bad => exact p
  | exc x g' => exact p
  | ok d g' =>
    intro v ι' H' s1 G1 rv
    cases d with
    | str x =>
      have ev : v = .str x := by simpa [RelD] using rv
      exact ⟨x, ev, p _ ι' H' s1 G1 (by simp [RelD])⟩
    | _ => exact p.elim
theorem ee_strO (F : MtT T mg base k "__str__" 0 [] tab) (dx : DefX T mg base (k + 2) X W) (ho : EW T W X o mo) (hg : Gl X "str") (hm : X.mg "str" = none) (hv : bootBuiltins "str" = some (.type "str") := by rfl)
    (hs : starEach [o] X.env = (false, eval o X.env) :: starEach [] X.env := by rfl) : EE T W X (.Call (.Name "str" p) [o] [] pos) (mStrO tab mo) := by
  refine ⟨fun pins s σ H Q I h => ?_⟩
  obtain ⟨γ, ρ, g, S, q⟩ := h
  refine wpAny_Call_Name_kw (ld_blt I hg hm hv ?_ (by decide) (by decide))
  refine PyProof.Rows.callWith_type1 (thn ((pa_cons ho pa_nil hs).run pos pins s σ H (fun vs H1 => ∃ v γ1 g1 d, vs = [v] ∧ StR T γ1 H1 ρ σ g1 ∧ RelW T γ1.ι γ1.bar H1 d v ∧ Post T γ1 H1 σ W (rD T) (fun v H' => ∃ x : Str, v = .str x ∧ Q (.str x) H') (dunP tab d [] g1)) I ⟨γ, ρ, g, S, q.bind fun d g1 _ v ι1 H1 s1 G1 r1 p1 => ⟨v, γ.to ι1, g1, d, rfl, S.step s1 G1, r1, str_back p1⟩⟩) fun us s1 ⟨vs, H1, I1, r, v, γ1, g1, d, ev, S1, r1, p1⟩ => ?_) hs rfl
  subst ev
  cases r with
  | cons rv rn =>
    cases rn with
    | nil =>
      obtain ⟨a, C, f, ox, od, rfl, J, h1, h2, h3, h4⟩ := dun_run (aro2 dx) F dx S1 I1 r1 rv .nil .nil rfl p1
      refine PySem.W.kso_call dx.room.in1.in1.units0 I1.kIn J h1 h2 (wpAny_mono h4 (fun u s2 hq => ?_) fun _ _ z => z)
      obtain ⟨v2, H2, I2, rv2, n, rfl, q2⟩ := hq
      obtain ⟨t, rfl⟩ := (show ∃ t, u = Value.str n t from rv2)
      exact ⟨.str n, H2, I2, ⟨_, rfl⟩, q2⟩
end
/-- the class of a value -/
def tyD : D → Option String
  | .non => some "NoneType" | .bl _ => some "bool" | .int _ => some "int" | .str _ => some "str"
  | .tup _ => some "tuple" | .lst _ => some "list" | _ => none
/-- how an object's class is read -/
structure OwnC (K : PySem.W.Frag) (C : Addr) : Prop where
  cl : Cls K C
  ca : PySem.W.findIn K (.ref C) "__class__" = some (some (.builtin "object.__class__"))
  sp : PySem.W.specialIn K (.builtin "object.__class__") "__get__" = some (some (.builtin "getset_descriptor.__get__"))
  tk : PySem.W.takesIn K (.builtin "object.__class__") = some true
  om : PySem.W.mroIn K C (.type "object") = some true
end Z
set_option maxHeartbeats 4000000
namespace PySem.W
open PySem PySem.Spec PySem.Calls PyProof.Rows Builtin
end PySem.W
namespace Z
open PySem PySem.Spec PyProof.Rows L2
set_option autoImplicit false
def eqP (tab : MtTab) (sub nst : List (Nat × Nat)) (d e : D) (g : G) : Res D := match d with
  | .ref i => match g[i]? with
    | some (.ob c _) => match e with
      | .ref j => match g[j]? with
        | some (.ob c2 _) => if (c2, c) ∈ sub then dunP tab (.ref j) [.ref i] g else if (c2, c) ∈ nst ∨ c2 = c then dunP tab (.ref i) [.ref j] g else .bad
        | _ => .bad
      | e => if (tyD e).isSome then dunP tab (.ref i) [e] g else .bad
    | _ => .bad
  | _ => .bad
def mEqO (tab : MtTab) (sub nst : List (Nat × Nat)) (o e : Ev) : Ev := fun ρ g => (o ρ g).bind fun d g0 => (e ρ g0).bind fun i g1 => eqP tab sub nst d i g1
end Z
set_option maxHeartbeats 4000000
namespace Z
open PySem PySem.Spec PyProof.Rows L2
set_option autoImplicit false
theorem ts_start {T : Wd} {E : XK} {N : List Str} {m : Sm} {vs : List V} {H : Hp} {Q : VK} (hsp : spD T (denOf N.length m) vs H Q E) : tS T (fun cls dx _ H' => E cls dx H') m { nx := fun _ H' => Q .non H', rt := Q } (L2.start N vs) H := by
  obtain ⟨γ, ds, g, GG, ho, hv, rs, p⟩ := hsp
  have St := ent_str GG ho hv rs N.length
  rw [← start_len] at St
  refine ⟨⟨γ.ι, H, γ.av, [], []⟩, γ, entE N.length ds, g, ⟨St, .refl, rfl, fun i a q => (by rw [ho] at q; cases q), .nil⟩, ?_⟩
  unfold denOf at p
  revert p
  have drp : ∀ {γ' : Gho} {a : Addr}, (γ.to γ'.ι).bar a → γ'.av = γ.av → γ'.bar a := by
    rintro γ' a (q | ⟨i, q⟩ | q) e
    · exact .inl q
    · rw [ho] at q; cases q
    · exact .inr (.inr (e ▸ q))
  cases m (entE N.length ds) g with
  | nx ρ' g' =>
    intro p γ' σ' H' S'
    exact p .non γ'.ι H' S'.ent (S'.st.cells.fewer fun a q => drp q S'.fav) RelD.ofNon
  | rt d g' =>
    intro p v γ' H' fa ow st G' r'
    exact p v γ'.ι H' st (G'.fewer fun a q => drp q fa) (r'.fewer fun a q => drp q fa)
  | bk ρ' g' => exact fun p => p.elim
  | ct ρ' g' => exact fun p => p.elim
  | exc xc ρ' g' =>
    intro p γ' σ' H' cls dx S' r'
    exact p cls dx γ'.ι H' S'.ent (S'.st.cells.fewer fun a q => drp q S'.fav) (r'.fewer fun a q => drp q S'.fav)
  | bad => exact fun p => p
section
variable {T : Wd} {mg : Str → Option Value} {base : Heap} {k : Nat} {f : Addr} {x qual : Str} {params : Arguments} {body : List Stmt} {scope : Scope} {dvs : List V} {kws : List (Str × V)} {fd : FuncData} {N ps : List Str} {pv : Str}
/-- how such a def binds -/
def StarB (fd : FuncData) (ps : List Str) (pv : Str) : Prop := ∀ us rest : List Value, us.length = ps.length → bindArgs fd ⟨us ++ rest, []⟩ = (newTuple rest >>= fun t => pure (ps.zip us ++ [(pv, t)]))
def gStar (np : Nat) (ds es : List D) : List D := ds.take np ++ [.tup (ds.drop np)]
theorem fn_star1 (F : FunD T.K x qual params body scope dvs kws f fd) (S : FnScope N (ps ++ [pv]) scope) (hb : StarB fd ps pv) {m : Sm}
    (hbody : ∀ (cdv : Value) (A : Around) (outer : List PySem.Env) (s : Shared) (H : Hp) (E : XK), DefX T mg base k (cxOf (L2.CX T.P T.w) T.P T.w T.K mg base N qual scope f cdv A outer s H E) (fun cls dx _ H' => E cls dx H') →
      PassesOwn (model T.P T.w) (A.deeper (envOfC qual scope s.heap.objs.size f cdv)) (envOfC qual scope s.heap.objs.size f cdv) (cxOf (L2.CX T.P T.w) T.P T.w T.K mg base N qual scope f cdv A outer s H E).xe → SB T (fun cls dx _ H' => E cls dx H') (cxOf (L2.CX T.P T.w) T.P T.w T.K mg base N qual scope f cdv A outer s H E) body m)
    (A : Around) (outer : List PySem.Env) (s : Shared) (H : Hp) (us rest : List Value) (vs ws : List V) (Q : VK) (E : XK) (hr : Room (k + 1) A) (hg : A.guards = some []) (e0 : Env0 T.P T.w T.K mg base A outer s H) (r : Vals vs us) (r2 : Vals ws rest) (hl : vs.length = ps.length) (hz : ws.length ≤ sizeLine)
    (hsp : ∀ p, H p = none → spD T (denOf N.length m) (vs ++ [V.ref p]) (upd H p (.tup ws)) Q E) :
    codeAny (model T.P T.w) A (.call (.ref f) ⟨us ++ rest, []⟩) (CR (L2.CX T.P T.w) outer T.P T.w H s Q E) s := by
  obtain ⟨oc, od, dV, kV, doc, pm, an, cdv, ct, osl, hfd, lk, hcd, _, _⟩ := F.ex
  subst hfd
  have hn : H s.heap.objs.size = Option.none := e0.hok.fresh (Nat.le_refl _)
  have hl1 : us.length = ps.length := by rw [← r.length]; exact hl
  have hl2 : rest.length ≤ sizeLine := by rw [← r2.length]; exact hz
  refine StX.run_bnd lk hcd S hr e0 (G := fun xs H2 => ∃ p, H p = Option.none ∧ xs = vs ++ [V.ref p] ∧ H2 = upd H p (.tup ws)) (fun A' Ex Q' h => ?_) fun s2 H2 xs ⟨p, hp, ex, eH⟩ hr' => ?_
  · rw [hb us rest hl1]
    refine wpAny_bind (wpAny_newTuple (wpAny_pure ?_) hl2)
    have new : ObjOk T.P T.w (upd H s.heap.objs.size (.tup ws)) (s.heap.push ({ cls := .type "tuple", data := .seq rest.toArray } : Obj)) s.heap.objs.size (.tup ws) := ⟨hz, rest, r2, ⟨_, Heap.get?_push_size _ rfl, rfl, _, rfl⟩⟩
    have un := StX.un_laid (fs := frs outer) (s := s) (o := ({ cls := .type "tuple", data := .seq rest.toArray } : Obj)) (u := .tup ws) hn
    have z := h _ _ (vs ++ [V.ref s.heap.objs.size]) (us ++ [Value.ref s.heap.objs.size]) (StX.env0_laid e0 new) un rfl (fun e s' => StX.cxUp outer s H _ _ E e s' un (fun b o q => Heap.get?_push_of_some _ q) rfl) (r.append (.cons rfl .nil))
      (by rw [List.length_append, List.length_append, hl] <;> rfl) ⟨_, hn, rfl, rfl⟩
    rw [List.zip_append hl1.symm] at z
    exact z
  · subst ex eH
    have hX : DefX T mg base k (cxOf (L2.CX T.P T.w) T.P T.w T.K mg base N qual scope f cdv A outer s2 (upd H p (.tup ws)) E) (fun cls dx _ H' => E cls dx H') := by
      refine ⟨⟨rfl, rfl, rfl⟩, ⟨?_, hg⟩, hr', rfl, rfl, takes_of rfl rfl rfl rfl, rfl⟩
      have := hr'.un
      show (A.deeper (envOfC qual scope s2.heap.objs.size f cdv)).units + 120 < cLine
      omega
    exact ⟨_, hbody cdv A outer s2 _ E hX (passes_of rfl), ts_start (hsp p hp)⟩
theorem RunsK.star {np n : Nat} (F : FunD T.K x qual params body scope dvs kws f fd) (S : FnScope N (ps ++ [pv]) scope) (hb : StarB fd ps pv) {m : Sm}
    (hbody : ∀ (cdv : Value) (A : Around) (outer : List PySem.Env) (s : Shared) (H : Hp) (E : XK), DefX T mg base k (cxOf (L2.CX T.P T.w) T.P T.w T.K mg base N qual scope f cdv A outer s H E) (fun cls dx _ H' => E cls dx H') →
      PassesOwn (model T.P T.w) (A.deeper (envOfC qual scope s.heap.objs.size f cdv)) (envOfC qual scope s.heap.objs.size f cdv) (cxOf (L2.CX T.P T.w) T.P T.w T.K mg base N qual scope f cdv A outer s H E).xe → SB T (fun cls dx _ H' => E cls dx H') (cxOf (L2.CX T.P T.w) T.P T.w T.K mg base N qual scope f cdv A outer s H E) body m) (hnp : ps.length = np) (hle : np ≤ n) (hsm : n ≤ 1000) : RunsK T mg base (k + 1) f (denOf N.length m) n [] (gStar np) := by
  refine ⟨fun {W X A' k0 γ H ρ σ g ds es vs zs Q pins s us ws} ar dx I ru rw_ S1 r1 r2 h1 h2 p => ?_⟩
  have e0 := ar.env I
  obtain ⟨us1, us2, eu, ra, rb⟩ : ∃ u1 u2, us = u1 ++ u2 ∧ Vals (vs.take np) u1 ∧ Vals (vs.drop np) u2 := StX.vals_split (by rw [List.take_append_drop]; exact ru)
  subst eu
  have lv : vs.length = n := by rw [r1.length, h1]
  have key : codeAny (model T.P T.w) A' (.call (.ref f) ⟨us1 ++ us2, []⟩) (CR (L2.CX T.P T.w) X.stack T.P T.w H s Q (WE W σ)) s := by
    refine fn_star1 F S hb hbody A' X.stack s H us1 us2 (vs.take np) (vs.drop np) Q _ ar.room ar.hg ?_ ra rb (by rw [List.length_take, lv, hnp]; omega) (by rw [List.length_drop, lv, sizeLine_eq]; omega) fun q hq => ?_
    · rw [← dx.ok.P, ← dx.ok.w, ← dx.ok.K, ← dx.mg, ← dx.base]
      exact e0
    · have S2 := S1.same (same_upd (o := .tup (vs.drop np)) hq)
      refine spD_of S2 (ds := gStar np ds es) ?_ ?_
      · unfold gStar
        exact (RelDs.take np (r1.keep (Stp.laid hq) γ.bi fun a h => .inl h)).append (.cons (RelD.newTup γ.bi hq (RelDs.drop np r1)) .nil)
      · exact Post.after (ι1 := γ.ι) (Stp.laid hq) p
  rw [← dx.ok.P, ← dx.ok.w] at key
  refine wpAny_call (codeAny_mono (show codeAny (model X.prog X.w) A' (.call (.ref f) ⟨us1 ++ us2, ([] : List Str).zip ws⟩) _ s from key) fun r s' hq => ?_)
  cases r with
  | error er => exact passAt dx.tk σ pins H s er s' I hq
  | ok fl =>
    cases fl with
    | ret u => exact I.after hq
    | next => exact hq
    | brk => exact hq
    | cont => exact hq
end
end Z
set_option maxHeartbeats 4000000
namespace Z
open PySem PySem.Spec PyProof.Rows L2
set_option autoImplicit false
structure SupScope (N ps : List Str) (sc : Scope) : Prop where
  kind : sc.kind = .function
  co : sc.isCoroutine = false
  gen : sc.isGenerator = false
  nd : N.Nodup
  pre : N.take ps.length = ps
  par : ∀ x ∈ ps, sc.names.lookup x = some .local
  nocell : ∀ y ∈ sc.names, y.2 ≠ .cell
  free : ∀ y, sc.names.lookup y = some .free → y = "__class__"
def cxSup (P : Program) (w : World) (K : PySem.W.Frag) (mg : Str → Option Value) (base : Heap) (N : List Str) (qual : Str) (scope : Scope) (f : Addr) (cd : Value) (cc : Addr) (A : Around) (outer : List PySem.Env) (s : Shared) (H : Hp) (E : XK) : Cx where
  prog := P
  w := w
  K := K
  mg := mg
  base := base
  A := A.deeper (PySem.W.ksEnv qual scope s.heap.objs.size f cd cc)
  N := N
  s_0 := s
  H_0 := H
  env := PySem.W.ksEnv qual scope s.heap.objs.size f cd cc
  outer := outer
  stack := PySem.W.ksEnv qual scope s.heap.objs.size f cd cc :: outer
  ex := []
  fn := fun _ => false
  calm := true
  pn := []
  xe := fun e s' => wpAny (model P w) (A.deeper (PySem.W.ksEnv qual scope s.heap.objs.size f cd cc)) (leaving (PySem.W.ksEnv qual scope s.heap.objs.size f cd cc) e) (fun _ s'' => L2.CX P w outer H s E e s'') (fun e' s'' => L2.CX P w outer H s E e' s'') s'
theorem lk_mem {x : Str} {v : Value} : ∀ {l : List (Str × Value)}, (l.map (·.1)).Nodup → (x, v) ∈ l → l.lookup x = some v
  | [], _, h => by cases h
  | (y, w) :: l, nd, h => by
    rw [List.map_cons, List.nodup_cons] at nd
    show (match x == y with | true => some w | false => l.lookup x) = some v
    rcases List.mem_cons.mp h with h' | h'
    · cases h'
      rw [beq_self_eq_true]
    · cases q : x == y with
      | true =>
        have e := eq_of_beq q
        subst e
        exact absurd (List.mem_map_of_mem (f := (·.1)) h') nd.1
      | false => exact lk_mem nd.2 h'
theorem zip_look {ps : List Str} {us : List Value} {i : Nat} {x : Str} {v : Value} (nd : ps.Nodup) (hl : us.length = ps.length) (h1 : ps[i]? = some x) (h2 : us[i]? = some v) : (ps.zip us).reverse.lookup x = some v := by
  refine lk_mem ?_ (List.mem_reverse.mpr ?_)
  · rw [List.map_reverse, List.map_fst_zip (by omega)]
    unfold List.Nodup
    rw [List.pairwise_reverse]
    exact List.Pairwise.imp (fun h e => h e.symm) nd
  · rw [List.mem_iff_getElem?]
    exact ⟨i, by rw [List.getElem?_zip_eq_some]; exact ⟨h1, h2⟩⟩
theorem sup_start {P : Program} {w : World} {K : PySem.W.Frag} {mg : Str → Option Value} {base : Heap} {N ps : List Str} {qual : Str} {scope : Scope} {f cc : Addr} {cd : Value} {A : Around} {outer : List PySem.Env} {s : Shared} {H : Hp} {E : XK} {us : List Value} {vs : List V} {h₁ : Heap} {tk : Nat} {cv : Value} {oc : Value} {od : Option Addr} {osl : Array (Option Value)}
    (S : SupScope N ps scope) (hd : A.handled = none) (e0 : Env0 P w K mg base A outer s H) (hl : vs.length = ps.length) (r : Vals vs us) (hc : K.lookup cc = some ⟨oc, od, .cell (some cv), osl⟩)
    (hns : h₁.Ns s.heap.objs.size fun y => (ps.zip us).reverse.lookup y) (hk : ∀ b o, s.heap.get? b = some o → h₁.get? b = some o) :
    Inv (cxSup P w K mg base N qual scope f cd cc A outer s H E) [] (L2.start N vs) H { s with heap := h₁, toks := tk } := by
  have hpl : ps.length ≤ N.length := by have := congrArg List.length S.pre; rw [List.length_take] at this; omega
  have noA : ∀ b : Addr, b ∉ (cxSup P w K mg base N qual scope f cd cc A outer s H E).ex := fun b z => absurd (show b ∈ ([] : List Addr) from z) (by simp)
  have one : ∀ {y : Str} {c : Addr}, ([("__class__", cc)] : List (Str × Addr)).lookup y = some c → y = "__class__" ∧ c = cc := fun {y c} h => by
    have h : (match y == ("__class__" : Str) with | true => some cc | false => none) = some c := h
    cases q : y == ("__class__" : Str) with
    | true => rw [q] at h; cases h; exact ⟨eq_of_beq q, rfl⟩
    | false => rw [q] at h; cases h
  have hb : base.get? cc = some ⟨oc, od, .cell (some cv), osl⟩ := e0.mod.kin _ _ hc
  have hcs := e0.bs _ _ hb
  refine ⟨⟨e0.mod, S.kind, rfl, rfl, Nat.le_refl _, fun y z c h1 h2 => ?_, fun y hy => ?_, fun y c h => ?_, fun _ => hd, Around.frames_deeper e0.frames, .inr ⟨rfl, rfl⟩, fun b z => absurd z (noA b), e0.bs, e0.bsz, fun b _ _ => noA b, fun b z => absurd z (noA b), e0.funs, e0.frf⟩,
    rfl, e0.bare, Un.kept hk, ⟨_, hns, fun i y v h1 h2 h3 => ?_⟩, fun y c h => ?_, e0.hok.fresh (Nat.le_refl _), fun y c h => ?_, fun p hp => absurd (show p ∈ ([] : List (Addr × Obj)) from hp) (by simp), e0.hok.kept hk, ?_⟩
  · rw [(one h1).1, (one h2).1]
  · have hy : scope.names.lookup y = some .cell ∨ scope.names.lookup y = some .free := hy
    rcases hy with hy | hy
    · exact absurd rfl (S.nocell _ (PySem.mem_of_lookup hy))
    · rw [S.free y hy]
      exact ⟨cc, rfl⟩
  · cases h
  · have hi : i < vs.length := by
      unfold L2.start at h2
      by_cases hi : i < vs.length
      · exact hi
      · rw [List.getElem?_append_right (by simpa using hi)] at h2
        rw [List.getElem?_replicate] at h2
        split at h2 <;> cases h2
    have ha : vs[i]? = some v := by
      unfold L2.start at h2
      rw [List.getElem?_append_left (by simpa using hi), List.getElem?_map] at h2
      cases e : vs[i]? with
      | none => rw [e] at h2; cases h2
      | some a => rw [e] at h2; cases h2; rfl
    obtain ⟨u, hu, rv⟩ := r.get ha
    have hp : ps[i]? = some y := by
      rw [← S.pre, List.getElem?_take_of_lt (by omega)]; exact h1
    have ndP : ps.Nodup := by rw [← S.pre]; exact S.nd.sublist (List.take_sublist _ _)
    exact ⟨u, rv, .inl ⟨S.par y (List.mem_of_getElem? hp), zip_look ndP (by rw [← r.length]; exact hl) hp hu⟩⟩
  · obtain ⟨rfl, rfl⟩ := one h
    exact ⟨_, _, hk _ _ hcs.1, rfl⟩
  · obtain ⟨rfl, rfl⟩ := one h
    exact hcs.2
  · unfold L2.start
    show _ = N.length
    rw [List.length_append, List.length_map, List.length_replicate]
    omega
structure PAt (X : Cx) (body st : List Stmt) (t : TS) : Prop where
  run : ∀ (pins : List (Addr × Obj)) (s : Shared) (σ : L2.St) (H : Hp) (D : Ends), Inv X pins σ H s → t D σ H → _root_.PySem.wpAt (model X.prog X.w) X.A (.func body X.env) (execs st X.env) (SP X pins D) X.xe s
theorem PAt.of {X : Cx} {body st : List Stmt} {t : TS} (h : PSs X st t) : PAt X body st t := ⟨fun pins s σ H D I q => PySem.wpAt_of_wpAny (h.run pins s σ H D I q)⟩
theorem PAt.cons {X : Cx} {body : List Stmt} {st : Stmt} {rest : List Stmt} {t u : TS} (h1 : ∀ (pins : List (Addr × Obj)) (s : Shared) (σ : L2.St) (H : Hp) (D : Ends), Inv X pins σ H s → t D σ H → _root_.PySem.wpAt (model X.prog X.w) X.A (.func body X.env) (exec st X.env) (SP X pins D) X.xe s) (h2 : PAt X body rest u) : PAt X body (st :: rest) (tSeq t u) := by
  refine ⟨fun pins s σ H D I h => ?_⟩
  refine PySem.ks_wpAt_execs_cons (PySem.ks_wpAt_mono (h1 pins s σ H { D with nx := u D } I h) (fun f s1 q => ?_) fun _ _ x => x)
  cases f with
  | next =>
    obtain ⟨σ', H', I', q⟩ := q
    exact h2.run pins s1 σ' H' D I' q
  | ret v => exact q
  | brk => exact q
  | cont => exact q
section
variable {T : Wd} {mg : Str → Option Value} {base : Heap} {k : Nat} {f cc : Addr} {name qual : Str} {params : Arguments} {body : List Stmt} {scope : Scope} {dV kV doc pm cdv ct oc ocl : Value} {an od odl : Option Addr} {osl osl2 : Array (Option Value)} {fd : FuncData} {N ps : List Str} {cv : Value}
theorem fn_sup (lk : T.K.lookup f = some ⟨oc, od, .func (PySem.W.ksFn name qual params body scope dV kV doc pm an cdv ct cc), osl⟩) (hcd : PySem.W.codeIn T.K cdv qual = true) (S : SupScope N ps scope) (hc : T.K.lookup cc = some ⟨ocl, odl, .cell (some cv), osl2⟩) {m : Sm}
    (hbody : ∀ (A : Around) (outer : List PySem.Env) (s : Shared) (H : Hp) (E : XK), DefX T mg base k (cxSup T.P T.w T.K mg base N qual scope f cdv cc A outer s H E) (fun cls dx _ H' => E cls dx H') →
      PAt (cxSup T.P T.w T.K mg base N qual scope f cdv cc A outer s H E) body body (tS T (fun cls dx _ H' => E cls dx H') m)) : FnG T mg base (k + 1) f (PySem.W.ksFn name qual params body scope dV kV doc pm an cdv ct cc) ps (denOf N.length m) := by
  refine ⟨fun A outer s H args us vs Q E hr hg e0 hb r hl hsp => ?_⟩
  have inK : T.K.In s.heap := e0.mod.kin.keeps fun b o q => (e0.bs b o q).1
  have noL : s.heap.NoLimit := e0.mod.nolimit.keeps fun b o q => (e0.bs b o q).1
  refine PySem.ks_codeAny_call_defAt (fd := PySem.W.ksFn name qual params body scope dV kV doc pm an cdv ct cc) (body := body) (binds := ps.zip us) hr.depth (inK _ _ lk) rfl noL (PySem.W.codeRec_of inK hcd) rfl hb S.nocell ?_ (fun h₁ hns hk => ?_) S.co S.gen S.kind
  · rintro ⟨n, v⟩ hy
    exact S.par n (List.of_mem_zip hy).1
  have R2 := hr.deeper (PySem.W.ksEnv qual scope s.heap.objs.size f cdv cc)
  have hX : DefX T mg base k (cxSup T.P T.w T.K mg base N qual scope f cdv cc A outer s H E) (fun cls dx _ H' => E cls dx H') := by
    refine ⟨⟨rfl, rfl, rfl⟩, ⟨?_, hg⟩, R2, rfl, rfl, takes_of rfl rfl rfl rfl, rfl⟩
    have := R2.un
    show (A.deeper (PySem.W.ksEnv qual scope s.heap.objs.size f cdv cc)).units + 120 < cLine
    omega
  have I := sup_start (E := E) (qual := qual) (f := f) (cd := cdv) (tk := s.toks + (ps.zip us).length) S hr.hd e0 hl r hc hns hk
  have ends : ∀ {σ' : L2.St} {H' : Hp} {v : V} {u : Value} {s' : Shared}, Inv (cxSup T.P T.w T.K mg base N qual scope f cdv cc A outer s H E) [] σ' H' s' → RelV v u → Q v H' → CE outer T.P T.w H s Q u s' := fun {σ' H' v u s'} J rv q => ⟨v, H', J.os, J.bare, J.base, J.hok, rv, q⟩
  refine PySem.ks_wpAt_mono ((hbody A outer s H E hX).run [] _ (L2.start N vs) H { nx := fun _ H' => Q .non H', rt := Q } I (ts_start hsp)) (fun fl s' hs => ?_) fun e s' hs => hs
  cases fl with
  | ret u =>
    obtain ⟨v, σ', H', J, rv, q⟩ := hs
    exact ends J rv q
  | next =>
    obtain ⟨σ', H', J, q⟩ := hs
    exact ends (v := V.non) (u := Value.none) J rfl q
  | brk =>
    obtain ⟨_, _, _, q⟩ := hs
    exact q.elim
  | cont =>
    obtain ⟨_, _, _, q⟩ := hs
    exact q.elim
end
end Z
set_option maxHeartbeats 4000000
namespace Z
open PySem PySem.Spec PyProof.Rows L2
set_option autoImplicit false
def mSup (cs : List Nat) (n : Nat) (den : Den) (gD : List D → List D → List D) (m : EvL) : Ev := fun ρ g => match ρ[(0 : Nat)]? with
  | some (.val (.ref i)) => match g[i]? with
    | some (.ob c _) => if c ∈ cs then (m ρ g).bind fun ds g1 => if ds.length = n then den (gD (.ref i :: ds) []) g1 else .bad else .bad
    | _ => .bad
  | _ => .bad
/-- what is known of the def at f, that stands in the class at D -/
structure SupF (P : Program) (K : PySem.W.Frag) (mg : Str → Option Value) (f cc D : Addr) (cdv : Value) (x0 : Str) (scope : Scope) : Prop where
  fn : ∃ oc od osl fd ar, K.lookup f = some ⟨oc, od, .func fd, osl⟩ ∧ (fd.params.posonlyargs ++ fd.params.args).head? = some ar ∧ ar.arg = x0
  code : ∃ cda ccl cdd vs ccs tf, cdv = .ref cda ∧ K.lookup cda = some ⟨ccl, cdd, .fields vs, ccs⟩ ∧ vs[2]? = some (.str P.main.file tf)
  cell : ∃ cl cld csl, K.lookup cc = some ⟨cl, cld, .cell (some (.ref D)), csl⟩
  cls : ∃ cdD, PySem.W.clsIn K D = some cdD
  op : PySem.W.nsIn K cStatics "thirdparty.any" = some none
  ks : scope.names.lookup ("super" : Str) = some NameKind.globalImplicit
  kc : scope.names.lookup ("__class__" : Str) = some NameKind.free
  ka : scope.names.lookup x0 = some NameKind.local
  kk : scope.kind = .function
  sn : mg ("super" : Str) = none
  top : (P.main.scope.names.lookup ("super" : Str)).isSome = false
/-- of a class that reaches it: what super() looks up -/
structure SupC (K : PySem.W.Frag) (C D f2 : Addr) : Prop where
  cl : Cls K C
  sub : PySem.W.mroIn K C (.ref D) = some true
  sup : PySem.W.ks_superIn K C D "__init__" = some (some (.ref f2))
structure SupG (K : PySem.W.Frag) (f2 : Addr) : Prop where
  ty : PySem.W.typeIn K (.ref f2) = some (.type "function")
  fi : PySem.W.fnIn K f2 = true
section
variable {T : Wd} {W : WX} {mg : Str → Option Value} {base : Heap} {k n : Nat} {f cc Dc f2 : Addr} {qual x0 : Str} {body : List Stmt} {scope : Scope} {cdv : Value} {N : List Str} {cs : List Nat} {den : Den} {gD : List D → List D → List D} {m : EvL} {e : Expr} {es : List Expr} {p0 p1 apos pos pos2 : Pos} {A : Around} {outer : List PySem.Env} {s0 : Shared} {H0 : Hp} {E : XK} {pl : Sem Bool} {fd2 : FuncData} {ps2 : List Str} {gV : List V → List V → List V}
theorem sup_stmt (F : SupF T.P T.K mg f cc Dc cdv x0 scope) (hC : ∀ c ∈ cs, SupC T.K (T.oc c) Dc f2) (G : SupG T.K f2) (Fn : FnG T mg base k f2 fd2 ps2 den) (B : Bd T.K fd2 ps2 (n + 1) [] gV gD) (dx : DefX T mg base k (cxSup T.P T.w T.K mg base N qual scope f cdv cc A outer s0 H0 E) W) (hN : N[0]? = some x0)
    (ha : EAs T W (cxSup T.P T.w T.K mg base N qual scope f cdv cc A outer s0 H0 E) (e :: es) m)
    (hi : interactive (PySem.W.ksEnv qual scope s0.heap.objs.size f cdv cc) = false := by rfl)
    (hsw : swapsWith (.Call (.Attribute (.Call (.Name "super" p0) [] [] p1) "__init__" apos) (e :: es) [] pos) none pos2.line (PySem.W.ksEnv qual scope s0.heap.objs.size f cdv cc) = pure false := by rfl)
    (hst : starEach (e :: es) (PySem.W.ksEnv qual scope s0.heap.objs.size f cdv cc) = (false, eval e (PySem.W.ksEnv qual scope s0.heap.objs.size f cdv cc)) :: starEach es (PySem.W.ksEnv qual scope s0.heap.objs.size f cdv cc) := by rfl)
    (hpl : (backTo pos (starEach es (PySem.W.ksEnv qual scope s0.heap.objs.size f cdv cc))).any (·.1) = false := by rfl)
    (ht : eval (.Call (.Attribute (.Call (.Name "super" p0) [] [] p1) "__init__" apos) (e :: es) [] pos) (PySem.W.ksEnv qual scope s0.heap.objs.size f cdv cc) = (do
      let ov ← attributeBase (.Call (.Name "super" p0) [] [] p1) "__init__" (PySem.W.ksEnv qual scope s0.heap.objs.size f cdv cc) (eval (.Call (.Name "super" p0) [] [] p1) (PySem.W.ksEnv qual scope s0.heap.objs.size f cdv cc))
      standAt apos.atName
      let (fz, first) ← holding [ov] (getMethod ov "__init__" pl)
      callWith pos fz first (backTo pos (starEach (e :: es) (PySem.W.ksEnv qual scope s0.heap.objs.size f cdv cc))) []) := by rfl)
    (pins : List (Addr × Obj)) (s : Shared) (σ : L2.St) (H : Hp) (D : Ends) (I : Inv (cxSup T.P T.w T.K mg base N qual scope f cdv cc A outer s0 H0 E) pins σ H s) (h : tS T W (sDrop (mSup cs n den gD m)) D σ H) :
    _root_.PySem.wpAt (model T.P T.w) (A.deeper (PySem.W.ksEnv qual scope s0.heap.objs.size f cdv cc)) (.func body (PySem.W.ksEnv qual scope s0.heap.objs.size f cdv cc)) (exec (.Expr (.Call (.Attribute (.Call (.Name "super" p0) [] [] p1) "__init__" apos) (e :: es) [] pos) pos2) (PySem.W.ksEnv qual scope s0.heap.objs.size f cdv cc))
      (SP (cxSup T.P T.w T.K mg base N qual scope f cdv cc A outer s0 H0 E) pins D) (cxSup T.P T.w T.K mg base N qual scope f cdv cc A outer s0 H0 E).xe s := by
  obtain ⟨E0, γ, ρ, g, S, p⟩ := h
  have q : Post T γ H σ W (rD T) (fun _ H' => D.nx σ H') (mSup cs n den gD m ρ g) := by
    unfold sDrop at p
    revert p
    cases mSup cs n den gD m ρ g with
    | ok d g' => exact fun p v ι' H' s1 G1 r1 => p (γ.to ι') σ H' (S.step s1 G1)
    | exc x g' => exact fun p cls dx ι' H' s1 G1 r1 => p (γ.to ι') σ H' cls dx (S.step s1 G1) r1
    | bad => exact fun p => p
  have S := S.st
  clear p
  unfold mSup at q
  cases hr : ρ[0]? with
  | none => rw [hr] at q; exact q.elim
  | some sl =>
    rw [hr] at q
    cases sl with
    | val d0 =>
      cases d0 with
      | ref i =>
        dsimp only at q
        cases hg : g[i]? with
        | none => rw [hg] at q; exact q.elim
        | some cl =>
          rw [hg] at q
          cases cl with
          | ob c fs =>
            dsimp only at q
            by_cases hcs : c ∈ cs
            · rw [if_pos hcs] at q
              obtain ⟨v0, e1, rv0⟩ := S.vals 0 _ hr
              obtain ⟨a, e2, rfl⟩ : ∃ a, γ.ι[i]? = some a ∧ v0 = .ref a := by simpa [RelD] using rv0
              obtain ⟨b, e3, ws, q1, dx0, q3⟩ := S.cells.at_ i _ hg
              obtain rfl : b = a := by rw [e2] at e3; cases e3; rfl
              obtain ⟨mA, O, _⟩ := ins_get I.hok q3
              obtain ⟨odx, J, _⟩ := O.look
              have SC := hC c hcs
              obtain ⟨oc, od, osl, fd, ar, lkf, hhd, har⟩ := F.fn
              obtain ⟨cda, ccl, cdd, vs, ccs, tf, rfl, lkc, hvs⟩ := F.code
              obtain ⟨cl, cld, csl, lkcc⟩ := F.cell
              obtain ⟨cdD, hD⟩ := F.cls
              have X : T.K.In s.heap := by
                have := I.kIn
                exact this
              obtain ⟨oD, hD1, hD2⟩ : ∃ oD, s.heap.get? Dc = some oD ∧ oD.data = .cls cdD := by
                unfold PySem.W.clsIn at hD
                split at hD
                · rename_i c d cd' sl ho
                  cases hD
                  exact ⟨_, X _ _ ho, rfl⟩
                · cases hD
              obtain ⟨m0, hn, hl⟩ := I.loc
              have vis : Vis scope x0 := .inl F.ka
              obtain ⟨u0, r0, l0⟩ := hl 0 x0 (.ref b) hN e1 vis
              obtain rfl : u0 = Value.ref b := r0
              have hm0 : m0 x0 = some (.ref b) := by
                rcases l0 with ⟨_, z⟩ | ⟨hk, _⟩
                · exact z
                · rcases hk with hk | hk
                  · have : scope.names.lookup x0 = some NameKind.cell := hk
                    rw [F.ka] at this; cases this
                  · have : scope.names.lookup x0 = some NameKind.free := hk
                    rw [F.ka] at this; cases this
              refine PySem.ks_wpAt_Expr_any ?_ hi hsw
              refine PySem.ks_wpAt_MethodCall (pl := pl) ?_ ht
              refine PySem.ks_wpAt_super_base (env := PySem.W.ksEnv qual scope s0.heap.objs.size f (.ref cda) cc) F.ks F.kc (by decide) rfl (X _ _ lkf) rfl hhd rfl (X _ _ lkc) rfl hvs (by simp) F.top ?_
              obtain ⟨mb, hb1, hb2⟩ := I.mod.blt
              refine PySem.W.ks_loadName_global F.kk F.ks (Calls.loadGlobal_builtin (env := PySem.W.ksEnv qual scope s0.heap.objs.size f (.ref cda) cc) (I.mod.glob.keeps I.bk) F.sn (hb1.keeps I.bk) ((hb2 _ (by decide)).trans (show bootBuiltins ("super" : Str) = some (.type "super") from rfl)) ⟨rfl, ?_⟩)
              refine wpAny_loadName_free F.kk F.kc rfl ⟨_, X _ _ lkcc, rfl⟩ ?_
              refine wpAny_loadName_local F.kk (by rw [har]; exact F.ka) hn (by rw [har]; exact hm0) ?_
              refine PySem.ks_wpAny_isType_cls hD1 hD2 ⟨rfl, ?_⟩
              refine PySem.ks_wpAny_call_super hD1 hD2 J.at_ J.cls (fun c e => ?_) (PySem.W.looks_mroIn X SC.sub) (fun h' eh kh => ?_)
              · have := J.no
                unfold PySem.W.notCls at this
                rw [e] at this
                exact Bool.noConfusion this
              have I2 := ClX.pin_new (t' := s.toks) I kh (Nat.le_refl _) eh (fun v z => nomatch z)
              have X2 : T.K.In h' := by
                have := I2.kIn
                exact this
              obtain ⟨mA2, O2, _⟩ := ins_get I2.hok q3
              obtain ⟨odx2, J2, _⟩ := O2.look
              obtain ⟨cd2, hc2⟩ : ∃ cd2, PySem.W.clsIn T.K (T.oc c) = some cd2 := by
                obtain ⟨cd, hc, _⟩ := PySem.W.any_some SC.cl.hd
                exact ⟨cd, hc⟩
              obtain ⟨of, hof, hofc⟩ : ∃ of, h'.get? f2 = some of ∧ of.cls = .type "function" := by
                have ht' : (T.K.lookup f2).map (·.cls) = some (.type "function") := G.ty
                cases z : T.K.lookup f2 with
                | none => rw [z] at ht'; cases ht'
                | some of => rw [z] at ht'; exact ⟨of, X2 _ _ z, Option.some.inj ht'⟩
              have hsupr := SC.sup
              unfold PySem.W.ks_superIn at hsupr
              rw [hc2, Option.bind_some] at hsupr
              refine PySem.ks_wpAny_getMethod_super (l₀ := cd2.mro) eh (PySem.W.looks_opaque X2 F.op) ?_ rfl X2 hsupr hof hofc (PySem.W.ks_ne X2 J2 hc2) (by decide) ?_
              · exact fun A Q E s k q => wpAny_bind ((PySem.W.looks_clsIn X2 hc2) A _ E s k (wpAny_pure q))
              have I3 := ClX.met_new (g := f2) (C := b) I2
              refine ClX.callwith_cm I3 (ClX.base_none I2 (Nat.le_refl _)) (by exact G.fi) (thn (ha.run pos _ _ σ H (fun vs H2 => ∃ γ2 g2 ds, StR T γ2 H2 ρ σ g2 ∧ γ2.ι[i]? = some b ∧ RelDs T γ2.ι γ2.bar H2 ds vs ∧ Post T γ2 H2 σ W (rD T) (fun _ H' => D.nx σ H') (if ds.length = n then den (gD (.ref i :: ds) []) g2 else .bad)) I3 ⟨γ, ρ, g, S, q.bind fun ds g2 _ vs ι2 H2 s2 G2 r2 p2 => ⟨γ.to ι2, g2, ds, S.step s2 G2, s2.get e2, r2, p2⟩⟩) fun us s3 ⟨vs', H3, I4, r, γ2, g2, ds, S2, e4, r2, p2⟩ => ⟨⟨ClX.pin_at I4, I4.kIn⟩, ?_⟩) hst hpl
              by_cases hl2 : ds.length = n
              · rw [if_pos hl2] at p2
                have inK : T.K.In s3.heap := I4.kIn
                have l1 : (Value.ref b :: us).length = n + 1 := by rw [List.length_cons, ← r.length, r2.length, hl2]
                have rself : RelD T γ2.ι γ2.bar H3 (.ref i) (.ref b) := by simp only [RelD]; exact ⟨b, e4, rfl⟩
                obtain ⟨xs, hb, rx, lx⟩ := B.to s3 (.ref b :: us) [] (.ref b :: vs') [] inK l1 rfl (.cons rfl r) .nil
                have key := run_fnA (aro0 dx) Fn dx hb I4 rx lx (spD_of S2 (B.rel (by rw [List.length_cons, hl2]) rfl (.cons rself r2) .nil) p2)
                refine wpAny_call (PySem.W.method_call (ClX.pin_at I4) (codeAny_mono key fun r s' hq => ?_))
                cases r with
                | error er => exact hq
                | ok fl =>
                  cases fl with
                  | ret u =>
                    obtain ⟨v, H', I5, rv, q5⟩ := ClX.unpinE (ClX.unpinE hq)
                    exact ⟨σ, H', I5, q5⟩
                  | next => exact hq
                  | brk => exact hq
                  | cont => exact hq
              · rw [if_neg hl2] at p2; exact p2.elim
            · rw [if_neg hcs] at q; exact q.elim
          | _ => exact q.elim
      | _ => exact q.elim
    | _ => exact q.elim
end
end Z
set_option maxHeartbeats 4000000
namespace Z
open PySem PySem.Spec PyProof.Rows L2
set_option autoImplicit false
/-- a def in a class: its class, its name there, its kind (0 a method, 1 a property, 2 a classmethod) -/
structure CfD where
  cls : Str
  m : Str
  kind : Nat
  qual : Str
  params : Arguments
  body : List Stmt
  scope : Scope
  clo : List Str := []
  dfl : List He.Dv := []
  kwd : List (Str × He.Dv) := []
def rcA (K : PySem.W.Frag) (p : Addr) (t : String) : Addr := match PySem.W.recIn K p t with
  | some (.ref g :: _) => g
  | _ => 0
def cAd (K : PySem.W.Frag) (c : CfD) : Addr := match c.kind with
  | 0 => He.ma K (He.ga K c.cls) c.m
  | 1 => rcA K (He.ma K (He.ga K c.cls) c.m) "property"
  | 2 => rcA K (He.ma K (He.ga K c.cls) c.m) "classmethod"
  | _ => rcA K (He.ma K (He.ga K c.cls) c.m) "staticmethod"
abbrev FnC : Type := Option (Str × Str × Arguments × FuncBody × Scope × Addr × List Str × Addr)
def fnA (K : PySem.W.Frag) (f : Addr) : FnC := match K.lookup f with
  | some ⟨_, _, .func fd, _⟩ => some (fd.name, fd.qualname, fd.params, fd.body, fd.scope, fd.globals, fd.closure.map (·.1), fd.builtins)
  | _ => none
def CfD.val (c : CfD) : FnC := some (c.m, c.qual, c.params, .stmts c.body, c.scope, mainGlobals, c.clo, builtinsNs)
def CfD.dvs (K : PySem.W.Frag) (d : CfD) : List V := d.dfl.map (He.Dv.v K)
def CfD.kws (K : PySem.W.Frag) (d : CfD) : List (Str × V) := d.kwd.map fun q => (q.1, q.2.v K)
/-- the function itself -/
def cfB (K : PySem.W.Frag) (d : CfD) : Bool := PySem.W.keepIn K (.ref (cAd K d)) && (PySem.W.isFn K (.ref (cAd K d)) && (match K.lookup (cAd K d) with
  | some ⟨_, _, .func fd, _⟩ => PySem.W.codeIn K fd.code d.qual && (He.dflB K fd.defaults (d.dvs K) && He.kwdB K fd.kwdefaults (d.kws K))
  | _ => false))
theorem fn_in {K : PySem.W.Frag} {d : CfD} (c : cfB K d = true) : PySem.W.fnIn K (cAd K d) = true := by
  obtain ⟨_, c⟩ := He.ba c
  obtain ⟨_, c⟩ := He.ba c
  unfold PySem.W.fnIn
  split at c
  · rename_i h
    rw [h]
  · cases c
theorem CfD.funD {K : PySem.W.Frag} {d : CfD} (e : fnA K (cAd K d) = d.val) (c : cfB K d = true) (hc : d.clo = []) : ∃ fd, FunD K d.m d.qual d.params d.body d.scope (d.dvs K) (d.kws K) (cAd K d) fd := by
  obtain ⟨kp, c⟩ := He.ba c
  obtain ⟨_, c2⟩ := He.ba c
  unfold fnA at e
  cases q : K.lookup (cAd K d) with
  | none =>
    rw [q] at c2
    cases c2
  | some o =>
    obtain ⟨oc, od, dt, osl⟩ := o
    rw [q] at c2 e
    cases dt with
    | func fd =>
      obtain ⟨n1, n2, n3, n4, n5, n6, n7, n8, n9, n10, n11, n12, n13, n14, n15⟩ := fd
      have e2 : (some (n1, n2, n3, n4, n5, n6, n7.map (·.1), n15) : FnC) = some (d.m, d.qual, d.params, .stmts d.body, d.scope, mainGlobals, d.clo, builtinsNs) := e
      rw [hc] at e2
      simp only [Option.some.injEq, Prod.mk.injEq, List.map_eq_nil_iff] at e2
      obtain ⟨h1, h2, h3, h4, h5, h6, h7, h8⟩ := e2
      subst h1 h2 h3 h4 h5 h6 h7 h8
      have c3 : (PySem.W.codeIn K n13 d.qual && (He.dflB K n8 (d.dvs K) && He.kwdB K n9 (d.kws K))) = true := c2
      obtain ⟨k1, k2⟩ := He.ba c3
      obtain ⟨k3, k4⟩ := He.ba k2
      exact ⟨_, ⟨oc, od, n8, n9, n10, n11, n12, n13, n14, osl, rfl, q, k1, He.dflB_ok k3, He.kwdB_ok k4⟩, kp⟩
    | _ => cases c2
/-- .. that says super() -/
structure FunS (P : Program) (K : PySem.W.Frag) (x qual : Str) (params : Arguments) (body : List Stmt) (scope : Scope) (dvs : List V) (kws : List (Str × V)) (f cc D : Addr) (cdv : Value) (fd : FuncData) : Prop where
  ex : ∃ (oc : Value) (od : Option Addr) (dV kV doc pm : Value) (an : Option Addr) (ct : Value) (osl : Array (Option Value)),
    fd = PySem.W.ksFn x qual params body scope dV kV doc pm an cdv ct cc ∧ K.lookup f = some ⟨oc, od, .func fd, osl⟩ ∧ PySem.W.codeIn K cdv qual = true ∧ DflV K dV dvs ∧ KwdV K kV kws
  code : ∃ cda ccl cdd vs ccs tf, cdv = .ref cda ∧ K.lookup cda = some ⟨ccl, cdd, .fields vs, ccs⟩ ∧ vs[2]? = some (.str P.main.file tf)
  cell : ∃ cl cld csl, K.lookup cc = some ⟨cl, cld, .cell (some (.ref D)), csl⟩
  kp : PySem.W.keepIn K (.ref f) = true
/-- its code's file, its cell -/
def cfS (file : Str) (K : PySem.W.Frag) (d : CfD) : Bool := match K.lookup (cAd K d) with
  | some ⟨_, _, .func fd, _⟩ => (match fd.code, fd.closure with
    | .ref cda, [(_, cc)] => (match K.lookup cda with
      | some ⟨_, _, .fields vs, _⟩ => (match (vs[2]? : Option Value) with
        | some (.str f _) => decide (f = file)
        | _ => false)
      | _ => false) && (match K.lookup cc with
      | some ⟨_, _, .cell (some (.ref D)), _⟩ => decide (D = He.ga K d.cls)
      | _ => false)
    | _, _ => false)
  | _ => false
theorem CfD.funS {P : Program} {K : PySem.W.Frag} {d : CfD} (e : fnA K (cAd K d) = d.val) (c : cfB K d = true) (h8 : cfS P.main.file K d = true) (hc : d.clo = [("__class__" : Str)]) : ∃ cc cdv fd, FunS P K d.m d.qual d.params d.body d.scope (d.dvs K) (d.kws K) (cAd K d) cc (He.ga K d.cls) cdv fd := by
  obtain ⟨kp, c⟩ := He.ba c
  obtain ⟨_, c2⟩ := He.ba c
  unfold cfS at h8
  unfold fnA at e
  split at h8
  · rename_i oc od fd osl lk
    rw [lk] at e c2
    split at h8
    · rename_i cda x cc ecd ecl
      obtain ⟨g2, g3⟩ := He.ba h8
      obtain ⟨n1, n2, n3, n4, n5, n6, n7, n8, n9, n10, n11, n12, n13, n14, n15⟩ := fd
      dsimp only at ecd ecl
      subst ecd ecl
      have hv : (some (n1, n2, n3, n4, n5, n6, [x], n15) : FnC) = some (d.m, d.qual, d.params, .stmts d.body, d.scope, mainGlobals, d.clo, builtinsNs) := e
      rw [hc] at hv
      simp only [Option.some.injEq, Prod.mk.injEq, List.cons.injEq, and_true] at hv
      obtain ⟨e1, e2, e3, e4, e5, e6, e7, e8⟩ := hv
      subst e1 e2 e3 e4 e5 e6 e7 e8
      have c3 : (PySem.W.codeIn K (.ref cda) d.qual && (He.dflB K n8 (d.dvs K) && He.kwdB K n9 (d.kws K))) = true := c2
      obtain ⟨k1, k2⟩ := He.ba c3
      obtain ⟨k3, k4⟩ := He.ba k2
      refine ⟨cc, .ref cda, _, ⟨oc, od, n8, n9, n10, n11, n12, n14, osl, rfl, lk, k1, He.dflB_ok k3, He.kwdB_ok k4⟩, ?_, ?_, kp⟩
      · split at g2
        · rename_i vs _ lc
          split at g2
          · rename_i f tf hvs
            have := of_decide_eq_true g2
            subst this
            exact ⟨_, _, _, _, _, _, rfl, lc, hvs⟩
          · cases g2
        · cases g2
      · split at g3
        · rename_i D _ lc
          have := of_decide_eq_true g3
          subst this
          exact ⟨_, _, _, lc⟩
        · cases g3
    · cases h8
  · cases h8
section
variable {P : Program} {K : PySem.W.Frag} {x qual : Str} {params : Arguments} {body : List Stmt} {scope : Scope} {f cc D : Addr} {cdv : Value} {fd : FuncData} {ps : List Str} {dvs : List V}
theorem bdS_dfl (F : FunS P K x qual params body scope dvs [] f cc D cdv fd) (dD : List Z.D) (hd : scVs dD = some dvs) (hne : dvs ≠ []) (n : Nat) (ks : List Str) (pl : List Nat) (hp : (pl.all fun i => decide (i < n + ks.length + dvs.length)) = true) (hl : pl.length = ps.length)
    (h : ∀ (A : Addr) (kV doc pm : Value) (an : Option Addr) (ct : Value) (us ws its : List Value), us.length = n → ws.length = ks.length → its.length = dvs.length →
      ∃ k, bindArgs (PySem.W.ksFn x qual params body scope (.ref A) kV doc pm an cdv ct cc) ⟨us, ks.zip ws⟩ = seqItems? (.ref A) >>= k ∧ k (some its.toArray) = pure (ps.zip (pkV Value.none pl (us ++ ws ++ its)))) :
    Bd K fd ps n ks (fun vs zs => pkV V.non pl (vs ++ zs ++ dvs)) (fun ds es => pkV Z.D.non pl (ds ++ es ++ dD)) := by
  have hp' : ∀ i ∈ pl, i < n + ks.length + dvs.length := fun i hi => of_decide_eq_true (List.all_eq_true.mp hp i hi)
  refine ⟨fun s us ws vs zs inK l1 l2 r1 r2 => ?_, fun {T ι bar H ds es vs zs} l1 l2 r1 r2 => ?_⟩
  · obtain ⟨oc, od, dV, kV, doc, pm, an, ct, osl, rfl, lk, hcd, hD, hK⟩ := F.ex
    rcases hD with ⟨e, _⟩ | ⟨_, A, o, its, m, rfl, lT, oT, rT⟩
    · exact absurd e hne
    · have rr := (r1.append r2).append rT
      have li := rT.length
      have ll : (vs ++ zs ++ dvs).length = n + ks.length + dvs.length := by rw [rr.length, List.length_append, List.length_append, l1, l2, li]
      obtain ⟨k, e1, e2⟩ := h A kV doc pm an ct us ws its l1 l2 li.symm
      refine ⟨_, BindsTo.of_looks fun M => ?_, pk_vals rr fun i hi => by rw [ll]; exact hp' i hi, by simp [pkV, hl]⟩
      rw [e1]
      exact looks_items inK lT oT (.of_pure e2)
  · have rs := (r1.append r2).append (scVs_rel (T := T) (ι := ι) (bar := bar) (H := H) hd)
    exact pk_rel rs fun i hi => by
      have := rs.length
      rw [List.length_append, List.length_append] at this
      rw [List.length_append, List.length_append, l1, l2]
      have hz := (scVs_rel (T := T) (ι := ι) (bar := bar) (H := H) hd).length
      rw [← hz]; exact hp' i hi
end
def tyN : List String := ["NoneType", "bool", "int", "str", "tuple", "list"]
inductive CFa where
  | cls (x : Str)
  | noat (x f : Str)
  | mkr (x : Str) (d : CfD)
  | meth (x : Str) (d : CfD)
  | prop (x : Str) (d : CfD)
  | cmet (x : Str) (d : CfD)
  | selfF (x : Str)
  | kit (x y : Str) (b : Bool)
  | kitT (y : Str)
  | sub (x y : Str) (b : Bool)
  | ne (x y : Str)
  | subT (x : Str)
  | supr (x y : Str) (d : CfD)
def eqB (a b : Option Bool) : Bool := decide (a = b)
def foundB (K : PySem.W.Frag) (C p : Addr) (m : Str) : Bool := match PySem.W.findCls K (.ref C) (.type "type") m with
  | some (.get g a o c) => decide (g = .builtin "classmethod.__get__") && (decide (a = .ref p) && (decide (o = .none) && decide (c = .ref C)))
  | _ => false
def CFa.ok (K : PySem.W.Frag) : CFa → Bool
  | .cls x => He.eqO (PySem.W.nsIn K mainGlobals x) (some (some (.ref (He.ga K x)))) && ((He.Fa.cls x).ok K && (He.eqO (PySem.W.findIn K (.ref (He.ga K x)) "__class__") (some (some (.builtin "object.__class__"))) && (He.eqO (PySem.W.specialIn K (.builtin "object.__class__") "__get__") (some (some (.builtin "getset_descriptor.__get__"))) && (eqB (PySem.W.takesIn K (.builtin "object.__class__")) (some true) && (eqB (PySem.W.mroIn K (He.ga K x) (.type "object")) (some true) && (PySem.W.clsIn K (He.ga K x)).isSome)))))
  | .noat x f => He.eqO (PySem.W.findIn K (.ref (He.ga K x)) f) (some none)
  | .mkr x d => PySem.W.makesIn K (He.ga K x) && (He.eqO (PySem.W.findIn K (.ref (He.ga K x)) "__init__") (some (some (.ref (cAd K d)))) && PySem.W.keepIn K (.ref (He.ga K x)))
  | .meth x d => He.eqO (PySem.W.findIn K (.ref (He.ga K x)) d.m) (some (some (.ref (cAd K d))))
  | .prop x d => He.eqO (PySem.W.findIn K (.ref (He.ga K x)) d.m) (some (some (.ref (He.ma K (He.ga K d.cls) d.m)))) && (He.eqO (PySem.W.specialIn K (.ref (He.ma K (He.ga K d.cls) d.m)) "__get__") (some (some (.builtin "property.__get__"))) && (eqB (PySem.W.takesIn K (.ref (He.ma K (He.ga K d.cls) d.m))) (some true) && (match PySem.W.recIn K (He.ma K (He.ga K d.cls) d.m) "property" with
    | some (.ref g :: _) => decide (g = cAd K d)
    | _ => false)))
  | .cmet x d => PySem.W.readsIn K (He.ga K x) (.type "type") && (He.eqO (PySem.W.specialIn K (.ref (He.ga K x)) "__getattribute__") (some (some (.builtin "type.__getattribute__"))) && (foundB K (He.ga K x) (He.ma K (He.ga K d.cls) d.m) d.m && (match PySem.W.recIn K (He.ma K (He.ga K d.cls) d.m) "classmethod" with
    | some (.ref g :: _) => decide (g = cAd K d)
    | _ => false)))
  | .selfF x => PySem.W.selfFirst K (He.ga K x)
  | .kit x y b => eqB (PySem.W.kitOne K (.ref (He.ga K x)) (.ref (He.ga K y))) (some b)
  | .kitT y => tyN.all fun t => eqB (PySem.W.kitOne K (.type t) (.ref (He.ga K y))) (some false)
  | .sub x y b => eqB (PySem.W.subIn K (.ref (He.ga K x)) (.ref (He.ga K y))) (some b)
  | .ne x y => decide (He.ga K x ≠ He.ga K y)
  | .subT x => tyN.all fun t => eqB (PySem.W.subIn K (.type t) (.ref (He.ga K x))) (some false)
  | .supr x y d => eqB (PySem.W.mroIn K (He.ga K x) (.ref (He.ga K y))) (some true) && (He.eqO (PySem.W.ks_superIn K (He.ga K x) (He.ga K y) "__init__") (some (some (.ref (cAd K d)))) && He.eqO (PySem.W.nsIn K cStatics "thirdparty.any") (some none))
section
variable {K : PySem.W.Frag} {h : Heap} {mg : Str → Option Value} {x y f : Str} {d : CfD} {b : Bool}
theorem eqB_ok {a b : Option Bool} (h : eqB a b = true) : a = b := of_decide_eq_true h
theorem cf_glo (X : K.In h) (G : h.Ns mainGlobals mg) (c : (CFa.cls x).ok K = true) : mg x = some (.ref (He.ga K x)) := PySem.W.mg_of X G (He.eqO_ok (He.ba c).1)
theorem cf_cls (c : (CFa.cls x).ok K = true) : OwnC K (He.ga K x) := by
  obtain ⟨_, c⟩ := He.ba c
  obtain ⟨c1, c⟩ := He.ba c
  obtain ⟨c2, c⟩ := He.ba c
  obtain ⟨c3, c⟩ := He.ba c
  obtain ⟨c4, c⟩ := He.ba c
  obtain ⟨c5, _⟩ := He.ba c
  exact ⟨He.cls_ok c1, He.eqO_ok c2, He.eqO_ok c3, eqB_ok c4, eqB_ok c5⟩
theorem cf_clsIn (c : (CFa.cls x).ok K = true) : ∃ cd, PySem.W.clsIn K (He.ga K x) = some cd := by
  obtain ⟨_, c⟩ := He.ba c
  obtain ⟨c1, c⟩ := He.ba c
  obtain ⟨c2, c⟩ := He.ba c
  obtain ⟨c3, c⟩ := He.ba c
  obtain ⟨c4, c⟩ := He.ba c
  obtain ⟨_, c6⟩ := He.ba c
  exact Option.isSome_iff_exists.mp c6
theorem cf_noat (c : (CFa.noat x f).ok K = true) : NoAttr K (He.ga K x) f := He.eqO_ok c
theorem cf_mkr (c : (CFa.mkr x d).ok K = true) (b : cfB K d = true) : L2.Mk K (He.ga K x) (cAd K d) := by
  obtain ⟨c1, c⟩ := He.ba c
  obtain ⟨c2, c3⟩ := He.ba c
  exact ⟨c1, He.eqO_ok c2, (He.ba (He.ba b).2).1, c3⟩
theorem cf_meth (c : (CFa.meth x d).ok K = true) (b : cfB K d = true) : Meth K (He.ga K x) d.m (cAd K d) := ⟨He.eqO_ok c, (He.ba (He.ba b).2).1, (He.ba b).1⟩
theorem cf_rec {t : String} {p g : Addr} (h : (match PySem.W.recIn K p t with
    | some (.ref g' :: _) => decide (g' = g)
    | _ => false) = true) : ∃ rest, PySem.W.recIn K p t = some (.ref g :: rest) := by
  split at h
  · rename_i g' rest e
    have := of_decide_eq_true h
    subst this
    exact ⟨rest, e⟩
  · cases h
theorem cf_prop (c : (CFa.prop x d).ok K = true) : PropOf K (He.ga K x) d.m (He.ma K (He.ga K d.cls) d.m) (cAd K d) := by
  obtain ⟨c1, c⟩ := He.ba c
  obtain ⟨c2, c⟩ := He.ba c
  obtain ⟨c3, c4⟩ := He.ba c
  exact ⟨He.eqO_ok c1, He.eqO_ok c2, eqB_ok c3, cf_rec c4⟩
theorem cf_cmet (c : (CFa.cmet x d).ok K = true) (b : cfB K d = true) : ClX.CRead K (He.ga K x) (.type "type") ∧ ClX.CMet K (He.ga K x) (.type "type") d.m (He.ma K (He.ga K d.cls) d.m) (cAd K d) := by
  obtain ⟨c1, c⟩ := He.ba c
  obtain ⟨c2, c⟩ := He.ba c
  obtain ⟨c3, c4⟩ := He.ba c
  refine ⟨⟨c1, He.eqO_ok c2⟩, ⟨?_, cf_rec c4, fn_in b⟩⟩
  unfold foundB at c3
  split at c3
  · rename_i g a o cc e
    obtain ⟨d1, d2⟩ := He.ba c3
    obtain ⟨d2, d3⟩ := He.ba d2
    obtain ⟨d3, d4⟩ := He.ba d3
    rw [e, of_decide_eq_true d1, of_decide_eq_true d2, of_decide_eq_true d3, of_decide_eq_true d4]
  · cases c3
theorem cf_self (c : (CFa.selfF x).ok K = true) : PySem.W.selfFirst K (He.ga K x) = true := c
theorem cf_supr (c : (CFa.supr x y d).ok K = true) (cl : Cls K (He.ga K x)) : SupC K (He.ga K x) (He.ga K y) (cAd K d) := by
  obtain ⟨c1, c⟩ := He.ba c
  obtain ⟨c2, _⟩ := He.ba c
  exact ⟨cl, eqB_ok c1, He.eqO_ok c2⟩
theorem cf_op (c : (CFa.supr x y d).ok K = true) : PySem.W.nsIn K cStatics "thirdparty.any" = some none := by
  obtain ⟨_, c⟩ := He.ba c
  exact He.eqO_ok (He.ba c).2
theorem cf_supg (b : cfB K d = true) : SupG K (cAd K d) := ⟨by have := (He.ba (He.ba b).2).1; unfold PySem.W.isFn at this; exact eq_of_beq this, fn_in b⟩
end
abbrev AlC : Type := AlE × List FnC
def obsC (n : Nat) (fa : List He.Fa) (fn : List He.DefD) (er : List ErD) (tf : List He.Defn) (ex : PySem.W.Frag → Bool) (cf : List CfD) (g : Addr → Option Obj) : AlC := (obsE n fa fn er tf ex g, cf.map fun c => fnA (He.frT g (asE g n)) (cAd (He.frT g (asE g n)) c))
def valC (fn : List He.DefD) (er : List ErD) (cf : List CfD) : AlC := (valE fn er, cf.map CfD.val)
structure SaysC (fa : List He.Fa) (fn : List He.DefD) (er : List ErD) (tf : List He.Defn) (ex : PySem.W.Frag → Bool) (cf : List CfD) (h : Heap) (K : PySem.W.Frag) : Prop where
  e : SaysE fa fn er tf ex h K
  cf : ∀ c ∈ cf, fnA K (cAd K c) = c.val
theorem saysC_of {n : Nat} {fa : List He.Fa} {fn : List He.DefD} {er : List ErD} {tf : List He.Defn} {ex : PySem.W.Frag → Bool} {cf : List CfD} {h : Heap} (e : obsC n fa fn er tf ex cf h.get? = valC fn er cf) : SaysC fa fn er tf ex cf h (He.frT h.get? (asE h.get? n)) := by
  have e1 : obsE n fa fn er tf ex h.get? = valE fn er := congrArg (fun z : AlC => z.1) e
  have e2 : (cf.map fun c => fnA (He.frT h.get? (asE h.get? n)) (cAd (He.frT h.get? (asE h.get? n)) c)) = cf.map CfD.val := congrArg (fun z : AlC => z.2) e
  exact ⟨saysE_of e1, fun c hc => List.map_inj_left.mp e2 c hc⟩
def hookC (n : Nat) (fa : List He.Fa) (fn : List He.DefD) (er : List ErD) (tf : List He.Defn) (ex : PySem.W.Frag → Bool) (cf : List CfD) : PySem.W.Hook where
  α := AlC
  obs := fun s => obsC n fa fn er tf ex cf s.heap.get?
  val := fun _ => valC fn er cf
  says := fun _ h => ∃ K : PySem.W.Frag, K.In h ∧ SaysC fa fn er tf ex cf h K
  of := fun _ _ e => ⟨_, He.frT_in, saysC_of e⟩
  keeps := fun _ _ _ ⟨K, hK, c⟩ k => ⟨K, PySem.W.Frag.In.keeps hK k, ⟨⟨c.e.d, c.e.er, c.e.more, c.e.hd, c.e.out, fun p hp => k _ _ (c.e.empty p hp)⟩, c.cf⟩⟩
theorem obsC_eq {n : Nat} {fa : List He.Fa} {fn : List He.DefD} {er : List ErD} {tf : List He.Defn} {ex : PySem.W.Frag → Bool} {cf : List CfD} {g : Addr → Option Obj} {s : Shared} (h : ∀ a, g a = s.heap.get? a) : obsC n fa fn er tf ex cf g = (hookC n fa fn er tf ex cf).obs s := by
  have e : g = s.heap.get? := funext h
  rw [e] <;> rfl
end Z
set_option maxHeartbeats 0
namespace Z
open PySem PySem.Spec PyProof.Rows L2
set_option autoImplicit false
def top (i : Nat) : Stmt := PySem.Challenge.pw_zonebetween_k28_led_runs_refused.main.body.getD i (.Pass ⟨0, 0, 0, 0⟩)
def iniOf : Stmt → Stmt
  | .ClassDef _ _ _ body .. => body.getD 0 (.Pass ⟨0, 0, 0, 0⟩)
  | s => s
def er_NotUsable : ErD := ⟨"NotUsable", "NotUsable.__init__", defArgs (iniOf (top 7)), defBody (iniOf (top 7)), defScope (iniOf (top 7)), ["word", "at"]⟩
def er_NotRight : ErD := ⟨"NotRight", "NotRight.__init__", defArgs (iniOf (top 8)), defBody (iniOf (top 8)), defScope (iniOf (top 8)), ["place"]⟩
def er_NothingToUndo : ErD := ⟨"NothingToUndo", "NothingToUndo.__init__", defArgs (iniOf (top 9)), defBody (iniOf (top 9)), defScope (iniOf (top 9)), ["steps"]⟩
def ersz : List ErD := [er_NotUsable, er_NotRight, er_NothingToUndo]
def ysz : List Str := ["InvalidPaper", "NotUsable", "NotRight", "PaperError", "UseError", "TextError", "NothingToUndo", "LiveError"]
def flz : List Str := ["word", "at", "place", "steps"]
def tabz : List (List Bool) := [[false, true, false, false, true, false, false, false], [false, false, true, false, true, false, false, false], [false, false, false, false, false, false, true, true]]
def fsz : List (List Str) := [["word", "at"], ["place"], ["steps"]]
def hitz : Nat → Option Bool := fun k => if k < 3 then some true else none
def tupz : List (Str × List Str) := []
def lamz : List LamN := [("_law_are_begins_right", "_law_are_begins_right.<locals>.<lambda>"), ("_law_are_ticks_right", "_law_are_ticks_right.<locals>.<lambda>"), ("_law_is_end_right", "_law_is_end_right.<locals>.<lambda>"), ("_law_are_leads_right", "_law_are_leads_right.<locals>.<lambda>")]
def meOf : Stmt → Nat → Stmt
  | .ClassDef _ _ _ body .., j => body.getD j (.Pass ⟨0, 0, 0, 0⟩)
  | s, _ => s
abbrev st_looks_whole : Stmt := top 11
abbrev st_looks_number : Stmt := top 12
abbrev st_is_number : Stmt := top 14
abbrev st_want : Stmt := top 16
abbrev st_starts_of : Stmt := top 18
abbrev st_next_by : Stmt := top 19
abbrev st_nexts_by : Stmt := top 20
abbrev st_signs_at : Stmt := top 21
abbrev st_reason_at : Stmt := top 22
abbrev st_ticks_at : Stmt := top 23
abbrev st_is_same_place : Stmt := top 25
abbrev st_is_same_tick : Stmt := top 26
abbrev st_run_fault : Stmt := top 24
abbrev st_is_one_of : Stmt := top 28
abbrev st_is_triple : Stmt := top 29
abbrev st_tick_by : Stmt := top 30
abbrev st__law_feed : Stmt := top 34
abbrev st__law_draw : Stmt := top 35
abbrev st__law_pick : Stmt := top 36
abbrev st__law_hears : Stmt := top 37
abbrev st__law_why : Stmt := top 38
abbrev st__law_hand : Stmt := top 39
abbrev st__law_keeper : Stmt := top 40
abbrev st__law_four : Stmt := top 41
abbrev st__law_heard : Stmt := top 42
abbrev st__law_book_due : Stmt := top 43
abbrev st_Run_parts : Stmt := meOf (top 31) 2
abbrev st_Run_run_now : Stmt := meOf (top 31) 3
abbrev st_Run_place_now : Stmt := meOf (top 31) 4
abbrev st_Run_fault_now : Stmt := meOf (top 31) 5
abbrev st_Run_ready_ticks : Stmt := meOf (top 31) 6
abbrev st_Run_spots : Stmt := meOf (top 31) 8
abbrev st_Run_idle_now : Stmt := meOf (top 31) 7
abbrev st_Run___len__ : Stmt := meOf (top 31) 17
abbrev st_Run___str__ : Stmt := meOf (top 31) 19
abbrev st_Run___getitem__ : Stmt := meOf (top 31) 14
abbrev st__law_book_told : Stmt := top 44
abbrev st_Run_tick_at : Stmt := meOf (top 31) 12
abbrev st_LeastRun_tick_at : Stmt := meOf (top 32) 1
abbrev st_Run_tick : Stmt := meOf (top 31) 9
abbrev st_LeastRun_tick : Stmt := meOf (top 32) 2
abbrev st_Run___iadd__ : Stmt := meOf (top 31) 13
abbrev st__law_added : Stmt := top 45
abbrev st_Run___init__ : Stmt := meOf (top 31) 0
abbrev st_LeastRun___init__ : Stmt := meOf (top 32) 0
abbrev st__law_are_begins_right : Stmt := top 46
abbrev st__law_cases : Stmt := top 47
abbrev st_Run_tried : Stmt := meOf (top 31) 11
abbrev st__law_are_ticks_right : Stmt := top 48
abbrev st_Run_led : Stmt := meOf (top 31) 1
abbrev st_Run_back : Stmt := meOf (top 31) 10
abbrev st__law_is_end_right : Stmt := top 49
abbrev st__law_are_leads_right : Stmt := top 50
abbrev st_law : Stmt := top 51
def dd (x : Str) (st : Stmt) (dfl : List He.Dv) (kwd : List (Str × He.Dv) := []) : He.DefD := ⟨(x, none), x, x, defArgs st, defBody st, defScope st, dfl, kwd⟩
def fn : List He.DefD := [dd "looks_whole" st_looks_whole [], dd "looks_number" st_looks_number [], dd "is_number" st_is_number [], dd "want" st_want [.int (-1)], dd "starts_of" st_starts_of [], dd "next_by" st_next_by [], dd "nexts_by" st_nexts_by [], dd "signs_at" st_signs_at [], dd "reason_at" st_reason_at [], dd "ticks_at" st_ticks_at [], dd "is_same_place" st_is_same_place [], dd "is_same_tick" st_is_same_tick [], dd "run_fault" st_run_fault [], dd "is_one_of" st_is_one_of [], dd "is_triple" st_is_triple [], dd "tick_by" st_tick_by [], dd "_law_feed" st__law_feed [], dd "_law_draw" st__law_draw [], dd "_law_pick" st__law_pick [], dd "_law_hears" st__law_hears [], dd "_law_why" st__law_why [], dd "_law_hand" st__law_hand [], dd "_law_keeper" st__law_keeper [], dd "_law_four" st__law_four [], dd "_law_heard" st__law_heard [], dd "_law_book_due" st__law_book_due [], dd "_law_book_told" st__law_book_told [], dd "_law_added" st__law_added [], dd "_law_are_begins_right" st__law_are_begins_right [], dd "_law_cases" st__law_cases [], dd "_law_are_ticks_right" st__law_are_ticks_right [], dd "_law_is_end_right" st__law_is_end_right [], dd "_law_are_leads_right" st__law_are_leads_right [], dd "law" st_law []]
def fa : List He.Fa := [.glo "looks_whole", .glo "looks_number", .glo "is_number", .glo "want", .glo "starts_of", .glo "next_by", .glo "nexts_by", .glo "signs_at", .glo "reason_at", .glo "ticks_at", .glo "is_same_place", .glo "is_same_tick", .glo "run_fault", .glo "is_one_of", .glo "is_triple", .glo "tick_by", .glo "_law_feed", .glo "_law_draw", .glo "_law_pick", .glo "_law_hears", .glo "_law_why", .glo "_law_hand", .glo "_law_keeper", .glo "_law_four", .glo "_law_heard", .glo "_law_book_due", .glo "_law_book_told", .glo "_law_added", .glo "_law_are_begins_right", .glo "_law_cases", .glo "_law_are_ticks_right", .glo "_law_is_end_right", .glo "_law_are_leads_right", .glo "law", .free "ValueError", .free "bool", .free "enumerate", .free "int", .free "isinstance", .free "len", .free "list", .free "range", .free "repr", .free "sorted", .free "str", .free "super", .free "tuple"]
def cf_Run_parts : CfD := { cls := "Run", m := "parts", kind := 1, qual := "Run.parts", params := defArgs st_Run_parts, body := defBody st_Run_parts, scope := defScope st_Run_parts, clo := [], dfl := [] }
def cf_Run_run_now : CfD := { cls := "Run", m := "run_now", kind := 1, qual := "Run.run_now", params := defArgs st_Run_run_now, body := defBody st_Run_run_now, scope := defScope st_Run_run_now, clo := [], dfl := [] }
def cf_Run_place_now : CfD := { cls := "Run", m := "place_now", kind := 1, qual := "Run.place_now", params := defArgs st_Run_place_now, body := defBody st_Run_place_now, scope := defScope st_Run_place_now, clo := [], dfl := [] }
def cf_Run_fault_now : CfD := { cls := "Run", m := "fault_now", kind := 1, qual := "Run.fault_now", params := defArgs st_Run_fault_now, body := defBody st_Run_fault_now, scope := defScope st_Run_fault_now, clo := [], dfl := [] }
def cf_Run_ready_ticks : CfD := { cls := "Run", m := "ready_ticks", kind := 1, qual := "Run.ready_ticks", params := defArgs st_Run_ready_ticks, body := defBody st_Run_ready_ticks, scope := defScope st_Run_ready_ticks, clo := [], dfl := [] }
def cf_Run_spots : CfD := { cls := "Run", m := "spots", kind := 0, qual := "Run.spots", params := defArgs st_Run_spots, body := defBody st_Run_spots, scope := defScope st_Run_spots, clo := [], dfl := [] }
def cf_Run_idle_now : CfD := { cls := "Run", m := "idle_now", kind := 1, qual := "Run.idle_now", params := defArgs st_Run_idle_now, body := defBody st_Run_idle_now, scope := defScope st_Run_idle_now, clo := [], dfl := [] }
def cf_Run___len__ : CfD := { cls := "Run", m := "__len__", kind := 0, qual := "Run.__len__", params := defArgs st_Run___len__, body := defBody st_Run___len__, scope := defScope st_Run___len__, clo := [], dfl := [] }
def cf_Run___str__ : CfD := { cls := "Run", m := "__str__", kind := 0, qual := "Run.__str__", params := defArgs st_Run___str__, body := defBody st_Run___str__, scope := defScope st_Run___str__, clo := [], dfl := [] }
def cf_Run___getitem__ : CfD := { cls := "Run", m := "__getitem__", kind := 0, qual := "Run.__getitem__", params := defArgs st_Run___getitem__, body := defBody st_Run___getitem__, scope := defScope st_Run___getitem__, clo := [], dfl := [] }
def cf_Run_tick_at : CfD := { cls := "Run", m := "tick_at", kind := 0, qual := "Run.tick_at", params := defArgs st_Run_tick_at, body := defBody st_Run_tick_at, scope := defScope st_Run_tick_at, clo := [], dfl := [] }
def cf_LeastRun_tick_at : CfD := { cls := "LeastRun", m := "tick_at", kind := 0, qual := "LeastRun.tick_at", params := defArgs st_LeastRun_tick_at, body := defBody st_LeastRun_tick_at, scope := defScope st_LeastRun_tick_at, clo := [], dfl := [] }
def cf_Run_tick : CfD := { cls := "Run", m := "tick", kind := 0, qual := "Run.tick", params := defArgs st_Run_tick, body := defBody st_Run_tick, scope := defScope st_Run_tick, clo := [], dfl := [] }
def cf_LeastRun_tick : CfD := { cls := "LeastRun", m := "tick", kind := 0, qual := "LeastRun.tick", params := defArgs st_LeastRun_tick, body := defBody st_LeastRun_tick, scope := defScope st_LeastRun_tick, clo := [], dfl := [.non] }
def cf_Run___iadd__ : CfD := { cls := "Run", m := "__iadd__", kind := 0, qual := "Run.__iadd__", params := defArgs st_Run___iadd__, body := defBody st_Run___iadd__, scope := defScope st_Run___iadd__, clo := [], dfl := [] }
def cf_Run___init__ : CfD := { cls := "Run", m := "__init__", kind := 0, qual := "Run.__init__", params := defArgs st_Run___init__, body := defBody st_Run___init__, scope := defScope st_Run___init__, clo := [], dfl := [] }
def cf_LeastRun___init__ : CfD := { cls := "LeastRun", m := "__init__", kind := 0, qual := "LeastRun.__init__", params := defArgs st_LeastRun___init__, body := defBody st_LeastRun___init__, scope := defScope st_LeastRun___init__, clo := ["__class__"], dfl := [.non] }
def cf_Run_tried : CfD := { cls := "Run", m := "tried", kind := 0, qual := "Run.tried", params := defArgs st_Run_tried, body := defBody st_Run_tried, scope := defScope st_Run_tried, clo := [], dfl := [] }
def cf_Run_led : CfD := { cls := "Run", m := "led", kind := 2, qual := "Run.led", params := defArgs st_Run_led, body := defBody st_Run_led, scope := defScope st_Run_led, clo := [], dfl := [] }
def cf_Run_back : CfD := { cls := "Run", m := "back", kind := 0, qual := "Run.back", params := defArgs st_Run_back, body := defBody st_Run_back, scope := defScope st_Run_back, clo := [], dfl := [] }
def cdefz : List CfD := [cf_Run_parts, cf_Run_run_now, cf_Run_place_now, cf_Run_fault_now, cf_Run_ready_ticks, cf_Run_spots, cf_Run_idle_now, cf_Run___len__, cf_Run___str__, cf_Run___getitem__, cf_Run_tick_at, cf_LeastRun_tick_at, cf_Run_tick, cf_LeastRun_tick, cf_Run___iadd__, cf_Run___init__, cf_LeastRun___init__, cf_Run_tried, cf_Run_led, cf_Run_back]
def csupz : List CfD := [cf_LeastRun___init__]
def cfactz : List CFa := [.cls "Run", .noat "Run" "own_parts", .cls "LeastRun", .noat "LeastRun" "own_parts", .noat "Run" "own_begin", .noat "LeastRun" "own_begin", .noat "Run" "own_ticks", .noat "LeastRun" "own_ticks", .prop "Run" cf_Run_place_now, .prop "LeastRun" cf_Run_place_now, .meth "Run" cf_Run_spots, .meth "LeastRun" cf_Run_spots, .prop "Run" cf_Run_parts, .prop "LeastRun" cf_Run_parts, .prop "Run" cf_Run_run_now, .prop "LeastRun" cf_Run_run_now, .prop "Run" cf_Run_fault_now, .prop "LeastRun" cf_Run_fault_now, .prop "Run" cf_Run_ready_ticks, .prop "LeastRun" cf_Run_ready_ticks, .prop "Run" cf_Run_idle_now, .prop "LeastRun" cf_Run_idle_now, .meth "Run" cf_Run___len__, .meth "LeastRun" cf_Run___len__, .meth "Run" cf_Run___str__, .meth "LeastRun" cf_Run___str__, .meth "Run" cf_Run___getitem__, .meth "LeastRun" cf_Run___getitem__, .meth "Run" cf_Run_tick_at, .meth "LeastRun" cf_LeastRun_tick_at, .meth "Run" cf_Run_tick, .meth "LeastRun" cf_LeastRun_tick, .meth "Run" cf_Run___iadd__, .meth "LeastRun" cf_Run___iadd__, .selfF "Run", .selfF "LeastRun", .supr "LeastRun" "LeastRun" cf_Run___init__, .mkr "Run" cf_Run___init__, .mkr "LeastRun" cf_LeastRun___init__, .meth "Run" cf_Run_tried, .meth "LeastRun" cf_Run_tried, .cmet "Run" cf_Run_led, .cmet "LeastRun" cf_Run_led, .meth "Run" cf_Run_back, .meth "LeastRun" cf_Run_back]
def cclsz : List Str := ["Run", "LeastRun"]
abbrev R : PySem.W.OpenRow := PySem.W.OpenLaw.row PySem.Challenge.rw_zonebetween_k28_led_runs_refused
def exz (K : PySem.W.Frag) : Bool := (ersz.all fun e => erB PySem.Challenge.pw_zonebetween_k28_led_runs_refused.main.file K e) && (exE ersz ysz flz "ZoneError" tabz K && ((tabNd lamz K && tupz.all fun p => tupB K p) && ((cdefz.all fun c => cfB K c) && ((csupz.all fun c => cfS PySem.Challenge.pw_zonebetween_k28_led_runs_refused.main.file K c) && cfactz.all fun a => a.ok K))))
abbrev hk : PySem.W.Hook := hookC 6 fa fn ersz (tfz lamz) exz cdefz
def ob (s : PySem.W.SharedT) : AlC := obsC 6 fa fn ersz (tfz lamz) exz cdefz (HandSHeadRun.getT s)
theorem ob_eq (s : PySem.W.SharedT) : ob s = hk.obs s.abs := obsC_eq (HandSHeadRun.getT_eq s)
abbrev nmz0 : List Str := ["looks_whole", "looks_number", "is_number", "want", "starts_of", "next_by", "nexts_by", "signs_at", "reason_at", "ticks_at", "run_fault", "is_same_place", "is_same_tick", "is_one_of", "is_triple", "tick_by", "_law_feed", "_law_draw", "_law_pick", "_law_hears"]
abbrev nmz1 : List Str := ["_law_why", "_law_hand", "_law_keeper", "_law_four", "_law_heard", "_law_book_due", "_law_book_told", "_law_added", "_law_are_begins_right", "_law_cases", "_law_are_ticks_right", "_law_is_end_right", "_law_are_leads_right", "ZoneError", "PaperError", "UseError", "LiveError", "TextError", "InvalidPaper", "NotUsable"]
abbrev nmz2 : List Str := ["NotRight", "NothingToUndo", "Run", "LeastRun"]
abbrev nmz : List Str := nmz0 ++ nmz1 ++ nmz2
theorem runz (w : World) : HandSHeadRun.RunEq R (PySem.W.view R.prog [51]) hk ob 20000 nmz w := by
  intro os
  kernel_rfl
end Z
set_option maxHeartbeats 200000
set_option maxHeartbeats 4000000
namespace Z
open PySem PySem.Spec PyProof.Rows L2
set_option autoImplicit false
def fmtO (d : D) : Option D := match d with
  | .str y => if fits y.length then some (.str y) else none
  | .int i => if intFits i then some (.str (toString i)) else none
  | _ => none
def mFmt (o : Ev) : Ev := fun ρ g => (o ρ g).bind fun d g1 => match fmtO d with
  | some r => .ok r g1
  | none => .bad
def mJs : List Ev → Str → Ev
  | [], acc => fun _ g => .ok (.str acc) g
  | m :: ms, acc => fun ρ g => (m ρ g).bind fun d g1 => match d with
    | .str y => if fits (acc ++ y).length then mJs ms (acc ++ y) ρ g1 else .bad
    | _ => .bad
inductive EJ (T : Wd) (W : WX) (X : Cx) : List Expr → List Ev → Prop where
  | nil : EJ T W X [] []
  | cons {e : Expr} {m : Ev} {es : List Expr} {ms : List Ev} (h : EE T W X e m) (r : EJ T W X es ms) : EJ T W X (e :: es) (m :: ms)
section
variable {T : Wd} {W : WX} {X : Cx} {e v1 v2 : Expr} {es rest : List Expr} {m m1 m2 : Ev} {ms : List Ev} {pos : Pos}
theorem ee_fmt (he : EE T W X e m) : EE T W X (.FormattedValue e (-1) none pos) (mFmt m) := PE.imp (pe_fmt he) fun σ H Q ⟨γ, ρ, g, S, p⟩ => by
  refine ⟨γ, ρ, g, S, p.bind fun d g1 _ v ι1 H1 s1 G1 r1 p1 => ?_⟩
  have S1 := S.step s1 G1
  cases hf : fmtO d with
  | none => rw [hf] at p1; exact p1.elim
  | some r =>
    rw [hf] at p1
    unfold fmtO at hf
    cases d with
    | str y =>
      dsimp only at hf
      split at hf
      · rename_i hc
        cases hf
        have ev : v = .str y := by simpa [RelD] using r1
        exact .inl ⟨y, ev, fits_line hc, p1 _ ι1 H1 .refl S1.cells (by simp [RelD])⟩
      · cases hf
    | int i =>
      dsimp only at hf
      split at hf
      · rename_i hc
        cases hf
        have ev : v = .int i := by simpa [RelD] using r1
        exact .inr ⟨i, ev, of_decide_eq_true hc, p1 _ ι1 H1 .refl S1.cells (by simp [RelD])⟩
      · cases hf
    | _ => cases hf
theorem EJ.pj (h : EJ T W X es ms) : PJ X es (ms.map fun m => tX T W (rD T) m) := by
  induction h with
  | nil => exact .nil
  | cons h _ ih => exact .cons h ih
theorem tjs_of {σ : L2.St} {ρ : Env} {Q : VK} : ∀ {ms : List Ev} {acc : Str} {γ : Gho} {H : Hp} {g : G}, StR T γ H ρ σ g → Post T γ H σ W (rD T) Q (mJs ms acc ρ g) → tJs (ms.map fun m => tX T W (rD T) m) acc σ H (fun out H1 => Q (.str out) H1)
  | [], acc, γ, H, g, S, p => p _ γ.ι H .refl S.cells (by simp [RelD])
  | m :: ms, acc, γ, H, g, S, p => by
    have p : Post T γ H σ W (rD T) Q ((m ρ g).bind fun d g1 => match d with
      | .str y => if fits (acc ++ y).length then mJs ms (acc ++ y) ρ g1 else .bad
      | _ => .bad) := p
    refine ⟨γ, ρ, g, S, p.bind fun d g1 _ v ι1 H1 s1 G1 r1 p1 => ?_⟩
    cases d with
    | str y =>
      dsimp only at p1
      split at p1
      · rename_i hc
        exact ⟨y, by simpa [RelD] using r1, fits_line hc, tjs_of (S.step s1 G1) p1⟩
      · exact p1.elim
    | _ => exact p1.elim
theorem ee_joined (h : EJ T W X (v1 :: v2 :: rest) ms) : EE T W X (.JoinedStr (v1 :: v2 :: rest) pos) (mJs ms Str.empty) := PE.imp (pe_joined h.pj) fun σ H Q ⟨γ, ρ, g, S, p⟩ => tjs_of S p
end
section
variable {T : Wd} {W : WX} {X : Cx} {body rest st : List Stmt} {s1 : Stmt} {a b m : Sm}
theorem pat_sb (h : SB T W X st m) : PAt X body st (tS T W m) := PAt.of h
theorem pat_cons (h1 : ∀ (pins : List (Addr × Obj)) (s : Shared) (σ : L2.St) (H : Hp) (D : Ends), Inv X pins σ H s → tS T W a D σ H → _root_.PySem.wpAt (model X.prog X.w) X.A (.func body X.env) (exec s1 X.env) (SP X pins D) X.xe s) (h2 : PAt X body rest (tS T W b)) : PAt X body (s1 :: rest) (tS T W (sSeq a b)) :=
  ⟨fun pins s σ H D I h => (PAt.cons (t := tS T W a) (u := tS T W b) h1 h2).run pins s σ H D I (seq_imp h)⟩
end
end Z
set_option maxHeartbeats 4000000
namespace Z
open PySem PySem.Spec PyProof.Rows L2
set_option autoImplicit false
def ocz (l : List Str) (K : PySem.W.Frag) : Nat → Addr := fun k => He.ga K (l.getD k "")
theorem lk_nil {α : Type} {P : Nat → α → Prop} : ∀ c a, ([] : List (Nat × α)).lookup c = some a → P c a := fun _ _ h => by cases h
theorem lk_cons {α : Type} {P : Nat → α → Prop} {i : Nat} {b : α} {l : List (Nat × α)} (h : P i b) (r : ∀ c a, l.lookup c = some a → P c a) : ∀ c a, ((i, b) :: l).lookup c = some a → P c a := fun c a e => by
  have e : (match c == i with | true => some b | false => l.lookup c) = some a := e
  cases q : c == i with
  | true =>
    rw [q] at e
    cases e
    rw [eq_of_beq q]
    exact h
  | false => rw [q] at e; exact r c a e
theorem fld_nil {T : Wd} {x : Str} : FldK T [] x := fun c h => by cases h
theorem fld_cons {T : Wd} {x : Str} {i : Nat} {l : List Nat} (h : OwnC T.K (T.oc i)) (n : NoAttr T.K (T.oc i) x) (r : FldK T l x) : FldK T (i :: l) x := fun c hc => by
  rcases List.mem_cons.mp hc with rfl | hc
  · exact ⟨h.cl, n⟩
  · exact r c hc
theorem sc_nil {T : Wd} {D f2 : Addr} : ∀ c ∈ ([] : List Nat), SupC T.K (T.oc c) D f2 := fun c h => by cases h
theorem sc_cons {T : Wd} {D f2 : Addr} {i : Nat} {l : List Nat} (h : SupC T.K (T.oc i) D f2) (r : ∀ c ∈ l, SupC T.K (T.oc c) D f2) : ∀ c ∈ i :: l, SupC T.K (T.oc c) D f2 := fun c hc => by
  rcases List.mem_cons.mp hc with rfl | hc
  · exact h
  · exact r c hc
section
variable {T : Wd} {mg : Str → Option Value} {base : Heap} {k : Nat} {x qual x0 : Str} {params : Arguments} {body : List Stmt} {scope : Scope} {f cc Dc : Addr} {cdv : Value} {fd : FuncData} {N ps : List Str} {dvs : List V} {kws : List (Str × V)} {ar : Arg}
theorem supF_of (F : FunS T.P T.K x qual params body scope dvs kws f cc Dc cdv fd) (hp : (params.posonlyargs ++ params.args).head? = some ar) (har : ar.arg = x0) (hc : ∃ cd, PySem.W.clsIn T.K Dc = some cd) (op : PySem.W.nsIn T.K cStatics "thirdparty.any" = some none)
    (ks : scope.names.lookup ("super" : Str) = some NameKind.globalImplicit) (kc : scope.names.lookup ("__class__" : Str) = some NameKind.free) (ka : scope.names.lookup x0 = some NameKind.local) (kk : scope.kind = .function) (sn : mg ("super" : Str) = none) (top : (T.P.main.scope.names.lookup ("super" : Str)).isSome = false) : SupF T.P T.K mg f cc Dc cdv x0 scope := by
  obtain ⟨oc, od, dV, kV, doc, pm, an, ct, osl, rfl, lk, hcd, hD, hK⟩ := F.ex
  exact ⟨⟨_, _, _, _, ar, lk, hp, har⟩, F.code, F.cell, hc, op, ks, kc, ka, kk, sn, top⟩
theorem fn_supF (F : FunS T.P T.K x qual params body scope dvs kws f cc Dc cdv fd) (S : SupScope N ps scope) {m : Sm}
    (hbody : ∀ (A : Around) (outer : List PySem.Env) (s : Shared) (H : Hp) (E : XK), DefX T mg base k (cxSup T.P T.w T.K mg base N qual scope f cdv cc A outer s H E) (fun cls dx _ H' => E cls dx H') →
      PAt (cxSup T.P T.w T.K mg base N qual scope f cdv cc A outer s H E) body body (tS T (fun cls dx _ H' => E cls dx H') m)) : FnG T mg base (k + 1) f fd ps (denOf N.length m) := by
  obtain ⟨oc, od, dV, kV, doc, pm, an, ct, osl, rfl, lk, hcd, hD, hK⟩ := F.ex
  obtain ⟨cl, cld, csl, lc⟩ := F.cell
  exact fn_sup lk hcd S lc hbody
end
theorem star_b {K : PySem.W.Frag} {x qual : Str} {params : Arguments} {body : List Stmt} {scope : Scope} {f : Addr} {fd : FuncData} {ps : List Str} {pv : Str} (F : FunD K x qual params body scope [] [] f fd)
    (h : ∀ {kV doc pm : Value} {an : Option Addr} {cdv ct : Value}, ∀ us rest : List Value, us.length = ps.length → bindArgs (PySem.W.fnOf x qual params body scope .none kV doc pm an cdv ct) ⟨us ++ rest, []⟩ = (newTuple rest >>= fun t => pure (ps.zip us ++ [(pv, t)]))) : StarB fd ps pv := by
  obtain ⟨oc, od, dV, kV, doc, pm, an, cdv, ct, osl, rfl, lk, hcd, hD, hK⟩ := F.ex
  rcases hD with ⟨_, rfl⟩ | ⟨e, _⟩
  · exact h
  · exact absurd rfl e
/-- the head's list of facts -/
theorem cf_at {K : PySem.W.Frag} {l : List CFa} (h : (l.all fun a => a.ok K) = true) (i : Nat) {a : CFa} (e : l[i]? = some a) : a.ok K = true := List.all_eq_true.mp h a (List.mem_of_getElem? e)
theorem cd_at {K : PySem.W.Frag} {l : List CfD} (h : (l.all fun a => cfB K a) = true) (i : Nat) {a : CfD} (e : l[i]? = some a) : cfB K a = true := List.all_eq_true.mp h a (List.mem_of_getElem? e)
end Z
set_option maxHeartbeats 4000000
namespace Z
open PySem PySem.Spec PyProof.Rows L2
set_option autoImplicit false
section
variable {ρ : Env} {g : G} {P : D → G → Prop} {o m : Ev} {ms mk : EvL} {x : Str} {cs : List Nat} {tab : MtTab} {n q : Nat} {sub nst : List (Nat × Nat)}
theorem eqO_ok : (mEqO tab sub nst o m ρ g).Ok P ↔ (o ρ g).Ok fun d g0 => (m ρ g0).Ok fun i g1 => (eqP tab sub nst d i g1).Ok P := by
  unfold mEqO
  simp only [bind_ok]
theorem cls_ok {c : Nat} : (mCls c ρ g).Ok P ↔ P (.clo c []) g := Iff.rfl
end
end Z
set_option maxHeartbeats 0
namespace Z
open PySem PySem.Spec PyProof.Rows L2
set_option autoImplicit false
abbrev N_looks_whole : List Str := ["thing"]
abbrev ps_looks_whole : List Str := ["thing"]
def m_looks_whole : Sm := (sRet (mAndV (mUn (isiO .int) (mV 0)) (mNotV (mUn (isiO .bool) (mV 0)))))
def den_looks_whole : Den := denOf 1 m_looks_whole
abbrev N_looks_number : List Str := ["thing"]
abbrev ps_looks_number : List Str := ["thing"]
def m_looks_number : Sm := (sRet (mAndV (mCallB den_looks_whole 1 0 (gP [0]) (mCons (mVs 0) mNil) mNil) (mOp geO (mV 0) (mC (.int 0)))))
def den_looks_number : Den := denOf 1 m_looks_number
abbrev N_is_number : List Str := ["thing"]
abbrev ps_is_number : List Str := ["thing"]
def m_is_number : Sm := (sRet (mCallB den_looks_number 1 0 (gP [0]) (mCons (mVs 0) mNil) mNil))
def den_is_number : Den := denOf 1 m_is_number
abbrev N_want : List Str := ["is_fit", "name", "at"]
abbrev ps_want : List Str := ["is_fit", "name", "at"]
def m_want : Sm := (sIf (mNot (mTr (mV 0)))
  (sRaise 0 2 (mCons (mVs 1) (mCons (mVs 2) mNil)))
  sNx)
def den_want : Den := denOf 3 m_want
abbrev N_starts_of : List Str := ["zone", "stand"]
abbrev ps_starts_of : List Str := ["zone"]
def m_starts_of : Sm := (sRet (mUn tupleO (mLc (iV (mOp idxO (mV 0) (mC (.int 0)))) [1] (gN 1) (el1 mYes (mTup (mCons (mC (.int 0)) (mCons (mVs 1) (mCons (mC (.int 0)) mNil))))))))
def den_starts_of : Den := denOf 2 m_starts_of
abbrev N_next_by : List Str := ["rule", "state", "given", "taken", "move"]
abbrev ps_next_by : List Str := ["rule", "state", "given", "taken"]
def m_next_by : Sm := (sRet (mDix (mDc (iV (mOp idxO (mOp idxO (mOp idxO (mV 0) (mC (.int 0))) (mV 1)) (mC (.int 2)))) [4] (gN 4) (elD mYes (mSl (mV 4) oNo (oIs (mC (.int 2)))) (mOp idxO (mV 4) (mC (.int 2))))) (mTup (mCons (mVs 2) (mCons (mVs 3) mNil)))))
def den_next_by : Den := denOf 5 m_next_by
abbrev N_nexts_by : List Str := ["zone", "stand", "given", "taken", "move"]
abbrev ps_nexts_by : List Str := ["zone", "stand", "given", "taken"]
def m_nexts_by : Sm := (sRet (mDgt (mDc (iV (mOp idxO (mOp idxO (mOp idxO (mV 0) (mC (.int 1))) (mV 1)) (mC (.int 3)))) [4] (gN 4) (elD mYes (mSl (mV 4) oNo (oIs (mC (.int 2)))) (mOp idxO (mV 4) (mC (.int 2))))) (mTup (mCons (mVs 2) (mCons (mVs 3) mNil))) (mTup mNil)))
def den_nexts_by : Den := denOf 5 m_nexts_by
abbrev N_signs_at : List Str := ["rule", "other", "spot", "takers", "given", "taken"]
abbrev ps_signs_at : List Str := ["rule", "other", "spot"]
def m_signs_at : Sm := (sSeq (sSet 3 (mOp idxO (mOp idxO (mOp idxO (mV 1) (mC (.int 0))) (mOp idxO (mV 2) (mC (.int 2)))) (mC (.int 1))))
  (sRet (mLc (iV (mOp idxO (mOp idxO (mOp idxO (mV 0) (mC (.int 0))) (mOp idxO (mV 2) (mC (.int 0)))) (mC (.int 0)))) [4, 5] (gN 4) (el2 mYes (iV (mVs 3)) [5] (gN 5) (el1 mYes (mTup (mCons (mVs 4) (mCons (mVs 5) mNil))))))))
def den_signs_at : Den := denOf 6 m_signs_at
abbrev N_reason_at : List Str := ["rule", "zone", "other", "spot", "showing", "giving", "words", "hearing", "heard", "move", "pair"]
abbrev ps_reason_at : List Str := ["rule", "zone", "other", "spot"]
def m_reason_at : Sm := (sSeq (sAsg (mOp idxO (mOp idxO (mV 1) (mC (.int 1))) (mOp idxO (mV 3) (mC (.int 1)))) (gTp 4 (gCn (gN 4) (gCn (gN 5) (gCn (gN 6) (gCn (gN 7) gNl))))))
  (sSeq (sIf (mB (mOp inO2 (mC (.str "barred")) (mV 6)))
  (sRet (mC (.str "barred")))
  sNx)
  (sSeq (sIf (mB (mOp notInO2 (mV 4) (mOp idxO (mOp idxO (mOp idxO (mV 0) (mC (.int 0))) (mOp idxO (mV 3) (mC (.int 0)))) (mC (.int 1)))))
  (sRet (mC (.str "up")))
  sNx)
  (sSeq (sIf (mB (mOp notInO2 (mV 5) (mOp idxO (mOp idxO (mOp idxO (mV 2) (mC (.int 0))) (mOp idxO (mV 3) (mC (.int 2)))) (mC (.int 0)))))
  (sRet (mC (.str "down")))
  sNx)
  (sSeq (sSet 8 (mSc (iV (mVs 7)) [9] (gN 9) (el1 mYes (mSl (mV 9) oNo (oIs (mC (.int 2)))))))
  (sSeq (sIf (mB (mOp neF (mLc (iV (mCallB den_signs_at 3 0 (gP [0, 1, 2]) (mCons (mVs 0) (mCons (mVs 2) (mCons (mVs 3) mNil))) mNil)) [10] (gN 10) (el1 (mB (mOp notInO2 (mV 10) (mV 8))) (mVs 10))) (mLst mNil)))
  (sRet (mC (.str "deaf")))
  sNx)
  (sRet (mC .non))))))))
def den_reason_at : Den := denOf 11 m_reason_at
abbrev N_ticks_at : List Str := ["rule", "zone", "other", "spot", "state", "stand", "far", "showing", "giving", "rest", "found", "given", "taken", "near", "late", "own"]
abbrev ps_ticks_at : List Str := ["rule", "zone", "other", "spot"]
def m_ticks_at : Sm := (sSeq (sIf (mB (mOp isNotO2 (mCallB den_reason_at 4 0 (gP [0, 1, 2, 3]) (mCons (mVs 0) (mCons (mVs 1) (mCons (mVs 2) (mCons (mVs 3) mNil)))) mNil) (mC .non)))
  (sRet (mLst mNil))
  sNx)
  (sSeq (sAsg (mVs 3) (gTp 3 (gCn (gN 4) (gCn (gN 5) (gCn (gN 6) gNl)))))
  (sSeq (sAsg (mOp idxO (mOp idxO (mV 1) (mC (.int 1))) (mV 5)) (gSt 3 2 (gCn (gN 7) (gCn (gN 8) (gCn (gN 9) gNl)))))
  (sSeq (sOw 10 (mLst mNil))
  (sSeq (sFor (iV (mCallB den_signs_at 3 0 (gP [0, 1, 2]) (mCons (mVs 0) (mCons (mVs 2) (mCons (mVs 3) mNil))) mNil)) (gTp 2 (gCn (gN 11) (gCn (gN 12) gNl)))
  (sSeq (sAsg (mTup (mCons (mCallB den_next_by 4 0 (gP [0, 1, 2, 3]) (mCons (mVs 0) (mCons (mVs 4) (mCons (mVs 11) (mCons (mVs 7) mNil)))) mNil) (mCons (mCallB den_next_by 4 0 (gP [0, 1, 2, 3]) (mCons (mVs 2) (mCons (mVs 6) (mCons (mVs 8) (mCons (mVs 12) mNil)))) mNil) mNil))) (gTp 2 (gCn (gN 13) (gCn (gN 14) gNl))))
  (sExt 10 (mLc (iV (mCallB den_nexts_by 4 0 (gP [0, 1, 2, 3]) (mCons (mVs 1) (mCons (mVs 5) (mCons (mVs 11) (mCons (mVs 12) mNil)))) mNil)) [15] (gN 15) (el1 mYes (mTup (mCons (mVs 11) (mCons (mVs 12) (mCons (mTup (mCons (mVs 13) (mCons (mVs 15) (mCons (mVs 14) mNil)))) mNil)))))))))
  (sFrz 10 (sRet (mVs 10))))))))
def den_ticks_at : Den := denOf 16 m_ticks_at
abbrev N_is_same_place : List Str := ["spot", "thing", "one"]
abbrev ps_is_same_place : List Str := ["spot", "thing"]
def m_is_same_place : Sm := (sSeq (sIf (mOr (mNot (mTr (mUn (isiO .tuple) (mV 1)))) (mB (mOp neF (mUn lenO (mV 1)) (mC (.int 3)))))
  (sRet (mC (.bl false)))
  sNx)
  (sRet (mAndV (mOp eqF (mV 1) (mV 0)) (mOp notInO2 (mC (.bl true)) (mLc (iV (mVs 1)) [2] (gN 2) (el1 mYes (mUn (isiO .bool) (mV 2))))))))
def den_is_same_place : Den := denOf 3 m_is_same_place
abbrev N_is_same_tick : List Str := ["tick", "thing"]
abbrev ps_is_same_tick : List Str := ["tick", "thing"]
def m_is_same_tick : Sm := (sRet (mAndV (mUn (isiO .tuple) (mV 1)) (mAndV (mOp eqF (mUn lenO (mV 1)) (mC (.int 3))) (mAndV (mOp eqF (mSl (mV 1) oNo (oIs (mC (.int 2)))) (mSl (mV 0) oNo (oIs (mC (.int 2))))) (mCallB den_is_same_place 2 0 (gP [0, 1]) (mCons (mOp idxO (mV 0) (mC (.int 2))) (mCons (mOp idxO (mV 1) (mC (.int 2))) mNil)) mNil)))))
def den_is_same_tick : Den := denOf 2 m_is_same_tick
abbrev N_run_fault : List Str := ["rule", "zone", "other", "thing", "begun", "spot", "k", "tick", "late", "own"]
abbrev ps_run_fault : List Str := ["rule", "zone", "other", "thing"]
def m_run_fault : Sm := (sSeq (sIf (mOr (mNot (mTr (mUn (isiO .tuple) (mV 3)))) (mOr (mB (mOp neF (mUn lenO (mV 3)) (mC (.int 2)))) (mNot (mTr (mUn (isiO .tuple) (mOp idxO (mV 3) (mC (.int 1))))))))
  (sRet (mTup (mCons (mC (.str "shape")) (mCons (mUn negO (mC (.int 1))) mNil))))
  sNx)
  (sSeq (sFzz 4 (sOw 4 (mLc (iV (mCallB den_starts_of 1 0 (gP [0]) (mCons (mVs 1) mNil) mNil)) [5] (gN 5) (el1 (mTr (mCallB den_is_same_place 2 0 (gP [0, 1]) (mCons (mVs 5) (mCons (mOp idxO (mV 3) (mC (.int 0))) mNil)) mNil)) (mVs 5)))))
  (sSeq (sIf (mB (mOp eqF (mV 4) (mLst mNil)))
  (sRet (mTup (mCons (mC (.str "first")) (mCons (mUn negO (mC (.int 1))) mNil))))
  sNx)
  (sSeq (sSet 5 (mOp idxO (mV 4) (mC (.int 0))))
  (sSeq (sFor (iEn (mOp idxO (mV 3) (mC (.int 1)))) (gTp 2 (gCn (gN 6) (gCn (gN 7) gNl)))
  (sSeq (sFzz 8 (sOw 8 (mLc (iV (mCallB den_ticks_at 4 0 (gP [0, 1, 2, 3]) (mCons (mVs 0) (mCons (mVs 1) (mCons (mVs 2) (mCons (mVs 5) mNil)))) mNil)) [9] (gN 9) (el1 (mTr (mCallB den_is_same_tick 2 0 (gP [0, 1]) (mCons (mVs 9) (mCons (mVs 7) mNil)) mNil)) (mVs 9)))))
  (sSeq (sIf (mB (mOp eqF (mV 8) (mLst mNil)))
  (sRet (mTup (mCons (mC (.str "step")) (mCons (mVs 6) mNil))))
  sNx)
  (sSet 5 (mOp idxO (mOp idxO (mV 8) (mC (.int 0))) (mC (.int 2)))))))
  (sRet (mC .non)))))))
def den_run_fault : Den := denOf 10 m_run_fault
abbrev N_is_one_of : List Str := ["thing", "signs"]
abbrev ps_is_one_of : List Str := ["thing", "signs"]
def m_is_one_of : Sm := (sRet (mAndV (mUn (isiO .str) (mV 0)) (mOp inO2 (mV 0) (mV 1))))
def den_is_one_of : Den := denOf 2 m_is_one_of
abbrev N_is_triple : List Str := ["thing"]
abbrev ps_is_triple : List Str := ["thing"]
def m_is_triple : Sm := (sRet (mAndV (mUn (isiO .tuple) (mV 0)) (mOp eqF (mUn lenO (mV 0)) (mC (.int 3)))))
def den_is_triple : Den := denOf 1 m_is_triple
abbrev N_tick_by : List Str := ["parts", "spot", "d", "u", "s", "rule", "zone", "other", "tick"]
abbrev ps_tick_by : List Str := ["parts", "spot", "d", "u", "s"]
def m_tick_by : Sm := (sSeq (sAsg (mVs 0) (gTp 3 (gCn (gN 5) (gCn (gN 6) (gCn (gN 7) gNl)))))
  (sSeq (sDrop (mCallB den_want 2 0 (gPd [0, 1, 2] [.int (-1)]) (mCons (mCallB den_is_one_of 2 0 (gP [0, 1]) (mCons (mVs 2) (mCons (mOp idxO (mOp idxO (mOp idxO (mV 5) (mC (.int 0))) (mOp idxO (mV 1) (mC (.int 0)))) (mC (.int 0))) mNil)) mNil) (mCons (mC (.str "d")) mNil)) mNil))
  (sSeq (sDrop (mCallB den_want 2 0 (gPd [0, 1, 2] [.int (-1)]) (mCons (mCallB den_is_one_of 2 0 (gP [0, 1]) (mCons (mVs 3) (mCons (mOp idxO (mOp idxO (mOp idxO (mV 7) (mC (.int 0))) (mOp idxO (mV 1) (mC (.int 2)))) (mC (.int 1))) mNil)) mNil) (mCons (mC (.str "u")) mNil)) mNil))
  (sSeq (sIf (mB (mOp isNotO2 (mCallB den_reason_at 4 0 (gP [0, 1, 2, 3]) (mCons (mVs 5) (mCons (mVs 6) (mCons (mVs 7) (mCons (mVs 1) mNil)))) mNil) (mC .non)))
  (sRaise 1 1 (mCons (mVs 1) mNil))
  sNx)
  (sSeq (sDrop (mCallB den_want 2 0 (gPd [0, 1, 2] [.int (-1)]) (mCons (mAndV (mCallB den_is_number 1 0 (gP [0]) (mCons (mVs 4) mNil) mNil) (mOp inO2 (mV 4) (mCallB den_nexts_by 4 0 (gP [0, 1, 2, 3]) (mCons (mVs 6) (mCons (mOp idxO (mV 1) (mC (.int 1))) (mCons (mVs 2) (mCons (mVs 3) mNil)))) mNil))) (mCons (mC (.str "s")) mNil)) mNil))
  (sRet (mOp idxO (mLc (iV (mCallB den_ticks_at 4 0 (gP [0, 1, 2, 3]) (mCons (mVs 5) (mCons (mVs 6) (mCons (mVs 7) (mCons (mVs 1) mNil)))) mNil)) [8] (gN 8) (el1 (mAnd (mB (mOp eqF (mSl (mV 8) oNo (oIs (mC (.int 2)))) (mTup (mCons (mVs 2) (mCons (mVs 3) mNil))))) (mB (mOp eqF (mOp idxO (mOp idxO (mV 8) (mC (.int 2))) (mC (.int 1))) (mV 4)))) (mVs 8))) (mC (.int 0)))))))))
def den_tick_by : Den := denOf 9 m_tick_by
abbrev N__law_feed : List Str := ["_law_script"]
abbrev ps__law_feed : List Str := ["_law_script"]
def m__law_feed : Sm := (sRet (mCellN [("cells", (mUn listO (mSl (mV 0) oNo (oIs (mC (.int 63)))))), ("index", (mC (.int 0))), ("rest", (mC (.int 0))), ("turn", (mC (.int 0)))]))
def den__law_feed : Den := denOf 1 m__law_feed
abbrev N__law_draw : List Str := ["_law_feed_here", "_law_size", "_law_digit", "_law_index", "_law_cells", "_law_cell", "_law_mixed"]
abbrev ps__law_draw : List Str := ["_law_feed_here", "_law_size"]
def m__law_draw : Sm := (sSeq (sSetC (mV 0) "turn" (mOp addO (mGetC (mV 0) "turn") (mC (.int 1))))
  (sSeq (sIf (mB (mOp gtO (mGetC (mV 0) "rest") (mC (.int 0))))
  (sSeq (sSet 2 (mOp modO (mUn intO (mGetC (mV 0) "rest")) (mV 1)))
  (sSeq (sSetC (mV 0) "rest" (mOp divO (mGetC (mV 0) "rest") (mV 1)))
  (sRet (mVs 2))))
  sNx)
  (sSeq (sPar [3, 4] (fCons false (mGetC (mV 0) "index") (fCons false (mGetC (mV 0) "cells") fNil)))
  (sSeq (sSetC (mV 0) "index" (mOp addO (mV 3) (mC (.int 1))))
  (sSeq (sSet 5 (mIf (mB (mOp neF (mV 4) (mLst mNil))) (mOp idxO (mV 4) (mOp modO (mUn intO (mV 3)) (mUn lenO (mV 4)))) (mC (.int 12144))))
  (sSeq (sIf (mAnd (mB (mOp geO (mV 5) (mOp powO (mC (.int 10)) (mC (.int 18))))) (mB (mOp ltO (mV 3) (mUn lenO (mV 4)))))
  (sSeq (sSetC (mV 0) "rest" (mOp divO (mV 5) (mV 1)))
  (sRet (mOp modO (mUn intO (mV 5)) (mV 1))))
  sNx)
  (sSeq (sSet 6 (mOp modO (mUn intO (mOp addO (mOp addO (mOp modO (mUn intO (mV 5)) (mC (.int 1999999943))) (mOp mulO2 (mC (.int 106921)) (mGetC (mV 0) "turn"))) (mC (.int 1233)))) (mC (.int 2147483497))))
  (sSeq (sSet 6 (mOp modO (mUn intO (mOp addO (mOp addO (mOp mulO2 (mV 6) (mV 6)) (mOp mulO2 (mC (.int 11257339)) (mGetC (mV 0) "turn"))) (mC (.int 941)))) (mC (.int 2147483477))))
  (sRet (mOp modO (mUn intO (mOp divO (mOp modO (mUn intO (mOp addO (mOp mulO2 (mV 6) (mV 6)) (mOp mulO2 (mC (.int 1009)) (mV 6)))) (mC (.int 2147483423))) (mC (.int 64)))) (mV 1)))))))))))
def den__law_draw : Den := denOf 7 m__law_draw
abbrev N__law_pick : List Str := ["_law_feed_here", "_law_some"]
abbrev ps__law_pick : List Str := ["_law_feed_here", "_law_some"]
def m__law_pick : Sm := (sRet (mOp idxO (mV 1) (mCallB den__law_draw 2 0 (gP [0, 1]) (mCons (mVs 0) (mCons (mUn lenO (mV 1)) mNil)) mNil)))
def den__law_pick : Den := denOf 2 m__law_pick
abbrev N__law_hears : List Str := ["_law_unit", "_law_k", "_law_left", "_law_right", "_law_found", "_law_move"]
abbrev ps__law_hears : List Str := ["_law_unit", "_law_k", "_law_left", "_law_right"]
def m__law_hears : Sm := (sSeq (sFzz 4 (sOw 4 (mLc (iV (mOp idxO (mOp idxO (mOp idxO (mV 0) (mC (.int 1))) (mV 1)) (mC (.int 3)))) [5] (gN 5) (el1 (mB (mOp eqF (mSl (mV 5) oNo (oIs (mC (.int 2)))) (mTup (mCons (mVs 2) (mCons (mVs 3) mNil))))) (mOp idxO (mV 5) (mC (.int 2)))))))
  (sRet (mIf (mB (mOp neF (mV 4) (mLst mNil))) (mOp idxO (mV 4) (mC (.int 0))) (mTup mNil))))
def den__law_hears : Den := denOf 6 m__law_hears
abbrev N__law_why : List Str := ["_law_one", "_law_unit", "_law_two", "_law_spot", "_law_q", "_law_k", "_law_p", "_law_up", "_law_down", "_law_marks", "_law_moves", "_law_left", "_law_right"]
abbrev ps__law_why : List Str := ["_law_one", "_law_unit", "_law_two", "_law_spot"]
def m__law_why : Sm := (sSeq (sAsg (mVs 3) (gTp 3 (gCn (gN 4) (gCn (gN 5) (gCn (gN 6) gNl)))))
  (sSeq (sAsg (mOp idxO (mOp idxO (mV 1) (mC (.int 1))) (mV 5)) (gTp 4 (gCn (gN 7) (gCn (gN 8) (gCn (gN 9) (gCn (gN 10) gNl))))))
  (sSeq (sIf (mB (mOp inO2 (mC (.str "barred")) (mV 9)))
  (sRet (mC (.str "barred")))
  sNx)
  (sSeq (sIf (mB (mOp notInO2 (mV 7) (mOp idxO (mOp idxO (mOp idxO (mV 0) (mC (.int 0))) (mV 4)) (mC (.int 1)))))
  (sRet (mC (.str "up")))
  sNx)
  (sSeq (sIf (mB (mOp notInO2 (mV 8) (mOp idxO (mOp idxO (mOp idxO (mV 2) (mC (.int 0))) (mV 6)) (mC (.int 0)))))
  (sRet (mC (.str "down")))
  sNx)
  (sSeq (sFor (iV (mOp idxO (mOp idxO (mOp idxO (mV 0) (mC (.int 0))) (mV 4)) (mC (.int 0)))) (gN 11)
  (sIf (mB (mOp neF (mLc (iV (mOp idxO (mOp idxO (mOp idxO (mV 2) (mC (.int 0))) (mV 6)) (mC (.int 1)))) [12] (gN 12) (el1 (mB (mOp eqF (mCallB den__law_hears 4 0 (gP [0, 1, 2, 3]) (mCons (mVs 1) (mCons (mVs 5) (mCons (mVs 11) (mCons (mVs 12) mNil)))) mNil) (mTup mNil))) (mVs 12))) (mLst mNil)))
  (sRet (mC (.str "deaf")))
  sNx))
  (sRet (mC .non))))))))
def den__law_why : Den := denOf 13 m__law_why
abbrev N__law_hand : List Str := ["_law_box", "_law_none", "_law_ready", "_law_wait", "_law_rights", "_law_moves", "_law_early", "_law_late"]
abbrev ps__law_hand : List Str := ["_law_box", "_law_none", "_law_ready", "_law_wait"]
def m__law_hand : Sm := (sSeq (sPar [4, 5] (fCons false (mUn tupleO (mUn sortedF (mLst (mCons (mVs 2) (mCons (mVs 3) mNil))))) (fCons false (mLst (mCons (mTup (mCons (mVs 1) (mCons (mVs 2) (mCons (mC (.int 1)) mNil)))) (mCons (mTup (mCons (mVs 1) (mCons (mVs 3) (mCons (mC (.int 0)) mNil)))) mNil))) fNil)))
  (sSeq (sSet 6 (mTup (mCons (mTup (mCons (mVs 1) mNil)) (mCons (mVs 4) (mCons (mUn tupleO (mUn sortedF (mV 5))) mNil)))))
  (sSeq (sSet 7 (mTup (mCons (mUn tupleO (mUn sortedF (mLst (mCons (mVs 0) (mCons (mVs 1) mNil))))) (mCons (mVs 4) (mCons (mUn tupleO (mUn sortedF (mOp addO (mV 5) (mLst (mCons (mTup (mCons (mVs 0) (mCons (mVs 2) (mCons (mC (.int 0)) mNil)))) (mCons (mTup (mCons (mVs 0) (mCons (mVs 3) (mCons (mC (.int 0)) mNil)))) mNil)))))) mNil)))))
  (sRet (mTup (mCons (mTup (mCons (mVs 6) (mCons (mVs 7) mNil))) (mCons (mTup (mCons (mVs 2) mNil)) mNil)))))))
def den__law_hand : Den := denOf 8 m__law_hand
abbrev N__law_keeper : List Str := ["_law_box", "_law_none", "_law_ready", "_law_wait", "_law_is_hasty", "_law_idle_moves", "_law_held_moves", "_law_last_moves", "_law_stands"]
abbrev ps__law_keeper : List Str := ["_law_box", "_law_none", "_law_ready", "_law_wait", "_law_is_hasty"]
def m__law_keeper : Sm := (sSeq (sSet 5 (mLst (mCons (mTup (mCons (mVs 1) (mCons (mVs 2) (mCons (mTup (mCons (mC (.int 0)) mNil)) mNil)))) (mCons (mTup (mCons (mVs 1) (mCons (mVs 3) (mCons (mTup (mCons (mC (.int 0)) mNil)) mNil)))) (mCons (mTup (mCons (mVs 0) (mCons (mVs 2) (mCons (mTup (mCons (mC (.int 1)) mNil)) mNil)))) (mCons (mTup (mCons (mVs 0) (mCons (mVs 3) (mCons (mTup (mCons (mC (.int 1)) mNil)) mNil)))) mNil))))))
  (sSeq (sSet 6 (mLst (mCons (mTup (mCons (mVs 1) (mCons (mVs 2) (mCons (mTup (mCons (mC (.int 2)) mNil)) mNil)))) (mCons (mTup (mCons (mVs 1) (mCons (mVs 3) (mCons (mIf (mTr (mV 4)) (mTup (mCons (mC (.int 2)) mNil)) (mTup (mCons (mC (.int 1)) mNil))) mNil)))) mNil))))
  (sSeq (sSet 7 (mLst (mCons (mTup (mCons (mVs 1) (mCons (mVs 2) (mCons (mTup (mCons (mC (.int 0)) mNil)) mNil)))) (mCons (mTup (mCons (mVs 1) (mCons (mVs 3) (mCons (mTup (mCons (mC (.int 0)) mNil)) mNil)))) mNil))))
  (sSeq (sSet 8 (mLst (mCons (mTup (mCons (mVs 2) (mCons (mVs 1) (mCons (mTup mNil) (mCons (mUn tupleO (mUn sortedF (mV 5))) mNil))))) mNil)))
  (sSeq (sSet 8 (mOp addO (mV 8) (mLst (mCons (mTup (mCons (mVs 3) (mCons (mVs 1) (mCons (mTup (mCons (mC (.str "held")) mNil)) (mCons (mUn tupleO (mUn sortedF (mV 6))) mNil))))) mNil))))
  (sRet (mTup (mCons (mTup (mCons (mC (.int 0)) mNil)) (mCons (mUn tupleO (mOp addO (mV 8) (mLst (mCons (mTup (mCons (mVs 3) (mCons (mVs 0) (mCons (mTup (mCons (mC (.str "held")) mNil)) (mCons (mUn tupleO (mUn sortedF (mV 7))) mNil))))) mNil)))) mNil)))))))))
def den__law_keeper : Den := denOf 9 m__law_keeper
abbrev N__law_four : List Str := ["_law_feed_here", "_law_some", "_law_lot", "_law_turn"]
abbrev ps__law_four : List Str := ["_law_feed_here"]
def m__law_four : Sm := (sSeq (sSet 1 (mLst (mCons (mLst (mCons (mC (.str "box")) (mCons (mC (.str "none")) (mCons (mC (.str "ready")) (mCons (mC (.str "wait")) mNil))))) (mCons (mLst (mCons (mC (.str "none")) (mCons (mC (.str "box")) (mCons (mC (.str "wait")) (mCons (mC (.str "ready")) mNil))))) mNil))))
  (sSeq (sSet 1 (mOp addO (mV 1) (mLst (mCons (mLst (mCons (mC (.str "a")) (mCons (mC (.str "ab")) (mCons (mC (.str "b")) (mCons (mC (.str "ba")) mNil))))) mNil))))
  (sSeq (sSet 1 (mOp addO (mV 1) (mLst (mCons (mLst (mCons (mC (.str "zzzzzzzz")) (mCons (mC (.str "z")) (mCons (mC (.str "zzzzzzza")) (mCons (mC (.str "zz")) mNil))))) (mCons (mLst (mCons (mC (.str "up")) (mCons (mC (.str "down")) (mCons (mC (.str "barred")) (mCons (mC (.str "held")) mNil))))) mNil)))))
  (sSeq (sSet 1 (mOp addO (mV 1) (mLst (mCons (mLst (mCons (mC (.str "deaf")) (mCons (mC (.str "right")) (mCons (mC (.str "first")) (mCons (mC (.str "a")) mNil))))) mNil))))
  (sSeq (sPar [2, 3] (fCons false (mCallB den__law_pick 2 0 (gP [0, 1]) (mCons (mVs 0) (mCons (mVs 1) mNil)) mNil) (fCons false (mCallB den__law_draw 2 0 (gP [0, 1]) (mCons (mVs 0) (mCons (mC (.int 4)) mNil)) mNil) fNil)))
  (sRet (mOp addO (mSl (mV 2) (oIs (mV 3)) oNo) (mSl (mV 2) oNo (oIs (mV 3))))))))))
def den__law_four : Den := denOf 4 m__law_four
abbrev N__law_heard : List Str := ["_law_ask", "error", "_law_families"]
abbrev ps__law_heard : List Str := ["_law_ask"]
def mH__law_heard (th : G → Res D) : Sm := sTry 1 hitz
  (sRet (mTup (mCons (mC (.str "told")) (mCons (mAsk 0 th) mNil))))
  (fun xc => if xc.c < 3 then
  (sSeq (sSet 2 (mLst (mCons (mMk 1 (.bl ((tabz.getD xc.c []).getD 3 false))) (mCons (mMk 1 (.bl ((tabz.getD xc.c []).getD 4 false))) mNil))))
  (sSeq (sSet 2 (mOp addO (mV 2) (mLst (mCons (mMk 1 (.bl ((tabz.getD xc.c []).getD 7 false))) mNil))))
  (sSeq (sIf (mOr (mTr (mMk 1 (.bl ((tabz.getD xc.c []).getD 5 false)))) (mOr (mB (mOp neF (mMt isLst cntF (mV 2) (mCons (mC (.bl true)) mNil)) (mC (.int 1)))) (mNot (mTr (mMk 1 (.bl true))))))
  (sRet (mTup (mCons (mC (.str "odd")) mNil)))
  sNx)
  (sSeq (sIf (mTr (mMk 1 (.bl ((tabz.getD xc.c []).getD 0 false))))
  (sRet (mTup (mCons (mC (.str "paper")) (mCons (mErf 1 (cfz fsz xc.c) xc.ds "word") (mCons (mErf 1 (cfz fsz xc.c) xc.ds "at") mNil)))))
  sNx)
  (sSeq (sIf (mTr (mMk 1 (.bl ((tabz.getD xc.c []).getD 1 false))))
  (sRet (mIf (mTr (mMk 1 (.bl ((tabz.getD xc.c []).getD 2 false)))) (mTup (mCons (mC (.str "odd")) mNil)) (mTup (mCons (mC (.str "use")) (mCons (mErf 1 (cfz fsz xc.c) xc.ds "word") (mCons (mErf 1 (cfz fsz xc.c) xc.ds "at") mNil))))))
  sNx)
  (sSeq (sIf (mTr (mMk 1 (.bl ((tabz.getD xc.c []).getD 2 false))))
  (sRet (mTup (mCons (mC (.str "wrong")) (mCons (mErf 1 (cfz fsz xc.c) xc.ds "place") mNil))))
  sNx)
  (sRet (mIf (mTr (mMk 1 (.bl ((tabz.getD xc.c []).getD 6 false)))) (mTup (mCons (mC (.str "none")) (mCons (mErf 1 (cfz fsz xc.c) xc.ds "steps") mNil))) (mTup (mCons (mC (.str "odd")) mNil))))))))))
  else sBad)
abbrev N__law_book_due : List Str := ["_law_case", "_law_head", "_law_steps", "_law_one", "_law_unit", "_law_two", "_law_spots", "_law_busy", "_law_idle", "_law_showed", "_law_lines", "_law_found", "_law_step", "_law_k", "_law_part"]
abbrev ps__law_book_due : List Str := ["_law_case", "_law_head", "_law_steps"]
def m__law_book_due : Sm := (sSeq (sAsg (mVs 0) (gTp 3 (gCn (gN 3) (gCn (gN 4) (gCn (gN 5) gNl)))))
  (sSeq (sSet 6 (mOp addO (mLst (mCons (mVs 1) mNil)) (mLc (iV (mVs 2)) [12] (gN 12) (el1 mYes (mOp idxO (mV 12) (mC (.int 2)))))))
  (sSeq (sFzz 7 (sOw 7 (mLc (iR1 (mCons (mUn lenO (mV 6)) mNil)) [13] (gN 13) (el1 (mB (mOp inO2 (mOp idxO (mOp idxO (mOp idxO (mV 4) (mC (.int 1))) (mOp idxO (mOp idxO (mV 6) (mV 13)) (mC (.int 1)))) (mC (.int 0))) (mOp idxO (mV 3) (mC (.int 1))))) (mVs 13)))))
  (sSeq (sSet 8 (mOp subO (mOp subO (mUn lenO (mV 6)) (mC (.int 1))) (mIf (mB (mOp neF (mV 7) (mLst mNil))) (mOp idxO (mV 7) (mUn negO (mC (.int 1)))) (mUn negO (mC (.int 1))))))
  (sSeq (sSet 9 (mUn lenO (mLc (iV (mVs 2)) [12] (gN 12) (el1 (mB (mOp inO2 (mOp idxO (mV 12) (mC (.int 1))) (mOp idxO (mV 5) (mC (.int 1))))) (mVs 12)))))
  (sSeq (sSet 10 (mLst (mCons (mMt isStr joinF (mC (.str " ")) (mCons (mLc (iV (mVs 1)) [14] (gN 14) (el1 mYes (mUn strO (mV 14)))) mNil)) mNil)))
  (sSeq (sSet 10 (mOp addO (mV 10) (mLc (iV (mVs 2)) [12] (gN 12) (el1 mYes (mMt isStr joinF (mC (.str " ")) (mCons (mLc (iV (mOp addO (mSl (mV 12) oNo (oIs (mC (.int 2)))) (mOp idxO (mV 12) (mC (.int 2))))) [14] (gN 14) (el1 mYes (mUn strO (mV 14)))) mNil))))))
  (sSeq (sSet 11 (mLst (mCons (mTup (mCons (mVs 3) (mCons (mVs 4) (mCons (mVs 5) mNil)))) (mCons (mTup (mCons (mVs 1) (mCons (mUn tupleO (mV 2)) mNil))) (mCons (mOp idxO (mV 6) (mUn negO (mC (.int 1)))) mNil)))))
  (sSeq (sSet 11 (mOp addO (mV 11) (mLst (mCons (mCallB den__law_why 4 0 (gP [0, 1, 2, 3]) (mCons (mVs 3) (mCons (mVs 4) (mCons (mVs 5) (mCons (mOp idxO (mV 6) (mUn negO (mC (.int 1)))) mNil)))) mNil) (mCons (mVs 9) (mCons (mVs 8) mNil))))))
  (sRet (mOp addO (mV 11) (mLst (mCons (mUn lenO (mV 2)) (mCons (mMt isStr joinF (mC (.str " / ")) (mCons (mVs 10) mNil)) (mCons (mVs 6) mNil)))))))))))))))
def den__law_book_due : Den := denOf 15 m__law_book_due
abbrev N_Run_parts : List Str := ["self"]
abbrev ps_Run_parts : List Str := ["self"]
def m_Run_parts : Sm := (sRet (mFldO [0, 1] "own_parts" (mV 0)))
def den_Run_parts : Den := denOf 1 m_Run_parts
abbrev N_Run_run_now : List Str := ["self"]
abbrev ps_Run_run_now : List Str := ["self"]
def m_Run_run_now : Sm := (sRet (mTup (mCons (mFldO [0, 1] "own_begin" (mV 0)) (mCons (mFldO [0, 1] "own_ticks" (mV 0)) mNil))))
def den_Run_run_now : Den := denOf 1 m_Run_run_now
abbrev N_Run_place_now : List Str := ["self"]
abbrev ps_Run_place_now : List Str := ["self"]
def m_Run_place_now : Sm := (sRet (mIf (mB (mOp neF (mFldO [0, 1] "own_ticks" (mV 0)) (mTup mNil))) (mOp idxO (mOp idxO (mFldO [0, 1] "own_ticks" (mV 0)) (mUn negO (mC (.int 1)))) (mC (.int 2))) (mFldO [0, 1] "own_begin" (mV 0))))
def den_Run_place_now : Den := denOf 1 m_Run_place_now
abbrev N_Run_fault_now : List Str := ["self", "rule", "zone", "other"]
abbrev ps_Run_fault_now : List Str := ["self"]
def m_Run_fault_now : Sm := (sSeq (sAsg (mFldO [0, 1] "own_parts" (mV 0)) (gTp 3 (gCn (gN 1) (gCn (gN 2) (gCn (gN 3) gNl)))))
  (sRet (mCallB den_reason_at 4 0 (gP [0, 1, 2, 3]) (mCons (mVs 1) (mCons (mVs 2) (mCons (mVs 3) (mCons (mPropO [(0, den_Run_place_now), (1, den_Run_place_now)] (mV 0)) mNil)))) mNil)))
def den_Run_fault_now : Den := denOf 4 m_Run_fault_now
abbrev N_Run_ready_ticks : List Str := ["self", "wished", "tick"]
abbrev ps_Run_ready_ticks : List Str := ["self"]
def m_Run_ready_ticks : Sm := (sSeq (sSet 1 (mOp idxO (mOp idxO (mFldO [0, 1] "own_parts" (mV 0)) (mC (.int 2))) (mC (.int 1))))
  (sRet (mUn lenO (mLc (iV (mFldO [0, 1] "own_ticks" (mV 0))) [2] (gN 2) (el1 (mB (mOp inO2 (mOp idxO (mV 2) (mC (.int 1))) (mV 1))) (mVs 2))))))
def den_Run_ready_ticks : Den := denOf 3 m_Run_ready_ticks
abbrev N_Run_spots : List Str := ["self", "tick"]
abbrev ps_Run_spots : List Str := ["self"]
def m_Run_spots : Sm := (sRet (mLst (mCons (mFldO [0, 1] "own_begin" (mV 0)) (mStar (mLc (iV (mFldO [0, 1] "own_ticks" (mV 0))) [1] (gN 1) (el1 mYes (mOp idxO (mV 1) (mC (.int 2))))) mNil))))
def den_Run_spots : Den := denOf 2 m_Run_spots
abbrev N_Run_idle_now : List Str := ["self", "rule", "zone", "other", "many", "spot"]
abbrev ps_Run_idle_now : List Str := ["self"]
def m_Run_idle_now : Sm := (sSeq (sAsg (mFldO [0, 1] "own_parts" (mV 0)) (gTp 3 (gCn (gN 1) (gCn (gN 2) (gCn (gN 3) gNl)))))
  (sSeq (sSet 4 (mC (.int 0)))
  (sSeq (sFor (iV (mMethO "spots" [(0, (den_Run_spots, (gP [0]))), (1, (den_Run_spots, (gP [0])))] 0 0 (mV 0) mNil mNil)) (gN 5)
  (sSet 4 (mIf (mB (mOp inO2 (mOp idxO (mOp idxO (mOp idxO (mV 2) (mC (.int 1))) (mOp idxO (mV 5) (mC (.int 1)))) (mC (.int 0))) (mOp idxO (mV 1) (mC (.int 1))))) (mC (.int 0)) (mOp addO (mV 4) (mC (.int 1))))))
  (sRet (mVs 4)))))
def den_Run_idle_now : Den := denOf 6 m_Run_idle_now
abbrev N_Run___len__ : List Str := ["self"]
abbrev ps_Run___len__ : List Str := ["self"]
def m_Run___len__ : Sm := (sRet (mUn lenO (mFldO [0, 1] "own_ticks" (mV 0))))
def den_Run___len__ : Den := denOf 1 m_Run___len__
abbrev N_Run___str__ : List Str := ["self", "words", "given", "taken", "spot", "own"]
abbrev ps_Run___str__ : List Str := ["self"]
def m_Run___str__ : Sm := (sSeq (sOw 1 (mLst (mCons (mMt isStr joinF (mC (.str " ")) (mCons (mLc (iV (mFldO [0, 1] "own_begin" (mV 0))) [5] (gN 5) (el1 mYes (mUn strO (mV 5)))) mNil)) mNil)))
  (sSeq (sFor (iV (mFldO [0, 1] "own_ticks" (mV 0))) (gTp 3 (gCn (gN 2) (gCn (gN 3) (gCn (gN 4) gNl))))
  (sApp 1 (mOp addO (mJs [(mFmt (mVs 2)), (mC (.str " ")), (mFmt (mVs 3)), (mC (.str " "))] Str.empty) (mMt isStr joinF (mC (.str " ")) (mCons (mLc (iV (mVs 4)) [5] (gN 5) (el1 mYes (mUn strO (mV 5)))) mNil)))))
  (sFrz 1 (sRet (mMt isStr joinF (mC (.str " / ")) (mCons (mVs 1) mNil))))))
def den_Run___str__ : Den := denOf 6 m_Run___str__
abbrev N_Run___getitem__ : List Str := ["self", "k"]
abbrev ps_Run___getitem__ : List Str := ["self", "k"]
def m_Run___getitem__ : Sm := (sSeq (sDrop (mCallB den_want 2 0 (gPd [0, 1, 2] [.int (-1)]) (mCons (mAndV (mCallB den_is_number 1 0 (gP [0]) (mCons (mVs 1) mNil) mNil) (mOp leO (mV 1) (mUn lenO (mFldO [0, 1] "own_ticks" (mV 0))))) (mCons (mC (.str "k")) mNil)) mNil))
  (sRet (mOp idxO (mMethO "spots" [(0, (den_Run_spots, (gP [0]))), (1, (den_Run_spots, (gP [0])))] 0 0 (mV 0) mNil mNil) (mV 1))))
def den_Run___getitem__ : Den := denOf 2 m_Run___getitem__
abbrev N__law_book_told : List Str := ["_law_walk", "_law_found", "_law_k"]
abbrev ps__law_book_told : List Str := ["_law_walk"]
def m__law_book_told : Sm := (sSeq (sSet 1 (mLst (mCons (mPropO [(0, den_Run_parts), (1, den_Run_parts)] (mV 0)) (mCons (mPropO [(0, den_Run_run_now), (1, den_Run_run_now)] (mV 0)) (mCons (mPropO [(0, den_Run_place_now), (1, den_Run_place_now)] (mV 0)) (mCons (mPropO [(0, den_Run_fault_now), (1, den_Run_fault_now)] (mV 0)) (mCons (mPropO [(0, den_Run_ready_ticks), (1, den_Run_ready_ticks)] (mV 0)) mNil)))))))
  (sSeq (sSet 1 (mOp addO (mV 1) (mLst (mCons (mPropO [(0, den_Run_idle_now), (1, den_Run_idle_now)] (mV 0)) mNil))))
  (sRet (mOp addO (mV 1) (mLst (mCons (mLenO [(0, (den_Run___len__, (gP [0]))), (1, (den_Run___len__, (gP [0])))] (mV 0)) (mCons (mStrO [(0, (den_Run___str__, (gP [0]))), (1, (den_Run___str__, (gP [0])))] (mV 0)) (mCons (mLc (iR1 (mCons (mOp addO (mLenO [(0, (den_Run___len__, (gP [0]))), (1, (den_Run___len__, (gP [0])))] (mV 0)) (mC (.int 1))) mNil)) [2] (gN 2) (el1 mYes (mItemO [(0, (den_Run___getitem__, (gP [0, 1]))), (1, (den_Run___getitem__, (gP [0, 1])))] (mV 0) (mVs 2)))) mNil))))))))
def den__law_book_told : Den := denOf 3 m__law_book_told
abbrev N_Run_tick_at : List Str := ["self", "spot", "d", "u", "s"]
abbrev ps_Run_tick_at : List Str := ["self", "spot", "d", "u", "s"]
def m_Run_tick_at : Sm := (sRet (mCallB den_tick_by 5 0 (gP [0, 1, 2, 3, 4]) (mCons (mFldO [0, 1] "own_parts" (mV 0)) (mCons (mVs 1) (mCons (mVs 2) (mCons (mVs 3) (mCons (mVs 4) mNil))))) mNil))
def den_Run_tick_at : Den := denOf 5 m_Run_tick_at
abbrev N_LeastRun_tick_at : List Str := ["self", "spot", "d", "u", "s", "zone", "least"]
abbrev ps_LeastRun_tick_at : List Str := ["self", "spot", "d", "u", "s"]
def m_LeastRun_tick_at : Sm := (sSeq (sSet 5 (mOp idxO (mFldO [0, 1] "own_parts" (mV 0)) (mC (.int 1))))
  (sSeq (sSet 6 (mIf (mAnd (mB (mOp isO2 (mV 4) (mC .non))) (mAnd (mTr (mUn (isiO .str) (mV 2))) (mTr (mUn (isiO .str) (mV 3))))) (mSl (mCallB den_nexts_by 4 0 (gP [0, 1, 2, 3]) (mCons (mVs 5) (mCons (mOp idxO (mV 1) (mC (.int 1))) (mCons (mVs 2) (mCons (mVs 3) mNil)))) mNil) oNo (oIs (mC (.int 1)))) (mTup mNil)))
  (sRet (mCallB den_tick_by 5 0 (gP [0, 1, 2, 3, 4]) (mCons (mFldO [0, 1] "own_parts" (mV 0)) (mCons (mVs 1) (mCons (mVs 2) (mCons (mVs 3) (mCons (mIf (mB (mOp neF (mV 6) (mTup mNil))) (mOp idxO (mV 6) (mC (.int 0))) (mVs 4)) mNil))))) mNil))))
def den_LeastRun_tick_at : Den := denOf 7 m_LeastRun_tick_at
abbrev N_Run_tick : List Str := ["self", "d", "u", "s"]
abbrev ps_Run_tick : List Str := ["self", "d", "u", "s"]
def m_Run_tick : Sm := (sSeq (sFldO [0, 1] "own_ticks" (mV 0) (mTup (mStar (mFldO [0, 1] "own_ticks" (mV 0)) (mCons (mMethO "tick_at" [(0, (den_Run_tick_at, (gP [0, 1, 2, 3, 4]))), (1, (den_LeastRun_tick_at, (gP [0, 1, 2, 3, 4])))] 4 0 (mV 0) (mCons (mPropO [(0, den_Run_place_now), (1, den_Run_place_now)] (mV 0)) (mCons (mVs 1) (mCons (mVs 2) (mCons (mVs 3) mNil)))) mNil) mNil))))
  (sRet (mPropO [(0, den_Run_fault_now), (1, den_Run_fault_now)] (mV 0))))
def den_Run_tick : Den := denOf 4 m_Run_tick
abbrev N_LeastRun_tick : List Str := ["self", "d", "u", "s"]
abbrev ps_LeastRun_tick : List Str := ["self", "d", "u", "s"]
def m_LeastRun_tick : Sm := (sSeq (sFldO [0, 1] "own_ticks" (mV 0) (mTup (mStar (mFldO [0, 1] "own_ticks" (mV 0)) (mCons (mMethO "tick_at" [(0, (den_Run_tick_at, (gP [0, 1, 2, 3, 4]))), (1, (den_LeastRun_tick_at, (gP [0, 1, 2, 3, 4])))] 4 0 (mV 0) (mCons (mPropO [(0, den_Run_place_now), (1, den_Run_place_now)] (mV 0)) (mCons (mVs 1) (mCons (mVs 2) (mCons (mVs 3) mNil)))) mNil) mNil))))
  (sRet (mPropO [(0, den_Run_fault_now), (1, den_Run_fault_now)] (mV 0))))
def den_LeastRun_tick : Den := denOf 4 m_LeastRun_tick
abbrev N_Run___iadd__ : List Str := ["self", "own", "d", "u", "s"]
abbrev ps_Run___iadd__ : List Str := ["self", "own"]
def m_Run___iadd__ : Sm := (sSeq (sDrop (mCallB den_want 2 0 (gPd [0, 1, 2] [.int (-1)]) (mCons (mCallB den_is_triple 1 0 (gP [0]) (mCons (mVs 1) mNil) mNil) (mCons (mC (.str "tick")) mNil)) mNil))
  (sSeq (sAsg (mVs 1) (gTp 3 (gCn (gN 2) (gCn (gN 3) (gCn (gN 4) gNl)))))
  (sSeq (sDrop (mMethO "tick" [(0, (den_Run_tick, (gP [0, 1, 2, 3]))), (1, (den_LeastRun_tick, (gPd [0, 1, 2, 3] [.non])))] 3 0 (mV 0) (mCons (mVs 2) (mCons (mVs 3) (mCons (mVs 4) mNil))) mNil))
  (sRet (mVs 0)))))
def den_Run___iadd__ : Den := denOf 5 m_Run___iadd__
abbrev N__law_added : List Str := ["_law_walk", "_law_item"]
abbrev ps__law_added : List Str := ["_law_walk", "_law_item"]
def m__law_added : Sm := (sSeq (sSet 0 (mAugO [(0, (den_Run___iadd__, (gP [0, 1]))), (1, (den_Run___iadd__, (gP [0, 1])))] 0 (mVs 1)))
  (sRet (mPropO [(0, den_Run_run_now), (1, den_Run_run_now)] (mV 0))))
def den__law_added : Den := denOf 2 m__law_added
abbrev N_Run___init__ : List Str := ["self", "rule", "zone", "other", "first", "spot"]
abbrev ps_Run___init__ : List Str := ["self", "rule", "zone", "other", "first"]
def m_Run___init__ : Sm := (sSeq (sDrop (mCallB den_want 2 0 (gPd [0, 1, 2] [.int (-1)]) (mCons (mOp neF (mLc (iV (mCallB den_starts_of 1 0 (gP [0]) (mCons (mVs 2) mNil) mNil)) [5] (gN 5) (el1 (mTr (mCallB den_is_same_place 2 0 (gP [0, 1]) (mCons (mVs 5) (mCons (mVs 4) mNil)) mNil)) (mVs 5))) (mLst mNil)) (mCons (mC (.str "first")) mNil)) mNil))
  (sSeq (sFldO [0, 1] "own_parts" (mV 0) (mTup (mCons (mVs 1) (mCons (mVs 2) (mCons (mVs 3) mNil)))))
  (sSeq (sFldO [0, 1] "own_begin" (mV 0) (mVs 4))
  (sFldO [0, 1] "own_ticks" (mV 0) (mTup mNil)))))
def den_Run___init__ : Den := denOf 6 m_Run___init__
abbrev N_LeastRun___init__ : List Str := ["self", "rule", "zone", "other", "first"]
abbrev ps_LeastRun___init__ : List Str := ["self", "rule", "zone", "other", "first"]
def m_LeastRun___init__ : Sm := (sSeq (sDrop (mSup [1] 4 den_Run___init__ (gP [0, 1, 2, 3, 4]) (mCons (mVs 1) (mCons (mVs 2) (mCons (mVs 3) (mCons (mIf (mB (mOp isO2 (mV 4) (mC .non))) (mOp idxO (mCallB den_starts_of 1 0 (gP [0]) (mCons (mVs 2) mNil) mNil) (mC (.int 0))) (mVs 4)) mNil))))))
  sNx)
def den_LeastRun___init__ : Den := denOf 5 m_LeastRun___init__
abbrev N__law_are_begins_right : List Str := ["_law_hand_here", "_law_keeper_here", "_law_two_heads", "_law_some", "_law_odd", "_law_told", "_law_due"]
abbrev ps__law_are_begins_right : List Str := ["_law_hand_here", "_law_keeper_here"]
@[irreducible] def m__law_are_begins_right_7 : Sm := (sRet (mOp eqF (mUn reprG (mV 5)) (mUn reprG (mLst (mCons (mTup (mCons (mC (.str "told")) (mCons (mC (.str "down")) mNil))) (mCons (mTup (mCons (mC (.str "use")) (mCons (mC (.str "first")) (mCons (mUn negO (mC (.int 1))) mNil)))) (mCons (mTup (mCons (mC (.str "told")) (mCons (mC (.str "down")) mNil))) mNil)))))))
@[irreducible] def m__law_are_begins_right_6 : Sm := (sSeq (sApp 5 (mHear 0 "_law_are_begins_right.<locals>.<lambda>" 3 mH__law_heard (mPropO [(0, den_Run_fault_now), (1, den_Run_fault_now)] (mNewO 1 den_LeastRun___init__ 3 0 (gPd [0, 1, 2, 3, 4] [.non]) (mCons (mVs 0) (mCons (mTup (mCons (mTup (mCons (mC (.int 2)) mNil)) (mCons (mOp idxO (mV 1) (mC (.int 1))) mNil))) (mCons (mVs 0) mNil))) mNil))))
  m__law_are_begins_right_7)
@[irreducible] def m__law_are_begins_right_5 : Sm := (sSeq (sApp 5 (mHear 0 "_law_are_begins_right.<locals>.<lambda>" 3 mH__law_heard (mPropO [(0, den_Run_fault_now), (1, den_Run_fault_now)] (mNewO 0 den_Run___init__ 4 0 (gP [0, 1, 2, 3, 4]) (mCons (mVs 0) (mCons (mVs 2) (mCons (mVs 0) (mCons (mTup (mCons (mC (.int 0)) (mCons (mC (.int 1)) (mCons (mC (.int 0)) mNil)))) mNil)))) mNil))))
  m__law_are_begins_right_6)
@[irreducible] def m__law_are_begins_right_4 : Sm := (sSeq (sOw 5 (mLst (mCons (mHear 0 "_law_are_begins_right.<locals>.<lambda>" 3 mH__law_heard (mPropO [(0, den_Run_fault_now), (1, den_Run_fault_now)] (mNewO 0 den_Run___init__ 4 0 (gP [0, 1, 2, 3, 4]) (mCons (mVs 0) (mCons (mVs 2) (mCons (mVs 0) (mCons (mTup (mCons (mC (.int 0)) (mCons (mC (.int 2)) (mCons (mC (.int 0)) mNil)))) mNil)))) mNil))) mNil)))
  m__law_are_begins_right_5)
@[irreducible] def m__law_are_begins_right_3 : Sm := (sSeq (sFor (iV (mOp addO (mV 3) (mLst (mCons (mC (.str "000")) (mCons (mTup (mCons (mTup (mCons (mC (.int 0)) (mCons (mC (.int 0)) (mCons (mC (.int 0)) mNil)))) mNil)) (mCons (mUn negO (mC (.int 1))) (mCons (mTup (mCons (mC (.int 0)) (mCons (mLst (mCons (mC (.int 0)) mNil)) (mCons (mC (.int 0)) mNil)))) (mCons (mTup (mCons (mTup (mCons (mC (.int 0)) mNil)) (mCons (mC (.int 0)) (mCons (mC (.int 0)) mNil)))) mNil)))))))) (gN 4)
  (sSeq (sOw 5 (mLst (mCons (mHear 0 "_law_are_begins_right.<locals>.<lambda>" 3 mH__law_heard (mPropO [(0, den_Run_run_now), (1, den_Run_run_now)] (mNewO 0 den_Run___init__ 4 0 (gP [0, 1, 2, 3, 4]) (mCons (mVs 0) (mCons (mVs 1) (mCons (mVs 0) (mCons (mVs 4) mNil)))) mNil))) mNil)))
  (sSeq (sApp 5 (mHear 0 "_law_are_begins_right.<locals>.<lambda>" 3 mH__law_heard (mPropO [(0, den_Run_run_now), (1, den_Run_run_now)] (mNewO 1 den_LeastRun___init__ 4 0 (gPd [0, 1, 2, 3, 4] [.non]) (mCons (mVs 0) (mCons (mVs 1) (mCons (mVs 0) (mCons (mVs 4) mNil)))) mNil))))
  (sSeq (sOw 6 (mOpF mulF (mLst (mCons (mTup (mCons (mC (.str "use")) (mCons (mC (.str "first")) (mCons (mUn negO (mC (.int 1))) mNil)))) mNil)) (mC (.int 2))))
  (sSeq (sIf (mB (mOp isO2 (mV 4) (mC .non)))
  (sStL 6 (mC (.int 1)) (mTup (mCons (mC (.str "told")) (mCons (mTup (mCons (mTup (mCons (mC (.int 0)) (mCons (mC (.int 0)) (mCons (mC (.int 0)) mNil)))) (mCons (mTup mNil) mNil))) mNil))))
  sNx)
  (sIf (mB (mOp neF (mUn reprG (mV 5)) (mUn reprG (mV 6))))
  (sRet (mC (.bl false)))
  sNx))))))
  m__law_are_begins_right_4)
@[irreducible] def m__law_are_begins_right_2 : Sm := (sSeq (sSet 3 (mOp addO (mV 3) (mLst (mCons (mTup (mCons (mC (.bl true)) (mCons (mC (.int 0)) (mCons (mC (.int 0)) mNil)))) (mCons (mTup (mCons (mC (.int 0)) (mCons (mC (.bl false)) (mCons (mC (.int 0)) mNil)))) mNil)))))
  m__law_are_begins_right_3)
@[irreducible] def m__law_are_begins_right_1 : Sm := (sSeq (sSet 3 (mLst (mCons (mC .non) (mCons (mTup mNil) (mCons (mC (.int 0)) (mCons (mTup (mCons (mC (.int 0)) (mCons (mC (.int 1)) (mCons (mC (.int 0)) mNil)))) (mCons (mTup (mCons (mC (.int 0)) (mCons (mC (.int 3)) (mCons (mC (.int 0)) mNil)))) (mCons (mTup (mCons (mC (.int 1)) (mCons (mC (.int 0)) (mCons (mC (.int 0)) mNil)))) (mCons (mTup (mCons (mC (.int 0)) (mCons (mC (.int 0)) (mCons (mC (.int 1)) mNil)))) (mCons (mTup (mCons (mC (.int 0)) (mCons (mC (.int 0)) mNil))) (mCons (mLst (mCons (mC (.int 0)) (mCons (mC (.int 0)) (mCons (mC (.int 0)) mNil)))) mNil)))))))))))
  m__law_are_begins_right_2)
def m__law_are_begins_right : Sm := (sSeq (sSet 2 (mTup (mCons (mTup (mCons (mC (.int 0)) (mCons (mC (.int 2)) mNil))) (mCons (mOp idxO (mV 1) (mC (.int 1))) mNil))))
  m__law_are_begins_right_1)
def den__law_are_begins_right : Den := denOf 7 m__law_are_begins_right
abbrev N__law_cases : List Str := ["_law_four_here", "_law_box", "_law_none", "_law_ready", "_law_wait", "_law_some"]
abbrev ps__law_cases : List Str := ["_law_four_here"]
def m__law_cases : Sm := (sSeq (sAsg (mVs 0) (gTp 4 (gCn (gN 1) (gCn (gN 2) (gCn (gN 3) (gCn (gN 4) gNl))))))
  (sSeq (sSet 5 (mLst (mCons (mTup (mCons (mTup (mCons (mVs 1) (mCons (mVs 3) (mCons (mC (.int 0)) mNil)))) (mCons (mC (.str "d")) mNil))) (mCons (mTup (mCons (mTup (mCons (mC .non) (mCons (mC .non) (mCons (mC .non) mNil)))) (mCons (mC (.str "d")) mNil))) (mCons (mTup (mCons (mTup (mCons (mTup (mCons (mVs 2) mNil)) (mCons (mVs 3) (mCons (mC (.int 0)) mNil)))) (mCons (mC (.str "d")) mNil))) mNil)))))
  (sSeq (sSet 5 (mOp addO (mV 5) (mLst (mCons (mTup (mCons (mTup (mCons (mC (.str "else")) (mCons (mC (.str "else")) (mCons (mC (.int 9)) mNil)))) (mCons (mC (.str "d")) mNil))) mNil))))
  (sSeq (sSet 5 (mOp addO (mV 5) (mLst (mCons (mTup (mCons (mTup (mCons (mVs 2) (mCons (mVs 2) (mCons (mC (.int 0)) mNil)))) (mCons (mC (.str "u")) mNil))) (mCons (mTup (mCons (mTup (mCons (mVs 2) (mCons (mC .non) (mCons (mC .non) mNil)))) (mCons (mC (.str "u")) mNil))) (mCons (mTup (mCons (mTup (mCons (mVs 2) (mCons (mLst (mCons (mVs 3) mNil)) (mCons (mC (.int 0)) mNil)))) (mCons (mC (.str "u")) mNil))) mNil))))))
  (sSeq (sSet 5 (mOp addO (mV 5) (mLst (mCons (mTup (mCons (mTup (mCons (mVs 2) (mCons (mC (.str "")) (mCons (mUn negO (mC (.int 1))) mNil)))) (mCons (mC (.str "u")) mNil))) mNil))))
  (sSeq (sSet 5 (mOp addO (mV 5) (mLst (mCons (mTup (mCons (mTup (mCons (mVs 2) (mCons (mVs 3) (mCons (mC (.int 1)) mNil)))) (mCons (mC (.str "s")) mNil))) (mCons (mTup (mCons (mTup (mCons (mVs 2) (mCons (mVs 3) (mCons (mC .non) mNil)))) (mCons (mC (.str "s")) mNil))) mNil)))))
  (sSeq (sSet 5 (mOp addO (mV 5) (mLst (mCons (mTup (mCons (mTup (mCons (mVs 2) (mCons (mVs 3) (mCons (mC (.bl false)) mNil)))) (mCons (mC (.str "s")) mNil))) (mCons (mTup (mCons (mTup (mCons (mVs 2) (mCons (mVs 4) (mCons (mC (.str "0")) mNil)))) (mCons (mC (.str "s")) mNil))) mNil)))))
  (sRet (mOp addO (mV 5) (mLst (mCons (mTup (mCons (mTup (mCons (mVs 2) (mCons (mVs 4) (mCons (mTup (mCons (mC (.int 0)) mNil)) mNil)))) (mCons (mC (.str "s")) mNil))) (mCons (mTup (mCons (mTup (mCons (mVs 2) (mCons (mVs 3) (mCons (mUn negO (mC (.int 1))) mNil)))) (mCons (mC (.str "s")) mNil))) (mCons (mTup (mCons (mTup (mCons (mVs 2) (mCons (mVs 4) (mCons (mC (.int 3)) mNil)))) (mCons (mC (.str "s")) mNil))) mNil)))))))))))))
def den__law_cases : Den := denOf 6 m__law_cases
abbrev N_Run_tried : List Str := ["self", "ticks", "spot", "k", "own", "d", "u", "s"]
abbrev ps_Run_tried : List Str := ["self", "ticks"]
def m_Run_tried : Sm := (sSeq (sSet 2 (mPropO [(0, den_Run_place_now), (1, den_Run_place_now)] (mV 0)))
  (sSeq (sFor (iEn (mVs 1)) (gTp 2 (gCn (gN 3) (gCn (gN 4) gNl)))
  (sSeq (sDrop (mCallB den_want 3 0 (gPd [0, 1, 2] [.int (-1)]) (mCons (mCallB den_is_triple 1 0 (gP [0]) (mCons (mVs 4) mNil) mNil) (mCons (mC (.str "ticks")) (mCons (mVs 3) mNil))) mNil))
  (sSeq (sAsg (mVs 4) (gTp 3 (gCn (gN 5) (gCn (gN 6) (gCn (gN 7) gNl)))))
  (sSet 2 (mOp idxO (mMethO "tick_at" [(0, (den_Run_tick_at, (gP [0, 1, 2, 3, 4]))), (1, (den_LeastRun_tick_at, (gP [0, 1, 2, 3, 4])))] 4 0 (mV 0) (mCons (mVs 2) (mCons (mVs 5) (mCons (mVs 6) (mCons (mVs 7) mNil)))) mNil) (mC (.int 2)))))))
  (sRet (mVs 2))))
def den_Run_tried : Den := denOf 8 m_Run_tried
abbrev N__law_are_ticks_right : List Str := ["_law_hand_here", "_law_hasty", "_law_four_here", "_law_walk", "_law_deed", "_law_why_here", "_law_told", "_law_late", "_law_least", "_law_lists", "_law_good", "_law_odd"]
abbrev ps__law_are_ticks_right : List Str := ["_law_hand_here", "_law_hasty", "_law_four_here"]
@[irreducible] def m__law_are_ticks_right_10 : Sm := (sRet (mAndV (mOp eqF (mV 6) (mLst (mCons (mTup (mCons (mC (.str "use")) (mCons (mC (.str "d")) (mCons (mUn negO (mC (.int 1))) mNil)))) (mCons (mTup (mCons (mC (.str "use")) (mCons (mC (.str "ticks")) (mCons (mC (.int 2)) mNil)))) mNil)))) (mOp eqF (mUn reprG (mPropO [(0, den_Run_run_now), (1, den_Run_run_now)] (mV 3))) (mUn reprG (mTup (mCons (mTup (mCons (mC (.int 0)) (mCons (mC (.int 0)) (mCons (mC (.int 0)) mNil)))) (mCons (mTup mNil) mNil)))))))
@[irreducible] def m__law_are_ticks_right_9 : Sm := (sSeq (sApp 6 (mHear 1 "_law_are_ticks_right.<locals>.<lambda>" 3 mH__law_heard (mMethO "tried" [(0, (den_Run_tried, (gStar 1))), (1, (den_Run_tried, (gStar 1)))] 3 0 (mV 3) (mCons (mVs 10) (mCons (mVs 10) (mCons (mC .non) mNil))) mNil)))
  m__law_are_ticks_right_10)
@[irreducible] def m__law_are_ticks_right_8 : Sm := (sSeq (sOw 6 (mLst (mCons (mHear 1 "_law_are_ticks_right.<locals>.<lambda>" 3 mH__law_heard (mMethO "tried" [(0, (den_Run_tried, (gStar 1))), (1, (den_Run_tried, (gStar 1)))] 2 0 (mV 3) (mCons (mTup (mCons (mC (.str "else")) (mCons (mOp idxO (mV 2) (mC (.int 2))) (mCons (mC (.int 0)) mNil)))) (mCons (mC .non) mNil)) mNil)) mNil)))
  m__law_are_ticks_right_9)
@[irreducible] def m__law_are_ticks_right_7 : Sm := (sSeq (sFor (iV (mLst (mCons (mC .non) (mCons (mTup mNil) (mCons (mSl (mV 10) oNo (oIs (mC (.int 2)))) (mCons (mUn listO (mV 10)) (mCons (mOp addO (mV 10) (mTup (mCons (mC (.int 0)) mNil))) (mCons (mC (.int 0)) (mCons (mC (.str "abc")) (mCons (mTup (mCons (mVs 10) mNil)) (mCons (mC (.bl true)) mNil))))))))))) (gN 11)
  (sSeq (sOw 6 (mLst (mCons (mHear 1 "_law_are_ticks_right.<locals>.<lambda>" 3 mH__law_heard (mCallB den__law_added 2 0 (gP [0, 1]) (mCons (mVs 3) (mCons (mVs 11) mNil)) mNil)) mNil)))
  (sSeq (sApp 6 (mHear 1 "_law_are_ticks_right.<locals>.<lambda>" 3 mH__law_heard (mMethO "tried" [(0, (den_Run_tried, (gStar 1))), (1, (den_Run_tried, (gStar 1)))] 2 0 (mV 3) (mCons (mVs 11) (mCons (mVs 10) mNil)) mNil)))
  (sSeq (sApp 6 (mHear 1 "_law_are_ticks_right.<locals>.<lambda>" 3 mH__law_heard (mMethO "tried" [(0, (den_Run_tried, (gStar 1))), (1, (den_Run_tried, (gStar 1)))] 2 0 (mV 3) (mCons (mVs 10) (mCons (mVs 11) mNil)) mNil)))
  (sIf (mB (mOp neF (mV 6) (mLst (mCons (mTup (mCons (mC (.str "use")) (mCons (mC (.str "tick")) (mCons (mUn negO (mC (.int 1))) mNil)))) (mCons (mTup (mCons (mC (.str "use")) (mCons (mC (.str "ticks")) (mCons (mC (.int 0)) mNil)))) (mCons (mTup (mCons (mC (.str "use")) (mCons (mC (.str "ticks")) (mCons (mC (.int 1)) mNil)))) mNil))))))
  (sRet (mC (.bl false)))
  sNx)))))
  m__law_are_ticks_right_8)
@[irreducible] def m__law_are_ticks_right_6 : Sm := (sSeq (sSet 10 (mTup (mCons (mOp idxO (mV 2) (mC (.int 1))) (mCons (mOp idxO (mV 2) (mC (.int 2))) (mCons (mC (.int 0)) mNil)))))
  m__law_are_ticks_right_7)
@[irreducible] def m__law_are_ticks_right_5 : Sm := (sSeq (sFor (iV (mOp addO (mCallB den__law_cases 1 0 (gP [0]) (mCons (mVs 2) mNil) mNil) (mV 9))) (gTp 2 (gCn (gN 4) (gCn (gN 5) gNl)))
  (sIf (mB (mOp neF (mV 5) (mC (.str "s"))))
  (sSeq (sOw 6 (mLst (mCons (mHear 1 "_law_are_ticks_right.<locals>.<lambda>" 3 mH__law_heard (mMethO "tick" [(1, (den_LeastRun_tick, (gPd [0, 1, 2, 3] [.non])))] 2 0 (mV 8) (mCons (mOp idxO (mV 4) (mC (.int 0))) (mCons (mOp idxO (mV 4) (mC (.int 1))) mNil)) mNil)) mNil)))
  (sSeq (sApp 6 (mHear 1 "_law_are_ticks_right.<locals>.<lambda>" 3 mH__law_heard (mMethO "tick" [(0, (den_Run_tick, (gP [0, 1, 2, 3]))), (1, (den_LeastRun_tick, (gPd [0, 1, 2, 3] [.non])))] 3 0 (mV 8) (mCons (mOp idxO (mV 4) (mC (.int 0))) (mCons (mOp idxO (mV 4) (mC (.int 1))) (mCons (mC .non) mNil))) mNil)))
  (sSeq (sApp 6 (mHear 1 "_law_are_ticks_right.<locals>.<lambda>" 3 mH__law_heard (mMethO "tried" [(0, (den_Run_tried, (gStar 1))), (1, (den_Run_tried, (gStar 1)))] 1 0 (mV 8) (mCons (mTup (mCons (mOp idxO (mV 4) (mC (.int 0))) (mCons (mOp idxO (mV 4) (mC (.int 1))) (mCons (mC .non) mNil)))) mNil) mNil)))
  (sSeq (sApp 6 (mHear 1 "_law_are_ticks_right.<locals>.<lambda>" 3 mH__law_heard (mCallB den__law_added 2 0 (gP [0, 1]) (mCons (mVs 8) (mCons (mTup (mCons (mOp idxO (mV 4) (mC (.int 0))) (mCons (mOp idxO (mV 4) (mC (.int 1))) (mCons (mC .non) mNil)))) mNil)) mNil)))
  (sIf (mOr (mB (mOp neF (mV 6) (mOp mulO2 (mLst (mCons (mTup (mCons (mC (.str "use")) (mCons (mVs 5) (mCons (mUn negO (mC (.int 1))) mNil)))) mNil)) (mC (.int 4))))) (mB (mOp neF (mLenO [(0, (den_Run___len__, (gP [0]))), (1, (den_Run___len__, (gP [0])))] (mV 8)) (mC (.int 0)))))
  (sRet (mC (.bl false)))
  sNx)))))
  sNx))
  m__law_are_ticks_right_6)
@[irreducible] def m__law_are_ticks_right_4 : Sm := (sSeq (sSet 9 (mOp addO (mV 9) (mLst (mCons (mTup (mCons (mTup (mCons (mLst mNil) (mCons (mLst mNil) (mCons (mC .non) mNil)))) (mCons (mC (.str "d")) mNil))) mNil))))
  m__law_are_ticks_right_5)
@[irreducible] def m__law_are_ticks_right_3 : Sm := (sSeq (sSet 9 (mLst (mCons (mTup (mCons (mTup (mCons (mLst (mCons (mC (.str "none")) mNil)) (mCons (mOp idxO (mV 2) (mC (.int 2))) (mCons (mC .non) mNil)))) (mCons (mC (.str "d")) mNil))) (mCons (mTup (mCons (mTup (mCons (mOp idxO (mV 2) (mC (.int 1))) (mCons (mLst (mCons (mOp idxO (mV 2) (mC (.int 2))) mNil)) (mCons (mC .non) mNil)))) (mCons (mC (.str "u")) mNil))) mNil))))
  m__law_are_ticks_right_4)
@[irreducible] def m__law_are_ticks_right_2 : Sm := (sSeq (sSet 8 (mNewO 1 den_LeastRun___init__ 3 0 (gPd [0, 1, 2, 3, 4] [.non]) (mCons (mVs 0) (mCons (mVs 1) (mCons (mVs 0) mNil))) mNil))
  m__law_are_ticks_right_3)
@[irreducible] def m__law_are_ticks_right_1 : Sm := (sSeq (sFor (iV (mCallB den__law_cases 1 0 (gP [0]) (mCons (mVs 2) mNil) mNil)) (gTp 2 (gCn (gN 4) (gCn (gN 5) gNl)))
  (sSeq (sOw 6 (mLst (mCons (mHear 1 "_law_are_ticks_right.<locals>.<lambda>" 3 mH__law_heard (mMethO "tick" [(0, (den_Run_tick, (gP [0, 1, 2, 3]))), (1, (den_LeastRun_tick, (gPd [0, 1, 2, 3] [.non])))] 3 0 (mV 3) (mCons (mOp idxO (mV 4) (mC (.int 0))) (mCons (mOp idxO (mV 4) (mC (.int 1))) (mCons (mOp idxO (mV 4) (mC (.int 2))) mNil))) mNil)) mNil)))
  (sSeq (sApp 6 (mHear 1 "_law_are_ticks_right.<locals>.<lambda>" 3 mH__law_heard (mCallB den__law_added 2 0 (gP [0, 1]) (mCons (mVs 3) (mCons (mVs 4) mNil)) mNil)))
  (sSeq (sApp 6 (mHear 1 "_law_are_ticks_right.<locals>.<lambda>" 3 mH__law_heard (mMethO "tried" [(0, (den_Run_tried, (gStar 1))), (1, (den_Run_tried, (gStar 1)))] 2 0 (mV 3) (mCons (mTup (mCons (mOp idxO (mV 2) (mC (.int 1))) (mCons (mOp idxO (mV 2) (mC (.int 3))) (mCons (mC (.int 0)) mNil)))) (mCons (mVs 4) mNil)) mNil)))
  (sSeq (sSet 7 (mIf (mOr (mB (mOp neF (mV 5) (mC (.str "d")))) (mB (mOp neF (mOp idxO (mV 4) (mC (.int 0))) (mOp idxO (mV 2) (mC (.int 0)))))) (mVs 5) (mC (.str "none"))))
  (sSeq (sIf (mOr (mB (mOp neF (mUn reprG (mSl (mV 6) oNo (oIs (mC (.int 2))))) (mUn reprG (mOp mulO2 (mLst (mCons (mTup (mCons (mC (.str "use")) (mCons (mVs 5) (mCons (mUn negO (mC (.int 1))) mNil)))) mNil)) (mC (.int 2)))))) (mAnd (mB (mOp neF (mV 7) (mC (.str "none")))) (mB (mOp neF (mOp idxO (mV 6) (mC (.int 2))) (mTup (mCons (mC (.str "use")) (mCons (mVs 5) (mCons (mUn negO (mC (.int 1))) mNil))))))))
  (sRet (mC (.bl false)))
  sNx)
  (sIf (mB (mOp neF (mUn reprG (mCallB den__law_book_told 1 0 (gP [0]) (mCons (mVs 3) mNil) mNil)) (mUn reprG (mCallB den__law_book_due 3 0 (gP [0, 1, 2]) (mCons (mTup (mCons (mVs 0) (mCons (mVs 1) (mCons (mVs 0) mNil)))) (mCons (mTup (mCons (mC (.int 0)) (mCons (mC (.int 0)) (mCons (mC (.int 0)) mNil)))) (mCons (mLst mNil) mNil))) mNil))))
  (sRet (mC (.bl false)))
  sNx)))))))
  m__law_are_ticks_right_2)
def m__law_are_ticks_right : Sm := (sSeq (sSet 3 (mNewO 0 den_Run___init__ 4 0 (gP [0, 1, 2, 3, 4]) (mCons (mVs 0) (mCons (mVs 1) (mCons (mVs 0) (mCons (mTup (mCons (mC (.int 0)) (mCons (mC (.int 0)) (mCons (mC (.int 0)) mNil)))) mNil)))) mNil))
  m__law_are_ticks_right_1)
def den__law_are_ticks_right : Den := denOf 12 m__law_are_ticks_right
abbrev N_Run_led : List Str := ["cls", "rule", "zone", "other", "run", "walk", "given", "taken", "spot"]
abbrev ps_Run_led : List Str := ["cls", "rule", "zone", "other", "run"]
def m_Run_led : Sm := (sSeq (sDrop (mCallB den_want 2 0 (gPd [0, 1, 2] [.int (-1)]) (mCons (mOp isO2 (mCallB den_run_fault 4 0 (gP [0, 1, 2, 3]) (mCons (mVs 1) (mCons (mVs 2) (mCons (mVs 3) (mCons (mVs 4) mNil)))) mNil) (mC .non)) (mCons (mC (.str "run")) mNil)) mNil))
  (sSeq (sSet 5 (mNewC [(0, (den_Run___init__, (gP [0, 1, 2, 3, 4]))), (1, (den_LeastRun___init__, (gPd [0, 1, 2, 3, 4] [.non])))] 4 0 (mVs 0) (mCons (mVs 1) (mCons (mVs 2) (mCons (mVs 3) (mCons (mOp idxO (mV 4) (mC (.int 0))) mNil)))) mNil))
  (sSeq (sFor (iV (mOp idxO (mV 4) (mC (.int 1)))) (gTp 3 (gCn (gN 6) (gCn (gN 7) (gCn (gN 8) gNl))))
  (sDrop (mMethO "tick" [(0, (den_Run_tick, (gP [0, 1, 2, 3]))), (1, (den_LeastRun_tick, (gPd [0, 1, 2, 3] [.non])))] 3 0 (mV 5) (mCons (mVs 6) (mCons (mVs 7) (mCons (mOp idxO (mV 8) (mC (.int 1))) mNil))) mNil)))
  (sRet (mVs 5)))))
def den_Run_led : Den := denOf 9 m_Run_led
abbrev N_Run_back : List Str := ["self", "ticks", "last"]
abbrev ps_Run_back : List Str := ["self"]
def m_Run_back : Sm := (sSeq (sIf (mB (mOp eqF (mFldO [0, 1] "own_ticks" (mV 0)) (mTup mNil)))
  (sRaise 2 1 (mCons (mC (.int 0)) mNil))
  sNx)
  (sSeq (sAsg (mFldO [0, 1] "own_ticks" (mV 0)) (gSt 2 0 (gCn (gN 1) (gCn (gN 2) gNl))))
  (sSeq (sFldO [0, 1] "own_ticks" (mV 0) (mUn tupleO (mV 1)))
  (sRet (mVs 2)))))
def den_Run_back : Den := denOf 3 m_Run_back
abbrev N__law_is_end_right : List Str := ["_law_hand_here", "_law_hasty", "_law_four_here", "_law_box", "_law_none", "_law_ready", "_law_wait", "_law_walk", "_law_told", "_law_due", "_law_odd"]
abbrev ps__law_is_end_right : List Str := ["_law_hand_here", "_law_hasty", "_law_four_here"]
@[irreducible] def m__law_is_end_right_12 : Sm := (sRet (mOp eqF (mUn reprG (mV 8)) (mUn reprG (mOp addO (mV 9) (mLst (mCons (mTup (mCons (mC (.int 0)) (mCons (mC (.int 0)) (mCons (mC (.int 0)) mNil)))) (mCons (mTup (mCons (mC (.int 0)) (mCons (mC (.int 2)) (mCons (mC (.int 0)) mNil)))) (mCons (mC (.int 3)) (mCons (mVs 4) (mCons (mVs 3) (mCons (mVs 4) (mCons (mTup (mCons (mC (.str "none")) (mCons (mC (.int 0)) mNil))) mNil))))))))))))
@[irreducible] def m__law_is_end_right_11 : Sm := (sSeq (sApp 8 (mHear 2 "_law_is_end_right.<locals>.<lambda>" 3 mH__law_heard (mMethO "back" [(0, (den_Run_back, (gP [0]))), (1, (den_Run_back, (gP [0])))] 0 0 (mV 7) mNil mNil)))
  m__law_is_end_right_12)
@[irreducible] def m__law_is_end_right_10 : Sm := (sSeq (sOw 8 (mOpF addF (mV 8) (mLst (mCons (mItemO [(0, (den_Run___getitem__, (gP [0, 1]))), (1, (den_Run___getitem__, (gP [0, 1])))] (mV 7) (mC (.int 0))) (mCons (mItemO [(0, (den_Run___getitem__, (gP [0, 1]))), (1, (den_Run___getitem__, (gP [0, 1])))] (mV 7) (mC (.int 3))) (mCons (mLenO [(0, (den_Run___len__, (gP [0]))), (1, (den_Run___len__, (gP [0])))] (mV 7)) (mCons (mOp idxO (mMethO "back" [(0, (den_Run_back, (gP [0]))), (1, (den_Run_back, (gP [0])))] 0 0 (mV 7) mNil mNil) (mC (.int 0))) (mCons (mOp idxO (mMethO "back" [(0, (den_Run_back, (gP [0]))), (1, (den_Run_back, (gP [0])))] 0 0 (mV 7) mNil mNil) (mC (.int 0))) (mCons (mOp idxO (mMethO "back" [(0, (den_Run_back, (gP [0]))), (1, (den_Run_back, (gP [0])))] 0 0 (mV 7) mNil mNil) (mC (.int 0))) mNil)))))))))
  m__law_is_end_right_11)
@[irreducible] def m__law_is_end_right_9 : Sm := (sSeq (sFor (iV (mLst (mCons (mC .non) (mCons (mUn negO (mC (.int 1))) (mCons (mC (.int 4)) (mCons (mC (.bl true)) (mCons (mC (.str "0")) (mCons (mTup (mCons (mC (.int 0)) mNil)) (mCons (mLst mNil) (mCons (mOp powO (mC (.int 10)) (mC (.int 30))) mNil)))))))))) (gN 10)
  (sSeq (sApp 8 (mHear 2 "_law_is_end_right.<locals>.<lambda>" 3 mH__law_heard (mItemO [(0, (den_Run___getitem__, (gP [0, 1]))), (1, (den_Run___getitem__, (gP [0, 1])))] (mV 7) (mVs 10))))
  (sApp 9 (mTup (mCons (mC (.str "use")) (mCons (mC (.str "k")) (mCons (mUn negO (mC (.int 1))) mNil)))))))
  m__law_is_end_right_10)
@[irreducible] def m__law_is_end_right_8 : Sm := (sSeq (sOw 9 (mOpF addF (mV 9) (mLst (mCons (mTup (mCons (mC (.str "use")) (mCons (mC (.str "u")) (mCons (mUn negO (mC (.int 1))) mNil)))) (mCons (mTup (mCons (mC (.str "wrong")) (mCons (mTup (mCons (mC (.int 0)) (mCons (mC (.int 2)) (mCons (mC (.int 0)) mNil)))) mNil))) mNil)))))
  m__law_is_end_right_9)
@[irreducible] def m__law_is_end_right_7 : Sm := (sSeq (sOw 9 (mLst (mCons (mC (.str "down")) (mCons (mTup (mCons (mC (.str "wrong")) (mCons (mTup (mCons (mC (.int 0)) (mCons (mC (.int 2)) (mCons (mC (.int 0)) mNil)))) mNil))) (mCons (mTup (mCons (mC (.str "wrong")) (mCons (mTup (mCons (mC (.int 0)) (mCons (mC (.int 2)) (mCons (mC (.int 0)) mNil)))) mNil))) (mCons (mTup (mCons (mC (.str "use")) (mCons (mC (.str "d")) (mCons (mUn negO (mC (.int 1))) mNil)))) mNil))))))
  m__law_is_end_right_8)
@[irreducible] def m__law_is_end_right_6 : Sm := (sSeq (sApp 8 (mHear 2 "_law_is_end_right.<locals>.<lambda>" 3 mH__law_heard (mMethO "tried" [(0, (den_Run_tried, (gStar 1))), (1, (den_Run_tried, (gStar 1)))] 1 0 (mV 7) (mCons (mTup (mCons (mVs 4) (mCons (mVs 5) (mCons (mC (.int 0)) mNil)))) mNil) mNil)))
  m__law_is_end_right_7)
@[irreducible] def m__law_is_end_right_5 : Sm := (sSeq (sApp 8 (mHear 2 "_law_is_end_right.<locals>.<lambda>" 3 mH__law_heard (mMethO "tick" [(0, (den_Run_tick, (gP [0, 1, 2, 3]))), (1, (den_LeastRun_tick, (gPd [0, 1, 2, 3] [.non])))] 3 0 (mV 7) (mCons (mVs 4) (mCons (mVs 3) (mCons (mC (.int 0)) mNil))) mNil)))
  m__law_is_end_right_6)
@[irreducible] def m__law_is_end_right_4 : Sm := (sSeq (sApp 8 (mHear 2 "_law_is_end_right.<locals>.<lambda>" 3 mH__law_heard (mMethO "tick" [(0, (den_Run_tick, (gP [0, 1, 2, 3]))), (1, (den_LeastRun_tick, (gPd [0, 1, 2, 3] [.non])))] 3 0 (mV 7) (mCons (mVs 3) (mCons (mVs 5) (mCons (mC (.int 0)) mNil))) mNil)))
  m__law_is_end_right_5)
@[irreducible] def m__law_is_end_right_3 : Sm := (sSeq (sApp 8 (mHear 2 "_law_is_end_right.<locals>.<lambda>" 3 mH__law_heard (mMethO "tick" [(0, (den_Run_tick, (gP [0, 1, 2, 3]))), (1, (den_LeastRun_tick, (gPd [0, 1, 2, 3] [.non])))] 3 0 (mV 7) (mCons (mVs 4) (mCons (mVs 6) (mCons (mC .non) mNil))) mNil)))
  m__law_is_end_right_4)
@[irreducible] def m__law_is_end_right_2 : Sm := (sSeq (sOw 8 (mLst (mCons (mMethO "tick" [(0, (den_Run_tick, (gP [0, 1, 2, 3]))), (1, (den_LeastRun_tick, (gPd [0, 1, 2, 3] [.non])))] 3 0 (mV 7) (mCons (mVs 4) (mCons (mVs 6) (mCons (mC (.int 2)) mNil))) mNil) (mCons (mHear 2 "_law_is_end_right.<locals>.<lambda>" 3 mH__law_heard (mMethO "tick" [(0, (den_Run_tick, (gP [0, 1, 2, 3]))), (1, (den_LeastRun_tick, (gPd [0, 1, 2, 3] [.non])))] 3 0 (mV 7) (mCons (mVs 4) (mCons (mVs 5) (mCons (mC (.int 0)) mNil))) mNil)) mNil))))
  m__law_is_end_right_3)
@[irreducible] def m__law_is_end_right_1 : Sm := (sSeq (sSet 7 (mClsM "led" [(0, (den_Run_led, (gP [0, 1, 2, 3, 4]))), (1, (den_Run_led, (gP [0, 1, 2, 3, 4])))] 4 (mCls 0) (mCons (mVs 0) (mCons (mVs 1) (mCons (mVs 0) (mCons (mTup (mCons (mTup (mCons (mC (.int 0)) (mCons (mC (.int 0)) (mCons (mC (.int 0)) mNil)))) (mCons (mTup (mCons (mTup (mCons (mVs 4) (mCons (mVs 5) (mCons (mTup (mCons (mC (.int 1)) (mCons (mC (.int 0)) (mCons (mC (.int 1)) mNil)))) mNil)))) (mCons (mTup (mCons (mVs 3) (mCons (mVs 6) (mCons (mTup (mCons (mC (.int 0)) (mCons (mC (.int 1)) (mCons (mC (.int 0)) mNil)))) mNil)))) mNil))) mNil))) mNil))))))
  m__law_is_end_right_2)
def m__law_is_end_right : Sm := (sSeq (sAsg (mVs 2) (gTp 4 (gCn (gN 3) (gCn (gN 4) (gCn (gN 5) (gCn (gN 6) gNl))))))
  m__law_is_end_right_1)
def den__law_is_end_right : Den := denOf 11 m__law_is_end_right
abbrev N__law_are_leads_right : List Str := ["_law_hand_here", "_law_hasty", "_law_four_here", "_law_step", "_law_some", "_law_odd", "_law_told"]
abbrev ps__law_are_leads_right : List Str := ["_law_hand_here", "_law_hasty", "_law_four_here"]
@[irreducible] def m__law_are_leads_right_9 : Sm := (sRet (mOp eqF (mUn reprG (mPropO [(0, den_Run_place_now), (1, den_Run_place_now)] (mClsM "led" [(0, (den_Run_led, (gP [0, 1, 2, 3, 4]))), (1, (den_Run_led, (gP [0, 1, 2, 3, 4])))] 4 (mCls 0) (mCons (mVs 0) (mCons (mVs 1) (mCons (mVs 0) (mCons (mTup (mCons (mTup (mCons (mC (.int 0)) (mCons (mC (.int 0)) (mCons (mC (.int 0)) mNil)))) (mCons (mTup (mCons (mVs 3) mNil)) mNil))) mNil))))))) (mUn reprG (mTup (mCons (mC (.int 1)) (mCons (mC (.int 0)) (mCons (mC (.int 1)) mNil)))))))
@[irreducible] def m__law_are_leads_right_8 : Sm := (sSeq (sFor (iV (mOp addO (mV 4) (mLst (mCons (mTup (mCons (mTup (mCons (mC (.int 0)) (mCons (mC (.bl false)) (mCons (mC (.int 0)) mNil)))) (mCons (mTup mNil) mNil))) (mCons (mTup (mCons (mTup (mCons (mC (.int 0)) (mCons (mC (.int 0)) (mCons (mC (.int 0)) mNil)))) (mCons (mTup (mCons (mC .non) mNil)) mNil))) (mCons (mC (.str "ab")) (mCons (mTup (mCons (mTup (mCons (mC (.int 0)) (mCons (mC (.int 0)) (mCons (mC (.int 0)) mNil)))) (mCons (mTup (mCons (mOp addO (mSl (mV 3) oNo (oIs (mC (.int 2)))) (mTup (mCons (mTup (mCons (mC (.int 1)) (mCons (mC (.int 0)) (mCons (mC (.bl true)) mNil)))) mNil))) mNil)) mNil))) mNil))))))) (gN 5)
  (sSeq (sOw 6 (mLst (mCons (mHear 3 "_law_are_leads_right.<locals>.<lambda>" 3 mH__law_heard (mPropO [(0, den_Run_run_now), (1, den_Run_run_now)] (mClsM "led" [(0, (den_Run_led, (gP [0, 1, 2, 3, 4]))), (1, (den_Run_led, (gP [0, 1, 2, 3, 4])))] 4 (mCls 0) (mCons (mVs 0) (mCons (mVs 1) (mCons (mVs 0) (mCons (mVs 5) mNil))))))) mNil)))
  (sSeq (sApp 6 (mHear 3 "_law_are_leads_right.<locals>.<lambda>" 3 mH__law_heard (mPropO [(0, den_Run_run_now), (1, den_Run_run_now)] (mClsM "led" [(0, (den_Run_led, (gP [0, 1, 2, 3, 4]))), (1, (den_Run_led, (gP [0, 1, 2, 3, 4])))] 4 (mCls 1) (mCons (mVs 0) (mCons (mVs 1) (mCons (mVs 0) (mCons (mVs 5) mNil))))))))
  (sIf (mB (mOp neF (mUn reprG (mV 6)) (mUn reprG (mOp mulO2 (mLst (mCons (mTup (mCons (mC (.str "use")) (mCons (mC (.str "run")) (mCons (mUn negO (mC (.int 1))) mNil)))) mNil)) (mC (.int 2))))))
  (sRet (mC (.bl false)))
  sNx))))
  m__law_are_leads_right_9)
@[irreducible] def m__law_are_leads_right_7 : Sm := (sSeq (sSet 4 (mOp addO (mV 4) (mLst (mCons (mTup (mCons (mTup (mCons (mC (.int 0)) (mCons (mC (.int 0)) (mCons (mC (.int 0)) mNil)))) (mCons (mTup (mCons (mTup (mCons (mLst (mCons (mOp idxO (mV 3) (mC (.int 0))) mNil)) (mCons (mOp idxO (mV 3) (mC (.int 1))) (mCons (mTup (mCons (mC (.int 1)) (mCons (mC (.int 0)) (mCons (mC (.int 1)) mNil)))) mNil)))) mNil)) mNil))) mNil))))
  m__law_are_leads_right_8)
@[irreducible] def m__law_are_leads_right_6 : Sm := (sSeq (sSet 4 (mOp addO (mV 4) (mLst (mCons (mTup (mCons (mTup (mCons (mC (.int 0)) (mCons (mC (.int 0)) (mCons (mC (.int 0)) mNil)))) (mCons (mTup (mCons (mOp addO (mSl (mV 3) oNo (oIs (mC (.int 2)))) (mTup (mCons (mTup (mCons (mC (.int 1)) (mCons (mLst (mCons (mC (.int 0)) mNil)) (mCons (mC (.int 1)) mNil)))) mNil))) mNil)) mNil))) (mCons (mTup (mCons (mTup (mCons (mC (.int 0)) (mCons (mLst (mCons (mC (.int 0)) mNil)) (mCons (mC (.int 0)) mNil)))) (mCons (mTup mNil) mNil))) mNil)))))
  m__law_are_leads_right_7)
@[irreducible] def m__law_are_leads_right_5 : Sm := (sSeq (sSet 4 (mOp addO (mV 4) (mLst (mCons (mTup (mCons (mTup (mCons (mC (.int 0)) (mCons (mC (.int 0)) (mCons (mC (.int 0)) mNil)))) (mCons (mTup (mCons (mOp addO (mSl (mV 3) oNo (oIs (mC (.int 2)))) (mTup (mCons (mLst (mCons (mC (.int 1)) (mCons (mC (.int 0)) (mCons (mC (.int 1)) mNil)))) mNil))) mNil)) mNil))) mNil))))
  m__law_are_leads_right_6)
@[irreducible] def m__law_are_leads_right_4 : Sm := (sSeq (sSet 4 (mOp addO (mV 4) (mLst (mCons (mTup (mCons (mTup (mCons (mC (.int 0)) (mCons (mC (.int 0)) (mCons (mC (.int 0)) mNil)))) (mCons (mTup (mCons (mVs 3) mNil)) (mCons (mC (.int 0)) mNil)))) (mCons (mTup (mCons (mC .non) (mCons (mTup mNil) mNil))) mNil)))))
  m__law_are_leads_right_5)
@[irreducible] def m__law_are_leads_right_3 : Sm := (sSeq (sSet 4 (mOp addO (mV 4) (mLst (mCons (mTup (mCons (mTup (mCons (mC (.int 0)) (mCons (mC (.int 0)) (mCons (mC (.int 0)) mNil)))) (mCons (mTup (mCons (mUn listO (mV 3)) mNil)) mNil))) (mCons (mTup (mCons (mTup (mCons (mC (.int 0)) (mCons (mC (.int 0)) (mCons (mC (.int 0)) mNil)))) (mCons (mTup (mCons (mOp addO (mSl (mV 3) oNo (oIs (mC (.int 2)))) (mTup (mCons (mTup (mCons (mC (.int 0)) (mCons (mC (.int 0)) (mCons (mC (.int 1)) mNil)))) mNil))) mNil)) mNil))) mNil)))))
  m__law_are_leads_right_4)
@[irreducible] def m__law_are_leads_right_2 : Sm := (sSeq (sSet 4 (mOp addO (mV 4) (mLst (mCons (mTup (mCons (mTup (mCons (mC (.int 0)) (mCons (mC (.int 1)) (mCons (mC (.int 0)) mNil)))) (mCons (mTup mNil) mNil))) (mCons (mTup (mCons (mTup (mCons (mC (.int 0)) (mCons (mC (.int 0)) (mCons (mC (.int 0)) mNil)))) (mCons (mTup (mCons (mVs 3) (mCons (mSl (mV 3) oNo (oIs (mC (.int 2)))) mNil))) mNil))) mNil)))))
  m__law_are_leads_right_3)
@[irreducible] def m__law_are_leads_right_1 : Sm := (sSeq (sSet 4 (mLst (mCons (mC .non) (mCons (mTup mNil) (mCons (mTup (mCons (mTup (mCons (mC (.int 0)) (mCons (mC (.int 0)) (mCons (mC (.int 0)) mNil)))) mNil)) (mCons (mTup (mCons (mTup (mCons (mC (.int 0)) (mCons (mC (.int 0)) (mCons (mC (.int 0)) mNil)))) (mCons (mLst (mCons (mVs 3) mNil)) mNil))) (mCons (mLst (mCons (mTup (mCons (mC (.int 0)) (mCons (mC (.int 0)) (mCons (mC (.int 0)) mNil)))) (mCons (mTup (mCons (mVs 3) mNil)) mNil))) mNil)))))))
  m__law_are_leads_right_2)
def m__law_are_leads_right : Sm := (sSeq (sSet 3 (mTup (mCons (mOp idxO (mV 2) (mC (.int 1))) (mCons (mOp idxO (mV 2) (mC (.int 2))) (mCons (mTup (mCons (mC (.int 1)) (mCons (mC (.int 0)) (mCons (mC (.int 1)) mNil)))) mNil)))))
  m__law_are_leads_right_1)
def den__law_are_leads_right : Den := denOf 7 m__law_are_leads_right
abbrev N_law : List Str := ["_law_script", "_law_feed_here", "_law_four_here", "_law_hand_here", "_law_hasty"]
abbrev ps_law : List Str := ["_law_script"]
def m_law_5 : Sm := (sRet (mAndV (mCallB den__law_is_end_right 3 0 (gP [0, 1, 2]) (mCons (mVs 3) (mCons (mVs 4) (mCons (mVs 2) mNil))) mNil) (mCallB den__law_are_leads_right 3 0 (gP [0, 1, 2]) (mCons (mVs 3) (mCons (mVs 4) (mCons (mVs 2) mNil))) mNil)))
def m_law_4 : Sm := (sSeq (sIf (mOr (mNot (mTr (mCallB den__law_are_begins_right 2 0 (gP [0, 1]) (mCons (mVs 3) (mCons (mVs 4) mNil)) mNil))) (mNot (mTr (mCallB den__law_are_ticks_right 3 0 (gP [0, 1, 2]) (mCons (mVs 3) (mCons (mVs 4) (mCons (mVs 2) mNil))) mNil))))
  (sRet (mC (.bl false)))
  sNx)
  m_law_5)
def m_law_3 : Sm := (sSeq (sSet 4 (mCallB den__law_keeper 5 0 (gP [0, 1, 2, 3, 4]) (mCons (mOp idxO (mV 2) (mC (.int 0))) (mCons (mOp idxO (mV 2) (mC (.int 1))) (mCons (mOp idxO (mV 2) (mC (.int 2))) (mCons (mOp idxO (mV 2) (mC (.int 3))) (mCons (mC (.bl true)) mNil))))) mNil))
  m_law_4)
def m_law_2 : Sm := (sSeq (sSet 3 (mCallB den__law_hand 4 0 (gP [0, 1, 2, 3]) (mCons (mOp idxO (mV 2) (mC (.int 0))) (mCons (mOp idxO (mV 2) (mC (.int 1))) (mCons (mOp idxO (mV 2) (mC (.int 2))) (mCons (mOp idxO (mV 2) (mC (.int 3))) mNil)))) mNil))
  m_law_3)
def m_law_1 : Sm := (sSeq (sSet 2 (mCallB den__law_four 1 0 (gP [0]) (mCons (mVs 1) mNil) mNil))
  m_law_2)
def m_law : Sm := (sSeq (sSet 1 (mCallB den__law_feed 1 0 (gP [0]) (mCons (mVs 0) mNil) mNil))
  m_law_1)
def den_law : Den := denOf 5 m_law
/-- what is known of the module -/
structure Kn (T : Wd) (h : Heap) (mg : Str → Option Value) : Prop where
  X : T.K.In h
  G : h.Ns mainGlobals mg
  c : He.SaysD fa fn T.K
  er : ∀ e ∈ ersz, ErOk T.P T.K e
  ex : exE ersz ysz flz "ZoneError" tabz T.K = true
  ct : T.ct = ctz ersz T.K
  cf : T.cf = cfz fsz
  mz : T.mks = fun _ => none
  tb : T.tb = tbz lamz T.K
  tp : (tupz.all fun p => tupB T.K p) = true
  P : T.P = PySem.Challenge.pw_zonebetween_k28_led_runs_refused
  cd : ∀ c ∈ cdefz, fnA T.K (cAd T.K c) = c.val
  cb : (cdefz.all fun c => cfB T.K c) = true
  cs : (csupz.all fun c => cfS T.P.main.file T.K c) = true
  ca : (cfactz.all fun a => a.ok T.K) = true
  oc : T.oc = ocz cclsz T.K
section
variable {T : Wd} {h : Heap} {mg : Str → Option Value} {base : Heap}
theorem b_ValueError_of (kn : Kn T h mg) : mg "ValueError" = none := He.free_ok kn.X kn.G (kn.c.fact 34 (f := .free "ValueError") rfl)
theorem b_bool_of (kn : Kn T h mg) : mg "bool" = none := He.free_ok kn.X kn.G (kn.c.fact 35 (f := .free "bool") rfl)
theorem b_enumerate_of (kn : Kn T h mg) : mg "enumerate" = none := He.free_ok kn.X kn.G (kn.c.fact 36 (f := .free "enumerate") rfl)
theorem b_int_of (kn : Kn T h mg) : mg "int" = none := He.free_ok kn.X kn.G (kn.c.fact 37 (f := .free "int") rfl)
theorem b_isinstance_of (kn : Kn T h mg) : mg "isinstance" = none := He.free_ok kn.X kn.G (kn.c.fact 38 (f := .free "isinstance") rfl)
theorem b_len_of (kn : Kn T h mg) : mg "len" = none := He.free_ok kn.X kn.G (kn.c.fact 39 (f := .free "len") rfl)
theorem b_list_of (kn : Kn T h mg) : mg "list" = none := He.free_ok kn.X kn.G (kn.c.fact 40 (f := .free "list") rfl)
theorem b_range_of (kn : Kn T h mg) : mg "range" = none := He.free_ok kn.X kn.G (kn.c.fact 41 (f := .free "range") rfl)
theorem b_repr_of (kn : Kn T h mg) : mg "repr" = none := He.free_ok kn.X kn.G (kn.c.fact 42 (f := .free "repr") rfl)
theorem b_sorted_of (kn : Kn T h mg) : mg "sorted" = none := He.free_ok kn.X kn.G (kn.c.fact 43 (f := .free "sorted") rfl)
theorem b_str_of (kn : Kn T h mg) : mg "str" = none := He.free_ok kn.X kn.G (kn.c.fact 44 (f := .free "str") rfl)
theorem b_super_of (kn : Kn T h mg) : mg "super" = none := He.free_ok kn.X kn.G (kn.c.fact 45 (f := .free "super") rfl)
theorem b_tuple_of (kn : Kn T h mg) : mg "tuple" = none := He.free_ok kn.X kn.G (kn.c.fact 46 (f := .free "tuple") rfl)
theorem is_NotUsable (kn : Kn T h mg) : InitS T.P er_NotUsable.params er_NotUsable.qual er_NotUsable.scope (["word", "at"] : List Str) := by
  rw [kn.P]
  exact ⟨rfl, rfl, rfl, by simp []; exact ⟨rfl, rfl⟩, by decide, rfl, rfl, rfl, by decide +kernel, by kernel_rfl, ⟨_, rfl, rfl⟩, by decide, fun _ _ _ _ _ _ _ us hl => match us, hl with | [_, _, _], _ => rfl⟩
theorem ec_NotUsable (kn : Kn T h mg) : ErrC T.P T.K (eC T.K "NotUsable") (eI T.K "NotUsable") (["word", "at"] : List Str) := errC_2 (e := er_NotUsable) (kn.er _ (by simp [ersz])) rfl rfl (is_NotUsable kn) (fun _ _ _ _ _ _ => rfl)
theorem ct_NotUsable (kn : Kn T h mg) : T.ct 0 = .ref (eC T.K "NotUsable") := by rw [kn.ct] <;> rfl
theorem cf_NotUsable (kn : Kn T h mg) : T.cf 0 = (["word", "at"] : List Str) := by rw [kn.cf] <;> rfl
theorem g_NotUsable_of (kn : Kn T h mg) : mg "NotUsable" = some (.ref (eC T.K "NotUsable")) := PySem.W.mg_of kn.X kn.G (kn.er er_NotUsable (by simp [ersz])).gl
theorem is_NotRight (kn : Kn T h mg) : InitS T.P er_NotRight.params er_NotRight.qual er_NotRight.scope (["place"] : List Str) := by
  rw [kn.P]
  exact ⟨rfl, rfl, rfl, by simp; rfl, by decide, rfl, rfl, rfl, by decide +kernel, by kernel_rfl, ⟨_, rfl, rfl⟩, by decide, fun _ _ _ _ _ _ _ us hl => match us, hl with | [_, _], _ => rfl⟩
theorem ec_NotRight (kn : Kn T h mg) : ErrC T.P T.K (eC T.K "NotRight") (eI T.K "NotRight") (["place"] : List Str) := errC_1 (e := er_NotRight) (kn.er _ (by simp [ersz])) rfl rfl (is_NotRight kn) (fun _ _ _ _ _ _ => rfl)
theorem ct_NotRight (kn : Kn T h mg) : T.ct 1 = .ref (eC T.K "NotRight") := by rw [kn.ct] <;> rfl
theorem cf_NotRight (kn : Kn T h mg) : T.cf 1 = (["place"] : List Str) := by rw [kn.cf] <;> rfl
theorem g_NotRight_of (kn : Kn T h mg) : mg "NotRight" = some (.ref (eC T.K "NotRight")) := PySem.W.mg_of kn.X kn.G (kn.er er_NotRight (by simp [ersz])).gl
theorem is_NothingToUndo (kn : Kn T h mg) : InitS T.P er_NothingToUndo.params er_NothingToUndo.qual er_NothingToUndo.scope (["steps"] : List Str) := by
  rw [kn.P]
  exact ⟨rfl, rfl, rfl, by simp; rfl, by decide, rfl, rfl, rfl, by decide +kernel, by kernel_rfl, ⟨_, rfl, rfl⟩, by decide, fun _ _ _ _ _ _ _ us hl => match us, hl with | [_, _], _ => rfl⟩
theorem ec_NothingToUndo (kn : Kn T h mg) : ErrC T.P T.K (eC T.K "NothingToUndo") (eI T.K "NothingToUndo") (["steps"] : List Str) := errC_1 (e := er_NothingToUndo) (kn.er _ (by simp [ersz])) rfl rfl (is_NothingToUndo kn) (fun _ _ _ _ _ _ => rfl)
theorem ct_NothingToUndo (kn : Kn T h mg) : T.ct 2 = .ref (eC T.K "NothingToUndo") := by rw [kn.ct] <;> rfl
theorem cf_NothingToUndo (kn : Kn T h mg) : T.cf 2 = (["steps"] : List Str) := by rw [kn.cf] <;> rfl
theorem g_NothingToUndo_of (kn : Kn T h mg) : mg "NothingToUndo" = some (.ref (eC T.K "NothingToUndo")) := PySem.W.mg_of kn.X kn.G (kn.er er_NothingToUndo (by simp [ersz])).gl
theorem y_InvalidPaper_of (kn : Kn T h mg) : mg "InvalidPaper" = some (.ref (He.ga T.K "InvalidPaper")) := PySem.W.mg_of kn.X kn.G (exE_glo kn.ex (by simp [ysz]))
theorem y_NotUsable_of (kn : Kn T h mg) : mg "NotUsable" = some (.ref (He.ga T.K "NotUsable")) := PySem.W.mg_of kn.X kn.G (exE_glo kn.ex (by simp [ysz]))
theorem y_NotRight_of (kn : Kn T h mg) : mg "NotRight" = some (.ref (He.ga T.K "NotRight")) := PySem.W.mg_of kn.X kn.G (exE_glo kn.ex (by simp [ysz]))
theorem y_PaperError_of (kn : Kn T h mg) : mg "PaperError" = some (.ref (He.ga T.K "PaperError")) := PySem.W.mg_of kn.X kn.G (exE_glo kn.ex (by simp [ysz]))
theorem y_UseError_of (kn : Kn T h mg) : mg "UseError" = some (.ref (He.ga T.K "UseError")) := PySem.W.mg_of kn.X kn.G (exE_glo kn.ex (by simp [ysz]))
theorem y_TextError_of (kn : Kn T h mg) : mg "TextError" = some (.ref (He.ga T.K "TextError")) := PySem.W.mg_of kn.X kn.G (exE_glo kn.ex (by simp [ysz]))
theorem y_NothingToUndo_of (kn : Kn T h mg) : mg "NothingToUndo" = some (.ref (He.ga T.K "NothingToUndo")) := PySem.W.mg_of kn.X kn.G (exE_glo kn.ex (by simp [ysz]))
theorem y_LiveError_of (kn : Kn T h mg) : mg "LiveError" = some (.ref (He.ga T.K "LiveError")) := PySem.W.mg_of kn.X kn.G (exE_glo kn.ex (by simp [ysz]))
theorem hz_of (kn : Kn T h mg) : mg "ZoneError" = some (.ref (He.ga T.K "ZoneError")) := PySem.W.mg_of kn.X kn.G (exE_hz kn.ex)
theorem oc_Run (kn : Kn T h mg) : T.oc 0 = He.ga T.K "Run" := by rw [kn.oc] <;> rfl
theorem cl_Run (kn : Kn T h mg) : OwnC T.K (T.oc 0) := by rw [oc_Run kn]; exact cf_cls (cf_at kn.ca 0 rfl)
theorem cg_Run_of (kn : Kn T h mg) : mg "Run" = some (.ref (T.oc 0)) := by rw [oc_Run kn]; exact cf_glo kn.X kn.G (cf_at kn.ca 0 rfl)
theorem oc_LeastRun (kn : Kn T h mg) : T.oc 1 = He.ga T.K "LeastRun" := by rw [kn.oc] <;> rfl
theorem cl_LeastRun (kn : Kn T h mg) : OwnC T.K (T.oc 1) := by rw [oc_LeastRun kn]; exact cf_cls (cf_at kn.ca 2 rfl)
theorem cg_LeastRun_of (kn : Kn T h mg) : mg "LeastRun" = some (.ref (T.oc 1)) := by rw [oc_LeastRun kn]; exact cf_glo kn.X kn.G (cf_at kn.ca 2 rfl)
theorem cb_Run_parts (kn : Kn T h mg) : cfB T.K cf_Run_parts = true := cd_at kn.cb 0 rfl
theorem cb_Run_run_now (kn : Kn T h mg) : cfB T.K cf_Run_run_now = true := cd_at kn.cb 1 rfl
theorem cb_Run_place_now (kn : Kn T h mg) : cfB T.K cf_Run_place_now = true := cd_at kn.cb 2 rfl
theorem cb_Run_fault_now (kn : Kn T h mg) : cfB T.K cf_Run_fault_now = true := cd_at kn.cb 3 rfl
theorem cb_Run_ready_ticks (kn : Kn T h mg) : cfB T.K cf_Run_ready_ticks = true := cd_at kn.cb 4 rfl
theorem cb_Run_spots (kn : Kn T h mg) : cfB T.K cf_Run_spots = true := cd_at kn.cb 5 rfl
theorem fi_Run_spots (kn : Kn T h mg) : PySem.W.fnIn T.K (cAd T.K cf_Run_spots) = true := fn_in (cb_Run_spots kn)
theorem cb_Run_idle_now (kn : Kn T h mg) : cfB T.K cf_Run_idle_now = true := cd_at kn.cb 6 rfl
theorem cb_Run___len__ (kn : Kn T h mg) : cfB T.K cf_Run___len__ = true := cd_at kn.cb 7 rfl
theorem fi_Run___len__ (kn : Kn T h mg) : PySem.W.fnIn T.K (cAd T.K cf_Run___len__) = true := fn_in (cb_Run___len__ kn)
theorem cb_Run___str__ (kn : Kn T h mg) : cfB T.K cf_Run___str__ = true := cd_at kn.cb 8 rfl
theorem fi_Run___str__ (kn : Kn T h mg) : PySem.W.fnIn T.K (cAd T.K cf_Run___str__) = true := fn_in (cb_Run___str__ kn)
theorem cb_Run___getitem__ (kn : Kn T h mg) : cfB T.K cf_Run___getitem__ = true := cd_at kn.cb 9 rfl
theorem fi_Run___getitem__ (kn : Kn T h mg) : PySem.W.fnIn T.K (cAd T.K cf_Run___getitem__) = true := fn_in (cb_Run___getitem__ kn)
theorem cb_Run_tick_at (kn : Kn T h mg) : cfB T.K cf_Run_tick_at = true := cd_at kn.cb 10 rfl
theorem fi_Run_tick_at (kn : Kn T h mg) : PySem.W.fnIn T.K (cAd T.K cf_Run_tick_at) = true := fn_in (cb_Run_tick_at kn)
theorem cb_LeastRun_tick_at (kn : Kn T h mg) : cfB T.K cf_LeastRun_tick_at = true := cd_at kn.cb 11 rfl
theorem fi_LeastRun_tick_at (kn : Kn T h mg) : PySem.W.fnIn T.K (cAd T.K cf_LeastRun_tick_at) = true := fn_in (cb_LeastRun_tick_at kn)
theorem cb_Run_tick (kn : Kn T h mg) : cfB T.K cf_Run_tick = true := cd_at kn.cb 12 rfl
theorem fi_Run_tick (kn : Kn T h mg) : PySem.W.fnIn T.K (cAd T.K cf_Run_tick) = true := fn_in (cb_Run_tick kn)
theorem cb_LeastRun_tick (kn : Kn T h mg) : cfB T.K cf_LeastRun_tick = true := cd_at kn.cb 13 rfl
theorem fi_LeastRun_tick (kn : Kn T h mg) : PySem.W.fnIn T.K (cAd T.K cf_LeastRun_tick) = true := fn_in (cb_LeastRun_tick kn)
theorem cb_Run___iadd__ (kn : Kn T h mg) : cfB T.K cf_Run___iadd__ = true := cd_at kn.cb 14 rfl
theorem fi_Run___iadd__ (kn : Kn T h mg) : PySem.W.fnIn T.K (cAd T.K cf_Run___iadd__) = true := fn_in (cb_Run___iadd__ kn)
theorem cb_Run___init__ (kn : Kn T h mg) : cfB T.K cf_Run___init__ = true := cd_at kn.cb 15 rfl
theorem cb_LeastRun___init__ (kn : Kn T h mg) : cfB T.K cf_LeastRun___init__ = true := cd_at kn.cb 16 rfl
theorem cb_Run_tried (kn : Kn T h mg) : cfB T.K cf_Run_tried = true := cd_at kn.cb 17 rfl
theorem fi_Run_tried (kn : Kn T h mg) : PySem.W.fnIn T.K (cAd T.K cf_Run_tried) = true := fn_in (cb_Run_tried kn)
theorem cb_Run_led (kn : Kn T h mg) : cfB T.K cf_Run_led = true := cd_at kn.cb 18 rfl
theorem cb_Run_back (kn : Kn T h mg) : cfB T.K cf_Run_back = true := cd_at kn.cb 19 rfl
theorem fi_Run_back (kn : Kn T h mg) : PySem.W.fnIn T.K (cAd T.K cf_Run_back) = true := fn_in (cb_Run_back kn)
theorem pr_Run_place_now (kn : Kn T h mg) : PropOf T.K (T.oc 0) "place_now" (He.ma T.K (He.ga T.K "Run") "place_now") (cAd T.K cf_Run_place_now) := by rw [oc_Run kn]; exact cf_prop (cf_at kn.ca 8 rfl)
theorem pr_LeastRun_place_now (kn : Kn T h mg) : PropOf T.K (T.oc 1) "place_now" (He.ma T.K (He.ga T.K "Run") "place_now") (cAd T.K cf_Run_place_now) := by rw [oc_LeastRun kn]; exact cf_prop (cf_at kn.ca 9 rfl)
theorem me_Run_spots (kn : Kn T h mg) : Meth T.K (T.oc 0) "spots" (cAd T.K cf_Run_spots) := by rw [oc_Run kn]; exact cf_meth (cf_at kn.ca 10 rfl) (cb_Run_spots kn)
theorem me_LeastRun_spots (kn : Kn T h mg) : Meth T.K (T.oc 1) "spots" (cAd T.K cf_Run_spots) := by rw [oc_LeastRun kn]; exact cf_meth (cf_at kn.ca 11 rfl) (cb_Run_spots kn)
theorem pr_Run_parts (kn : Kn T h mg) : PropOf T.K (T.oc 0) "parts" (He.ma T.K (He.ga T.K "Run") "parts") (cAd T.K cf_Run_parts) := by rw [oc_Run kn]; exact cf_prop (cf_at kn.ca 12 rfl)
theorem pr_LeastRun_parts (kn : Kn T h mg) : PropOf T.K (T.oc 1) "parts" (He.ma T.K (He.ga T.K "Run") "parts") (cAd T.K cf_Run_parts) := by rw [oc_LeastRun kn]; exact cf_prop (cf_at kn.ca 13 rfl)
theorem pr_Run_run_now (kn : Kn T h mg) : PropOf T.K (T.oc 0) "run_now" (He.ma T.K (He.ga T.K "Run") "run_now") (cAd T.K cf_Run_run_now) := by rw [oc_Run kn]; exact cf_prop (cf_at kn.ca 14 rfl)
theorem pr_LeastRun_run_now (kn : Kn T h mg) : PropOf T.K (T.oc 1) "run_now" (He.ma T.K (He.ga T.K "Run") "run_now") (cAd T.K cf_Run_run_now) := by rw [oc_LeastRun kn]; exact cf_prop (cf_at kn.ca 15 rfl)
theorem pr_Run_fault_now (kn : Kn T h mg) : PropOf T.K (T.oc 0) "fault_now" (He.ma T.K (He.ga T.K "Run") "fault_now") (cAd T.K cf_Run_fault_now) := by rw [oc_Run kn]; exact cf_prop (cf_at kn.ca 16 rfl)
theorem pr_LeastRun_fault_now (kn : Kn T h mg) : PropOf T.K (T.oc 1) "fault_now" (He.ma T.K (He.ga T.K "Run") "fault_now") (cAd T.K cf_Run_fault_now) := by rw [oc_LeastRun kn]; exact cf_prop (cf_at kn.ca 17 rfl)
theorem pr_Run_ready_ticks (kn : Kn T h mg) : PropOf T.K (T.oc 0) "ready_ticks" (He.ma T.K (He.ga T.K "Run") "ready_ticks") (cAd T.K cf_Run_ready_ticks) := by rw [oc_Run kn]; exact cf_prop (cf_at kn.ca 18 rfl)
theorem pr_LeastRun_ready_ticks (kn : Kn T h mg) : PropOf T.K (T.oc 1) "ready_ticks" (He.ma T.K (He.ga T.K "Run") "ready_ticks") (cAd T.K cf_Run_ready_ticks) := by rw [oc_LeastRun kn]; exact cf_prop (cf_at kn.ca 19 rfl)
theorem pr_Run_idle_now (kn : Kn T h mg) : PropOf T.K (T.oc 0) "idle_now" (He.ma T.K (He.ga T.K "Run") "idle_now") (cAd T.K cf_Run_idle_now) := by rw [oc_Run kn]; exact cf_prop (cf_at kn.ca 20 rfl)
theorem pr_LeastRun_idle_now (kn : Kn T h mg) : PropOf T.K (T.oc 1) "idle_now" (He.ma T.K (He.ga T.K "Run") "idle_now") (cAd T.K cf_Run_idle_now) := by rw [oc_LeastRun kn]; exact cf_prop (cf_at kn.ca 21 rfl)
theorem me_Run___len__ (kn : Kn T h mg) : Meth T.K (T.oc 0) "__len__" (cAd T.K cf_Run___len__) := by rw [oc_Run kn]; exact cf_meth (cf_at kn.ca 22 rfl) (cb_Run___len__ kn)
theorem me_LeastRun___len__ (kn : Kn T h mg) : Meth T.K (T.oc 1) "__len__" (cAd T.K cf_Run___len__) := by rw [oc_LeastRun kn]; exact cf_meth (cf_at kn.ca 23 rfl) (cb_Run___len__ kn)
theorem me_Run___str__ (kn : Kn T h mg) : Meth T.K (T.oc 0) "__str__" (cAd T.K cf_Run___str__) := by rw [oc_Run kn]; exact cf_meth (cf_at kn.ca 24 rfl) (cb_Run___str__ kn)
theorem me_LeastRun___str__ (kn : Kn T h mg) : Meth T.K (T.oc 1) "__str__" (cAd T.K cf_Run___str__) := by rw [oc_LeastRun kn]; exact cf_meth (cf_at kn.ca 25 rfl) (cb_Run___str__ kn)
theorem me_Run___getitem__ (kn : Kn T h mg) : Meth T.K (T.oc 0) "__getitem__" (cAd T.K cf_Run___getitem__) := by rw [oc_Run kn]; exact cf_meth (cf_at kn.ca 26 rfl) (cb_Run___getitem__ kn)
theorem me_LeastRun___getitem__ (kn : Kn T h mg) : Meth T.K (T.oc 1) "__getitem__" (cAd T.K cf_Run___getitem__) := by rw [oc_LeastRun kn]; exact cf_meth (cf_at kn.ca 27 rfl) (cb_Run___getitem__ kn)
theorem me_Run_tick_at (kn : Kn T h mg) : Meth T.K (T.oc 0) "tick_at" (cAd T.K cf_Run_tick_at) := by rw [oc_Run kn]; exact cf_meth (cf_at kn.ca 28 rfl) (cb_Run_tick_at kn)
theorem me_LeastRun_tick_at (kn : Kn T h mg) : Meth T.K (T.oc 1) "tick_at" (cAd T.K cf_LeastRun_tick_at) := by rw [oc_LeastRun kn]; exact cf_meth (cf_at kn.ca 29 rfl) (cb_LeastRun_tick_at kn)
theorem me_Run_tick (kn : Kn T h mg) : Meth T.K (T.oc 0) "tick" (cAd T.K cf_Run_tick) := by rw [oc_Run kn]; exact cf_meth (cf_at kn.ca 30 rfl) (cb_Run_tick kn)
theorem me_LeastRun_tick (kn : Kn T h mg) : Meth T.K (T.oc 1) "tick" (cAd T.K cf_LeastRun_tick) := by rw [oc_LeastRun kn]; exact cf_meth (cf_at kn.ca 31 rfl) (cb_LeastRun_tick kn)
theorem me_Run___iadd__ (kn : Kn T h mg) : Meth T.K (T.oc 0) "__iadd__" (cAd T.K cf_Run___iadd__) := by rw [oc_Run kn]; exact cf_meth (cf_at kn.ca 32 rfl) (cb_Run___iadd__ kn)
theorem me_LeastRun___iadd__ (kn : Kn T h mg) : Meth T.K (T.oc 1) "__iadd__" (cAd T.K cf_Run___iadd__) := by rw [oc_LeastRun kn]; exact cf_meth (cf_at kn.ca 33 rfl) (cb_Run___iadd__ kn)
theorem mk_Run_of (kn : Kn T h mg) : L2.Mk T.K (T.oc 0) (cAd T.K cf_Run___init__) := by rw [oc_Run kn]; exact cf_mkr (cf_at kn.ca 37 rfl) (cb_Run___init__ kn)
theorem mk_LeastRun_of (kn : Kn T h mg) : L2.Mk T.K (T.oc 1) (cAd T.K cf_LeastRun___init__) := by rw [oc_LeastRun kn]; exact cf_mkr (cf_at kn.ca 38 rfl) (cb_LeastRun___init__ kn)
theorem me_Run_tried (kn : Kn T h mg) : Meth T.K (T.oc 0) "tried" (cAd T.K cf_Run_tried) := by rw [oc_Run kn]; exact cf_meth (cf_at kn.ca 39 rfl) (cb_Run_tried kn)
theorem me_LeastRun_tried (kn : Kn T h mg) : Meth T.K (T.oc 1) "tried" (cAd T.K cf_Run_tried) := by rw [oc_LeastRun kn]; exact cf_meth (cf_at kn.ca 40 rfl) (cb_Run_tried kn)
theorem cm_Run_led (kn : Kn T h mg) : ClX.CRead T.K (T.oc 0) (.type "type") ∧ ClX.CMet T.K (T.oc 0) (.type "type") "led" (He.ma T.K (He.ga T.K "Run") "led") (cAd T.K cf_Run_led) := by rw [oc_Run kn]; exact cf_cmet (cf_at kn.ca 41 rfl) (cb_Run_led kn)
theorem cm_LeastRun_led (kn : Kn T h mg) : ClX.CRead T.K (T.oc 1) (.type "type") ∧ ClX.CMet T.K (T.oc 1) (.type "type") "led" (He.ma T.K (He.ga T.K "Run") "led") (cAd T.K cf_Run_led) := by rw [oc_LeastRun kn]; exact cf_cmet (cf_at kn.ca 42 rfl) (cb_Run_led kn)
theorem me_Run_back (kn : Kn T h mg) : Meth T.K (T.oc 0) "back" (cAd T.K cf_Run_back) := by rw [oc_Run kn]; exact cf_meth (cf_at kn.ca 43 rfl) (cb_Run_back kn)
theorem me_LeastRun_back (kn : Kn T h mg) : Meth T.K (T.oc 1) "back" (cAd T.K cf_Run_back) := by rw [oc_LeastRun kn]; exact cf_meth (cf_at kn.ca 44 rfl) (cb_Run_back kn)
theorem fk_own_begin_of (kn : Kn T h mg) : FldK T [0, 1] "own_begin" := (fld_cons (cl_Run kn) (by rw [oc_Run kn]; exact cf_noat (cf_at kn.ca 4 rfl)) (fld_cons (cl_LeastRun kn) (by rw [oc_LeastRun kn]; exact cf_noat (cf_at kn.ca 5 rfl)) fld_nil))
theorem fk_own_parts_of (kn : Kn T h mg) : FldK T [0, 1] "own_parts" := (fld_cons (cl_Run kn) (by rw [oc_Run kn]; exact cf_noat (cf_at kn.ca 1 rfl)) (fld_cons (cl_LeastRun kn) (by rw [oc_LeastRun kn]; exact cf_noat (cf_at kn.ca 3 rfl)) fld_nil))
theorem fk_own_ticks_of (kn : Kn T h mg) : FldK T [0, 1] "own_ticks" := (fld_cons (cl_Run kn) (by rw [oc_Run kn]; exact cf_noat (cf_at kn.ca 6 rfl)) (fld_cons (cl_LeastRun kn) (by rw [oc_LeastRun kn]; exact cf_noat (cf_at kn.ca 7 rfl)) fld_nil))
theorem sc_looks_whole : FnScope N_looks_whole ps_looks_whole (defScope st_looks_whole) := ⟨rfl, rfl, rfl, by decide +kernel, rfl, by decide +kernel, by decide +kernel⟩
theorem ok_looks_whole (kn : Kn T h mg) (base : Heap) (tz : Tabs T mg base lamz) : ∃ fA fd, FunD T.K "looks_whole" "looks_whole" (defArgs st_looks_whole) (defBody st_looks_whole) (defScope st_looks_whole) [] [] fA fd ∧ FnN T mg base 1 "looks_whole" ps_looks_whole fA fd den_looks_whole := by
  have b_bool := b_bool_of kn
  have b_int := b_int_of kn
  have b_isinstance := b_isinstance_of kn
  obtain ⟨fd, F⟩ := kn.c.def_ 0 (d := dd "looks_whole" st_looks_whole []) rfl
  have S := sc_looks_whole
  refine ⟨_, fd, F, fn_den F S fun cdv A outer s H E dx ow => ?_, He.glo_ok kn.X kn.G (kn.c.fact 0 (f := .glo "looks_whole") rfl), F.kp⟩
  exact (sb_one (ss_ret (ee_and dx.ok (ee_isi dx.ok .int (ew_v 0) (by rfl) b_isinstance (by rfl) b_int rfl) (ee_one (ee_not dx.ok (EE.weak (ee_isi dx.ok .bool (ew_v 0) (by rfl) b_isinstance (by rfl) b_bool rfl)))))))
theorem sc_looks_number : FnScope N_looks_number ps_looks_number (defScope st_looks_number) := ⟨rfl, rfl, rfl, by decide +kernel, rfl, by decide +kernel, by decide +kernel⟩
theorem ok_looks_number (kn : Kn T h mg) (base : Heap) (tz : Tabs T mg base lamz) : ∃ fA fd, FunD T.K "looks_number" "looks_number" (defArgs st_looks_number) (defBody st_looks_number) (defScope st_looks_number) [] [] fA fd ∧ FnN T mg base 2 "looks_number" ps_looks_number fA fd den_looks_number := by
  obtain ⟨fA_looks_whole, fd_looks_whole, D_looks_whole, F_looks_whole⟩ := ok_looks_whole kn base tz
  have bd_looks_whole_1 := bd_plain (ps := ps_looks_whole) D_looks_whole 1 [] [0] rfl rfl (fun _ _ _ _ _ _ us ws hu hw => match us, ws, hu, hw with | [_], [], _, _ => rfl)
  obtain ⟨fd, F⟩ := kn.c.def_ 1 (d := dd "looks_number" st_looks_number []) rfl
  have S := sc_looks_number
  refine ⟨_, fd, F, fn_den F S fun cdv A outer s H E dx ow => ?_, He.glo_ok kn.X kn.G (kn.c.fact 1 (f := .glo "looks_number") rfl), F.kp⟩
  exact (sb_one (ss_ret (ee_and dx.ok (ee_call (F_looks_whole.mono (by decide)) dx bd_looks_whole_1 (by rfl) (eas_cons (ee_v 0) eas_nil)) (ee_one (ee_cmp (od_ge dx.ok dx.rm) (ew_v 0) (EE.weak ee_int))))))
theorem sc_is_number : FnScope N_is_number ps_is_number (defScope st_is_number) := ⟨rfl, rfl, rfl, by decide +kernel, rfl, by decide +kernel, by decide +kernel⟩
theorem ok_is_number (kn : Kn T h mg) (base : Heap) (tz : Tabs T mg base lamz) : ∃ fA fd, FunD T.K "is_number" "is_number" (defArgs st_is_number) (defBody st_is_number) (defScope st_is_number) [] [] fA fd ∧ FnN T mg base 3 "is_number" ps_is_number fA fd den_is_number := by
  obtain ⟨fA_looks_number, fd_looks_number, D_looks_number, F_looks_number⟩ := ok_looks_number kn base tz
  have bd_looks_number_1 := bd_plain (ps := ps_looks_number) D_looks_number 1 [] [0] rfl rfl (fun _ _ _ _ _ _ us ws hu hw => match us, ws, hu, hw with | [_], [], _, _ => rfl)
  obtain ⟨fd, F⟩ := kn.c.def_ 2 (d := dd "is_number" st_is_number []) rfl
  have S := sc_is_number
  refine ⟨_, fd, F, fn_den F S fun cdv A outer s H E dx ow => ?_, He.glo_ok kn.X kn.G (kn.c.fact 2 (f := .glo "is_number") rfl), F.kp⟩
  exact (sb_one (ss_ret (ee_call (F_looks_number.mono (by decide)) dx bd_looks_number_1 (by rfl) (eas_cons (ee_v 0) eas_nil))))
theorem sc_want : FnScope N_want ps_want (defScope st_want) := ⟨rfl, rfl, rfl, by decide +kernel, rfl, by decide +kernel, by decide +kernel⟩
theorem ok_want (kn : Kn T h mg) (base : Heap) (tz : Tabs T mg base lamz) : ∃ fA fd, FunD T.K "want" "want" (defArgs st_want) (defBody st_want) (defScope st_want) [.int (-1)] [] fA fd ∧ FnN T mg base 2 "want" ps_want fA fd den_want := by
  have b_super := b_super_of kn
  have g_NotUsable := g_NotUsable_of kn
  obtain ⟨fd, F⟩ := kn.c.def_ 3 (d := dd "want" st_want [.int (-1)]) rfl
  have S := sc_want
  refine ⟨_, fd, F, fn_den F S fun cdv A outer s H E dx ow => ?_, He.glo_ok kn.X kn.G (kn.c.fact 3 (f := .glo "want") rfl), F.kp⟩
  exact (sb_one (ss_if (eb_not (eb_tr dx.ok (ew_v 0)))
  (sb_one (ss_raise (ec_NotUsable kn) (ct_NotUsable kn) (cf_NotUsable kn) rfl b_super (dx.room.mono (by decide)) dx.calm dx.tk rfl g_NotUsable (eas_cons (ee_v 1) (eas_cons (ee_v 2) eas_nil))))
  sb_nil))
theorem sc_starts_of : FnScope N_starts_of ps_starts_of (defScope st_starts_of) := ⟨rfl, rfl, rfl, by decide +kernel, rfl, by decide +kernel, by decide +kernel⟩
theorem ok_starts_of (kn : Kn T h mg) (base : Heap) (tz : Tabs T mg base lamz) : ∃ fA fd, FunD T.K "starts_of" "starts_of" (defArgs st_starts_of) (defBody st_starts_of) (defScope st_starts_of) [] [] fA fd ∧ FnN T mg base 1 "starts_of" ps_starts_of fA fd den_starts_of := by
  have b_tuple := b_tuple_of kn
  obtain ⟨fd, F⟩ := kn.c.def_ 4 (d := dd "starts_of" st_starts_of []) rfl
  have S := sc_starts_of
  refine ⟨_, fd, F, fn_den F S fun cdv A outer s H E dx ow => ?_, He.glo_ok kn.X kn.G (kn.c.fact 4 (f := .glo "starts_of") rfl), F.kp⟩
  exact (sb_one (ss_ret (ee_callT (ud_tuple dx.ok) (EE.weak (EF.val (ef_lc dx.calm S.nd (EI.weak (ei_v dx.ok (ee_ix dx.ok (ew_v 0) (EE.weak ee_int)))) [("stand", 1)] (by rfl) (fun _ _ _ _ _ => (gt_name 1 S.nd)) (fun _ _ _ _ _ => ets_nil) (fun _ _ _ _ _ => (ee_tup (eas_cons ee_int (eas_cons (ee_v 1) (eas_cons ee_int eas_nil)))))))) (by rfl) b_tuple rfl)))
theorem sc_next_by : FnScope N_next_by ps_next_by (defScope st_next_by) := ⟨rfl, rfl, rfl, by decide +kernel, rfl, by decide +kernel, by decide +kernel⟩
theorem ok_next_by (kn : Kn T h mg) (base : Heap) (tz : Tabs T mg base lamz) : ∃ fA fd, FunD T.K "next_by" "next_by" (defArgs st_next_by) (defBody st_next_by) (defScope st_next_by) [] [] fA fd ∧ FnN T mg base 1 "next_by" ps_next_by fA fd den_next_by := by
  obtain ⟨fd, F⟩ := kn.c.def_ 5 (d := dd "next_by" st_next_by []) rfl
  have S := sc_next_by
  refine ⟨_, fd, F, fn_den F S fun cdv A outer s H E dx ow => ?_, He.glo_ok kn.X kn.G (kn.c.fact 5 (f := .glo "next_by") rfl), F.kp⟩
  exact (sb_one (ss_ret (ee_dix dx.ok dx.rm (EE.weak (ee_dc dx.ok dx.rm dx.calm S.nd (EI.weak (ei_v dx.ok (ee_ix dx.ok (EE.weak (ee_ix dx.ok (EE.weak (ee_ix dx.ok (ew_v 0) (EE.weak ee_int))) (ew_v 1))) (EE.weak ee_int)))) [("move", 4)] (by rfl) (fun _ _ _ _ _ => (gt_name 4 S.nd)) (fun _ _ _ _ _ => ets_nil) (fun _ _ _ _ _ => (ee_sl dx.blk.ok (ew_v 4) eo_no (eo_is (EE.weak ee_int)))) (fun _ _ _ _ _ => (ee_ix dx.blk.ok (ew_v 4) (EE.weak ee_int))))) (ee_tup (eas_cons (ee_v 2) (eas_cons (ee_v 3) eas_nil))))))
theorem sc_nexts_by : FnScope N_nexts_by ps_nexts_by (defScope st_nexts_by) := ⟨rfl, rfl, rfl, by decide +kernel, rfl, by decide +kernel, by decide +kernel⟩
theorem ok_nexts_by (kn : Kn T h mg) (base : Heap) (tz : Tabs T mg base lamz) : ∃ fA fd, FunD T.K "nexts_by" "nexts_by" (defArgs st_nexts_by) (defBody st_nexts_by) (defScope st_nexts_by) [] [] fA fd ∧ FnN T mg base 1 "nexts_by" ps_nexts_by fA fd den_nexts_by := by
  obtain ⟨fd, F⟩ := kn.c.def_ 6 (d := dd "nexts_by" st_nexts_by []) rfl
  have S := sc_nexts_by
  refine ⟨_, fd, F, fn_den F S fun cdv A outer s H E dx ow => ?_, He.glo_ok kn.X kn.G (kn.c.fact 6 (f := .glo "nexts_by") rfl), F.kp⟩
  exact (sb_one (ss_ret (ee_dgt dx.ok dx.rm (EE.weak (ee_dc dx.ok dx.rm dx.calm S.nd (EI.weak (ei_v dx.ok (ee_ix dx.ok (EE.weak (ee_ix dx.ok (EE.weak (ee_ix dx.ok (ew_v 0) (EE.weak ee_int))) (ew_v 1))) (EE.weak ee_int)))) [("move", 4)] (by rfl) (fun _ _ _ _ _ => (gt_name 4 S.nd)) (fun _ _ _ _ _ => ets_nil) (fun _ _ _ _ _ => (ee_sl dx.blk.ok (ew_v 4) eo_no (eo_is (EE.weak ee_int)))) (fun _ _ _ _ _ => (ee_ix dx.blk.ok (ew_v 4) (EE.weak ee_int))))) (ee_tup (eas_cons (ee_v 2) (eas_cons (ee_v 3) eas_nil))) (ee_tup eas_nil))))
theorem sc_signs_at : FnScope N_signs_at ps_signs_at (defScope st_signs_at) := ⟨rfl, rfl, rfl, by decide +kernel, rfl, by decide +kernel, by decide +kernel⟩
theorem ok_signs_at (kn : Kn T h mg) (base : Heap) (tz : Tabs T mg base lamz) : ∃ fA fd, FunD T.K "signs_at" "signs_at" (defArgs st_signs_at) (defBody st_signs_at) (defScope st_signs_at) [] [] fA fd ∧ FnN T mg base 1 "signs_at" ps_signs_at fA fd den_signs_at := by
  obtain ⟨fd, F⟩ := kn.c.def_ 7 (d := dd "signs_at" st_signs_at []) rfl
  have S := sc_signs_at
  refine ⟨_, fd, F, fn_den F S fun cdv A outer s H E dx ow => ?_, He.glo_ok kn.X kn.G (kn.c.fact 7 (f := .glo "signs_at") rfl), F.kp⟩
  exact (sb_cons (ss_set 3 S.nd (ee_ix dx.ok (EE.weak (ee_ix dx.ok (EE.weak (ee_ix dx.ok (ew_v 1) (EE.weak ee_int))) (EE.weak (ee_ix dx.ok (ew_v 2) (EE.weak ee_int))))) (EE.weak ee_int)))
  (sb_one (ss_ret (EF.val (ef_lc2 dx.calm S.nd (EI.weak (ei_v dx.ok (ee_ix dx.ok (EE.weak (ee_ix dx.ok (EE.weak (ee_ix dx.ok (ew_v 0) (EE.weak ee_int))) (EE.weak (ee_ix dx.ok (ew_v 2) (EE.weak ee_int))))) (EE.weak ee_int)))) [("given", 4), ("taken", 5)] [5] (by rfl) (fun _ _ _ _ _ => (gt_name 4 S.nd)) (fun _ _ _ _ _ => ets_nil) (fun _ _ _ _ _ => (ei_v dx.blk.ok (ee_v 3))) (fun _ _ _ _ _ => (gt_name 5 S.nd)) (fun _ _ _ _ _ => ets_nil) (fun _ _ _ _ _ => (ee_tup (eas_cons (ee_v 4) (eas_cons (ee_v 5) eas_nil)))))))))
theorem sc_reason_at : FnScope N_reason_at ps_reason_at (defScope st_reason_at) := ⟨rfl, rfl, rfl, by decide +kernel, rfl, by decide +kernel, by decide +kernel⟩
theorem ok_reason_at (kn : Kn T h mg) (base : Heap) (tz : Tabs T mg base lamz) : ∃ fA fd, FunD T.K "reason_at" "reason_at" (defArgs st_reason_at) (defBody st_reason_at) (defScope st_reason_at) [] [] fA fd ∧ FnN T mg base 2 "reason_at" ps_reason_at fA fd den_reason_at := by
  obtain ⟨fA_signs_at, fd_signs_at, D_signs_at, F_signs_at⟩ := ok_signs_at kn base tz
  have bd_signs_at_3 := bd_plain (ps := ps_signs_at) D_signs_at 3 [] [0, 1, 2] rfl rfl (fun _ _ _ _ _ _ us ws hu hw => match us, ws, hu, hw with | [_, _, _], [], _, _ => rfl)
  obtain ⟨fd, F⟩ := kn.c.def_ 8 (d := dd "reason_at" st_reason_at []) rfl
  have S := sc_reason_at
  refine ⟨_, fd, F, fn_den F S fun cdv A outer s H E dx ow => ?_, He.glo_ok kn.X kn.G (kn.c.fact 8 (f := .glo "reason_at") rfl), F.kp⟩
  exact (sb_cons (ss_asg (ee_ix dx.ok (EE.weak (ee_ix dx.ok (ew_v 1) (EE.weak ee_int))) (EE.weak (ee_ix dx.ok (ew_v 3) (EE.weak ee_int)))) (gt_tup dx.calm dx.ok.K (gts_cons (gt_name 4 S.nd) (gts_cons (gt_name 5 S.nd) (gts_cons (gt_name 6 S.nd) (gts_cons (gt_name 7 S.nd) gts_nil))))))
  (sb_cons (ss_if (eb_cmp (od_in2 dx.ok dx.rm) (EE.weak ee_str) (ew_v 6))
  (sb_one (ss_ret ee_str))
  sb_nil)
  (sb_cons (ss_if (eb_cmp (od_notIn2 dx.ok dx.rm) (ew_v 4) (EE.weak (ee_ix dx.ok (EE.weak (ee_ix dx.ok (EE.weak (ee_ix dx.ok (ew_v 0) (EE.weak ee_int))) (EE.weak (ee_ix dx.ok (ew_v 3) (EE.weak ee_int))))) (EE.weak ee_int))))
  (sb_one (ss_ret ee_str))
  sb_nil)
  (sb_cons (ss_if (eb_cmp (od_notIn2 dx.ok dx.rm) (ew_v 5) (EE.weak (ee_ix dx.ok (EE.weak (ee_ix dx.ok (EE.weak (ee_ix dx.ok (ew_v 2) (EE.weak ee_int))) (EE.weak (ee_ix dx.ok (ew_v 3) (EE.weak ee_int))))) (EE.weak ee_int))))
  (sb_one (ss_ret ee_str))
  sb_nil)
  (sb_cons (ss_set 8 S.nd (ee_sc dx.ok dx.rm dx.calm S.nd (EI.weak (ei_v dx.ok (ee_v 7))) [("move", 9)] (by rfl) (fun _ _ _ _ _ => (gt_name 9 S.nd)) (fun _ _ _ _ _ => ets_nil) (fun _ _ _ _ _ => (ee_sl dx.blk.ok (ew_v 9) eo_no (eo_is (EE.weak ee_int))))))
  (sb_cons (ss_if (eb_cmp (od_neF dx.ok dx.rm) (EE.weak (EF.val (ef_lc dx.calm S.nd (EI.weak (ei_v dx.ok (ee_call (F_signs_at.mono (by decide)) dx bd_signs_at_3 (by rfl) (eas_cons (ee_v 0) (eas_cons (ee_v 2) (eas_cons (ee_v 3) eas_nil)))))) [("pair", 10)] (by rfl) (fun _ _ _ _ _ => (gt_name 10 S.nd)) (fun _ _ _ _ _ => (pts_one (eb_cmp (od_notIn2 dx.blk.ok dx.blk.rm) (ew_v 10) (ew_v 8)))) (fun _ _ _ _ _ => (ee_v 10))))) (EE.weak (ee_lst eas_nil)))
  (sb_one (ss_ret ee_str))
  sb_nil)
  (sb_one (ss_ret ee_non))))))))
theorem sc_ticks_at : FnScope N_ticks_at ps_ticks_at (defScope st_ticks_at) := ⟨rfl, rfl, rfl, by decide +kernel, rfl, by decide +kernel, by decide +kernel⟩
theorem ok_ticks_at (kn : Kn T h mg) (base : Heap) (tz : Tabs T mg base lamz) : ∃ fA fd, FunD T.K "ticks_at" "ticks_at" (defArgs st_ticks_at) (defBody st_ticks_at) (defScope st_ticks_at) [] [] fA fd ∧ FnN T mg base 3 "ticks_at" ps_ticks_at fA fd den_ticks_at := by
  obtain ⟨fA_signs_at, fd_signs_at, D_signs_at, F_signs_at⟩ := ok_signs_at kn base tz
  obtain ⟨fA_reason_at, fd_reason_at, D_reason_at, F_reason_at⟩ := ok_reason_at kn base tz
  obtain ⟨fA_next_by, fd_next_by, D_next_by, F_next_by⟩ := ok_next_by kn base tz
  obtain ⟨fA_nexts_by, fd_nexts_by, D_nexts_by, F_nexts_by⟩ := ok_nexts_by kn base tz
  have bd_reason_at_4 := bd_plain (ps := ps_reason_at) D_reason_at 4 [] [0, 1, 2, 3] rfl rfl (fun _ _ _ _ _ _ us ws hu hw => match us, ws, hu, hw with | [_, _, _, _], [], _, _ => rfl)
  have bd_signs_at_3 := bd_plain (ps := ps_signs_at) D_signs_at 3 [] [0, 1, 2] rfl rfl (fun _ _ _ _ _ _ us ws hu hw => match us, ws, hu, hw with | [_, _, _], [], _, _ => rfl)
  have bd_next_by_4 := bd_plain (ps := ps_next_by) D_next_by 4 [] [0, 1, 2, 3] rfl rfl (fun _ _ _ _ _ _ us ws hu hw => match us, ws, hu, hw with | [_, _, _, _], [], _, _ => rfl)
  have bd_nexts_by_4 := bd_plain (ps := ps_nexts_by) D_nexts_by 4 [] [0, 1, 2, 3] rfl rfl (fun _ _ _ _ _ _ us ws hu hw => match us, ws, hu, hw with | [_, _, _, _], [], _, _ => rfl)
  obtain ⟨fd, F⟩ := kn.c.def_ 9 (d := dd "ticks_at" st_ticks_at []) rfl
  have S := sc_ticks_at
  refine ⟨_, fd, F, fn_den F S fun cdv A outer s H E dx ow => ?_, He.glo_ok kn.X kn.G (kn.c.fact 9 (f := .glo "ticks_at") rfl), F.kp⟩
  exact (sb_cons (ss_if (eb_cmp (od_isNot2) (EE.weak (ee_call (F_reason_at.mono (by decide)) dx bd_reason_at_4 (by rfl) (eas_cons (ee_v 0) (eas_cons (ee_v 1) (eas_cons (ee_v 2) (eas_cons (ee_v 3) eas_nil)))))) (EE.weak ee_non))
  (sb_one (ss_ret (ee_lst eas_nil)))
  sb_nil)
  (sb_cons (ss_asg (ee_v 3) (gt_tup dx.calm dx.ok.K (gts_cons (gt_name 4 S.nd) (gts_cons (gt_name 5 S.nd) (gts_cons (gt_name 6 S.nd) gts_nil)))))
  (sb_cons (ss_asg (ee_ix dx.ok (EE.weak (ee_ix dx.ok (ew_v 1) (EE.weak ee_int))) (ew_v 5)) (gt_star dx.calm dx.ok.K (gts_cons (gt_name 7 S.nd) (gts_cons (gt_name 8 S.nd) (gts_star (gt_name 9 S.nd) gts_nil)))))
  (sb_cons (ss_own 10 S.nd (ef_lst eas_nil))
  (sb_cons (ss_for ow dx.calm (ei_v dx.ok (ee_call (F_signs_at.mono (by decide)) dx bd_signs_at_3 (by rfl) (eas_cons (ee_v 0) (eas_cons (ee_v 2) (eas_cons (ee_v 3) eas_nil))))) (gt_tup dx.calm dx.ok.K (gts_cons (gt_name 11 S.nd) (gts_cons (gt_name 12 S.nd) gts_nil)))
  (sb_cons (ss_asg (ee_tup (eas_cons (ee_call (F_next_by.mono (by decide)) dx bd_next_by_4 (by rfl) (eas_cons (ee_v 0) (eas_cons (ee_v 4) (eas_cons (ee_v 11) (eas_cons (ee_v 7) eas_nil))))) (eas_cons (ee_call (F_next_by.mono (by decide)) dx bd_next_by_4 (by rfl) (eas_cons (ee_v 2) (eas_cons (ee_v 6) (eas_cons (ee_v 8) (eas_cons (ee_v 12) eas_nil))))) eas_nil))) (gt_tup dx.calm dx.ok.K (gts_cons (gt_name 13 S.nd) (gts_cons (gt_name 14 S.nd) gts_nil))))
  (sb_one (ss_extend 10 dx.ok (EF.val (ef_lc dx.calm S.nd (EI.weak (ei_v dx.ok (ee_call (F_nexts_by.mono (by decide)) dx bd_nexts_by_4 (by rfl) (eas_cons (ee_v 1) (eas_cons (ee_v 5) (eas_cons (ee_v 11) (eas_cons (ee_v 12) eas_nil))))))) [("own", 15)] (by rfl) (fun _ _ _ _ _ => (gt_name 15 S.nd)) (fun _ _ _ _ _ => ets_nil) (fun _ _ _ _ _ => (ee_tup (eas_cons (ee_v 11) (eas_cons (ee_v 12) (eas_cons (ee_tup (eas_cons (ee_v 13) (eas_cons (ee_v 15) (eas_cons (ee_v 14) eas_nil)))) eas_nil)))))))))))
  (sb_one (ss_frz 10 (ss_ret (ee_v 10)))))))))
theorem sc_is_same_place : FnScope N_is_same_place ps_is_same_place (defScope st_is_same_place) := ⟨rfl, rfl, rfl, by decide +kernel, rfl, by decide +kernel, by decide +kernel⟩
theorem ok_is_same_place (kn : Kn T h mg) (base : Heap) (tz : Tabs T mg base lamz) : ∃ fA fd, FunD T.K "is_same_place" "is_same_place" (defArgs st_is_same_place) (defBody st_is_same_place) (defScope st_is_same_place) [] [] fA fd ∧ FnN T mg base 1 "is_same_place" ps_is_same_place fA fd den_is_same_place := by
  have b_bool := b_bool_of kn
  have b_isinstance := b_isinstance_of kn
  have b_len := b_len_of kn
  have b_tuple := b_tuple_of kn
  obtain ⟨fd, F⟩ := kn.c.def_ 10 (d := dd "is_same_place" st_is_same_place []) rfl
  have S := sc_is_same_place
  refine ⟨_, fd, F, fn_den F S fun cdv A outer s H E dx ow => ?_, He.glo_ok kn.X kn.G (kn.c.fact 10 (f := .glo "is_same_place") rfl), F.kp⟩
  exact (sb_cons (ss_if (eb_p (ep_or (eb_not (eb_tr dx.ok (EE.weak (ee_isi dx.ok .tuple (ew_v 1) (by rfl) b_isinstance (by rfl) b_tuple rfl)))) (ep_or1 (eb_cmp (od_neF dx.ok dx.rm) (EE.weak (ee_call1 (ud_len dx.ok) (ew_v 1) (by rfl) b_len rfl)) (EE.weak ee_int)))))
  (sb_one (ss_ret ee_bl))
  sb_nil)
  (sb_one (ss_ret (ee_and dx.ok (ee_cmp (od_eqF dx.ok dx.rm) (ew_v 1) (ew_v 0)) (ee_one (ee_cmp (od_notIn2 dx.ok dx.rm) (EE.weak ee_bl) (EE.weak (EF.val (ef_lc dx.calm S.nd (EI.weak (ei_v dx.ok (ee_v 1))) [("one", 2)] (by rfl) (fun _ _ _ _ _ => (gt_name 2 S.nd)) (fun _ _ _ _ _ => ets_nil) (fun _ _ _ _ _ => (ee_isi dx.blk.ok .bool (ew_v 2) (by rfl) b_isinstance (by rfl) b_bool rfl)))))))))))
theorem sc_is_same_tick : FnScope N_is_same_tick ps_is_same_tick (defScope st_is_same_tick) := ⟨rfl, rfl, rfl, by decide +kernel, rfl, by decide +kernel, by decide +kernel⟩
theorem ok_is_same_tick (kn : Kn T h mg) (base : Heap) (tz : Tabs T mg base lamz) : ∃ fA fd, FunD T.K "is_same_tick" "is_same_tick" (defArgs st_is_same_tick) (defBody st_is_same_tick) (defScope st_is_same_tick) [] [] fA fd ∧ FnN T mg base 2 "is_same_tick" ps_is_same_tick fA fd den_is_same_tick := by
  have b_isinstance := b_isinstance_of kn
  have b_len := b_len_of kn
  have b_tuple := b_tuple_of kn
  obtain ⟨fA_is_same_place, fd_is_same_place, D_is_same_place, F_is_same_place⟩ := ok_is_same_place kn base tz
  have bd_is_same_place_2 := bd_plain (ps := ps_is_same_place) D_is_same_place 2 [] [0, 1] rfl rfl (fun _ _ _ _ _ _ us ws hu hw => match us, ws, hu, hw with | [_, _], [], _, _ => rfl)
  obtain ⟨fd, F⟩ := kn.c.def_ 11 (d := dd "is_same_tick" st_is_same_tick []) rfl
  have S := sc_is_same_tick
  refine ⟨_, fd, F, fn_den F S fun cdv A outer s H E dx ow => ?_, He.glo_ok kn.X kn.G (kn.c.fact 11 (f := .glo "is_same_tick") rfl), F.kp⟩
  exact (sb_one (ss_ret (ee_and dx.ok (ee_isi dx.ok .tuple (ew_v 1) (by rfl) b_isinstance (by rfl) b_tuple rfl) (ee_and dx.ok (ee_cmp (od_eqF dx.ok dx.rm) (EE.weak (ee_call1 (ud_len dx.ok) (ew_v 1) (by rfl) b_len rfl)) (EE.weak ee_int)) (ee_and dx.ok (ee_cmp (od_eqF dx.ok dx.rm) (EE.weak (ee_sl dx.ok (ew_v 1) eo_no (eo_is (EE.weak ee_int)))) (EE.weak (ee_sl dx.ok (ew_v 0) eo_no (eo_is (EE.weak ee_int))))) (ee_one (ee_call (F_is_same_place.mono (by decide)) dx bd_is_same_place_2 (by rfl) (eas_cons (ee_ix dx.ok (ew_v 0) (EE.weak ee_int)) (eas_cons (ee_ix dx.ok (ew_v 1) (EE.weak ee_int)) eas_nil)))))))))
theorem sc_run_fault : FnScope N_run_fault ps_run_fault (defScope st_run_fault) := ⟨rfl, rfl, rfl, by decide +kernel, rfl, by decide +kernel, by decide +kernel⟩
theorem ok_run_fault (kn : Kn T h mg) (base : Heap) (tz : Tabs T mg base lamz) : ∃ fA fd, FunD T.K "run_fault" "run_fault" (defArgs st_run_fault) (defBody st_run_fault) (defScope st_run_fault) [] [] fA fd ∧ FnN T mg base 4 "run_fault" ps_run_fault fA fd den_run_fault := by
  have b_enumerate := b_enumerate_of kn
  have b_isinstance := b_isinstance_of kn
  have b_len := b_len_of kn
  have b_tuple := b_tuple_of kn
  obtain ⟨fA_starts_of, fd_starts_of, D_starts_of, F_starts_of⟩ := ok_starts_of kn base tz
  obtain ⟨fA_is_same_place, fd_is_same_place, D_is_same_place, F_is_same_place⟩ := ok_is_same_place kn base tz
  obtain ⟨fA_ticks_at, fd_ticks_at, D_ticks_at, F_ticks_at⟩ := ok_ticks_at kn base tz
  obtain ⟨fA_is_same_tick, fd_is_same_tick, D_is_same_tick, F_is_same_tick⟩ := ok_is_same_tick kn base tz
  have bd_starts_of_1 := bd_plain (ps := ps_starts_of) D_starts_of 1 [] [0] rfl rfl (fun _ _ _ _ _ _ us ws hu hw => match us, ws, hu, hw with | [_], [], _, _ => rfl)
  have bd_is_same_place_2 := bd_plain (ps := ps_is_same_place) D_is_same_place 2 [] [0, 1] rfl rfl (fun _ _ _ _ _ _ us ws hu hw => match us, ws, hu, hw with | [_, _], [], _, _ => rfl)
  have bd_ticks_at_4 := bd_plain (ps := ps_ticks_at) D_ticks_at 4 [] [0, 1, 2, 3] rfl rfl (fun _ _ _ _ _ _ us ws hu hw => match us, ws, hu, hw with | [_, _, _, _], [], _, _ => rfl)
  have bd_is_same_tick_2 := bd_plain (ps := ps_is_same_tick) D_is_same_tick 2 [] [0, 1] rfl rfl (fun _ _ _ _ _ _ us ws hu hw => match us, ws, hu, hw with | [_, _], [], _, _ => rfl)
  obtain ⟨fd, F⟩ := kn.c.def_ 12 (d := dd "run_fault" st_run_fault []) rfl
  have S := sc_run_fault
  refine ⟨_, fd, F, fn_den F S fun cdv A outer s H E dx ow => ?_, He.glo_ok kn.X kn.G (kn.c.fact 12 (f := .glo "run_fault") rfl), F.kp⟩
  exact (sb_cons (ss_if (eb_p (ep_or (eb_not (eb_tr dx.ok (EE.weak (ee_isi dx.ok .tuple (ew_v 3) (by rfl) b_isinstance (by rfl) b_tuple rfl)))) (ep_or (eb_cmp (od_neF dx.ok dx.rm) (EE.weak (ee_call1 (ud_len dx.ok) (ew_v 3) (by rfl) b_len rfl)) (EE.weak ee_int)) (ep_or1 (eb_not (eb_tr dx.ok (EE.weak (ee_isi dx.ok .tuple (EE.weak (ee_ix dx.ok (ew_v 3) (EE.weak ee_int))) (by rfl) b_isinstance (by rfl) b_tuple rfl))))))))
  (sb_one (ss_ret (ee_tup (eas_cons ee_str (eas_cons (ee_un ud_neg (EE.weak ee_int)) eas_nil)))))
  sb_nil)
  (sb_cons (ss_fzz 4 (ss_lc 4 dx.calm S.nd (EI.weak (ei_v dx.ok (ee_call (F_starts_of.mono (by decide)) dx bd_starts_of_1 (by rfl) (eas_cons (ee_v 1) eas_nil)))) [("spot", 5)] (by rfl) (fun _ _ _ _ _ => (gt_name 5 S.nd)) (fun _ _ _ _ _ => (pts_one (eb_tr dx.blk.ok (EE.weak (ee_call (F_is_same_place.mono (by decide)) dx.blk bd_is_same_place_2 (by rfl) (eas_cons (ee_v 5) (eas_cons (ee_ix dx.blk.ok (ew_v 3) (EE.weak ee_int)) eas_nil))))))) (fun _ _ _ _ _ => (ee_v 5))))
  (sb_cons (ss_if (eb_cmp (od_eqF dx.ok dx.rm) (ew_v 4) (EE.weak (ee_lst eas_nil)))
  (sb_one (ss_ret (ee_tup (eas_cons ee_str (eas_cons (ee_un ud_neg (EE.weak ee_int)) eas_nil)))))
  sb_nil)
  (sb_cons (ss_set 5 S.nd (ee_ix dx.ok (ew_v 4) (EE.weak ee_int)))
  (sb_cons (ss_for ow dx.calm (ei_en dx.ok rfl b_enumerate (ee_ix dx.ok (ew_v 3) (EE.weak ee_int))) (gt_tup dx.calm dx.ok.K (gts_cons (gt_name 6 S.nd) (gts_cons (gt_name 7 S.nd) gts_nil)))
  (sb_cons (ss_fzz 8 (ss_lc 8 dx.calm S.nd (EI.weak (ei_v dx.ok (ee_call (F_ticks_at.mono (by decide)) dx bd_ticks_at_4 (by rfl) (eas_cons (ee_v 0) (eas_cons (ee_v 1) (eas_cons (ee_v 2) (eas_cons (ee_v 5) eas_nil))))))) [("own", 9)] (by rfl) (fun _ _ _ _ _ => (gt_name 9 S.nd)) (fun _ _ _ _ _ => (pts_one (eb_tr dx.blk.ok (EE.weak (ee_call (F_is_same_tick.mono (by decide)) dx.blk bd_is_same_tick_2 (by rfl) (eas_cons (ee_v 9) (eas_cons (ee_v 7) eas_nil))))))) (fun _ _ _ _ _ => (ee_v 9))))
  (sb_cons (ss_if (eb_cmp (od_eqF dx.ok dx.rm) (ew_v 8) (EE.weak (ee_lst eas_nil)))
  (sb_one (ss_ret (ee_tup (eas_cons ee_str (eas_cons (ee_v 6) eas_nil)))))
  sb_nil)
  (sb_one (ss_set 5 S.nd (ee_ix dx.ok (EE.weak (ee_ix dx.ok (ew_v 8) (EE.weak ee_int))) (EE.weak ee_int)))))))
  (sb_one (ss_ret ee_non)))))))
theorem sc_is_one_of : FnScope N_is_one_of ps_is_one_of (defScope st_is_one_of) := ⟨rfl, rfl, rfl, by decide +kernel, rfl, by decide +kernel, by decide +kernel⟩
theorem ok_is_one_of (kn : Kn T h mg) (base : Heap) (tz : Tabs T mg base lamz) : ∃ fA fd, FunD T.K "is_one_of" "is_one_of" (defArgs st_is_one_of) (defBody st_is_one_of) (defScope st_is_one_of) [] [] fA fd ∧ FnN T mg base 1 "is_one_of" ps_is_one_of fA fd den_is_one_of := by
  have b_isinstance := b_isinstance_of kn
  have b_str := b_str_of kn
  obtain ⟨fd, F⟩ := kn.c.def_ 13 (d := dd "is_one_of" st_is_one_of []) rfl
  have S := sc_is_one_of
  refine ⟨_, fd, F, fn_den F S fun cdv A outer s H E dx ow => ?_, He.glo_ok kn.X kn.G (kn.c.fact 13 (f := .glo "is_one_of") rfl), F.kp⟩
  exact (sb_one (ss_ret (ee_and dx.ok (ee_isi dx.ok .str (ew_v 0) (by rfl) b_isinstance (by rfl) b_str rfl) (ee_one (ee_cmp (od_in2 dx.ok dx.rm) (ew_v 0) (ew_v 1))))))
theorem sc_is_triple : FnScope N_is_triple ps_is_triple (defScope st_is_triple) := ⟨rfl, rfl, rfl, by decide +kernel, rfl, by decide +kernel, by decide +kernel⟩
theorem ok_is_triple (kn : Kn T h mg) (base : Heap) (tz : Tabs T mg base lamz) : ∃ fA fd, FunD T.K "is_triple" "is_triple" (defArgs st_is_triple) (defBody st_is_triple) (defScope st_is_triple) [] [] fA fd ∧ FnN T mg base 1 "is_triple" ps_is_triple fA fd den_is_triple := by
  have b_isinstance := b_isinstance_of kn
  have b_len := b_len_of kn
  have b_tuple := b_tuple_of kn
  obtain ⟨fd, F⟩ := kn.c.def_ 14 (d := dd "is_triple" st_is_triple []) rfl
  have S := sc_is_triple
  refine ⟨_, fd, F, fn_den F S fun cdv A outer s H E dx ow => ?_, He.glo_ok kn.X kn.G (kn.c.fact 14 (f := .glo "is_triple") rfl), F.kp⟩
  exact (sb_one (ss_ret (ee_and dx.ok (ee_isi dx.ok .tuple (ew_v 0) (by rfl) b_isinstance (by rfl) b_tuple rfl) (ee_one (ee_cmp (od_eqF dx.ok dx.rm) (EE.weak (ee_call1 (ud_len dx.ok) (ew_v 0) (by rfl) b_len rfl)) (EE.weak ee_int))))))
theorem sc_tick_by : FnScope N_tick_by ps_tick_by (defScope st_tick_by) := ⟨rfl, rfl, rfl, by decide +kernel, rfl, by decide +kernel, by decide +kernel⟩
theorem ok_tick_by (kn : Kn T h mg) (base : Heap) (tz : Tabs T mg base lamz) : ∃ fA fd, FunD T.K "tick_by" "tick_by" (defArgs st_tick_by) (defBody st_tick_by) (defScope st_tick_by) [] [] fA fd ∧ FnN T mg base 4 "tick_by" ps_tick_by fA fd den_tick_by := by
  have b_super := b_super_of kn
  have g_NotRight := g_NotRight_of kn
  obtain ⟨fA_want, fd_want, D_want, F_want⟩ := ok_want kn base tz
  obtain ⟨fA_is_one_of, fd_is_one_of, D_is_one_of, F_is_one_of⟩ := ok_is_one_of kn base tz
  obtain ⟨fA_reason_at, fd_reason_at, D_reason_at, F_reason_at⟩ := ok_reason_at kn base tz
  obtain ⟨fA_is_number, fd_is_number, D_is_number, F_is_number⟩ := ok_is_number kn base tz
  obtain ⟨fA_nexts_by, fd_nexts_by, D_nexts_by, F_nexts_by⟩ := ok_nexts_by kn base tz
  obtain ⟨fA_ticks_at, fd_ticks_at, D_ticks_at, F_ticks_at⟩ := ok_ticks_at kn base tz
  have bd_want_2 := bd_dfl (ps := ps_want) D_want [.int (-1)] rfl (by simp) 2 [] [0, 1, 2] rfl rfl (fun _ _ _ _ _ _ _ us ws its hu hw hi => match us, ws, its, hu, hw, hi with | [_, _], [], [_], _, _, _ => ⟨_, rfl, rfl⟩)
  have bd_is_one_of_2 := bd_plain (ps := ps_is_one_of) D_is_one_of 2 [] [0, 1] rfl rfl (fun _ _ _ _ _ _ us ws hu hw => match us, ws, hu, hw with | [_, _], [], _, _ => rfl)
  have bd_reason_at_4 := bd_plain (ps := ps_reason_at) D_reason_at 4 [] [0, 1, 2, 3] rfl rfl (fun _ _ _ _ _ _ us ws hu hw => match us, ws, hu, hw with | [_, _, _, _], [], _, _ => rfl)
  have bd_is_number_1 := bd_plain (ps := ps_is_number) D_is_number 1 [] [0] rfl rfl (fun _ _ _ _ _ _ us ws hu hw => match us, ws, hu, hw with | [_], [], _, _ => rfl)
  have bd_nexts_by_4 := bd_plain (ps := ps_nexts_by) D_nexts_by 4 [] [0, 1, 2, 3] rfl rfl (fun _ _ _ _ _ _ us ws hu hw => match us, ws, hu, hw with | [_, _, _, _], [], _, _ => rfl)
  have bd_ticks_at_4 := bd_plain (ps := ps_ticks_at) D_ticks_at 4 [] [0, 1, 2, 3] rfl rfl (fun _ _ _ _ _ _ us ws hu hw => match us, ws, hu, hw with | [_, _, _, _], [], _, _ => rfl)
  obtain ⟨fd, F⟩ := kn.c.def_ 15 (d := dd "tick_by" st_tick_by []) rfl
  have S := sc_tick_by
  refine ⟨_, fd, F, fn_den F S fun cdv A outer s H E dx ow => ?_, He.glo_ok kn.X kn.G (kn.c.fact 15 (f := .glo "tick_by") rfl), F.kp⟩
  exact (sb_cons (ss_asg (ee_v 0) (gt_tup dx.calm dx.ok.K (gts_cons (gt_name 5 S.nd) (gts_cons (gt_name 6 S.nd) (gts_cons (gt_name 7 S.nd) gts_nil)))))
  (sb_cons (ss_expr (EE.weak (ee_call (F_want.mono (by decide)) dx bd_want_2 (by rfl) (eas_cons (ee_call (F_is_one_of.mono (by decide)) dx bd_is_one_of_2 (by rfl) (eas_cons (ee_v 2) (eas_cons (ee_ix dx.ok (EE.weak (ee_ix dx.ok (EE.weak (ee_ix dx.ok (ew_v 5) (EE.weak ee_int))) (EE.weak (ee_ix dx.ok (ew_v 1) (EE.weak ee_int))))) (EE.weak ee_int)) eas_nil))) (eas_cons ee_str eas_nil)))))
  (sb_cons (ss_expr (EE.weak (ee_call (F_want.mono (by decide)) dx bd_want_2 (by rfl) (eas_cons (ee_call (F_is_one_of.mono (by decide)) dx bd_is_one_of_2 (by rfl) (eas_cons (ee_v 3) (eas_cons (ee_ix dx.ok (EE.weak (ee_ix dx.ok (EE.weak (ee_ix dx.ok (ew_v 7) (EE.weak ee_int))) (EE.weak (ee_ix dx.ok (ew_v 1) (EE.weak ee_int))))) (EE.weak ee_int)) eas_nil))) (eas_cons ee_str eas_nil)))))
  (sb_cons (ss_if (eb_cmp (od_isNot2) (EE.weak (ee_call (F_reason_at.mono (by decide)) dx bd_reason_at_4 (by rfl) (eas_cons (ee_v 5) (eas_cons (ee_v 6) (eas_cons (ee_v 7) (eas_cons (ee_v 1) eas_nil)))))) (EE.weak ee_non))
  (sb_one (ss_raise (ec_NotRight kn) (ct_NotRight kn) (cf_NotRight kn) rfl b_super (dx.room.mono (by decide)) dx.calm dx.tk rfl g_NotRight (eas_cons (ee_v 1) eas_nil)))
  sb_nil)
  (sb_cons (ss_expr (EE.weak (ee_call (F_want.mono (by decide)) dx bd_want_2 (by rfl) (eas_cons (ee_and dx.ok (ee_call (F_is_number.mono (by decide)) dx bd_is_number_1 (by rfl) (eas_cons (ee_v 4) eas_nil)) (ee_one (ee_cmp (od_in2 dx.ok dx.rm) (ew_v 4) (EE.weak (ee_call (F_nexts_by.mono (by decide)) dx bd_nexts_by_4 (by rfl) (eas_cons (ee_v 6) (eas_cons (ee_ix dx.ok (ew_v 1) (EE.weak ee_int)) (eas_cons (ee_v 2) (eas_cons (ee_v 3) eas_nil))))))))) (eas_cons ee_str eas_nil)))))
  (sb_one (ss_ret (ee_ix dx.ok (EE.weak (EF.val (ef_lc dx.calm S.nd (EI.weak (ei_v dx.ok (ee_call (F_ticks_at.mono (by decide)) dx bd_ticks_at_4 (by rfl) (eas_cons (ee_v 5) (eas_cons (ee_v 6) (eas_cons (ee_v 7) (eas_cons (ee_v 1) eas_nil))))))) [("tick", 8)] (by rfl) (fun _ _ _ _ _ => (gt_name 8 S.nd)) (fun _ _ _ _ _ => (pts_one (eb_p (ep_and (eb_cmp (od_eqF dx.blk.ok dx.blk.rm) (EE.weak (ee_sl dx.blk.ok (ew_v 8) eo_no (eo_is (EE.weak ee_int)))) (EE.weak (ee_tup (eas_cons (ee_v 2) (eas_cons (ee_v 3) eas_nil))))) (ep_and1 (eb_cmp (od_eqF dx.blk.ok dx.blk.rm) (EE.weak (ee_ix dx.blk.ok (EE.weak (ee_ix dx.blk.ok (ew_v 8) (EE.weak ee_int))) (EE.weak ee_int))) (ew_v 4))))))) (fun _ _ _ _ _ => (ee_v 8))))) (EE.weak ee_int)))))))))
theorem sc__law_feed : FnScope N__law_feed ps__law_feed (defScope st__law_feed) := ⟨rfl, rfl, rfl, by decide +kernel, rfl, by decide +kernel, by decide +kernel⟩
theorem ok__law_feed (kn : Kn T h mg) (base : Heap) (tz : Tabs T mg base lamz) : ∃ fA fd, FunD T.K "_law_feed" "_law_feed" (defArgs st__law_feed) (defBody st__law_feed) (defScope st__law_feed) [] [] fA fd ∧ FnN T mg base 1 "_law_feed" ps__law_feed fA fd den__law_feed := by
  have b_list := b_list_of kn
  obtain ⟨fd, F⟩ := kn.c.def_ 16 (d := dd "_law_feed" st__law_feed []) rfl
  have S := sc__law_feed
  refine ⟨_, fd, F, fn_den F S fun cdv A outer s H E dx ow => ?_, He.glo_ok kn.X kn.G (kn.c.fact 16 (f := .glo "_law_feed") rfl), F.kp⟩
  exact (sb_one (ss_ret (ee_cell (eps_cons (ee_callT (ud_list dx.ok) (EE.weak (ee_sl dx.ok (ew_v 0) eo_no (eo_is (EE.weak ee_int)))) (by rfl) b_list rfl) (eps_cons ee_int (eps_cons ee_int (eps_cons ee_int eps_nil)))))))
theorem sc__law_draw : FnScope N__law_draw ps__law_draw (defScope st__law_draw) := ⟨rfl, rfl, rfl, by decide +kernel, rfl, by decide +kernel, by decide +kernel⟩
theorem ok__law_draw (kn : Kn T h mg) (base : Heap) (tz : Tabs T mg base lamz) : ∃ fA fd, FunD T.K "_law_draw" "_law_draw" (defArgs st__law_draw) (defBody st__law_draw) (defScope st__law_draw) [] [] fA fd ∧ FnN T mg base 1 "_law_draw" ps__law_draw fA fd den__law_draw := by
  have b_int := b_int_of kn
  have b_len := b_len_of kn
  obtain ⟨fd, F⟩ := kn.c.def_ 17 (d := dd "_law_draw" st__law_draw []) rfl
  have S := sc__law_draw
  refine ⟨_, fd, F, fn_den F S fun cdv A outer s H E dx ow => ?_, He.glo_ok kn.X kn.G (kn.c.fact 17 (f := .glo "_law_draw") rfl), F.kp⟩
  exact (sb_cons (ss_cset dx.rm (ew_v 0) (ee_bin (od_add dx.ok) (EE.weak (ee_cget dx.rm (ew_v 0))) (EE.weak ee_int)))
  (sb_cons (ss_if (eb_cmp (od_gt dx.ok dx.rm) (EE.weak (ee_cget dx.rm (ew_v 0))) (EE.weak ee_int))
  (sb_cons (ss_set 2 S.nd (ee_bin (od_mod) (EE.weak (ee_callT (ud_int) (EE.weak (ee_cget dx.rm (ew_v 0))) (by rfl) b_int rfl)) (ew_v 1)))
  (sb_cons (ss_cset dx.rm (ew_v 0) (ee_bin (od_div) (EE.weak (ee_cget dx.rm (ew_v 0))) (ew_v 1)))
  (sb_one (ss_ret (ee_v 2)))))
  sb_nil)
  (sb_cons (ss_par2 3 4 dx.calm S.nd (efs_val (ee_cget dx.rm (ew_v 0)) (efs_val (ee_cget dx.rm (ew_v 0)) efs_nil)))
  (sb_cons (ss_cset dx.rm (ew_v 0) (ee_bin (od_add dx.ok) (ew_v 3) (EE.weak ee_int)))
  (sb_cons (ss_set 5 S.nd (ee_if (eb_cmp (od_neF dx.ok dx.rm) (ew_v 4) (EE.weak (ee_lst eas_nil))) (ee_ix dx.ok (ew_v 4) (EE.weak (ee_bin (od_mod) (EE.weak (ee_callT (ud_int) (ew_v 3) (by rfl) b_int rfl)) (EE.weak (ee_call1 (ud_len dx.ok) (ew_v 4) (by rfl) b_len rfl))))) ee_int))
  (sb_cons (ss_if (eb_p (ep_and (eb_cmp (od_ge dx.ok dx.rm) (ew_v 5) (EE.weak (ee_bin (od_pow) (EE.weak ee_int) (EE.weak ee_int)))) (ep_and1 (eb_cmp (od_lt dx.ok dx.rm) (ew_v 3) (EE.weak (ee_call1 (ud_len dx.ok) (ew_v 4) (by rfl) b_len rfl))))))
  (sb_cons (ss_cset dx.rm (ew_v 0) (ee_bin (od_div) (ew_v 5) (ew_v 1)))
  (sb_one (ss_ret (ee_bin (od_mod) (EE.weak (ee_callT (ud_int) (ew_v 5) (by rfl) b_int rfl)) (ew_v 1)))))
  sb_nil)
  (sb_cons (ss_set 6 S.nd (ee_bin (od_mod) (EE.weak (ee_callT (ud_int) (EE.weak (ee_bin (od_add dx.ok) (EE.weak (ee_bin (od_add dx.ok) (EE.weak (ee_bin (od_mod) (EE.weak (ee_callT (ud_int) (ew_v 5) (by rfl) b_int rfl)) (EE.weak ee_int))) (EE.weak (ee_bin (od_mul2 dx.ok) (EE.weak ee_int) (EE.weak (ee_cget dx.rm (ew_v 0))))))) (EE.weak ee_int))) (by rfl) b_int rfl)) (EE.weak ee_int)))
  (sb_cons (ss_set 6 S.nd (ee_bin (od_mod) (EE.weak (ee_callT (ud_int) (EE.weak (ee_bin (od_add dx.ok) (EE.weak (ee_bin (od_add dx.ok) (EE.weak (ee_bin (od_mul2 dx.ok) (ew_v 6) (ew_v 6))) (EE.weak (ee_bin (od_mul2 dx.ok) (EE.weak ee_int) (EE.weak (ee_cget dx.rm (ew_v 0))))))) (EE.weak ee_int))) (by rfl) b_int rfl)) (EE.weak ee_int)))
  (sb_one (ss_ret (ee_bin (od_mod) (EE.weak (ee_callT (ud_int) (EE.weak (ee_bin (od_div) (EE.weak (ee_bin (od_mod) (EE.weak (ee_callT (ud_int) (EE.weak (ee_bin (od_add dx.ok) (EE.weak (ee_bin (od_mul2 dx.ok) (ew_v 6) (ew_v 6))) (EE.weak (ee_bin (od_mul2 dx.ok) (EE.weak ee_int) (ew_v 6))))) (by rfl) b_int rfl)) (EE.weak ee_int))) (EE.weak ee_int))) (by rfl) b_int rfl)) (ew_v 1))))))))))))
theorem sc__law_pick : FnScope N__law_pick ps__law_pick (defScope st__law_pick) := ⟨rfl, rfl, rfl, by decide +kernel, rfl, by decide +kernel, by decide +kernel⟩
theorem ok__law_pick (kn : Kn T h mg) (base : Heap) (tz : Tabs T mg base lamz) : ∃ fA fd, FunD T.K "_law_pick" "_law_pick" (defArgs st__law_pick) (defBody st__law_pick) (defScope st__law_pick) [] [] fA fd ∧ FnN T mg base 2 "_law_pick" ps__law_pick fA fd den__law_pick := by
  have b_len := b_len_of kn
  obtain ⟨fA__law_draw, fd__law_draw, D__law_draw, F__law_draw⟩ := ok__law_draw kn base tz
  have bd__law_draw_2 := bd_plain (ps := ps__law_draw) D__law_draw 2 [] [0, 1] rfl rfl (fun _ _ _ _ _ _ us ws hu hw => match us, ws, hu, hw with | [_, _], [], _, _ => rfl)
  obtain ⟨fd, F⟩ := kn.c.def_ 18 (d := dd "_law_pick" st__law_pick []) rfl
  have S := sc__law_pick
  refine ⟨_, fd, F, fn_den F S fun cdv A outer s H E dx ow => ?_, He.glo_ok kn.X kn.G (kn.c.fact 18 (f := .glo "_law_pick") rfl), F.kp⟩
  exact (sb_one (ss_ret (ee_ix dx.ok (ew_v 1) (EE.weak (ee_call (F__law_draw.mono (by decide)) dx bd__law_draw_2 (by rfl) (eas_cons (ee_v 0) (eas_cons (ee_call1 (ud_len dx.ok) (ew_v 1) (by rfl) b_len rfl) eas_nil)))))))
theorem sc__law_hears : FnScope N__law_hears ps__law_hears (defScope st__law_hears) := ⟨rfl, rfl, rfl, by decide +kernel, rfl, by decide +kernel, by decide +kernel⟩
theorem ok__law_hears (kn : Kn T h mg) (base : Heap) (tz : Tabs T mg base lamz) : ∃ fA fd, FunD T.K "_law_hears" "_law_hears" (defArgs st__law_hears) (defBody st__law_hears) (defScope st__law_hears) [] [] fA fd ∧ FnN T mg base 1 "_law_hears" ps__law_hears fA fd den__law_hears := by
  obtain ⟨fd, F⟩ := kn.c.def_ 19 (d := dd "_law_hears" st__law_hears []) rfl
  have S := sc__law_hears
  refine ⟨_, fd, F, fn_den F S fun cdv A outer s H E dx ow => ?_, He.glo_ok kn.X kn.G (kn.c.fact 19 (f := .glo "_law_hears") rfl), F.kp⟩
  exact (sb_cons (ss_fzz 4 (ss_lc 4 dx.calm S.nd (EI.weak (ei_v dx.ok (ee_ix dx.ok (EE.weak (ee_ix dx.ok (EE.weak (ee_ix dx.ok (ew_v 0) (EE.weak ee_int))) (ew_v 1))) (EE.weak ee_int)))) [("_law_move", 5)] (by rfl) (fun _ _ _ _ _ => (gt_name 5 S.nd)) (fun _ _ _ _ _ => (pts_one (eb_cmp (od_eqF dx.blk.ok dx.blk.rm) (EE.weak (ee_sl dx.blk.ok (ew_v 5) eo_no (eo_is (EE.weak ee_int)))) (EE.weak (ee_tup (eas_cons (ee_v 2) (eas_cons (ee_v 3) eas_nil))))))) (fun _ _ _ _ _ => (ee_ix dx.blk.ok (ew_v 5) (EE.weak ee_int)))))
  (sb_one (ss_ret (ee_if (eb_cmp (od_neF dx.ok dx.rm) (ew_v 4) (EE.weak (ee_lst eas_nil))) (ee_ix dx.ok (ew_v 4) (EE.weak ee_int)) (ee_tup eas_nil)))))
theorem sc__law_why : FnScope N__law_why ps__law_why (defScope st__law_why) := ⟨rfl, rfl, rfl, by decide +kernel, rfl, by decide +kernel, by decide +kernel⟩
theorem ok__law_why (kn : Kn T h mg) (base : Heap) (tz : Tabs T mg base lamz) : ∃ fA fd, FunD T.K "_law_why" "_law_why" (defArgs st__law_why) (defBody st__law_why) (defScope st__law_why) [] [] fA fd ∧ FnN T mg base 2 "_law_why" ps__law_why fA fd den__law_why := by
  obtain ⟨fA__law_hears, fd__law_hears, D__law_hears, F__law_hears⟩ := ok__law_hears kn base tz
  have bd__law_hears_4 := bd_plain (ps := ps__law_hears) D__law_hears 4 [] [0, 1, 2, 3] rfl rfl (fun _ _ _ _ _ _ us ws hu hw => match us, ws, hu, hw with | [_, _, _, _], [], _, _ => rfl)
  obtain ⟨fd, F⟩ := kn.c.def_ 20 (d := dd "_law_why" st__law_why []) rfl
  have S := sc__law_why
  refine ⟨_, fd, F, fn_den F S fun cdv A outer s H E dx ow => ?_, He.glo_ok kn.X kn.G (kn.c.fact 20 (f := .glo "_law_why") rfl), F.kp⟩
  exact (sb_cons (ss_asg (ee_v 3) (gt_tup dx.calm dx.ok.K (gts_cons (gt_name 4 S.nd) (gts_cons (gt_name 5 S.nd) (gts_cons (gt_name 6 S.nd) gts_nil)))))
  (sb_cons (ss_asg (ee_ix dx.ok (EE.weak (ee_ix dx.ok (ew_v 1) (EE.weak ee_int))) (ew_v 5)) (gt_tup dx.calm dx.ok.K (gts_cons (gt_name 7 S.nd) (gts_cons (gt_name 8 S.nd) (gts_cons (gt_name 9 S.nd) (gts_cons (gt_name 10 S.nd) gts_nil))))))
  (sb_cons (ss_if (eb_cmp (od_in2 dx.ok dx.rm) (EE.weak ee_str) (ew_v 9))
  (sb_one (ss_ret ee_str))
  sb_nil)
  (sb_cons (ss_if (eb_cmp (od_notIn2 dx.ok dx.rm) (ew_v 7) (EE.weak (ee_ix dx.ok (EE.weak (ee_ix dx.ok (EE.weak (ee_ix dx.ok (ew_v 0) (EE.weak ee_int))) (ew_v 4))) (EE.weak ee_int))))
  (sb_one (ss_ret ee_str))
  sb_nil)
  (sb_cons (ss_if (eb_cmp (od_notIn2 dx.ok dx.rm) (ew_v 8) (EE.weak (ee_ix dx.ok (EE.weak (ee_ix dx.ok (EE.weak (ee_ix dx.ok (ew_v 2) (EE.weak ee_int))) (ew_v 6))) (EE.weak ee_int))))
  (sb_one (ss_ret ee_str))
  sb_nil)
  (sb_cons (ss_for ow dx.calm (ei_v dx.ok (ee_ix dx.ok (EE.weak (ee_ix dx.ok (EE.weak (ee_ix dx.ok (ew_v 0) (EE.weak ee_int))) (ew_v 4))) (EE.weak ee_int))) (gt_name 11 S.nd)
  (sb_one (ss_if (eb_cmp (od_neF dx.ok dx.rm) (EE.weak (EF.val (ef_lc dx.calm S.nd (EI.weak (ei_v dx.ok (ee_ix dx.ok (EE.weak (ee_ix dx.ok (EE.weak (ee_ix dx.ok (ew_v 2) (EE.weak ee_int))) (ew_v 6))) (EE.weak ee_int)))) [("_law_right", 12)] (by rfl) (fun _ _ _ _ _ => (gt_name 12 S.nd)) (fun _ _ _ _ _ => (pts_one (eb_cmp (od_eqF dx.blk.ok dx.blk.rm) (EE.weak (ee_call (F__law_hears.mono (by decide)) dx.blk bd__law_hears_4 (by rfl) (eas_cons (ee_v 1) (eas_cons (ee_v 5) (eas_cons (ee_v 11) (eas_cons (ee_v 12) eas_nil)))))) (EE.weak (ee_tup eas_nil))))) (fun _ _ _ _ _ => (ee_v 12))))) (EE.weak (ee_lst eas_nil)))
  (sb_one (ss_ret ee_str))
  sb_nil)))
  (sb_one (ss_ret ee_non))))))))
theorem sc__law_hand : FnScope N__law_hand ps__law_hand (defScope st__law_hand) := ⟨rfl, rfl, rfl, by decide +kernel, rfl, by decide +kernel, by decide +kernel⟩
theorem ok__law_hand (kn : Kn T h mg) (base : Heap) (tz : Tabs T mg base lamz) : ∃ fA fd, FunD T.K "_law_hand" "_law_hand" (defArgs st__law_hand) (defBody st__law_hand) (defScope st__law_hand) [] [] fA fd ∧ FnN T mg base 1 "_law_hand" ps__law_hand fA fd den__law_hand := by
  have b_sorted := b_sorted_of kn
  have b_tuple := b_tuple_of kn
  obtain ⟨fd, F⟩ := kn.c.def_ 21 (d := dd "_law_hand" st__law_hand []) rfl
  have S := sc__law_hand
  refine ⟨_, fd, F, fn_den F S fun cdv A outer s H E dx ow => ?_, He.glo_ok kn.X kn.G (kn.c.fact 21 (f := .glo "_law_hand") rfl), F.kp⟩
  exact (sb_cons (ss_par2 4 5 dx.calm S.nd (efs_val (ee_callT (ud_tuple dx.ok) (EE.weak (ee_call1 (ud_sortedF dx.ok dx.rm) (EE.weak (ee_lst (eas_cons (ee_v 2) (eas_cons (ee_v 3) eas_nil)))) (by rfl) b_sorted rfl)) (by rfl) b_tuple rfl) (efs_val (ee_lst (eas_cons (ee_tup (eas_cons (ee_v 1) (eas_cons (ee_v 2) (eas_cons ee_int eas_nil)))) (eas_cons (ee_tup (eas_cons (ee_v 1) (eas_cons (ee_v 3) (eas_cons ee_int eas_nil)))) eas_nil))) efs_nil)))
  (sb_cons (ss_set 6 S.nd (ee_tup (eas_cons (ee_tup (eas_cons (ee_v 1) eas_nil)) (eas_cons (ee_v 4) (eas_cons (ee_callT (ud_tuple dx.ok) (EE.weak (ee_call1 (ud_sortedF dx.ok dx.rm) (ew_v 5) (by rfl) b_sorted rfl)) (by rfl) b_tuple rfl) eas_nil)))))
  (sb_cons (ss_set 7 S.nd (ee_tup (eas_cons (ee_callT (ud_tuple dx.ok) (EE.weak (ee_call1 (ud_sortedF dx.ok dx.rm) (EE.weak (ee_lst (eas_cons (ee_v 0) (eas_cons (ee_v 1) eas_nil)))) (by rfl) b_sorted rfl)) (by rfl) b_tuple rfl) (eas_cons (ee_v 4) (eas_cons (ee_callT (ud_tuple dx.ok) (EE.weak (ee_call1 (ud_sortedF dx.ok dx.rm) (EE.weak (ee_bin (od_add dx.ok) (ew_v 5) (EE.weak (ee_lst (eas_cons (ee_tup (eas_cons (ee_v 0) (eas_cons (ee_v 2) (eas_cons ee_int eas_nil)))) (eas_cons (ee_tup (eas_cons (ee_v 0) (eas_cons (ee_v 3) (eas_cons ee_int eas_nil)))) eas_nil)))))) (by rfl) b_sorted rfl)) (by rfl) b_tuple rfl) eas_nil)))))
  (sb_one (ss_ret (ee_tup (eas_cons (ee_tup (eas_cons (ee_v 6) (eas_cons (ee_v 7) eas_nil))) (eas_cons (ee_tup (eas_cons (ee_v 2) eas_nil)) eas_nil))))))))
theorem sc__law_keeper : FnScope N__law_keeper ps__law_keeper (defScope st__law_keeper) := ⟨rfl, rfl, rfl, by decide +kernel, rfl, by decide +kernel, by decide +kernel⟩
theorem ok__law_keeper (kn : Kn T h mg) (base : Heap) (tz : Tabs T mg base lamz) : ∃ fA fd, FunD T.K "_law_keeper" "_law_keeper" (defArgs st__law_keeper) (defBody st__law_keeper) (defScope st__law_keeper) [] [] fA fd ∧ FnN T mg base 1 "_law_keeper" ps__law_keeper fA fd den__law_keeper := by
  have b_sorted := b_sorted_of kn
  have b_tuple := b_tuple_of kn
  obtain ⟨fd, F⟩ := kn.c.def_ 22 (d := dd "_law_keeper" st__law_keeper []) rfl
  have S := sc__law_keeper
  refine ⟨_, fd, F, fn_den F S fun cdv A outer s H E dx ow => ?_, He.glo_ok kn.X kn.G (kn.c.fact 22 (f := .glo "_law_keeper") rfl), F.kp⟩
  exact (sb_cons (ss_set 5 S.nd (ee_lst (eas_cons (ee_tup (eas_cons (ee_v 1) (eas_cons (ee_v 2) (eas_cons (ee_tup (eas_cons ee_int eas_nil)) eas_nil)))) (eas_cons (ee_tup (eas_cons (ee_v 1) (eas_cons (ee_v 3) (eas_cons (ee_tup (eas_cons ee_int eas_nil)) eas_nil)))) (eas_cons (ee_tup (eas_cons (ee_v 0) (eas_cons (ee_v 2) (eas_cons (ee_tup (eas_cons ee_int eas_nil)) eas_nil)))) (eas_cons (ee_tup (eas_cons (ee_v 0) (eas_cons (ee_v 3) (eas_cons (ee_tup (eas_cons ee_int eas_nil)) eas_nil)))) eas_nil))))))
  (sb_cons (ss_set 6 S.nd (ee_lst (eas_cons (ee_tup (eas_cons (ee_v 1) (eas_cons (ee_v 2) (eas_cons (ee_tup (eas_cons ee_int eas_nil)) eas_nil)))) (eas_cons (ee_tup (eas_cons (ee_v 1) (eas_cons (ee_v 3) (eas_cons (ee_if (eb_tr dx.ok (ew_v 4)) (ee_tup (eas_cons ee_int eas_nil)) (ee_tup (eas_cons ee_int eas_nil))) eas_nil)))) eas_nil))))
  (sb_cons (ss_set 7 S.nd (ee_lst (eas_cons (ee_tup (eas_cons (ee_v 1) (eas_cons (ee_v 2) (eas_cons (ee_tup (eas_cons ee_int eas_nil)) eas_nil)))) (eas_cons (ee_tup (eas_cons (ee_v 1) (eas_cons (ee_v 3) (eas_cons (ee_tup (eas_cons ee_int eas_nil)) eas_nil)))) eas_nil))))
  (sb_cons (ss_set 8 S.nd (ee_lst (eas_cons (ee_tup (eas_cons (ee_v 2) (eas_cons (ee_v 1) (eas_cons (ee_tup eas_nil) (eas_cons (ee_callT (ud_tuple dx.ok) (EE.weak (ee_call1 (ud_sortedF dx.ok dx.rm) (ew_v 5) (by rfl) b_sorted rfl)) (by rfl) b_tuple rfl) eas_nil))))) eas_nil)))
  (sb_cons (ss_set 8 S.nd (ee_bin (od_add dx.ok) (ew_v 8) (EE.weak (ee_lst (eas_cons (ee_tup (eas_cons (ee_v 3) (eas_cons (ee_v 1) (eas_cons (ee_tup (eas_cons ee_str eas_nil)) (eas_cons (ee_callT (ud_tuple dx.ok) (EE.weak (ee_call1 (ud_sortedF dx.ok dx.rm) (ew_v 6) (by rfl) b_sorted rfl)) (by rfl) b_tuple rfl) eas_nil))))) eas_nil)))))
  (sb_one (ss_ret (ee_tup (eas_cons (ee_tup (eas_cons ee_int eas_nil)) (eas_cons (ee_callT (ud_tuple dx.ok) (EE.weak (ee_bin (od_add dx.ok) (ew_v 8) (EE.weak (ee_lst (eas_cons (ee_tup (eas_cons (ee_v 3) (eas_cons (ee_v 0) (eas_cons (ee_tup (eas_cons ee_str eas_nil)) (eas_cons (ee_callT (ud_tuple dx.ok) (EE.weak (ee_call1 (ud_sortedF dx.ok dx.rm) (ew_v 7) (by rfl) b_sorted rfl)) (by rfl) b_tuple rfl) eas_nil))))) eas_nil))))) (by rfl) b_tuple rfl) eas_nil))))))))))
theorem sc__law_four : FnScope N__law_four ps__law_four (defScope st__law_four) := ⟨rfl, rfl, rfl, by decide +kernel, rfl, by decide +kernel, by decide +kernel⟩
theorem ok__law_four (kn : Kn T h mg) (base : Heap) (tz : Tabs T mg base lamz) : ∃ fA fd, FunD T.K "_law_four" "_law_four" (defArgs st__law_four) (defBody st__law_four) (defScope st__law_four) [] [] fA fd ∧ FnN T mg base 3 "_law_four" ps__law_four fA fd den__law_four := by
  obtain ⟨fA__law_pick, fd__law_pick, D__law_pick, F__law_pick⟩ := ok__law_pick kn base tz
  obtain ⟨fA__law_draw, fd__law_draw, D__law_draw, F__law_draw⟩ := ok__law_draw kn base tz
  have bd__law_draw_2 := bd_plain (ps := ps__law_draw) D__law_draw 2 [] [0, 1] rfl rfl (fun _ _ _ _ _ _ us ws hu hw => match us, ws, hu, hw with | [_, _], [], _, _ => rfl)
  have bd__law_pick_2 := bd_plain (ps := ps__law_pick) D__law_pick 2 [] [0, 1] rfl rfl (fun _ _ _ _ _ _ us ws hu hw => match us, ws, hu, hw with | [_, _], [], _, _ => rfl)
  obtain ⟨fd, F⟩ := kn.c.def_ 23 (d := dd "_law_four" st__law_four []) rfl
  have S := sc__law_four
  refine ⟨_, fd, F, fn_den F S fun cdv A outer s H E dx ow => ?_, He.glo_ok kn.X kn.G (kn.c.fact 23 (f := .glo "_law_four") rfl), F.kp⟩
  exact (sb_cons (ss_set 1 S.nd (ee_lst (eas_cons (ee_lst (eas_cons ee_str (eas_cons ee_str (eas_cons ee_str (eas_cons ee_str eas_nil))))) (eas_cons (ee_lst (eas_cons ee_str (eas_cons ee_str (eas_cons ee_str (eas_cons ee_str eas_nil))))) eas_nil))))
  (sb_cons (ss_set 1 S.nd (ee_bin (od_add dx.ok) (ew_v 1) (EE.weak (ee_lst (eas_cons (ee_lst (eas_cons ee_str (eas_cons ee_str (eas_cons ee_str (eas_cons ee_str eas_nil))))) eas_nil)))))
  (sb_cons (ss_set 1 S.nd (ee_bin (od_add dx.ok) (ew_v 1) (EE.weak (ee_lst (eas_cons (ee_lst (eas_cons ee_str (eas_cons ee_str (eas_cons ee_str (eas_cons ee_str eas_nil))))) (eas_cons (ee_lst (eas_cons ee_str (eas_cons ee_str (eas_cons ee_str (eas_cons ee_str eas_nil))))) eas_nil))))))
  (sb_cons (ss_set 1 S.nd (ee_bin (od_add dx.ok) (ew_v 1) (EE.weak (ee_lst (eas_cons (ee_lst (eas_cons ee_str (eas_cons ee_str (eas_cons ee_str (eas_cons ee_str eas_nil))))) eas_nil)))))
  (sb_cons (ss_par2 2 3 dx.calm S.nd (efs_val (ee_call (F__law_pick.mono (by decide)) dx bd__law_pick_2 (by rfl) (eas_cons (ee_v 0) (eas_cons (ee_v 1) eas_nil))) (efs_val (ee_call (F__law_draw.mono (by decide)) dx bd__law_draw_2 (by rfl) (eas_cons (ee_v 0) (eas_cons ee_int eas_nil))) efs_nil)))
  (sb_one (ss_ret (ee_bin (od_add dx.ok) (EE.weak (ee_sl dx.ok (ew_v 2) (eo_is (ew_v 3)) eo_no)) (EE.weak (ee_sl dx.ok (ew_v 2) eo_no (eo_is (ew_v 3))))))))))))
theorem sc__law_heard : FnScope N__law_heard ps__law_heard (defScope st__law_heard) := ⟨rfl, rfl, rfl, by decide +kernel, rfl, by decide +kernel, by decide +kernel⟩
theorem ok__law_heard (kn : Kn T h mg) (base : Heap) : ∃ fA, HearD T mg base 0 "_law_heard" "_law_ask" N__law_heard fA mH__law_heard := by
  have b_ValueError := b_ValueError_of kn
  have b_isinstance := b_isinstance_of kn
  have y_InvalidPaper := y_InvalidPaper_of kn
  have y_LiveError := y_LiveError_of kn
  have y_NotRight := y_NotRight_of kn
  have y_NotUsable := y_NotUsable_of kn
  have y_NothingToUndo := y_NothingToUndo_of kn
  have y_PaperError := y_PaperError_of kn
  have y_TextError := y_TextError_of kn
  have y_UseError := y_UseError_of kn
  obtain ⟨fd, F⟩ := kn.c.def_ 24 (d := dd "_law_heard" st__law_heard []) rfl
  refine ⟨_, He.glo_ok kn.X kn.G (kn.c.fact 24 (f := .glo "_law_heard") rfl), by decide, by decide, rfl, _, _, _, _, fd, F, sc__law_heard, by first | exact Or.inl rfl | exact Or.inr (Or.inl rfl) | exact Or.inr (Or.inr rfl), fun s u => FunD.bindsA (ps := ps__law_heard) F (fun _ _ _ _ _ _ us hl => match us, hl with | [_], _ => rfl) s [u] rfl, fun f0 cdv A outer s H E th m0 dx ask => ?_⟩
  have S := sc__law_heard
  refine sb_one (ss_try (hit := hitz) m0 rfl rfl S.nd rfl rfl (nm_ref rfl (hz_of kn)) dx.tk (fun k b hk => ?_) (fun W pn xe tkz _ => (sb_one (ss_ret (ee_tup (eas_cons ee_str (eas_cons (ask _ _ _ _ _ tkz) eas_nil)))))) (fun a oe dxx k ds pn hz hf => ?_))
  · unfold hitz at hk
    split at hk
    · rename_i hlt
      cases hk
      obtain ⟨C, hC, ek⟩ := exE_ok kn.ex kn.er k hlt
      have e1 : (T.as f0).ct k = .ref C := by show T.ct k = _; rw [kn.ct]; exact hC
      rw [e1]
      exact ek.hit
    · cases hk
  · by_cases hlt : k < 3
    · obtain ⟨C, hC0, ek⟩ := exE_ok kn.ex kn.er k hlt
      have hC : (T.as f0).ct k = .ref C := by show T.ct k = _; rw [kn.ct]; exact hC0
      have hF : (T.as f0).cf k = cfz fsz k := by show T.cf k = _; rw [kn.cf]
      have isv : PySem.W.kitOne T.K ((T.as f0).ct k) (.type "ValueError") = some true := by rw [hC]; exact ek.isv
      have isa_InvalidPaper : PySem.W.kitOne T.K ((T.as f0).ct k) (.ref (He.ga T.K "InvalidPaper")) = some ((tabz.getD k []).getD 0 false) := by rw [hC]; exact ek.isa 0 _ rfl
      have isa_LiveError : PySem.W.kitOne T.K ((T.as f0).ct k) (.ref (He.ga T.K "LiveError")) = some ((tabz.getD k []).getD 7 false) := by rw [hC]; exact ek.isa 7 _ rfl
      have isa_NotRight : PySem.W.kitOne T.K ((T.as f0).ct k) (.ref (He.ga T.K "NotRight")) = some ((tabz.getD k []).getD 2 false) := by rw [hC]; exact ek.isa 2 _ rfl
      have isa_NotUsable : PySem.W.kitOne T.K ((T.as f0).ct k) (.ref (He.ga T.K "NotUsable")) = some ((tabz.getD k []).getD 1 false) := by rw [hC]; exact ek.isa 1 _ rfl
      have isa_NothingToUndo : PySem.W.kitOne T.K ((T.as f0).ct k) (.ref (He.ga T.K "NothingToUndo")) = some ((tabz.getD k []).getD 6 false) := by rw [hC]; exact ek.isa 6 _ rfl
      have isa_PaperError : PySem.W.kitOne T.K ((T.as f0).ct k) (.ref (He.ga T.K "PaperError")) = some ((tabz.getD k []).getD 3 false) := by rw [hC]; exact ek.isa 3 _ rfl
      have isa_TextError : PySem.W.kitOne T.K ((T.as f0).ct k) (.ref (He.ga T.K "TextError")) = some ((tabz.getD k []).getD 5 false) := by rw [hC]; exact ek.isa 5 _ rfl
      have isa_UseError : PySem.W.kitOne T.K ((T.as f0).ct k) (.ref (He.ga T.K "UseError")) = some ((tabz.getD k []).getD 4 false) := by rw [hC]; exact ek.isa 4 _ rfl
      have sx := dx.su (a := a) (pn := (a, oe) :: pn) (f := fun j => if j = 0 then some (.ex a dxx k ds) else (T.as f0).mks j)
      simp only [if_pos hlt]
      exact (sb_cons (ss_set 2 S.nd (ee_lst (eas_cons (ee_isD dx hC ek.ex hz hf rfl b_isinstance (py_ref (x := "PaperError") rfl y_PaperError) cv_ref isa_PaperError 1) (eas_cons (ee_isD dx hC ek.ex hz hf rfl b_isinstance (py_ref (x := "UseError") rfl y_UseError) cv_ref isa_UseError 1) eas_nil))))
  (sb_cons (ss_set 2 S.nd (ee_bin (od_add sx.ok) (ew_v 2) (EE.weak (ee_lst (eas_cons (ee_isD dx hC ek.ex hz hf rfl b_isinstance (py_ref (x := "LiveError") rfl y_LiveError) cv_ref isa_LiveError 1) eas_nil)))))
  (sb_cons (ss_if (eb_p (ep_or (eb_tr sx.ok (EE.weak (ee_isD dx hC ek.ex hz hf rfl b_isinstance (py_ref (x := "TextError") rfl y_TextError) cv_ref isa_TextError 1))) (ep_or (eb_cmp (od_neF sx.ok sx.rm) (EE.weak (ee_cnt sx.ok sx.rm (ew_v 2) (eas_cons ee_bl eas_nil))) (EE.weak ee_int)) (ep_or1 (eb_not (eb_tr sx.ok (EE.weak (ee_isD dx hC ek.ex hz hf rfl b_isinstance (py_ve rfl b_ValueError) cv_ve isv 1))))))))
  (sb_one (ss_ret (ee_tup (eas_cons ee_str eas_nil))))
  sb_nil)
  (sb_cons (ss_if (eb_tr sx.ok (EE.weak (ee_isD dx hC ek.ex hz hf rfl b_isinstance (py_ref (x := "InvalidPaper") rfl y_InvalidPaper) cv_ref isa_InvalidPaper 1)))
  (sb_one (ss_ret (ee_tup (eas_cons ee_str (eas_cons (ee_erD dx hC hF ek.ex (ek.fld _ (by decide)) hz hf 1) (eas_cons (ee_erD dx hC hF ek.ex (ek.fld _ (by decide)) hz hf 1) eas_nil))))))
  sb_nil)
  (sb_cons (ss_if (eb_tr sx.ok (EE.weak (ee_isD dx hC ek.ex hz hf rfl b_isinstance (py_ref (x := "NotUsable") rfl y_NotUsable) cv_ref isa_NotUsable 1)))
  (sb_one (ss_ret (ee_if (eb_tr sx.ok (EE.weak (ee_isD dx hC ek.ex hz hf rfl b_isinstance (py_ref (x := "NotRight") rfl y_NotRight) cv_ref isa_NotRight 1))) (ee_tup (eas_cons ee_str eas_nil)) (ee_tup (eas_cons ee_str (eas_cons (ee_erD dx hC hF ek.ex (ek.fld _ (by decide)) hz hf 1) (eas_cons (ee_erD dx hC hF ek.ex (ek.fld _ (by decide)) hz hf 1) eas_nil)))))))
  sb_nil)
  (sb_cons (ss_if (eb_tr sx.ok (EE.weak (ee_isD dx hC ek.ex hz hf rfl b_isinstance (py_ref (x := "NotRight") rfl y_NotRight) cv_ref isa_NotRight 1)))
  (sb_one (ss_ret (ee_tup (eas_cons ee_str (eas_cons (ee_erD dx hC hF ek.ex (ek.fld _ (by decide)) hz hf 1) eas_nil)))))
  sb_nil)
  (sb_one (ss_ret (ee_if (eb_tr sx.ok (EE.weak (ee_isD dx hC ek.ex hz hf rfl b_isinstance (py_ref (x := "NothingToUndo") rfl y_NothingToUndo) cv_ref isa_NothingToUndo 1))) (ee_tup (eas_cons ee_str (eas_cons (ee_erD dx hC hF ek.ex (ek.fld _ (by decide)) hz hf 1) eas_nil))) (ee_tup (eas_cons ee_str eas_nil)))))))))))
    · simp only [if_neg hlt]
      exact sb_bad
theorem sc__law_book_due : FnScope N__law_book_due ps__law_book_due (defScope st__law_book_due) := ⟨rfl, rfl, rfl, by decide +kernel, rfl, by decide +kernel, by decide +kernel⟩
theorem ok__law_book_due (kn : Kn T h mg) (base : Heap) (tz : Tabs T mg base lamz) : ∃ fA fd, FunD T.K "_law_book_due" "_law_book_due" (defArgs st__law_book_due) (defBody st__law_book_due) (defScope st__law_book_due) [] [] fA fd ∧ FnN T mg base 3 "_law_book_due" ps__law_book_due fA fd den__law_book_due := by
  have b_len := b_len_of kn
  have b_range := b_range_of kn
  have b_str := b_str_of kn
  have b_tuple := b_tuple_of kn
  obtain ⟨fA__law_why, fd__law_why, D__law_why, F__law_why⟩ := ok__law_why kn base tz
  have bd__law_why_4 := bd_plain (ps := ps__law_why) D__law_why 4 [] [0, 1, 2, 3] rfl rfl (fun _ _ _ _ _ _ us ws hu hw => match us, ws, hu, hw with | [_, _, _, _], [], _, _ => rfl)
  obtain ⟨fd, F⟩ := kn.c.def_ 25 (d := dd "_law_book_due" st__law_book_due []) rfl
  have S := sc__law_book_due
  refine ⟨_, fd, F, fn_den F S fun cdv A outer s H E dx ow => ?_, He.glo_ok kn.X kn.G (kn.c.fact 25 (f := .glo "_law_book_due") rfl), F.kp⟩
  exact (sb_cons (ss_asg (ee_v 0) (gt_tup dx.calm dx.ok.K (gts_cons (gt_name 3 S.nd) (gts_cons (gt_name 4 S.nd) (gts_cons (gt_name 5 S.nd) gts_nil)))))
  (sb_cons (ss_set 6 S.nd (ee_bin (od_add dx.ok) (EE.weak (ee_lst (eas_cons (ee_v 1) eas_nil))) (EE.weak (EF.val (ef_lc dx.calm S.nd (EI.weak (ei_v dx.ok (ee_v 2))) [("_law_step", 12)] (by rfl) (fun _ _ _ _ _ => (gt_name 12 S.nd)) (fun _ _ _ _ _ => ets_nil) (fun _ _ _ _ _ => (ee_ix dx.blk.ok (ew_v 12) (EE.weak ee_int))))))))
  (sb_cons (ss_fzz 7 (ss_lc 7 dx.calm S.nd (EI.weak (ei_range1 (by rfl) b_range (eas_cons (ee_call1 (ud_len dx.ok) (ew_v 6) (by rfl) b_len rfl) eas_nil))) [("_law_k", 13)] (by rfl) (fun _ _ _ _ _ => (gt_name 13 S.nd)) (fun _ _ _ _ _ => (pts_one (eb_cmp (od_in2 dx.blk.ok dx.blk.rm) (EE.weak (ee_ix dx.blk.ok (EE.weak (ee_ix dx.blk.ok (EE.weak (ee_ix dx.blk.ok (ew_v 4) (EE.weak ee_int))) (EE.weak (ee_ix dx.blk.ok (EE.weak (ee_ix dx.blk.ok (ew_v 6) (ew_v 13))) (EE.weak ee_int))))) (EE.weak ee_int))) (EE.weak (ee_ix dx.blk.ok (ew_v 3) (EE.weak ee_int)))))) (fun _ _ _ _ _ => (ee_v 13))))
  (sb_cons (ss_set 8 S.nd (ee_bin (od_sub) (EE.weak (ee_bin (od_sub) (EE.weak (ee_call1 (ud_len dx.ok) (ew_v 6) (by rfl) b_len rfl)) (EE.weak ee_int))) (EE.weak (ee_if (eb_cmp (od_neF dx.ok dx.rm) (ew_v 7) (EE.weak (ee_lst eas_nil))) (ee_ix dx.ok (ew_v 7) (EE.weak (ee_un ud_neg (EE.weak ee_int)))) (ee_un ud_neg (EE.weak ee_int))))))
  (sb_cons (ss_set 9 S.nd (ee_call1 (ud_len dx.ok) (EE.weak (EF.val (ef_lc dx.calm S.nd (EI.weak (ei_v dx.ok (ee_v 2))) [("_law_step", 12)] (by rfl) (fun _ _ _ _ _ => (gt_name 12 S.nd)) (fun _ _ _ _ _ => (pts_one (eb_cmp (od_in2 dx.blk.ok dx.blk.rm) (EE.weak (ee_ix dx.blk.ok (ew_v 12) (EE.weak ee_int))) (EE.weak (ee_ix dx.blk.ok (ew_v 5) (EE.weak ee_int)))))) (fun _ _ _ _ _ => (ee_v 12))))) (by rfl) b_len rfl))
  (sb_cons (ss_set 10 S.nd (ee_lst (eas_cons (ee_join dx.ok (EE.weak ee_str) (eas_cons (EF.val (ef_lc dx.calm S.nd (EI.weak (ei_v dx.ok (ee_v 1))) [("_law_part", 14)] (by rfl) (fun _ _ _ _ _ => (gt_name 14 S.nd)) (fun _ _ _ _ _ => ets_nil) (fun _ _ _ _ _ => (ee_callT (ud_str) (ew_v 14) (by rfl) b_str rfl)))) eas_nil)) eas_nil)))
  (sb_cons (ss_set 10 S.nd (ee_bin (od_add dx.ok) (ew_v 10) (EE.weak (EF.val (ef_lc dx.calm S.nd (EI.weak (ei_v dx.ok (ee_v 2))) [("_law_step", 12)] (by rfl) (fun _ _ _ _ _ => (gt_name 12 S.nd)) (fun _ _ _ _ _ => ets_nil) (fun _ _ _ _ _ => (ee_join dx.blk.ok (EE.weak ee_str) (eas_cons (EF.val (ef_lc dx.blk.calm S.nd (EI.weak (ei_v dx.blk.ok (ee_bin (od_add dx.blk.ok) (EE.weak (ee_sl dx.blk.ok (ew_v 12) eo_no (eo_is (EE.weak ee_int)))) (EE.weak (ee_ix dx.blk.ok (ew_v 12) (EE.weak ee_int)))))) [("_law_part", 14)] (by rfl) (fun _ _ _ _ _ => (gt_name 14 S.nd)) (fun _ _ _ _ _ => ets_nil) (fun _ _ _ _ _ => (ee_callT (ud_str) (ew_v 14) (by rfl) b_str rfl)))) eas_nil))))))))
  (sb_cons (ss_set 11 S.nd (ee_lst (eas_cons (ee_tup (eas_cons (ee_v 3) (eas_cons (ee_v 4) (eas_cons (ee_v 5) eas_nil)))) (eas_cons (ee_tup (eas_cons (ee_v 1) (eas_cons (ee_callT (ud_tuple dx.ok) (ew_v 2) (by rfl) b_tuple rfl) eas_nil))) (eas_cons (ee_ix dx.ok (ew_v 6) (EE.weak (ee_un ud_neg (EE.weak ee_int)))) eas_nil)))))
  (sb_cons (ss_set 11 S.nd (ee_bin (od_add dx.ok) (ew_v 11) (EE.weak (ee_lst (eas_cons (ee_call (F__law_why.mono (by decide)) dx bd__law_why_4 (by rfl) (eas_cons (ee_v 3) (eas_cons (ee_v 4) (eas_cons (ee_v 5) (eas_cons (ee_ix dx.ok (ew_v 6) (EE.weak (ee_un ud_neg (EE.weak ee_int)))) eas_nil))))) (eas_cons (ee_v 9) (eas_cons (ee_v 8) eas_nil)))))))
  (sb_one (ss_ret (ee_bin (od_add dx.ok) (ew_v 11) (EE.weak (ee_lst (eas_cons (ee_call1 (ud_len dx.ok) (ew_v 2) (by rfl) b_len rfl) (eas_cons (ee_join dx.ok (EE.weak ee_str) (eas_cons (ee_v 10) eas_nil)) (eas_cons (ee_v 6) eas_nil)))))))))))))))))
theorem sc_Run_parts : FnScope N_Run_parts ps_Run_parts (defScope st_Run_parts) := ⟨rfl, rfl, rfl, by decide +kernel, rfl, by decide +kernel, by decide +kernel⟩
theorem ok_Run_parts (kn : Kn T h mg) (base : Heap) (tz : Tabs T mg base lamz) : ∃ fd, FunD T.K "parts" "Run.parts" (defArgs st_Run_parts) (defBody st_Run_parts) (defScope st_Run_parts) [] [] (cAd T.K cf_Run_parts) fd ∧ FnG T mg base 1 (cAd T.K cf_Run_parts) fd ps_Run_parts den_Run_parts := by
  have fk_own_parts := fk_own_parts_of kn
  have S := sc_Run_parts
  obtain ⟨fd, F⟩ := CfD.funD (kn.cd cf_Run_parts (List.mem_of_getElem? (i := 0) rfl)) (cb_Run_parts kn) rfl
  refine ⟨fd, F, fn_den F S fun cdv A outer s H E dx ow => ?_⟩
  exact (sb_one (ss_ret (ee_fld dx.ok fk_own_parts (ew_v 0))))
theorem sc_Run_run_now : FnScope N_Run_run_now ps_Run_run_now (defScope st_Run_run_now) := ⟨rfl, rfl, rfl, by decide +kernel, rfl, by decide +kernel, by decide +kernel⟩
theorem ok_Run_run_now (kn : Kn T h mg) (base : Heap) (tz : Tabs T mg base lamz) : ∃ fd, FunD T.K "run_now" "Run.run_now" (defArgs st_Run_run_now) (defBody st_Run_run_now) (defScope st_Run_run_now) [] [] (cAd T.K cf_Run_run_now) fd ∧ FnG T mg base 1 (cAd T.K cf_Run_run_now) fd ps_Run_run_now den_Run_run_now := by
  have fk_own_begin := fk_own_begin_of kn
  have fk_own_ticks := fk_own_ticks_of kn
  have S := sc_Run_run_now
  obtain ⟨fd, F⟩ := CfD.funD (kn.cd cf_Run_run_now (List.mem_of_getElem? (i := 1) rfl)) (cb_Run_run_now kn) rfl
  refine ⟨fd, F, fn_den F S fun cdv A outer s H E dx ow => ?_⟩
  exact (sb_one (ss_ret (ee_tup (eas_cons (ee_fld dx.ok fk_own_begin (ew_v 0)) (eas_cons (ee_fld dx.ok fk_own_ticks (ew_v 0)) eas_nil)))))
theorem sc_Run_place_now : FnScope N_Run_place_now ps_Run_place_now (defScope st_Run_place_now) := ⟨rfl, rfl, rfl, by decide +kernel, rfl, by decide +kernel, by decide +kernel⟩
theorem ok_Run_place_now (kn : Kn T h mg) (base : Heap) (tz : Tabs T mg base lamz) : ∃ fd, FunD T.K "place_now" "Run.place_now" (defArgs st_Run_place_now) (defBody st_Run_place_now) (defScope st_Run_place_now) [] [] (cAd T.K cf_Run_place_now) fd ∧ FnG T mg base 1 (cAd T.K cf_Run_place_now) fd ps_Run_place_now den_Run_place_now := by
  have fk_own_begin := fk_own_begin_of kn
  have fk_own_ticks := fk_own_ticks_of kn
  have S := sc_Run_place_now
  obtain ⟨fd, F⟩ := CfD.funD (kn.cd cf_Run_place_now (List.mem_of_getElem? (i := 2) rfl)) (cb_Run_place_now kn) rfl
  refine ⟨fd, F, fn_den F S fun cdv A outer s H E dx ow => ?_⟩
  exact (sb_one (ss_ret (ee_if (eb_cmp (od_neF dx.ok dx.rm) (EE.weak (ee_fld dx.ok fk_own_ticks (ew_v 0))) (EE.weak (ee_tup eas_nil))) (ee_ix dx.ok (EE.weak (ee_ix dx.ok (EE.weak (ee_fld dx.ok fk_own_ticks (ew_v 0))) (EE.weak (ee_un ud_neg (EE.weak ee_int))))) (EE.weak ee_int)) (ee_fld dx.ok fk_own_begin (ew_v 0)))))
theorem sc_Run_fault_now : FnScope N_Run_fault_now ps_Run_fault_now (defScope st_Run_fault_now) := ⟨rfl, rfl, rfl, by decide +kernel, rfl, by decide +kernel, by decide +kernel⟩
theorem ok_Run_fault_now (kn : Kn T h mg) (base : Heap) (tz : Tabs T mg base lamz) : ∃ fd, FunD T.K "fault_now" "Run.fault_now" (defArgs st_Run_fault_now) (defBody st_Run_fault_now) (defScope st_Run_fault_now) [] [] (cAd T.K cf_Run_fault_now) fd ∧ FnG T mg base 3 (cAd T.K cf_Run_fault_now) fd ps_Run_fault_now den_Run_fault_now := by
  obtain ⟨fA_reason_at, fd_reason_at, D_reason_at, F_reason_at⟩ := ok_reason_at kn base tz
  have fk_own_parts := fk_own_parts_of kn
  obtain ⟨fd_Run_place_now, D_Run_place_now, F_Run_place_now⟩ := ok_Run_place_now kn base tz
  have bd_reason_at_4 := bd_plain (ps := ps_reason_at) D_reason_at 4 [] [0, 1, 2, 3] rfl rfl (fun _ _ _ _ _ _ us ws hu hw => match us, ws, hu, hw with | [_, _, _, _], [], _, _ => rfl)
  have bd_Run_place_now_1 := bd_plain (ps := ps_Run_place_now) D_Run_place_now 1 [] [0] rfl rfl (fun _ _ _ _ _ _ us ws hu hw => match us, ws, hu, hw with | [_], [], _, _ => rfl)
  have PT_place_now_0 : PrT T mg base 1 "place_now" [(0, den_Run_place_now), (1, den_Run_place_now)] := (prt_cons ⟨⟨_, _, _, _, _, _, (cl_Run kn).cl, pr_Run_place_now kn, (F_Run_place_now.mono (by decide)), bd_Run_place_now_1, fun _ => rfl⟩⟩ (prt_cons ⟨⟨_, _, _, _, _, _, (cl_LeastRun kn).cl, pr_LeastRun_place_now kn, (F_Run_place_now.mono (by decide)), bd_Run_place_now_1, fun _ => rfl⟩⟩ prt_nil))
  have S := sc_Run_fault_now
  obtain ⟨fd, F⟩ := CfD.funD (kn.cd cf_Run_fault_now (List.mem_of_getElem? (i := 3) rfl)) (cb_Run_fault_now kn) rfl
  refine ⟨fd, F, fn_den F S fun cdv A outer s H E dx ow => ?_⟩
  exact (sb_cons (ss_asg (ee_fld dx.ok fk_own_parts (ew_v 0)) (gt_tup dx.calm dx.ok.K (gts_cons (gt_name 1 S.nd) (gts_cons (gt_name 2 S.nd) (gts_cons (gt_name 3 S.nd) gts_nil)))))
  (sb_one (ss_ret (ee_call (F_reason_at.mono (by decide)) dx bd_reason_at_4 (by rfl) (eas_cons (ee_v 1) (eas_cons (ee_v 2) (eas_cons (ee_v 3) (eas_cons (ee_prop PT_place_now_0 dx (ew_v 0)) eas_nil))))))))
theorem sc_Run_ready_ticks : FnScope N_Run_ready_ticks ps_Run_ready_ticks (defScope st_Run_ready_ticks) := ⟨rfl, rfl, rfl, by decide +kernel, rfl, by decide +kernel, by decide +kernel⟩
theorem ok_Run_ready_ticks (kn : Kn T h mg) (base : Heap) (tz : Tabs T mg base lamz) : ∃ fd, FunD T.K "ready_ticks" "Run.ready_ticks" (defArgs st_Run_ready_ticks) (defBody st_Run_ready_ticks) (defScope st_Run_ready_ticks) [] [] (cAd T.K cf_Run_ready_ticks) fd ∧ FnG T mg base 1 (cAd T.K cf_Run_ready_ticks) fd ps_Run_ready_ticks den_Run_ready_ticks := by
  have b_len := b_len_of kn
  have fk_own_parts := fk_own_parts_of kn
  have fk_own_ticks := fk_own_ticks_of kn
  have S := sc_Run_ready_ticks
  obtain ⟨fd, F⟩ := CfD.funD (kn.cd cf_Run_ready_ticks (List.mem_of_getElem? (i := 4) rfl)) (cb_Run_ready_ticks kn) rfl
  refine ⟨fd, F, fn_den F S fun cdv A outer s H E dx ow => ?_⟩
  exact (sb_cons (ss_set 1 S.nd (ee_ix dx.ok (EE.weak (ee_ix dx.ok (EE.weak (ee_fld dx.ok fk_own_parts (ew_v 0))) (EE.weak ee_int))) (EE.weak ee_int)))
  (sb_one (ss_ret (ee_call1 (ud_len dx.ok) (EE.weak (EF.val (ef_lc dx.calm S.nd (EI.weak (ei_v dx.ok (ee_fld dx.ok fk_own_ticks (ew_v 0)))) [("tick", 2)] (by rfl) (fun _ _ _ _ _ => (gt_name 2 S.nd)) (fun _ _ _ _ _ => (pts_one (eb_cmp (od_in2 dx.blk.ok dx.blk.rm) (EE.weak (ee_ix dx.blk.ok (ew_v 2) (EE.weak ee_int))) (ew_v 1)))) (fun _ _ _ _ _ => (ee_v 2))))) (by rfl) b_len rfl))))
theorem sc_Run_spots : FnScope N_Run_spots ps_Run_spots (defScope st_Run_spots) := ⟨rfl, rfl, rfl, by decide +kernel, rfl, by decide +kernel, by decide +kernel⟩
theorem ok_Run_spots (kn : Kn T h mg) (base : Heap) (tz : Tabs T mg base lamz) : ∃ fd, FunD T.K "spots" "Run.spots" (defArgs st_Run_spots) (defBody st_Run_spots) (defScope st_Run_spots) [] [] (cAd T.K cf_Run_spots) fd ∧ FnG T mg base 1 (cAd T.K cf_Run_spots) fd ps_Run_spots den_Run_spots := by
  have fk_own_begin := fk_own_begin_of kn
  have fk_own_ticks := fk_own_ticks_of kn
  have S := sc_Run_spots
  obtain ⟨fd, F⟩ := CfD.funD (kn.cd cf_Run_spots (List.mem_of_getElem? (i := 5) rfl)) (cb_Run_spots kn) rfl
  refine ⟨fd, F, fn_den F S fun cdv A outer s H E dx ow => ?_⟩
  exact (sb_one (ss_ret (ee_lst (eas_cons (ee_fld dx.ok fk_own_begin (ew_v 0)) (eas_star dx.ok (EE.weak (EF.val (ef_lc dx.calm S.nd (EI.weak (ei_v dx.ok (ee_fld dx.ok fk_own_ticks (ew_v 0)))) [("tick", 1)] (by rfl) (fun _ _ _ _ _ => (gt_name 1 S.nd)) (fun _ _ _ _ _ => ets_nil) (fun _ _ _ _ _ => (ee_ix dx.blk.ok (ew_v 1) (EE.weak ee_int)))))) eas_nil)))))
theorem sc_Run_idle_now : FnScope N_Run_idle_now ps_Run_idle_now (defScope st_Run_idle_now) := ⟨rfl, rfl, rfl, by decide +kernel, rfl, by decide +kernel, by decide +kernel⟩
theorem ok_Run_idle_now (kn : Kn T h mg) (base : Heap) (tz : Tabs T mg base lamz) : ∃ fd, FunD T.K "idle_now" "Run.idle_now" (defArgs st_Run_idle_now) (defBody st_Run_idle_now) (defScope st_Run_idle_now) [] [] (cAd T.K cf_Run_idle_now) fd ∧ FnG T mg base 2 (cAd T.K cf_Run_idle_now) fd ps_Run_idle_now den_Run_idle_now := by
  have fk_own_parts := fk_own_parts_of kn
  obtain ⟨fd_Run_spots, D_Run_spots, F_Run_spots⟩ := ok_Run_spots kn base tz
  have bd_Run_spots_1 := bd_plain (ps := ps_Run_spots) D_Run_spots 1 [] [0] rfl rfl (fun _ _ _ _ _ _ us ws hu hw => match us, ws, hu, hw with | [_], [], _, _ => rfl)
  have MT_spots_0_0 : MtT T mg base 1 "spots" 0 [] [(0, (den_Run_spots, (gP [0]))), (1, (den_Run_spots, (gP [0])))] := (mtt_cons ⟨⟨_, (cl_Run kn).cl, me_Run_spots kn, fi_Run_spots kn, (RunsK.of (F_Run_spots.mono (by decide)) bd_Run_spots_1)⟩⟩ (mtt_cons ⟨⟨_, (cl_LeastRun kn).cl, me_LeastRun_spots kn, fi_Run_spots kn, (RunsK.of (F_Run_spots.mono (by decide)) bd_Run_spots_1)⟩⟩ mtt_nil))
  have S := sc_Run_idle_now
  obtain ⟨fd, F⟩ := CfD.funD (kn.cd cf_Run_idle_now (List.mem_of_getElem? (i := 6) rfl)) (cb_Run_idle_now kn) rfl
  refine ⟨fd, F, fn_den F S fun cdv A outer s H E dx ow => ?_⟩
  exact (sb_cons (ss_asg (ee_fld dx.ok fk_own_parts (ew_v 0)) (gt_tup dx.calm dx.ok.K (gts_cons (gt_name 1 S.nd) (gts_cons (gt_name 2 S.nd) (gts_cons (gt_name 3 S.nd) gts_nil)))))
  (sb_cons (ss_set 4 S.nd ee_int)
  (sb_cons (ss_for ow dx.calm (ei_v dx.ok (ee_meth0 MT_spots_0_0 dx (ew_v 0))) (gt_name 5 S.nd)
  (sb_one (ss_set 4 S.nd (ee_if (eb_cmp (od_in2 dx.ok dx.rm) (EE.weak (ee_ix dx.ok (EE.weak (ee_ix dx.ok (EE.weak (ee_ix dx.ok (ew_v 2) (EE.weak ee_int))) (EE.weak (ee_ix dx.ok (ew_v 5) (EE.weak ee_int))))) (EE.weak ee_int))) (EE.weak (ee_ix dx.ok (ew_v 1) (EE.weak ee_int)))) ee_int (ee_bin (od_add dx.ok) (ew_v 4) (EE.weak ee_int))))))
  (sb_one (ss_ret (ee_v 4))))))
theorem sc_Run___len__ : FnScope N_Run___len__ ps_Run___len__ (defScope st_Run___len__) := ⟨rfl, rfl, rfl, by decide +kernel, rfl, by decide +kernel, by decide +kernel⟩
theorem ok_Run___len__ (kn : Kn T h mg) (base : Heap) (tz : Tabs T mg base lamz) : ∃ fd, FunD T.K "__len__" "Run.__len__" (defArgs st_Run___len__) (defBody st_Run___len__) (defScope st_Run___len__) [] [] (cAd T.K cf_Run___len__) fd ∧ FnG T mg base 1 (cAd T.K cf_Run___len__) fd ps_Run___len__ den_Run___len__ := by
  have b_len := b_len_of kn
  have fk_own_ticks := fk_own_ticks_of kn
  have S := sc_Run___len__
  obtain ⟨fd, F⟩ := CfD.funD (kn.cd cf_Run___len__ (List.mem_of_getElem? (i := 7) rfl)) (cb_Run___len__ kn) rfl
  refine ⟨fd, F, fn_den F S fun cdv A outer s H E dx ow => ?_⟩
  exact (sb_one (ss_ret (ee_call1 (ud_len dx.ok) (EE.weak (ee_fld dx.ok fk_own_ticks (ew_v 0))) (by rfl) b_len rfl)))
theorem sc_Run___str__ : FnScope N_Run___str__ ps_Run___str__ (defScope st_Run___str__) := ⟨rfl, rfl, rfl, by decide +kernel, rfl, by decide +kernel, by decide +kernel⟩
theorem ok_Run___str__ (kn : Kn T h mg) (base : Heap) (tz : Tabs T mg base lamz) : ∃ fd, FunD T.K "__str__" "Run.__str__" (defArgs st_Run___str__) (defBody st_Run___str__) (defScope st_Run___str__) [] [] (cAd T.K cf_Run___str__) fd ∧ FnG T mg base 1 (cAd T.K cf_Run___str__) fd ps_Run___str__ den_Run___str__ := by
  have b_str := b_str_of kn
  have fk_own_begin := fk_own_begin_of kn
  have fk_own_ticks := fk_own_ticks_of kn
  have S := sc_Run___str__
  obtain ⟨fd, F⟩ := CfD.funD (kn.cd cf_Run___str__ (List.mem_of_getElem? (i := 8) rfl)) (cb_Run___str__ kn) rfl
  refine ⟨fd, F, fn_den F S fun cdv A outer s H E dx ow => ?_⟩
  exact (sb_cons (ss_own 1 S.nd (ef_lst (eas_cons (ee_join dx.ok (EE.weak ee_str) (eas_cons (EF.val (ef_lc dx.calm S.nd (EI.weak (ei_v dx.ok (ee_fld dx.ok fk_own_begin (ew_v 0)))) [("own", 5)] (by rfl) (fun _ _ _ _ _ => (gt_name 5 S.nd)) (fun _ _ _ _ _ => ets_nil) (fun _ _ _ _ _ => (ee_callT (ud_str) (ew_v 5) (by rfl) b_str rfl)))) eas_nil)) eas_nil)))
  (sb_cons (ss_for ow dx.calm (ei_v dx.ok (ee_fld dx.ok fk_own_ticks (ew_v 0))) (gt_tup dx.calm dx.ok.K (gts_cons (gt_name 2 S.nd) (gts_cons (gt_name 3 S.nd) (gts_cons (gt_name 4 S.nd) gts_nil))))
  (sb_one (ss_append 1 dx.ok (ee_bin (od_add dx.ok) (EE.weak (ee_joined (.cons (ee_fmt (ee_v 2)) (.cons ee_str (.cons (ee_fmt (ee_v 3)) (.cons ee_str .nil)))))) (EE.weak (ee_join dx.ok (EE.weak ee_str) (eas_cons (EF.val (ef_lc dx.calm S.nd (EI.weak (ei_v dx.ok (ee_v 4))) [("own", 5)] (by rfl) (fun _ _ _ _ _ => (gt_name 5 S.nd)) (fun _ _ _ _ _ => ets_nil) (fun _ _ _ _ _ => (ee_callT (ud_str) (ew_v 5) (by rfl) b_str rfl)))) eas_nil)))))))
  (sb_one (ss_frz 1 (ss_ret (ee_join dx.ok (EE.weak ee_str) (eas_cons (ee_v 1) eas_nil)))))))
theorem sc_Run___getitem__ : FnScope N_Run___getitem__ ps_Run___getitem__ (defScope st_Run___getitem__) := ⟨rfl, rfl, rfl, by decide +kernel, rfl, by decide +kernel, by decide +kernel⟩
theorem ok_Run___getitem__ (kn : Kn T h mg) (base : Heap) (tz : Tabs T mg base lamz) : ∃ fd, FunD T.K "__getitem__" "Run.__getitem__" (defArgs st_Run___getitem__) (defBody st_Run___getitem__) (defScope st_Run___getitem__) [] [] (cAd T.K cf_Run___getitem__) fd ∧ FnG T mg base 4 (cAd T.K cf_Run___getitem__) fd ps_Run___getitem__ den_Run___getitem__ := by
  have b_len := b_len_of kn
  obtain ⟨fA_want, fd_want, D_want, F_want⟩ := ok_want kn base tz
  obtain ⟨fA_is_number, fd_is_number, D_is_number, F_is_number⟩ := ok_is_number kn base tz
  have fk_own_ticks := fk_own_ticks_of kn
  obtain ⟨fd_Run_spots, D_Run_spots, F_Run_spots⟩ := ok_Run_spots kn base tz
  have bd_want_2 := bd_dfl (ps := ps_want) D_want [.int (-1)] rfl (by simp) 2 [] [0, 1, 2] rfl rfl (fun _ _ _ _ _ _ _ us ws its hu hw hi => match us, ws, its, hu, hw, hi with | [_, _], [], [_], _, _, _ => ⟨_, rfl, rfl⟩)
  have bd_is_number_1 := bd_plain (ps := ps_is_number) D_is_number 1 [] [0] rfl rfl (fun _ _ _ _ _ _ us ws hu hw => match us, ws, hu, hw with | [_], [], _, _ => rfl)
  have bd_Run_spots_1 := bd_plain (ps := ps_Run_spots) D_Run_spots 1 [] [0] rfl rfl (fun _ _ _ _ _ _ us ws hu hw => match us, ws, hu, hw with | [_], [], _, _ => rfl)
  have MT_spots_0_0 : MtT T mg base 3 "spots" 0 [] [(0, (den_Run_spots, (gP [0]))), (1, (den_Run_spots, (gP [0])))] := (mtt_cons ⟨⟨_, (cl_Run kn).cl, me_Run_spots kn, fi_Run_spots kn, (RunsK.of (F_Run_spots.mono (by decide)) bd_Run_spots_1)⟩⟩ (mtt_cons ⟨⟨_, (cl_LeastRun kn).cl, me_LeastRun_spots kn, fi_Run_spots kn, (RunsK.of (F_Run_spots.mono (by decide)) bd_Run_spots_1)⟩⟩ mtt_nil))
  have S := sc_Run___getitem__
  obtain ⟨fd, F⟩ := CfD.funD (kn.cd cf_Run___getitem__ (List.mem_of_getElem? (i := 9) rfl)) (cb_Run___getitem__ kn) rfl
  refine ⟨fd, F, fn_den F S fun cdv A outer s H E dx ow => ?_⟩
  exact (sb_cons (ss_expr (EE.weak (ee_call (F_want.mono (by decide)) dx bd_want_2 (by rfl) (eas_cons (ee_and dx.ok (ee_call (F_is_number.mono (by decide)) dx bd_is_number_1 (by rfl) (eas_cons (ee_v 1) eas_nil)) (ee_one (ee_cmp (od_le dx.ok dx.rm) (ew_v 1) (EE.weak (ee_call1 (ud_len dx.ok) (EE.weak (ee_fld dx.ok fk_own_ticks (ew_v 0))) (by rfl) b_len rfl))))) (eas_cons ee_str eas_nil)))))
  (sb_one (ss_ret (ee_ix dx.ok (EE.weak (ee_meth0 MT_spots_0_0 dx (ew_v 0))) (ew_v 1)))))
theorem sc__law_book_told : FnScope N__law_book_told ps__law_book_told (defScope st__law_book_told) := ⟨rfl, rfl, rfl, by decide +kernel, rfl, by decide +kernel, by decide +kernel⟩
theorem ok__law_book_told (kn : Kn T h mg) (base : Heap) (tz : Tabs T mg base lamz) : ∃ fA fd, FunD T.K "_law_book_told" "_law_book_told" (defArgs st__law_book_told) (defBody st__law_book_told) (defScope st__law_book_told) [] [] fA fd ∧ FnN T mg base 6 "_law_book_told" ps__law_book_told fA fd den__law_book_told := by
  have b_len := b_len_of kn
  have b_range := b_range_of kn
  have b_str := b_str_of kn
  obtain ⟨fd_Run___getitem__, D_Run___getitem__, F_Run___getitem__⟩ := ok_Run___getitem__ kn base tz
  obtain ⟨fd_Run___len__, D_Run___len__, F_Run___len__⟩ := ok_Run___len__ kn base tz
  obtain ⟨fd_Run___str__, D_Run___str__, F_Run___str__⟩ := ok_Run___str__ kn base tz
  obtain ⟨fd_Run_fault_now, D_Run_fault_now, F_Run_fault_now⟩ := ok_Run_fault_now kn base tz
  obtain ⟨fd_Run_idle_now, D_Run_idle_now, F_Run_idle_now⟩ := ok_Run_idle_now kn base tz
  obtain ⟨fd_Run_parts, D_Run_parts, F_Run_parts⟩ := ok_Run_parts kn base tz
  obtain ⟨fd_Run_place_now, D_Run_place_now, F_Run_place_now⟩ := ok_Run_place_now kn base tz
  obtain ⟨fd_Run_ready_ticks, D_Run_ready_ticks, F_Run_ready_ticks⟩ := ok_Run_ready_ticks kn base tz
  obtain ⟨fd_Run_run_now, D_Run_run_now, F_Run_run_now⟩ := ok_Run_run_now kn base tz
  have bd_Run_parts_1 := bd_plain (ps := ps_Run_parts) D_Run_parts 1 [] [0] rfl rfl (fun _ _ _ _ _ _ us ws hu hw => match us, ws, hu, hw with | [_], [], _, _ => rfl)
  have bd_Run_run_now_1 := bd_plain (ps := ps_Run_run_now) D_Run_run_now 1 [] [0] rfl rfl (fun _ _ _ _ _ _ us ws hu hw => match us, ws, hu, hw with | [_], [], _, _ => rfl)
  have bd_Run_place_now_1 := bd_plain (ps := ps_Run_place_now) D_Run_place_now 1 [] [0] rfl rfl (fun _ _ _ _ _ _ us ws hu hw => match us, ws, hu, hw with | [_], [], _, _ => rfl)
  have bd_Run_fault_now_1 := bd_plain (ps := ps_Run_fault_now) D_Run_fault_now 1 [] [0] rfl rfl (fun _ _ _ _ _ _ us ws hu hw => match us, ws, hu, hw with | [_], [], _, _ => rfl)
  have bd_Run_ready_ticks_1 := bd_plain (ps := ps_Run_ready_ticks) D_Run_ready_ticks 1 [] [0] rfl rfl (fun _ _ _ _ _ _ us ws hu hw => match us, ws, hu, hw with | [_], [], _, _ => rfl)
  have bd_Run_idle_now_1 := bd_plain (ps := ps_Run_idle_now) D_Run_idle_now 1 [] [0] rfl rfl (fun _ _ _ _ _ _ us ws hu hw => match us, ws, hu, hw with | [_], [], _, _ => rfl)
  have bd_Run___len___1 := bd_plain (ps := ps_Run___len__) D_Run___len__ 1 [] [0] rfl rfl (fun _ _ _ _ _ _ us ws hu hw => match us, ws, hu, hw with | [_], [], _, _ => rfl)
  have bd_Run___str___1 := bd_plain (ps := ps_Run___str__) D_Run___str__ 1 [] [0] rfl rfl (fun _ _ _ _ _ _ us ws hu hw => match us, ws, hu, hw with | [_], [], _, _ => rfl)
  have bd_Run___getitem___2 := bd_plain (ps := ps_Run___getitem__) D_Run___getitem__ 2 [] [0, 1] rfl rfl (fun _ _ _ _ _ _ us ws hu hw => match us, ws, hu, hw with | [_, _], [], _, _ => rfl)
  have PT_parts_0 : PrT T mg base 4 "parts" [(0, den_Run_parts), (1, den_Run_parts)] := (prt_cons ⟨⟨_, _, _, _, _, _, (cl_Run kn).cl, pr_Run_parts kn, (F_Run_parts.mono (by decide)), bd_Run_parts_1, fun _ => rfl⟩⟩ (prt_cons ⟨⟨_, _, _, _, _, _, (cl_LeastRun kn).cl, pr_LeastRun_parts kn, (F_Run_parts.mono (by decide)), bd_Run_parts_1, fun _ => rfl⟩⟩ prt_nil))
  have PT_run_now_0 : PrT T mg base 4 "run_now" [(0, den_Run_run_now), (1, den_Run_run_now)] := (prt_cons ⟨⟨_, _, _, _, _, _, (cl_Run kn).cl, pr_Run_run_now kn, (F_Run_run_now.mono (by decide)), bd_Run_run_now_1, fun _ => rfl⟩⟩ (prt_cons ⟨⟨_, _, _, _, _, _, (cl_LeastRun kn).cl, pr_LeastRun_run_now kn, (F_Run_run_now.mono (by decide)), bd_Run_run_now_1, fun _ => rfl⟩⟩ prt_nil))
  have PT_place_now_0 : PrT T mg base 4 "place_now" [(0, den_Run_place_now), (1, den_Run_place_now)] := (prt_cons ⟨⟨_, _, _, _, _, _, (cl_Run kn).cl, pr_Run_place_now kn, (F_Run_place_now.mono (by decide)), bd_Run_place_now_1, fun _ => rfl⟩⟩ (prt_cons ⟨⟨_, _, _, _, _, _, (cl_LeastRun kn).cl, pr_LeastRun_place_now kn, (F_Run_place_now.mono (by decide)), bd_Run_place_now_1, fun _ => rfl⟩⟩ prt_nil))
  have PT_fault_now_0 : PrT T mg base 4 "fault_now" [(0, den_Run_fault_now), (1, den_Run_fault_now)] := (prt_cons ⟨⟨_, _, _, _, _, _, (cl_Run kn).cl, pr_Run_fault_now kn, (F_Run_fault_now.mono (by decide)), bd_Run_fault_now_1, fun _ => rfl⟩⟩ (prt_cons ⟨⟨_, _, _, _, _, _, (cl_LeastRun kn).cl, pr_LeastRun_fault_now kn, (F_Run_fault_now.mono (by decide)), bd_Run_fault_now_1, fun _ => rfl⟩⟩ prt_nil))
  have PT_ready_ticks_0 : PrT T mg base 4 "ready_ticks" [(0, den_Run_ready_ticks), (1, den_Run_ready_ticks)] := (prt_cons ⟨⟨_, _, _, _, _, _, (cl_Run kn).cl, pr_Run_ready_ticks kn, (F_Run_ready_ticks.mono (by decide)), bd_Run_ready_ticks_1, fun _ => rfl⟩⟩ (prt_cons ⟨⟨_, _, _, _, _, _, (cl_LeastRun kn).cl, pr_LeastRun_ready_ticks kn, (F_Run_ready_ticks.mono (by decide)), bd_Run_ready_ticks_1, fun _ => rfl⟩⟩ prt_nil))
  have PT_idle_now_0 : PrT T mg base 4 "idle_now" [(0, den_Run_idle_now), (1, den_Run_idle_now)] := (prt_cons ⟨⟨_, _, _, _, _, _, (cl_Run kn).cl, pr_Run_idle_now kn, (F_Run_idle_now.mono (by decide)), bd_Run_idle_now_1, fun _ => rfl⟩⟩ (prt_cons ⟨⟨_, _, _, _, _, _, (cl_LeastRun kn).cl, pr_LeastRun_idle_now kn, (F_Run_idle_now.mono (by decide)), bd_Run_idle_now_1, fun _ => rfl⟩⟩ prt_nil))
  have MT___len___0_1 : MtT T mg base 4 "__len__" 0 [] [(0, (den_Run___len__, (gP [0]))), (1, (den_Run___len__, (gP [0])))] := (mtt_cons ⟨⟨_, (cl_Run kn).cl, me_Run___len__ kn, fi_Run___len__ kn, (RunsK.of (F_Run___len__.mono (by decide)) bd_Run___len___1)⟩⟩ (mtt_cons ⟨⟨_, (cl_LeastRun kn).cl, me_LeastRun___len__ kn, fi_Run___len__ kn, (RunsK.of (F_Run___len__.mono (by decide)) bd_Run___len___1)⟩⟩ mtt_nil))
  have MT___str___0_2 : MtT T mg base 3 "__str__" 0 [] [(0, (den_Run___str__, (gP [0]))), (1, (den_Run___str__, (gP [0])))] := (mtt_cons ⟨⟨_, (cl_Run kn).cl, me_Run___str__ kn, fi_Run___str__ kn, (RunsK.of (F_Run___str__.mono (by decide)) bd_Run___str___1)⟩⟩ (mtt_cons ⟨⟨_, (cl_LeastRun kn).cl, me_LeastRun___str__ kn, fi_Run___str__ kn, (RunsK.of (F_Run___str__.mono (by decide)) bd_Run___str___1)⟩⟩ mtt_nil))
  have MT___getitem___1_1 : MtT T mg base 4 "__getitem__" 1 [] [(0, (den_Run___getitem__, (gP [0, 1]))), (1, (den_Run___getitem__, (gP [0, 1])))] := (mtt_cons ⟨⟨_, (cl_Run kn).cl, me_Run___getitem__ kn, fi_Run___getitem__ kn, (RunsK.of (F_Run___getitem__.mono (by decide)) bd_Run___getitem___2)⟩⟩ (mtt_cons ⟨⟨_, (cl_LeastRun kn).cl, me_LeastRun___getitem__ kn, fi_Run___getitem__ kn, (RunsK.of (F_Run___getitem__.mono (by decide)) bd_Run___getitem___2)⟩⟩ mtt_nil))
  obtain ⟨fd, F⟩ := kn.c.def_ 26 (d := dd "_law_book_told" st__law_book_told []) rfl
  have S := sc__law_book_told
  refine ⟨_, fd, F, fn_den F S fun cdv A outer s H E dx ow => ?_, He.glo_ok kn.X kn.G (kn.c.fact 26 (f := .glo "_law_book_told") rfl), F.kp⟩
  exact (sb_cons (ss_set 1 S.nd (ee_lst (eas_cons (ee_prop PT_parts_0 dx (ew_v 0)) (eas_cons (ee_prop PT_run_now_0 dx (ew_v 0)) (eas_cons (ee_prop PT_place_now_0 dx (ew_v 0)) (eas_cons (ee_prop PT_fault_now_0 dx (ew_v 0)) (eas_cons (ee_prop PT_ready_ticks_0 dx (ew_v 0)) eas_nil)))))))
  (sb_cons (ss_set 1 S.nd (ee_bin (od_add dx.ok) (ew_v 1) (EE.weak (ee_lst (eas_cons (ee_prop PT_idle_now_0 dx (ew_v 0)) eas_nil)))))
  (sb_one (ss_ret (ee_bin (od_add dx.ok) (ew_v 1) (EE.weak (ee_lst (eas_cons (ee_lenO MT___len___0_1 dx (ew_v 0) (by rfl) b_len) (eas_cons (ee_strO MT___str___0_2 dx (ew_v 0) (by rfl) b_str) (eas_cons (EF.val (ef_lc dx.calm S.nd (EI.weak (ei_range1 (by rfl) b_range (eas_cons (ee_bin (od_add dx.ok) (EE.weak (ee_lenO MT___len___0_1 dx (ew_v 0) (by rfl) b_len)) (EE.weak ee_int)) eas_nil))) [("_law_k", 2)] (by rfl) (fun _ _ _ _ _ => (gt_name 2 S.nd)) (fun _ _ _ _ _ => ets_nil) (fun _ _ _ _ _ => (ee_itemO MT___getitem___1_1 dx.blk (ew_v 0) (ee_v 2))))) eas_nil))))))))))
theorem sc_Run_tick_at : FnScope N_Run_tick_at ps_Run_tick_at (defScope st_Run_tick_at) := ⟨rfl, rfl, rfl, by decide +kernel, rfl, by decide +kernel, by decide +kernel⟩
theorem ok_Run_tick_at (kn : Kn T h mg) (base : Heap) (tz : Tabs T mg base lamz) : ∃ fd, FunD T.K "tick_at" "Run.tick_at" (defArgs st_Run_tick_at) (defBody st_Run_tick_at) (defScope st_Run_tick_at) [] [] (cAd T.K cf_Run_tick_at) fd ∧ FnG T mg base 5 (cAd T.K cf_Run_tick_at) fd ps_Run_tick_at den_Run_tick_at := by
  obtain ⟨fA_tick_by, fd_tick_by, D_tick_by, F_tick_by⟩ := ok_tick_by kn base tz
  have fk_own_parts := fk_own_parts_of kn
  have bd_tick_by_5 := bd_plain (ps := ps_tick_by) D_tick_by 5 [] [0, 1, 2, 3, 4] rfl rfl (fun _ _ _ _ _ _ us ws hu hw => match us, ws, hu, hw with | [_, _, _, _, _], [], _, _ => rfl)
  have S := sc_Run_tick_at
  obtain ⟨fd, F⟩ := CfD.funD (kn.cd cf_Run_tick_at (List.mem_of_getElem? (i := 10) rfl)) (cb_Run_tick_at kn) rfl
  refine ⟨fd, F, fn_den F S fun cdv A outer s H E dx ow => ?_⟩
  exact (sb_one (ss_ret (ee_call (F_tick_by.mono (by decide)) dx bd_tick_by_5 (by rfl) (eas_cons (ee_fld dx.ok fk_own_parts (ew_v 0)) (eas_cons (ee_v 1) (eas_cons (ee_v 2) (eas_cons (ee_v 3) (eas_cons (ee_v 4) eas_nil))))))))
theorem sc_LeastRun_tick_at : FnScope N_LeastRun_tick_at ps_LeastRun_tick_at (defScope st_LeastRun_tick_at) := ⟨rfl, rfl, rfl, by decide +kernel, rfl, by decide +kernel, by decide +kernel⟩
theorem ok_LeastRun_tick_at (kn : Kn T h mg) (base : Heap) (tz : Tabs T mg base lamz) : ∃ fd, FunD T.K "tick_at" "LeastRun.tick_at" (defArgs st_LeastRun_tick_at) (defBody st_LeastRun_tick_at) (defScope st_LeastRun_tick_at) [] [] (cAd T.K cf_LeastRun_tick_at) fd ∧ FnG T mg base 5 (cAd T.K cf_LeastRun_tick_at) fd ps_LeastRun_tick_at den_LeastRun_tick_at := by
  have b_isinstance := b_isinstance_of kn
  have b_str := b_str_of kn
  obtain ⟨fA_tick_by, fd_tick_by, D_tick_by, F_tick_by⟩ := ok_tick_by kn base tz
  obtain ⟨fA_nexts_by, fd_nexts_by, D_nexts_by, F_nexts_by⟩ := ok_nexts_by kn base tz
  have fk_own_parts := fk_own_parts_of kn
  have bd_nexts_by_4 := bd_plain (ps := ps_nexts_by) D_nexts_by 4 [] [0, 1, 2, 3] rfl rfl (fun _ _ _ _ _ _ us ws hu hw => match us, ws, hu, hw with | [_, _, _, _], [], _, _ => rfl)
  have bd_tick_by_5 := bd_plain (ps := ps_tick_by) D_tick_by 5 [] [0, 1, 2, 3, 4] rfl rfl (fun _ _ _ _ _ _ us ws hu hw => match us, ws, hu, hw with | [_, _, _, _, _], [], _, _ => rfl)
  have S := sc_LeastRun_tick_at
  obtain ⟨fd, F⟩ := CfD.funD (kn.cd cf_LeastRun_tick_at (List.mem_of_getElem? (i := 11) rfl)) (cb_LeastRun_tick_at kn) rfl
  refine ⟨fd, F, fn_den F S fun cdv A outer s H E dx ow => ?_⟩
  exact (sb_cons (ss_set 5 S.nd (ee_ix dx.ok (EE.weak (ee_fld dx.ok fk_own_parts (ew_v 0))) (EE.weak ee_int)))
  (sb_cons (ss_set 6 S.nd (ee_if (eb_p (ep_and (eb_cmp (od_is2) (ew_v 4) (EE.weak ee_non)) (ep_and (eb_tr dx.ok (EE.weak (ee_isi dx.ok .str (ew_v 2) (by rfl) b_isinstance (by rfl) b_str rfl))) (ep_and1 (eb_tr dx.ok (EE.weak (ee_isi dx.ok .str (ew_v 3) (by rfl) b_isinstance (by rfl) b_str rfl))))))) (ee_sl dx.ok (EE.weak (ee_call (F_nexts_by.mono (by decide)) dx bd_nexts_by_4 (by rfl) (eas_cons (ee_v 5) (eas_cons (ee_ix dx.ok (ew_v 1) (EE.weak ee_int)) (eas_cons (ee_v 2) (eas_cons (ee_v 3) eas_nil)))))) eo_no (eo_is (EE.weak ee_int))) (ee_tup eas_nil)))
  (sb_one (ss_ret (ee_call (F_tick_by.mono (by decide)) dx bd_tick_by_5 (by rfl) (eas_cons (ee_fld dx.ok fk_own_parts (ew_v 0)) (eas_cons (ee_v 1) (eas_cons (ee_v 2) (eas_cons (ee_v 3) (eas_cons (ee_if (eb_cmp (od_neF dx.ok dx.rm) (ew_v 6) (EE.weak (ee_tup eas_nil))) (ee_ix dx.ok (ew_v 6) (EE.weak ee_int)) (ee_v 4)) eas_nil))))))))))
theorem sc_Run_tick : FnScope N_Run_tick ps_Run_tick (defScope st_Run_tick) := ⟨rfl, rfl, rfl, by decide +kernel, rfl, by decide +kernel, by decide +kernel⟩
theorem ok_Run_tick (kn : Kn T h mg) (base : Heap) (tz : Tabs T mg base lamz) : ∃ fd, FunD T.K "tick" "Run.tick" (defArgs st_Run_tick) (defBody st_Run_tick) (defScope st_Run_tick) [] [] (cAd T.K cf_Run_tick) fd ∧ FnG T mg base 6 (cAd T.K cf_Run_tick) fd ps_Run_tick den_Run_tick := by
  have fk_own_ticks := fk_own_ticks_of kn
  obtain ⟨fd_LeastRun_tick_at, D_LeastRun_tick_at, F_LeastRun_tick_at⟩ := ok_LeastRun_tick_at kn base tz
  obtain ⟨fd_Run_fault_now, D_Run_fault_now, F_Run_fault_now⟩ := ok_Run_fault_now kn base tz
  obtain ⟨fd_Run_place_now, D_Run_place_now, F_Run_place_now⟩ := ok_Run_place_now kn base tz
  obtain ⟨fd_Run_tick_at, D_Run_tick_at, F_Run_tick_at⟩ := ok_Run_tick_at kn base tz
  have bd_Run_tick_at_5 := bd_plain (ps := ps_Run_tick_at) D_Run_tick_at 5 [] [0, 1, 2, 3, 4] rfl rfl (fun _ _ _ _ _ _ us ws hu hw => match us, ws, hu, hw with | [_, _, _, _, _], [], _, _ => rfl)
  have bd_LeastRun_tick_at_5 := bd_plain (ps := ps_LeastRun_tick_at) D_LeastRun_tick_at 5 [] [0, 1, 2, 3, 4] rfl rfl (fun _ _ _ _ _ _ us ws hu hw => match us, ws, hu, hw with | [_, _, _, _, _], [], _, _ => rfl)
  have bd_Run_place_now_1 := bd_plain (ps := ps_Run_place_now) D_Run_place_now 1 [] [0] rfl rfl (fun _ _ _ _ _ _ us ws hu hw => match us, ws, hu, hw with | [_], [], _, _ => rfl)
  have bd_Run_fault_now_1 := bd_plain (ps := ps_Run_fault_now) D_Run_fault_now 1 [] [0] rfl rfl (fun _ _ _ _ _ _ us ws hu hw => match us, ws, hu, hw with | [_], [], _, _ => rfl)
  have MT_tick_at_4_0 : MtT T mg base 5 "tick_at" 4 [] [(0, (den_Run_tick_at, (gP [0, 1, 2, 3, 4]))), (1, (den_LeastRun_tick_at, (gP [0, 1, 2, 3, 4])))] := (mtt_cons ⟨⟨_, (cl_Run kn).cl, me_Run_tick_at kn, fi_Run_tick_at kn, (RunsK.of (F_Run_tick_at.mono (by decide)) bd_Run_tick_at_5)⟩⟩ (mtt_cons ⟨⟨_, (cl_LeastRun kn).cl, me_LeastRun_tick_at kn, fi_LeastRun_tick_at kn, (RunsK.of (F_LeastRun_tick_at.mono (by decide)) bd_LeastRun_tick_at_5)⟩⟩ mtt_nil))
  have PT_place_now_0 : PrT T mg base 4 "place_now" [(0, den_Run_place_now), (1, den_Run_place_now)] := (prt_cons ⟨⟨_, _, _, _, _, _, (cl_Run kn).cl, pr_Run_place_now kn, (F_Run_place_now.mono (by decide)), bd_Run_place_now_1, fun _ => rfl⟩⟩ (prt_cons ⟨⟨_, _, _, _, _, _, (cl_LeastRun kn).cl, pr_LeastRun_place_now kn, (F_Run_place_now.mono (by decide)), bd_Run_place_now_1, fun _ => rfl⟩⟩ prt_nil))
  have PT_fault_now_0 : PrT T mg base 4 "fault_now" [(0, den_Run_fault_now), (1, den_Run_fault_now)] := (prt_cons ⟨⟨_, _, _, _, _, _, (cl_Run kn).cl, pr_Run_fault_now kn, (F_Run_fault_now.mono (by decide)), bd_Run_fault_now_1, fun _ => rfl⟩⟩ (prt_cons ⟨⟨_, _, _, _, _, _, (cl_LeastRun kn).cl, pr_LeastRun_fault_now kn, (F_Run_fault_now.mono (by decide)), bd_Run_fault_now_1, fun _ => rfl⟩⟩ prt_nil))
  have S := sc_Run_tick
  obtain ⟨fd, F⟩ := CfD.funD (kn.cd cf_Run_tick (List.mem_of_getElem? (i := 12) rfl)) (cb_Run_tick kn) rfl
  refine ⟨fd, F, fn_den F S fun cdv A outer s H E dx ow => ?_⟩
  exact (sb_cons (ss_fld dx.ok fk_own_ticks (ew_v 0) (ee_tup (eas_star dx.ok (EE.weak (ee_fld dx.ok fk_own_ticks (ew_v 0))) (eas_cons (ee_meth MT_tick_at_4_0 dx (ew_v 0) (eas_cons (ee_prop PT_place_now_0 dx (ew_v 0)) (eas_cons (ee_v 1) (eas_cons (ee_v 2) (eas_cons (ee_v 3) eas_nil))))) eas_nil))))
  (sb_one (ss_ret (ee_prop PT_fault_now_0 dx (ew_v 0)))))
theorem sc_LeastRun_tick : FnScope N_LeastRun_tick ps_LeastRun_tick (defScope st_LeastRun_tick) := ⟨rfl, rfl, rfl, by decide +kernel, rfl, by decide +kernel, by decide +kernel⟩
theorem ok_LeastRun_tick (kn : Kn T h mg) (base : Heap) (tz : Tabs T mg base lamz) : ∃ fd, FunD T.K "tick" "LeastRun.tick" (defArgs st_LeastRun_tick) (defBody st_LeastRun_tick) (defScope st_LeastRun_tick) [.non] [] (cAd T.K cf_LeastRun_tick) fd ∧ FnG T mg base 6 (cAd T.K cf_LeastRun_tick) fd ps_LeastRun_tick den_LeastRun_tick := by
  have fk_own_ticks := fk_own_ticks_of kn
  obtain ⟨fd_LeastRun_tick_at, D_LeastRun_tick_at, F_LeastRun_tick_at⟩ := ok_LeastRun_tick_at kn base tz
  obtain ⟨fd_Run_fault_now, D_Run_fault_now, F_Run_fault_now⟩ := ok_Run_fault_now kn base tz
  obtain ⟨fd_Run_place_now, D_Run_place_now, F_Run_place_now⟩ := ok_Run_place_now kn base tz
  obtain ⟨fd_Run_tick_at, D_Run_tick_at, F_Run_tick_at⟩ := ok_Run_tick_at kn base tz
  have bd_Run_tick_at_5 := bd_plain (ps := ps_Run_tick_at) D_Run_tick_at 5 [] [0, 1, 2, 3, 4] rfl rfl (fun _ _ _ _ _ _ us ws hu hw => match us, ws, hu, hw with | [_, _, _, _, _], [], _, _ => rfl)
  have bd_LeastRun_tick_at_5 := bd_plain (ps := ps_LeastRun_tick_at) D_LeastRun_tick_at 5 [] [0, 1, 2, 3, 4] rfl rfl (fun _ _ _ _ _ _ us ws hu hw => match us, ws, hu, hw with | [_, _, _, _, _], [], _, _ => rfl)
  have bd_Run_place_now_1 := bd_plain (ps := ps_Run_place_now) D_Run_place_now 1 [] [0] rfl rfl (fun _ _ _ _ _ _ us ws hu hw => match us, ws, hu, hw with | [_], [], _, _ => rfl)
  have bd_Run_fault_now_1 := bd_plain (ps := ps_Run_fault_now) D_Run_fault_now 1 [] [0] rfl rfl (fun _ _ _ _ _ _ us ws hu hw => match us, ws, hu, hw with | [_], [], _, _ => rfl)
  have MT_tick_at_4_0 : MtT T mg base 5 "tick_at" 4 [] [(0, (den_Run_tick_at, (gP [0, 1, 2, 3, 4]))), (1, (den_LeastRun_tick_at, (gP [0, 1, 2, 3, 4])))] := (mtt_cons ⟨⟨_, (cl_Run kn).cl, me_Run_tick_at kn, fi_Run_tick_at kn, (RunsK.of (F_Run_tick_at.mono (by decide)) bd_Run_tick_at_5)⟩⟩ (mtt_cons ⟨⟨_, (cl_LeastRun kn).cl, me_LeastRun_tick_at kn, fi_LeastRun_tick_at kn, (RunsK.of (F_LeastRun_tick_at.mono (by decide)) bd_LeastRun_tick_at_5)⟩⟩ mtt_nil))
  have PT_place_now_0 : PrT T mg base 4 "place_now" [(0, den_Run_place_now), (1, den_Run_place_now)] := (prt_cons ⟨⟨_, _, _, _, _, _, (cl_Run kn).cl, pr_Run_place_now kn, (F_Run_place_now.mono (by decide)), bd_Run_place_now_1, fun _ => rfl⟩⟩ (prt_cons ⟨⟨_, _, _, _, _, _, (cl_LeastRun kn).cl, pr_LeastRun_place_now kn, (F_Run_place_now.mono (by decide)), bd_Run_place_now_1, fun _ => rfl⟩⟩ prt_nil))
  have PT_fault_now_0 : PrT T mg base 4 "fault_now" [(0, den_Run_fault_now), (1, den_Run_fault_now)] := (prt_cons ⟨⟨_, _, _, _, _, _, (cl_Run kn).cl, pr_Run_fault_now kn, (F_Run_fault_now.mono (by decide)), bd_Run_fault_now_1, fun _ => rfl⟩⟩ (prt_cons ⟨⟨_, _, _, _, _, _, (cl_LeastRun kn).cl, pr_LeastRun_fault_now kn, (F_Run_fault_now.mono (by decide)), bd_Run_fault_now_1, fun _ => rfl⟩⟩ prt_nil))
  have S := sc_LeastRun_tick
  obtain ⟨fd, F⟩ := CfD.funD (kn.cd cf_LeastRun_tick (List.mem_of_getElem? (i := 13) rfl)) (cb_LeastRun_tick kn) rfl
  refine ⟨fd, F, fn_den F S fun cdv A outer s H E dx ow => ?_⟩
  exact (sb_cons (ss_fld dx.ok fk_own_ticks (ew_v 0) (ee_tup (eas_star dx.ok (EE.weak (ee_fld dx.ok fk_own_ticks (ew_v 0))) (eas_cons (ee_meth MT_tick_at_4_0 dx (ew_v 0) (eas_cons (ee_prop PT_place_now_0 dx (ew_v 0)) (eas_cons (ee_v 1) (eas_cons (ee_v 2) (eas_cons (ee_v 3) eas_nil))))) eas_nil))))
  (sb_one (ss_ret (ee_prop PT_fault_now_0 dx (ew_v 0)))))
theorem sc_Run___iadd__ : FnScope N_Run___iadd__ ps_Run___iadd__ (defScope st_Run___iadd__) := ⟨rfl, rfl, rfl, by decide +kernel, rfl, by decide +kernel, by decide +kernel⟩
theorem ok_Run___iadd__ (kn : Kn T h mg) (base : Heap) (tz : Tabs T mg base lamz) : ∃ fd, FunD T.K "__iadd__" "Run.__iadd__" (defArgs st_Run___iadd__) (defBody st_Run___iadd__) (defScope st_Run___iadd__) [] [] (cAd T.K cf_Run___iadd__) fd ∧ FnG T mg base 7 (cAd T.K cf_Run___iadd__) fd ps_Run___iadd__ den_Run___iadd__ := by
  obtain ⟨fA_want, fd_want, D_want, F_want⟩ := ok_want kn base tz
  obtain ⟨fA_is_triple, fd_is_triple, D_is_triple, F_is_triple⟩ := ok_is_triple kn base tz
  obtain ⟨fd_LeastRun_tick, D_LeastRun_tick, F_LeastRun_tick⟩ := ok_LeastRun_tick kn base tz
  obtain ⟨fd_Run_tick, D_Run_tick, F_Run_tick⟩ := ok_Run_tick kn base tz
  have bd_want_2 := bd_dfl (ps := ps_want) D_want [.int (-1)] rfl (by simp) 2 [] [0, 1, 2] rfl rfl (fun _ _ _ _ _ _ _ us ws its hu hw hi => match us, ws, its, hu, hw, hi with | [_, _], [], [_], _, _, _ => ⟨_, rfl, rfl⟩)
  have bd_is_triple_1 := bd_plain (ps := ps_is_triple) D_is_triple 1 [] [0] rfl rfl (fun _ _ _ _ _ _ us ws hu hw => match us, ws, hu, hw with | [_], [], _, _ => rfl)
  have bd_Run_tick_4 := bd_plain (ps := ps_Run_tick) D_Run_tick 4 [] [0, 1, 2, 3] rfl rfl (fun _ _ _ _ _ _ us ws hu hw => match us, ws, hu, hw with | [_, _, _, _], [], _, _ => rfl)
  have bd_LeastRun_tick_4 := bd_dfl (ps := ps_LeastRun_tick) D_LeastRun_tick [.non] rfl (by simp) 4 [] [0, 1, 2, 3] rfl rfl (fun _ _ _ _ _ _ _ us ws its hu hw hi => match us, ws, its, hu, hw, hi with | [_, _, _, _], [], [_], _, _, _ => ⟨_, rfl, rfl⟩)
  have MT_tick_3_0 : MtT T mg base 6 "tick" 3 [] [(0, (den_Run_tick, (gP [0, 1, 2, 3]))), (1, (den_LeastRun_tick, (gPd [0, 1, 2, 3] [.non])))] := (mtt_cons ⟨⟨_, (cl_Run kn).cl, me_Run_tick kn, fi_Run_tick kn, (RunsK.of (F_Run_tick.mono (by decide)) bd_Run_tick_4)⟩⟩ (mtt_cons ⟨⟨_, (cl_LeastRun kn).cl, me_LeastRun_tick kn, fi_LeastRun_tick kn, (RunsK.of (F_LeastRun_tick.mono (by decide)) bd_LeastRun_tick_4)⟩⟩ mtt_nil))
  have S := sc_Run___iadd__
  obtain ⟨fd, F⟩ := CfD.funD (kn.cd cf_Run___iadd__ (List.mem_of_getElem? (i := 14) rfl)) (cb_Run___iadd__ kn) rfl
  refine ⟨fd, F, fn_den F S fun cdv A outer s H E dx ow => ?_⟩
  exact (sb_cons (ss_expr (EE.weak (ee_call (F_want.mono (by decide)) dx bd_want_2 (by rfl) (eas_cons (ee_call (F_is_triple.mono (by decide)) dx bd_is_triple_1 (by rfl) (eas_cons (ee_v 1) eas_nil)) (eas_cons ee_str eas_nil)))))
  (sb_cons (ss_asg (ee_v 1) (gt_tup dx.calm dx.ok.K (gts_cons (gt_name 2 S.nd) (gts_cons (gt_name 3 S.nd) (gts_cons (gt_name 4 S.nd) gts_nil)))))
  (sb_cons (ss_expr (EE.weak (ee_meth MT_tick_3_0 dx (ew_v 0) (eas_cons (ee_v 2) (eas_cons (ee_v 3) (eas_cons (ee_v 4) eas_nil))))))
  (sb_one (ss_ret (ee_v 0))))))
theorem sc__law_added : FnScope N__law_added ps__law_added (defScope st__law_added) := ⟨rfl, rfl, rfl, by decide +kernel, rfl, by decide +kernel, by decide +kernel⟩
theorem ok__law_added (kn : Kn T h mg) (base : Heap) (tz : Tabs T mg base lamz) : ∃ fA fd, FunD T.K "_law_added" "_law_added" (defArgs st__law_added) (defBody st__law_added) (defScope st__law_added) [] [] fA fd ∧ FnN T mg base 8 "_law_added" ps__law_added fA fd den__law_added := by
  obtain ⟨fd_Run___iadd__, D_Run___iadd__, F_Run___iadd__⟩ := ok_Run___iadd__ kn base tz
  obtain ⟨fd_Run_run_now, D_Run_run_now, F_Run_run_now⟩ := ok_Run_run_now kn base tz
  have bd_Run___iadd___2 := bd_plain (ps := ps_Run___iadd__) D_Run___iadd__ 2 [] [0, 1] rfl rfl (fun _ _ _ _ _ _ us ws hu hw => match us, ws, hu, hw with | [_, _], [], _, _ => rfl)
  have bd_Run_run_now_1 := bd_plain (ps := ps_Run_run_now) D_Run_run_now 1 [] [0] rfl rfl (fun _ _ _ _ _ _ us ws hu hw => match us, ws, hu, hw with | [_], [], _, _ => rfl)
  have MT___iadd___1_0 : MtT T mg base 7 "__iadd__" 1 [] [(0, (den_Run___iadd__, (gP [0, 1]))), (1, (den_Run___iadd__, (gP [0, 1])))] := (mtt_cons ⟨⟨_, (cl_Run kn).cl, me_Run___iadd__ kn, fi_Run___iadd__ kn, (RunsK.of (F_Run___iadd__.mono (by decide)) bd_Run___iadd___2)⟩⟩ (mtt_cons ⟨⟨_, (cl_LeastRun kn).cl, me_LeastRun___iadd__ kn, fi_Run___iadd__ kn, (RunsK.of (F_Run___iadd__.mono (by decide)) bd_Run___iadd___2)⟩⟩ mtt_nil))
  have SF_MT___iadd___1_0 : ∀ c dg, ([(0, (den_Run___iadd__, (gP [0, 1]))), (1, (den_Run___iadd__, (gP [0, 1])))] : MtTab).lookup c = some dg → PySem.W.selfFirst T.K (T.oc c) = true := (lk_cons (by rw [oc_Run kn]; exact cf_self (cf_at kn.ca 34 rfl)) (lk_cons (by rw [oc_LeastRun kn]; exact cf_self (cf_at kn.ca 35 rfl)) lk_nil))
  have PT_run_now_0 : PrT T mg base 6 "run_now" [(0, den_Run_run_now), (1, den_Run_run_now)] := (prt_cons ⟨⟨_, _, _, _, _, _, (cl_Run kn).cl, pr_Run_run_now kn, (F_Run_run_now.mono (by decide)), bd_Run_run_now_1, fun _ => rfl⟩⟩ (prt_cons ⟨⟨_, _, _, _, _, _, (cl_LeastRun kn).cl, pr_LeastRun_run_now kn, (F_Run_run_now.mono (by decide)), bd_Run_run_now_1, fun _ => rfl⟩⟩ prt_nil))
  obtain ⟨fd, F⟩ := kn.c.def_ 27 (d := dd "_law_added" st__law_added []) rfl
  have S := sc__law_added
  refine ⟨_, fd, F, fn_den F S fun cdv A outer s H E dx ow => ?_, He.glo_ok kn.X kn.G (kn.c.fact 27 (f := .glo "_law_added") rfl), F.kp⟩
  exact (sb_cons (ss_augO 0 MT___iadd___1_0 dx rfl SF_MT___iadd___1_0 S.nd (ee_v 1))
  (sb_one (ss_ret (ee_prop PT_run_now_0 dx (ew_v 0)))))
theorem sc_Run___init__ : FnScope N_Run___init__ ps_Run___init__ (defScope st_Run___init__) := ⟨rfl, rfl, rfl, by decide +kernel, rfl, by decide +kernel, by decide +kernel⟩
theorem ok_Run___init__ (kn : Kn T h mg) (base : Heap) (tz : Tabs T mg base lamz) : ∃ fd, FunD T.K "__init__" "Run.__init__" (defArgs st_Run___init__) (defBody st_Run___init__) (defScope st_Run___init__) [] [] (cAd T.K cf_Run___init__) fd ∧ FnG T mg base 3 (cAd T.K cf_Run___init__) fd ps_Run___init__ den_Run___init__ := by
  obtain ⟨fA_want, fd_want, D_want, F_want⟩ := ok_want kn base tz
  obtain ⟨fA_starts_of, fd_starts_of, D_starts_of, F_starts_of⟩ := ok_starts_of kn base tz
  obtain ⟨fA_is_same_place, fd_is_same_place, D_is_same_place, F_is_same_place⟩ := ok_is_same_place kn base tz
  have fk_own_begin := fk_own_begin_of kn
  have fk_own_parts := fk_own_parts_of kn
  have fk_own_ticks := fk_own_ticks_of kn
  have bd_want_2 := bd_dfl (ps := ps_want) D_want [.int (-1)] rfl (by simp) 2 [] [0, 1, 2] rfl rfl (fun _ _ _ _ _ _ _ us ws its hu hw hi => match us, ws, its, hu, hw, hi with | [_, _], [], [_], _, _, _ => ⟨_, rfl, rfl⟩)
  have bd_starts_of_1 := bd_plain (ps := ps_starts_of) D_starts_of 1 [] [0] rfl rfl (fun _ _ _ _ _ _ us ws hu hw => match us, ws, hu, hw with | [_], [], _, _ => rfl)
  have bd_is_same_place_2 := bd_plain (ps := ps_is_same_place) D_is_same_place 2 [] [0, 1] rfl rfl (fun _ _ _ _ _ _ us ws hu hw => match us, ws, hu, hw with | [_, _], [], _, _ => rfl)
  have S := sc_Run___init__
  obtain ⟨fd, F⟩ := CfD.funD (kn.cd cf_Run___init__ (List.mem_of_getElem? (i := 15) rfl)) (cb_Run___init__ kn) rfl
  refine ⟨fd, F, fn_den F S fun cdv A outer s H E dx ow => ?_⟩
  exact (sb_cons (ss_expr (EE.weak (ee_call (F_want.mono (by decide)) dx bd_want_2 (by rfl) (eas_cons (ee_cmp (od_neF dx.ok dx.rm) (EE.weak (EF.val (ef_lc dx.calm S.nd (EI.weak (ei_v dx.ok (ee_call (F_starts_of.mono (by decide)) dx bd_starts_of_1 (by rfl) (eas_cons (ee_v 2) eas_nil)))) [("spot", 5)] (by rfl) (fun _ _ _ _ _ => (gt_name 5 S.nd)) (fun _ _ _ _ _ => (pts_one (eb_tr dx.blk.ok (EE.weak (ee_call (F_is_same_place.mono (by decide)) dx.blk bd_is_same_place_2 (by rfl) (eas_cons (ee_v 5) (eas_cons (ee_v 4) eas_nil))))))) (fun _ _ _ _ _ => (ee_v 5))))) (EE.weak (ee_lst eas_nil))) (eas_cons ee_str eas_nil)))))
  (sb_cons (ss_fld dx.ok fk_own_parts (ew_v 0) (ee_tup (eas_cons (ee_v 1) (eas_cons (ee_v 2) (eas_cons (ee_v 3) eas_nil)))))
  (sb_cons (ss_fld dx.ok fk_own_begin (ew_v 0) (ee_v 4))
  (sb_one (ss_fld dx.ok fk_own_ticks (ew_v 0) (ee_tup eas_nil))))))
theorem sc_LeastRun___init__ : SupScope N_LeastRun___init__ ps_LeastRun___init__ (defScope st_LeastRun___init__) := ⟨rfl, rfl, rfl, by decide +kernel, rfl, by decide +kernel, by decide +kernel, fun y h => (show ∀ p ∈ (defScope st_LeastRun___init__).names, p.2 = NameKind.free → p.1 = ("__class__" : Str) by decide +kernel) _ (PySem.mem_of_lookup h) rfl⟩
theorem ok_LeastRun___init__ (kn : Kn T h mg) (base : Heap) (tz : Tabs T mg base lamz) : ∃ cc cdv fd, FunS T.P T.K "__init__" "LeastRun.__init__" (defArgs st_LeastRun___init__) (defBody st_LeastRun___init__) (defScope st_LeastRun___init__) [.non] [] (cAd T.K cf_LeastRun___init__) cc (He.ga T.K "LeastRun") cdv fd ∧ FnG T mg base 4 (cAd T.K cf_LeastRun___init__) fd ps_LeastRun___init__ den_LeastRun___init__ := by
  have b_super := b_super_of kn
  obtain ⟨fA_starts_of, fd_starts_of, D_starts_of, F_starts_of⟩ := ok_starts_of kn base tz
  obtain ⟨fd_Run___init__, D_Run___init__, F_Run___init__⟩ := ok_Run___init__ kn base tz
  have bd_Run___init___5 := bd_plain (ps := ps_Run___init__) D_Run___init__ 5 [] [0, 1, 2, 3, 4] rfl rfl (fun _ _ _ _ _ _ us ws hu hw => match us, ws, hu, hw with | [_, _, _, _, _], [], _, _ => rfl)
  have bd_starts_of_1 := bd_plain (ps := ps_starts_of) D_starts_of 1 [] [0] rfl rfl (fun _ _ _ _ _ _ us ws hu hw => match us, ws, hu, hw with | [_], [], _, _ => rfl)
  have S := sc_LeastRun___init__
  obtain ⟨cc, cdv, fd, F⟩ := CfD.funS (P := T.P) (kn.cd cf_LeastRun___init__ (List.mem_of_getElem? (i := 16) rfl)) (cb_LeastRun___init__ kn) (List.all_eq_true.mp kn.cs _ (List.mem_of_getElem? (i := 0) rfl)) rfl
  have SF := supF_of (mg := mg) F rfl rfl (cf_clsIn (cf_at kn.ca 2 rfl)) (cf_op (cf_at kn.ca 36 rfl)) rfl rfl rfl rfl b_super (by rw [kn.P]; decide +kernel)
  have SC : ∀ c ∈ [1], SupC T.K (T.oc c) (He.ga T.K "LeastRun") (cAd T.K cf_Run___init__) := (sc_cons (by rw [oc_LeastRun kn]; exact cf_supr (cf_at kn.ca 36 rfl) (cf_cls (cf_at kn.ca 2 rfl)).cl) sc_nil)
  have SG := cf_supg (cb_Run___init__ kn)
  refine ⟨cc, cdv, fd, F, fn_supF F S fun A outer s H E dx => ?_⟩
  exact (pat_cons (sup_stmt SF SC SG (F_Run___init__.mono (by decide)) bd_Run___init___5 dx rfl (eas_cons (ee_v 1) (eas_cons (ee_v 2) (eas_cons (ee_v 3) (eas_cons (ee_if (eb_cmp (od_is2) (ew_v 4) (EE.weak ee_non)) (ee_ix dx.ok (EE.weak (ee_call (F_starts_of.mono (by decide)) dx bd_starts_of_1 (by rfl) (eas_cons (ee_v 2) eas_nil))) (EE.weak ee_int)) (ee_v 4)) eas_nil)))))
  (pat_sb sb_nil))
theorem sc__law_are_begins_right : FnScope N__law_are_begins_right ps__law_are_begins_right (defScope st__law_are_begins_right) := ⟨rfl, rfl, rfl, by decide +kernel, rfl, by decide +kernel, by decide +kernel⟩
theorem ok__law_are_begins_right (kn : Kn T h mg) (base : Heap) (tz : Tabs T mg base lamz) : ∃ fA fd, FunD T.K "_law_are_begins_right" "_law_are_begins_right" (defArgs st__law_are_begins_right) (defBody st__law_are_begins_right) (defScope st__law_are_begins_right) [] [] fA fd ∧ FnN T mg base 8 "_law_are_begins_right" ps__law_are_begins_right fA fd den__law_are_begins_right := by
  have b_repr := b_repr_of kn
  obtain ⟨fA__law_heard, HD__law_heard⟩ := ok__law_heard kn base
  have cg_LeastRun := cg_LeastRun_of kn
  have cg_Run := cg_Run_of kn
  have mk_LeastRun := mk_LeastRun_of kn
  have mk_Run := mk_Run_of kn
  obtain ⟨cc_LeastRun___init__, cdv_LeastRun___init__, fd_LeastRun___init__, D_LeastRun___init__, F_LeastRun___init__⟩ := ok_LeastRun___init__ kn base tz
  obtain ⟨fd_Run___init__, D_Run___init__, F_Run___init__⟩ := ok_Run___init__ kn base tz
  obtain ⟨fd_Run_fault_now, D_Run_fault_now, F_Run_fault_now⟩ := ok_Run_fault_now kn base tz
  obtain ⟨fd_Run_run_now, D_Run_run_now, F_Run_run_now⟩ := ok_Run_run_now kn base tz
  have bd_Run___init___5 := bd_plain (ps := ps_Run___init__) D_Run___init__ 5 [] [0, 1, 2, 3, 4] rfl rfl (fun _ _ _ _ _ _ us ws hu hw => match us, ws, hu, hw with | [_, _, _, _, _], [], _, _ => rfl)
  have bd_Run_run_now_1 := bd_plain (ps := ps_Run_run_now) D_Run_run_now 1 [] [0] rfl rfl (fun _ _ _ _ _ _ us ws hu hw => match us, ws, hu, hw with | [_], [], _, _ => rfl)
  have bd_LeastRun___init___5 := bdS_dfl (ps := ps_LeastRun___init__) D_LeastRun___init__ [.non] rfl (by simp) 5 [] [0, 1, 2, 3, 4] rfl rfl (fun _ _ _ _ _ _ us ws its hu hw hi => match us, ws, its, hu, hw, hi with | [_, _, _, _, _], [], [_], _, _, _ => ⟨_, rfl, rfl⟩)
  have bd_Run_fault_now_1 := bd_plain (ps := ps_Run_fault_now) D_Run_fault_now 1 [] [0] rfl rfl (fun _ _ _ _ _ _ us ws hu hw => match us, ws, hu, hw with | [_], [], _, _ => rfl)
  have bd_LeastRun___init___4 := bdS_dfl (ps := ps_LeastRun___init__) D_LeastRun___init__ [.non] rfl (by simp) 4 [] [0, 1, 2, 3, 4] rfl rfl (fun _ _ _ _ _ _ us ws its hu hw hi => match us, ws, its, hu, hw, hi with | [_, _, _, _], [], [_], _, _, _ => ⟨_, rfl, rfl⟩)
  have PT_run_now_2 : PrT T mg base 4 "run_now" [(0, den_Run_run_now), (1, den_Run_run_now)] := (prt_cons ⟨⟨_, _, _, _, _, _, (cl_Run kn).cl, pr_Run_run_now kn, (F_Run_run_now.mono (by decide)), bd_Run_run_now_1, fun _ => rfl⟩⟩ (prt_cons ⟨⟨_, _, _, _, _, _, (cl_LeastRun kn).cl, pr_LeastRun_run_now kn, (F_Run_run_now.mono (by decide)), bd_Run_run_now_1, fun _ => rfl⟩⟩ prt_nil))
  have PT_fault_now_2 : PrT T mg base 4 "fault_now" [(0, den_Run_fault_now), (1, den_Run_fault_now)] := (prt_cons ⟨⟨_, _, _, _, _, _, (cl_Run kn).cl, pr_Run_fault_now kn, (F_Run_fault_now.mono (by decide)), bd_Run_fault_now_1, fun _ => rfl⟩⟩ (prt_cons ⟨⟨_, _, _, _, _, _, (cl_LeastRun kn).cl, pr_LeastRun_fault_now kn, (F_Run_fault_now.mono (by decide)), bd_Run_fault_now_1, fun _ => rfl⟩⟩ prt_nil))
  obtain ⟨fd, F⟩ := kn.c.def_ 28 (d := dd "_law_are_begins_right" st__law_are_begins_right []) rfl
  have S := sc__law_are_begins_right
  have m0 : T.mks 0 = none := by rw [kn.mz]
  have tb_ := tz ("_law_are_begins_right", "_law_are_begins_right.<locals>.<lambda>") (by simp [lamz])
  refine ⟨_, fd, F, fn_denL (x0 := "_law_are_begins_right") F S fun A outer s H E dx ow => ?_, He.glo_ok kn.X kn.G (kn.c.fact 28 (f := .glo "_law_are_begins_right") rfl), F.kp⟩
  unfold m__law_are_begins_right m__law_are_begins_right_1 m__law_are_begins_right_2 m__law_are_begins_right_3 m__law_are_begins_right_4 m__law_are_begins_right_5 m__law_are_begins_right_6 m__law_are_begins_right_7
  exact (sb_cons (ss_set 2 S.nd (ee_tup (eas_cons (ee_tup (eas_cons ee_int (eas_cons ee_int eas_nil))) (eas_cons (ee_ix dx.ok (ew_v 1) (EE.weak ee_int)) eas_nil))))
  (sb_cons (ss_set 3 S.nd (ee_lst (eas_cons ee_non (eas_cons (ee_tup eas_nil) (eas_cons ee_int (eas_cons (ee_tup (eas_cons ee_int (eas_cons ee_int (eas_cons ee_int eas_nil)))) (eas_cons (ee_tup (eas_cons ee_int (eas_cons ee_int (eas_cons ee_int eas_nil)))) (eas_cons (ee_tup (eas_cons ee_int (eas_cons ee_int (eas_cons ee_int eas_nil)))) (eas_cons (ee_tup (eas_cons ee_int (eas_cons ee_int (eas_cons ee_int eas_nil)))) (eas_cons (ee_tup (eas_cons ee_int (eas_cons ee_int eas_nil))) (eas_cons (ee_lst (eas_cons ee_int (eas_cons ee_int (eas_cons ee_int eas_nil)))) eas_nil)))))))))))
  (sb_cons (ss_set 3 S.nd (ee_bin (od_add dx.ok) (ew_v 3) (EE.weak (ee_lst (eas_cons (ee_tup (eas_cons ee_bl (eas_cons ee_int (eas_cons ee_int eas_nil)))) (eas_cons (ee_tup (eas_cons ee_int (eas_cons ee_bl (eas_cons ee_int eas_nil)))) eas_nil))))))
  (sb_cons (ss_for ow dx.calm (ei_v dx.ok (ee_bin (od_add dx.ok) (ew_v 3) (EE.weak (ee_lst (eas_cons ee_str (eas_cons (ee_tup (eas_cons (ee_tup (eas_cons ee_int (eas_cons ee_int (eas_cons ee_int eas_nil)))) eas_nil)) (eas_cons (ee_un ud_neg (EE.weak ee_int)) (eas_cons (ee_tup (eas_cons ee_int (eas_cons (ee_lst (eas_cons ee_int eas_nil)) (eas_cons ee_int eas_nil)))) (eas_cons (ee_tup (eas_cons (ee_tup (eas_cons ee_int eas_nil)) (eas_cons ee_int (eas_cons ee_int eas_nil)))) eas_nil))))))))) (gt_name 4 S.nd)
  (sb_cons (ss_own 5 S.nd (ef_lst (eas_cons (ee_hr (HD__law_heard.mono (by decide)) dx m0 rfl rfl tb_ rfl (LamX.lamS_by rfl) rfl (fun _ _ _ _ _ => rfl) (fun _ _ _ _ _ _ _ dl => (ee_prop PT_run_now_2 dl (EE.weak (ee_new ⟨mk_Run, F_Run___init__.mono (by decide), cg_Run⟩ dl bd_Run___init___5 (by rfl) (eas_cons (ee_v 0) (eas_cons (ee_v 1) (eas_cons (ee_v 0) (eas_cons (ee_v 4) eas_nil))))))))) eas_nil)))
  (sb_cons (ss_append 5 dx.ok (ee_hr (HD__law_heard.mono (by decide)) dx m0 rfl rfl tb_ rfl (LamX.lamS_by rfl) rfl (fun _ _ _ _ _ => rfl) (fun _ _ _ _ _ _ _ dl => (ee_prop PT_run_now_2 dl (EE.weak (ee_new ⟨mk_LeastRun, F_LeastRun___init__.mono (by decide), cg_LeastRun⟩ dl bd_LeastRun___init___5 (by rfl) (eas_cons (ee_v 0) (eas_cons (ee_v 1) (eas_cons (ee_v 0) (eas_cons (ee_v 4) eas_nil))))))))))
  (sb_cons (ss_own 6 S.nd (ef_mul (EE.weak (ee_lst (eas_cons (ee_tup (eas_cons ee_str (eas_cons ee_str (eas_cons (ee_un ud_neg (EE.weak ee_int)) eas_nil)))) eas_nil))) (EE.weak ee_int)))
  (sb_cons (ss_if (eb_cmp (od_is2) (ew_v 4) (EE.weak ee_non))
  (sb_one (ss_stl 6 dx.ok ee_int (ee_tup (eas_cons ee_str (eas_cons (ee_tup (eas_cons (ee_tup (eas_cons ee_int (eas_cons ee_int (eas_cons ee_int eas_nil)))) (eas_cons (ee_tup eas_nil) eas_nil))) eas_nil)))))
  sb_nil)
  (sb_one (ss_if (eb_cmp (od_neF dx.ok dx.rm) (EE.weak (ee_call1 (ud_reprG dx.ok dx.rm) (ew_v 5) (by rfl) b_repr rfl)) (EE.weak (ee_call1 (ud_reprG dx.ok dx.rm) (ew_v 6) (by rfl) b_repr rfl)))
  (sb_one (ss_ret ee_bl))
  sb_nil)))))))
  (sb_cons (ss_own 5 S.nd (ef_lst (eas_cons (ee_hr (HD__law_heard.mono (by decide)) dx m0 rfl rfl tb_ rfl (LamX.lamS_by rfl) rfl (fun _ _ _ _ _ => rfl) (fun _ _ _ _ _ _ _ dl => (ee_prop PT_fault_now_2 dl (EE.weak (ee_new ⟨mk_Run, F_Run___init__.mono (by decide), cg_Run⟩ dl bd_Run___init___5 (by rfl) (eas_cons (ee_v 0) (eas_cons (ee_v 2) (eas_cons (ee_v 0) (eas_cons (ee_tup (eas_cons ee_int (eas_cons ee_int (eas_cons ee_int eas_nil)))) eas_nil))))))))) eas_nil)))
  (sb_cons (ss_append 5 dx.ok (ee_hr (HD__law_heard.mono (by decide)) dx m0 rfl rfl tb_ rfl (LamX.lamS_by rfl) rfl (fun _ _ _ _ _ => rfl) (fun _ _ _ _ _ _ _ dl => (ee_prop PT_fault_now_2 dl (EE.weak (ee_new ⟨mk_Run, F_Run___init__.mono (by decide), cg_Run⟩ dl bd_Run___init___5 (by rfl) (eas_cons (ee_v 0) (eas_cons (ee_v 2) (eas_cons (ee_v 0) (eas_cons (ee_tup (eas_cons ee_int (eas_cons ee_int (eas_cons ee_int eas_nil)))) eas_nil))))))))))
  (sb_cons (ss_append 5 dx.ok (ee_hr (HD__law_heard.mono (by decide)) dx m0 rfl rfl tb_ rfl (LamX.lamS_by rfl) rfl (fun _ _ _ _ _ => rfl) (fun _ _ _ _ _ _ _ dl => (ee_prop PT_fault_now_2 dl (EE.weak (ee_new ⟨mk_LeastRun, F_LeastRun___init__.mono (by decide), cg_LeastRun⟩ dl bd_LeastRun___init___4 (by rfl) (eas_cons (ee_v 0) (eas_cons (ee_tup (eas_cons (ee_tup (eas_cons ee_int eas_nil)) (eas_cons (ee_ix dl.ok (ew_v 1) (EE.weak ee_int)) eas_nil))) (eas_cons (ee_v 0) eas_nil)))))))))
  (sb_one (ss_ret (ee_cmp (od_eqF dx.ok dx.rm) (EE.weak (ee_call1 (ud_reprG dx.ok dx.rm) (ew_v 5) (by rfl) b_repr rfl)) (EE.weak (ee_call1 (ud_reprG dx.ok dx.rm) (EE.weak (ee_lst (eas_cons (ee_tup (eas_cons ee_str (eas_cons ee_str eas_nil))) (eas_cons (ee_tup (eas_cons ee_str (eas_cons ee_str (eas_cons (ee_un ud_neg (EE.weak ee_int)) eas_nil)))) (eas_cons (ee_tup (eas_cons ee_str (eas_cons ee_str eas_nil))) eas_nil))))) (by rfl) b_repr rfl))))))))))))
theorem sc__law_cases : FnScope N__law_cases ps__law_cases (defScope st__law_cases) := ⟨rfl, rfl, rfl, by decide +kernel, rfl, by decide +kernel, by decide +kernel⟩
theorem ok__law_cases (kn : Kn T h mg) (base : Heap) (tz : Tabs T mg base lamz) : ∃ fA fd, FunD T.K "_law_cases" "_law_cases" (defArgs st__law_cases) (defBody st__law_cases) (defScope st__law_cases) [] [] fA fd ∧ FnN T mg base 1 "_law_cases" ps__law_cases fA fd den__law_cases := by
  obtain ⟨fd, F⟩ := kn.c.def_ 29 (d := dd "_law_cases" st__law_cases []) rfl
  have S := sc__law_cases
  refine ⟨_, fd, F, fn_den F S fun cdv A outer s H E dx ow => ?_, He.glo_ok kn.X kn.G (kn.c.fact 29 (f := .glo "_law_cases") rfl), F.kp⟩
  exact (sb_cons (ss_asg (ee_v 0) (gt_tup dx.calm dx.ok.K (gts_cons (gt_name 1 S.nd) (gts_cons (gt_name 2 S.nd) (gts_cons (gt_name 3 S.nd) (gts_cons (gt_name 4 S.nd) gts_nil))))))
  (sb_cons (ss_set 5 S.nd (ee_lst (eas_cons (ee_tup (eas_cons (ee_tup (eas_cons (ee_v 1) (eas_cons (ee_v 3) (eas_cons ee_int eas_nil)))) (eas_cons ee_str eas_nil))) (eas_cons (ee_tup (eas_cons (ee_tup (eas_cons ee_non (eas_cons ee_non (eas_cons ee_non eas_nil)))) (eas_cons ee_str eas_nil))) (eas_cons (ee_tup (eas_cons (ee_tup (eas_cons (ee_tup (eas_cons (ee_v 2) eas_nil)) (eas_cons (ee_v 3) (eas_cons ee_int eas_nil)))) (eas_cons ee_str eas_nil))) eas_nil)))))
  (sb_cons (ss_set 5 S.nd (ee_bin (od_add dx.ok) (ew_v 5) (EE.weak (ee_lst (eas_cons (ee_tup (eas_cons (ee_tup (eas_cons ee_str (eas_cons ee_str (eas_cons ee_int eas_nil)))) (eas_cons ee_str eas_nil))) eas_nil)))))
  (sb_cons (ss_set 5 S.nd (ee_bin (od_add dx.ok) (ew_v 5) (EE.weak (ee_lst (eas_cons (ee_tup (eas_cons (ee_tup (eas_cons (ee_v 2) (eas_cons (ee_v 2) (eas_cons ee_int eas_nil)))) (eas_cons ee_str eas_nil))) (eas_cons (ee_tup (eas_cons (ee_tup (eas_cons (ee_v 2) (eas_cons ee_non (eas_cons ee_non eas_nil)))) (eas_cons ee_str eas_nil))) (eas_cons (ee_tup (eas_cons (ee_tup (eas_cons (ee_v 2) (eas_cons (ee_lst (eas_cons (ee_v 3) eas_nil)) (eas_cons ee_int eas_nil)))) (eas_cons ee_str eas_nil))) eas_nil)))))))
  (sb_cons (ss_set 5 S.nd (ee_bin (od_add dx.ok) (ew_v 5) (EE.weak (ee_lst (eas_cons (ee_tup (eas_cons (ee_tup (eas_cons (ee_v 2) (eas_cons ee_str (eas_cons (ee_un ud_neg (EE.weak ee_int)) eas_nil)))) (eas_cons ee_str eas_nil))) eas_nil)))))
  (sb_cons (ss_set 5 S.nd (ee_bin (od_add dx.ok) (ew_v 5) (EE.weak (ee_lst (eas_cons (ee_tup (eas_cons (ee_tup (eas_cons (ee_v 2) (eas_cons (ee_v 3) (eas_cons ee_int eas_nil)))) (eas_cons ee_str eas_nil))) (eas_cons (ee_tup (eas_cons (ee_tup (eas_cons (ee_v 2) (eas_cons (ee_v 3) (eas_cons ee_non eas_nil)))) (eas_cons ee_str eas_nil))) eas_nil))))))
  (sb_cons (ss_set 5 S.nd (ee_bin (od_add dx.ok) (ew_v 5) (EE.weak (ee_lst (eas_cons (ee_tup (eas_cons (ee_tup (eas_cons (ee_v 2) (eas_cons (ee_v 3) (eas_cons ee_bl eas_nil)))) (eas_cons ee_str eas_nil))) (eas_cons (ee_tup (eas_cons (ee_tup (eas_cons (ee_v 2) (eas_cons (ee_v 4) (eas_cons ee_str eas_nil)))) (eas_cons ee_str eas_nil))) eas_nil))))))
  (sb_one (ss_ret (ee_bin (od_add dx.ok) (ew_v 5) (EE.weak (ee_lst (eas_cons (ee_tup (eas_cons (ee_tup (eas_cons (ee_v 2) (eas_cons (ee_v 4) (eas_cons (ee_tup (eas_cons ee_int eas_nil)) eas_nil)))) (eas_cons ee_str eas_nil))) (eas_cons (ee_tup (eas_cons (ee_tup (eas_cons (ee_v 2) (eas_cons (ee_v 3) (eas_cons (ee_un ud_neg (EE.weak ee_int)) eas_nil)))) (eas_cons ee_str eas_nil))) (eas_cons (ee_tup (eas_cons (ee_tup (eas_cons (ee_v 2) (eas_cons (ee_v 4) (eas_cons ee_int eas_nil)))) (eas_cons ee_str eas_nil))) eas_nil)))))))))))))))
theorem sc_Run_tried : FnScope N_Run_tried ps_Run_tried (defScope st_Run_tried) := ⟨rfl, rfl, rfl, by decide +kernel, rfl, by decide +kernel, by decide +kernel⟩
theorem ok_Run_tried (kn : Kn T h mg) (base : Heap) (tz : Tabs T mg base lamz) : ∃ fd, FunD T.K "tried" "Run.tried" (defArgs st_Run_tried) (defBody st_Run_tried) (defScope st_Run_tried) [] [] (cAd T.K cf_Run_tried) fd ∧ ∀ n, 1 ≤ n → n ≤ 1000 → RunsK T mg base 6 (cAd T.K cf_Run_tried) den_Run_tried n [] (gStar 1) := by
  have b_enumerate := b_enumerate_of kn
  obtain ⟨fA_want, fd_want, D_want, F_want⟩ := ok_want kn base tz
  obtain ⟨fA_is_triple, fd_is_triple, D_is_triple, F_is_triple⟩ := ok_is_triple kn base tz
  obtain ⟨fd_LeastRun_tick_at, D_LeastRun_tick_at, F_LeastRun_tick_at⟩ := ok_LeastRun_tick_at kn base tz
  obtain ⟨fd_Run_place_now, D_Run_place_now, F_Run_place_now⟩ := ok_Run_place_now kn base tz
  obtain ⟨fd_Run_tick_at, D_Run_tick_at, F_Run_tick_at⟩ := ok_Run_tick_at kn base tz
  have bd_Run_place_now_1 := bd_plain (ps := ps_Run_place_now) D_Run_place_now 1 [] [0] rfl rfl (fun _ _ _ _ _ _ us ws hu hw => match us, ws, hu, hw with | [_], [], _, _ => rfl)
  have bd_want_3 := bd_dfl (ps := ps_want) D_want [.int (-1)] rfl (by simp) 3 [] [0, 1, 2] rfl rfl (fun _ _ _ _ _ _ _ us ws its hu hw hi => match us, ws, its, hu, hw, hi with | [_, _, _], [], [_], _, _, _ => ⟨_, rfl, rfl⟩)
  have bd_is_triple_1 := bd_plain (ps := ps_is_triple) D_is_triple 1 [] [0] rfl rfl (fun _ _ _ _ _ _ us ws hu hw => match us, ws, hu, hw with | [_], [], _, _ => rfl)
  have bd_Run_tick_at_5 := bd_plain (ps := ps_Run_tick_at) D_Run_tick_at 5 [] [0, 1, 2, 3, 4] rfl rfl (fun _ _ _ _ _ _ us ws hu hw => match us, ws, hu, hw with | [_, _, _, _, _], [], _, _ => rfl)
  have bd_LeastRun_tick_at_5 := bd_plain (ps := ps_LeastRun_tick_at) D_LeastRun_tick_at 5 [] [0, 1, 2, 3, 4] rfl rfl (fun _ _ _ _ _ _ us ws hu hw => match us, ws, hu, hw with | [_, _, _, _, _], [], _, _ => rfl)
  have PT_place_now_0 : PrT T mg base 4 "place_now" [(0, den_Run_place_now), (1, den_Run_place_now)] := (prt_cons ⟨⟨_, _, _, _, _, _, (cl_Run kn).cl, pr_Run_place_now kn, (F_Run_place_now.mono (by decide)), bd_Run_place_now_1, fun _ => rfl⟩⟩ (prt_cons ⟨⟨_, _, _, _, _, _, (cl_LeastRun kn).cl, pr_LeastRun_place_now kn, (F_Run_place_now.mono (by decide)), bd_Run_place_now_1, fun _ => rfl⟩⟩ prt_nil))
  have MT_tick_at_4_0 : MtT T mg base 5 "tick_at" 4 [] [(0, (den_Run_tick_at, (gP [0, 1, 2, 3, 4]))), (1, (den_LeastRun_tick_at, (gP [0, 1, 2, 3, 4])))] := (mtt_cons ⟨⟨_, (cl_Run kn).cl, me_Run_tick_at kn, fi_Run_tick_at kn, (RunsK.of (F_Run_tick_at.mono (by decide)) bd_Run_tick_at_5)⟩⟩ (mtt_cons ⟨⟨_, (cl_LeastRun kn).cl, me_LeastRun_tick_at kn, fi_LeastRun_tick_at kn, (RunsK.of (F_LeastRun_tick_at.mono (by decide)) bd_LeastRun_tick_at_5)⟩⟩ mtt_nil))
  have S := sc_Run_tried
  obtain ⟨fd, F⟩ := CfD.funD (kn.cd cf_Run_tried (List.mem_of_getElem? (i := 17) rfl)) (cb_Run_tried kn) rfl
  refine ⟨fd, F, fun n h1 h2 => RunsK.star (ps := ["self"]) (pv := "ticks") F S (star_b F (StX.bind_star1 (B := fun l => bindArgs _ ⟨l, []⟩) (fun _ => rfl) (fun _ _ _ => rfl))) (fun cdv A outer s H E dx ow => ?_) rfl h1 h2⟩
  exact (sb_cons (ss_set 2 S.nd (ee_prop PT_place_now_0 dx (ew_v 0)))
  (sb_cons (ss_for ow dx.calm (ei_en dx.ok rfl b_enumerate (ee_v 1)) (gt_tup dx.calm dx.ok.K (gts_cons (gt_name 3 S.nd) (gts_cons (gt_name 4 S.nd) gts_nil)))
  (sb_cons (ss_expr (EE.weak (ee_call (F_want.mono (by decide)) dx bd_want_3 (by rfl) (eas_cons (ee_call (F_is_triple.mono (by decide)) dx bd_is_triple_1 (by rfl) (eas_cons (ee_v 4) eas_nil)) (eas_cons ee_str (eas_cons (ee_v 3) eas_nil))))))
  (sb_cons (ss_asg (ee_v 4) (gt_tup dx.calm dx.ok.K (gts_cons (gt_name 5 S.nd) (gts_cons (gt_name 6 S.nd) (gts_cons (gt_name 7 S.nd) gts_nil)))))
  (sb_one (ss_set 2 S.nd (ee_ix dx.ok (EE.weak (ee_meth MT_tick_at_4_0 dx (ew_v 0) (eas_cons (ee_v 2) (eas_cons (ee_v 5) (eas_cons (ee_v 6) (eas_cons (ee_v 7) eas_nil)))))) (EE.weak ee_int)))))))
  (sb_one (ss_ret (ee_v 2)))))
theorem sc__law_are_ticks_right : FnScope N__law_are_ticks_right ps__law_are_ticks_right (defScope st__law_are_ticks_right) := ⟨rfl, rfl, rfl, by decide +kernel, rfl, by decide +kernel, by decide +kernel⟩
theorem ok__law_are_ticks_right (kn : Kn T h mg) (base : Heap) (tz : Tabs T mg base lamz) : ∃ fA fd, FunD T.K "_law_are_ticks_right" "_law_are_ticks_right" (defArgs st__law_are_ticks_right) (defBody st__law_are_ticks_right) (defScope st__law_are_ticks_right) [] [] fA fd ∧ FnN T mg base 11 "_law_are_ticks_right" ps__law_are_ticks_right fA fd den__law_are_ticks_right := by
  have b_len := b_len_of kn
  have b_list := b_list_of kn
  have b_repr := b_repr_of kn
  obtain ⟨fA__law_cases, fd__law_cases, D__law_cases, F__law_cases⟩ := ok__law_cases kn base tz
  obtain ⟨fA__law_heard, HD__law_heard⟩ := ok__law_heard kn base
  obtain ⟨fA__law_book_told, fd__law_book_told, D__law_book_told, F__law_book_told⟩ := ok__law_book_told kn base tz
  obtain ⟨fA__law_book_due, fd__law_book_due, D__law_book_due, F__law_book_due⟩ := ok__law_book_due kn base tz
  obtain ⟨fA__law_added, fd__law_added, D__law_added, F__law_added⟩ := ok__law_added kn base tz
  have cg_LeastRun := cg_LeastRun_of kn
  have cg_Run := cg_Run_of kn
  have mk_LeastRun := mk_LeastRun_of kn
  have mk_Run := mk_Run_of kn
  obtain ⟨cc_LeastRun___init__, cdv_LeastRun___init__, fd_LeastRun___init__, D_LeastRun___init__, F_LeastRun___init__⟩ := ok_LeastRun___init__ kn base tz
  obtain ⟨fd_LeastRun_tick, D_LeastRun_tick, F_LeastRun_tick⟩ := ok_LeastRun_tick kn base tz
  obtain ⟨fd_Run___init__, D_Run___init__, F_Run___init__⟩ := ok_Run___init__ kn base tz
  obtain ⟨fd_Run___len__, D_Run___len__, F_Run___len__⟩ := ok_Run___len__ kn base tz
  obtain ⟨fd_Run_run_now, D_Run_run_now, F_Run_run_now⟩ := ok_Run_run_now kn base tz
  obtain ⟨fd_Run_tick, D_Run_tick, F_Run_tick⟩ := ok_Run_tick kn base tz
  obtain ⟨fd_Run_tried, D_Run_tried, F_Run_tried⟩ := ok_Run_tried kn base tz
  have bd_Run___init___5 := bd_plain (ps := ps_Run___init__) D_Run___init__ 5 [] [0, 1, 2, 3, 4] rfl rfl (fun _ _ _ _ _ _ us ws hu hw => match us, ws, hu, hw with | [_, _, _, _, _], [], _, _ => rfl)
  have bd__law_cases_1 := bd_plain (ps := ps__law_cases) D__law_cases 1 [] [0] rfl rfl (fun _ _ _ _ _ _ us ws hu hw => match us, ws, hu, hw with | [_], [], _, _ => rfl)
  have bd_Run_tick_4 := bd_plain (ps := ps_Run_tick) D_Run_tick 4 [] [0, 1, 2, 3] rfl rfl (fun _ _ _ _ _ _ us ws hu hw => match us, ws, hu, hw with | [_, _, _, _], [], _, _ => rfl)
  have bd_LeastRun_tick_4 := bd_dfl (ps := ps_LeastRun_tick) D_LeastRun_tick [.non] rfl (by simp) 4 [] [0, 1, 2, 3] rfl rfl (fun _ _ _ _ _ _ _ us ws its hu hw hi => match us, ws, its, hu, hw, hi with | [_, _, _, _], [], [_], _, _, _ => ⟨_, rfl, rfl⟩)
  have bd__law_added_2 := bd_plain (ps := ps__law_added) D__law_added 2 [] [0, 1] rfl rfl (fun _ _ _ _ _ _ us ws hu hw => match us, ws, hu, hw with | [_, _], [], _, _ => rfl)
  have bd__law_book_told_1 := bd_plain (ps := ps__law_book_told) D__law_book_told 1 [] [0] rfl rfl (fun _ _ _ _ _ _ us ws hu hw => match us, ws, hu, hw with | [_], [], _, _ => rfl)
  have bd__law_book_due_3 := bd_plain (ps := ps__law_book_due) D__law_book_due 3 [] [0, 1, 2] rfl rfl (fun _ _ _ _ _ _ us ws hu hw => match us, ws, hu, hw with | [_, _, _], [], _, _ => rfl)
  have bd_LeastRun___init___4 := bdS_dfl (ps := ps_LeastRun___init__) D_LeastRun___init__ [.non] rfl (by simp) 4 [] [0, 1, 2, 3, 4] rfl rfl (fun _ _ _ _ _ _ us ws its hu hw hi => match us, ws, its, hu, hw, hi with | [_, _, _, _], [], [_], _, _, _ => ⟨_, rfl, rfl⟩)
  have bd_LeastRun_tick_3 := bd_dfl (ps := ps_LeastRun_tick) D_LeastRun_tick [.non] rfl (by simp) 3 [] [0, 1, 2, 3] rfl rfl (fun _ _ _ _ _ _ _ us ws its hu hw hi => match us, ws, its, hu, hw, hi with | [_, _, _], [], [_], _, _, _ => ⟨_, rfl, rfl⟩)
  have bd_Run___len___1 := bd_plain (ps := ps_Run___len__) D_Run___len__ 1 [] [0] rfl rfl (fun _ _ _ _ _ _ us ws hu hw => match us, ws, hu, hw with | [_], [], _, _ => rfl)
  have bd_Run_run_now_1 := bd_plain (ps := ps_Run_run_now) D_Run_run_now 1 [] [0] rfl rfl (fun _ _ _ _ _ _ us ws hu hw => match us, ws, hu, hw with | [_], [], _, _ => rfl)
  have MT_tick_3_2 : MtT T mg base 8 "tick" 3 [] [(0, (den_Run_tick, (gP [0, 1, 2, 3]))), (1, (den_LeastRun_tick, (gPd [0, 1, 2, 3] [.non])))] := (mtt_cons ⟨⟨_, (cl_Run kn).cl, me_Run_tick kn, fi_Run_tick kn, (RunsK.of (F_Run_tick.mono (by decide)) bd_Run_tick_4)⟩⟩ (mtt_cons ⟨⟨_, (cl_LeastRun kn).cl, me_LeastRun_tick kn, fi_LeastRun_tick kn, (RunsK.of (F_LeastRun_tick.mono (by decide)) bd_LeastRun_tick_4)⟩⟩ mtt_nil))
  have MT_tried_2_2 : MtT T mg base 8 "tried" 2 [] [(0, (den_Run_tried, (gStar 1))), (1, (den_Run_tried, (gStar 1)))] := (mtt_cons ⟨⟨_, (cl_Run kn).cl, me_Run_tried kn, fi_Run_tried kn, ((F_Run_tried 3 (by decide) (by decide)).mono (by decide))⟩⟩ (mtt_cons ⟨⟨_, (cl_LeastRun kn).cl, me_LeastRun_tried kn, fi_Run_tried kn, ((F_Run_tried 3 (by decide) (by decide)).mono (by decide))⟩⟩ mtt_nil))
  have MT_tick_2_2 : MtT T mg base 8 "tick" 2 [] [(1, (den_LeastRun_tick, (gPd [0, 1, 2, 3] [.non])))] := (mtt_cons ⟨⟨_, (cl_LeastRun kn).cl, me_LeastRun_tick kn, fi_LeastRun_tick kn, (RunsK.of (F_LeastRun_tick.mono (by decide)) bd_LeastRun_tick_3)⟩⟩ mtt_nil)
  have MT_tried_1_2 : MtT T mg base 8 "tried" 1 [] [(0, (den_Run_tried, (gStar 1))), (1, (den_Run_tried, (gStar 1)))] := (mtt_cons ⟨⟨_, (cl_Run kn).cl, me_Run_tried kn, fi_Run_tried kn, ((F_Run_tried 2 (by decide) (by decide)).mono (by decide))⟩⟩ (mtt_cons ⟨⟨_, (cl_LeastRun kn).cl, me_LeastRun_tried kn, fi_Run_tried kn, ((F_Run_tried 2 (by decide) (by decide)).mono (by decide))⟩⟩ mtt_nil))
  have MT___len___0_1 : MtT T mg base 9 "__len__" 0 [] [(0, (den_Run___len__, (gP [0]))), (1, (den_Run___len__, (gP [0])))] := (mtt_cons ⟨⟨_, (cl_Run kn).cl, me_Run___len__ kn, fi_Run___len__ kn, (RunsK.of (F_Run___len__.mono (by decide)) bd_Run___len___1)⟩⟩ (mtt_cons ⟨⟨_, (cl_LeastRun kn).cl, me_LeastRun___len__ kn, fi_Run___len__ kn, (RunsK.of (F_Run___len__.mono (by decide)) bd_Run___len___1)⟩⟩ mtt_nil))
  have MT_tried_3_2 : MtT T mg base 8 "tried" 3 [] [(0, (den_Run_tried, (gStar 1))), (1, (den_Run_tried, (gStar 1)))] := (mtt_cons ⟨⟨_, (cl_Run kn).cl, me_Run_tried kn, fi_Run_tried kn, ((F_Run_tried 4 (by decide) (by decide)).mono (by decide))⟩⟩ (mtt_cons ⟨⟨_, (cl_LeastRun kn).cl, me_LeastRun_tried kn, fi_Run_tried kn, ((F_Run_tried 4 (by decide) (by decide)).mono (by decide))⟩⟩ mtt_nil))
  have PT_run_now_0 : PrT T mg base 9 "run_now" [(0, den_Run_run_now), (1, den_Run_run_now)] := (prt_cons ⟨⟨_, _, _, _, _, _, (cl_Run kn).cl, pr_Run_run_now kn, (F_Run_run_now.mono (by decide)), bd_Run_run_now_1, fun _ => rfl⟩⟩ (prt_cons ⟨⟨_, _, _, _, _, _, (cl_LeastRun kn).cl, pr_LeastRun_run_now kn, (F_Run_run_now.mono (by decide)), bd_Run_run_now_1, fun _ => rfl⟩⟩ prt_nil))
  obtain ⟨fd, F⟩ := kn.c.def_ 30 (d := dd "_law_are_ticks_right" st__law_are_ticks_right []) rfl
  have S := sc__law_are_ticks_right
  have m0 : T.mks 0 = none := by rw [kn.mz]
  have tb_ := tz ("_law_are_ticks_right", "_law_are_ticks_right.<locals>.<lambda>") (by simp [lamz])
  refine ⟨_, fd, F, fn_denL (x0 := "_law_are_ticks_right") F S fun A outer s H E dx ow => ?_, He.glo_ok kn.X kn.G (kn.c.fact 30 (f := .glo "_law_are_ticks_right") rfl), F.kp⟩
  unfold m__law_are_ticks_right m__law_are_ticks_right_1 m__law_are_ticks_right_2 m__law_are_ticks_right_3 m__law_are_ticks_right_4 m__law_are_ticks_right_5 m__law_are_ticks_right_6 m__law_are_ticks_right_7 m__law_are_ticks_right_8 m__law_are_ticks_right_9 m__law_are_ticks_right_10
  exact (sb_cons (ss_set 3 S.nd (ee_new ⟨mk_Run, F_Run___init__.mono (by decide), cg_Run⟩ dx bd_Run___init___5 (by rfl) (eas_cons (ee_v 0) (eas_cons (ee_v 1) (eas_cons (ee_v 0) (eas_cons (ee_tup (eas_cons ee_int (eas_cons ee_int (eas_cons ee_int eas_nil)))) eas_nil))))))
  (sb_cons (ss_for ow dx.calm (ei_v dx.ok (ee_call (F__law_cases.mono (by decide)) dx bd__law_cases_1 (by rfl) (eas_cons (ee_v 2) eas_nil))) (gt_tup dx.calm dx.ok.K (gts_cons (gt_name 4 S.nd) (gts_cons (gt_name 5 S.nd) gts_nil)))
  (sb_cons (ss_own 6 S.nd (ef_lst (eas_cons (ee_hr (HD__law_heard.mono (by decide)) dx m0 rfl rfl tb_ rfl (LamX.lamS_by rfl) rfl (fun _ _ _ _ _ => rfl) (fun _ _ _ _ _ _ _ dl => (ee_meth MT_tick_3_2 dl (ew_v 3) (eas_cons (ee_ix dl.ok (ew_v 4) (EE.weak ee_int)) (eas_cons (ee_ix dl.ok (ew_v 4) (EE.weak ee_int)) (eas_cons (ee_ix dl.ok (ew_v 4) (EE.weak ee_int)) eas_nil)))))) eas_nil)))
  (sb_cons (ss_append 6 dx.ok (ee_hr (HD__law_heard.mono (by decide)) dx m0 rfl rfl tb_ rfl (LamX.lamS_by rfl) rfl (fun _ _ _ _ _ => rfl) (fun _ _ _ _ _ _ _ dl => (ee_call (F__law_added.mono (by decide)) dl bd__law_added_2 (by rfl) (eas_cons (ee_v 3) (eas_cons (ee_v 4) eas_nil))))))
  (sb_cons (ss_append 6 dx.ok (ee_hr (HD__law_heard.mono (by decide)) dx m0 rfl rfl tb_ rfl (LamX.lamS_by rfl) rfl (fun _ _ _ _ _ => rfl) (fun _ _ _ _ _ _ _ dl => (ee_meth MT_tried_2_2 dl (ew_v 3) (eas_cons (ee_tup (eas_cons (ee_ix dl.ok (ew_v 2) (EE.weak ee_int)) (eas_cons (ee_ix dl.ok (ew_v 2) (EE.weak ee_int)) (eas_cons ee_int eas_nil)))) (eas_cons (ee_v 4) eas_nil))))))
  (sb_cons (ss_set 7 S.nd (ee_if (eb_p (ep_or (eb_cmp (od_neF dx.ok dx.rm) (ew_v 5) (EE.weak ee_str)) (ep_or1 (eb_cmp (od_neF dx.ok dx.rm) (EE.weak (ee_ix dx.ok (ew_v 4) (EE.weak ee_int))) (EE.weak (ee_ix dx.ok (ew_v 2) (EE.weak ee_int))))))) (ee_v 5) ee_str))
  (sb_cons (ss_if (eb_p (ep_or (eb_cmp (od_neF dx.ok dx.rm) (EE.weak (ee_call1 (ud_reprG dx.ok dx.rm) (EE.weak (ee_sl dx.ok (ew_v 6) eo_no (eo_is (EE.weak ee_int)))) (by rfl) b_repr rfl)) (EE.weak (ee_call1 (ud_reprG dx.ok dx.rm) (EE.weak (ee_bin (od_mul2 dx.ok) (EE.weak (ee_lst (eas_cons (ee_tup (eas_cons ee_str (eas_cons (ee_v 5) (eas_cons (ee_un ud_neg (EE.weak ee_int)) eas_nil)))) eas_nil))) (EE.weak ee_int))) (by rfl) b_repr rfl))) (ep_or1 (eb_p (ep_and (eb_cmp (od_neF dx.ok dx.rm) (ew_v 7) (EE.weak ee_str)) (ep_and1 (eb_cmp (od_neF dx.ok dx.rm) (EE.weak (ee_ix dx.ok (ew_v 6) (EE.weak ee_int))) (EE.weak (ee_tup (eas_cons ee_str (eas_cons (ee_v 5) (eas_cons (ee_un ud_neg (EE.weak ee_int)) eas_nil))))))))))))
  (sb_one (ss_ret ee_bl))
  sb_nil)
  (sb_one (ss_if (eb_cmp (od_neF dx.ok dx.rm) (EE.weak (ee_call1 (ud_reprG dx.ok dx.rm) (EE.weak (ee_call (F__law_book_told.mono (by decide)) dx bd__law_book_told_1 (by rfl) (eas_cons (ee_v 3) eas_nil))) (by rfl) b_repr rfl)) (EE.weak (ee_call1 (ud_reprG dx.ok dx.rm) (EE.weak (ee_call (F__law_book_due.mono (by decide)) dx bd__law_book_due_3 (by rfl) (eas_cons (ee_tup (eas_cons (ee_v 0) (eas_cons (ee_v 1) (eas_cons (ee_v 0) eas_nil)))) (eas_cons (ee_tup (eas_cons ee_int (eas_cons ee_int (eas_cons ee_int eas_nil)))) (eas_cons (ee_lst eas_nil) eas_nil))))) (by rfl) b_repr rfl)))
  (sb_one (ss_ret ee_bl))
  sb_nil))))))))
  (sb_cons (ss_set 8 S.nd (ee_new ⟨mk_LeastRun, F_LeastRun___init__.mono (by decide), cg_LeastRun⟩ dx bd_LeastRun___init___4 (by rfl) (eas_cons (ee_v 0) (eas_cons (ee_v 1) (eas_cons (ee_v 0) eas_nil)))))
  (sb_cons (ss_set 9 S.nd (ee_lst (eas_cons (ee_tup (eas_cons (ee_tup (eas_cons (ee_lst (eas_cons ee_str eas_nil)) (eas_cons (ee_ix dx.ok (ew_v 2) (EE.weak ee_int)) (eas_cons ee_non eas_nil)))) (eas_cons ee_str eas_nil))) (eas_cons (ee_tup (eas_cons (ee_tup (eas_cons (ee_ix dx.ok (ew_v 2) (EE.weak ee_int)) (eas_cons (ee_lst (eas_cons (ee_ix dx.ok (ew_v 2) (EE.weak ee_int)) eas_nil)) (eas_cons ee_non eas_nil)))) (eas_cons ee_str eas_nil))) eas_nil))))
  (sb_cons (ss_set 9 S.nd (ee_bin (od_add dx.ok) (ew_v 9) (EE.weak (ee_lst (eas_cons (ee_tup (eas_cons (ee_tup (eas_cons (ee_lst eas_nil) (eas_cons (ee_lst eas_nil) (eas_cons ee_non eas_nil)))) (eas_cons ee_str eas_nil))) eas_nil)))))
  (sb_cons (ss_for ow dx.calm (ei_v dx.ok (ee_bin (od_add dx.ok) (EE.weak (ee_call (F__law_cases.mono (by decide)) dx bd__law_cases_1 (by rfl) (eas_cons (ee_v 2) eas_nil))) (ew_v 9))) (gt_tup dx.calm dx.ok.K (gts_cons (gt_name 4 S.nd) (gts_cons (gt_name 5 S.nd) gts_nil)))
  (sb_one (ss_if (eb_cmp (od_neF dx.ok dx.rm) (ew_v 5) (EE.weak ee_str))
  (sb_cons (ss_own 6 S.nd (ef_lst (eas_cons (ee_hr (HD__law_heard.mono (by decide)) dx m0 rfl rfl tb_ rfl (LamX.lamS_by rfl) rfl (fun _ _ _ _ _ => rfl) (fun _ _ _ _ _ _ _ dl => (ee_meth MT_tick_2_2 dl (ew_v 8) (eas_cons (ee_ix dl.ok (ew_v 4) (EE.weak ee_int)) (eas_cons (ee_ix dl.ok (ew_v 4) (EE.weak ee_int)) eas_nil))))) eas_nil)))
  (sb_cons (ss_append 6 dx.ok (ee_hr (HD__law_heard.mono (by decide)) dx m0 rfl rfl tb_ rfl (LamX.lamS_by rfl) rfl (fun _ _ _ _ _ => rfl) (fun _ _ _ _ _ _ _ dl => (ee_meth MT_tick_3_2 dl (ew_v 8) (eas_cons (ee_ix dl.ok (ew_v 4) (EE.weak ee_int)) (eas_cons (ee_ix dl.ok (ew_v 4) (EE.weak ee_int)) (eas_cons ee_non eas_nil)))))))
  (sb_cons (ss_append 6 dx.ok (ee_hr (HD__law_heard.mono (by decide)) dx m0 rfl rfl tb_ rfl (LamX.lamS_by rfl) rfl (fun _ _ _ _ _ => rfl) (fun _ _ _ _ _ _ _ dl => (ee_meth MT_tried_1_2 dl (ew_v 8) (eas_cons (ee_tup (eas_cons (ee_ix dl.ok (ew_v 4) (EE.weak ee_int)) (eas_cons (ee_ix dl.ok (ew_v 4) (EE.weak ee_int)) (eas_cons ee_non eas_nil)))) eas_nil)))))
  (sb_cons (ss_append 6 dx.ok (ee_hr (HD__law_heard.mono (by decide)) dx m0 rfl rfl tb_ rfl (LamX.lamS_by rfl) rfl (fun _ _ _ _ _ => rfl) (fun _ _ _ _ _ _ _ dl => (ee_call (F__law_added.mono (by decide)) dl bd__law_added_2 (by rfl) (eas_cons (ee_v 8) (eas_cons (ee_tup (eas_cons (ee_ix dl.ok (ew_v 4) (EE.weak ee_int)) (eas_cons (ee_ix dl.ok (ew_v 4) (EE.weak ee_int)) (eas_cons ee_non eas_nil)))) eas_nil))))))
  (sb_one (ss_if (eb_p (ep_or (eb_cmp (od_neF dx.ok dx.rm) (ew_v 6) (EE.weak (ee_bin (od_mul2 dx.ok) (EE.weak (ee_lst (eas_cons (ee_tup (eas_cons ee_str (eas_cons (ee_v 5) (eas_cons (ee_un ud_neg (EE.weak ee_int)) eas_nil)))) eas_nil))) (EE.weak ee_int)))) (ep_or1 (eb_cmp (od_neF dx.ok dx.rm) (EE.weak (ee_lenO MT___len___0_1 dx (ew_v 8) (by rfl) b_len)) (EE.weak ee_int)))))
  (sb_one (ss_ret ee_bl))
  sb_nil))))))
  sb_nil)))
  (sb_cons (ss_set 10 S.nd (ee_tup (eas_cons (ee_ix dx.ok (ew_v 2) (EE.weak ee_int)) (eas_cons (ee_ix dx.ok (ew_v 2) (EE.weak ee_int)) (eas_cons ee_int eas_nil)))))
  (sb_cons (ss_for ow dx.calm (ei_v dx.ok (ee_lst (eas_cons ee_non (eas_cons (ee_tup eas_nil) (eas_cons (ee_sl dx.ok (ew_v 10) eo_no (eo_is (EE.weak ee_int))) (eas_cons (ee_callT (ud_list dx.ok) (ew_v 10) (by rfl) b_list rfl) (eas_cons (ee_bin (od_add dx.ok) (ew_v 10) (EE.weak (ee_tup (eas_cons ee_int eas_nil)))) (eas_cons ee_int (eas_cons ee_str (eas_cons (ee_tup (eas_cons (ee_v 10) eas_nil)) (eas_cons ee_bl eas_nil))))))))))) (gt_name 11 S.nd)
  (sb_cons (ss_own 6 S.nd (ef_lst (eas_cons (ee_hr (HD__law_heard.mono (by decide)) dx m0 rfl rfl tb_ rfl (LamX.lamS_by rfl) rfl (fun _ _ _ _ _ => rfl) (fun _ _ _ _ _ _ _ dl => (ee_call (F__law_added.mono (by decide)) dl bd__law_added_2 (by rfl) (eas_cons (ee_v 3) (eas_cons (ee_v 11) eas_nil))))) eas_nil)))
  (sb_cons (ss_append 6 dx.ok (ee_hr (HD__law_heard.mono (by decide)) dx m0 rfl rfl tb_ rfl (LamX.lamS_by rfl) rfl (fun _ _ _ _ _ => rfl) (fun _ _ _ _ _ _ _ dl => (ee_meth MT_tried_2_2 dl (ew_v 3) (eas_cons (ee_v 11) (eas_cons (ee_v 10) eas_nil))))))
  (sb_cons (ss_append 6 dx.ok (ee_hr (HD__law_heard.mono (by decide)) dx m0 rfl rfl tb_ rfl (LamX.lamS_by rfl) rfl (fun _ _ _ _ _ => rfl) (fun _ _ _ _ _ _ _ dl => (ee_meth MT_tried_2_2 dl (ew_v 3) (eas_cons (ee_v 10) (eas_cons (ee_v 11) eas_nil))))))
  (sb_one (ss_if (eb_cmp (od_neF dx.ok dx.rm) (ew_v 6) (EE.weak (ee_lst (eas_cons (ee_tup (eas_cons ee_str (eas_cons ee_str (eas_cons (ee_un ud_neg (EE.weak ee_int)) eas_nil)))) (eas_cons (ee_tup (eas_cons ee_str (eas_cons ee_str (eas_cons ee_int eas_nil)))) (eas_cons (ee_tup (eas_cons ee_str (eas_cons ee_str (eas_cons ee_int eas_nil)))) eas_nil))))))
  (sb_one (ss_ret ee_bl))
  sb_nil))))))
  (sb_cons (ss_own 6 S.nd (ef_lst (eas_cons (ee_hr (HD__law_heard.mono (by decide)) dx m0 rfl rfl tb_ rfl (LamX.lamS_by rfl) rfl (fun _ _ _ _ _ => rfl) (fun _ _ _ _ _ _ _ dl => (ee_meth MT_tried_2_2 dl (ew_v 3) (eas_cons (ee_tup (eas_cons ee_str (eas_cons (ee_ix dl.ok (ew_v 2) (EE.weak ee_int)) (eas_cons ee_int eas_nil)))) (eas_cons ee_non eas_nil))))) eas_nil)))
  (sb_cons (ss_append 6 dx.ok (ee_hr (HD__law_heard.mono (by decide)) dx m0 rfl rfl tb_ rfl (LamX.lamS_by rfl) rfl (fun _ _ _ _ _ => rfl) (fun _ _ _ _ _ _ _ dl => (ee_meth MT_tried_3_2 dl (ew_v 3) (eas_cons (ee_v 10) (eas_cons (ee_v 10) (eas_cons ee_non eas_nil)))))))
  (sb_one (ss_ret (ee_and dx.ok (ee_cmp (od_eqF dx.ok dx.rm) (ew_v 6) (EE.weak (ee_lst (eas_cons (ee_tup (eas_cons ee_str (eas_cons ee_str (eas_cons (ee_un ud_neg (EE.weak ee_int)) eas_nil)))) (eas_cons (ee_tup (eas_cons ee_str (eas_cons ee_str (eas_cons ee_int eas_nil)))) eas_nil))))) (ee_one (ee_cmp (od_eqF dx.ok dx.rm) (EE.weak (ee_call1 (ud_reprG dx.ok dx.rm) (EE.weak (ee_prop PT_run_now_0 dx (ew_v 3))) (by rfl) b_repr rfl)) (EE.weak (ee_call1 (ud_reprG dx.ok dx.rm) (EE.weak (ee_tup (eas_cons (ee_tup (eas_cons ee_int (eas_cons ee_int (eas_cons ee_int eas_nil)))) (eas_cons (ee_tup eas_nil) eas_nil)))) (by rfl) b_repr rfl)))))))))))))))))
theorem sc_Run_led : FnScope N_Run_led ps_Run_led (defScope st_Run_led) := ⟨rfl, rfl, rfl, by decide +kernel, rfl, by decide +kernel, by decide +kernel⟩
theorem ok_Run_led (kn : Kn T h mg) (base : Heap) (tz : Tabs T mg base lamz) : ∃ fd, FunD T.K "led" "Run.led" (defArgs st_Run_led) (defBody st_Run_led) (defScope st_Run_led) [] [] (cAd T.K cf_Run_led) fd ∧ FnG T mg base 7 (cAd T.K cf_Run_led) fd ps_Run_led den_Run_led := by
  obtain ⟨fA_want, fd_want, D_want, F_want⟩ := ok_want kn base tz
  obtain ⟨fA_run_fault, fd_run_fault, D_run_fault, F_run_fault⟩ := ok_run_fault kn base tz
  have mk_LeastRun := mk_LeastRun_of kn
  have mk_Run := mk_Run_of kn
  obtain ⟨cc_LeastRun___init__, cdv_LeastRun___init__, fd_LeastRun___init__, D_LeastRun___init__, F_LeastRun___init__⟩ := ok_LeastRun___init__ kn base tz
  obtain ⟨fd_LeastRun_tick, D_LeastRun_tick, F_LeastRun_tick⟩ := ok_LeastRun_tick kn base tz
  obtain ⟨fd_Run___init__, D_Run___init__, F_Run___init__⟩ := ok_Run___init__ kn base tz
  obtain ⟨fd_Run_tick, D_Run_tick, F_Run_tick⟩ := ok_Run_tick kn base tz
  have bd_want_2 := bd_dfl (ps := ps_want) D_want [.int (-1)] rfl (by simp) 2 [] [0, 1, 2] rfl rfl (fun _ _ _ _ _ _ _ us ws its hu hw hi => match us, ws, its, hu, hw, hi with | [_, _], [], [_], _, _, _ => ⟨_, rfl, rfl⟩)
  have bd_run_fault_4 := bd_plain (ps := ps_run_fault) D_run_fault 4 [] [0, 1, 2, 3] rfl rfl (fun _ _ _ _ _ _ us ws hu hw => match us, ws, hu, hw with | [_, _, _, _], [], _, _ => rfl)
  have bd_Run___init___5 := bd_plain (ps := ps_Run___init__) D_Run___init__ 5 [] [0, 1, 2, 3, 4] rfl rfl (fun _ _ _ _ _ _ us ws hu hw => match us, ws, hu, hw with | [_, _, _, _, _], [], _, _ => rfl)
  have bd_LeastRun___init___5 := bdS_dfl (ps := ps_LeastRun___init__) D_LeastRun___init__ [.non] rfl (by simp) 5 [] [0, 1, 2, 3, 4] rfl rfl (fun _ _ _ _ _ _ us ws its hu hw hi => match us, ws, its, hu, hw, hi with | [_, _, _, _, _], [], [_], _, _, _ => ⟨_, rfl, rfl⟩)
  have bd_Run_tick_4 := bd_plain (ps := ps_Run_tick) D_Run_tick 4 [] [0, 1, 2, 3] rfl rfl (fun _ _ _ _ _ _ us ws hu hw => match us, ws, hu, hw with | [_, _, _, _], [], _, _ => rfl)
  have bd_LeastRun_tick_4 := bd_dfl (ps := ps_LeastRun_tick) D_LeastRun_tick [.non] rfl (by simp) 4 [] [0, 1, 2, 3] rfl rfl (fun _ _ _ _ _ _ _ us ws its hu hw hi => match us, ws, its, hu, hw, hi with | [_, _, _, _], [], [_], _, _, _ => ⟨_, rfl, rfl⟩)
  have NW_4_0 : NwT T mg base 5 4 [] [(0, (den_Run___init__, (gP [0, 1, 2, 3, 4]))), (1, (den_LeastRun___init__, (gPd [0, 1, 2, 3, 4] [.non])))] := (nwt_cons ⟨⟨_, _, _, _, mk_Run_of kn, (F_Run___init__.mono (by decide)), bd_Run___init___5⟩⟩ (nwt_cons ⟨⟨_, _, _, _, mk_LeastRun_of kn, (F_LeastRun___init__.mono (by decide)), bd_LeastRun___init___5⟩⟩ nwt_nil))
  have MT_tick_3_0 : MtT T mg base 6 "tick" 3 [] [(0, (den_Run_tick, (gP [0, 1, 2, 3]))), (1, (den_LeastRun_tick, (gPd [0, 1, 2, 3] [.non])))] := (mtt_cons ⟨⟨_, (cl_Run kn).cl, me_Run_tick kn, fi_Run_tick kn, (RunsK.of (F_Run_tick.mono (by decide)) bd_Run_tick_4)⟩⟩ (mtt_cons ⟨⟨_, (cl_LeastRun kn).cl, me_LeastRun_tick kn, fi_LeastRun_tick kn, (RunsK.of (F_LeastRun_tick.mono (by decide)) bd_LeastRun_tick_4)⟩⟩ mtt_nil))
  have S := sc_Run_led
  obtain ⟨fd, F⟩ := CfD.funD (kn.cd cf_Run_led (List.mem_of_getElem? (i := 18) rfl)) (cb_Run_led kn) rfl
  refine ⟨fd, F, fn_den F S fun cdv A outer s H E dx ow => ?_⟩
  exact (sb_cons (ss_expr (EE.weak (ee_call (F_want.mono (by decide)) dx bd_want_2 (by rfl) (eas_cons (ee_cmp (od_is2) (EE.weak (ee_call (F_run_fault.mono (by decide)) dx bd_run_fault_4 (by rfl) (eas_cons (ee_v 1) (eas_cons (ee_v 2) (eas_cons (ee_v 3) (eas_cons (ee_v 4) eas_nil)))))) (EE.weak ee_non)) (eas_cons ee_str eas_nil)))))
  (sb_cons (ss_set 5 S.nd (ee_newC NW_4_0 dx (ee_v 0) (eas_cons (ee_v 1) (eas_cons (ee_v 2) (eas_cons (ee_v 3) (eas_cons (ee_ix dx.ok (ew_v 4) (EE.weak ee_int)) eas_nil))))))
  (sb_cons (ss_for ow dx.calm (ei_v dx.ok (ee_ix dx.ok (ew_v 4) (EE.weak ee_int))) (gt_tup dx.calm dx.ok.K (gts_cons (gt_name 6 S.nd) (gts_cons (gt_name 7 S.nd) (gts_cons (gt_name 8 S.nd) gts_nil))))
  (sb_one (ss_expr (EE.weak (ee_meth MT_tick_3_0 dx (ew_v 5) (eas_cons (ee_v 6) (eas_cons (ee_v 7) (eas_cons (ee_ix dx.ok (ew_v 8) (EE.weak ee_int)) eas_nil))))))))
  (sb_one (ss_ret (ee_v 5))))))
theorem sc_Run_back : FnScope N_Run_back ps_Run_back (defScope st_Run_back) := ⟨rfl, rfl, rfl, by decide +kernel, rfl, by decide +kernel, by decide +kernel⟩
theorem ok_Run_back (kn : Kn T h mg) (base : Heap) (tz : Tabs T mg base lamz) : ∃ fd, FunD T.K "back" "Run.back" (defArgs st_Run_back) (defBody st_Run_back) (defScope st_Run_back) [] [] (cAd T.K cf_Run_back) fd ∧ FnG T mg base 2 (cAd T.K cf_Run_back) fd ps_Run_back den_Run_back := by
  have b_super := b_super_of kn
  have b_tuple := b_tuple_of kn
  have g_NothingToUndo := g_NothingToUndo_of kn
  have fk_own_ticks := fk_own_ticks_of kn
  have S := sc_Run_back
  obtain ⟨fd, F⟩ := CfD.funD (kn.cd cf_Run_back (List.mem_of_getElem? (i := 19) rfl)) (cb_Run_back kn) rfl
  refine ⟨fd, F, fn_den F S fun cdv A outer s H E dx ow => ?_⟩
  exact (sb_cons (ss_if (eb_cmp (od_eqF dx.ok dx.rm) (EE.weak (ee_fld dx.ok fk_own_ticks (ew_v 0))) (EE.weak (ee_tup eas_nil)))
  (sb_one (ss_raise (ec_NothingToUndo kn) (ct_NothingToUndo kn) (cf_NothingToUndo kn) rfl b_super (dx.room.mono (by decide)) dx.calm dx.tk rfl g_NothingToUndo (eas_cons ee_int eas_nil)))
  sb_nil)
  (sb_cons (ss_asg (ee_fld dx.ok fk_own_ticks (ew_v 0)) (gt_star dx.calm dx.ok.K (gts_star (gt_name 1 S.nd) (gts_cons (gt_name 2 S.nd) gts_nil))))
  (sb_cons (ss_fld dx.ok fk_own_ticks (ew_v 0) (ee_callT (ud_tuple dx.ok) (ew_v 1) (by rfl) b_tuple rfl))
  (sb_one (ss_ret (ee_v 2))))))
theorem sc__law_is_end_right : FnScope N__law_is_end_right ps__law_is_end_right (defScope st__law_is_end_right) := ⟨rfl, rfl, rfl, by decide +kernel, rfl, by decide +kernel, by decide +kernel⟩
theorem ok__law_is_end_right (kn : Kn T h mg) (base : Heap) (tz : Tabs T mg base lamz) : ∃ fA fd, FunD T.K "_law_is_end_right" "_law_is_end_right" (defArgs st__law_is_end_right) (defBody st__law_is_end_right) (defScope st__law_is_end_right) [] [] fA fd ∧ FnN T mg base 9 "_law_is_end_right" ps__law_is_end_right fA fd den__law_is_end_right := by
  have b_len := b_len_of kn
  have b_repr := b_repr_of kn
  obtain ⟨fA__law_heard, HD__law_heard⟩ := ok__law_heard kn base
  have cg_Run := cg_Run_of kn
  obtain ⟨fd_LeastRun_tick, D_LeastRun_tick, F_LeastRun_tick⟩ := ok_LeastRun_tick kn base tz
  obtain ⟨fd_Run___getitem__, D_Run___getitem__, F_Run___getitem__⟩ := ok_Run___getitem__ kn base tz
  obtain ⟨fd_Run___len__, D_Run___len__, F_Run___len__⟩ := ok_Run___len__ kn base tz
  obtain ⟨fd_Run_back, D_Run_back, F_Run_back⟩ := ok_Run_back kn base tz
  obtain ⟨fd_Run_led, D_Run_led, F_Run_led⟩ := ok_Run_led kn base tz
  obtain ⟨fd_Run_tick, D_Run_tick, F_Run_tick⟩ := ok_Run_tick kn base tz
  obtain ⟨fd_Run_tried, D_Run_tried, F_Run_tried⟩ := ok_Run_tried kn base tz
  have bd_Run_led_5 := bd_plain (ps := ps_Run_led) D_Run_led 5 [] [0, 1, 2, 3, 4] rfl rfl (fun _ _ _ _ _ _ us ws hu hw => match us, ws, hu, hw with | [_, _, _, _, _], [], _, _ => rfl)
  have bd_Run_tick_4 := bd_plain (ps := ps_Run_tick) D_Run_tick 4 [] [0, 1, 2, 3] rfl rfl (fun _ _ _ _ _ _ us ws hu hw => match us, ws, hu, hw with | [_, _, _, _], [], _, _ => rfl)
  have bd_LeastRun_tick_4 := bd_dfl (ps := ps_LeastRun_tick) D_LeastRun_tick [.non] rfl (by simp) 4 [] [0, 1, 2, 3] rfl rfl (fun _ _ _ _ _ _ _ us ws its hu hw hi => match us, ws, its, hu, hw, hi with | [_, _, _, _], [], [_], _, _, _ => ⟨_, rfl, rfl⟩)
  have bd_Run___getitem___2 := bd_plain (ps := ps_Run___getitem__) D_Run___getitem__ 2 [] [0, 1] rfl rfl (fun _ _ _ _ _ _ us ws hu hw => match us, ws, hu, hw with | [_, _], [], _, _ => rfl)
  have bd_Run___len___1 := bd_plain (ps := ps_Run___len__) D_Run___len__ 1 [] [0] rfl rfl (fun _ _ _ _ _ _ us ws hu hw => match us, ws, hu, hw with | [_], [], _, _ => rfl)
  have bd_Run_back_1 := bd_plain (ps := ps_Run_back) D_Run_back 1 [] [0] rfl rfl (fun _ _ _ _ _ _ us ws hu hw => match us, ws, hu, hw with | [_], [], _, _ => rfl)
  have CT_led_4_0 : CmT T mg base 8 4 "led" [(0, (den_Run_led, (gP [0, 1, 2, 3, 4]))), (1, (den_Run_led, (gP [0, 1, 2, 3, 4])))] := (cmt_cons ⟨⟨_, _, _, _, _, _, (cm_Run_led kn).1, (cm_Run_led kn).2, (F_Run_led.mono (by decide)), bd_Run_led_5⟩⟩ (cmt_cons ⟨⟨_, _, _, _, _, _, (cm_LeastRun_led kn).1, (cm_LeastRun_led kn).2, (F_Run_led.mono (by decide)), bd_Run_led_5⟩⟩ cmt_nil))
  have MT_tick_3_0 : MtT T mg base 8 "tick" 3 [] [(0, (den_Run_tick, (gP [0, 1, 2, 3]))), (1, (den_LeastRun_tick, (gPd [0, 1, 2, 3] [.non])))] := (mtt_cons ⟨⟨_, (cl_Run kn).cl, me_Run_tick kn, fi_Run_tick kn, (RunsK.of (F_Run_tick.mono (by decide)) bd_Run_tick_4)⟩⟩ (mtt_cons ⟨⟨_, (cl_LeastRun kn).cl, me_LeastRun_tick kn, fi_LeastRun_tick kn, (RunsK.of (F_LeastRun_tick.mono (by decide)) bd_LeastRun_tick_4)⟩⟩ mtt_nil))
  have MT_tick_3_2 : MtT T mg base 6 "tick" 3 [] [(0, (den_Run_tick, (gP [0, 1, 2, 3]))), (1, (den_LeastRun_tick, (gPd [0, 1, 2, 3] [.non])))] := (mtt_cons ⟨⟨_, (cl_Run kn).cl, me_Run_tick kn, fi_Run_tick kn, (RunsK.of (F_Run_tick.mono (by decide)) bd_Run_tick_4)⟩⟩ (mtt_cons ⟨⟨_, (cl_LeastRun kn).cl, me_LeastRun_tick kn, fi_LeastRun_tick kn, (RunsK.of (F_LeastRun_tick.mono (by decide)) bd_LeastRun_tick_4)⟩⟩ mtt_nil))
  have MT_tried_1_2 : MtT T mg base 6 "tried" 1 [] [(0, (den_Run_tried, (gStar 1))), (1, (den_Run_tried, (gStar 1)))] := (mtt_cons ⟨⟨_, (cl_Run kn).cl, me_Run_tried kn, fi_Run_tried kn, ((F_Run_tried 2 (by decide) (by decide)).mono (by decide))⟩⟩ (mtt_cons ⟨⟨_, (cl_LeastRun kn).cl, me_LeastRun_tried kn, fi_Run_tried kn, ((F_Run_tried 2 (by decide) (by decide)).mono (by decide))⟩⟩ mtt_nil))
  have MT___getitem___1_3 : MtT T mg base 5 "__getitem__" 1 [] [(0, (den_Run___getitem__, (gP [0, 1]))), (1, (den_Run___getitem__, (gP [0, 1])))] := (mtt_cons ⟨⟨_, (cl_Run kn).cl, me_Run___getitem__ kn, fi_Run___getitem__ kn, (RunsK.of (F_Run___getitem__.mono (by decide)) bd_Run___getitem___2)⟩⟩ (mtt_cons ⟨⟨_, (cl_LeastRun kn).cl, me_LeastRun___getitem__ kn, fi_Run___getitem__ kn, (RunsK.of (F_Run___getitem__.mono (by decide)) bd_Run___getitem___2)⟩⟩ mtt_nil))
  have MT___getitem___1_1 : MtT T mg base 7 "__getitem__" 1 [] [(0, (den_Run___getitem__, (gP [0, 1]))), (1, (den_Run___getitem__, (gP [0, 1])))] := (mtt_cons ⟨⟨_, (cl_Run kn).cl, me_Run___getitem__ kn, fi_Run___getitem__ kn, (RunsK.of (F_Run___getitem__.mono (by decide)) bd_Run___getitem___2)⟩⟩ (mtt_cons ⟨⟨_, (cl_LeastRun kn).cl, me_LeastRun___getitem__ kn, fi_Run___getitem__ kn, (RunsK.of (F_Run___getitem__.mono (by decide)) bd_Run___getitem___2)⟩⟩ mtt_nil))
  have MT___len___0_1 : MtT T mg base 7 "__len__" 0 [] [(0, (den_Run___len__, (gP [0]))), (1, (den_Run___len__, (gP [0])))] := (mtt_cons ⟨⟨_, (cl_Run kn).cl, me_Run___len__ kn, fi_Run___len__ kn, (RunsK.of (F_Run___len__.mono (by decide)) bd_Run___len___1)⟩⟩ (mtt_cons ⟨⟨_, (cl_LeastRun kn).cl, me_LeastRun___len__ kn, fi_Run___len__ kn, (RunsK.of (F_Run___len__.mono (by decide)) bd_Run___len___1)⟩⟩ mtt_nil))
  have MT_back_0_0 : MtT T mg base 8 "back" 0 [] [(0, (den_Run_back, (gP [0]))), (1, (den_Run_back, (gP [0])))] := (mtt_cons ⟨⟨_, (cl_Run kn).cl, me_Run_back kn, fi_Run_back kn, (RunsK.of (F_Run_back.mono (by decide)) bd_Run_back_1)⟩⟩ (mtt_cons ⟨⟨_, (cl_LeastRun kn).cl, me_LeastRun_back kn, fi_Run_back kn, (RunsK.of (F_Run_back.mono (by decide)) bd_Run_back_1)⟩⟩ mtt_nil))
  have MT_back_0_2 : MtT T mg base 6 "back" 0 [] [(0, (den_Run_back, (gP [0]))), (1, (den_Run_back, (gP [0])))] := (mtt_cons ⟨⟨_, (cl_Run kn).cl, me_Run_back kn, fi_Run_back kn, (RunsK.of (F_Run_back.mono (by decide)) bd_Run_back_1)⟩⟩ (mtt_cons ⟨⟨_, (cl_LeastRun kn).cl, me_LeastRun_back kn, fi_Run_back kn, (RunsK.of (F_Run_back.mono (by decide)) bd_Run_back_1)⟩⟩ mtt_nil))
  obtain ⟨fd, F⟩ := kn.c.def_ 31 (d := dd "_law_is_end_right" st__law_is_end_right []) rfl
  have S := sc__law_is_end_right
  have m0 : T.mks 0 = none := by rw [kn.mz]
  have tb_ := tz ("_law_is_end_right", "_law_is_end_right.<locals>.<lambda>") (by simp [lamz])
  refine ⟨_, fd, F, fn_denL (x0 := "_law_is_end_right") F S fun A outer s H E dx ow => ?_, He.glo_ok kn.X kn.G (kn.c.fact 31 (f := .glo "_law_is_end_right") rfl), F.kp⟩
  unfold m__law_is_end_right m__law_is_end_right_1 m__law_is_end_right_2 m__law_is_end_right_3 m__law_is_end_right_4 m__law_is_end_right_5 m__law_is_end_right_6 m__law_is_end_right_7 m__law_is_end_right_8 m__law_is_end_right_9 m__law_is_end_right_10 m__law_is_end_right_11 m__law_is_end_right_12
  exact (sb_cons (ss_asg (ee_v 2) (gt_tup dx.calm dx.ok.K (gts_cons (gt_name 3 S.nd) (gts_cons (gt_name 4 S.nd) (gts_cons (gt_name 5 S.nd) (gts_cons (gt_name 6 S.nd) gts_nil))))))
  (sb_cons (ss_set 7 S.nd (ee_clsM CT_led_4_0 dx (ee_cls dx cg_Run (by rfl)) (eas_cons (ee_v 0) (eas_cons (ee_v 1) (eas_cons (ee_v 0) (eas_cons (ee_tup (eas_cons (ee_tup (eas_cons ee_int (eas_cons ee_int (eas_cons ee_int eas_nil)))) (eas_cons (ee_tup (eas_cons (ee_tup (eas_cons (ee_v 4) (eas_cons (ee_v 5) (eas_cons (ee_tup (eas_cons ee_int (eas_cons ee_int (eas_cons ee_int eas_nil)))) eas_nil)))) (eas_cons (ee_tup (eas_cons (ee_v 3) (eas_cons (ee_v 6) (eas_cons (ee_tup (eas_cons ee_int (eas_cons ee_int (eas_cons ee_int eas_nil)))) eas_nil)))) eas_nil))) eas_nil))) eas_nil))))))
  (sb_cons (ss_own 8 S.nd (ef_lst (eas_cons (ee_meth MT_tick_3_0 dx (ew_v 7) (eas_cons (ee_v 4) (eas_cons (ee_v 6) (eas_cons ee_int eas_nil)))) (eas_cons (ee_hr (HD__law_heard.mono (by decide)) dx m0 rfl rfl tb_ rfl (LamX.lamS_by rfl) rfl (fun _ _ _ _ _ => rfl) (fun _ _ _ _ _ _ _ dl => (ee_meth MT_tick_3_2 dl (ew_v 7) (eas_cons (ee_v 4) (eas_cons (ee_v 5) (eas_cons ee_int eas_nil)))))) eas_nil))))
  (sb_cons (ss_append 8 dx.ok (ee_hr (HD__law_heard.mono (by decide)) dx m0 rfl rfl tb_ rfl (LamX.lamS_by rfl) rfl (fun _ _ _ _ _ => rfl) (fun _ _ _ _ _ _ _ dl => (ee_meth MT_tick_3_2 dl (ew_v 7) (eas_cons (ee_v 4) (eas_cons (ee_v 6) (eas_cons ee_non eas_nil)))))))
  (sb_cons (ss_append 8 dx.ok (ee_hr (HD__law_heard.mono (by decide)) dx m0 rfl rfl tb_ rfl (LamX.lamS_by rfl) rfl (fun _ _ _ _ _ => rfl) (fun _ _ _ _ _ _ _ dl => (ee_meth MT_tick_3_2 dl (ew_v 7) (eas_cons (ee_v 3) (eas_cons (ee_v 5) (eas_cons ee_int eas_nil)))))))
  (sb_cons (ss_append 8 dx.ok (ee_hr (HD__law_heard.mono (by decide)) dx m0 rfl rfl tb_ rfl (LamX.lamS_by rfl) rfl (fun _ _ _ _ _ => rfl) (fun _ _ _ _ _ _ _ dl => (ee_meth MT_tick_3_2 dl (ew_v 7) (eas_cons (ee_v 4) (eas_cons (ee_v 3) (eas_cons ee_int eas_nil)))))))
  (sb_cons (ss_append 8 dx.ok (ee_hr (HD__law_heard.mono (by decide)) dx m0 rfl rfl tb_ rfl (LamX.lamS_by rfl) rfl (fun _ _ _ _ _ => rfl) (fun _ _ _ _ _ _ _ dl => (ee_meth MT_tried_1_2 dl (ew_v 7) (eas_cons (ee_tup (eas_cons (ee_v 4) (eas_cons (ee_v 5) (eas_cons ee_int eas_nil)))) eas_nil)))))
  (sb_cons (ss_own 9 S.nd (ef_lst (eas_cons ee_str (eas_cons (ee_tup (eas_cons ee_str (eas_cons (ee_tup (eas_cons ee_int (eas_cons ee_int (eas_cons ee_int eas_nil)))) eas_nil))) (eas_cons (ee_tup (eas_cons ee_str (eas_cons (ee_tup (eas_cons ee_int (eas_cons ee_int (eas_cons ee_int eas_nil)))) eas_nil))) (eas_cons (ee_tup (eas_cons ee_str (eas_cons ee_str (eas_cons (ee_un ud_neg (EE.weak ee_int)) eas_nil)))) eas_nil))))))
  (sb_cons (ss_own 9 S.nd (ef_add (ew_v 9) (EE.weak (ee_lst (eas_cons (ee_tup (eas_cons ee_str (eas_cons ee_str (eas_cons (ee_un ud_neg (EE.weak ee_int)) eas_nil)))) (eas_cons (ee_tup (eas_cons ee_str (eas_cons (ee_tup (eas_cons ee_int (eas_cons ee_int (eas_cons ee_int eas_nil)))) eas_nil))) eas_nil))))))
  (sb_cons (ss_for ow dx.calm (ei_v dx.ok (ee_lst (eas_cons ee_non (eas_cons (ee_un ud_neg (EE.weak ee_int)) (eas_cons ee_int (eas_cons ee_bl (eas_cons ee_str (eas_cons (ee_tup (eas_cons ee_int eas_nil)) (eas_cons (ee_lst eas_nil) (eas_cons (ee_bin (od_pow) (EE.weak ee_int) (EE.weak ee_int)) eas_nil)))))))))) (gt_name 10 S.nd)
  (sb_cons (ss_append 8 dx.ok (ee_hr (HD__law_heard.mono (by decide)) dx m0 rfl rfl tb_ rfl (LamX.lamS_by rfl) rfl (fun _ _ _ _ _ => rfl) (fun _ _ _ _ _ _ _ dl => (ee_itemO MT___getitem___1_3 dl (ew_v 7) (ee_v 10)))))
  (sb_one (ss_append 9 dx.ok (ee_tup (eas_cons ee_str (eas_cons ee_str (eas_cons (ee_un ud_neg (EE.weak ee_int)) eas_nil))))))))
  (sb_cons (ss_own 8 S.nd (ef_add (ew_v 8) (EE.weak (ee_lst (eas_cons (ee_itemO MT___getitem___1_1 dx (ew_v 7) ee_int) (eas_cons (ee_itemO MT___getitem___1_1 dx (ew_v 7) ee_int) (eas_cons (ee_lenO MT___len___0_1 dx (ew_v 7) (by rfl) b_len) (eas_cons (ee_ix dx.ok (EE.weak (ee_meth0 MT_back_0_0 dx (ew_v 7))) (EE.weak ee_int)) (eas_cons (ee_ix dx.ok (EE.weak (ee_meth0 MT_back_0_0 dx (ew_v 7))) (EE.weak ee_int)) (eas_cons (ee_ix dx.ok (EE.weak (ee_meth0 MT_back_0_0 dx (ew_v 7))) (EE.weak ee_int)) eas_nil))))))))))
  (sb_cons (ss_append 8 dx.ok (ee_hr (HD__law_heard.mono (by decide)) dx m0 rfl rfl tb_ rfl (LamX.lamS_by rfl) rfl (fun _ _ _ _ _ => rfl) (fun _ _ _ _ _ _ _ dl => (ee_meth0 MT_back_0_2 dl (ew_v 7)))))
  (sb_one (ss_ret (ee_cmp (od_eqF dx.ok dx.rm) (EE.weak (ee_call1 (ud_reprG dx.ok dx.rm) (ew_v 8) (by rfl) b_repr rfl)) (EE.weak (ee_call1 (ud_reprG dx.ok dx.rm) (EE.weak (ee_bin (od_add dx.ok) (ew_v 9) (EE.weak (ee_lst (eas_cons (ee_tup (eas_cons ee_int (eas_cons ee_int (eas_cons ee_int eas_nil)))) (eas_cons (ee_tup (eas_cons ee_int (eas_cons ee_int (eas_cons ee_int eas_nil)))) (eas_cons ee_int (eas_cons (ee_v 4) (eas_cons (ee_v 3) (eas_cons (ee_v 4) (eas_cons (ee_tup (eas_cons ee_str (eas_cons ee_int eas_nil))) eas_nil))))))))))) (by rfl) b_repr rfl)))))))))))))))))
theorem sc__law_are_leads_right : FnScope N__law_are_leads_right ps__law_are_leads_right (defScope st__law_are_leads_right) := ⟨rfl, rfl, rfl, by decide +kernel, rfl, by decide +kernel, by decide +kernel⟩
theorem ok__law_are_leads_right (kn : Kn T h mg) (base : Heap) (tz : Tabs T mg base lamz) : ∃ fA fd, FunD T.K "_law_are_leads_right" "_law_are_leads_right" (defArgs st__law_are_leads_right) (defBody st__law_are_leads_right) (defScope st__law_are_leads_right) [] [] fA fd ∧ FnN T mg base 10 "_law_are_leads_right" ps__law_are_leads_right fA fd den__law_are_leads_right := by
  have b_list := b_list_of kn
  have b_repr := b_repr_of kn
  obtain ⟨fA__law_heard, HD__law_heard⟩ := ok__law_heard kn base
  have cg_LeastRun := cg_LeastRun_of kn
  have cg_Run := cg_Run_of kn
  obtain ⟨fd_Run_led, D_Run_led, F_Run_led⟩ := ok_Run_led kn base tz
  obtain ⟨fd_Run_place_now, D_Run_place_now, F_Run_place_now⟩ := ok_Run_place_now kn base tz
  obtain ⟨fd_Run_run_now, D_Run_run_now, F_Run_run_now⟩ := ok_Run_run_now kn base tz
  have bd_Run_led_5 := bd_plain (ps := ps_Run_led) D_Run_led 5 [] [0, 1, 2, 3, 4] rfl rfl (fun _ _ _ _ _ _ us ws hu hw => match us, ws, hu, hw with | [_, _, _, _, _], [], _, _ => rfl)
  have bd_Run_run_now_1 := bd_plain (ps := ps_Run_run_now) D_Run_run_now 1 [] [0] rfl rfl (fun _ _ _ _ _ _ us ws hu hw => match us, ws, hu, hw with | [_], [], _, _ => rfl)
  have bd_Run_place_now_1 := bd_plain (ps := ps_Run_place_now) D_Run_place_now 1 [] [0] rfl rfl (fun _ _ _ _ _ _ us ws hu hw => match us, ws, hu, hw with | [_], [], _, _ => rfl)
  have CT_led_4_2 : CmT T mg base 7 4 "led" [(0, (den_Run_led, (gP [0, 1, 2, 3, 4]))), (1, (den_Run_led, (gP [0, 1, 2, 3, 4])))] := (cmt_cons ⟨⟨_, _, _, _, _, _, (cm_Run_led kn).1, (cm_Run_led kn).2, (F_Run_led.mono (by decide)), bd_Run_led_5⟩⟩ (cmt_cons ⟨⟨_, _, _, _, _, _, (cm_LeastRun_led kn).1, (cm_LeastRun_led kn).2, (F_Run_led.mono (by decide)), bd_Run_led_5⟩⟩ cmt_nil))
  have PT_run_now_2 : PrT T mg base 6 "run_now" [(0, den_Run_run_now), (1, den_Run_run_now)] := (prt_cons ⟨⟨_, _, _, _, _, _, (cl_Run kn).cl, pr_Run_run_now kn, (F_Run_run_now.mono (by decide)), bd_Run_run_now_1, fun _ => rfl⟩⟩ (prt_cons ⟨⟨_, _, _, _, _, _, (cl_LeastRun kn).cl, pr_LeastRun_run_now kn, (F_Run_run_now.mono (by decide)), bd_Run_run_now_1, fun _ => rfl⟩⟩ prt_nil))
  have CT_led_4_0 : CmT T mg base 9 4 "led" [(0, (den_Run_led, (gP [0, 1, 2, 3, 4]))), (1, (den_Run_led, (gP [0, 1, 2, 3, 4])))] := (cmt_cons ⟨⟨_, _, _, _, _, _, (cm_Run_led kn).1, (cm_Run_led kn).2, (F_Run_led.mono (by decide)), bd_Run_led_5⟩⟩ (cmt_cons ⟨⟨_, _, _, _, _, _, (cm_LeastRun_led kn).1, (cm_LeastRun_led kn).2, (F_Run_led.mono (by decide)), bd_Run_led_5⟩⟩ cmt_nil))
  have PT_place_now_0 : PrT T mg base 8 "place_now" [(0, den_Run_place_now), (1, den_Run_place_now)] := (prt_cons ⟨⟨_, _, _, _, _, _, (cl_Run kn).cl, pr_Run_place_now kn, (F_Run_place_now.mono (by decide)), bd_Run_place_now_1, fun _ => rfl⟩⟩ (prt_cons ⟨⟨_, _, _, _, _, _, (cl_LeastRun kn).cl, pr_LeastRun_place_now kn, (F_Run_place_now.mono (by decide)), bd_Run_place_now_1, fun _ => rfl⟩⟩ prt_nil))
  obtain ⟨fd, F⟩ := kn.c.def_ 32 (d := dd "_law_are_leads_right" st__law_are_leads_right []) rfl
  have S := sc__law_are_leads_right
  have m0 : T.mks 0 = none := by rw [kn.mz]
  have tb_ := tz ("_law_are_leads_right", "_law_are_leads_right.<locals>.<lambda>") (by simp [lamz])
  refine ⟨_, fd, F, fn_denL (x0 := "_law_are_leads_right") F S fun A outer s H E dx ow => ?_, He.glo_ok kn.X kn.G (kn.c.fact 32 (f := .glo "_law_are_leads_right") rfl), F.kp⟩
  unfold m__law_are_leads_right m__law_are_leads_right_1 m__law_are_leads_right_2 m__law_are_leads_right_3 m__law_are_leads_right_4 m__law_are_leads_right_5 m__law_are_leads_right_6 m__law_are_leads_right_7 m__law_are_leads_right_8 m__law_are_leads_right_9
  exact (sb_cons (ss_set 3 S.nd (ee_tup (eas_cons (ee_ix dx.ok (ew_v 2) (EE.weak ee_int)) (eas_cons (ee_ix dx.ok (ew_v 2) (EE.weak ee_int)) (eas_cons (ee_tup (eas_cons ee_int (eas_cons ee_int (eas_cons ee_int eas_nil)))) eas_nil)))))
  (sb_cons (ss_set 4 S.nd (ee_lst (eas_cons ee_non (eas_cons (ee_tup eas_nil) (eas_cons (ee_tup (eas_cons (ee_tup (eas_cons ee_int (eas_cons ee_int (eas_cons ee_int eas_nil)))) eas_nil)) (eas_cons (ee_tup (eas_cons (ee_tup (eas_cons ee_int (eas_cons ee_int (eas_cons ee_int eas_nil)))) (eas_cons (ee_lst (eas_cons (ee_v 3) eas_nil)) eas_nil))) (eas_cons (ee_lst (eas_cons (ee_tup (eas_cons ee_int (eas_cons ee_int (eas_cons ee_int eas_nil)))) (eas_cons (ee_tup (eas_cons (ee_v 3) eas_nil)) eas_nil))) eas_nil)))))))
  (sb_cons (ss_set 4 S.nd (ee_bin (od_add dx.ok) (ew_v 4) (EE.weak (ee_lst (eas_cons (ee_tup (eas_cons (ee_tup (eas_cons ee_int (eas_cons ee_int (eas_cons ee_int eas_nil)))) (eas_cons (ee_tup eas_nil) eas_nil))) (eas_cons (ee_tup (eas_cons (ee_tup (eas_cons ee_int (eas_cons ee_int (eas_cons ee_int eas_nil)))) (eas_cons (ee_tup (eas_cons (ee_v 3) (eas_cons (ee_sl dx.ok (ew_v 3) eo_no (eo_is (EE.weak ee_int))) eas_nil))) eas_nil))) eas_nil))))))
  (sb_cons (ss_set 4 S.nd (ee_bin (od_add dx.ok) (ew_v 4) (EE.weak (ee_lst (eas_cons (ee_tup (eas_cons (ee_tup (eas_cons ee_int (eas_cons ee_int (eas_cons ee_int eas_nil)))) (eas_cons (ee_tup (eas_cons (ee_callT (ud_list dx.ok) (ew_v 3) (by rfl) b_list rfl) eas_nil)) eas_nil))) (eas_cons (ee_tup (eas_cons (ee_tup (eas_cons ee_int (eas_cons ee_int (eas_cons ee_int eas_nil)))) (eas_cons (ee_tup (eas_cons (ee_bin (od_add dx.ok) (EE.weak (ee_sl dx.ok (ew_v 3) eo_no (eo_is (EE.weak ee_int)))) (EE.weak (ee_tup (eas_cons (ee_tup (eas_cons ee_int (eas_cons ee_int (eas_cons ee_int eas_nil)))) eas_nil)))) eas_nil)) eas_nil))) eas_nil))))))
  (sb_cons (ss_set 4 S.nd (ee_bin (od_add dx.ok) (ew_v 4) (EE.weak (ee_lst (eas_cons (ee_tup (eas_cons (ee_tup (eas_cons ee_int (eas_cons ee_int (eas_cons ee_int eas_nil)))) (eas_cons (ee_tup (eas_cons (ee_v 3) eas_nil)) (eas_cons ee_int eas_nil)))) (eas_cons (ee_tup (eas_cons ee_non (eas_cons (ee_tup eas_nil) eas_nil))) eas_nil))))))
  (sb_cons (ss_set 4 S.nd (ee_bin (od_add dx.ok) (ew_v 4) (EE.weak (ee_lst (eas_cons (ee_tup (eas_cons (ee_tup (eas_cons ee_int (eas_cons ee_int (eas_cons ee_int eas_nil)))) (eas_cons (ee_tup (eas_cons (ee_bin (od_add dx.ok) (EE.weak (ee_sl dx.ok (ew_v 3) eo_no (eo_is (EE.weak ee_int)))) (EE.weak (ee_tup (eas_cons (ee_lst (eas_cons ee_int (eas_cons ee_int (eas_cons ee_int eas_nil)))) eas_nil)))) eas_nil)) eas_nil))) eas_nil)))))
  (sb_cons (ss_set 4 S.nd (ee_bin (od_add dx.ok) (ew_v 4) (EE.weak (ee_lst (eas_cons (ee_tup (eas_cons (ee_tup (eas_cons ee_int (eas_cons ee_int (eas_cons ee_int eas_nil)))) (eas_cons (ee_tup (eas_cons (ee_bin (od_add dx.ok) (EE.weak (ee_sl dx.ok (ew_v 3) eo_no (eo_is (EE.weak ee_int)))) (EE.weak (ee_tup (eas_cons (ee_tup (eas_cons ee_int (eas_cons (ee_lst (eas_cons ee_int eas_nil)) (eas_cons ee_int eas_nil)))) eas_nil)))) eas_nil)) eas_nil))) (eas_cons (ee_tup (eas_cons (ee_tup (eas_cons ee_int (eas_cons (ee_lst (eas_cons ee_int eas_nil)) (eas_cons ee_int eas_nil)))) (eas_cons (ee_tup eas_nil) eas_nil))) eas_nil))))))
  (sb_cons (ss_set 4 S.nd (ee_bin (od_add dx.ok) (ew_v 4) (EE.weak (ee_lst (eas_cons (ee_tup (eas_cons (ee_tup (eas_cons ee_int (eas_cons ee_int (eas_cons ee_int eas_nil)))) (eas_cons (ee_tup (eas_cons (ee_tup (eas_cons (ee_lst (eas_cons (ee_ix dx.ok (ew_v 3) (EE.weak ee_int)) eas_nil)) (eas_cons (ee_ix dx.ok (ew_v 3) (EE.weak ee_int)) (eas_cons (ee_tup (eas_cons ee_int (eas_cons ee_int (eas_cons ee_int eas_nil)))) eas_nil)))) eas_nil)) eas_nil))) eas_nil)))))
  (sb_cons (ss_for ow dx.calm (ei_v dx.ok (ee_bin (od_add dx.ok) (ew_v 4) (EE.weak (ee_lst (eas_cons (ee_tup (eas_cons (ee_tup (eas_cons ee_int (eas_cons ee_bl (eas_cons ee_int eas_nil)))) (eas_cons (ee_tup eas_nil) eas_nil))) (eas_cons (ee_tup (eas_cons (ee_tup (eas_cons ee_int (eas_cons ee_int (eas_cons ee_int eas_nil)))) (eas_cons (ee_tup (eas_cons ee_non eas_nil)) eas_nil))) (eas_cons ee_str (eas_cons (ee_tup (eas_cons (ee_tup (eas_cons ee_int (eas_cons ee_int (eas_cons ee_int eas_nil)))) (eas_cons (ee_tup (eas_cons (ee_bin (od_add dx.ok) (EE.weak (ee_sl dx.ok (ew_v 3) eo_no (eo_is (EE.weak ee_int)))) (EE.weak (ee_tup (eas_cons (ee_tup (eas_cons ee_int (eas_cons ee_int (eas_cons ee_bl eas_nil)))) eas_nil)))) eas_nil)) eas_nil))) eas_nil)))))))) (gt_name 5 S.nd)
  (sb_cons (ss_own 6 S.nd (ef_lst (eas_cons (ee_hr (HD__law_heard.mono (by decide)) dx m0 rfl rfl tb_ rfl (LamX.lamS_by rfl) rfl (fun _ _ _ _ _ => rfl) (fun _ _ _ _ _ _ _ dl => (ee_prop PT_run_now_2 dl (EE.weak (ee_clsM CT_led_4_2 dl (ee_cls dl cg_Run (by rfl)) (eas_cons (ee_v 0) (eas_cons (ee_v 1) (eas_cons (ee_v 0) (eas_cons (ee_v 5) eas_nil))))))))) eas_nil)))
  (sb_cons (ss_append 6 dx.ok (ee_hr (HD__law_heard.mono (by decide)) dx m0 rfl rfl tb_ rfl (LamX.lamS_by rfl) rfl (fun _ _ _ _ _ => rfl) (fun _ _ _ _ _ _ _ dl => (ee_prop PT_run_now_2 dl (EE.weak (ee_clsM CT_led_4_2 dl (ee_cls dl cg_LeastRun (by rfl)) (eas_cons (ee_v 0) (eas_cons (ee_v 1) (eas_cons (ee_v 0) (eas_cons (ee_v 5) eas_nil))))))))))
  (sb_one (ss_if (eb_cmp (od_neF dx.ok dx.rm) (EE.weak (ee_call1 (ud_reprG dx.ok dx.rm) (ew_v 6) (by rfl) b_repr rfl)) (EE.weak (ee_call1 (ud_reprG dx.ok dx.rm) (EE.weak (ee_bin (od_mul2 dx.ok) (EE.weak (ee_lst (eas_cons (ee_tup (eas_cons ee_str (eas_cons ee_str (eas_cons (ee_un ud_neg (EE.weak ee_int)) eas_nil)))) eas_nil))) (EE.weak ee_int))) (by rfl) b_repr rfl)))
  (sb_one (ss_ret ee_bl))
  sb_nil)))))
  (sb_one (ss_ret (ee_cmp (od_eqF dx.ok dx.rm) (EE.weak (ee_call1 (ud_reprG dx.ok dx.rm) (EE.weak (ee_prop PT_place_now_0 dx (EE.weak (ee_clsM CT_led_4_0 dx (ee_cls dx cg_Run (by rfl)) (eas_cons (ee_v 0) (eas_cons (ee_v 1) (eas_cons (ee_v 0) (eas_cons (ee_tup (eas_cons (ee_tup (eas_cons ee_int (eas_cons ee_int (eas_cons ee_int eas_nil)))) (eas_cons (ee_tup (eas_cons (ee_v 3) eas_nil)) eas_nil))) eas_nil)))))))) (by rfl) b_repr rfl)) (EE.weak (ee_call1 (ud_reprG dx.ok dx.rm) (EE.weak (ee_tup (eas_cons ee_int (eas_cons ee_int (eas_cons ee_int eas_nil))))) (by rfl) b_repr rfl))))))))))))))
theorem sc_law : FnScope N_law ps_law (defScope st_law) := ⟨rfl, rfl, rfl, by decide +kernel, rfl, by decide +kernel, by decide +kernel⟩
theorem ok_law (kn : Kn T h mg) (base : Heap) (tz : Tabs T mg base lamz) : ∃ fA fd, FunD T.K "law" "law" (defArgs st_law) (defBody st_law) (defScope st_law) [] [] fA fd ∧ FnN T mg base 12 "law" ps_law fA fd den_law := by
  obtain ⟨fA__law_feed, fd__law_feed, D__law_feed, F__law_feed⟩ := ok__law_feed kn base tz
  obtain ⟨fA__law_four, fd__law_four, D__law_four, F__law_four⟩ := ok__law_four kn base tz
  obtain ⟨fA__law_hand, fd__law_hand, D__law_hand, F__law_hand⟩ := ok__law_hand kn base tz
  obtain ⟨fA__law_keeper, fd__law_keeper, D__law_keeper, F__law_keeper⟩ := ok__law_keeper kn base tz
  obtain ⟨fA__law_is_end_right, fd__law_is_end_right, D__law_is_end_right, F__law_is_end_right⟩ := ok__law_is_end_right kn base tz
  obtain ⟨fA__law_are_leads_right, fd__law_are_leads_right, D__law_are_leads_right, F__law_are_leads_right⟩ := ok__law_are_leads_right kn base tz
  obtain ⟨fA__law_are_begins_right, fd__law_are_begins_right, D__law_are_begins_right, F__law_are_begins_right⟩ := ok__law_are_begins_right kn base tz
  obtain ⟨fA__law_are_ticks_right, fd__law_are_ticks_right, D__law_are_ticks_right, F__law_are_ticks_right⟩ := ok__law_are_ticks_right kn base tz
  have bd__law_feed_1 := bd_plain (ps := ps__law_feed) D__law_feed 1 [] [0] rfl rfl (fun _ _ _ _ _ _ us ws hu hw => match us, ws, hu, hw with | [_], [], _, _ => rfl)
  have bd__law_four_1 := bd_plain (ps := ps__law_four) D__law_four 1 [] [0] rfl rfl (fun _ _ _ _ _ _ us ws hu hw => match us, ws, hu, hw with | [_], [], _, _ => rfl)
  have bd__law_hand_4 := bd_plain (ps := ps__law_hand) D__law_hand 4 [] [0, 1, 2, 3] rfl rfl (fun _ _ _ _ _ _ us ws hu hw => match us, ws, hu, hw with | [_, _, _, _], [], _, _ => rfl)
  have bd__law_keeper_5 := bd_plain (ps := ps__law_keeper) D__law_keeper 5 [] [0, 1, 2, 3, 4] rfl rfl (fun _ _ _ _ _ _ us ws hu hw => match us, ws, hu, hw with | [_, _, _, _, _], [], _, _ => rfl)
  have bd__law_are_begins_right_2 := bd_plain (ps := ps__law_are_begins_right) D__law_are_begins_right 2 [] [0, 1] rfl rfl (fun _ _ _ _ _ _ us ws hu hw => match us, ws, hu, hw with | [_, _], [], _, _ => rfl)
  have bd__law_are_ticks_right_3 := bd_plain (ps := ps__law_are_ticks_right) D__law_are_ticks_right 3 [] [0, 1, 2] rfl rfl (fun _ _ _ _ _ _ us ws hu hw => match us, ws, hu, hw with | [_, _, _], [], _, _ => rfl)
  have bd__law_is_end_right_3 := bd_plain (ps := ps__law_is_end_right) D__law_is_end_right 3 [] [0, 1, 2] rfl rfl (fun _ _ _ _ _ _ us ws hu hw => match us, ws, hu, hw with | [_, _, _], [], _, _ => rfl)
  have bd__law_are_leads_right_3 := bd_plain (ps := ps__law_are_leads_right) D__law_are_leads_right 3 [] [0, 1, 2] rfl rfl (fun _ _ _ _ _ _ us ws hu hw => match us, ws, hu, hw with | [_, _, _], [], _, _ => rfl)
  obtain ⟨fd, F⟩ := kn.c.def_ 33 (d := dd "law" st_law []) rfl
  have S := sc_law
  refine ⟨_, fd, F, fn_den F S fun cdv A outer s H E dx ow => ?_, He.glo_ok kn.X kn.G (kn.c.fact 33 (f := .glo "law") rfl), F.kp⟩
  exact (sb_cons (ss_set 1 S.nd (ee_call (F__law_feed.mono (by decide)) dx bd__law_feed_1 (by rfl) (eas_cons (ee_v 0) eas_nil)))
  (sb_cons (ss_set 2 S.nd (ee_call (F__law_four.mono (by decide)) dx bd__law_four_1 (by rfl) (eas_cons (ee_v 1) eas_nil)))
  (sb_cons (ss_set 3 S.nd (ee_call (F__law_hand.mono (by decide)) dx bd__law_hand_4 (by rfl) (eas_cons (ee_ix dx.ok (ew_v 2) (EE.weak ee_int)) (eas_cons (ee_ix dx.ok (ew_v 2) (EE.weak ee_int)) (eas_cons (ee_ix dx.ok (ew_v 2) (EE.weak ee_int)) (eas_cons (ee_ix dx.ok (ew_v 2) (EE.weak ee_int)) eas_nil))))))
  (sb_cons (ss_set 4 S.nd (ee_call (F__law_keeper.mono (by decide)) dx bd__law_keeper_5 (by rfl) (eas_cons (ee_ix dx.ok (ew_v 2) (EE.weak ee_int)) (eas_cons (ee_ix dx.ok (ew_v 2) (EE.weak ee_int)) (eas_cons (ee_ix dx.ok (ew_v 2) (EE.weak ee_int)) (eas_cons (ee_ix dx.ok (ew_v 2) (EE.weak ee_int)) (eas_cons ee_bl eas_nil)))))))
  (sb_cons (ss_if (eb_p (ep_or (eb_not (eb_tr dx.ok (EE.weak (ee_call (F__law_are_begins_right.mono (by decide)) dx bd__law_are_begins_right_2 (by rfl) (eas_cons (ee_v 3) (eas_cons (ee_v 4) eas_nil)))))) (ep_or1 (eb_not (eb_tr dx.ok (EE.weak (ee_call (F__law_are_ticks_right.mono (by decide)) dx bd__law_are_ticks_right_3 (by rfl) (eas_cons (ee_v 3) (eas_cons (ee_v 4) (eas_cons (ee_v 2) eas_nil))))))))))
  (sb_one (ss_ret ee_bl))
  sb_nil)
  (sb_one (ss_ret (ee_and dx.ok (ee_call (F__law_is_end_right.mono (by decide)) dx bd__law_is_end_right_3 (by rfl) (eas_cons (ee_v 3) (eas_cons (ee_v 4) (eas_cons (ee_v 2) eas_nil)))) (ee_one (ee_call (F__law_are_leads_right.mono (by decide)) dx bd__law_are_leads_right_3 (by rfl) (eas_cons (ee_v 3) (eas_cons (ee_v 4) (eas_cons (ee_v 2) eas_nil)))))))))))))
end
end Z
namespace Z
open PySem PySem.Spec PyProof.Rows L2
theorem fd_uniq {K : PySem.W.Frag} {x y q r : Str} {pa pb : Arguments} {ba bb : List Stmt} {sa sb : Scope} {da db : List V} {ka kb : List (Str × V)} {f : Addr} {g1 g2 : FuncData} (F : FunD K x q pa ba sa da ka f g1) (F2 : FunD K y r pb bb sb db kb f g2) : g1 = g2 := by
  obtain ⟨_, _, _, _, _, _, _, _, _, _, _, l1, _⟩ := F.ex
  obtain ⟨_, _, _, _, _, _, _, _, _, _, _, l2, _⟩ := F2.ex
  have := l1.symm.trans l2
  injection this with this
  injection this with _ _ q _
  injection q
theorem factsz {T : Wd} {h : Heap} {mg : Str → Option Value} {f : Addr} (kn : Kn T h mg) (hfa : mg ("law" : Str) = some (.ref f)) :
    ∃ fd : FuncData, (∀ (s : Shared) (v : Value), BindsTo s fd ⟨[v], []⟩ [("_law_script", v)]) ∧ ∀ base : Heap, T.K.In base → base.Ns mainGlobals mg → (∀ p ∈ csz lamz T.K, LamX.TabB base mg p.2 (T.tb p.1)) → FnG T mg base 12 f fd ["_law_script"] den_law := by
  obtain ⟨fd, F⟩ := kn.c.def_ 33 (d := dd "law" st_law []) rfl
  refine ⟨fd, fun s v => FunD.bindsA (ps := ["_law_script"]) F (fun _ _ _ _ _ _ us hl => match us, hl with | [_], _ => rfl) s [v] rfl, fun base _ _ tz => ?_⟩
  obtain ⟨fA2, fd2, F2, N2⟩ := ok_law kn base (tabs_of tz)
  cases hfa.symm.trans N2.gl
  have e := He.glo_ok kn.X kn.G (x := "law") (kn.c.fact 33 (f := .glo "law") rfl)
  cases e.symm.trans N2.gl
  rw [fd_uniq F F2]
  exact N2.fn
end Z
set_option maxHeartbeats 0
namespace Z
open PySem PySem.Spec PyProof.Rows L2
set_option autoImplicit false
abbrev qz0 : Str := "_law_are_begins_right.<locals>.<lambda>"
abbrev qz1 : Str := "_law_are_ticks_right.<locals>.<lambda>"
abbrev qz2 : Str := "_law_is_end_right.<locals>.<lambda>"
abbrev qz3 : Str := "_law_are_leads_right.<locals>.<lambda>"
section
variable {a b c d e : D}
theorem sx_index : setC [.tb qz0, .tb qz1, .tb qz2, .tb qz3, .dk ["cells", "index", "rest", "turn"] [a, b, c, d]] 4 "index" e = some [.tb qz0, .tb qz1, .tb qz2, .tb qz3, .dk ["cells", "index", "rest", "turn"] [a, e, c, d]] := by kernel_rfl
theorem sx_rest : setC [.tb qz0, .tb qz1, .tb qz2, .tb qz3, .dk ["cells", "index", "rest", "turn"] [a, b, c, d]] 4 "rest" e = some [.tb qz0, .tb qz1, .tb qz2, .tb qz3, .dk ["cells", "index", "rest", "turn"] [a, b, e, d]] := by kernel_rfl
theorem sx_turn : setC [.tb qz0, .tb qz1, .tb qz2, .tb qz3, .dk ["cells", "index", "rest", "turn"] [a, b, c, d]] 4 "turn" e = some [.tb qz0, .tb qz1, .tb qz2, .tb qz3, .dk ["cells", "index", "rest", "turn"] [a, b, c, e]] := by kernel_rfl
end
theorem mulO2_ii {x y : Int} (h : x.natAbs < 18446744073709551616) : mulO2 (.int x) (.int y) = some (.int (x * y)) := mulO_ii h
theorem draw_ok (cs : List Int) (i r t z : Int) (hz : 0 < z) (h2 : z < 18446744073709551616) : ∃ k i' r' t', 0 ≤ k ∧ k < z ∧ den__law_draw [.ref 4, .int z] [.tb qz0, .tb qz1, .tb qz2, .tb qz3, feedC cs i r t] = .ok (.int k) [.tb qz0, .tb qz1, .tb qz2, .tb qz3, feedC cs i' r' t'] := by
  have hl := log_small hz h2
  suffices h : ∃ k i' r' t', den__law_draw [.ref 4, .int z] [.tb qz0, .tb qz1, .tb qz2, .tb qz3, feedC cs i r t] = .ok (.int (k % z)) [.tb qz0, .tb qz1, .tb qz2, .tb qz3, feedC cs i' r' t'] by
    obtain ⟨k, i', r', t', h⟩ := h
    exact ⟨k % z, i', r', t', Int.emod_nonneg _ (by omega), Int.emod_lt_of_pos _ hz, h⟩
  unfold den__law_draw denOf m__law_draw
  by_cases h1 : 0 < r
  · simp only [entE, List.map_cons, List.map_nil, List.length_cons, List.length_nil, List.replicate, List.cons_append, List.nil_append, sSeq, sSetC, mOp, mUn, mGetC, mV, mVs, mC, Res.bind, ret, sIf, mB, mAnd, isB, List.getElem?_cons_zero, List.getElem?_cons_succ, lu_cells, lu_index, lu_rest, lu_turn, sx_index, sx_rest, sx_turn, addO_ii, gtO_ii, sPar, fCons, fNil, setFs, intO_i, modO_ii hz, divO_ii hz hl, sSet, List.set, sRet, sNx, decide_eq_true h1, if_true]
    exact ⟨_, _, _, _, rfl⟩
  · simp only [entE, List.map_cons, List.map_nil, List.length_cons, List.length_nil, List.replicate, List.cons_append, List.nil_append, sSeq, sSetC, mOp, mUn, mGetC, mV, mVs, mC, Res.bind, ret, sIf, mB, mAnd, isB, List.getElem?_cons_zero, List.getElem?_cons_succ, lu_cells, lu_index, lu_rest, lu_turn, sx_index, sx_rest, sx_turn, addO_ii, gtO_ii, sPar, fCons, fNil, setFs, intO_i, modO_ii hz, divO_ii hz hl, sSet, List.set, sRet, sNx, decide_eq_false h1, Bool.false_eq_true, if_false]
    simp only [Nat.reduceAdd, Nat.reduceLT, ↓reduceIte, List.getElem?_cons_zero, List.getElem?_cons_succ, addO_ii, sx_index]
    obtain ⟨c, hc⟩ := cell_ok (ρ := [Sl.val (D.ref 4), Sl.val (D.int z), Sl.no, Sl.val (D.int i), Sl.val (D.lst (List.map D.int cs)), Sl.no, Sl.no]) (g := [.tb qz0, .tb qz1, .tb qz2, .tb qz3, feedC cs (i + 1) r (t + 1)]) (e := 12144) rfl rfl
    simp only [hc, List.set, List.getElem?_cons_zero, List.getElem?_cons_succ, pow18, geO_ii, ltO_ii, lenO_ints, Res.bind, ret, isB]
    have hmod : ∀ x y : Int, (x % 2147483497).natAbs < 18446744073709551616 := fun x y => by
      have := Int.emod_nonneg x (b := 2147483497) (by decide)
      have := Int.emod_lt_of_pos x (b := 2147483497) (by decide)
      omega
    cases hA : (!decide (c < 1000000000000000000)) <;> cases hB : decide (i < (cs.length : Int))
    all_goals simp only [↓reduceIte, Bool.false_eq_true, if_false, if_true, lu_cells, lu_index, lu_rest, lu_turn, sx_index, sx_rest, sx_turn, modO_ii hz, divO_ii hz hl, intO_i, addO_ii, List.getElem?_cons_zero, List.getElem?_cons_succ, List.set]
    all_goals try simp (disch := omega) only [modO_ii, divO_jj, mulO2_ii, intO_i, addO_ii, lu_turn, ↓reduceIte, List.getElem?_cons_zero, List.getElem?_cons_succ, List.set]
    all_goals exact ⟨_, _, _, _, rfl⟩
def someD : List D := [.lst [.str "box", .str "none", .str "ready", .str "wait"], .lst [.str "none", .str "box", .str "wait", .str "ready"], .lst [.str "a", .str "ab", .str "b", .str "ba"],
  .lst [.str "zzzzzzzz", .str "z", .str "zzzzzzza", .str "zz"], .lst [.str "up", .str "down", .str "barred", .str "held"], .lst [.str "deaf", .str "right", .str "first", .str "a"]]
theorem pick_ok {ds : List D} {g g' : G} {k : Int} {d : D} (h : den__law_draw [.ref 4, .int ds.length] g = .ok (.int k) g') (h2 : idxO (.lst ds) (.int k) = some d) : den__law_pick [.ref 4, .lst ds] g = .ok d g' := by
  unfold den__law_pick denOf m__law_pick
  simp only [entE, List.map_cons, List.map_nil, List.length_cons, List.length_nil, List.replicate, List.cons_append, List.nil_append, sRet, mOp, mUn, mV, mVs, mCons, mNil, mCallB, gP, Res.bind, ret, lenO, List.getElem?_cons_zero, List.getElem?_cons_succ]
  have hp : pkV D.non [0, 1] [D.ref 4, D.int ds.length] = [D.ref 4, D.int ds.length] := rfl
  simp only [hp, h, h2, and_self, if_true]
def m4t : Sm := (sSeq (sPar [2, 3] (fCons false (mCallB den__law_pick 2 0 (gP [0, 1]) (mCons (mVs 0) (mCons (mVs 1) mNil)) mNil) (fCons false (mCallB den__law_draw 2 0 (gP [0, 1]) (mCons (mVs 0) (mCons (mC (.int 4)) mNil)) mNil) fNil)))
  (sRet (mOp addO (mSl (mV 2) (oIs (mV 3)) oNo) (mSl (mV 2) oNo (oIs (mV 3))))))
theorem four_0 (g : G) : m__law_four (entE 4 [.ref 4]) g = m4t [.val (.ref 4), .val (.lst someD), .no, .no] g := by kernel_rfl
def r4 : Sm := (sRet (mOp addO (mSl (mV 2) (oIs (mV 3)) oNo) (mSl (mV 2) oNo (oIs (mV 3)))))
theorem four_1 {g g1 g2 : G} {d : D} {k : Int} (h1 : den__law_pick [.ref 4, .lst someD] g = .ok d g1) (h2 : den__law_draw [.ref 4, .int 4] g1 = .ok (.int k) g2) : m4t [.val (.ref 4), .val (.lst someD), .no, .no] g = r4 [.val (.ref 4), .val (.lst someD), .val d, .val (.int k)] g2 := by
  have hp : pkV D.non [0, 1] [D.ref 4, D.lst someD] = [D.ref 4, D.lst someD] := rfl
  have hp2 : pkV D.non [0, 1] [D.ref 4, D.int 4] = [D.ref 4, D.int 4] := rfl
  unfold m4t
  simp only [List.length_cons, List.length_nil, sSeq, sPar, fCons, fNil, mV, mVs, mC, mCons, mNil, mCallB, gP, Res.bind, List.append_nil, List.getElem?_cons_zero, List.getElem?_cons_succ, hp, hp2, h1, h2, and_self, if_true, setFs, Nat.reduceAdd, Nat.reduceLT, ↓reduceIte, List.set]
  rfl
def lots : List D := [.lst [.str "box", .str "none", .str "ready", .str "wait"],
  .lst [.str "none", .str "ready", .str "wait", .str "box"],
  .lst [.str "ready", .str "wait", .str "box", .str "none"],
  .lst [.str "wait", .str "box", .str "none", .str "ready"],
  .lst [.str "none", .str "box", .str "wait", .str "ready"],
  .lst [.str "box", .str "wait", .str "ready", .str "none"],
  .lst [.str "wait", .str "ready", .str "none", .str "box"],
  .lst [.str "ready", .str "none", .str "box", .str "wait"],
  .lst [.str "a", .str "ab", .str "b", .str "ba"],
  .lst [.str "ab", .str "b", .str "ba", .str "a"],
  .lst [.str "b", .str "ba", .str "a", .str "ab"],
  .lst [.str "ba", .str "a", .str "ab", .str "b"],
  .lst [.str "zzzzzzzz", .str "z", .str "zzzzzzza", .str "zz"],
  .lst [.str "z", .str "zzzzzzza", .str "zz", .str "zzzzzzzz"],
  .lst [.str "zzzzzzza", .str "zz", .str "zzzzzzzz", .str "z"],
  .lst [.str "zz", .str "zzzzzzzz", .str "z", .str "zzzzzzza"],
  .lst [.str "up", .str "down", .str "barred", .str "held"],
  .lst [.str "down", .str "barred", .str "held", .str "up"],
  .lst [.str "barred", .str "held", .str "up", .str "down"],
  .lst [.str "held", .str "up", .str "down", .str "barred"],
  .lst [.str "deaf", .str "right", .str "first", .str "a"],
  .lst [.str "right", .str "first", .str "a", .str "deaf"],
  .lst [.str "first", .str "a", .str "deaf", .str "right"],
  .lst [.str "a", .str "deaf", .str "right", .str "first"]]
theorem four_2 (g : G) : ∀ d ∈ someD, ∀ k ∈ [(0 : Int), 1, 2, 3], ∃ l ∈ lots, r4 [.val (.ref 4), .val (.lst someD), .val d, .val (.int k)] g = .rt l g := by
  intro d hd k hk
  simp only [someD, List.mem_cons, List.not_mem_nil, or_false] at hd
  simp only [List.mem_cons, List.not_mem_nil, or_false] at hk
  rcases hd with rfl | rfl | rfl | rfl | rfl | rfl <;> rcases hk with rfl | rfl | rfl | rfl
  · exact ⟨lots[0], List.getElem_mem _, by kernel_rfl⟩
  · exact ⟨lots[1], List.getElem_mem _, by kernel_rfl⟩
  · exact ⟨lots[2], List.getElem_mem _, by kernel_rfl⟩
  · exact ⟨lots[3], List.getElem_mem _, by kernel_rfl⟩
  · exact ⟨lots[4], List.getElem_mem _, by kernel_rfl⟩
  · exact ⟨lots[5], List.getElem_mem _, by kernel_rfl⟩
  · exact ⟨lots[6], List.getElem_mem _, by kernel_rfl⟩
  · exact ⟨lots[7], List.getElem_mem _, by kernel_rfl⟩
  · exact ⟨lots[8], List.getElem_mem _, by kernel_rfl⟩
  · exact ⟨lots[9], List.getElem_mem _, by kernel_rfl⟩
  · exact ⟨lots[10], List.getElem_mem _, by kernel_rfl⟩
  · exact ⟨lots[11], List.getElem_mem _, by kernel_rfl⟩
  · exact ⟨lots[12], List.getElem_mem _, by kernel_rfl⟩
  · exact ⟨lots[13], List.getElem_mem _, by kernel_rfl⟩
  · exact ⟨lots[14], List.getElem_mem _, by kernel_rfl⟩
  · exact ⟨lots[15], List.getElem_mem _, by kernel_rfl⟩
  · exact ⟨lots[16], List.getElem_mem _, by kernel_rfl⟩
  · exact ⟨lots[17], List.getElem_mem _, by kernel_rfl⟩
  · exact ⟨lots[18], List.getElem_mem _, by kernel_rfl⟩
  · exact ⟨lots[19], List.getElem_mem _, by kernel_rfl⟩
  · exact ⟨lots[20], List.getElem_mem _, by kernel_rfl⟩
  · exact ⟨lots[21], List.getElem_mem _, by kernel_rfl⟩
  · exact ⟨lots[22], List.getElem_mem _, by kernel_rfl⟩
  · exact ⟨lots[23], List.getElem_mem _, by kernel_rfl⟩
theorem six (k : Int) (h0 : 0 ≤ k) (h1 : k < 6) : ∃ d ∈ someD, idxO (.lst someD) (.int k) = some d := by
  have : k = 0 ∨ k = 1 ∨ k = 2 ∨ k = 3 ∨ k = 4 ∨ k = 5 := by omega
  rcases this with rfl | rfl | rfl | rfl | rfl | rfl
  · exact ⟨someD[0], List.getElem_mem _, by kernel_rfl⟩
  · exact ⟨someD[1], List.getElem_mem _, by kernel_rfl⟩
  · exact ⟨someD[2], List.getElem_mem _, by kernel_rfl⟩
  · exact ⟨someD[3], List.getElem_mem _, by kernel_rfl⟩
  · exact ⟨someD[4], List.getElem_mem _, by kernel_rfl⟩
  · exact ⟨someD[5], List.getElem_mem _, by kernel_rfl⟩
theorem four_ok (cs : List Int) (i r t : Int) : ∃ l ∈ lots, ∃ c, den__law_four [.ref 4] [.tb qz0, .tb qz1, .tb qz2, .tb qz3, feedC cs i r t] = .ok l [.tb qz0, .tb qz1, .tb qz2, .tb qz3, c] := by
  obtain ⟨k1, i1, r1, t1, a1, a2, e1⟩ := draw_ok cs i r t 6 (by decide) (by decide)
  obtain ⟨d, hd, ed⟩ := six k1 a1 a2
  obtain ⟨k2, i2, r2, t2, b1, b2, e2⟩ := draw_ok cs i1 r1 t1 4 (by decide) (by decide)
  have p := pick_ok (ds := someD) e1 ed
  obtain ⟨l, hl, el⟩ := four_2 [.tb qz0, .tb qz1, .tb qz2, .tb qz3, feedC cs i2 r2 t2] d hd k2 (by
    have : k2 = 0 ∨ k2 = 1 ∨ k2 = 2 ∨ k2 = 3 := by omega
    simpa using this)
  refine ⟨l, hl, feedC cs i2 r2 t2, ?_⟩
  unfold den__law_four denOf
  rw [four_0, four_1 p e2, el]
theorem feed_ok (ns : List Int) : ∃ cs, den__law_feed [.scr ns] [.tb qz0, .tb qz1, .tb qz2, .tb qz3] = .ok (.ref 4) [.tb qz0, .tb qz1, .tb qz2, .tb qz3, feedC cs 0 0 0] := by
  refine ⟨(ns.drop (HT.sIx (ns.map D.int).length 0 none)).take (HT.sIx (ns.map D.int).length (ns.map D.int).length (some 63) - HT.sIx (ns.map D.int).length 0 none), ?_⟩
  have e : cutD (ns.map D.int) none (some 63) = ((ns.drop (HT.sIx (ns.map D.int).length 0 none)).take (HT.sIx (ns.map D.int).length (ns.map D.int).length (some 63) - HT.sIx (ns.map D.int).length 0 none)).map D.int := by
    simp only [cutD, List.map_take, List.map_drop]
  unfold den__law_feed denOf m__law_feed
  simp only [entE, List.map_cons, List.map_nil, List.length_cons, List.length_nil, List.replicate, List.cons_append, List.nil_append, sRet, mCellN, evPs, mUn, mSl, oNo, oIs, mV, mC, mCons, mNil, Res.bind, ret, slO, listO, List.getElem?_cons_zero, e]
def e2 (ns : List Int) (l : D) : Z.Env := [.val (.scr ns), .val (.ref 4), .val l] ++ List.replicate 2 .no
theorem law_1 {ns : List Int} {g1 g2 : G} {l : D} (h1 : den__law_feed [.scr ns] [.tb qz0, .tb qz1, .tb qz2, .tb qz3] = .ok (.ref 4) g1) (h2 : den__law_four [.ref 4] g1 = .ok l g2) : m_law (entE 5 [.scr ns]) [.tb qz0, .tb qz1, .tb qz2, .tb qz3] = m_law_2 (e2 ns l) g2 := by
  have hp : ∀ x, pkV D.non [0] [x] = [x] := fun x => rfl
  unfold m_law m_law_1
  simp only [entE, List.map_cons, List.map_nil, List.length_cons, List.length_nil, List.replicate, List.cons_append, List.nil_append, sSeq, sSet, mVs, mV, mCons, mNil, mCallB, gP, Res.bind, List.append_nil, List.getElem?_cons_zero, List.getElem?_cons_succ, hp, h1, h2, and_self, if_true, Nat.reduceAdd, Nat.reduceSub, List.set]
  rfl
end Z
set_option maxHeartbeats 0
namespace Z
open PySem PySem.Spec PyProof.Rows L2
set_option autoImplicit false
def okT : SR → Bool
  | .rt (.bl true) _ => true
  | _ => false
theorem rest_0 (ns : List Int) (c : Cell) : okT (m_law_2 (e2 ns (.lst [.str "box", .str "none", .str "ready", .str "wait"])) [.tb qz0, .tb qz1, .tb qz2, .tb qz3, c]) = true := by kernel_rfl
theorem rest_1 (ns : List Int) (c : Cell) : okT (m_law_2 (e2 ns (.lst [.str "none", .str "ready", .str "wait", .str "box"])) [.tb qz0, .tb qz1, .tb qz2, .tb qz3, c]) = true := by kernel_rfl
theorem rest_2 (ns : List Int) (c : Cell) : okT (m_law_2 (e2 ns (.lst [.str "ready", .str "wait", .str "box", .str "none"])) [.tb qz0, .tb qz1, .tb qz2, .tb qz3, c]) = true := by kernel_rfl
theorem rest_3 (ns : List Int) (c : Cell) : okT (m_law_2 (e2 ns (.lst [.str "wait", .str "box", .str "none", .str "ready"])) [.tb qz0, .tb qz1, .tb qz2, .tb qz3, c]) = true := by kernel_rfl
theorem rest_4 (ns : List Int) (c : Cell) : okT (m_law_2 (e2 ns (.lst [.str "none", .str "box", .str "wait", .str "ready"])) [.tb qz0, .tb qz1, .tb qz2, .tb qz3, c]) = true := by kernel_rfl
theorem rest_5 (ns : List Int) (c : Cell) : okT (m_law_2 (e2 ns (.lst [.str "box", .str "wait", .str "ready", .str "none"])) [.tb qz0, .tb qz1, .tb qz2, .tb qz3, c]) = true := by kernel_rfl
theorem rest_6 (ns : List Int) (c : Cell) : okT (m_law_2 (e2 ns (.lst [.str "wait", .str "ready", .str "none", .str "box"])) [.tb qz0, .tb qz1, .tb qz2, .tb qz3, c]) = true := by kernel_rfl
theorem rest_7 (ns : List Int) (c : Cell) : okT (m_law_2 (e2 ns (.lst [.str "ready", .str "none", .str "box", .str "wait"])) [.tb qz0, .tb qz1, .tb qz2, .tb qz3, c]) = true := by kernel_rfl
theorem rest_8 (ns : List Int) (c : Cell) : okT (m_law_2 (e2 ns (.lst [.str "a", .str "ab", .str "b", .str "ba"])) [.tb qz0, .tb qz1, .tb qz2, .tb qz3, c]) = true := by kernel_rfl
theorem rest_9 (ns : List Int) (c : Cell) : okT (m_law_2 (e2 ns (.lst [.str "ab", .str "b", .str "ba", .str "a"])) [.tb qz0, .tb qz1, .tb qz2, .tb qz3, c]) = true := by kernel_rfl
theorem rest_10 (ns : List Int) (c : Cell) : okT (m_law_2 (e2 ns (.lst [.str "b", .str "ba", .str "a", .str "ab"])) [.tb qz0, .tb qz1, .tb qz2, .tb qz3, c]) = true := by kernel_rfl
theorem rest_11 (ns : List Int) (c : Cell) : okT (m_law_2 (e2 ns (.lst [.str "ba", .str "a", .str "ab", .str "b"])) [.tb qz0, .tb qz1, .tb qz2, .tb qz3, c]) = true := by kernel_rfl
theorem rest_12 (ns : List Int) (c : Cell) : okT (m_law_2 (e2 ns (.lst [.str "zzzzzzzz", .str "z", .str "zzzzzzza", .str "zz"])) [.tb qz0, .tb qz1, .tb qz2, .tb qz3, c]) = true := by kernel_rfl
theorem rest_13 (ns : List Int) (c : Cell) : okT (m_law_2 (e2 ns (.lst [.str "z", .str "zzzzzzza", .str "zz", .str "zzzzzzzz"])) [.tb qz0, .tb qz1, .tb qz2, .tb qz3, c]) = true := by kernel_rfl
theorem rest_14 (ns : List Int) (c : Cell) : okT (m_law_2 (e2 ns (.lst [.str "zzzzzzza", .str "zz", .str "zzzzzzzz", .str "z"])) [.tb qz0, .tb qz1, .tb qz2, .tb qz3, c]) = true := by kernel_rfl
theorem rest_15 (ns : List Int) (c : Cell) : okT (m_law_2 (e2 ns (.lst [.str "zz", .str "zzzzzzzz", .str "z", .str "zzzzzzza"])) [.tb qz0, .tb qz1, .tb qz2, .tb qz3, c]) = true := by kernel_rfl
theorem rest_16 (ns : List Int) (c : Cell) : okT (m_law_2 (e2 ns (.lst [.str "up", .str "down", .str "barred", .str "held"])) [.tb qz0, .tb qz1, .tb qz2, .tb qz3, c]) = true := by kernel_rfl
theorem rest_17 (ns : List Int) (c : Cell) : okT (m_law_2 (e2 ns (.lst [.str "down", .str "barred", .str "held", .str "up"])) [.tb qz0, .tb qz1, .tb qz2, .tb qz3, c]) = true := by kernel_rfl
theorem rest_18 (ns : List Int) (c : Cell) : okT (m_law_2 (e2 ns (.lst [.str "barred", .str "held", .str "up", .str "down"])) [.tb qz0, .tb qz1, .tb qz2, .tb qz3, c]) = true := by kernel_rfl
theorem rest_19 (ns : List Int) (c : Cell) : okT (m_law_2 (e2 ns (.lst [.str "held", .str "up", .str "down", .str "barred"])) [.tb qz0, .tb qz1, .tb qz2, .tb qz3, c]) = true := by kernel_rfl
theorem rest_20 (ns : List Int) (c : Cell) : okT (m_law_2 (e2 ns (.lst [.str "deaf", .str "right", .str "first", .str "a"])) [.tb qz0, .tb qz1, .tb qz2, .tb qz3, c]) = true := by kernel_rfl
theorem rest_21 (ns : List Int) (c : Cell) : okT (m_law_2 (e2 ns (.lst [.str "right", .str "first", .str "a", .str "deaf"])) [.tb qz0, .tb qz1, .tb qz2, .tb qz3, c]) = true := by kernel_rfl
theorem rest_22 (ns : List Int) (c : Cell) : okT (m_law_2 (e2 ns (.lst [.str "first", .str "a", .str "deaf", .str "right"])) [.tb qz0, .tb qz1, .tb qz2, .tb qz3, c]) = true := by kernel_rfl
theorem rest_23 (ns : List Int) (c : Cell) : okT (m_law_2 (e2 ns (.lst [.str "a", .str "deaf", .str "right", .str "first"])) [.tb qz0, .tb qz1, .tb qz2, .tb qz3, c]) = true := by kernel_rfl
theorem rest_ok (ns : List Int) (g : Cell) : ∀ l ∈ lots, okT (m_law_2 (e2 ns l) [.tb qz0, .tb qz1, .tb qz2, .tb qz3, g]) = true := by
  intro l hl
  simp only [lots, List.mem_cons, List.not_mem_nil, or_false] at hl
  rcases hl with rfl | rfl | rfl | rfl | rfl | rfl | rfl | rfl | rfl | rfl | rfl | rfl | rfl | rfl | rfl | rfl | rfl | rfl | rfl | rfl | rfl | rfl | rfl | rfl
  · exact rest_0 ns g
  · exact rest_1 ns g
  · exact rest_2 ns g
  · exact rest_3 ns g
  · exact rest_4 ns g
  · exact rest_5 ns g
  · exact rest_6 ns g
  · exact rest_7 ns g
  · exact rest_8 ns g
  · exact rest_9 ns g
  · exact rest_10 ns g
  · exact rest_11 ns g
  · exact rest_12 ns g
  · exact rest_13 ns g
  · exact rest_14 ns g
  · exact rest_15 ns g
  · exact rest_16 ns g
  · exact rest_17 ns g
  · exact rest_18 ns g
  · exact rest_19 ns g
  · exact rest_20 ns g
  · exact rest_21 ns g
  · exact rest_22 ns g
  · exact rest_23 ns g
theorem okT_ok {r : SR} (h : okT r = true) : ∃ g, r = .rt (.bl true) g := by
  unfold okT at h
  split at h
  · exact ⟨_, rfl⟩
  · cases h
theorem plain : LawT den_law 63 (lamz.map (·.2)) := by
  intro ns _
  obtain ⟨cs, h1⟩ := feed_ok ns
  obtain ⟨l, hl, c, h2⟩ := four_ok cs 0 0 0
  obtain ⟨g, e⟩ := okT_ok (rest_ok ns c l hl)
  refine ⟨g, ?_⟩
  show den_law [.scr ns] [.tb qz0, .tb qz1, .tb qz2, .tb qz3] = _
  unfold den_law denOf
  rw [law_1 h1 h2, e]
end Z
open PySem PySem.W PySem.Calls PyProof.Rows
theorem PySem.Challenge.cw_zonebetween_k28_led_runs_refused_holds : PySem.Challenge.rw_zonebetween_k28_led_runs_refused.Holds := by
  w_on; o_law
  refine HandSHeadRun.head_any (r := OpenLaw.row PySem.Challenge.rw_zonebetween_k28_led_runs_refused) (q := view (OpenLaw.row PySem.Challenge.rw_zonebetween_k28_led_runs_refused).prog [51]) (H := Z.hk) (ob := Z.ob) (M := 20000) (loose := Z.nmz) (d := HandSHeadRun.topDef (OpenLaw.row PySem.Challenge.rw_zonebetween_k28_led_runs_refused).prog 51) (kwd := []) Z.ob_eq
    (by kernel_rfl) (fun s => by kernel_rfl) Z.runz (by kernel_rfl) (by kernel_rfl) (by kernel_rfl) (by rfl) (by first | assumption | decide +kernel) (by decide +kernel) ⟨rfl, rfl, rfl, rfl, rfl, by decide +kernel⟩ ?hw ?hc
  case hw => w_witness2
  case hc =>
    refine Z.walk_endT (l := PySem.Challenge.rw_zonebetween_k28_led_runs_refused) (n := 63) (k := 12) (x := "_law_script") rfl (by decide) (by kernel_rfl) ⟨rfl, by decide, by decide⟩ ?F
    intro w mg fa h Y G hmg0
    obtain ⟨K, KX, c⟩ := Y
    have hmg : mg ("law" : PySem.Str) = some (.ref fa) := by
      have e : (HandSHeadRun.topDef (OpenLaw.row PySem.Challenge.rw_zonebetween_k28_led_runs_refused).prog 51).name = ("law" : PySem.Str) := by kernel_rfl
      rw [← e]
      exact hmg0
    obtain ⟨x1, x2⟩ := He.ba c.e.more
    obtain ⟨x3, x4⟩ := He.ba x2
    obtain ⟨x4, y1⟩ := He.ba x4
    obtain ⟨x4, x5⟩ := He.ba x4
    obtain ⟨y1, y2⟩ := He.ba y1
    obtain ⟨y2, y3⟩ := He.ba y2
    obtain ⟨t1, t2, t3, t4⟩ := Z.headT KX c.e (by decide) x4
    obtain ⟨fd, hb, hF⟩ := Z.factsz (T := { P := (PySem.Challenge.rw_zonebetween_k28_led_runs_refused).prog, w := w, K := K, ct := Z.ctz Z.ersz K, cf := Z.cfz Z.fsz, tb := Z.tbz Z.lamz K, oc := Z.ocz Z.cclsz K }) ⟨KX, G, c.e.d, Z.ers_of c.e x1, x3, rfl, rfl, rfl, rfl, x5, rfl, c.cf, y1, y2, y3, rfl⟩ hmg
    exact ⟨_, fd, Z.den_law, Z.csz Z.lamz K, rfl, rfl, KX, hb, Z.plain, t1, t2, t3, t4, hF⟩
