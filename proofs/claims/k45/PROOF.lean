import PyProof.Rows.All
import HandS.TupSets
import KE.KeyNested
import HandS.ForMost
import HandS.ForExc
import HandS.Lambda
import HandS.TryMany
import HandS.AnyAll
import HandS.GenList
import HandS.Zip
import HandS.FStr
import HandS.FStrTup
import HandS.ExcInit
import KE.KExcSuper
import HandS.Deep
import HandS.TupAny
import HandS.TupMul
import HandS.TupLe
import HandS.IsInst
import HandS.Flow
import HandS.Style
import KE.DataCmp
import HandS.SortInts
import HandS.SortOrd
import HandS.Set
import HandS.SetFor
import PyProof.P3Eq
import KE.SortData
import KE.DataMinMax
import HandS.Strs
import HandS.Exc
import HandS.WordsExc
import HandS.ExcField
import HandS.ExcIs
import KE.KDictDisplayH
import KE.KDictSum
import HandS.Conv
import HandS.More
import PyProof.Transfer
import KE.KIndexOf
import KE.DataFind
import KE.KRevSl
import HandS.RaiseMore
import HandS.NoneIn
import HandS.HeadHook1
import HandS.HeadHook2
import HandS.Head2
import HandS.HeadWalk
import HandS.EndTab
import PySem.Challenge.RW_dominorows_k45_balanced_lays
set_option Elab.async false
set_option linter.all false
set_option maxRecDepth 100000
set_option maxHeartbeats 2000000
/-! tables of sets, for every mask whose round is whole -/
namespace NS
open PySem PySem.Spec PyProof.Rows L2
/-- from each slot each other one is met within one round -/
structure Whole (m : Nat) : Prop where
  odd : m % 2 = 1
  meet : ∀ i j, i ≤ m → j ≤ m → ∃ k, k ≤ m ∧ lcgI m i k = j
theorem whole_of_small {m : Nat} (h : MaskOk m) : Whole m := ⟨mask_odd h, fun _ _ hi hj => lcgI_all h hi hj⟩
/-- the round from 0, as a list -/
def roundFrom (m : Nat) : Nat → Nat → List Nat
  | _, 0 => []
  | x, n + 1 => x :: roundFrom m ((x * 5 + 1) % (m + 1)) n
theorem mem_round {m j : Nat} : ∀ {n a : Nat}, j ∈ roundFrom m (lcgN m a) n → ∃ b, b < n ∧ lcgN m (a + b) = j
  | n + 1, a, h => by
    rcases List.mem_cons.mp h with e | h
    · exact ⟨0, Nat.succ_pos n, e.symm⟩
    · obtain ⟨b, hb, e⟩ := mem_round (a := a + 1) h
      exact ⟨b + 1, Nat.succ_lt_succ hb, by rw [← e]; congr 1; omega⟩
theorem whole_by_round {m : Nat} (odd : m % 2 = 1) (all : (List.range (m + 1)).all (fun j => (roundFrom m 0 (m + 1)).contains j) = true) (back : lcgN m (m + 1) = 0) : Whole m := by
  have at_ : ∀ j, j ≤ m → ∃ b, b ≤ m ∧ lcgN m b = j := fun j hj => by
    have c := List.all_eq_true.mp all j (List.mem_range.mpr (Nat.lt_succ_of_le hj))
    obtain ⟨b, hb, e⟩ := mem_round (a := 0) (List.contains_iff_mem.mp c)
    exact ⟨b, Nat.le_of_lt_succ hb, by rw [← e, Nat.zero_add]⟩
  have again : ∀ k, lcgN m (m + 1 + k) = lcgN m k := fun k => by
    induction k with
    | zero => exact back
    | succ k ih =>
      show (lcgN m (m + 1 + k) * 5 + 1) % (m + 1) = (lcgN m k * 5 + 1) % (m + 1)
      rw [ih]
  refine ⟨odd, fun i j hi hj => ?_⟩
  obtain ⟨a, ha, rfl⟩ := at_ i hi
  obtain ⟨b, hb, rfl⟩ := at_ j hj
  by_cases c : a ≤ b
  · exact ⟨b - a, by omega, by rw [lcgN_add]; congr 1; omega⟩
  · refine ⟨m + 1 + b - a, by omega, ?_⟩
    rw [lcgN_add, show a + (m + 1 + b - a) = m + 1 + b by omega, again]
theorem whole511 : Whole 511 := whole_by_round rfl (by decide +kernel) (by decide +kernel)
/-- a slot is met before the search gives up -/
theorem Whole.found {m : Nat} (W : Whole m) (h : Int) {j : Nat} (hj : j ≤ m) : ∃ k, k < 10 * SetTable.turns m ∧ way m h k = j := by
  obtain ⟨k, hk, e⟩ := W.meet _ j (runI_le m (SetTable.bits h) 12) hj
  rw [← runI_tail (bits_lt h)] at e
  obtain ⟨q, hq, e2⟩ := run_nth m (SetTable.bits h) (12 + k)
  refine ⟨q, Nat.lt_of_le_of_lt hq (by unfold SetTable.turns; omega), ?_⟩
  show SetTable.Probe.j _ = j
  rw [e2]
  exact e
theorem in_table (m : Nat) (h : Int) (k : Nat) : way m h k ≤ m := by
  have b : SetTable.bits h % (m + 1) ≤ m := Nat.le_of_lt_succ (Nat.mod_lt _ (Nat.succ_pos m))
  obtain ⟨r1, r2, _⟩ := runEnd_bd b
  have q : (runAt m (SetTable.bits h % (m + 1)) (SetTable.bits h)).j + (runAt m (SetTable.bits h % (m + 1)) (SetTable.bits h)).more ≤ m := by
    unfold runAt
    dsimp only
    omega
  exact Nat.le_trans (Nat.le_add_right _ _) (nth_in k _ q)
/-- each hash's slot is reached over full slots -/
structure Tb (t : SetTable) (hs : List Int) : Prop where
  whole : Whole t.mask
  up : Ris t.place.toList
  none : t.dummies = #[]
  many : t.place.toList.length = hs.length
  low : ∀ x ∈ t.place.toList, x ≤ t.mask
  over : ∀ z ∈ hs.zip t.place.toList, ∃ k, way t.mask z.1 k = z.2 ∧ ∀ q, q < k → way t.mask z.1 q ∈ t.place.toList
theorem Tb.gap {t : SetTable} {hs : List Int} (T : Tb t hs) (room : hs.length ≤ t.mask) (h : Int) : ∃ K, K < 10 * SetTable.turns t.mask ∧ way t.mask h K ∉ t.place.toList ∧ ∀ k, k < K → way t.mask h k ∈ t.place.toList := by
  obtain ⟨j, hj, nj⟩ := st_missing t.place.toList (t.mask + 1) (by have := T.many; omega)
  obtain ⟨k, hk, rfl⟩ := T.whole.found h (Nat.le_of_lt_succ hj)
  obtain ⟨K, k1, k2, k3⟩ := st_least (p := fun q => way t.mask h q ∉ t.place.toList) k nj
  exact ⟨K, Nat.lt_of_le_of_lt k1 hk, k2, fun q hq => Classical.not_not.mp (k3 q hq)⟩
theorem zip_at {α β : Type} {xs : List α} {ys : List β} {i : Nat} {x : α} {y : β} (hx : xs[i]? = some x) (hy : ys[i]? = some y) : (x, y) ∈ xs.zip ys :=
  List.mem_of_getElem? (List.getElem?_zip_eq_some.mpr ⟨hx, hy⟩)
theorem Tb.ahead {t : SetTable} {hs : List Int} (T : Tb t hs) {h : Int} {K i j : Nat} (hK : way t.mask h K ∉ t.place.toList) (hi : hs[i]? = some h) (hj : t.place.toList[i]? = some j) : ∃ k, k < K ∧ way t.mask h k = j := by
  obtain ⟨k, e, hb⟩ := T.over _ (zip_at hi hj)
  refine ⟨k, ?_, e⟩
  rcases Nat.lt_or_ge k K with c | c
  · exact c
  · refine absurd ?_ hK
    rcases Nat.lt_or_ge K k with d | d
    · exact hb K d
    · have : K = k := by omega
      rw [this, show way t.mask h k = j from e]
      exact List.mem_of_getElem? hj
/-- one more hash, put at the first gap of its way -/
theorem Tb.more {t : SetTable} {hs : List Int} (T : Tb t hs) {h : Int} {K : Nat} (hK : way t.mask h K ∉ t.place.toList) (hb : ∀ k, k < K → way t.mask h k ∈ t.place.toList) {p : Nat} (hp : p = SetTable.below t.place (way t.mask h K)) :
    p ≤ hs.length ∧ Tb (t.put (way t.mask h K)).1 (hs.take p ++ h :: hs.drop p) := by
  subst hp
  obtain ⟨c1, _, _⟩ := below_cut T.up (way t.mask h K)
  have c1 : SetTable.below t.place (way t.mask h K) ≤ t.place.toList.length := by rw [Array.length_toList]; exact c1
  have pl := put_place t (way t.mask h K)
  have c2 : SetTable.below t.place (way t.mask h K) ≤ hs.length := by rw [← T.many]; exact c1
  have sub : ∀ {x}, x ∈ t.place.toList → x ∈ (t.put (way t.mask h K)).1.place.toList := fun hx => by rw [pl]; exact mem_ins.mpr (.inr hx)
  have zp : ∀ (n : Nat) (as : List Int) (bs : List Nat) (a : Int) (b : Nat), as.length = bs.length → n ≤ bs.length → ∀ z ∈ (as.take n ++ a :: as.drop n).zip (bs.take n ++ b :: bs.drop n), z = (a, b) ∨ z ∈ as.zip bs := by
    intro n as bs a b hl hn z hz
    rw [List.zip_append (by rw [List.length_take, List.length_take, hl])] at hz
    have e : as.zip bs = (as.take n).zip (bs.take n) ++ (as.drop n).zip (bs.drop n) := by
      rw [← List.zip_append (by rw [List.length_take, List.length_take, hl]), List.take_append_drop, List.take_append_drop]
    rw [e]
    rcases List.mem_append.mp hz with c | c
    · exact .inr (List.mem_append_left _ c)
    · rcases List.mem_cons.mp c with c | c
      · exact .inl c
      · exact .inr (List.mem_append_right _ c)
  refine ⟨c2, ⟨T.whole, ?_, put_dm T.none _, ?_, fun x hx => ?_, fun z hz => ?_⟩⟩
  · refine ris_insert T.up fun e => hK (List.mem_of_getElem? (by rw [Array.getElem?_toList]; exact e))
  · rw [pl, len_ins _ c1, len_ins _ c2, T.many]
  · rw [pl] at hx
    rcases mem_ins.mp hx with e | hx
    · rw [e]
      exact in_table _ _ _
    · exact T.low x hx
  · rw [pl] at hz
    show ∃ k, way t.mask z.1 k = z.2 ∧ ∀ q, q < k → way t.mask z.1 q ∈ (t.put (way t.mask h K)).1.place.toList
    rcases zp _ hs t.place.toList h _ T.many.symm c1 z hz with e | hz
    · rw [e]
      exact ⟨K, rfl, fun q hq => sub (hb q hq)⟩
    · obtain ⟨k, e, r⟩ := T.over z hz
      exact ⟨k, e, fun q hq => sub (r q hq)⟩
end NS

set_option Elab.async false
set_option linter.all false
set_option maxRecDepth 100000
set_option maxHeartbeats 2000000
/-! a table laid anew -/
namespace NS
open PySem PySem.Spec PyProof.Rows L2
/-- hashes and the slots in which they sit -/
structure Sit (m : Nat) (hs : List Int) (ow : Array (Option Nat)) : Prop where
  size : ow.size = m + 1
  each : ∀ k, k < hs.length → ∃ j, j ≤ m ∧ oAt ow j = some k
  why : ∀ j k, j ≤ m → oAt ow j = some k → ∃ h K, hs[k]? = some h ∧ way m h K = j ∧ ∀ q, q < K → oAt ow (way m h q) ≠ none
  once : ∀ j i k, j ≤ m → i ≤ m → oAt ow j = some k → oAt ow i = some k → j = i
theorem sit_none (m : Nat) : Sit m [] (Array.replicate (m + 1) none) := by
  have e : ∀ {j k}, j ≤ m → oAt (Array.replicate (m + 1) none) j ≠ some k := fun hj z => by
    rw [oAt_init hj] at z
    exact nomatch z
  exact ⟨Array.size_replicate, fun k hk => absurd hk (Nat.not_lt_zero k), fun j k hj z => absurd z (e hj), fun j i k hj _ z _ => absurd z (e hj)⟩
section
variable {m : Nat} {hs : List Int} {ow : Array (Option Nat)}
theorem Sit.slots (S : Sit m hs ow) : ((liveOf m ow).map (·.1)).Nodup ∧ Ris ((liveOf m ow).map (·.1)) ∧ ∀ x ∈ (liveOf m ow).map (·.1), x ≤ m := by
  have r := ris_live (fun j => ow.getD j none) (List.range (m + 1)) (show Ris _ by unfold Ris; exact List.pairwise_lt_range)
  exact ⟨List.Pairwise.imp (fun h => Nat.ne_of_lt h) r.1, r.1, fun x hx => Nat.le_of_lt_succ (List.mem_range.mp (r.2 x hx))⟩
theorem Sit.count (S : Sit m hs ow) : (liveOf m ow).length = hs.length ∧ ((liveOf m ow).map (·.2)).Perm (List.range hs.length) := by
  have here : ∀ {j k}, (j, k) ∈ liveOf m ow ↔ j ≤ m ∧ oAt ow j = some k := mem_live S.size
  have nd : ((liveOf m ow).map (·.2)).Nodup := by
    have s := S.slots.1
    rw [List.nodup_iff_pairwise_ne, List.pairwise_map] at s ⊢
    refine s.imp_of_mem fun {x y} hx hy ne e => ne ?_
    obtain ⟨x1, x2⟩ := x
    obtain ⟨y1, y2⟩ := y
    have e : x2 = y2 := e
    subst e
    exact S.once x1 y1 x2 (here.mp hx).1 (here.mp hy).1 (here.mp hx).2 (here.mp hy).2
  have a := nat_nodup_len _ (List.range hs.length) nd fun k hk => by
    obtain ⟨⟨j, k'⟩, hz, rfl⟩ := List.mem_map.mp hk
    obtain ⟨h, _, e, _⟩ := S.why j k' (here.mp hz).1 (here.mp hz).2
    exact List.mem_range.mpr (List.getElem?_eq_some_iff.mp e).1
  have all : ∀ k, k < hs.length → k ∈ (liveOf m ow).map (·.2) := fun k hk => by
    obtain ⟨j, hj⟩ := S.each k hk
    exact List.mem_map.mpr ⟨(j, k), here.mpr hj, rfl⟩
  have b := nat_nodup_len (List.range hs.length) _ List.nodup_range fun k hk => all k (List.mem_range.mp hk)
  rw [List.length_map, List.length_range] at a b
  have e : (liveOf m ow).length = hs.length := Nat.le_antisymm a b
  exact ⟨e, perm_range hs.length _ (by rw [List.length_map, e]) all⟩
/-- the slot that the laying finds -/
theorem Sit.gap (S : Sit m hs ow) (W : Whole m) (room : hs.length ≤ m) (h : Int) : ∃ K, SetTable.layClean.free m ow (SetTable.turns m) (SetTable.bits h % (m + 1)) (SetTable.bits h) = some (way m h K) ∧
    oAt ow (way m h K) = none ∧ ∀ q, q < K → oAt ow (way m h q) ≠ none := by
  obtain ⟨j, hj, nj⟩ := st_missing ((liveOf m ow).map (·.1)) (m + 1) (by rw [List.length_map, S.count.1]; omega)
  have hj := Nat.le_of_lt_succ hj
  have ej : oAt ow j = none := by
    cases z : oAt ow j with
    | none => rfl
    | some k => exact absurd (List.mem_map.mpr ⟨(j, k), (mem_live S.size).mpr ⟨hj, z⟩, rfl⟩) nj
  obtain ⟨k, hk, e⟩ := W.meet _ j (runI_le m (SetTable.bits h) 12) hj
  rw [← runI_tail (bits_lt h)] at e
  have there : way m h (off m (SetTable.bits h % (m + 1)) (SetTable.bits h) (12 + k)) = j := by
    show SetTable.Probe.j _ = j
    rw [nth_off, itL_run]
    exact e
  obtain ⟨K, k1, k2, k3⟩ := st_least (p := fun q => oAt ow (way m h q) = none) (off m (SetTable.bits h % (m + 1)) (SetTable.bits h) (12 + k)) (by rw [there]; exact ej)
  refine ⟨K, free_spec m ow _ (12 + k) _ _ K (by unfold SetTable.turns; omega) k1 (fun q hq => ?_) ?_, k2, k3⟩
  · have := k3 q hq
    exact Bool.eq_false_iff.mpr fun z => this (Option.isNone_iff_eq_none.mp z)
  · exact Option.isNone_iff_eq_none.mpr k2
theorem Sit.more (S : Sit m hs ow) (W : Whole m) (room : hs.length ≤ m) (h : Int) : ∃ ow', stepF m (some (ow, hs.length)) h = some (ow', hs.length + 1) ∧ Sit m (hs ++ [h]) ow' := by
  obtain ⟨K, e1, e2, e3⟩ := S.gap W room h
  have inb : way m h K < ow.size := by
    rw [S.size]
    exact Nat.lt_succ_of_le (in_table m h K)
  refine ⟨_, stepF_some e1, ?_⟩
  have self := oAt_set_self (some hs.length) inb
  have other : ∀ {i}, i ≠ way m h K → oAt (ow.setIfInBounds (way m h K) (some hs.length)) i = oAt ow i := fun hi => oAt_set_ne _ hi
  have kept : ∀ {i}, oAt ow i ≠ none → oAt (ow.setIfInBounds (way m h K) (some hs.length)) i ≠ none := fun {i} hi => by
    rw [other fun z => hi (by rw [z]; exact e2)]
    exact hi
  have old : ∀ {j k}, j ≤ m → oAt ow j = some k → k < hs.length := fun hj z => by
    obtain ⟨_, _, e, _⟩ := S.why _ _ hj z
    exact (List.getElem?_eq_some_iff.mp e).1
  refine ⟨by rw [Array.size_setIfInBounds]; exact S.size, fun k hk => ?_, fun j k hj z => ?_, fun j i k hj hi zj zi => ?_⟩
  · rw [List.length_append, List.length_singleton] at hk
    rcases Nat.lt_or_eq_of_le (Nat.le_of_lt_succ hk) with c | c
    · obtain ⟨j, hj, e⟩ := S.each k c
      exact ⟨j, hj, by rw [other fun z => by rw [z, e2] at e; exact nomatch e]; exact e⟩
    · exact ⟨way m h K, in_table m h K, by rw [self, c]⟩
  · by_cases c : j = way m h K
    · rw [c, self] at z
      refine ⟨h, K, ?_, c.symm, fun q hq => kept (e3 q hq)⟩
      rw [← Option.some.inj z, List.getElem?_append_right (Nat.le_refl _), Nat.sub_self]
      rfl
    · rw [other c] at z
      obtain ⟨g, Q, a1, a2, a3⟩ := S.why j k hj z
      exact ⟨g, Q, by rw [List.getElem?_append_left (old hj z)]; exact a1, a2, fun q hq => kept (a3 q hq)⟩
  · by_cases c : j = way m h K
    · by_cases d : i = way m h K
      · rw [c, d]
      · rw [c, self] at zj
        rw [other d] at zi
        have := old hi zi
        have := Option.some.inj zj
        omega
    · rw [other c] at zj
      by_cases d : i = way m h K
      · rw [d, self] at zi
        have := old hj zj
        have := Option.some.inj zi
        omega
      · rw [other d] at zi
        exact S.once j i k hj hi zj zi
end
theorem sit_all {m : Nat} (W : Whole m) : ∀ (rest hs : List Int) (ow : Array (Option Nat)), Sit m hs ow → hs.length + rest.length ≤ m → ∃ ow', rest.foldl (stepF m) (some (ow, hs.length)) = some (ow', hs.length + rest.length) ∧ Sit m (hs ++ rest) ow'
  | [], hs, ow, S, _ => ⟨ow, rfl, by rw [List.append_nil]; exact S⟩
  | h :: rest, hs, ow, S, l => by
    rw [List.length_cons] at l
    obtain ⟨o1, e1, S1⟩ := S.more W (by omega) h
    obtain ⟨o2, e2, S2⟩ := sit_all W rest (hs ++ [h]) o1 S1 (by rw [List.length_append, List.length_singleton]; omega)
    rw [List.length_append, List.length_singleton] at e2
    refine ⟨o2, ?_, by rw [List.append_assoc] at S2; exact S2⟩
    rw [List.foldl_cons, e1, e2, List.length_cons]
    congr 2
    omega
/-- the table laid anew -/
theorem laid_anew (t : SetTable) {hs : Array Int} {wanted M : Nat} (hw : SetTable.sizeAbove wanted = M + 1) (W : Whole M) (room : hs.size ≤ M) :
    ∃ t' order, t.relaid hs wanted = some (t', order) ∧ order.toList.Perm (List.range hs.size) ∧ Tb t' (order.toList.map fun i => hs.getD i 0) ∧ t'.mask = M ∧ t'.led = t.led ∧ t'.plain = t.plain := by
  obtain ⟨ow, e, S⟩ := sit_all W hs.toList [] _ (sit_none M) (by show 0 + hs.size ≤ M; omega)
  rw [List.nil_append] at S
  have lay : SetTable.layClean M hs = some ow := by
    rw [layClean_eq]
    rw [show ([] : List Int).length = 0 from rfl] at e
    rw [e]
    rfl
  have rel : t.relaid hs wanted = some (tabOf t M ow, ((liveOf M ow).map (·.2)).toArray) := by
    rw [relaid_eq, hw, Nat.add_sub_cancel, lay]
    rfl
  obtain ⟨c1, c2⟩ := S.count
  obtain ⟨_, s2, s3⟩ := S.slots
  refine ⟨_, _, rel, by rw [Array.length_toList] at c2; exact c2, ⟨W, s2, rfl, ?_, s3, fun z hz => ?_⟩, rfl, rfl, rfl⟩
  · show ((liveOf M ow).map (·.1)).length = (((liveOf M ow).map (·.2)).map fun i => hs.getD i 0).length
    simp only [List.length_map]
  · have hz : z ∈ (((liveOf M ow).map (·.2)).map fun i => hs.getD i 0).zip ((liveOf M ow).map (·.1)) := hz
    rw [List.map_map, List.zip_map'] at hz
    obtain ⟨⟨j, k⟩, hm, rfl⟩ := List.mem_map.mp hz
    obtain ⟨hj, ej⟩ := (mem_live S.size).mp hm
    obtain ⟨h, K, a1, a2, a3⟩ := S.why j k hj ej
    have eh : hs.getD k 0 = h := by
      rw [Array.getD_eq_getD_getElem?, ← Array.getElem?_toList, a1]
      rfl
    show ∃ q, way M (hs.getD k 0) q = j ∧ ∀ r, r < q → way M (hs.getD k 0) r ∈ (liveOf M ow).map (·.1)
    rw [eh]
    refine ⟨K, a2, fun r hr => ?_⟩
    obtain ⟨i, hi⟩ := Option.ne_none_iff_exists'.mp (a3 r hr)
    exact List.mem_map.mpr ⟨(way M h r, i), (mem_live S.size).mpr ⟨in_table M h r, hi⟩, rfl⟩
end NS

set_option Elab.async false
set_option linter.all false
set_option maxRecDepth 100000
set_option maxHeartbeats 2000000
/-! what a search among nested keys asks -/
namespace NS
open PySem PySem.Spec PyProof.Rows L2
mutual
/-- a key without texts -/
def plainK : NestedKey → Bool
  | .none => true
  | .num _ => true
  | .text _ => false
  | .tup ks => plainKs ks
def plainKs : List NestedKey → Bool
  | [] => true
  | k :: ks => plainK k && plainKs ks
end
section
variable {P : Program} {w : World}
/-- a question of a value, whatever stands around it, is answered so -/
def Says (P : Program) (w : World) (s : Shared) (m : Sem Bool) (b : Bool) : Prop := ∀ (A : Around) (E : Value → Shared → Prop) (Q : Bool → Shared → Prop), Q b s → wpAny (model P w) A m Q E s
theorem Says.pure {s : Shared} {m : Sem Bool} {b : Bool} (e : m = Pure.pure b) : Says P w s m b := fun A E Q q => by
  rw [e]
  exact wpAny_pure q
theorem Says.class_tuple {s : Shared} {a : Addr} {o : Obj} {vs : Array Value} {c n : Nat} (ho : s.heap.get? a = some o) (hc : o.cls = .type "tuple") (hd : o.data = .seq vs c) (q : ∀ v ∈ vs.toList, Says P w s (ofAClassStatement n v) false) :
    Says P w s (ofAClassStatement (n + 1) (.ref a)) false := fun A E Q h => by
  have ty : s.TypeIs (.ref a) "tuple" := ⟨o, ho, hc⟩
  unfold ofAClassStatement
  refine wpAny_bind (wpAny_typeOf ty ?_)
  dsimp only
  simp only [show (("tuple" : String) == "tuple") = true from by decide, if_true, Bool.not_true, Bool.false_eq_true, if_false]
  try refine wpAny_bind (wpAny_pure ?_)
  try simp only [Bool.not_true, Bool.false_eq_true, if_false]
  show wpAny _ _ (seqItems? (.ref a) >>= _) Q E s
  refine wpAny_bind (wpAny_seqItems ho hd ?_)
  dsimp only
  refine wpAny_bind ?_
  show wpAny _ _ (forIn vs _ _) _ E s
  rw [← Array.forIn_toList]
  refine wpAny_forIn_list _ (fun left r z => (r.1 = none ∧ z = s) ∧ ∀ v ∈ left, Says P w s (ofAClassStatement n v) false) _ ?_ ?_ _ _ ⟨⟨rfl, rfl⟩, q⟩
  · rintro v left r z ⟨⟨_, rfl⟩, all⟩
    refine wpAny_bind (all v List.mem_cons_self _ _ _ ?_)
    simp only [Bool.false_eq_true, if_false]
    exact wpAny_pure ⟨⟨rfl, rfl⟩, fun u hu => all u (.tail _ hu)⟩
  · rintro ⟨r, _⟩ z ⟨⟨hr, rfl⟩, _⟩
    cases hr
    exact wpAny_pure h
theorem Says.value_tuple {s : Shared} {a : Addr} {o : Obj} {vs : Array Value} {c n : Nat} (ho : s.heap.get? a = some o) (hc : o.cls = .type "tuple") (hd : o.data = .seq vs c) (q : ∀ v ∈ vs.toList, Says P w s (hashByValue n v) true) :
    Says P w s (hashByValue (n + 1) (.ref a)) true := fun A E Q h => by
  have ty : s.TypeIs (.ref a) "tuple" := ⟨o, ho, hc⟩
  unfold hashByValue
  refine wpAny_bind (wpAny_specialOf ty F.slot_tuple_hash.lookup ?_)
  show wpAny _ _ (seqItems? (.ref a) >>= _) Q E s
  refine wpAny_bind (wpAny_seqItems ho hd ?_)
  refine wpAny_bind ?_
  show wpAny _ _ (forIn vs _ _) _ E s
  rw [← Array.forIn_toList]
  refine wpAny_forIn_list _ (fun left r z => (r.1 = none ∧ z = s) ∧ ∀ v ∈ left, Says P w s (hashByValue n v) true) _ ?_ ?_ _ _ ⟨⟨rfl, rfl⟩, q⟩
  · rintro v left r z ⟨⟨_, rfl⟩, all⟩
    refine wpAny_bind (all v List.mem_cons_self _ _ _ ?_)
    simp only [Bool.not_true, Bool.false_eq_true, if_false]
    exact wpAny_pure ⟨⟨rfl, rfl⟩, fun u hu => all u (.tail _ hu)⟩
  · rintro ⟨r, _⟩ z ⟨⟨hr, rfl⟩, _⟩
    cases hr
    exact wpAny_pure h
mutual
theorem class_key : ∀ (k : NestedKey) (v : Value) (n : Nat) (s : Shared), NestedIs s.heap k v → k.depth ≤ n → Says P w s (ofAClassStatement n v) false
  | .none, _, n, s, x, _ => by cases x; cases n <;> exact .pure rfl
  | .num i, _, n, s, x, _ => by cases x <;> cases n <;> exact .pure rfl
  | .text y, _, n, s, x, _ => by cases x; cases n <;> exact .pure rfl
  | .tup ks, _, n, s, x, hn => by
    cases x with
    | tup h1 h2 h3 h4 =>
      rw [NestedKey.depth] at hn
      obtain ⟨m, rfl⟩ : ∃ m, n = m + 1 := ⟨n - 1, by omega⟩
      exact .class_tuple h1 h2 h3 (class_keys ks _ m s h4 (by omega))
theorem class_keys : ∀ (ks : List NestedKey) (vs : List Value) (n : Nat) (s : Shared), NestedAll s.heap ks vs → NestedKey.depthAll ks ≤ n → ∀ v ∈ vs, Says P w s (ofAClassStatement n v) false
  | [], _, n, s, x, _, v, hv => by cases x; cases hv
  | k :: ks, _, n, s, x, hn, v, hv => by
    cases x with
    | cons x1 x2 =>
      rw [NestedKey.depthAll] at hn
      rcases List.mem_cons.mp hv with rfl | hv
      · exact class_key k _ n s x1 (by omega)
      · exact class_keys ks _ n s x2 (by omega) v hv
end
mutual
theorem value_key : ∀ (k : NestedKey) (v : Value) (n : Nat) (s : Shared), NestedIs s.heap k v → k.depth ≤ n → plainK k = true → Says P w s (hashByValue n v) true
  | .none, _, n, s, x, _, _ => by cases x; cases n <;> exact .pure rfl
  | .num i, _, n, s, x, _, _ => by cases x <;> cases n <;> exact .pure rfl
  | .text y, _, n, s, x, _, hp => by rw [plainK] at hp; exact nomatch hp
  | .tup ks, _, n, s, x, hn, hp => by
    cases x with
    | tup h1 h2 h3 h4 =>
      rw [NestedKey.depth] at hn
      rw [plainK] at hp
      obtain ⟨m, rfl⟩ : ∃ m, n = m + 1 := ⟨n - 1, by omega⟩
      exact .value_tuple h1 h2 h3 (value_keys ks _ m s h4 (by omega) hp)
theorem value_keys : ∀ (ks : List NestedKey) (vs : List Value) (n : Nat) (s : Shared), NestedAll s.heap ks vs → NestedKey.depthAll ks ≤ n → plainKs ks = true → ∀ v ∈ vs, Says P w s (hashByValue n v) true
  | [], _, n, s, x, _, _, v, hv => by cases x; cases hv
  | k :: ks, _, n, s, x, hn, hp, v, hv => by
    cases x with
    | cons x1 x2 =>
      rw [NestedKey.depthAll] at hn
      rw [plainKs, Bool.and_eq_true] at hp
      rcases List.mem_cons.mp hv with rfl | hv
      · exact value_key k _ n s x1 (by omega) hp.1
      · exact value_keys ks _ n s x2 (by omega) hp.2 v hv
end
/-- the value at b is the key k, small and without texts -/
structure IsN (h : Heap) (k : NestedKey) (b : Addr) : Prop where
  is : NestedIs h k (.ref b)
  deep : k.depth ≤ 8
  plain : plainK k = true
theorem seen_none {s : Shared} {k : NestedKey} {b : Addr} (x : IsN s.heap k b) {ys : List Value} (all : ∀ y ∈ ys, ∃ q c, y = Value.ref c ∧ IsN s.heap q c) : Says P w s (searchCouldBeSeen (.ref b) ys) false := fun A E Q h => by
  unfold searchCouldBeSeen
  refine wpAny_bind ?_
  refine wpAny_forIn_list _ (fun left r z => (r.1 = none ∧ z = s) ∧ ∀ y ∈ left, ∃ q c, y = Value.ref c ∧ IsN s.heap q c) _ ?_ ?_ _ _ ⟨⟨rfl, rfl⟩, all⟩
  · rintro v left r z ⟨⟨_, rfl⟩, al⟩
    obtain ⟨q, c, rfl, y⟩ := al v List.mem_cons_self
    have al := fun u hu => al u (List.mem_cons_of_mem _ hu)
    dsimp only
    by_cases very : (b == c || (carriedByValue (.ref b) && carriedByValue (.ref c))) = true
    · exact wp_if_pos very (wpAny_pure ⟨⟨rfl, rfl⟩, al⟩)
    · refine wp_if_neg very (wpAny_bind (quiet_key k _ 8 _ x.is x.deep _ _ _ ?_))
      simp only [Bool.not_true, Bool.false_eq_true, if_false]
      refine wpAny_bind (quiet_key q _ 8 _ y.is y.deep _ _ _ ?_)
      simp only [Bool.not_true, Bool.false_eq_true, if_false]
      refine wpAny_bind (class_key k _ 8 _ x.is x.deep _ _ _ ?_)
      simp only [Bool.false_eq_true, if_false]
      refine wpAny_bind (class_key q _ 8 _ y.is y.deep _ _ _ ?_)
      simp only [Bool.false_eq_true, if_false]
      exact wpAny_pure ⟨⟨rfl, rfl⟩, al⟩
  · rintro ⟨r, _⟩ z ⟨⟨hr, rfl⟩, _⟩
    cases hr
    exact wpAny_pure h
end
end NS

set_option Elab.async false
set_option linter.all false
set_option maxRecDepth 100000
set_option maxHeartbeats 4000000
/-! a set of nested keys: the search -/
namespace NS
open PySem PySem.Spec PyProof.Rows L2
/-- members as the table's rows -/
def rowsN (w : World) (L : List (Addr × NestedKey)) : List (Int × Value) := L.map fun p => (p.2.hash w, Value.ref p.1)
abbrev hashN (w : World) (L : List (Addr × NestedKey)) : List Int := L.map fun p => p.2.hash w
/-- the masks of sets of up to 306 members -/
def Mk (m : Nat) : Prop := m = 7 ∨ m = 31 ∨ m = 127 ∨ m = 511
theorem Mk.whole {m : Nat} (h : Mk m) : Whole m := by
  rcases h with rfl | rfl | rfl | rfl
  · exact whole_of_small (.inl rfl)
  · exact whole_of_small (.inr (.inl rfl))
  · exact whole_of_small (.inr (.inr rfl))
  · exact whole511
structure SetN (P : Program) (w : World) (h : Heap) (a : Addr) (L : List (Addr × NestedKey)) (es : Array (Int × Value)) (ep : Nat) (t : SetTable) : Prop where
  ob : ∃ o, h.get? a = some o ∧ o.ExactSet ∧ o.data = .set es ep t
  rows : es.toList = rowsN w L
  tab : Tb t (hashN w L)
  nd : (L.map (·.2)).Nodup
  key : ∀ p ∈ L, IsN h p.2 p.1
  plain : t.plain = true
  led : w.params.followText "set-order" = true ∨ t.led = true
  room : L.length * 5 < t.mask * 3
  msk : Mk t.mask
section
variable {P : Program} {w : World} {A : Around} {E : Value → Shared → Prop} {s : Shared} {a : Addr} {L : List (Addr × NestedKey)} {es : Array (Int × Value)} {ep : Nat} {t : SetTable}
theorem rowsN_len {es : Array (Int × Value)} {L : List (Addr × NestedKey)} (h : es.toList = rowsN w L) : es.size = L.length := by
  rw [← Array.length_toList, h, rowsN, List.length_map]
theorem rowsN_at {es : Array (Int × Value)} {L : List (Addr × NestedKey)} (h : es.toList = rowsN w L) {i : Nat} {p : Addr × NestedKey} (e : L[i]? = some p) : es[i]? = some (p.2.hash w, Value.ref p.1) := by
  rw [← Array.getElem?_toList, h, rowsN, List.getElem?_map, e]
  rfl
theorem Tb.size {t : SetTable} {hs : List Int} (T : Tb t hs) : t.place.size = hs.length := by
  rw [← T.many, Array.length_toList]
theorem fits_of {t : SetTable} {hs : List Int} {n : Nat} (T : t.place.size = n) (d : t.dummies = #[]) (r : n ≤ t.mask) : t.fits n = true := by
  unfold SetTable.fits SetTable.fill
  rw [d, Bool.and_eq_true, beq_iff_eq, decide_eq_true_eq]
  refine ⟨T, ?_⟩
  show t.place.size + 0 ≤ t.mask
  omega
theorem SetN.fits (R : SetN P w s.heap a L es ep t) : t.fits es.size = true := by
  have h1 := R.tab.size
  have h2 := R.room
  rw [List.length_map] at h1
  rw [rowsN_len R.rows]
  exact fits_of (hs := hashN w L) h1 R.tab.none (by omega)
theorem SetN.stays (R : SetN P w s.heap a L es ep t) : ¬ t.gaveWay = true := by
  unfold SetTable.gaveWay
  rw [R.tab.whole.odd]
  decide
theorem nodum {m : Nat} : ∀ (n : Nat) (p : SetTable.Probe), p.dummy = none → (nth m p n).dummy = none
  | 0, _, h => h
  | n + 1, p, h => nodum n (adv m p) (by unfold adv; split <;> exact h)
/-- the search, from a step of the way on -/
theorem look (R : SetN P w s.heap a L es ep t) {x : Addr} {k : NestedKey} (hx : IsN s.heap k x) (hu : A.units + 8 < cLine) {K : Nat} (hKf : K < 10 * SetTable.turns t.mask)
    (hK : way t.mask (k.hash w) K ∉ t.place.toList) (hKb : ∀ c, c < K → way t.mask (k.hash w) c ∈ t.place.toList) {Q : SetFound → Shared → Prop}
    (hin : k ∈ L.map (·.2) → Q (.there none) s) (hout : k ∉ L.map (·.2) → Q (.free (way t.mask (k.hash w) K) false) s) {st : Nat → SetTable.Probe} (hst : ∀ c, st c = nth t.mask (runAt t.mask (SetTable.bits (k.hash w) % (t.mask + 1)) (SetTable.bits (k.hash w))) c) :
    ∀ (f c : Nat) (stand : Option SetTable.Probe), stand.getD (t.probeStart (k.hash w)) = st c → c ≤ K → K - c < f →
      (∀ (i : Nat) p, L[i]? = some p → p.2 = k → ∃ q, (c ≤ q ∧ q < K) ∧ t.place.toList[i]? = some (way t.mask (k.hash w) q)) →
      wpAny (model P w) A (setSearchFrom a (.ref x) (k.hash w) true f stand) Q E s
  | 0, _, _, _, _, hf, _ => absurd hf (Nat.not_lt_zero _)
  | f + 1, c, stand, hs, hc, hf, ahead => by
    obtain ⟨o, ho, _, hd⟩ := R.ob
    rw [setSearchFrom_succ]
    refine wpAny_bind (wpAny_setState_of ho hd R.fits ?_)
    dsimp only
    refine wp_if_neg R.stays ?_
    try refine wpAny_bind (wpAny_pure ?_)
    have j : ∀ q, (st q).j = way t.mask (k.hash w) q := fun q => congrArg SetTable.Probe.j (hst q)
    have on : ∀ q, nth t.mask (st c) q = st (c + q) := fun q => by rw [hst, hst, nth_add]
    have hj : ∀ q, (nth t.mask (st c) q).j = way t.mask (k.hash w) (c + q) := fun q => by rw [on, j]
    have hash : ∀ (i : Nat) (p : Addr × NestedKey), L[i]? = some p → (fun (i : Nat) => (es[i]?.map (·.1)).getD 0) i = p.2.hash w := fun i p e => by
      show (es[i]?.map (·.1)).getD 0 = _
      rw [rowsN_at R.rows e]
      rfl
    rcases go_spec t R.tab.up R.tab.none (fun i => (es[i]?.map (·.1)).getD 0) (k.hash w) (10 * SetTable.turns t.mask) (K - c) (st c) (by rw [hst]; exact nodum c _ rfl) (by omega) (fun q hq => by rw [hj]; exact hKb _ (by omega)) (by rw [hj, show c + (K - c) = K by omega]; exact hK) with ⟨q, i, hq, hi, hh, ho2, go⟩ | ⟨ho2, go⟩
    · have pr : t.probe (fun i => (es[i]?.map (·.1)).getD 0) (k.hash w) (stand.getD (t.probeStart (k.hash w))) = some (.candidate (way t.mask (k.hash w) (c + q)) i (st (c + (q + 1)))) := by
        rw [hs, ← hj, ← on]
        exact go
      rw [pr]
      dsimp only
      rw [hj] at hi
      have il : i < L.length := by
        have := (List.getElem?_eq_some_iff.mp hi).1
        rw [R.tab.many, List.length_map] at this
        exact this
      obtain ⟨p, hp⟩ : ∃ p, L[i]? = some p := ⟨_, List.getElem?_eq_getElem il⟩
      have pm := List.mem_of_getElem? hp
      have live : t.slot (way t.mask (k.hash w) (c + q)) = .live i := slot_live R.tab.up hi
      have onward : wpAny (model P w) A (searchRest a (.ref x) (k.hash w) true f es t (way t.mask (k.hash w) (c + q)) i (st (c + (q + 1)))) Q E s := by
        unfold searchRest
        rw [rowsN_at R.rows hp]
        dsimp only
        refine wpAny_bind (wpAny_holding ((nestedKind P w).eqBool (show A.units + 8 < cLine from hu) ⟨(R.key p pm).is, (R.key p pm).deep⟩ ⟨hx.is, hx.deep⟩ ?_))
        refine wpAny_bind (wpAny_setState_of ho hd R.fits ?_)
        dsimp only
        by_cases same : p.2 = k
        · refine wp_if_pos (by simp [same]) (wpAny_pure (hin (List.mem_map.mpr ⟨p, pm, same⟩)))
        · refine wp_if_neg (by simp [same]) ?_
          try refine wpAny_bind (wpAny_pure ?_)
          rw [sameMem]
          dsimp only
          simp only [if_true, live, rowsN_at R.rows hp]
          refine wpAny_bind (wpAny_isSame_ref_self (wpAny_bind (wpAny_pure ?_)))
          simp only [if_true]
          refine wp_if_neg (by simp [same]) ?_
          refine look R hx hu hKf hK hKb hin hout hst f (c + (q + 1)) _ rfl (by omega) (by omega) fun i' p' hp' same' => ?_
          obtain ⟨u, ⟨u1, u2⟩, u3⟩ := ahead i' p' hp' same'
          refine ⟨u, ⟨?_, u2⟩, u3⟩
          rcases Nat.lt_trichotomy u (c + q) with z | z | z
          · refine absurd ((hash i' p' hp').trans (by rw [same'])) (ho2 (u - c) i' (by omega) ?_)
            rw [hj, show c + (u - c) = u by omega]
            exact u3
          · rw [z] at u3
            have := slot_live R.tab.up u3
            rw [live] at this
            have e : i = i' := by injection this
            rw [← e, hp] at hp'
            rw [← Option.some.inj hp'] at same'
            exact absurd same' same
          · omega
      by_cases led : t.led = true
      · refine wp_if_neg (by simp [led]) ?_
        try refine wpAny_bind (wpAny_pure ?_)
        exact onward
      · refine wp_if_pos (by simp [led]) (wpAny_bind (seen_none hx (fun y hy => ?_) _ _ _ ?_))
        · obtain ⟨z, hz, rfl⟩ := List.mem_map.mp hy
          have hz : z ∈ es.toList := by
            have := (show z ∈ es ∧ z.1 = k.hash w by simpa using hz).1
            exact Array.mem_toList_iff.mpr this
          rw [R.rows] at hz
          obtain ⟨p', hp', rfl⟩ := List.mem_map.mp hz
          exact ⟨p'.2, p'.1, rfl, R.key p' hp'⟩
        · refine wp_if_neg (by decide) ?_
          try refine wpAny_bind (wpAny_pure ?_)
          exact onward
    · have pr : t.probe (fun i => (es[i]?.map (·.1)).getD 0) (k.hash w) (stand.getD (t.probeStart (k.hash w))) = some (.empty (way t.mask (k.hash w) K) none) := by
        rw [hs, show way t.mask (k.hash w) K = (nth t.mask (st c) (K - c)).j by rw [hj, show c + (K - c) = K by omega]]
        exact go
      rw [pr]
      dsimp only
      refine wpAny_pure (hout fun hm => ?_)
      obtain ⟨p', hp', same'⟩ := List.mem_map.mp hm
      obtain ⟨i', hi', e'⟩ := List.getElem_of_mem hp'
      have at' : L[i']? = some p' := by rw [List.getElem?_eq_getElem hi', e']
      obtain ⟨u, ⟨u1, u2⟩, u3⟩ := ahead i' p' at' same'
      refine ho2 (u - c) i' (by omega) ?_ ((hash i' p' at').trans (by rw [same']))
      rw [hj, show c + (u - c) = u by omega]
      exact u3
end
end NS

set_option Elab.async false
set_option linter.all false
set_option maxRecDepth 100000
set_option maxHeartbeats 4000000
/-! a set of nested keys: one more member -/
namespace NS
open PySem PySem.Spec PyProof.Rows L2
theorem all_got {α : Type} : ∀ L : List α, (List.range L.length).filterMap (fun i => L[i]?) = L
  | [] => rfl
  | x :: xs => by
    rw [List.length_cons, List.range_succ_eq_map, List.filterMap_cons_some (show (x :: xs)[0]? = some x from rfl), List.filterMap_map]
    exact congrArg (x :: ·) (all_got xs)
section
variable {P : Program} {w : World} {A : Around} {E : Value → Shared → Prop} {s : Shared} {a : Addr} {L : List (Addr × NestedKey)} {es : Array (Int × Value)} {ep : Nat} {t : SetTable}
theorem IsN.same {h h' : Heap} {k : NestedKey} {b : Addr} {o : Obj} (x : IsN h k b) (ho : h.get? a = some o) (hd : o.data = .set es ep t) (sb : Heap.SameBut a h h') : IsN h' k b :=
  ⟨NestedIs.at (fun c u vs n hc hu => by
    refine (sb.2 c ?_).trans hc
    rintro rfl
    rw [ho] at hc
    cases hc
    rw [hd] at hu
    exact nomatch hu) _ _ x.is, x.deep, x.plain⟩
theorem IsN.keep {h h' : Heap} {k : NestedKey} {b : Addr} (x : IsN h k b) (hk : ∀ c o, h.get? c = some o → h'.get? c = some o) : IsN h' k b := ⟨NestedIs.at (fun c o _ _ hc _ => hk c o hc) _ _ x.is, x.deep, x.plain⟩
theorem look_at (R : SetN P w s.heap a L es ep t) {x : Addr} {k : NestedKey} (hx : IsN s.heap k x) (hu : A.units + 8 < cLine) {Q : SetFound → Shared → Prop} (hin : k ∈ L.map (·.2) → Q (.there none) s)
    (hout : ∀ K, k ∉ L.map (·.2) → way t.mask (k.hash w) K ∉ t.place.toList → (∀ c, c < K → way t.mask (k.hash w) c ∈ t.place.toList) → Q (.free (way t.mask (k.hash w) K) false) s) :
    wpAny (model P w) A (setSearch a (.ref x) (k.hash w) true) Q E s := by
  have r := R.room
  obtain ⟨K, k1, k2, k3⟩ := R.tab.gap (by rw [List.length_map]; omega) (k.hash w)
  have small : 10 * SetTable.turns t.mask < 100000 := by
    unfold SetTable.turns
    rcases R.msk with e | e | e | e <;> omega
  unfold setSearch
  refine look R hx hu k1 k2 k3 hin (fun n => hout K n k2 k3) (fun _ => rfl) 100000 0 none rfl (Nat.zero_le K) (by omega) fun i p hp e => ?_
  have hi : (hashN w L)[i]? = some (k.hash w) := by
    rw [List.getElem?_map, hp, ← e]
    rfl
  have il : i < t.place.toList.length := by
    rw [R.tab.many]
    exact (List.getElem?_eq_some_iff.mp hi).1
  obtain ⟨q, hq, e2⟩ := R.tab.ahead k2 hi (List.getElem?_eq_getElem il)
  exact ⟨q, ⟨Nat.zero_le q, hq⟩, by rw [List.getElem?_eq_getElem il, e2]⟩
theorem in_order (hr : es.toList = rowsN w L) {order : Array Nat} (hp : order.toList.Perm (List.range L.length)) :
    ∃ L2, (order.filterMap (es[·]?)).toList = rowsN w L2 ∧ L2.Perm L ∧ hashN w L2 = order.toList.map fun i => (es.map (·.1)).getD i 0 := by
  have one : ∀ i : Nat, es[i]? = (L[i]?).map fun p => (p.2.hash w, Value.ref p.1) := fun i => by
    rw [← Array.getElem?_toList, hr, rowsN, List.getElem?_map]
  refine ⟨order.toList.filterMap fun i => L[i]?, ?_, ?_, ?_⟩
  · rw [Array.toList_filterMap, rowsN, List.map_filterMap]
    exact congrArg (fun f => List.filterMap f order.toList) (funext one)
  · have q := hp.filterMap fun i => L[i]?
    rw [all_got] at q
    exact q
  · have key : ∀ l : List Nat, (∀ i ∈ l, i < L.length) → hashN w (l.filterMap fun i => L[i]?) = l.map fun i => (es.map (·.1)).getD i 0 := by
      intro l
      induction l with
      | nil => intro _; rfl
      | cons i l ih =>
        intro hl
        have hi := hl i List.mem_cons_self
        have e : (es.map (·.1)).getD i 0 = (L[i]).2.hash w := by
          have z : (es.map (·.1))[i]? = some ((L[i]).2.hash w) := by
            rw [Array.getElem?_map, one, List.getElem?_eq_getElem hi]
            rfl
          rw [Array.getD_eq_getD_getElem?, z]
          rfl
        rw [List.filterMap_cons_some (List.getElem?_eq_getElem hi), List.map_cons, e, ← ih fun j hj => hl j (.tail _ hj)]
        rfl
    exact key _ fun i hi => List.mem_range.mp (hp.mem_iff.mp hi)
/-- a set's table, laid anew -/
theorem relay_set {o : Obj} (ho : s.heap.get? a = some o) (hex : o.ExactSet) (hd : o.data = .set es ep t) (hr : es.toList = rowsN w L) (hsz : t.place.size = es.size) (hdm : t.dummies = #[]) (hlow : es.size ≤ t.mask)
    (nd : (L.map (·.2)).Nodup) (key : ∀ p ∈ L, IsN s.heap p.2 p.1) (pl : t.plain = true) (led : w.params.followText "set-order" = true ∨ t.led = true) {wanted M : Nat} (hw : SetTable.sizeAbove wanted = M + 1) (hM : Mk M) (room : L.length * 5 < M * 3)
    {Q : Unit → Shared → Prop} (q : ∀ h' L' es' ep' t', Heap.SameBut a s.heap h' → SetN P w h' a L' es' ep' t' → L'.Perm L → Q () { s with heap := h' }) : wpAny (model P w) A (setRelay a wanted) Q E s := by
  have n := rowsN_len hr
  have m512 : M ≤ 511 := by rcases hM with e | e | e | e <;> omega
  obtain ⟨t', order, e, pm, T, em, el, ep2⟩ := laid_anew t (hs := es.map (·.1)) hw hM.whole (by rw [Array.size_map, n]; omega)
  rw [Array.size_map, n] at pm
  obtain ⟨L2, r1, r2, r3⟩ := in_order hr pm
  rw [← r3] at T
  have sz : (order.filterMap (es[·]?)).size = es.size := by rw [rowsN_len r1, r2.length_eq, n]
  rw [setRelay_eq]
  refine wpAny_bind (wpAny_setState_of ho hd (fits_of (hs := hashN w L) hsz hdm hlow) ?_)
  dsimp only
  refine wp_if_neg (by rw [hw, sizeLine_eq]; omega) ?_
  try refine wpAny_bind (wpAny_pure ?_)
  rw [e]
  dsimp only
  refine wpAny_bind (wp_if_neg (by rw [sz]; simp) ?_)
  try refine wpAny_bind (wpAny_pure ?_)
  refine wpAny_pure ?_
  dsimp only
  have sb : Heap.SameBut a s.heap (s.heap.update a (Obj.putSet (order.filterMap (es[·]?)) t')) := Heap.SameBut.update ..
  refine wpAny_storeSet_of ho hd (q _ L2 (order.filterMap (es[·]?)) (ep + 1) t' sb ⟨⟨_, store_at ho hd, ⟨hex.1, hex.2.1, hex.2.2⟩, rfl⟩, r1, T, (r2.map (·.2)).nodup_iff.mpr nd, fun p hp => (key p (r2.mem_iff.mp hp)).same ho hd sb, by rw [ep2]; exact pl, by rw [el]; exact led, by rw [em, r2.length_eq]; exact room, by rw [em]; exact hM⟩ r2) (by rw [sz, n, sizeLine_eq]; omega)
theorem grown_at : SetTable.sizeAbove (SetTable.grown 5) = 31 + 1 ∧ SetTable.sizeAbove (SetTable.grown 19) = 127 + 1 ∧ SetTable.sizeAbove (SetTable.grown 77) = 511 + 1 := ⟨by decide +kernel, by decide +kernel, by decide +kernel⟩
/-- one more member -/
theorem put_in (R : SetN P w s.heap a L es ep t) {x : Addr} {k : NestedKey} (hx : IsN s.heap k x) (hu : A.units + 8 < cLine) (few : L.length + 1 ≤ 300) {Q : Bool → Shared → Prop}
    (q : ∀ b h' L' es' ep' t', Heap.SameBut a s.heap h' → SetN P w h' a L' es' ep' t' → (k ∈ L.map (·.2) → L' = L) → (k ∉ L.map (·.2) → L'.Perm ((x, k) :: L)) → Q b { s with heap := h' }) :
    wpAny (model P w) A (setAddHashed a (.ref x) (k.hash w)) Q E s := by
  obtain ⟨o, ho, hex, hd⟩ := R.ob
  have n := rowsN_len R.rows
  have r := R.room
  unfold setAddHashed
  refine wpAny_holding ?_
  rw [show (100000 : Nat) = 99999 + 1 from rfl, setAddHashedIn_succ]
  refine wpAny_bind (wpAny_setState_of ho hd R.fits ?_)
  dsimp only
  refine wp_if_neg (by simp [byScan, Value.scannable]) ?_
  try refine wpAny_bind (wpAny_pure ?_)
  refine wpAny_bind (look_at R hx hu (fun here => ?_) fun K no free full => ?_)
  · dsimp only
    exact wpAny_pure (q false s.heap L es ep t (Heap.SameBut.refl a s.heap) R (fun _ => rfl) fun z => absurd here z)
  dsimp only
  refine wpAny_bind (wpAny_setState_of ho hd R.fits ?_)
  dsimp only
  obtain ⟨pl, T⟩ := R.tab.more free full rfl
  have pm : (L.take (SetTable.below t.place (way t.mask (k.hash w) K)) ++ (x, k) :: L.drop (SetTable.below t.place (way t.mask (k.hash w) K))).Perm ((x, k) :: L) := put_perm L _ _
  have hin : (SetTable.insertAt es (SetTable.below t.place (way t.mask (k.hash w) K)) (k.hash w, Value.ref x)).toList = rowsN w (L.take (SetTable.below t.place (way t.mask (k.hash w) K)) ++ (x, k) :: L.drop (SetTable.below t.place (way t.mask (k.hash w) K))) := by
    rw [SetTable.toList_insertAt, R.rows, rowsN, rowsN, List.map_append, List.map_cons, List.map_take, List.map_drop]
  have hT : (hashN w L).take (SetTable.below t.place (way t.mask (k.hash w) K)) ++ k.hash w :: (hashN w L).drop (SetTable.below t.place (way t.mask (k.hash w) K)) = hashN w (L.take (SetTable.below t.place (way t.mask (k.hash w) K)) ++ (x, k) :: L.drop (SetTable.below t.place (way t.mask (k.hash w) K))) := by
    simp only [hashN, List.map_append, List.map_cons, List.map_take, List.map_drop]
  rw [hT] at T
  have e2 : (t.put (way t.mask (k.hash w) K)).2 = SetTable.below t.place (way t.mask (k.hash w) K) := rfl
  have em : (t.put (way t.mask (k.hash w) K)).1.mask = t.mask := rfl
  have el : (t.put (way t.mask (k.hash w) K)).1.led = t.led := rfl
  have ep1 : (t.put (way t.mask (k.hash w) K)).1.plain = true := R.plain
  generalize hpt : t.put (way t.mask (k.hash w) K) = pt at T e2 em el ep1 ⊢
  obtain ⟨t1, p⟩ := pt
  dsimp only at T e2 em el ep1 ⊢
  subst e2
  first
    | (refine wpAny_bind ?_; refine wp_if_pos ep1 ?_; refine value_key k _ 8 _ hx.is hx.deep hx.plain _ _ _ ?_)
    | refine wp_if_pos ep1 (wpAny_bind (value_key k _ 8 _ hx.is hx.deep hx.plain _ _ _ ?_))
  simp only [if_true]
  have len := pm.length_eq
  rw [List.length_cons] at len
  have nd1 := (pm.map (·.2)).nodup_iff.mpr (List.nodup_cons.mpr ⟨no, R.nd⟩)
  have n1 := rowsN_len hin
  rw [len] at n1
  generalize SetTable.insertAt es (SetTable.below t.place (way t.mask (k.hash w) K)) (k.hash w, Value.ref x) = es1 at hin n1 ⊢
  generalize L.take (SetTable.below t.place (way t.mask (k.hash w) K)) ++ (x, k) :: L.drop (SetTable.below t.place (way t.mask (k.hash w) K)) = L1 at pm len T nd1 hin
  refine wpAny_bind (wpAny_storeSet_of ho hd ?_ (by rw [n1, sizeLine_eq]; omega))
  have sb : Heap.SameBut a s.heap (s.heap.update a (Obj.putSet es1 t1)) := Heap.SameBut.update ..
  have ho1 := store_at (es' := es1) (t' := t1) ho hd
  generalize s.heap.update a (Obj.putSet es1 t1) = h1 at sb ho1 ⊢
  have key1 : ∀ p ∈ L1, IsN h1 p.2 p.1 := fun p hp => by
    rcases List.mem_cons.mp (pm.mem_iff.mp hp) with rfl | hp
    · exact hx.same ho hd sb
    · exact (R.key p hp).same ho hd sb
  have led1 : w.params.followText "set-order" = true ∨ t1.led = true := by rw [el]; exact R.led
  have place1 : t1.place.size = L.length + 1 := by
    rw [T.size, List.length_map, len]
  have fill1 : t1.fill = L.length + 1 := by
    unfold SetTable.fill
    rw [T.none, place1]
    rfl
  have full1 : t1.tooFull = decide ((L.length + 1) * 5 ≥ t.mask * 3) := by
    unfold SetTable.tooFull
    rw [fill1, em]
  by_cases hf : (L.length + 1) * 5 ≥ t.mask * 3
  · have ht : t1.tooFull = true := by rw [full1]; exact decide_eq_true hf
    first
      | (refine wpAny_bind ?_; refine wp_if_pos (by simp [ht]) ?_)
      | (refine wp_if_pos (by simp [ht]) ?_; refine wpAny_bind ?_)
    rw [n]
    have go : ∀ M, SetTable.sizeAbove (SetTable.grown (L.length + 1)) = M + 1 → Mk M → (L.length + 1) * 5 < M * 3 → wpAny (model P w) A (setRelay a (SetTable.grown (L.length + 1))) (fun _ z => wpAny (model P w) A (pure true) Q E z) E { s with heap := h1 } := fun M g1 g2 g3 => by
      refine relay_set (s := { s with heap := h1 }) ho1 ⟨hex.1, hex.2.1, hex.2.2⟩ rfl hin (by rw [place1, n1]) T.none (by rw [n1, em]; rcases R.msk with e | e | e | e <;> omega) nd1 key1 ep1 led1 g1 g2 (by rw [len]; exact g3) fun h2 L2 es2 ep2 t2 sb2 R2 pm2 => ?_
      exact wpAny_pure (q true h2 L2 es2 ep2 t2 (sb.trans sb2) R2 (fun z => absurd z no) fun _ => pm2.trans pm)
    rcases R.msk with e | e | e | e
    · have : L.length = 4 := by omega
      exact go 31 (by rw [this]; exact grown_at.1) (.inr (.inl rfl)) (by omega)
    · have : L.length = 18 := by omega
      exact go 127 (by rw [this]; exact grown_at.2.1) (.inr (.inr (.inl rfl))) (by omega)
    · have : L.length = 76 := by omega
      exact go 511 (by rw [this]; exact grown_at.2.2) (.inr (.inr (.inr rfl))) (by omega)
    · omega
  · have ht : t1.tooFull = false := by rw [full1]; exact decide_eq_false hf
    first
      | refine wp_if_neg (by simp [ht]) ?_
      | (refine wpAny_bind ?_; refine wp_if_neg (by simp [ht]) ?_; refine wpAny_pure ?_)
    exact wpAny_pure (q true h1 L1 es1 (ep + 1) t1 sb ⟨⟨_, ho1, ⟨hex.1, hex.2.1, hex.2.2⟩, rfl⟩, hin, T, nd1, key1, ep1, led1, by rw [em, len]; omega, by rw [em]; exact R.msk⟩ (fun z => absurd z no) fun _ => pm)
end
end NS

set_option Elab.async false
set_option linter.all false
set_option maxRecDepth 100000
set_option maxHeartbeats 4000000
/-! set(a list of nested keys) -/
namespace NS
open PySem PySem.Spec PyProof.Rows L2
/-- what a set has got of the first i things -/
structure Part (ks : List (Addr × NestedKey)) (i : Nat) (L : List (Addr × NestedKey)) : Prop where
  of : ∀ p ∈ L, p ∈ ks.take i
  got : ∀ p ∈ ks.take i, p.2 ∈ L.map (·.2)
  few : L.length ≤ i
theorem part_nil (ks : List (Addr × NestedKey)) : Part ks 0 [] := ⟨nofun, fun p hp => (by rw [List.take_zero] at hp; cases hp), Nat.le_refl 0⟩
theorem Part.next {ks L L' : List (Addr × NestedKey)} {i : Nat} {x : Addr × NestedKey} (g : Part ks i L) (h : ks[i]? = some x) (q1 : x.2 ∈ L.map (·.2) → L' = L) (q2 : x.2 ∉ L.map (·.2) → L'.Perm ((x.1, x.2) :: L)) : Part ks (i + 1) L' := by
  have tk : ks.take (i + 1) = ks.take i ++ [x] := by rw [List.take_succ, h]; rfl
  by_cases c : x.2 ∈ L.map (·.2)
  · rw [q1 c]
    refine ⟨fun p hp => by rw [tk]; exact List.mem_append_left _ (g.of p hp), fun p hp => ?_, Nat.le_succ_of_le g.few⟩
    rw [tk] at hp
    rcases List.mem_append.mp hp with z | z
    · exact g.got p z
    · rw [List.mem_singleton.mp z]
      exact c
  · have pm := q2 c
    refine ⟨fun p hp => ?_, fun p hp => ?_, by rw [pm.length_eq, List.length_cons]; exact Nat.succ_le_succ g.few⟩
    · rw [tk]
      rcases List.mem_cons.mp (pm.mem_iff.mp hp) with rfl | z
      · exact List.mem_append_right _ List.mem_cons_self
      · exact List.mem_append_left _ (g.of p z)
    · rw [(pm.map (·.2)).mem_iff, List.map_cons]
      rw [tk] at hp
      rcases List.mem_append.mp hp with z | z
      · exact .tail _ (g.got p z)
      · rw [List.mem_singleton.mp z]
        exact List.mem_cons_self
section
variable {P : Program} {w : World} {A : Around} {E : Value → Shared → Prop} {s : Shared}
theorem SetN.keep {h h' : Heap} {a : Addr} {L : List (Addr × NestedKey)} {es : Array (Int × Value)} {ep : Nat} {t : SetTable} (R : SetN P w h a L es ep t) (ha : ∀ o, h.get? a = some o → h'.get? a = some o) (hk : ∀ p ∈ L, IsN h' p.2 p.1) : SetN P w h' a L es ep t := by
  obtain ⟨o, ho, r⟩ := R.ob
  exact ⟨⟨o, ha o ho, r⟩, R.rows, R.tab, R.nd, hk, R.plain, R.led, R.room, R.msk⟩
/-- a set just made -/
abbrev newSet (w : World) : Obj := { cls := .type "set", dict := none, data := .set #[] 0 (.fresh 0 0 (!w.params.followText "set-order")) }
theorem setN_new {h : Heap} {a : Addr} (ho : h.get? a = some (newSet w)) : SetN P w h a [] #[] 0 (.fresh 0 0 (!w.params.followText "set-order")) := by
  refine ⟨⟨_, ho, ⟨rfl, rfl, rfl⟩, rfl⟩, rfl, ⟨Mk.whole (.inl rfl), List.Pairwise.nil, rfl, rfl, nofun, nofun⟩, List.nodup_nil, nofun, rfl, ?_, (show 0 * 5 < 7 * 3 by decide), .inl rfl⟩
  show _ ∨ (!w.params.followText "set-order") = true
  cases w.params.followText "set-order"
  · exact .inr rfl
  · exact .inl rfl
/-- the loop of set.update -/
theorem fill_set {I : Addr} {fp wr : List Addr} {G : Array GenState → Array GenState → Prop} {n : Nat} {Pv : Nat → Value → Prop} {St : Nat → Shared → Prop} {R : Result → Shared → Prop}
    (W : WalksS P w A.in1 I fp wr G n Pv St) (S : Addr) (off : S ∉ fp) (ks : List (Addr × NestedKey)) (hn : n = ks.length) (few : ks.length ≤ 300) (val : ∀ i v, Pv i v → ∃ p, ks[i]? = some p ∧ v = .ref p.1)
    (h0 : Heap) (hk : ∀ p ∈ ks, IsN h0 p.2 p.1) (hS0 : h0.get? S = none) (hw0 : ∀ b ∈ wr, h0.get? b = none) (hu : A.in1.units + 8 < cLine) :
    ∀ (k i : Nat) (s : Shared), n - i = k → i ≤ n → St i s → (∀ b o, h0.get? b = some o → s.heap.get? b = some o) → (∃ L es ep t, SetN P w s.heap S L es ep t ∧ Part ks i L) →
      (∀ z L es ep t, Moved (S :: wr) G s z → SetN P w z.heap S L es ep t → Part ks n L → (∀ b o, h0.get? b = some o → z.heap.get? b = some o) → R (.ok (.ret .none)) z) →
      codeAny (model P w) A (.builtin "set.update.loop" ⟨[.ref S, .ref I], []⟩) R s := by
  have Sw : S ∉ wr := fun h => off (W.sub _ h)
  have wide : ∀ b ∈ wr, b ∈ S :: wr := fun b hb => .tail _ hb
  have stay : ∀ {s z : Shared}, Moved wr G s z → (∀ b o, h0.get? b = some o → s.heap.get? b = some o) → ∀ b o, h0.get? b = some o → z.heap.get? b = some o := fun hm hp b o e =>
    hm.heap b o (fun hb => by rw [hw0 b hb] at e; exact nomatch e) (hp b o e)
  have sub : ∀ {i L}, Part ks i L → ∀ p ∈ L, p ∈ ks := fun g p hp => List.mem_of_mem_take (g.of p hp)
  intro k
  induction k with
  | zero =>
    intro i s e0 hi st hp ⟨L, es, ep, t, hS, g⟩ q
    obtain rfl : i = n := by omega
    refine codeAny_builtin F.entry_set_update_loop ?_
    rw [Around.under_plainId F.plain_set_update_loop _]
    show wpAny _ A.in1 (pyNext (.ref I) >>= _) _ _ s
    refine wpAny_bind (W.done s _ _ st fun z hm => ?_)
    show wpAny _ A.in1 (ret Value.none) _ _ z
    have hp2 := stay hm hp
    exact wpAny_pure (q z L es ep t (hm.mono wide) (hS.keep (fun o e => hm.heap S o Sw e) fun p hq => (hk p (sub g p hq)).keep hp2) g hp2)
  | succ k ih =>
    intro i s e0 hi st hp ⟨L, es, ep, t, hS, g⟩ q
    have lt : i < n := by omega
    refine codeAny_builtin F.entry_set_update_loop ?_
    rw [Around.under_plainId F.plain_set_update_loop _]
    show wpAny _ A.in1 (pyNext (.ref I) >>= _) _ _ s
    refine wpAny_bind (W.item i s _ _ lt st fun v z hv st2 hm => ?_)
    obtain ⟨p, hpi, rfl⟩ := val i v hv
    have hp2 := stay hm hp
    have hS2 : SetN P w z.heap S L es ep t := hS.keep (fun o e => hm.heap S o Sw e) fun r hr => (hk r (sub g r hr)).keep hp2
    have hx : IsN z.heap p.2 p.1 := (hk p (List.mem_of_getElem? hpi)).keep hp2
    show wpAny _ A.in1 (holding [Value.ref p.1] (setAdd S (.ref p.1)) >>= _) _ _ z
    refine wpAny_bind (wpAny_holding ?_)
    unfold setAdd
    refine wpAny_holding (wpAny_bind ((nestedKind P w).pyHash (show A.in1.units + 8 < cLine from hu) ⟨hx.is, hx.deep⟩ ?_))
    refine put_in (s := { z with toks := z.toks + (nestedKind P w).draws p.2 }) hS2 hx hu (by have := g.few; omega) fun b h1 L1 es1 ep1 t1 sb hS3 c1 c2 => ?_
    have g1 := g.next hpi c1 c2
    have hp3 : ∀ b o, h0.get? b = some o → h1.get? b = some o := fun b o e => (sb.2 b (fun y => by rw [y, hS0] at e; exact nomatch e)).trans (hp2 b o e)
    refine wpAny_pure ⟨plainId_quiet F.plain_set_update_loop _, ih (i + 1) _ (by omega) lt (W.frame _ z _ _ st2 (Nat.le_add_right _ _) fun b hb o e => ?_) hp3 ⟨L1, es1, ep1, t1, hS3, g1⟩ fun z2 L2 es2 ep2 t2 hm2 hS4 g2 hp4 => ?_⟩
    · rw [sb.2 b fun y => off (y ▸ hb)]
      exact e
    · refine q z2 L2 es2 ep2 t2 (Moved.trans W.gtrans ((hm.mono wide).then_heap (Nat.le_add_right _ _) fun b o hb e => ?_) hm2) hS4 g2 hp4
      rw [sb.2 b fun y => hb (by rw [y]; exact List.mem_cons_self)]
      exact e
end
end NS

set_option Elab.async false
set_option linter.all false
set_option maxRecDepth 100000
set_option maxHeartbeats 4000000
/-! set(xs) of nested keys, called -/
namespace NS
open PySem PySem.Spec PyProof.Rows L2
section
variable {P : Program} {w : World} {A : Around} {E : Value → Shared → Prop} {s : Shared}
theorem call_setN {l : Addr} {items : Array Value} (ks : List (Addr × NestedKey)) {Q : Value → Shared → Prop} (hh : A.handled = none) (hl : s.heap.IsList l items) (hit : items.toList = ks.map fun p => Value.ref p.1)
    (hk : ∀ p ∈ ks, IsN s.heap p.2 p.1) (few : ks.length ≤ 300) (hu : A.units + 11 < cLine)
    (h : ∀ (h' : Heap) (tk : Nat) L es ep t, SetN P w h' s.heap.objs.size L es ep t → Part ks ks.length L → (∀ b o, s.heap.get? b = some o → h'.get? b = some o) → Q (.ref s.heap.objs.size) { s with heap := h', toks := tk }) :
    wpAny (model P w) A (call (.type "set") [.ref l]) Q E s := by
  have n : items.size = ks.length := by
    rw [← Array.length_toList, hit, List.length_map]
  obtain ⟨c, tl, hmro⟩ := F.called_set.mro
  have made := F.called_set.made
  have sub := F.called_set.sub
  refine wpAny_call (codeAny_of_tree (wpAny_pure ⟨Code.quiet_builtin _ (by decide +kernel), codeAny_builtin F.entry_type_call ?_⟩))
  rw [Around.under_plain (weight_type_call_type "set" [.ref l] []) rfl]
  have no := F.called_set.notType
  have can := F.called_set.canCreate
  have ct := F.typeCall_set_1 (.ref l)
  repeat (any_goals (first | assumption | wp_step))
  have at0 : (s.heap.push (newSet w)).get? s.heap.objs.size = some (newSet w) := Heap.get?_push_size _ rfl
  refine codeAny_mono (code_set_led1 (.ref l) (E := E) (Q₁ := fun v z => v = .ref s.heap.objs.size ∧ z = { s with heap := s.heap.push (newSet w) }) ⟨rfl, rfl⟩) fun r z hr => ?_
  cases r with
  | error e => exact hr
  | ok fl =>
    cases fl with
    | ret obj =>
      obtain ⟨rfl, rfl⟩ := hr
      have ty : Shared.TypeIs { s with heap := s.heap.push (newSet w) } (.ref s.heap.objs.size) "set" := ⟨_, at0, rfl⟩
      have il := F.called_set.init.lookup
      have ib := F.called_set.init.bind (.ref s.heap.objs.size)
      repeat (any_goals (first | assumption | wp_step))
      refine codeAny_mono (codeAny_call_builtin (R := wants (fun r z => r = .none ∧ ∃ h' tk L es ep t, z = { s with heap := h', toks := tk } ∧ SetN P w h' s.heap.objs.size L es ep t ∧ Part ks ks.length L ∧
          (∀ b o, s.heap.get? b = some o → h'.get? b = some o)) E) F.called_set.init.plain F.entry_set_init (check_set_init_1 ty ?_)) fun r2 z2 hr2 => ?_
      · obtain ⟨⟨ocls, odict, odata, oslots⟩, hol, hcl, nl, hdl⟩ := hl
        simp only at hcl hdl
        subst hcl
        subst hdl
        have hol2 : (s.heap.push (newSet w)).get? l = some { cls := .type "list", dict := odict, data := .seq items nl, slots := oslots } := Heap.get?_push_of_some _ hol
        have s1 := F.sub_list_set
        have s2 := F.sub_list_frozenset
        have s3 : (Value.type "list" == Value.type "dict") = false := by decide
        have hl1 : (s.heap.push (newSet w)).IsList l items := ⟨_, hol2, rfl, nl, rfl⟩
        unfold Builtin.«set.__init__» noKeywords Builtin.Frozenset.updateFrom
        generalize hPI : pyIter = PI
        wp_walk
        subst hPI
        refine wpAny_pyIter_list hl1 (wpAny_bind (wpAny_runValue ?_))
        have below : l < s.heap.objs.size := Heap.lt_size hol
        have calm3 : A.in1.in1.in1.handled = none := by simp [hh]
        have size1 : (s.heap.push (newSet w)).objs.size = s.heap.objs.size + 1 := Heap.size_push ..
        have apart : l ≠ (s.heap.push (newSet w)).objs.size := by rw [size1]; exact Nat.ne_of_lt (Nat.lt_succ_of_lt below)
        have off : s.heap.objs.size ∉ [(s.heap.push (newSet w)).objs.size, l] := by
          rw [size1]
          simp only [List.mem_cons, List.not_mem_nil, or_false, not_or]
          exact ⟨Nat.ne_of_lt (Nat.lt_succ_self _), Nat.ne_of_gt below⟩
        have val : ∀ (i : Nat) (v : Value), items[i]? = some v → ∃ p, ks[i]? = some p ∧ v = .ref p.1 := fun i v hv => by
          rw [← Array.getElem?_toList, hit, List.getElem?_map] at hv
          obtain ⟨p, hp, e⟩ := Option.map_eq_some_iff.mp hv
          exact ⟨p, hp, e.symm⟩
        have free : ∀ b, s.heap.objs.size ≤ b → s.heap.get? b = none := fun b hb => by
          cases q : s.heap.get? b with
          | none => rfl
          | some o => exact absurd (Nat.lt_of_lt_of_le (Heap.lt_size q) hb) (Nat.lt_irrefl _)
        refine fill_set ((Walks.list calm3 _ l apart items).toS) s.heap.objs.size off ks n few val s.heap hk (free _ (Nat.le_refl _)) (fun b hb => free b (by rw [List.mem_singleton.mp hb, size1]; exact Nat.le_succ _)) hu (items.size - 0) 0 _ rfl (Nat.zero_le _)
          ⟨⟨_, Heap.get?_push_size _ rfl, rfl, rfl⟩, (hl1.push _)⟩ (fun b o e => Heap.get?_push_of_some _ (Heap.get?_push_of_some _ e)) ⟨[], #[], 0, _, setN_new (Heap.get?_push_of_some _ at0), part_nil ks⟩ ?_
        intro z L es ep t hm hS g hp
        obtain ⟨h', g2, d', tk, os2⟩ := z
        obtain rfl : g2 = s.gens := hm.gens
        obtain rfl : d' = s.drawn := hm.drawn
        obtain rfl : os2 = s.os := hm.os
        show wpAny _ _ _ _ _ _
        refine wpAny_pure ?_
        show wpAny _ _ (ret Value.none) _ _ _
        rw [n] at g
        exact wpAny_pure ⟨rfl, h', tk, L, es, ep, t, rfl, hS, g, hp⟩
      · cases r2 with
        | error e => exact hr2
        | ok fl2 =>
          cases fl2 with
          | ret r =>
            obtain ⟨rfl, h', tk, L, es, ep, t, rfl, hS, g, hp⟩ := hr2
            repeat (any_goals (first | assumption | wp_step))
            exact h _ _ _ _ _ _ hS g hp
          | _ => exact hr2.elim
    | _ => exact hr.elim
end
end NS

set_option Elab.async false
set_option linter.all false
set_option maxRecDepth 100000
set_option maxHeartbeats 4000000
/-! all(..), any(..) of a generator expression: the element is judged in the generator's own frame. -/
namespace DL
open PySem PySem.Spec PyProof.Rows L2 GenW

/-- the names of a generator expression: its own (with their places in N), or captured -/
structure GnS (N : List Str) (sc scope : Scope) (own : List (Str × Nat)) : Prop where
  kind : scope.kind = .function
  co : scope.isCoroutine = false
  cell : ∀ y ∈ scope.names, y.2 ≠ .cell
  dot : scope.names.lookup (".0" : Str) = some NameKind.local
  ix : ∀ p ∈ own, N[p.2]? = some p.1
  free : ∀ y ∈ scope.names, y.2 = .free → sc.names.lookup y.1 = some .cell ∨ sc.names.lookup y.1 = some .free
  own : ∀ y ∈ scope.names, y.2 = .local → y.1 ∈ own.map (·.1) ∨ y.1 ∉ N

def gnB (N : List Str) (sc scope : Scope) (own : List (Str × Nat)) : Bool :=
  (match scope.kind with | .function => true | _ => false) && !scope.isCoroutine && (scope.names.all fun y => !decide (y.2 = .cell))
    && decide (scope.names.lookup (".0" : Str) = some NameKind.local) && (own.all fun p => decide (N[p.2]? = some p.1))
    && (scope.names.all fun y => !decide (y.2 = .free) || decide (sc.names.lookup y.1 = some .cell) || decide (sc.names.lookup y.1 = some .free))
    && (scope.names.all fun y => !decide (y.2 = .local) || decide (y.1 ∈ own.map (·.1)) || decide (y.1 ∉ N))
theorem gnS_by {N : List Str} {sc scope : Scope} {own : List (Str × Nat)} (h : gnB N sc scope own = true) : GnS N sc scope own := by
  unfold gnB at h
  simp only [Bool.and_eq_true, Bool.or_eq_true, Bool.not_eq_true', decide_eq_true_eq, decide_eq_false_iff_not, List.all_eq_true] at h
  obtain ⟨⟨⟨⟨⟨⟨h1, h2⟩, h3⟩, h4⟩, h5⟩, h6⟩, h7⟩ := h
  refine ⟨?_, h2, h3, h4, h5, fun y hy e => ?_, fun y hy e => ?_⟩
  · split at h1
    · assumption
    · cases h1
  · rcases h6 y hy with (z | z) | z
    · exact absurd e z
    · exact .inl z
    · exact .inr z
  · rcases h7 y hy with (z | z) | z
    · exact absurd e z
    · exact .inl z
    · exact .inr z

abbrev gnEnv (X : Cx) (scope : Scope) (C : Addr) (code : Value) : Env := genEnv scope (cloFrom X.env.cells scope.names []) C code builtinsNs X.env
/-- the context of a generator's frame that was made at s -/
def genCx (X : Cx) (A : Around) (s : Shared) (H : Hp) (scope : Scope) (code : Value) (ex : List Addr) : Cx where
  prog := X.prog
  w := X.w
  K := X.K
  mg := X.mg
  base := X.base
  A := A
  N := X.N
  s_0 := s
  H_0 := H
  env := gnEnv X scope s.heap.objs.size code
  outer := X.stack
  stack := gnEnv X scope s.heap.objs.size code :: X.stack
  ex := ex
  fn := fun _ => false
  calm := true
  pn := []
  xe := fun _ _ => False

section
variable {X : Cx} {pins : List (Addr × Obj)} {σ : L2.St} {H : Hp} {s : Shared}

/-- the generator is made: its frame's names stand in its own context -/
theorem gen_start {A : Around} {scope : Scope} {own : List (Str × Nat)} {code it : Value} {fp : List Addr} {h' : Heap} {go : Obj} {c : Code} {tk : Nat}
    (I : Inv X pins σ H s) (G : GnS X.N X.env.scope scope own) (hN : X.N.Nodup) (hfp : ∀ b ∈ fp, FpOk X pins H b ∧ b < s.heap.objs.size)
    (hfr : A.frames = some (gnEnv X scope s.heap.objs.size code :: X.stack)) (hhd : A.handled = none)
    (hns : h'.Ns s.heap.objs.size (fun y => if y = ".0" then some it else none)) (hsb : Heap.SameBut s.heap.objs.size (s.heap.push { cls := .type "frame", data := .dict #[] }) h')
    (hgo : ∀ v, go.data ≠ .cell v) (hgp : (h'.push go).get? h'.objs.size = some go) :
    Inv (genCx X A s H scope code fp) [(h'.objs.size, go)] (wipe σ (own.map (·.2))) H { s with gens := s.gens.push (.fresh c), toks := tk, heap := h'.push go } := by
  have hfree : ∀ y ∈ scope.names, y.2 = .free → ∃ c, X.env.cells.lookup y.1 = some c := fun y hy e => by
    rcases G.free y hy e with k | k
    · exact I.ok.has _ (.inl k)
    · exact I.ok.has _ (.inr k)
  have cm : ∀ {y c}, (cloFrom X.env.cells scope.names []).lookup y = some c → X.env.cells.lookup y = some c := fun {y c} e => by
    rcases cloFrom_mem (PySem.mem_of_lookup e) with hm | ⟨h1, h2⟩
    · cases hm
    · obtain ⟨c1, hc⟩ := hfree _ h1 rfl
      have hc2 : X.env.cells.lookup y = some c1 := hc
      have e2 : c = c1 := by
        rw [h2, hc2] <;> rfl
      rw [e2]
      exact hc2
  have look : ∀ {y}, scope.names.lookup y = some .free → ∃ c, (cloFrom X.env.cells scope.names []).lookup y = some c := fun {y} hl => by
    have hy : (y, NameKind.free) ∈ scope.names := PySem.mem_of_lookup hl
    exact mem_lookup (cloFrom_has (cells := X.env.cells) (acc := []) hy)
  have sz1 : h'.objs.size = s.heap.objs.size + 1 := by rw [hsb.1, Heap.size_push]
  have kp0 : ∀ b o, s.heap.get? b = some o → h'.get? b = some o := fun b o e => hsb.extBut b o (Nat.ne_of_lt (Heap.lt_size e)) (Heap.get?_push_of_some _ e)
  have kp : ∀ b o, s.heap.get? b = some o → (h'.push go).get? b = some o := fun b o e => Heap.get?_push_of_some _ (kp0 b o e)
  have cellK : ∀ {c : Addr} {v : Option Value}, s.heap.IsCell c v → (h'.push go).IsCell c v := fun {c v} ⟨o, ho, hd⟩ => ⟨o, kp _ _ ho, hd⟩
  have nocell : ∀ {y}, scope.names.lookup y ≠ some .cell := fun {y} e => G.cell _ (PySem.mem_of_lookup e) rfl
  have hok : (genCx X A s H scope code fp).Ok := by
    refine ⟨I.ok.mod, G.kind, I.ok.glob, rfl, Nat.le_refl _, fun y z c e1 e2 => I.ok.inj y z c (cm e1) (cm e2), fun y hy => ?_, fun y c z _ => ?_, fun _ => hhd, hfr, .inr ⟨rfl, rfl⟩, fun b hb => ⟨?_, fun y c e z => ?_⟩, I.bs, Nat.le_trans I.ok.bsz I.sz,
      fun b o e hb => ?_, fun b hb z => ?_, I.stack, I.stkFree⟩
    · have hy : scope.names.lookup y = some .cell ∨ scope.names.lookup y = some .free := hy
      rcases hy with hy | hy
      · exact absurd hy nocell
      · exact look hy
    · have z : false = true := z
      cases z
    · show b ≠ s.heap.objs.size
      exact Nat.ne_of_lt (hfp b hb).2
    · exact (hfp b hb).1.2.2.2.2.1 y c (cm e) z
    · rcases (hfp b hb).1.2.2.2.1 with z | z
      · exact I.ok.noex b o e z
      · have l1 := Heap.lt_size e
        have l2 := I.ok.bsz
        exact absurd (Nat.lt_of_lt_of_le l1 (Nat.le_trans l2 z)) (Nat.lt_irrefl _)
    · rcases List.mem_cons.mp (I.stkSub b z) with q | q
      · exact (hfp b hb).1.2.1 q
      · exact (hfp b hb).1.2.2.1 q
  refine ⟨hok, rfl, I.bare.push rfl, Un.kept kp, ⟨_, hns.push _, fun i y v e1 e2 e3 => ?_⟩, fun y c e => ?_, I.hok.fresh (Nat.le_refl _), fun y c e => I.freeC y c (cm e), fun p hp => ?_, I.hok.kept kp, ?_⟩
  · have e3 : Vis scope y := e3
    obtain ⟨e2, hw⟩ := wipe_some e2
    rcases e3 with k | k | k
    · rcases G.own _ (PySem.mem_of_lookup k) rfl with z | z
      · obtain ⟨p, hp, hpe⟩ := List.mem_map.mp z
        have hpe : p.1 = y := hpe
        have e4 : X.N[p.2]? = some y := by rw [← hpe]; exact G.ix p hp
        have e5 : i = p.2 := nodup_ix hN e1 e4
        exact absurd (List.mem_map.mpr ⟨p, hp, e5.symm⟩) hw
      · exact absurd (List.mem_of_getElem? e1) z
    · exact absurd k nocell
    · obtain ⟨m, hn, hl⟩ := I.loc
      have hvis : Vis X.env.scope y := (G.free _ (PySem.mem_of_lookup k) rfl).elim (fun k => .inr (.inl k)) (fun k => .inr (.inr k))
      obtain ⟨w', r, q⟩ := hl i y v e1 e2 hvis
      obtain ⟨c2, h2⟩ := look k
      refine ⟨w', r, .inr ⟨.inr k, c2, h2, ?_⟩⟩
      have c1 := cm h2
      rcases q with ⟨k', _⟩ | ⟨_, c3, e', z⟩
      · have k' : X.env.scope.names.lookup y = some .local := k'
        rcases G.free _ (PySem.mem_of_lookup k) rfl with k2 | k2 <;> rw [show X.env.scope.names.lookup y = _ from k2] at k' <;> cases k'
      · rw [c1] at e'
        cases e'
        exact cellK z
  · obtain ⟨w', z⟩ := I.cell y c (cm e)
    exact ⟨w', cellK z⟩
  · have hp : p ∈ ([] : List (Addr × Obj)) ++ [(h'.objs.size, go)] := hp
    rw [List.nil_append, List.mem_singleton] at hp
    subst hp
    have lt0 : s.heap.objs.size < h'.objs.size := by rw [sz1]; exact Nat.lt_succ_self _
    refine ⟨hgp, I.hok.fresh (Nat.le_of_lt lt0), Nat.ne_of_gt lt0, fun hb => ?_, hgo⟩
    obtain ⟨_, o, ho, _⟩ := I.stack.mem hb
    exact absurd (Nat.lt_trans (Heap.lt_size ho) lt0) (Nat.lt_irrefl _)
  · rw [wipe_length]
    exact I.len
end

/-! ### the generator's run -/
abbrev gxE (elt tg iter : Expr) (scope : Scope) (gpos : Pos) : Expr := .GeneratorExp elt [⟨tg, iter, [], 0⟩] scope gpos
/-- what holds between two turns: the iterator's turn, the heap; go: the generator's own object -/
def GMid (Xg : Cx) (pn : List (Addr × Obj)) (σ0 : L2.St) (fp : List Addr) (tn : Nat → Heap → Prop) (Pv : Nat → Hp → Prop) (i : Nat) (s : Shared) : Prop :=
  ∃ H, Inv Xg pn σ0 H s ∧ tn i s.heap ∧ (∀ b ∈ fp, H b = none) ∧ Pv i H
def GEndP (Xg : Cx) (pn : List (Addr × Obj)) (σ0 : L2.St) (Pe : Hp → Prop) (s : Shared) : Prop := ∃ H, Inv Xg pn σ0 H s ∧ Pe H
/-- a truth value comes out; stop: the one that ends the consumer -/
def GYb (Xg : Cx) (pn : List (Addr × Obj)) (σ0 : L2.St) (stop : Bool) (Qs : Hp → Prop) : Protocol := fun _ _ v s₁ kap =>
  ∃ b, v = Value.bool b ∧ GEndP Xg pn σ0 (fun H => b = stop → Qs H) s₁ ∧ (b ≠ stop → ∀ s', s'.heap = s₁.heap → s'.os = s₁.os → AllBare s'.gens → kap (.send .none) s')
def GRb (Xg : Cx) (pn : List (Addr × Obj)) (σ0 : L2.St) (Qe : Hp → Prop) : GenEnd := fun _ _ r s₁ => ((r = .ok (.ret .none) ∨ r = .ok .next) ∧ GEndP Xg pn σ0 Qe s₁) ∨ ∃ e, r = .error e ∧ False
/-- the reading of a generator's turns -/
def GTurns (J : It) (g : TG) (te : TE) (vs : List Nat) (σ : L2.St) (stop : Bool) (n : Nat) (Pv : Nat → Hp → Prop) (Qe Qs : Hp → Prop) : Prop :=
  (∀ H, Pv n H → J.stop n H ∧ Qe H) ∧ ∀ i H, i < n → Pv i H → J.go i H ∧ ∀ x H', J.yld i H x H' → g x (wipe σ vs) H' fun σ2 H2 => wipe σ2 vs = wipe σ vs ∧
    te σ2 H2 fun y H3 => ∃ b, y = .bl b ∧ (b = stop → Qs H3) ∧ (b ≠ stop → Pv (i + 1) H3)

section
variable {P : Program} {w : World} {Xg : Cx} {pn : List (Addr × Obj)} {fp : List Addr} {it : Addr} {tn : Nat → Heap → Prop} {J : It} {elt tg iter : Expr} {scope : Scope} {gpos : Pos} {AG : Around}
  {σ : L2.St} {vs : List Nat} {g : TG} {te : TE} {stop : Bool} {n : Nat} {Pv : Nat → Hp → Prop} {Qe Qs : Hp → Prop}

theorem inv_weak_wipe {σ2 : L2.St} {H : Hp} {s : Shared} (I : Inv Xg pn σ2 H s) (h : wipe σ2 vs = wipe σ vs) : Inv Xg pn (wipe σ vs) H s := by
  rw [← h]
  exact I.weak (wipe_length _ _) fun i v e => (wipe_some e).1

theorem seg_gx (hP : Xg.prog = P) (hw : Xg.w = w) (hcalm : Xg.calm = true) (hco : Xg.env.scope.isCoroutine = false) (hover : AG.over (.compLoop (gxE elt tg iter scope gpos) 0 (.ref it) .none Xg.env) [] = Xg.A)
    (hxe : ∀ e s, ¬ Xg.xe e s) (T : Turn P w Xg.K tg J fp it tn) (hg : PG Xg tg g) (he : PE Xg elt te)
    (hf : ∀ H, (∀ b ∈ fp, H b = none) → ∀ b ∈ fp, FpOk Xg pn H b) (ht : GTurns J g te vs σ stop n Pv Qe Qs) :
    ∀ (k i : Nat) (s₀ s : Shared), n - i = k → i ≤ n → GMid Xg pn (wipe σ vs) fp tn Pv i s →
      Seg (model P w) AG (GRb Xg pn (wipe σ vs) Qe) (GYb Xg pn (wipe σ vs) stop Qs) k s₀
        (.compLoop (gxE elt tg iter scope gpos) 0 (.ref it) .none Xg.env) ((model P w).den (.compLoop (gxE elt tg iter scope gpos) 0 (.ref it) .none Xg.env)) [] s := by
  subst hP hw
  obtain ⟨hend, hturn⟩ := ht
  have nox : ∀ {α : Type} {m : Sem α} {Q : α → Shared → Prop} {E : Value → Shared → Prop} {s : Shared}, wpAny (model Xg.prog Xg.w) Xg.A m Q Xg.xe s → wpAny (model Xg.prog Xg.w) Xg.A m Q E s :=
    fun {α m Q E s} h => wpAny_mono h (fun _ _ x => x) fun e s x => absurd x (hxe e s)
  intro k
  induction k with
  | zero =>
    intro i s₀ s hk hi hm
    obtain ⟨H, I, ht0, hn, hp⟩ := hm
    obtain rfl : i = n := by omega
    obtain ⟨h1, h2⟩ := hend H hp
    show Seg _ AG _ _ _ s₀ _ ((compTurn (gxE elt tg iter scope gpos) 0 (.ref it) .none Xg.env).onRaise (leaving Xg.env)) [] s
    rw [compTurn_gen, Sem.onRaise_eq_wrap]
    refine (seg_bind_wrap (wpAny_standAt ?_))
    refine seg_bind_wrap ?_
    rw [hover]
    refine wpAny_mono (T.done Xg rfl rfl rfl hcalm i pn s _ H (fun _ _ => False) I (hf H hn) ht0 h1) (fun r s4 hr => ?_) (fun _ _ z => z.elim)
    obtain ⟨rfl, I4⟩ := hr
    exact seg_end (.ok .next) (.inl ⟨.inr rfl, H, I4, h2⟩)
  | succ k ih =>
    intro i s₀ s hk hi hm
    obtain ⟨H, I, ht0, hn, hp⟩ := hm
    have hlt : i < n := by omega
    obtain ⟨h1, h2⟩ := hturn i H hlt hp
    show Seg _ AG _ _ _ s₀ _ ((compTurn (gxE elt tg iter scope gpos) 0 (.ref it) .none Xg.env).onRaise (leaving Xg.env)) [] s
    rw [compTurn_gen, Sem.onRaise_eq_wrap]
    refine (seg_bind_wrap (wpAny_standAt ?_))
    refine seg_bind_wrap ?_
    rw [hover]
    refine wpAny_mono (T.item Xg rfl rfl rfl hcalm i pn s _ H (fun _ _ => False) I (hf H hn) ht0 h1) (fun r s4 hr => ?_) (fun _ _ z => z.elim)
    obtain ⟨u, rfl, h4⟩ := hr
    refine seg_bind_wrap ?_
    rw [hover]
    refine wpAny_mono h4 (fun _ s5 h5 => ?_) (fun _ _ z => z.elim)
    obtain ⟨x, H5, I5, r5, y5, st5, fr5⟩ := h5
    have I5' := I5.pinned (hf H5 fr5) (T.obj _ _ st5)
    refine seg_bind_wrap ?_
    rw [hover]
    refine nox (wpAny_mono (hg.run _ s5 (wipe σ vs) H5 x u _ I5' r5 (h2 x H5 y5)) (fun _ s6 h6 => ?_) fun _ _ z => z)
    obtain ⟨σ6, H6, I6, hw6, q6⟩ := h6
    simp only [List.forIn_nil]
    refine seg_bind_wrap (wpAny_pure ?_)
    simp only [if_true]
    have hy : ∀ v, yieldOut Xg.env v = yieldValue v := fun v => by simp only [yieldOut, hco, Bool.false_eq_true, if_false]
    simp only [hy]
    rw [Sem.bind_eq_wrap', Sem.bind_eq_wrap', Sem.wrap_wrap, Sem.wrap_wrap]
    refine seg_wrap ?_
    rw [hover]
    refine nox (wpAny_mono (he.run _ s6 σ6 H6 _ I6 q6) (fun y s7 h7 => ?_) fun _ _ z => z)
    obtain ⟨yv, H7, I7, r7, b, rfl, hs7, hc7⟩ := h7
    obtain rfl : y = Value.bool b := r7
    have I7' : Inv Xg pn (wipe σ vs) H7 s7 := inv_weak_wipe I7.unpinned hw6
    have nn : ∀ b ∈ fp, H7 b = none ∧ ∀ o, s5.heap.get? b = some o → s7.heap.get? b = some o := fun b hb => by
      obtain ⟨o, e, d⟩ := T.obj _ _ st5 b hb
      have hpin := I7.pin (b, o) (List.mem_append_right _ (List.mem_append_right _ (mem_pinsAt hb e)))
      refine ⟨hpin.2.1, fun o' e' => ?_⟩
      rw [e] at e'
      cases e'
      exact hpin.1
    have st7 : tn (i + 1) s7.heap := T.keep _ _ _ st5 fun b hb o e => (nn b hb).2 o e
    refine seg_at (seg_yield rfl rfl rfl ⟨b, rfl, ⟨H7, I7', hs7⟩, fun hb s' hh hos hba => ?_⟩)
    refine seg_again rfl (ih (i + 1) s' s' (by omega) hlt ⟨H7, ?_, by rw [hh]; exact st7, fun b hb => (nn b hb).1, hc7 hb⟩)
    have kp : ∀ b o, s7.heap.get? b = some o → s'.heap.get? b = some o := fun b o e => by rw [hh]; exact e
    exact I7'.call' (ch := []) hos (Un.kept kp) (I7'.hok.kept kp) hba fun b z => nomatch z
end

/-- the start: the iterator gives itself -/
theorem seg_gx0 {P : Program} {w : World} {K : PySem.W.Frag} {tg' : Expr} {J : It} {fp : List Addr} {it : Addr} {tn : Nat → Heap → Prop} {elt tg iter : Expr} {scope : Scope} {gpos : Pos} {AG : Around} {env : Env} {R : GenEnd} {Y : Protocol} {k : Nat} {s₀ s : Shared}
    (T : Turn P w K tg' J fp it tn) (ht : tn 0 s.heap)
    (loop : Seg (model P w) AG R Y k s₀ (.compLoop (gxE elt tg iter scope gpos) 0 (.ref it) .none env) ((model P w).den (.compLoop (gxE elt tg iter scope gpos) 0 (.ref it) .none env)) [] s) :
    Seg (model P w) AG R Y k s₀ (.compStart (gxE elt tg iter scope gpos) 0 (.ref it) .none env) ((model P w).den (.compStart (gxE elt tg iter scope gpos) 0 (.ref it) .none env)) [] s := by
  show Seg _ AG _ _ _ s₀ _ ((compStart (gxE elt tg iter scope gpos) 0 (.ref it) .none env).onRaise (leaving env)) [] s
  unfold compStart
  rw [Sem.onRaise_eq_wrap]
  show Seg _ AG _ _ _ s₀ _ ((ask >>= _).wrap _ _ _ _) [] s
  refine seg_bind_wrap (wpAny_askSetting ?_)
  split
  · exact seg_again rfl loop
  · refine seg_bind_wrap (wpAny_rule ?_)
    show Seg _ AG _ _ _ s₀ _ ((standAt iter.pos >>= _).wrap _ _ _ _) [] s
    exact seg_bind_wrap (wpAny_standAt (seg_bind_wrap (T.self _ 0 s _ _ ht (seg_again rfl loop))))

theorem over_gx_frames {AG : Around} {elt tg iter : Expr} {scope : Scope} {gpos : Pos} {it : Value} {env : Env} {l : List Env} (h : AG.frames = some l) :
    (AG.over (.compLoop (gxE elt tg iter scope gpos) 0 it .none env) []).frames = some (env :: l) := by
  show pushEnvs [env] (pushEnvs (envsOf []) AG.frames) = _
  rw [h]
  rfl
theorem over_gx_room {k : Nat} {AG : Around} {elt tg iter : Expr} {scope : Scope} {gpos : Pos} {it : Value} {env : Env} (h : Room (k + 1) AG) :
    Room k (AG.over (.compLoop (gxE elt tg iter scope gpos) 0 it .none env) []) := by
  obtain ⟨h1, h2, h3⟩ := h
  refine ⟨h1, ?_, ?_⟩
  · show AG.depth + 0 + 1 + 3 * k + 5 < recursionLimit
    omega
  · show AG.units + 0 + 3 + 16 * k + 200 < cLine
    omega

/-! ### the consumer's view -/
def RXb (X : Cx) (pins : List (Addr × Obj)) (σ : L2.St) (Qe : Hp → Prop) : GenEnd := fun _ _ r s₁ => ((r = .ok (.ret .none) ∨ r = .ok .next) ∧ ∃ H, Inv X pins σ H s₁ ∧ Qe H) ∨ ∃ e, r = .error e ∧ False
def YXb (X : Cx) (pins : List (Addr × Obj)) (σ : L2.St) (a : Addr) (g : Nat) (stop : Bool) (Qs : Hp → Prop) : Protocol := fun _ _ v s₁ kap =>
  ∃ b, v = Value.bool b ∧ s₁.heap.IsGen a g ∧ s₁.heap.NoLimit ∧ AllBare s₁.gens ∧ (b = stop → ∃ H, Inv X pins σ H s₁ ∧ Qs H) ∧ (b ≠ stop → ∀ s', s'.heap = s₁.heap → s'.os = s₁.os → AllBare s'.gens → kap (.send .none) s')
def GReady (X : Cx) (AG : Around) (pins : List (Addr × Obj)) (σ : L2.St) (a : Addr) (stop : Bool) (Qe Qs : Hp → Prop) (n : Nat) (s5 : Shared) : Prop :=
  ∃ g gs, s5.heap.IsGen a g ∧ s5.heap.NoLimit ∧ AllBare s5.gens ∧ s5.gens[g]? = some gs ∧
    ∀ s', s'.heap = s5.heap → s'.os = s5.os → AllBare s'.gens → gs.Goes (model X.prog X.w) AG (RXb X pins σ Qe) (YXb X pins σ a g stop Qs) n (.send .none) s'

section
variable {X : Cx} {pins : List (Addr × Obj)} {σ : L2.St} {H : Hp} {s : Shared} {P c : Addr} {elt tg iter : Expr} {scope : Scope} {own : List (Str × Nat)} {gpos : Pos} {wi : TI} {g : TG} {te : TE} {k : Nat} {stop : Bool}

theorem gx_make {Q' : Value → Shared → Prop} {R : (Hp → Prop) → (Hp → Prop) → Prop} (hc : X.calm = true) (hN : X.N.Nodup) (hr : Room (k + 3) X.A) (TB : GxR.TabB X.base X.mg c P) (hcode : X.env.code = .ref c) (G : GnS X.N X.env.scope scope own) (hi : PI X tg iter wi)
    (hg : ∀ (A : Around) (s : Shared) (H : Hp) (code : Value) (ex : List Addr), Room k A → PG (genCx X A s H scope code ex) tg g)
    (he : ∀ (A : Around) (s : Shared) (H : Hp) (code : Value) (ex : List Addr), Room k A → PE (genCx X A s H scope code ex) elt te)
    (hs : ∀ v, genFold iter X.env v = pure v) (I : Inv X pins σ H s)
    (h : wi σ H fun J H1 => GxR.TabG H1 P ∧ ∀ H2, GxR.Tabbed P H1 H2 → ∃ n Pv Qe Qs, Pv 0 H2 ∧ GTurns J g te (own.map (·.2)) σ stop n Pv Qe Qs ∧ R Qe Qs)
    (hQ : ∀ a s5 n Qe Qs, R Qe Qs → GReady X X.A.in1.in1 pins σ a stop Qe Qs n s5 → Q' (.ref a) s5) :
    wpAny (model X.prog X.w) X.A (eval (gxE elt tg iter scope gpos) X.env) Q' X.xe s := by
  have hfree : ∀ y ∈ scope.names, y.2 = .free → ∃ c, X.env.cells.lookup y.1 = some c := fun y hy e => by
    rcases G.free y hy e with k | k
    · exact I.ok.has _ (.inl k)
    · exact I.ok.has _ (.inr k)
  refine wpAny_GeneratorExp_make G.co (closure_ok hfree) G.cell G.dot G.kind (by have := hr.dp; omega) ?_ hs
  refine thn (hi.run pins s σ H _ I h) fun xv s1 h1 => thn h1 fun itv s2 h2 => ?_
  obtain ⟨it, fp, tn, J, H1, rfl, I1, T, st1, f1, ⟨ps, hP, htr⟩, q1⟩ := h2
  refine ⟨I1.nolimit, ?_⟩
  have hPs : s2.heap.get? P = some { cls := .none, data := .fields ps } := I1.hok P _ hP
  have cd : PySem.W.CodeHd s2.heap c P := TB.code.keeps I1.bk
  have nP : ∀ b ∈ fp, b ≠ P := fun b hb z => by
    have := (f1 b hb).1
    rw [z, hP] at this
    cases this
  have cont : ∀ (code : Value) (h3 : Heap) (tk : Nat) (more : Array Value), (∀ b o, b ≠ P → s2.heap.get? b = some o → h3.get? b = some o) → h3.get? P = some { cls := .none, data := .fields (ps ++ more) } → TriplesOk (ps ++ more).toList →
      wpAny (model X.prog X.w) X.A (builtinsFor X.env.globals X.env.builtins) (fun bi s₄ => ∀ h', h'.Ns s₄.heap.objs.size (fun y => if y = ".0" then some (Value.ref it) else none) → Heap.SameBut s₄.heap.objs.size (s₄.heap.push { cls := .type "frame", data := .dict #[] }) h' →
          Q' (.ref h'.objs.size) { s₄ with
            gens := s₄.gens.push (.fresh (.compStart (gxE elt tg iter scope gpos) 0 (.ref it) .none (genEnv scope (cloFrom X.env.cells scope.names []) s₄.heap.objs.size code bi X.env))),
            toks := s₄.toks + 1 + 1 + 1,
            heap := h'.push { cls := .type "generator", data := .fields #[.int s₄.gens.size 0, .str "<genexpr>" (s₄.toks + 1), .str (X.env.qual ++ "<genexpr>") (s₄.toks + 1 + 1)] } }) X.xe { s2 with heap := h3, toks := tk } := by
    intro code h3 tk more kx hm ht3
    obtain ⟨bm, ob, e1, e2, e3, e4, e5, e6, e7, e8⟩ := TB.bm
    have I3 := GxR.inv_tab (g' := s2.gens) (d' := s2.drawn) (t' := tk) I1 hP kx hm I1.bare
    have gl3 : h3.Ns X.env.globals X.mg := by
      rw [I1.ok.glob]
      obtain ⟨o, es, ep, ho, r⟩ := I1.mod.glob.keeps I1.bk
      exact ⟨o, es, ep, kx _ _ TB.gP ho, r⟩
    refine wpAny_builtinsFor (m := X.mg) gl3 e1 e2 (kx _ _ e4 (I1.bk _ _ e5)) e6 e7 e8 ?_
    intro h' hns hsb
    have T3 : tn 0 h3 := T.keep _ _ _ st1 fun b hb o e => kx b o (nP b hb) e
    have f3 : ∀ b ∈ fp, FpOk X pins (upd H1 P (.tbl (ps ++ more))) b ∧ b < h3.objs.size := fun b hb => by
      obtain ⟨o, e, _⟩ := T.obj _ _ T3 b hb
      refine ⟨⟨?_, (f1 b hb).2⟩, Heap.lt_size e⟩
      rw [upd_ne (nP b hb)]
      exact (f1 b hb).1
    obtain ⟨n, Pv, Qe, Qs, hp0, hturns, hR⟩ := q1 _ ⟨⟨_, upd_same, ht3⟩, fun b hb => upd_ne hb⟩
    refine hQ _ _ n Qe Qs hR ?_
    have lim3 := I3.nolimit
    have hfrA : X.A.in1.in1.frames = some X.stack := I1.ok.frames
    have hroomG : Room (k + 1) X.A.in1.in1 := (Room.in1 (k := k + 2) hr).in1
    have hAf := over_gx_frames (elt := elt) (tg := tg) (iter := iter) (scope := scope) (gpos := gpos) (it := .ref it) (env := gnEnv X scope h3.objs.size code) hfrA
    have hAr := over_gx_room (elt := elt) (tg := tg) (iter := iter) (scope := scope) (gpos := gpos) (it := .ref it) (env := gnEnv X scope h3.objs.size code) hroomG
    have J5 := gen_start (A := X.A.in1.in1.over (.compLoop (gxE elt tg iter scope gpos) 0 (.ref it) .none (gnEnv X scope h3.objs.size code)) []) (c := .compStart (gxE elt tg iter scope gpos) 0 (.ref it) .none (gnEnv X scope h3.objs.size code))
      (go := { cls := .type "generator", data := .fields #[.int s2.gens.size 0, .str "<genexpr>" (tk + 1), .str (X.env.qual ++ "<genexpr>") (tk + 1 + 1)] }) (tk := tk + 1 + 1 + 1) (code := code) I3 G hN f3 hAf hAr.hd hns hsb (fun v q => by cases q) (Heap.get?_push_size _ rfl)
    have kp5 : ∀ b o, h3.get? b = some o → (h'.push { cls := .type "generator", data := .fields #[.int s2.gens.size 0, .str "<genexpr>" (tk + 1), .str (X.env.qual ++ "<genexpr>") (tk + 1 + 1)] }).get? b = some o :=
      fun b o e => Heap.get?_push_of_some _ (hsb.extBut b o (Nat.ne_of_lt (Heap.lt_size e)) (Heap.get?_push_of_some _ e))
    have hg5 : ∀ hh : Heap, hh.get? h'.objs.size = some { cls := .type "generator", data := .fields #[.int s2.gens.size 0, .str "<genexpr>" (tk + 1), .str (X.env.qual ++ "<genexpr>") (tk + 1 + 1)] } → hh.IsGen h'.objs.size s2.gens.size :=
      fun hh e => ⟨_, _, _, e, rfl, rfl, rfl⟩
    -- back to the consumer's context
    have back : ∀ {σ' : L2.St} {H' : Hp} {s' : Shared} {pn' : List (Addr × Obj)}, Inv (genCx X (X.A.in1.in1.over (.compLoop (gxE elt tg iter scope gpos) 0 (.ref it) .none (gnEnv X scope h3.objs.size code)) []) { s2 with heap := h3, toks := tk } (upd H1 P (.tbl (ps ++ more))) scope code fp) pn' σ' H' s' → Inv X pins σ H' s' :=
      fun {σ' H' s' pn'} Jx => I3.call' (ch := fp) Jx.os Jx.base Jx.hok Jx.bare fun b hb => ⟨(f3 b hb).1.2.2.2.1, (f3 b hb).1.2.1, fun x cc e z => (f3 b hb).1.2.2.2.2.1 x cc e z, fun p hp => (f3 b hb).1.2.2.2.2.2 p hp⟩
    refine ⟨s2.gens.size, _, hg5 _ (Heap.get?_push_size _ rfl), lim3.keeps kp5, J5.bare, Array.getElem?_push_size .., fun s' hh hos hba => ⟨rfl, ?_⟩⟩
    have J6 : Inv (genCx X (X.A.in1.in1.over (.compLoop (gxE elt tg iter scope gpos) 0 (.ref it) .none (gnEnv X scope h3.objs.size code)) []) { s2 with heap := h3, toks := tk } (upd H1 P (.tbl (ps ++ more))) scope code fp) _ (wipe σ (own.map (·.2))) (upd H1 P (.tbl (ps ++ more))) s' :=
      J5.call' (ch := []) hos (Un.kept fun b o e => by rw [hh]; exact e) (J5.hok.kept fun b o e => by rw [hh]; exact e) hba fun b z => nomatch z
    have T6 : tn 0 s'.heap := T.keep _ _ _ T3 fun b hb o e => by rw [hh]; exact kp5 b o e
    refine seg_gx0 T T6 ?_
    refine seg_imp (R := GRb _ _ _ Qe) (Y := GYb _ _ _ stop Qs) (fun n s₀ r sx hRx => ?_) (fun n s₀ v sx kap kap' hk hY => ?_) n (seg_gx (Xg := genCx X (X.A.in1.in1.over (.compLoop (gxE elt tg iter scope gpos) 0 (.ref it) .none (gnEnv X scope h3.objs.size code)) []) { s2 with heap := h3, toks := tk } (upd H1 P (.tbl (ps ++ more))) scope code fp) rfl rfl rfl G.co rfl (fun _ _ z => z) T (hg _ _ _ _ _ hAr) (he _ _ _ _ _ hAr) (fun Hx hx b hb => ?_) hturns n 0 s' s' (Nat.sub_zero _) (Nat.zero_le _) ⟨_, J6, T6, fun b hb => (f3 b hb).1.1, hp0⟩)
    · rcases hRx with ⟨h1, Hx, Jx, qx⟩ | ⟨e, _, z⟩
      · exact .inl ⟨h1, Hx, back Jx, qx⟩
      · exact z.elim
    · obtain ⟨b, hv, ⟨Hx, Jx, qx⟩, hn⟩ := hY
      refine ⟨b, hv, hg5 _ (Jx.pin _ (List.mem_append_right _ (List.mem_singleton.mpr rfl))).1, Jx.nolimit, Jx.bare, fun hb => ⟨Hx, back Jx, qx hb⟩, fun hb s'' e1 e2 e3 => hk _ _ (hn hb s'' e1 e2 e3)⟩
    · refine ⟨hx b hb, J6.ok.exf b hb |>.1, J6.ok.exfs b hb, .inl hb, fun x cc e => (J6.ok.exf b hb).2 x cc e, fun p hp => ?_⟩
      have hp : p ∈ ([] : List (Addr × Obj)) ++ [(h'.objs.size, _)] := hp
      rw [List.nil_append, List.mem_singleton] at hp
      subst hp
      have l1 := (f3 b hb).2
      have l2 : h3.objs.size < h'.objs.size := by rw [hsb.1, Heap.size_push]; exact Nat.lt_succ_self _
      exact Nat.ne_of_gt (Nat.lt_trans l1 l2)
  cases hf : codeAmong gpos ps.toList with
  | none =>
    refine wpAny_genexprCodeX hcode (cd.code hPs htr) (cd.tab hPs) hf fun c' h' tk hx hge hlt hco' _ htab' _ => ?_
    obtain ⟨o1, vs, f1, tf, fl, tg, inF, tx, tt, op, _, _, _, _, _, _, _, _, _, htr2, _⟩ := hco'
    exact cont _ h' tk _ (fun b o hb e => hx b o hb e) htab'.2 htr2
  | some cv =>
    refine wpAny_genexprCode_hit hcode (cd.code hPs htr) hf ?_
    exact cont cv s2.heap s2.toks #[] (fun _ _ _ e => e) (by rw [Array.append_empty]; exact hPs) (by rw [Array.append_empty]; exact htr)

/-- the consumer: all (stop: false) -/
theorem all_loopX {a : Addr} {g' : Nat} {Qe Qs : Hp → Prop} {R : Result → Shared → Prop} (hh : X.A.handled = none) (hd : X.A.depth < recursionLimit)
    (hend : ∀ s1 H1, Inv X pins σ H1 s1 → Qe H1 → R (.ok (.ret (.bool true))) s1) (hstop : ∀ s1 H1, Inv X pins σ H1 s1 → Qs H1 → R (.ok (.ret (.bool false))) s1) :
    ∀ (m : Nat) (s : Shared), s.heap.IsGen a g' → s.heap.NoLimit →
      (∃ gs, s.gens[g']? = some gs ∧ gs.Goes (model X.prog X.w) X.A.in1.in1 (RXb X pins σ Qe) (YXb X pins σ a g' false Qs) m (.send .none) (s.setGen g' .running)) →
      codeAny (model X.prog X.w) X.A (.builtin "all.loop" ⟨[.ref a], []⟩) R s := by
  have goes : ∀ {gs : GenState} {B : Around} {n : Nat} {r : Resume} {s : Shared}, gs.Goes (model X.prog X.w) B (RXb X pins σ Qe) (YXb X pins σ a g' false Qs) n r s →
      gs.Goes (model X.prog X.w) B (fun n s₀ r s1 => ((r = .ok (.ret .none) ∨ r = .ok .next) ∧ (∃ H, Inv X pins σ H s1 ∧ Qe H)) ∨ ∃ e, r = .error e ∧ False) (YXb X pins σ a g' false Qs) n r s := fun h => h
  have moved : ∀ {H1 : Hp} {s1 s2 : Shared}, Inv X pins σ H1 s1 → s2.os = s1.os → AllBare s2.gens → (∀ b o, s1.heap.get? b = some o → s2.heap.get? b = some o) → Inv X pins σ H1 s2 :=
    fun {H1 s1 s2} J ho hb hk => J.call' (ch := []) ho (Un.kept hk) (J.hok.kept hk) hb fun b z => nomatch z
  intro m
  induction m with
  | zero =>
    intro s hg hl ⟨gs, hgs, hgo⟩
    refine codeAny_builtin F.entry_all_loop ?_
    rw [Around.under_plainId F.plain_all_loop _]
    show wpAny _ X.A.in1 (pyNext (.ref a) >>= _) _ _ s
    refine wpAny_bind (next_genG (A := X.A.in1) hh hl hd hg hgs (goes hgo) (fun v s₁ gs' hbare hv => ?_) (fun s₁ hp h' hk => ?_) fun e s₁ he => he.elim)
    · obtain ⟨b, rfl, _, _, hb1, hs, hn⟩ := hv
      refine wpAny_bind (wpAny_holding (wpAny_truthy_bool ?_))
      refine wpAny_bind (wpAny_letGo ?_)
      cases b with
      | true => exact (hn (by decide) s₁ rfl rfl hb1).elim
      | false =>
        simp only [Bool.false_eq_true, if_false]
        obtain ⟨H1, J, q⟩ := hs rfl
        refine wpAny_bind (wpAny_rule (wpAny_pure ?_))
        exact hstop _ H1 (moved J rfl (allBare_setGen J.bare hbare) fun _ _ e => e) q
    · obtain ⟨H1, J, q⟩ := hp
      refine wpAny_bind (wpAny_rule (wpAny_pure ?_))
      exact hend _ H1 (moved J rfl (allBare_setGen J.bare rfl) hk) q
  | succ m ih =>
    intro s hg hl ⟨gs, hgs, hgo⟩
    have hgl : g' < s.gens.size := (Array.getElem?_eq_some_iff.mp hgs).1
    refine codeAny_builtin F.entry_all_loop ?_
    rw [Around.under_plainId F.plain_all_loop _]
    show wpAny _ X.A.in1 (pyNext (.ref a) >>= _) _ _ s
    refine wpAny_bind (wpAny_gsz (n := g' + 1) hgl (next_genG (A := X.A.in1) hh hl hd hg hgs (goes hgo) (fun v s₁ gs' hbare hv => ?_) (fun s₁ hp h' hk => ?_) fun e s₁ he => he.elim))
    · intro hsz
      obtain ⟨b, rfl, hg1, hl1, hb1, hs, hn⟩ := hv
      refine wpAny_bind (wpAny_holding (wpAny_truthy_bool ?_))
      refine wpAny_bind (wpAny_letGo ?_)
      cases b with
      | true =>
        simp only [if_true]
        have hsz1 : g' < s₁.gens.size := by
          have q : (s₁.setGen g' gs').gens.size = s₁.gens.size := setGen_size _ _ _
          have hsz' : g' + 1 ≤ (s₁.setGen g' gs').gens.size := hsz
          omega
        refine wpAny_pure ⟨plainId_quiet F.plain_all_loop _, ih (s₁.setGen g' gs') hg1 hl1 ⟨gs', setGen_at hsz1, ?_⟩⟩
        exact hn (by decide) _ rfl rfl (allBare_setGen (allBare_setGen hb1 hbare) rfl)
      | false =>
        simp only [Bool.false_eq_true, if_false]
        obtain ⟨H1, J, q⟩ := hs rfl
        refine wpAny_bind (wpAny_rule (wpAny_pure ?_))
        exact hstop _ H1 (moved J rfl (allBare_setGen J.bare hbare) fun _ _ e => e) q
    · intro hsz
      obtain ⟨H1, J, q⟩ := hp
      refine wpAny_bind (wpAny_rule (wpAny_pure ?_))
      exact hend _ H1 (moved J rfl (allBare_setGen J.bare rfl) hk) q
theorem any_loopX {a : Addr} {g' : Nat} {Qe Qs : Hp → Prop} {R : Result → Shared → Prop} (hh : X.A.handled = none) (hd : X.A.depth < recursionLimit)
    (hend : ∀ s1 H1, Inv X pins σ H1 s1 → Qe H1 → R (.ok (.ret (.bool false))) s1) (hstop : ∀ s1 H1, Inv X pins σ H1 s1 → Qs H1 → R (.ok (.ret (.bool true))) s1) :
    ∀ (m : Nat) (s : Shared), s.heap.IsGen a g' → s.heap.NoLimit →
      (∃ gs, s.gens[g']? = some gs ∧ gs.Goes (model X.prog X.w) X.A.in1.in1 (RXb X pins σ Qe) (YXb X pins σ a g' true Qs) m (.send .none) (s.setGen g' .running)) →
      codeAny (model X.prog X.w) X.A (.builtin "any.loop" ⟨[.ref a], []⟩) R s := by
  have goes : ∀ {gs : GenState} {B : Around} {n : Nat} {r : Resume} {s : Shared}, gs.Goes (model X.prog X.w) B (RXb X pins σ Qe) (YXb X pins σ a g' true Qs) n r s →
      gs.Goes (model X.prog X.w) B (fun n s₀ r s1 => ((r = .ok (.ret .none) ∨ r = .ok .next) ∧ (∃ H, Inv X pins σ H s1 ∧ Qe H)) ∨ ∃ e, r = .error e ∧ False) (YXb X pins σ a g' true Qs) n r s := fun h => h
  have moved : ∀ {H1 : Hp} {s1 s2 : Shared}, Inv X pins σ H1 s1 → s2.os = s1.os → AllBare s2.gens → (∀ b o, s1.heap.get? b = some o → s2.heap.get? b = some o) → Inv X pins σ H1 s2 :=
    fun {H1 s1 s2} J ho hb hk => J.call' (ch := []) ho (Un.kept hk) (J.hok.kept hk) hb fun b z => nomatch z
  intro m
  induction m with
  | zero =>
    intro s hg hl ⟨gs, hgs, hgo⟩
    refine codeAny_builtin F.entry_any_loop ?_
    rw [Around.under_plainId F.plain_any_loop _]
    show wpAny _ X.A.in1 (pyNext (.ref a) >>= _) _ _ s
    refine wpAny_bind (next_genG (A := X.A.in1) hh hl hd hg hgs (goes hgo) (fun v s₁ gs' hbare hv => ?_) (fun s₁ hp h' hk => ?_) fun e s₁ he => he.elim)
    · obtain ⟨b, rfl, _, _, hb1, hs, hn⟩ := hv
      refine wpAny_bind (wpAny_holding (wpAny_truthy_bool ?_))
      refine wpAny_bind (wpAny_letGo ?_)
      cases b with
      | false => exact (hn (by decide) s₁ rfl rfl hb1).elim
      | true =>
        simp only [if_true]
        obtain ⟨H1, J, q⟩ := hs rfl
        refine wpAny_bind (wpAny_rule (wpAny_pure ?_))
        exact hstop _ H1 (moved J rfl (allBare_setGen J.bare hbare) fun _ _ e => e) q
    · obtain ⟨H1, J, q⟩ := hp
      refine wpAny_bind (wpAny_rule (wpAny_pure ?_))
      exact hend _ H1 (moved J rfl (allBare_setGen J.bare rfl) hk) q
  | succ m ih =>
    intro s hg hl ⟨gs, hgs, hgo⟩
    have hgl : g' < s.gens.size := (Array.getElem?_eq_some_iff.mp hgs).1
    refine codeAny_builtin F.entry_any_loop ?_
    rw [Around.under_plainId F.plain_any_loop _]
    show wpAny _ X.A.in1 (pyNext (.ref a) >>= _) _ _ s
    refine wpAny_bind (wpAny_gsz (n := g' + 1) hgl (next_genG (A := X.A.in1) hh hl hd hg hgs (goes hgo) (fun v s₁ gs' hbare hv => ?_) (fun s₁ hp h' hk => ?_) fun e s₁ he => he.elim))
    · intro hsz
      obtain ⟨b, rfl, hg1, hl1, hb1, hs, hn⟩ := hv
      refine wpAny_bind (wpAny_holding (wpAny_truthy_bool ?_))
      refine wpAny_bind (wpAny_letGo ?_)
      cases b with
      | false =>
        simp only [Bool.false_eq_true, if_false]
        have hsz1 : g' < s₁.gens.size := by
          have q : (s₁.setGen g' gs').gens.size = s₁.gens.size := setGen_size _ _ _
          have hsz' : g' + 1 ≤ (s₁.setGen g' gs').gens.size := hsz
          omega
        refine wpAny_pure ⟨plainId_quiet F.plain_any_loop _, ih (s₁.setGen g' gs') hg1 hl1 ⟨gs', setGen_at hsz1, ?_⟩⟩
        exact hn (by decide) _ rfl rfl (allBare_setGen (allBare_setGen hb1 hbare) rfl)
      | true =>
        simp only [if_true]
        obtain ⟨H1, J, q⟩ := hs rfl
        refine wpAny_bind (wpAny_rule (wpAny_pure ?_))
        exact hstop _ H1 (moved J rfl (allBare_setGen J.bare hbare) fun _ _ e => e) q
    · intro hsz
      obtain ⟨H1, J, q⟩ := hp
      refine wpAny_bind (wpAny_rule (wpAny_pure ?_))
      exact hend _ H1 (moved J rfl (allBare_setGen J.bare rfl) hk) q

/-- all, any of a generator expression; the table at P of the running code may grow -/
def tGx (stop : Bool) (P : Addr) (wi : TI) (g : TG) (te : TE) (vs : List Nat) : TE := fun σ H Q => wi σ H fun J H1 => GxR.TabG H1 P ∧ ∀ H2, GxR.Tabbed P H1 H2 →
  ∃ n Pv, Pv 0 H2 ∧ GTurns J g te vs σ stop n Pv (fun H => Q (.bl (!stop)) H) (fun H => Q (.bl stop) H)
theorem pe_gxall {p pos : Pos} (hc : X.calm = true) (hN : X.N.Nodup) (hr : Room (k + 3) X.A) (hgl : Gl X "all") (hm : X.mg "all" = none) (TB : GxR.TabB X.base X.mg c P) (hcode : X.env.code = .ref c) (G : GnS X.N X.env.scope scope own) (hi : PI X tg iter wi)
    (hg : ∀ (A : Around) (s : Shared) (H : Hp) (code : Value) (ex : List Addr), Room k A → PG (genCx X A s H scope code ex) tg g)
    (he : ∀ (A : Around) (s : Shared) (H : Hp) (code : Value) (ex : List Addr), Room k A → PE (genCx X A s H scope code ex) elt te)
    (hs : ∀ v, genFold iter X.env v = pure v := by intro _; rfl)
    (hst : starEach [gxE elt tg iter scope gpos] X.env = (false, eval (gxE elt tg iter scope gpos) X.env) :: starEach [] X.env := by rfl) :
    PE X (.Call (.Name "all" p) [.GeneratorExp elt [⟨tg, iter, [], 0⟩] scope gpos] [] pos) (tGx false P wi g te (own.map (·.2))) := by
  refine ⟨fun pins s σ H Q I h => ?_⟩
  have hball : bootBuiltins "all" = some (.builtin "all") := by decide +kernel
  refine wpAny_Call_Name_kw (ld_blt I hgl hm hball ?_)
  refine PyProof.Rows.callWith_builtin1 ?_ hst (by rfl)
  rw [hst]
  show wpAny _ _ (spliced ((false, eval (gxE elt tg iter scope gpos) X.env) :: backTo pos (starEach [] X.env))) _ _ s
  refine Calls.spliced_cons (gx_make (stop := false) (R := fun Qe Qs => Qe = (fun H => Q (.bl true) H) ∧ Qs = (fun H => Q (.bl false) H)) hc hN hr TB hcode G hi hg he hs I (?_ : wi σ H _) fun a s5 n Qe Qs hR hG => ?_)
  · have mono : ∀ J H1, (GxR.TabG H1 P ∧ ∀ H2, GxR.Tabbed P H1 H2 → ∃ n Pv, Pv 0 H2 ∧ GTurns J g te (own.map (·.2)) σ false n Pv (fun H => Q (.bl true) H) (fun H => Q (.bl false) H)) →
        (GxR.TabG H1 P ∧ ∀ H2, GxR.Tabbed P H1 H2 → ∃ n Pv Qe Qs, Pv 0 H2 ∧ GTurns J g te (own.map (·.2)) σ false n Pv Qe Qs ∧ Qe = (fun H => Q (.bl true) H) ∧ Qs = (fun H => Q (.bl false) H)) :=
      fun J H1 ⟨h1, h2⟩ => ⟨h1, fun H2 ht => let ⟨n, Pv, h3, h4⟩ := h2 H2 ht; ⟨n, Pv, _, _, h3, h4, rfl, rfl⟩⟩
    have e : (fun J H1 => GxR.TabG H1 P ∧ ∀ H2, GxR.Tabbed P H1 H2 → ∃ n Pv, Pv 0 H2 ∧ GTurns J g te (own.map (·.2)) σ false n Pv (fun H => Q (.bl true) H) (fun H => Q (.bl false) H)) =
        (fun J H1 => GxR.TabG H1 P ∧ ∀ H2, GxR.Tabbed P H1 H2 → ∃ n Pv Qe Qs, Pv 0 H2 ∧ GTurns J g te (own.map (·.2)) σ false n Pv Qe Qs ∧ Qe = (fun H => Q (.bl true) H) ∧ Qs = (fun H => Q (.bl false) H)) := by
      funext J H1
      apply propext
      refine ⟨mono J H1, fun ⟨h1, h2⟩ => ⟨h1, fun H2 ht => ?_⟩⟩
      obtain ⟨n, Pv, Qe, Qs, h3, h4, rfl, rfl⟩ := h2 H2 ht
      exact ⟨n, Pv, h3, h4⟩
    exact e ▸ h
  obtain ⟨rfl, rfl⟩ := hR
  obtain ⟨g', gs, hg1, hl1, hb1, hgs, hgo⟩ := hG
  refine Calls.spliced_nil ?_
  refine call_function_tree F.kind_all F.plain_all F.entry_all (F.args_all1 _) ?_
  unfold Builtin.«all»
  refine wpAny_bind (m := oneArg "all" _) (wpAny_pure ?_)
  refine wpAny_bind (wpAny_pyIter_gen hg1 ?_)
  refine wpAny_pure ⟨plainId_quiet F.plain_all_loop _, all_loopX (g' := g') hr.hd (by have := hr.dp; omega) (fun s1 H1 J q => ?_) (fun s1 H1 J q => ?_) n s5 hg1 hl1 ⟨gs, hgs, hgo _ rfl rfl (allBare_setGen hb1 rfl)⟩⟩
  · exact ⟨.bl true, H1, J, rfl, q⟩
  · exact ⟨.bl false, H1, J, rfl, q⟩
theorem pe_gxany {p pos : Pos} (hc : X.calm = true) (hN : X.N.Nodup) (hr : Room (k + 3) X.A) (hgl : Gl X "any") (hm : X.mg "any" = none) (TB : GxR.TabB X.base X.mg c P) (hcode : X.env.code = .ref c) (G : GnS X.N X.env.scope scope own) (hi : PI X tg iter wi)
    (hg : ∀ (A : Around) (s : Shared) (H : Hp) (code : Value) (ex : List Addr), Room k A → PG (genCx X A s H scope code ex) tg g)
    (he : ∀ (A : Around) (s : Shared) (H : Hp) (code : Value) (ex : List Addr), Room k A → PE (genCx X A s H scope code ex) elt te)
    (hs : ∀ v, genFold iter X.env v = pure v := by intro _; rfl)
    (hst : starEach [gxE elt tg iter scope gpos] X.env = (false, eval (gxE elt tg iter scope gpos) X.env) :: starEach [] X.env := by rfl) :
    PE X (.Call (.Name "any" p) [.GeneratorExp elt [⟨tg, iter, [], 0⟩] scope gpos] [] pos) (tGx true P wi g te (own.map (·.2))) := by
  refine ⟨fun pins s σ H Q I h => ?_⟩
  refine wpAny_Call_Name_kw (ld_blt I hgl hm boot_any ?_)
  refine PyProof.Rows.callWith_builtin1 ?_ hst (by rfl)
  rw [hst]
  show wpAny _ _ (spliced ((false, eval (gxE elt tg iter scope gpos) X.env) :: backTo pos (starEach [] X.env))) _ _ s
  refine Calls.spliced_cons (gx_make (stop := true) (R := fun Qe Qs => Qe = (fun H => Q (.bl false) H) ∧ Qs = (fun H => Q (.bl true) H)) hc hN hr TB hcode G hi hg he hs I (?_ : wi σ H _) fun a s5 n Qe Qs hR hG => ?_)
  · have e : (fun J H1 => GxR.TabG H1 P ∧ ∀ H2, GxR.Tabbed P H1 H2 → ∃ n Pv, Pv 0 H2 ∧ GTurns J g te (own.map (·.2)) σ true n Pv (fun H => Q (.bl false) H) (fun H => Q (.bl true) H)) =
        (fun J H1 => GxR.TabG H1 P ∧ ∀ H2, GxR.Tabbed P H1 H2 → ∃ n Pv Qe Qs, Pv 0 H2 ∧ GTurns J g te (own.map (·.2)) σ true n Pv Qe Qs ∧ Qe = (fun H => Q (.bl false) H) ∧ Qs = (fun H => Q (.bl true) H)) := by
      funext J H1
      apply propext
      refine ⟨fun ⟨h1, h2⟩ => ⟨h1, fun H2 ht => let ⟨n, Pv, h3, h4⟩ := h2 H2 ht; ⟨n, Pv, _, _, h3, h4, rfl, rfl⟩⟩, fun ⟨h1, h2⟩ => ⟨h1, fun H2 ht => ?_⟩⟩
      obtain ⟨n, Pv, Qe, Qs, h3, h4, rfl, rfl⟩ := h2 H2 ht
      exact ⟨n, Pv, h3, h4⟩
    exact e ▸ h
  obtain ⟨rfl, rfl⟩ := hR
  obtain ⟨g', gs, hg1, hl1, hb1, hgs, hgo⟩ := hG
  refine Calls.spliced_nil ?_
  refine call_function_tree F.kind_any F.plain_any F.entry_any (F.args_any1 _) ?_
  unfold Builtin.«any»
  refine wpAny_bind (m := oneArg "any" _) (wpAny_pure ?_)
  refine wpAny_bind (wpAny_pyIter_gen hg1 ?_)
  refine wpAny_pure ⟨plainId_quiet F.plain_any_loop _, any_loopX (g' := g') hr.hd (by have := hr.dp; omega) (fun s1 H1 J q => ?_) (fun s1 H1 J q => ?_) n s5 hg1 hl1 ⟨gs, hgs, hgo _ rfl rfl (allBare_setGen hb1 rfl)⟩⟩
  · exact ⟨.bl false, H1, J, rfl, q⟩
  · exact ⟨.bl true, H1, J, rfl, q⟩
end
end DL

set_option Elab.async false
set_option linter.all false
set_option maxRecDepth 100000
set_option maxHeartbeats 4000000
/-! own exceptions whose __init__ says super().__init__(f'..'), over ValueError by other own classes -/
namespace DL
open PySem PySem.Spec PyProof.Rows L2

/-! ### {x} in an f-string: some short text -/
/-- a text or an int of some signs -/
def smallV : V → Bool
  | .str y => decide (y.length ≤ 60) && y.cps.toList.all fun c => decide (c < 16 ^ 8)
  | .int i => decide (-300 < i) && decide (i < 300)
  | _ => false
def Shows (K : PySem.W.Frag) (H : Hp) (x : V) : Prop := smallV x = true ∨ ∃ a vs, x = .ref a ∧ SqT K H a vs ∧ vs.length ≤ 20 ∧ vs.all smallV = true
theorem int_sign : ∀ n : Nat, n < 300 → (toString (n : Int) : Str).length ≤ 4 ∧ (toString (-(n : Int)) : Str).length ≤ 5 ∧ n.log2 < 1920 := by decide +kernel
theorem int_short {i : Int} (h1 : -300 < i) (h2 : i < 300) : (toString i : Str).length ≤ 5 ∧ i.natAbs.log2 < 1920 := by
  rcases Int.natAbs_eq i with e | e
  · have := int_sign i.natAbs (by omega)
    rw [← e] at this
    exact ⟨by omega, this.2.2⟩
  · have := int_sign i.natAbs (by omega)
    rw [← e] at this
    exact ⟨this.2.1, this.2.2⟩
theorem repr_small {prog : Program} {w : World} : ∀ {l : List V} {its : List Value}, Vals l its → l.all smallV = true → ∃ ts, ReprAll prog w its ts ∧ piled ts ≤ 700 * l.length
  | [], _, r, _ => by
    cases r
    exact ⟨[], .nil, Nat.zero_le _⟩
  | y :: l, _, r, h => by
    rw [List.all_cons, Bool.and_eq_true] at h
    cases r with
    | cons r1 r2 =>
      obtain ⟨ts, h1, h2⟩ := repr_small r2 h.2
      cases y with
      | str y =>
        have hs := h.1
        simp only [smallV, Bool.and_eq_true, decide_eq_true_eq, List.all_eq_true] at hs
        obtain ⟨t, rfl⟩ := r1
        have hl := StrLaws.reprText_len y hs.2
        refine ⟨reprText y :: ts, .cons (ReprIs.str y t (by rw [sizeLine_eq]; omega)) h1, ?_⟩
        rw [piled_cons, List.length_cons]
        omega
      | int i =>
        have hs := h.1
        simp only [smallV, Bool.and_eq_true, decide_eq_true_eq] at hs
        obtain ⟨t, rfl⟩ := r1
        obtain ⟨hl, hg⟩ := int_short hs.1 hs.2
        refine ⟨(toString i : Str) :: ts, .cons (ReprIs.int t hg) h1, ?_⟩
        rw [piled_cons, List.length_cons]
        omega
      | non => cases h.1
      | bl => cases h.1
      | byt => cases h.1
      | flt => cases h.1
      | ref => cases h.1
      | ty => cases h.1
section
variable {X : Cx}
def tFmtD (K : PySem.W.Frag) (te : TE) : TE := fun σ H Q => te σ H fun x H1 => Shows K H1 x ∧ ∀ m : Str, m.length ≤ 15000 → Q (.str m) H1
theorem pe_fmtD {e : Expr} {te : TE} {pos : Pos} {k : Nat} (hr : Room k X.A) (he : PE X e te) : PE X (.FormattedValue e (-1) none pos) (tFmtD X.K te) := by
  refine ⟨fun pins s σ H Q I h => ?_⟩
  refine wpAny_FormattedValue_plain (thn (he.run pins s σ H _ I h) fun v s1 hv => ?_)
  obtain ⟨x, H1, I1, r1, hs, q⟩ := hv
  rcases hs with hs | ⟨a, vs, rfl, ht, hl, hall⟩
  · cases x with
    | str y =>
      simp only [smallV, Bool.and_eq_true, decide_eq_true_eq, List.all_eq_true] at hs
      obtain ⟨t, rfl⟩ := r1
      have hz : y.length ≤ sizeLine := by rw [sizeLine_eq]; omega
      exact wpAny_formatField_str ⟨.str y, H1, I1, ⟨t, rfl⟩, q y (by omega)⟩ ⟨.str y, H1, I1.tok _, ⟨_, rfl⟩, q y (by omega)⟩ hz
    | int i =>
      simp only [smallV, Bool.and_eq_true, decide_eq_true_eq] at hs
      obtain ⟨t, rfl⟩ := r1
      obtain ⟨h5, hg⟩ := int_short hs.1 hs.2
      exact wpAny_formatField_int hg ⟨.str (toString i), H1, I1.tok _, ⟨_, rfl⟩, q _ (by omega)⟩
    | non => cases hs
    | bl => cases hs
    | byt => cases hs
    | flt => cases hs
    | ref => cases hs
    | ty => cases hs
  · cases r1
    obtain ⟨its, rv, ⟨o, ho, hcl, n, hd⟩, _⟩ := I1.tuple ht
    obtain ⟨ts, hts, hp⟩ := repr_small (prog := X.prog) (w := X.w) rv hall
    have htx := fmt_text ts
    have hu := hr.units
    have hb : piled ts ≤ 14000 := Nat.le_trans hp (by omega)
    refine fmt_tuple (ts := ts) (by omega) ho hcl hd hts (by rw [sizeLine_eq]; omega) fun m u tk hm => ⟨.str m, H1, I1.tok _, ⟨u, rfl⟩, q m (by omega)⟩
end

/-! ### the def __init__ -/
structure SupF (P : Program) (K : PySem.W.Frag) (C fI : Addr) (qual : Str) (st : Stmt) (fd : FuncData) (cda : Addr) (cc : Addr) : Prop where
  T : OexC K C
  iC : PySem.W.findIn K (.ref C) "__init__" = some (some (.ref fI))
  tI : PySem.W.typeIn K (.ref fI) = some (.type "function")
  ex : ∃ (oc : Value) (od : Option Addr) (osl : Array (Option Value)) (kV doc pm : Value) (an : Option Addr) (ct : Value),
    fd = PySem.W.ksFn "__init__" qual (defArgs st) (defBody st) (defScope st) .none kV doc pm an (.ref cda) ct cc ∧ K.lookup fI = some ⟨oc, od, .func fd, osl⟩
  cod : PySem.W.codeIn K (.ref cda) qual = true
  file : ∃ (ccl : Value) (cdd : Option Addr) (vs : Array Value) (ccs : Array (Option Value)) (fl : Str) (tf : Tok), K.lookup cda = some ⟨ccl, cdd, .fields vs, ccs⟩ ∧ vs[2]? = some (.str fl tf) ∧ ((P.main.file : Str) == fl) = true
  cell : ∃ (cl : Value) (cld : Option Addr) (csl : Array (Option Value)), K.lookup cc = some ⟨cl, cld, .cell (some (.ref C)), csl⟩
  cls : ∃ cd, PySem.W.clsIn K C = some cd
  sub : PySem.W.mroIn K C (.ref C) = some true
  sup : PySem.W.ks_superIn K C C "__init__" = some (some (.builtin "ValueError.__init__"))
  ve : PySem.W.subIn K (.ref C) (.type "ValueError") = some true
  tp : PySem.W.nsIn K cStatics "thirdparty.any" = some none

def iniCx (CX : CXT) (P : Program) (w : World) (K : PySem.W.Frag) (mg : Str → Option Value) (base : Heap) (N : List Str) (qual : Str) (scope : Scope) (f : Addr) (cd : Value) (cc : Addr) (A : Around) (outer : List Env) (s : Shared) (H : Hp) (E : XK) : Cx where
  prog := P
  w := w
  K := K
  mg := mg
  base := base
  A := A.deeper (PySem.W.ksEnv qual scope s.heap.objs.size f cd cc)
  N := N
  s_0 := s
  H_0 := H
  env := PySem.W.ksEnv qual scope s.heap.objs.size f cd cc
  outer := outer
  stack := PySem.W.ksEnv qual scope s.heap.objs.size f cd cc :: outer
  ex := []
  calm := true
  fn := fun _ => false
  pn := []
  xe := fun e s' => wpAny (model P w) (A.deeper (PySem.W.ksEnv qual scope s.heap.objs.size f cd cc)) (leaving (PySem.W.ksEnv qual scope s.heap.objs.size f cd cc) e) (fun _ s'' => CX outer H s E e s'') (fun e' s'' => CX outer H s E e' s'') s'

/-- the names of such a def: locals, the parameters first, and __class__ -/
structure SupS (N ps : List Str) (sc : Scope) : Prop where
  kind : sc.kind = .function
  co : sc.isCoroutine = false
  gen : sc.isGenerator = false
  nd : N.Nodup
  pre : N.take ps.length = ps
  par : ∀ x ∈ ps, sc.names.lookup x = some .local
  nocell : ∀ y ∈ sc.names, y.2 ≠ .cell
  free : ∀ y ∈ sc.names, y.2 = .free → y.1 = "__class__"
  cls : sc.names.lookup ("__class__" : Str) = some .free
  sup : sc.names.lookup ("super" : Str) = some .globalImplicit
  nN : ("__class__" : Str) ∉ N

section
variable {CX : CXT} {P : Program} {w : World} {K : PySem.W.Frag} {mg : Str → Option Value} {base : Heap} {N ps : List Str} {qual : Str} {scope : Scope} {f cc : Addr} {cd : Value} {A : Around} {outer : List Env} {s : Shared} {H : Hp} {E : XK} {us : List Value} {vs : List V}
theorem sup_start {h₀ : Heap} {tk : Nat} {C : Addr} {cl : Value} {cld : Option Addr} {csl : Array (Option Value)} (S : SupS N ps scope) (hd : A.handled = none) (e0 : Env0 P w K mg base A outer s H) (hl : vs.length = ps.length) (r : Vals vs us)
    (hcell : K.lookup cc = some ⟨cl, cld, .cell (some (.ref C)), csl⟩) (hns : h₀.Ns s.heap.objs.size (fun x => (ps.zip us).reverse.lookup x)) (hk : ∀ b o, s.heap.get? b = some o → h₀.get? b = some o) :
    Inv (iniCx CX P w K mg base N qual scope f cd cc A outer s H E) [] (start N vs) H { s with heap := h₀, toks := tk } := by
  have hpl : ps.length ≤ N.length := by have := congrArg List.length S.pre; rw [List.length_take] at this; omega
  have noA : ∀ b : Addr, b ∉ (iniCx CX P w K mg base N qual scope f cd cc A outer s H E).ex := fun b z => absurd (show b ∈ ([] : List Addr) from z) (by simp)
  have cl1 : ∀ {y : Str} {c : Addr}, ([(("__class__" : Str), cc)] : List (Str × Addr)).lookup y = some c → y = "__class__" ∧ c = cc := fun {y c} e => by
    by_cases hy : y = "__class__"
    · subst hy
      simp at e
      exact ⟨rfl, e.symm⟩
    · have : (y == ("__class__" : Str)) = false := by simpa using hy
      simp [List.lookup, this] at e
  have hb : base.get? cc = some ⟨cl, cld, .cell (some (.ref C)), csl⟩ := e0.mod.kin _ _ hcell
  have ndP : ps.Nodup := by rw [← S.pre]; exact S.nd.sublist (List.take_sublist _ _)
  refine ⟨⟨e0.mod, S.kind, rfl, rfl, Nat.le_refl _, fun y z c h1 h2 => ?_, fun y hy => ?_, fun y c z _ => ?_, fun _ => hd, Around.frames_deeper e0.frames, .inr ⟨rfl, rfl⟩, fun b z => absurd z (noA b), e0.bs, e0.bsz, fun b _ _ => noA b, fun b z => absurd z (noA b), e0.funs, e0.frf⟩,
    rfl, e0.bare, Un.kept hk, ⟨_, hns, fun i y v h1 h2 h3 => ?_⟩, fun y c h => ?_, e0.hok.fresh (Nat.le_refl _), fun y c h => ?_, fun p hp => absurd (show p ∈ ([] : List (Addr × Obj)) from hp) (by simp), e0.hok.kept hk, ?_⟩
  · exact (cl1 h1).1.trans (cl1 h2).1.symm
  · have hy : scope.names.lookup y = some .cell ∨ scope.names.lookup y = some .free := hy
    rcases hy with hy | hy
    · exact absurd rfl (S.nocell _ (PySem.mem_of_lookup hy))
    · have := S.free _ (PySem.mem_of_lookup hy) rfl
      have hyc : y = "__class__" := this
      subst hyc
      exact ⟨cc, by show ([(("__class__" : Str), cc)] : List (Str × Addr)).lookup ("__class__" : Str) = some cc; simp⟩
  · have z : false = true := z
    cases z
  · have hi : i < vs.length := by
      unfold L2.start at h2
      by_cases hi : i < vs.length
      · exact hi
      · rw [List.getElem?_append_right (by simpa using hi)] at h2
        rw [List.getElem?_replicate] at h2
        split at h2 <;> cases h2
    have ha : vs[i]? = some v := by
      unfold L2.start at h2
      rw [List.getElem?_append_left (by simpa using hi), List.getElem?_map] at h2
      cases e : vs[i]? with
      | none => rw [e] at h2; cases h2
      | some a => rw [e] at h2; cases h2; rfl
    obtain ⟨u, hu, rv⟩ := r.get ha
    have hp : ps[i]? = some y := by
      rw [← S.pre, List.getElem?_take_of_lt (by omega)]; exact h1
    have hk2 : scope.names.lookup y = some .local := S.par y (List.mem_of_getElem? hp)
    refine ⟨u, rv, .inl ⟨hk2, ?_⟩⟩
    have hm : (y, u) ∈ ps.zip us := by
      refine List.mem_of_getElem? (i := i) ?_
      rw [List.getElem?_zip_eq_some]
      exact ⟨hp, hu⟩
    have hnd : ((ps.zip us).map (·.1)).Nodup := by
      have hul : ps.length ≤ us.length := by have := r.length; omega
      rw [List.map_fst_zip hul]
      exact ndP
    have hrev : (((ps.zip us).reverse).map (·.1)).Nodup := by
      rw [List.map_reverse]
      exact (List.reverse_perm _).nodup_iff.mpr hnd
    have lk : ∀ (l : List (Str × Value)), (l.map (·.1)).Nodup → (y, u) ∈ l → l.lookup y = some u := by
      intro l
      induction l with
      | nil => intro _ h; cases h
      | cons p t ih =>
        intro hn hm
        rw [List.map_cons, List.nodup_cons] at hn
        rcases List.mem_cons.mp hm with e | hm
        · subst e
          simp [List.lookup]
        · have ne : (y == p.1) = false := by
            have : y ≠ p.1 := fun e => hn.1 (by rw [← e]; exact List.mem_map.mpr ⟨_, hm, rfl⟩)
            simpa using this
          simp only [List.lookup, ne]
          exact ih hn.2 hm
    exact lk _ hrev (List.mem_reverse.mpr hm)
  · obtain ⟨_, rfl⟩ := cl1 h
    exact ⟨some (.ref C), _, hk _ _ (e0.bs _ _ hb).1, rfl⟩
  · obtain ⟨_, rfl⟩ := cl1 h
    exact (e0.bs _ _ hb).2
  · unfold L2.start
    show _ = N.length
    rw [List.length_append, List.length_map, List.length_replicate]
    omega

/-- THE RULE: such a def by its argument and the rest of its body -/
theorem ini_of {fI C cda : Addr} {k : Nat} {pl : Env → Sem Bool} {st : Stmt} {fd : FuncData} {arg : Expr} {rest : List Stmt} {p0 p1 p2 p4 p5 : Pos} {sp : Sp}
    (F : SupF P K C fI qual st fd cda cc) (S : SupS N ps (defScope st)) (hbody : defBody st = .Expr (.Call (.Attribute (.Call (.Name "super" p0) [] [] p1) "__init__" p2) [arg] [] p4) p5 :: rest)
    (hps : ps.head? = some "self") (hpar : ((defArgs st).posonlyargs ++ (defArgs st).args).head?.map (·.arg) = some "self")
    (htop : (P.main.scope.names.lookup ("super" : Str)).isSome = false) (hms : mg "super" = none)
    (len : ∀ vs H Q E, sp vs H Q E → vs.length = ps.length)
    (hb : ∀ (A : Around) (outer : List Env) (s : Shared) (H : Hp) (vs : List V) (Q : VK) (E : XK), Room k (A.deeper (PySem.W.ksEnv qual (defScope st) s.heap.objs.size fI (.ref cda) cc)) → sp vs H Q E →
      ∃ (a : Addr) (r : List V) (targ : TE) (trest : TS), vs = .ref a :: r ∧ H a = some (exo a C none) ∧ PE (iniCx CX P w K mg base N qual (defScope st) fI (.ref cda) cc A outer s H E) arg targ ∧
        PSs (iniCx CX P w K mg base N qual (defScope st) fI (.ref cda) cc A outer s H E) rest trest ∧
        targ (L2.start N vs) H fun x H1 => (∃ z, x = .str z) ∧ H1 a = some (exo a C none) ∧ trest { nx := fun _ H' => Q .non H', rt := fun v H' => v = .non ∧ Q .non H' } (L2.start N vs) H1)
    (hst : ∀ X : Cx, starEach [arg] X.env = (false, eval arg X.env) :: starEach [] X.env := by intro _; rfl)
    (he : ∀ env : Env, eval (.Call (.Attribute (.Call (.Name "super" p0) [] [] p1) "__init__" p2) [arg] [] p4) env = (do
        let ov ← attributeBase (.Call (.Name "super" p0) [] [] p1) "__init__" env (eval (.Call (.Name "super" p0) [] [] p1) env)
        standAt p2.atName
        let (f, first) ← holding [ov] (getMethod ov "__init__" (pl env))
        callWith p4 f first (backTo p4 (starEach [arg] env)) []) := by intro _; rfl) :
    FnOk P w K mg base CX (k + 1) fI fd ps sp := by
  refine ⟨len, fun A outer s H args us vs Q E hr e0 hbi r hsp => ?_⟩
  obtain ⟨oc, od, osl, kV, doc, pm, an, ct, rfl, lk⟩ := F.ex
  obtain ⟨ccl, cdd, vsf, ccs, fl, tf, lkc, hvf, hfile⟩ := F.file
  obtain ⟨cl, cld, csl, lcell⟩ := F.cell
  obtain ⟨cdv, hcls⟩ := F.cls
  have hl := len _ _ _ _ hsp
  have KX : K.In s.heap := e0.mod.kin.keeps fun b o e => (e0.bs b o e).1
  have lim : s.heap.NoLimit := e0.mod.nolimit.keeps fun b o e => (e0.bs b o e).1
  obtain ⟨a, rr, targ, trest, rfl, ea, harg, hrest, hq⟩ := hb A outer s H vs Q E (hr.deeper _) hsp
  have hloc : ∀ x ∈ ps.zip us, (defScope st).names.lookup x.1 = some .local := fun x hx => S.par _ (List.of_mem_zip hx).1
  refine PySem.ks_codeAny_call_defAt (fd := PySem.W.ksFn "__init__" qual (defArgs st) (defBody st) (defScope st) .none kV doc pm an (.ref cda) ct cc) hr.depth (KX _ _ lk) rfl lim (PySem.W.codeRec_of KX F.cod) rfl hbi S.nocell hloc (fun h₀ hns hk => ?_) S.co S.gen S.kind
  have I0 : Inv (iniCx CX P w K mg base N qual (defScope st) fI (.ref cda) cc A outer s H E) [] (L2.start N (.ref a :: rr)) H { s with heap := h₀, toks := s.toks + (ps.zip us).length } := sup_start S hr.hd e0 hl r lcell hns hk
  show PySem.wpAt (model P w) (A.deeper (PySem.W.ksEnv qual (defScope st) s.heap.objs.size fI (.ref cda) cc)) (.func (defBody st) (PySem.W.ksEnv qual (defScope st) s.heap.objs.size fI (.ref cda) cc)) (execs (defBody st) (PySem.W.ksEnv qual (defScope st) s.heap.objs.size fI (.ref cda) cc)) _ _ _
  have hxs : (L2.start N (V.ref a :: rr))[0]? = some (some (.ref a)) := by unfold L2.start; rfl
  have hN0 : N[0]? = some ("self" : Str) := by
    have e : (N.take ps.length)[0]? = some ("self" : Str) := by rw [S.pre, ← List.head?_eq_getElem?]; exact hps
    rw [List.getElem?_take] at e
    split at e
    · exact e
    · cases e
  have fin : ∀ {σ' : L2.St} {H' : Hp} {v : V} {u : Value} {s' : Shared}, Inv (iniCx CX P w K mg base N qual (defScope st) fI (.ref cda) cc A outer s H E) [] σ' H' s' → L2.RelV v u → Q v H' → CE outer P w H s Q u s' :=
    fun {σ' H' v u s'} J rv q => ⟨v, H', J.os, J.bare, J.base, J.hok, rv, q⟩
  generalize hbs : defBody st = bs
  rw [hbs] at hbody
  subst hbody
  refine PySem.ks_wpAt_execs_cons (PySem.ks_wpAt_Expr_any (PySem.ks_wpAt_MethodCall (pl := pl (PySem.W.ksEnv qual (defScope st) s.heap.objs.size fI (.ref cda) cc)) ?_ (he _)) (by simp [interactive, PySem.W.ksEnv, PySem.W.envX, S.kind]))
  -- super()
  obtain ⟨oD, hD1, hD2⟩ : ∃ oD, h₀.get? C = some oD ∧ oD.data = .cls cdv := by
    unfold PySem.W.clsIn at hcls
    split at hcls
    · rename_i c d cd' sl ho
      cases hcls
      exact ⟨_, I0.kIn _ _ ho, rfl⟩
    · cases hcls
  obtain ⟨hd0, hhd, hha⟩ : ∃ ar : Arg, ((defArgs st).posonlyargs ++ (defArgs st).args).head? = some ar ∧ ar.arg = ("self" : Str) := by
    cases q : ((defArgs st).posonlyargs ++ (defArgs st).args).head? with
    | none => rw [q] at hpar; cases hpar
    | some ar => rw [q] at hpar; exact ⟨ar, rfl, Option.some.inj hpar⟩
  have hself : (defScope st).names.lookup ("self" : Str) = some .local := S.par _ (List.mem_of_getElem? (by rw [← List.head?_eq_getElem?]; exact hps))
  obtain ⟨t1, hoe⟩ := exo_at I0.hok ea
  refine PySem.ks_wpAt_super_base (env := PySem.W.ksEnv qual (defScope st) s.heap.objs.size fI (.ref cda) cc) S.sup S.cls rfl rfl (I0.kIn _ _ lk) rfl hhd rfl (I0.kIn _ _ lkc) rfl hvf hfile htop ?_
  obtain ⟨mb, hmb1, hmb2⟩ := I0.mod.blt
  refine PySem.W.ks_loadName_global S.kind S.sup (PySem.Calls.loadGlobal_builtin (env := PySem.W.ksEnv qual (defScope st) s.heap.objs.size fI (.ref cda) cc) (I0.mod.glob.keeps I0.bk) hms (hmb1.keeps I0.bk) ((hmb2 _ (by decide)).trans (by decide +kernel)) ⟨rfl, ?_⟩)
  refine wpAny_loadName_free S.kind S.cls rfl ⟨_, I0.kIn _ _ lcell, rfl⟩ ?_
  rw [hha]
  obtain ⟨m, hn, hlk⟩ := I0.loc
  obtain ⟨u, ru, hu⟩ := hlk 0 ("self" : Str) (.ref a) hN0 hxs (.inl hself)
  obtain rfl : u = Value.ref a := ru
  have hmu : m "self" = some (.ref a) := by
    rcases hu with ⟨_, z⟩ | ⟨z, _⟩
    · exact z
    · have z : (defScope st).names.lookup ("self" : Str) = some .cell ∨ (defScope st).names.lookup ("self" : Str) = some .free := z
      rcases z with z | z <;> rw [hself] at z <;> cases z
  refine wpAny_loadName_local S.kind hself hn hmu ?_
  refine PySem.ks_wpAny_isType_cls hD1 hD2 ⟨rfl, ?_⟩
  refine PySem.ks_wpAny_call_super hD1 hD2 hoe rfl (fun c e => by cases e) (PySem.W.looks_mroIn I0.kIn F.sub) (fun h1 hso1 hk1 => ?_)
  have I1 := I0.kept (t' := s.toks + (ps.zip us).length) hk1
  have IA : PySem.W.InstAt h1 a (PySem.W.excObj C t1 none .none) C none := ⟨hk1 _ _ hoe, rfl, rfl, trivial⟩
  have hsup := F.sup
  unfold PySem.W.ks_superIn at hsup
  rw [hcls] at hsup
  have hsup : PySem.W.alongIn K "__init__" ((cdv.mro.dropWhile (· != .ref C)).drop 1) = some (some (.builtin "ValueError.__init__")) := hsup
  -- .__init__
  refine PySem.W.kxs_getMethod PySem.W.kxs_ValueError hso1 (PySem.W.looks_opaque I1.kIn F.tp) (l₀ := cdv.mro) (fun A Q E s k q => wpAny_bind ((PySem.W.looks_clsIn I1.kIn hcls) A _ E s k (wpAny_pure q))) rfl I1.kIn hsup
    (IA.type.andThen (PySem.W.looks_subIn I1.kIn F.ve)) (PySem.W.ks_ne I1.kIn IA hcls) (by decide) ?_
  have I2 := I1.kept (t' := s.toks + (ps.zip us).length + 1) (h' := h1.push (PySem.W.kxs_mw "ValueError.__init__" a)) fun b o e => Heap.get?_push_of_some _ e
  have hmw : (h1.push (PySem.W.kxs_mw "ValueError.__init__" a)).get? h1.objs.size = some (PySem.W.kxs_mw "ValueError.__init__" a) := Heap.get?_push_size _ rfl
  have I3 : Inv (iniCx CX P w K mg base N qual (defScope st) fI (.ref cda) cc A outer s H E) [(h1.objs.size, PySem.W.kxs_mw "ValueError.__init__" a)] (L2.start N (V.ref a :: rr)) H { s with heap := h1.push (PySem.W.kxs_mw "ValueError.__init__" a), toks := s.toks + (ps.zip us).length + 1 } :=
    I2.pins_of fun p hp => by
      rw [List.mem_singleton] at hp
      subst hp
      exact ⟨hmw, I1.hok.fresh (Nat.le_refl _), Nat.ne_of_gt I1.lt, I1.nofs (Nat.le_refl _), fun v q => by cases q⟩
  show PySem.wpAny _ _ (callWith p4 (.ref h1.objs.size) [] (backTo p4 (starEach [arg] (PySem.W.ksEnv qual (defScope st) s.heap.objs.size fI (.ref cda) cc))) []) _ _ _
  have hstX := hst (iniCx CX P w K mg base N qual (defScope st) fI (.ref cda) cc A outer s H E)
  have hpa := pa_cons harg pa_nil hstX
  have hstE : starEach [arg] (PySem.W.ksEnv qual (defScope st) s.heap.objs.size fI (.ref cda) cc) = (false, eval arg (PySem.W.ksEnv qual (defScope st) s.heap.objs.size fI (.ref cda) cc)) :: starEach [] (PySem.W.ksEnv qual (defScope st) s.heap.objs.size fI (.ref cda) cc) := hstX
  rw [hstE]
  refine PySem.W.kxs_callWith (i := "ValueError.__init__") (x := a) rfl (PySem.Calls.evalArgs_plain ?_)
  have hrun := hpa.run p4 _ _ _ H (fun xs H1 => match xs with
    | [x] => (∃ z, x = .str z) ∧ H1 a = some (exo a C none) ∧ trest { nx := fun _ H' => Q .non H', rt := fun v H' => v = .non ∧ Q .non H' } (L2.start N (.ref a :: rr)) H1
    | _ => False) I3 hq
  rw [hstX] at hrun
  refine wpAny_mono hrun (fun vs2 s3 h3 => ?_) (fun e s' he => he)
  obtain ⟨xs, H3, I4, r3, q3⟩ := h3
  match xs, r3, q3 with
  | [x], r3, ⟨⟨z, hz⟩, ea3, q4⟩ =>
    subst hz
    obtain ⟨u3, rfl, tz, rfl⟩ : ∃ u3, vs2 = [u3] ∧ ∃ t, u3 = Value.str z t := by
      cases r3 with
      | cons r1 r2 =>
        cases r2
        exact ⟨_, rfl, r1⟩
    have hmw4 := (I4.pin (h1.objs.size, PySem.W.kxs_mw "ValueError.__init__" a) (List.mem_append_right _ (List.mem_singleton.mpr rfl))).1
    refine ⟨hmw4, ?_⟩
    -- ValueError.__init__(self, text)
    obtain ⟨nm, qn, NN, bs, bm, sn, sub, ab, col, dd, k0, k1, k2, k3, k5, hC, hbm⟩ := F.T.cls
    have I5 : Inv (iniCx CX P w K mg base N qual (defScope st) fI (.ref cda) cc A outer s H E) [] (L2.start N (V.ref a :: rr)) H3 s3 := I4.pins_of fun p hp => absurd hp (by simp)
    obtain ⟨t5, hoe5⟩ := exo_at I5.hok ea3
    obtain ⟨hp5, g5, d5, tk5, os5⟩ := s3
    refine wpAny_call (codeAny_of_tree ?_)
    show wpAny _ _ (callAny (.ref h1.objs.size) ⟨[Value.str z tz], []⟩) _ _ _
    simp only [callAny]
    refine wpAny_bind (wpAny_load hmw4 ?_)
    simp only [PySem.W.kxs_mw, show (Value.type "method-wrapper" == Value.type "method" || Value.type "method-wrapper" == Value.type "builtin_function_or_method" || Value.type "method-wrapper" == Value.type "method-wrapper") = true by decide, if_true]
    refine PySem.W.KFB.if_so (by decide) ?_
    refine wpAny_bind (PySem.W.check_bound_init PySem.F.excBase_ValueError.toExcCallFacts (I5.kIn _ _ hC) hoe5 rfl ?_)
    refine wpAny_bind (wpAny_pure (wpAny_pure ?_))
    refine ⟨plainId_quiet PySem.F.excBase_ValueError.init.plain _, codeAny_builtin PySem.F.excBase_ValueError.initEntry ?_⟩
    refine PySem.W.exc_init_tree (cls := .ref C) (t0 := t5) (dv := none) (c2 := .none) (c3 := .none) (b4 := .bool false) hoe5 (by show 1 ≤ sizeLine; rw [sizeLine_eq]; decide) (fun h6 k6 e6 _ => ?_)
    have J := I5.write (t' := tk5) (x := a) (e := a) (o := exo a C none) (by rw [ea3]; exact True.intro) (.inl rfl) k6 ⟨_, e6⟩ (exo_ok e6)
    have eu : upd H3 a (exo a C none) = H3 := by
      funext b
      by_cases hb : b = a
      · rw [hb, upd_same, ea3]
      · rw [upd_ne hb]
    rw [eu] at J
    refine PySem.wpAt_of_wpAny (wpAny_mono (hrest.run [] _ _ H3 _ J q4) (fun fl s7 h7 => ?_) fun e s' he => he)
    cases fl with
    | next =>
      obtain ⟨σ', H', J', q⟩ := h7
      exact fin (v := V.non) (u := Value.none) J' rfl q
    | ret u =>
      obtain ⟨v, σ', H', J', rv, ev, q⟩ := h7
      subst ev
      exact fin J' rv q
    | brk =>
      obtain ⟨_, _, _, q⟩ := h7
      exact q.elim
    | cont =>
      obtain ⟨_, _, _, q⟩ := h7
      exact q.elim
end
end DL

set_option Elab.async false
set_option linter.all false
set_option maxRecDepth 100000
set_option maxHeartbeats 4000000
/-! data whose tuples are known as they stand: no dict of their own, so that their methods can be called -/
namespace DL
open PySem PySem.Spec PyProof.Rows L2
/-- a tuple that is known as it stands -/
def exT (K : PySem.W.Frag) (H : Hp) (a : Addr) (xs : List V) : Prop :=
  (∃ o : Obj, H a = some (.frz o (.tup xs)) ∧ o.dict = none) ∨
    ∃ (o : Obj) (its : Array Value) (n : Nat), K.lookup a = some o ∧ o.cls = .type "tuple" ∧ o.data = .seq its n ∧ its.size ≤ sizeLine ∧ Vals xs its.toList ∧ o.dict = none
theorem exT.sq {K : PySem.W.Frag} {H : Hp} {a : Addr} {xs : List V} (h : exT K H a xs) : SqT K H a xs := by
  rcases h with ⟨o, h, _⟩ | ⟨o, its, n, h1, h2, h3, h4, h5, _⟩
  · exact .inl (.inr ⟨o, h⟩)
  · exact .inr ⟨o, its, n, h1, h2, h3, h4, h5⟩
theorem exT_mono {K : PySem.W.Frag} {F F' : Hp} (h : ∀ a o, F a = some o → F' a = some o) {a : Addr} {xs : List V} (x : exT K F a xs) : exT K F' a xs := by
  rcases x with ⟨o, x, d⟩ | x
  · exact .inl ⟨o, h _ _ x, d⟩
  · exact .inr x
mutual
inductive Dp (K : PySem.W.Frag) (H : Hp) : V → PyData → Prop
  | non : Dp K H .non .none
  | bl (b : Bool) : Dp K H (.bl b) (.bool b)
  | int (i : Int) : Dp K H (.int i) (.int i)
  | str (x : Str) : Dp K H (.str x) (.str x)
  | lst {a : Addr} {xs : List V} {ds : List PyData} : SqL K H a xs → DpAll K H xs ds → Dp K H (.ref a) (.list ds)
  | tup {a : Addr} {xs : List V} {ds : List PyData} : exT K H a xs → DpAll K H xs ds → Dp K H (.ref a) (.tuple ds)
inductive DpAll (K : PySem.W.Frag) (H : Hp) : List V → List PyData → Prop
  | nil : DpAll K H [] []
  | cons {v : V} {vs : List V} {d : PyData} {ds : List PyData} : Dp K H v d → DpAll K H vs ds → DpAll K H (v :: vs) (d :: ds)
end
mutual
/-- as the kit says it -/
theorem Dp.low {K : PySem.W.Frag} {H : Hp} : ∀ {d : PyData} {v : V}, Dp K H v d → L2.Dp K H v d
  | _, _, .non => .non
  | _, _, .bl b => .bl b
  | _, _, .int i => .int i
  | _, _, .str x => .str x
  | .list _, _, .lst hs hd => .lst hs hd.low
  | .tuple _, _, .tup hs hd => .tup hs.sq hd.low
theorem DpAll.low {K : PySem.W.Frag} {H : Hp} : ∀ {ds : List PyData} {vs : List V}, DpAll K H vs ds → L2.DpAll K H vs ds
  | _, _, .nil => .nil
  | _ :: _, _, .cons h1 h2 => .cons h1.low h2.low
end
/-- a new tuple, as it stands -/
abbrev frT (o : Obj) (xs : List V) : HO := .frz o (.tup xs)
section
variable {X : Cx}
theorem frT_ok {P : Program} {w : World} {H : Hp} {h : Heap} {a : Addr} {o : Obj} {xs : List V} {its : List Value} (ho : h.get? a = some o) (hz : xs.length ≤ sizeLine) (r : Vals xs its) (hc : o.cls = .type "tuple") {n : Nat} (hd : o.data = .seq its.toArray n) : ObjOk P w H h a (frT o xs) :=
  ⟨ho, hz, its, r, o, ho, hc, n, hd⟩
/-- (a, b) -/
def tTupX (t : TA) : TE := fun σ H Q => t σ H fun xs H1 => xs.length ≤ sizeLine ∧ ∀ p o, H1 p = none → o.dict = none → Q (.ref p) (upd H1 p (frT o xs))
theorem pe_tupX {es : List Expr} {pos : Pos} {t : TA} {x1} (h : PA X es t) : PE X (.Tuple es x1 pos) (tTupX t) := by
  refine ⟨fun pins s σ H Q I hq => ?_⟩
  refine wpAny_Tuple_spliced (thn (h.run pos pins s σ H _ I hq) fun us s1 ⟨xs, H1, I1, r, z, q⟩ => ⟨by rw [← r.length]; exact z, ?_⟩)
  have hf : H1 s1.heap.objs.size = none := I1.hok.fresh (Nat.le_refl _)
  refine ⟨.ref s1.heap.objs.size, upd H1 s1.heap.objs.size (frT _ xs), I1.laid (t' := s1.toks) (fun b u e => Heap.get?_push_of_some _ e) (Nat.le_refl _) (frT_ok (Heap.get?_push_size _ rfl) z r rfl rfl), rfl, q _ _ hf rfl⟩
/-- t[lo:hi] -/
def rSlX (K : PySem.W.Frag) : V → Option Int → Option Int → Hp → VK → Prop := fun x lo hi H Q => ∃ a xs, x = .ref a ∧ SqT K H a xs ∧
  (HT.sIx xs.length 0 lo = 0 ∧ HT.sIx xs.length xs.length hi = xs.length → Q (.ref a) H) ∧ (¬ (HT.sIx xs.length 0 lo = 0 ∧ HT.sIx xs.length xs.length hi = xs.length) → ∀ p o, H p = none → o.dict = none → Q (.ref p) (upd H p (frT o (cutV xs lo hi))))
theorem sl_tupX : SlR X (rSlX X.K) := by
  intro pins s σ H x v vl vu lo hi sl Q I rx hs pl pu h
  obtain ⟨a, xs, rfl, hx, q1, q2⟩ := h
  cases rx
  obtain ⟨its, r, ht, hz⟩ := I.tuple hx
  have hlen : its.toArray.size = xs.length := by rw [List.size_toArray]; exact r.length.symm
  refine ⟨"tuple", _, PyProof.Rows.slot_tuple_getitem.lookup, ht.typeIs, ?_⟩
  by_cases hw : HT.sIx xs.length 0 lo = 0 ∧ HT.sIx xs.length xs.length hi = xs.length
  · exact getItem_tuple_whole ht hs pl pu (by rw [hlen]; exact hw) ⟨.ref a, H, I, rfl, q1 hw⟩
  · refine HT.getItem_tuple_cut ht hs pl pu (by rw [hlen]; exact hw) ?_ (by rw [hlen]; exact hz)
    rw [hlen]
    refine ⟨.ref s.heap.objs.size, _, I.laid (t' := s.toks) (o := frT _ (cutV xs lo hi)) (fun b ob q => Heap.get?_push_of_some _ q) (Nat.le_refl _) (frT_ok (Heap.get?_push_size _ rfl) (Nat.le_trans (cutV_length xs lo hi) hz) ?_ rfl rfl), rfl, q2 hw _ _ (I.hok.fresh (Nat.le_refl _)) rfl⟩
    exact (r.drop (HT.sIx xs.length 0 lo)).take (HT.sIx xs.length xs.length hi - HT.sIx xs.length 0 lo)
/-- t + u -/
def rCatX (K : PySem.W.Frag) : R2 := fun x y H Q => ∃ a b xs ys, x = .ref a ∧ y = .ref b ∧ SqT K H a xs ∧ SqT K H b ys ∧ xs.length + ys.length ≤ sizeLine ∧
  (xs = [] → Q (.ref b) H) ∧ (xs ≠ [] → ys = [] → Q (.ref a) H) ∧ (xs ≠ [] → ys ≠ [] → ∀ p o, H p = none → o.dict = none → Q (.ref p) (upd H p (frT o (xs ++ ys))))
theorem op_catX : OpR X (binaryOp .Add) (rCatX X.K) := by
  intro pins s σ H x y v u Q I rx ry h
  obtain ⟨a, b, xs, ys, rfl, rfl, ha, hb, hz, q0, q1, q2⟩ := h
  cases rx
  cases ry
  obtain ⟨its, r1, p1, _⟩ := I.tuple ha
  obtain ⟨its2, r2, p2, _⟩ := I.tuple hb
  by_cases hx : xs = []
  · subst hx
    cases r1
    exact cat_tup0 p1 p2 ⟨.ref b, H, I, rfl, q0 rfl⟩
  · refine HT.cat_tup p1 p2 (fun z => hx (r1.nil_iff.mp z)) (fun z => ⟨.ref a, H, I, rfl, q1 hx (r2.nil_iff.mp z)⟩) (fun z => ?_) (by rw [← r1.length, ← r2.length]; exact hz)
    exact ⟨.ref s.heap.objs.size, _, I.laid (t' := s.toks) (o := frT _ (xs ++ ys)) (fun b ob q => Heap.get?_push_of_some _ q) (Nat.le_refl _) (frT_ok (Heap.get?_push_size _ rfl) (by rw [List.length_append]; exact hz) (r1.append r2) rfl rfl), rfl, q2 hx (fun w => z (r2.nil_iff.mpr w)) _ _ (I.hok.fresh (Nat.le_refl _)) rfl⟩
/-- tuple(xs) -/
theorem call_tupleX : CallR X (.type "tuple") (fun xs H Q => ∃ p ys, xs = [.ref p] ∧ ((SqL X.K H p ys ∧ ∀ l o, H l = none → o.dict = none → Q (.ref l) (upd H l (frT o ys))) ∨ (SqT X.K H p ys ∧ Q (.ref p) H))) := by
  intro pins s σ H xs us Q I r h
  obtain ⟨p, ys, rfl, h⟩ := h
  obtain ⟨u, rfl, rx⟩ := r.one
  cases rx
  rcases h with ⟨hq, q⟩ | ⟨hq, q⟩
  · obtain ⟨its, r', pl, hz⟩ := I.list hq
    have hlen := r'.length
    refine call_tuple_list pl.isList (fun h' kp => ?_) (by simp only [List.size_toArray] <;> omega)
    have I1 : Inv X pins σ H { s with heap := h' } := I.kept (t' := s.toks) kp
    have I2 : Inv X pins σ (upd H h'.objs.size (frT { cls := .type "tuple", data := .seq its.toArray } ys)) { s with heap := h'.push { cls := .type "tuple", data := .seq its.toArray } } :=
      I1.laid (t' := s.toks) (fun b o e => Heap.get?_push_of_some _ e) (Nat.le_refl _) (frT_ok (Heap.get?_push_size _ rfl) hz r' rfl rfl)
    exact ⟨.ref h'.objs.size, _, I2, rfl, q _ _ (I1.hok.fresh (Nat.le_refl _)) rfl⟩
  · obtain ⟨its, r', pl, hz⟩ := I.tuple hq
    exact call_tuple_same pl ⟨.ref p, H, I, rfl, q⟩
def rRepX (K : PySem.W.Frag) : R2 := fun x y H Q => ∃ l k xs, x = .ref l ∧ y = .int k ∧ SqT K H l xs ∧ xs ≠ [] ∧ 2 ≤ k ∧ k ≤ 1000 ∧ xs.length ≤ 1000 ∧ ∀ p o, H p = none → o.dict = none → Q (.ref p) (upd H p (frT o (List.replicate k.toNat xs).flatten))
/-- t * k, made as it stands -/
theorem op_repX : OpR X (binaryOp .Mult) (rRepX X.K) := by
  intro pins s σ H x y v u Q I rx ry h
  obtain ⟨l, k, xs, rfl, rfl, hT, hne, h1, h2, hz, q⟩ := h
  cases rx
  obtain ⟨t, rfl⟩ := ry
  obtain ⟨its, r, ⟨⟨cls, dd, data, sl⟩, ho, hc, n, hd⟩, hs⟩ := I.tuple hT
  simp only at hc hd
  subst hc hd
  have hle : its.length = xs.length := r.length.symm
  have hn : its ≠ [] := fun e => hne (by
    rw [e] at hle
    exact List.eq_nil_of_length_eq_zero hle.symm)
  have hi : its.toArray.isEmpty = false := by
    cases its with
    | nil => exact absurd rfl hn
    | cons a b => rfl
  have hsz0 : its.toArray.size = xs.length := by rw [List.size_toArray, hle]
  have hm : ((its.toArray.size : Nat) : Int) * k ≤ 1000000 := by
    rw [hsz0]
    have a1 : ((xs.length : Nat) : Int) * k ≤ 1000 * k := Int.mul_le_mul_of_nonneg_right (by omega) (by omega)
    omega
  have flen : (List.replicate k.toNat its).flatten.length ≤ sizeLine := by
    rw [PyProof.Rows.lm_len_rep_flat, hle, sizeLine_eq]
    have a1 : k.toNat * xs.length ≤ 1000 * 1000 := Nat.mul_le_mul (by omega) hz
    omega
  have c0 : (decide (k < -(2 ^ 63)) || decide (k ≥ 2 ^ 63)) = false := by
    rw [decide_eq_false (by omega), decide_eq_false (by omega)] <;> rfl
  have c1 : (its.toArray.isEmpty || k == 1) = false := by
    rw [hi, Bool.false_or]
    exact beq_eq_false_iff_ne.mpr (by omega)
  have c2 : (decide (k ≤ 0) || its.toArray.isEmpty) = false := by
    rw [hi, Bool.or_false]
    exact decide_eq_false (by omega)
  have c4 : Builtin.Tuple.tupleTooMany (((its.toArray.size : Nat) : Int) * k) = false := by
    unfold Builtin.Tuple.tupleTooMany
    rw [sizeLine_eq]
    exact decide_eq_false (by omega)
  refine wpAny_binaryOp_repeat_ref (T := "tuple") (U := "int") (by decide) ⟨_, ho, rfl⟩ (fun s' => typeIs_int s' k t) noFill_tuple_mul F.fills_int_mul F.slot_int_rmul repeat_tuple F.slot_int_index.lookup
    (call_meets F.slot_int_rmul (typeIs_int s k t) F.entry_int_rmul (F.args_int_rmul_2 _ _) (int_rmul_tuple k t l its.toArray n dd sl)
      ⟨ho, rfl, ⟨_, ho, rfl⟩, call_meets F.slot_tuple_mul ⟨_, ho, rfl⟩ F.entry_tuple_mul (F.args_tuple_mul_2 _ _) (tuple_mulW l its.toArray n dd sl k t c0 c1 c2 (by omega) c4 (by rw [size_rep, List.size_toArray]; exact flen)) ⟨ho, ?_⟩⟩)
  rw [size_rep]
  have hl2 : (List.replicate k.toNat xs).flatten.length ≤ sizeLine := by
    rw [PyProof.Rows.lm_len_rep_flat, sizeLine_eq]
    have a1 : k.toNat * xs.length ≤ 1000 * 1000 := Nat.mul_le_mul (by omega) hz
    omega
  exact ⟨.ref s.heap.objs.size, _, I.laid (t' := s.toks) (o := frT _ (List.replicate k.toNat xs).flatten) (fun b ob q => Heap.get?_push_of_some _ q) (Nat.le_refl _) (frT_ok (Heap.get?_push_size _ rfl) hl2 (r.rep k.toNat) rfl rfl), rfl, q _ _ (I.hok.fresh (Nat.le_refl _)) rfl⟩
end
end DL

set_option Elab.async false
set_option linter.all false
set_option maxRecDepth 100000
set_option maxHeartbeats 4000000
/-! the data layer: mirrors over data, and what it means that a piece of syntax does what a mirror says -/
namespace DL
open PySem PySem.Spec PyProof.Rows L2

/-! ### mirrors: what is wanted of a value, of an error -/
inductive Er where
  | bad (n : PyData) | unlaid (b : PyData) | refused (y : PyData) | unread (l y : PyData)
structure M (α : Type) where
  run : (α → Prop) → (Er → Prop) → Prop
  mono : ∀ {P P' : α → Prop} {R R' : Er → Prop}, (∀ a, P a → P' a) → (∀ e, R e → R' e) → run P R → run P' R'
namespace M
variable {α β : Type}
def ret (a : α) : M α := ⟨fun P _ => P a, fun h _ x => h _ x⟩
def bnd (m : M α) (f : α → M β) : M β := ⟨fun P R => m.run (fun a => (f a).run P R) R, fun h1 h2 x => m.mono (fun a y => (f a).mono h1 h2 y) h2 x⟩
def stuck : M α := ⟨fun _ _ => False, fun _ _ x => x⟩
def err (e : Er) : M α := ⟨fun _ R => R e, fun _ h x => h _ x⟩
/-- any value with C -/
def any (C : α → Prop) : M α := ⟨fun P _ => ∀ a, C a → P a, fun h _ x a c => h _ (x a c)⟩
instance : Monad M where
  pure := ret
  bind := bnd
theorem pure_run (a : α) (P : α → Prop) (R : Er → Prop) : (pure a : M α).run P R = P a := rfl
theorem bind_run (m : M α) (f : α → M β) (P : β → Prop) (R : Er → Prop) : (m >>= f).run P R = m.run (fun a => (f a).run P R) R := rfl
theorem ext' {m m' : M α} (h : m.run = m'.run) : m = m' := by
  cases m; cases m'; cases h; rfl
@[simp] theorem pure_bind' (a : α) (f : α → M β) : (pure a : M α) >>= f = f a := rfl
@[simp] theorem bind_pure' (m : M α) : m >>= pure = m := rfl
@[simp] theorem bind_assoc' {γ : Type} (m : M α) (f : α → M β) (g : β → M γ) : (m >>= f) >>= g = m >>= fun a => f a >>= g := rfl
@[simp] theorem stuck_bind (f : α → M β) : (stuck : M α) >>= f = stuck := rfl
@[simp] theorem err_bind (e : Er) (f : α → M β) : (err e : M α) >>= f = err e := rfl
def guard (b : Bool) (m : M α) : M α := if b then m else stuck
@[simp] theorem guard_true (m : M α) : guard true m = m := rfl
@[simp] theorem guard_false (m : M α) : guard false m = stuck := rfl
end M

/-! ### the static part: tables of code objects, the error classes -/
structure DC where
  TS : List Addr
  TL : List (Addr × Str)
  cBad : Addr
  cUnl : Addr
  cRef : Addr
  cUnr : Addr

/-- F: the frozen part of the heap -/
structure GS (C : DC) (F H : Hp) : Prop where
  sub : ∀ a o, F a = some o → H a = some o
  nt : ∀ a ps, F a ≠ some (.tbl ps)
  tabs : ∀ P ∈ C.TS, GxR.TabG H P
  lams : LamX.Tabs C.TL H
/-- the state of the draws: the script, how many cells are taken, a mixed number, the rest of a great cell -/
def Drw (K : PySem.W.Frag) (F H : Hp) (a : Addr) : Prop :=
  ∃ (sv : V) (ns : List Int) (i j r : Int), H a = some (.lst [sv, .int i, .int j, .int r]) ∧ F a = none ∧ Dp K F sv (.list (ns.map PyData.int)) ∧ 0 ≤ i ∧ 0 ≤ j ∧ j < 2147483647 ∧ 0 ≤ r
/-- from one state to a later one; W: the draws that may change -/
structure Ext (C : DC) (K : PySem.W.Frag) (W : Addr → Prop) (F H F' H' : Hp) : Prop where
  same : ∀ a o, H a = some o → (∀ ps, o ≠ .tbl ps) → ¬ W a → H' a = some o
  dom : ∀ a, H a ≠ none → H' a ≠ none
  frz : ∀ a, H a ≠ none → F' a = F a
  gs : GS C F' H'
  drw : ∀ a, W a → Drw K F H a → Drw K F' H' a

mutual
theorem dp_mono {K : PySem.W.Frag} {F F' : Hp} (h : ∀ a o, F a = some o → F' a = some o) : ∀ (d : PyData) (v : V), Dp K F v d → Dp K F' v d
  | _, _, .non => .non
  | _, _, .bl b => .bl b
  | _, _, .int i => .int i
  | _, _, .str x => .str x
  | .list ds, _, .lst hs hd => .lst (sql_mono h hs) (dpAll_mono h ds _ hd)
  | .tuple ds, _, .tup hs hd => .tup (exT_mono h hs) (dpAll_mono h ds _ hd)
theorem dpAll_mono {K : PySem.W.Frag} {F F' : Hp} (h : ∀ a o, F a = some o → F' a = some o) : ∀ (ds : List PyData) (vs : List V), DpAll K F vs ds → DpAll K F' vs ds
  | _, _, .nil => .nil
  | d :: ds, _, .cons h1 h2 => .cons (dp_mono h d _ h1) (dpAll_mono h ds _ h2)
theorem sql_mono {K : PySem.W.Frag} {F F' : Hp} (h : ∀ a o, F a = some o → F' a = some o) {a : Addr} {xs : List V} (x : SqL K F a xs) : SqL K F' a xs := by
  rcases x with (x | ⟨o, x⟩) | x
  · exact .inl (.inl (h _ _ x))
  · exact .inl (.inr ⟨o, h _ _ x⟩)
  · exact .inr x
theorem sqt_mono {K : PySem.W.Frag} {F F' : Hp} (h : ∀ a o, F a = some o → F' a = some o) {a : Addr} {xs : List V} (x : SqT K F a xs) : SqT K F' a xs := by
  rcases x with (x | ⟨o, x⟩) | x
  · exact .inl (.inl (h _ _ x))
  · exact .inl (.inr ⟨o, h _ _ x⟩)
  · exact .inr x
end

section
variable {C : DC} {K : PySem.W.Frag} {W W' : Addr → Prop} {F H F1 H1 F2 H2 : Hp}
theorem Ext.refl (g : GS C F H) : Ext C K W F H F H := ⟨fun _ _ h _ _ => h, fun _ h => h, fun _ _ => rfl, g, fun _ _ h => h⟩
theorem Ext.trans (x : Ext C K W F H F1 H1) (y : Ext C K W F1 H1 F2 H2) : Ext C K W F H F2 H2 :=
  ⟨fun a o h n w => y.same a o (x.same a o h n w) n w, fun a h => y.dom a (x.dom a h), fun a h => (y.frz a (x.dom a h)).trans (x.frz a h), y.gs, fun a w d => y.drw a w (x.drw a w d)⟩
theorem Ext.fsub (x : Ext C K W F H F1 H1) (g : GS C F H) : ∀ a o, F a = some o → F1 a = some o := fun a o h => by
  rw [x.frz a (by rw [g.sub a o h]; simp)]
  exact h
theorem Ext.fnone (x : Ext C K W F H F1 H1) {a : Addr} (h : H a ≠ none) (hf : F a = none) : F1 a = none := by rw [x.frz a h]; exact hf
theorem drw_same {a : Addr} (hs : ∀ o, H a = some o → (∀ ps, o ≠ .tbl ps) → H1 a = some o) (hfz : F1 a = F a) (hf : ∀ a o, F a = some o → F1 a = some o) (d : Drw K F H a) : Drw K F1 H1 a := by
  obtain ⟨sv, ns, i, j, r, h1, h2, h3, h4⟩ := d
  exact ⟨sv, ns, i, j, r, hs _ h1 (fun ps e => by cases e), by rw [hfz]; exact h2, dp_mono hf _ _ h3, h4⟩
/-- fewer draws may change -/
theorem Ext.wide (x : Ext C K W F H F1 H1) (g : GS C F H) (h : ∀ a, W a → W' a) : Ext C K W' F H F1 H1 := by
  refine ⟨fun a o e n w => x.same a o e n fun z => w (h a z), x.dom, x.frz, x.gs, fun a w d => ?_⟩
  by_cases z : W a
  · exact x.drw a z d
  · have hn : H a ≠ none := by
      obtain ⟨sv, ns, i, j, r, h1, _⟩ := d
      rw [h1]
      simp
    exact drw_same (fun o e n => x.same a o e n z) (x.frz a hn) (x.fsub g) d
/-- draws that have come since may have changed -/
theorem Ext.narrow (x : Ext C K W F H F1 H1) (h : ∀ a, W a → H a ≠ none → W' a) (hd : ∀ a, W' a → W a ∨ ∀ o, H a = some o → (∀ ps, o ≠ .tbl ps) → H1 a = some o) (g : GS C F H) : Ext C K W' F H F1 H1 := by
  refine ⟨fun a o e n w => x.same a o e n fun z => w (h a z (by rw [e]; simp)), x.dom, x.frz, x.gs, fun a w d => ?_⟩
  rcases hd a w with z | z
  · exact x.drw a z d
  · have hn : H a ≠ none := by
      obtain ⟨sv, ns, i, j, r, h1, _⟩ := d
      rw [h1]
      simp
    exact drw_same z (x.frz a hn) (x.fsub g) d
end

/-! ### what the slots hold -/
/-- an object of one's own, by what it says of the frozen heap -/
structure OR where
  R : PySem.W.Frag → Hp → Addr → HO → Prop
  mono : ∀ {K : PySem.W.Frag} {F F' : Hp} {x : Addr} {o : HO}, (∀ a u, F a = some u → F' a = some u) → R K F x o → R K F' x o
  nt : ∀ {K : PySem.W.Frag} {F : Hp} {x : Addr} {o : HO} (ps : Array Value), R K F x o → o ≠ .tbl ps
  nc : ∀ {K : PySem.W.Frag} {F : Hp} {x : Addr} {o : HO} (c : Addr) (q : Str), R K F x o → o ≠ LamX.CodeO c q
/-- a list -/
def lstR (ds : List PyData) : OR := ⟨fun K F _ o => ∃ vs, o = .lst vs ∧ DpAll K F vs ds, fun h ⟨vs, e, d⟩ => ⟨vs, e, dpAll_mono h _ _ d⟩, fun ps ⟨_, e, _⟩ z => (by rw [e] at z; cases z), fun c q ⟨_, e, _⟩ z => (by rw [e] at z; exact HO.noConfusion z)⟩
inductive Sl where
  | val (d : PyData)
  | obj (r : OR)
  | fob (r : OR)
  | dic (f : Int → Option PyData)
  | drw
abbrev Sl.own (ds : List PyData) : Sl := .obj (lstR ds)
abbrev REnv := List (Option Sl)
def Sl.mut : Sl → Bool
  | .val _ => false
  | .fob _ => false
  | .dic _ => false
  | _ => true
/-- a dict with int keys, by what it gives -/
def DicRep (K : PySem.W.Frag) (F : Hp) (v : V) (f : Int → Option PyData) : Prop := ∃ a ws, v = .ref a ∧ F a = some (.dK ws) ∧ ∀ k : Int, match f k with
  | some d => ∃ x, valV ws (Sum.inl k : Key) = some x ∧ Dp K F x d
  | none => valV ws (Sum.inl k : Key) = none
theorem dic_mono {K : PySem.W.Frag} {F F' : Hp} (h : ∀ a o, F a = some o → F' a = some o) {v : V} {f : Int → Option PyData} (d : DicRep K F v f) : DicRep K F' v f := by
  obtain ⟨a, ws, e, ha, hk⟩ := d
  refine ⟨a, ws, e, h _ _ ha, fun k => ?_⟩
  have q := hk k
  cases z : f k with
  | none => rw [z] at q; exact q
  | some d =>
    rw [z] at q
    obtain ⟨x, h1, h2⟩ := q
    exact ⟨x, h1, dp_mono h _ _ h2⟩
def SlRep (K : PySem.W.Frag) (F H : Hp) (v : V) : Sl → Prop
  | .val d => Dp K F v d
  | .obj r => ∃ a o, v = .ref a ∧ F a = none ∧ H a = some o ∧ r.R K F a o
  | .fob r => ∃ a o, v = .ref a ∧ F a = some o ∧ r.R K F a o
  | .dic f => DicRep K F v f
  | .drw => ∃ a, v = .ref a ∧ Drw K F H a
def drA (ρ : REnv) (σ : L2.St) : Addr → Prop := fun a => ∃ i : Nat, ρ[i]? = some (some Sl.drw) ∧ σ[i]? = some (some (V.ref a))
structure Ok (C : DC) (K : PySem.W.Frag) (ρ : REnv) (σ : L2.St) (F H : Hp) : Prop where
  gs : GS C F H
  len : σ.length = ρ.length
  sl : ∀ (i : Nat) s, ρ[i]? = some (some s) → ∃ v, σ[i]? = some (some v) ∧ SlRep K F H v s
  dj : ∀ (i j : Nat) s t a, i ≠ j → ρ[i]? = some (some s) → ρ[j]? = some (some t) → s.mut = true → t.mut = true → σ[i]? = some (some (V.ref a)) → σ[j]? ≠ some (some (V.ref a))
section
variable {C : DC} {K : PySem.W.Frag} {ρ : REnv} {σ : L2.St} {F H F1 H1 : Hp}
theorem own_iff {v : V} {ds : List PyData} : SlRep K F H v (.own ds) ↔ ∃ a vs, v = .ref a ∧ F a = none ∧ H a = some (.lst vs) ∧ DpAll K F vs ds :=
  ⟨fun ⟨a, _, e, h1, h2, vs, eo, d⟩ => ⟨a, vs, e, h1, by rw [h2, eo], d⟩, fun ⟨a, vs, e, h1, h2, d⟩ => ⟨a, _, e, h1, h2, vs, rfl, d⟩⟩
theorem SlRep.there {v : V} {s : Sl} (h : SlRep K F H v s) (m : s.mut = true) : ∃ a, v = .ref a ∧ F a = none ∧ ∃ o, H a = some o := by
  cases s with
  | val d => cases m
  | fob r => cases m
  | dic f => cases m
  | obj r => obtain ⟨a, o, rfl, h1, h2, _⟩ := h; exact ⟨a, rfl, h1, o, h2⟩
  | drw => obtain ⟨a, rfl, sv, ns, i, j, r, h1, h2, _⟩ := h; exact ⟨a, rfl, h2, _, h1⟩
theorem SlRep.ext {W : Addr → Prop} {v : V} {s : Sl} (h : SlRep K F H v s) (x : Ext C K W F H F1 H1) (g : GS C F H) (hw : ∀ a r, s = .obj r → v = .ref a → ¬ W a) : SlRep K F1 H1 v s := by
  cases s with
  | val d => exact dp_mono (x.fsub g) _ _ h
  | dic f => exact dic_mono (x.fsub g) h
  | fob r =>
    obtain ⟨a, o, rfl, h1, h2⟩ := h
    exact ⟨a, o, rfl, x.fsub g _ _ h1, r.mono (x.fsub g) h2⟩
  | obj r =>
    obtain ⟨a, o, rfl, h1, h2, h3⟩ := h
    exact ⟨a, o, rfl, x.fnone (by rw [h2]; simp) h1, x.same _ _ h2 (fun ps e => r.nt ps h3 e) (hw a r rfl rfl), r.mono (x.fsub g) h3⟩
  | drw =>
    obtain ⟨a, rfl, d⟩ := h
    refine ⟨a, rfl, ?_⟩
    by_cases w : W a
    · exact x.drw a w d
    · have hn : H a ≠ none := by
        obtain ⟨sv, ns, i, j, r, h1, _⟩ := d
        rw [h1]
        simp
      exact drw_same (fun o e n => x.same a o e n w) (x.frz a hn) (x.fsub g) d
theorem Ok.ext (k : Ok C K ρ σ F H) (x : Ext C K (drA ρ σ) F H F1 H1) : Ok C K ρ σ F1 H1 := by
  refine ⟨x.gs, k.len, fun i s hs => ?_, k.dj⟩
  obtain ⟨v, h1, h2⟩ := k.sl i s hs
  refine ⟨v, h1, h2.ext x k.gs fun a ds es e w => ?_⟩
  subst es e
  obtain ⟨j, hj, hja⟩ := w
  by_cases e : i = j
  · subst e
    rw [hs] at hj
    cases hj
  · exact absurd hja (k.dj i j _ .drw a e hs hj rfl rfl h1)
end

/-! ### errors -/
def ErRep (C : DC) (K : PySem.W.Frag) (F H : Hp) (er : Er) (cls : Value) (dd : Option Addr) : Prop :=
  match er with
  | .bad n => cls = .ref C.cBad ∧ ∃ x y, dd = some x ∧ H x = some (.xd [("name", y)]) ∧ Dp K F y n
  | .unlaid n => cls = .ref C.cUnl ∧ ∃ x y, dd = some x ∧ H x = some (.xd [("bar", y)]) ∧ Dp K F y n
  | .refused n => cls = .ref C.cRef ∧ ∃ x y, dd = some x ∧ H x = some (.xd [("why", y)]) ∧ Dp K F y n
  | .unread l n => cls = .ref C.cUnr ∧ ∃ x y z, dd = some x ∧ H x = some (.xd [("why", z), ("line", y)]) ∧ Dp K F y l ∧ Dp K F z n
def RE (C : DC) (K : PySem.W.Frag) (E : XK) (W : Addr → Prop) (F H : Hp) (er : Er) : Prop := ∀ cls dd F' H', Ext C K W F H F' H' → ErRep C K F' H' er cls dd → E cls dd H'
theorem RE.later {C : DC} {K : PySem.W.Frag} {E : XK} {W : Addr → Prop} {F H F1 H1 : Hp} (x : Ext C K W F H F1 H1) (er : Er) (h : RE C K E W F H er) : RE C K E W F1 H1 er := fun cls dd F' H' y r => h cls dd F' H' (x.trans y) r

/-! ### what a value says -/
/-- a datum: frozen, or a list of one's own that stands -/
def RdV (K : PySem.W.Frag) (W : Addr → Prop) (F H : Hp) (v : V) (d : PyData) : Prop :=
  Dp K F v d ∨ ∃ a vs ds, v = .ref a ∧ d = .list ds ∧ F a = none ∧ ¬ W a ∧ H a = some (.lst vs) ∧ DpAll K F vs ds
section
variable {C : DC} {K : PySem.W.Frag} {W : Addr → Prop} {F H F1 H1 : Hp} {v : V} {d : PyData}
theorem RdV.ext (h : RdV K W F H v d) (x : Ext C K W F H F1 H1) (g : GS C F H) : RdV K W F1 H1 v d := by
  rcases h with h | ⟨a, vs, ds, rfl, rfl, h1, h2, h3, h4⟩
  · exact .inl (dp_mono (x.fsub g) _ _ h)
  · exact .inr ⟨a, vs, ds, rfl, rfl, x.fnone (by rw [h3]; simp) h1, h2, x.same _ _ h3 (fun ps e => by cases e) h2, dpAll_mono (x.fsub g) _ _ h4⟩
theorem RdV.dp (h : RdV K W F H v d) (g : GS C F H) : Dp K H v d := by
  rcases h with h | ⟨a, vs, ds, rfl, rfl, h1, h2, h3, h4⟩
  · exact dp_mono g.sub _ _ h
  · exact .lst (.inl (.inl h3)) (dpAll_mono g.sub _ _ h4)
/-- read as a list -/
theorem RdV.list {ds : List PyData} (h : RdV K W F H v (.list ds)) (g : GS C F H) : ∃ a vs, v = .ref a ∧ SqL K H a vs ∧ DpAll K F vs ds := by
  rcases h with h | ⟨a, vs, ds', rfl, e, h1, h2, h3, h4⟩
  · cases h with
    | lst hs hd => exact ⟨_, _, rfl, sql_mono g.sub hs, hd⟩
  · cases e
    exact ⟨a, vs, rfl, .inl (.inl h3), h4⟩
theorem RdV.tuple {ds : List PyData} (h : RdV K W F H v (.tuple ds)) (g : GS C F H) : ∃ a vs, v = .ref a ∧ SqT K H a vs ∧ DpAll K F vs ds := by
  rcases h with h | ⟨a, vs, ds', rfl, e, h1, h2, h3, h4⟩
  · cases h with
    | tup hs hd => exact ⟨_, _, rfl, sqt_mono g.sub hs.sq, hd⟩
  · cases e
theorem RdV.tupX {ds : List PyData} (h : RdV K W F H v (.tuple ds)) : ∃ a vs, v = .ref a ∧ exT K F a vs ∧ DpAll K F vs ds := by
  rcases h with h | ⟨a, vs, ds', rfl, e, h1, h2, h3, h4⟩
  · cases h with
    | tup hs hd => exact ⟨_, _, rfl, hs, hd⟩
  · cases e
theorem RdV.int {i : Int} (h : RdV K W F H v (.int i)) : v = .int i := by
  rcases h with h | ⟨_, _, _, _, e, _⟩
  · cases h; rfl
  · cases e
theorem RdV.bool {b : Bool} (h : RdV K W F H v (.bool b)) : v = .bl b := by
  rcases h with h | ⟨_, _, _, _, e, _⟩
  · cases h; rfl
  · cases e
theorem RdV.str {x : Str} (h : RdV K W F H v (.str x)) : v = .str x := by
  rcases h with h | ⟨_, _, _, _, e, _⟩
  · cases h; rfl
  · cases e
theorem RdV.none (h : RdV K W F H v .none) : v = .non := by
  rcases h with h | ⟨_, _, _, _, e, _⟩
  · cases h; rfl
  · cases e
theorem DpAll.length : ∀ {vs : List V} {ds : List PyData}, DpAll K F vs ds → vs.length = ds.length
  | _, _, .nil => rfl
  | _, _, .cons _ r => by rw [List.length_cons, List.length_cons, DpAll.length r]
theorem DpAll.get : ∀ {vs : List V} {ds : List PyData} {i : Nat} {d : PyData}, DpAll K F vs ds → ds[i]? = some d → ∃ v, vs[i]? = some v ∧ Dp K F v d
  | _, _, _, _, .nil, e => by simp at e
  | _, _, 0, _, .cons h _, e => by simp at e; subst e; exact ⟨_, rfl, h⟩
  | _, _, i + 1, d, .cons _ r, e => by
    obtain ⟨v, h1, h2⟩ := DpAll.get (i := i) r (by simpa using e)
    exact ⟨v, by simpa using h1, h2⟩
theorem DpAll.append : ∀ {vs ws : List V} {ds es : List PyData}, DpAll K F vs ds → DpAll K F ws es → DpAll K F (vs ++ ws) (ds ++ es)
  | _, _, _, _, .nil, h => h
  | _, _, _, _, .cons a r, h => .cons a (DpAll.append r h)
theorem DpAll.take : ∀ {vs : List V} {ds : List PyData} (n : Nat), DpAll K F vs ds → DpAll K F (vs.take n) (ds.take n)
  | _, _, 0, _ => .nil
  | _, _, _ + 1, .nil => .nil
  | _, _, n + 1, .cons a r => .cons a (DpAll.take n r)
theorem DpAll.drop : ∀ {vs : List V} {ds : List PyData} (n : Nat), DpAll K F vs ds → DpAll K F (vs.drop n) (ds.drop n)
  | _, _, 0, h => h
  | _, _, _ + 1, .nil => .nil
  | _, _, n + 1, .cons _ r => DpAll.drop n r
theorem DpAll.set {v : V} {d : PyData} (h : Dp K F v d) : ∀ {vs : List V} {ds : List PyData} (i : Nat), DpAll K F vs ds → DpAll K F (vs.set i v) (ds.set i d)
  | _, _, _, .nil => .nil
  | _, _, 0, .cons _ r => .cons h r
  | _, _, i + 1, .cons a r => .cons a (DpAll.set h i r)
theorem DpAll.reverse : ∀ {vs : List V} {ds : List PyData}, DpAll K F vs ds → DpAll K F vs.reverse ds.reverse
  | _, _, .nil => .nil
  | _, _, .cons a r => by rw [List.reverse_cons, List.reverse_cons]; exact DpAll.append (DpAll.reverse r) (.cons a .nil)
end

/-! ### the judgements -/
section
variable (X : Cx) (C : DC) (E : XK) (ρ : REnv)
/-- e gives the datum that m says, frozen -/
def DE (e : Expr) (m : M PyData) : Prop := ∃ t, PE X e t ∧ ∀ σ F H Q, Ok C X.K ρ σ F H →
  m.run (fun d => ∀ v F' H', Ext C X.K (drA ρ σ) F H F' H' → Dp X.K F' v d → Q v H') (RE C X.K E (drA ρ σ) F H) → t σ H Q
/-- .. to be read at once -/
def DR (e : Expr) (m : M PyData) : Prop := ∃ t, PE X e t ∧ ∀ σ F H Q, Ok C X.K ρ σ F H →
  m.run (fun d => ∀ v F' H', Ext C X.K (drA ρ σ) F H F' H' → RdV X.K (drA ρ σ) F' H' v d → Q v H') (RE C X.K E (drA ρ σ) F H) → t σ H Q
/-- a new list -/
def DL (e : Expr) (m : M (List PyData)) : Prop := ∃ t, PE X e t ∧ ∀ σ F H Q, Ok C X.K ρ σ F H →
  m.run (fun ds => ∀ a vs F' H', Ext C X.K (drA ρ σ) F H F' H' → H a = none → F' a = none → H' a = some (.lst vs) → DpAll X.K F' vs ds → Q (.ref a) H') (RE C X.K E (drA ρ σ) F H) → t σ H Q
/-- a truth value -/
def DB (e : Expr) (m : M Bool) : Prop := ∃ t, PE X e t ∧ ∀ σ F H Q, Ok C X.K ρ σ F H →
  m.run (fun b => ∀ F' H', Ext C X.K (drA ρ σ) F H F' H' → Q (.bl b) H') (RE C X.K E (drA ρ σ) F H) → t σ H Q
/-- a test -/
def DT (e : Expr) (m : M Bool) : Prop := ∃ t, PT X e t ∧ ∀ σ F H Q, Ok C X.K ρ σ F H →
  m.run (fun b => ∀ F' H', Ext C X.K (drA ρ σ) F H F' H' → Q b H') (RE C X.K E (drA ρ σ) F H) → t σ H Q
/-- arguments, frozen; to be read -/
def DA (es : List Expr) (m : M (List PyData)) : Prop := ∃ t, PA X es t ∧ ∀ σ F H Q, Ok C X.K ρ σ F H →
  m.run (fun ds => ∀ vs F' H', Ext C X.K (drA ρ σ) F H F' H' → DpAll X.K F' vs ds → Q vs H') (RE C X.K E (drA ρ σ) F H) → t σ H Q
def DAR (es : List Expr) (m : M (List PyData)) : Prop := ∃ t, PA X es t ∧ ∀ σ F H Q, Ok C X.K ρ σ F H →
  m.run (fun ds => ∀ vs F' H', Ext C X.K (drA ρ σ) F H F' H' → Paired (RdV X.K (drA ρ σ) F' H') vs ds → Q vs H') (RE C X.K E (drA ρ σ) F H) → t σ H Q
end
section
variable {X : Cx} {C : DC} {E : XK} {ρ : REnv} {e a b : Expr} {es : List Expr} {m ma mb : M PyData} {p pos : Pos}
theorem DE.rd (h : DE X C E ρ e m) : DR X C E ρ e m := by
  obtain ⟨t, h1, h2⟩ := h
  exact ⟨t, h1, fun σ F H Q k hm => h2 σ F H Q k (m.mono (fun d q v F' H' x r => q v F' H' x (.inl r)) (fun _ r => r) hm)⟩
/-- a new list is let go -/
theorem DL.de {ml : M (List PyData)} (h : DL X C E ρ e ml) : DE X C E ρ e (ml >>= fun ds => pure (.list ds)) := by
  obtain ⟨t, h1, h2⟩ := h
  refine ⟨t, h1, fun σ F H Q k hm => h2 σ F H Q k (ml.mono (fun ds q a vs F' H' x hn hf ha hd => ?_) (fun _ r => r) hm)⟩
  have fs : ∀ b o, F' b = some o → upd F' a (.lst vs) b = some o := fun b o e => by
    by_cases hb : b = a
    · subst hb; rw [hf] at e; cases e
    · rw [upd_ne hb]; exact e
  refine q (.ref a) (upd F' a (.lst vs)) H' ⟨x.same, x.dom, fun b hb => ?_, ⟨fun b o e => ?_, fun b ps e => ?_, x.gs.tabs, x.gs.lams⟩, fun b w d => ?_⟩ (.lst (.inl (.inl upd_same)) (dpAll_mono fs _ _ hd))
  · rw [upd_ne (show b ≠ a from fun z => hb (by rw [z]; exact hn))]
    exact x.frz b hb
  · by_cases hb : b = a
    · subst hb; rw [upd_same] at e; cases e; exact ha
    · rw [upd_ne hb] at e; exact x.gs.sub b o e
  · by_cases hb : b = a
    · subst hb; rw [upd_same] at e; cases e
    · rw [upd_ne hb] at e; exact x.gs.nt b ps e
  · have hb : b ≠ a := fun z => by
      obtain ⟨sv, ns, i, j, r, q1, _⟩ := d
      rw [z, hn] at q1
      cases q1
    exact drw_same (fun o e _ => e) (upd_ne hb) fs (x.drw b w d)
theorem DL.rd {ml : M (List PyData)} (h : DL X C E ρ e ml) : DR X C E ρ e (ml >>= fun ds => pure (.list ds)) := h.de.rd
theorem DB.de {mb : M Bool} (h : DB X C E ρ e mb) : DE X C E ρ e (mb >>= fun c => pure (.bool c)) := by
  obtain ⟨t, h1, h2⟩ := h
  exact ⟨t, h1, fun σ F H Q k hm => h2 σ F H Q k (mb.mono (fun c q F' H' x => q _ F' H' x (.bl c)) (fun _ r => r) hm)⟩
theorem DB.rd {mb : M Bool} (h : DB X C E ρ e mb) : DR X C E ρ e (mb >>= fun c => pure (.bool c)) := h.de.rd

/-! names and constants -/
theorem de_int {i : Int} {j : Nat} : DE X C E ρ (.Constant (.int i) j pos) (pure (.int i)) := ⟨_, pe_int, fun σ F H Q k hm => hm _ F H (.refl k.gs) (.int i)⟩
theorem de_str {x : Str} {j : Nat} : DE X C E ρ (.Constant (.str x) j pos) (pure (.str x)) := ⟨_, pe_str, fun σ F H Q k hm => hm _ F H (.refl k.gs) (.str x)⟩
theorem de_none {j : Nat} : DE X C E ρ (.Constant .none j pos) (pure .none) := ⟨_, pe_non, fun σ F H Q k hm => hm _ F H (.refl k.gs) .non⟩
theorem db_const {c : Bool} {j : Nat} : DB X C E ρ (.Constant (.bool c) j pos) (pure c) := ⟨_, pe_bl, fun σ F H Q k hm => hm F H (.refl k.gs)⟩
theorem de_var {i : Nat} {x : Str} {d : PyData} (hρ : ρ[i]? = some (some (.val d))) (hp : PE X (.Name x p) (tVar i)) : DE X C E ρ (.Name x p) (pure d) := by
  refine ⟨_, hp, fun σ F H Q k hm => ?_⟩
  obtain ⟨v, h1, h2⟩ := k.sl i _ hρ
  exact ⟨v, h1, hm v F H (.refl k.gs) h2⟩
theorem dr_own {i : Nat} {x : Str} {ds : List PyData} (hρ : ρ[i]? = some (some (.own ds))) (hp : PE X (.Name x p) (tVar i)) : DR X C E ρ (.Name x p) (pure (.list ds)) := by
  refine ⟨_, hp, fun σ F H Q k hm => ?_⟩
  obtain ⟨v, h1, h0⟩ := k.sl i _ hρ
  obtain ⟨a, vs, rfl, h2, h3, h4⟩ := own_iff.mp h0
  refine ⟨_, h1, hm _ F H (.refl k.gs) (.inr ⟨a, vs, ds, rfl, rfl, h2, fun w => ?_, h3, h4⟩)⟩
  obtain ⟨j, hj, hja⟩ := w
  by_cases e : i = j
  · subst e
    rw [hρ] at hj
    cases hj
  · exact k.dj i j _ .drw a e hρ hj rfl rfl h1 hja
/-- a module's constant -/
theorem de_glob {x : Str} {v : V} {u : Value} {d : PyData} (hg : Gl X x) (hm : X.mg x = some u) (r : RelV v u) (hd : ∀ F : Hp, Dp X.K F v d) (hdb : (x == ("__debug__" : Str)) = false := by decide) : DE X C E ρ (.Name x p) (pure d) :=
  ⟨_, pe_glob hg hm r hdb, fun σ F H Q k hq => hq v F H (.refl k.gs) (hd F)⟩
/-- the walk of two parts -/
theorem two {ta tb : TE} {σ : L2.St} {F H : Hp} {Rq : V → V → Hp → Prop} (k : Ok C X.K ρ σ F H)
    (ha : ∀ σ F H Q, Ok C X.K ρ σ F H → ma.run (fun d => ∀ v F' H', Ext C X.K (drA ρ σ) F H F' H' → RdV X.K (drA ρ σ) F' H' v d → Q v H') (RE C X.K E (drA ρ σ) F H) → ta σ H Q)
    (hb : ∀ σ F H Q, Ok C X.K ρ σ F H → mb.run (fun d => ∀ v F' H', Ext C X.K (drA ρ σ) F H F' H' → RdV X.K (drA ρ σ) F' H' v d → Q v H') (RE C X.K E (drA ρ σ) F H) → tb σ H Q)
    {A : PyData → PyData → Prop} (hm : ma.run (fun d => mb.run (fun e => A d e) (RE C X.K E (drA ρ σ) F H)) (RE C X.K E (drA ρ σ) F H))
    (hR : ∀ d e v w F2 H2, A d e → Ext C X.K (drA ρ σ) F H F2 H2 → RdV X.K (drA ρ σ) F2 H2 v d → RdV X.K (drA ρ σ) F2 H2 w e → GS C F2 H2 → Rq v w H2) : ta σ H fun x H1 => tb σ H1 fun y H2 => Rq x y H2 := by
  refine ha σ F H _ k (ma.mono (fun d q v F1 H1 x1 r1 => ?_) (fun _ r => r) hm)
  refine hb σ F1 H1 _ (k.ext x1) (mb.mono (fun e q2 w F2 H2 x2 r2 => ?_) (fun er r => RE.later x1 er r) q)
  exact hR d e v w F2 H2 q2 (x1.trans x2) (r1.ext x2 x1.gs) r2 x2.gs
end
end DL

set_option Elab.async false
set_option linter.all false
set_option maxRecDepth 100000
set_option maxHeartbeats 4000000
/-! the data layer: expressions -/
namespace DL
open PySem PySem.Spec PyProof.Rows L2

/-! ### operators by values -/
abbrev VP := V → Hp → Prop
/-- an operator's reading gives what op says -/
def BinOk (K : PySem.W.Frag) (C : DC) (r : R2) (op : PyData → PyData → M PyData) : Prop :=
  ∀ W F H x y d e (Q : VK) (R : Er → Prop), GS C F H → RdV K W F H x d → RdV K W F H y e → (op d e).run (fun z => ∀ v F' H', Ext C K W F H F' H' → Dp K F' v z → Q v H') R → r x y H Q
def CmpOk (K : PySem.W.Frag) (C : DC) (r : R2) (op : PyData → PyData → M Bool) : Prop :=
  ∀ W F H x y d e (Q : VK) (R : Er → Prop), GS C F H → RdV K W F H x d → RdV K W F H y e → (op d e).run (fun c => Q (.bl c) H) R → r x y H Q
def BinOkL (K : PySem.W.Frag) (C : DC) (r : R2) (op : PyData → PyData → M (List PyData)) : Prop :=
  ∀ W F H x y d e (Q : VK) (R : Er → Prop), GS C F H → RdV K W F H x d → RdV K W F H y e →
    (op d e).run (fun ds => ∀ a vs, H a = none → DpAll K F vs ds → Q (.ref a) (upd H a (.lst vs))) R → r x y H Q
section
variable {X : Cx} {C : DC} {E : XK} {ρ : REnv} {e a b c : Expr} {es : List Expr} {m ma mb mc : M PyData} {p pos : Pos}

/-- a new object is laid -/
theorem gs_new {K : PySem.W.Frag} {F H : Hp} {a : Addr} {o : HO} (g : GS C F H) (hn : H a = none) : GS C F (upd H a o) := by
  have key : ∀ b u, H b = some u → upd H a o b = some u := fun b u h => by
    rw [upd_ne (fun z => by rw [z, hn] at h; cases h)]
    exact h
  refine ⟨fun b u h => key b u (g.sub b u h), g.nt, fun P hP => ?_, ?_⟩
  · obtain ⟨ps, h1, h2⟩ := g.tabs P hP
    exact ⟨ps, key _ _ h1, h2⟩
  · exact g.lams.ext key
theorem ext_new {K : PySem.W.Frag} {W : Addr → Prop} {F H : Hp} {a : Addr} {o : HO} (g : GS C F H) (hn : H a = none) : Ext C K W F H F (upd H a o) := by
  have key : ∀ b u, H b = some u → upd H a o b = some u := fun b u h => by
    rw [upd_ne (fun z => by rw [z, hn] at h; cases h)]
    exact h
  refine ⟨fun b u h _ _ => key b u h, fun b h => ?_, fun _ _ => rfl, gs_new (K := K) g hn, fun b w d => drw_same (fun u h _ => key b u h) rfl (fun _ _ h => h) d⟩
  intro z
  cases q : H b with
  | none => exact h q
  | some u => rw [key b u q] at z; cases z
/-- a new frozen object is laid -/
theorem ext_newF {K : PySem.W.Frag} {W : Addr → Prop} {F H : Hp} {a : Addr} {o : HO} (g : GS C F H) (hn : H a = none) (ho : ∀ ps, o ≠ .tbl ps) : Ext C K W F H (upd F a o) (upd H a o) ∧ ∀ b u, F b = some u → upd F a o b = some u := by
  have key : ∀ b u, H b = some u → upd H a o b = some u := fun b u h => by
    rw [upd_ne (fun z => by rw [z, hn] at h; cases h)]
    exact h
  have fs : ∀ b u, F b = some u → upd F a o b = some u := fun b u h => by
    rw [upd_ne (fun z => by rw [z] at h; rw [g.sub _ _ h] at hn; cases hn)]
    exact h
  have x := ext_new (K := K) (W := W) (o := o) g hn
  refine ⟨⟨x.same, x.dom, fun b h => upd_ne (fun z => h (by rw [z]; exact hn)), ⟨fun b u h => ?_, fun b ps h => ?_, x.gs.tabs, x.gs.lams⟩, fun b w d => ?_⟩, fs⟩
  · by_cases z : b = a
    · subst z; rw [upd_same] at h; cases h; exact upd_same
    · rw [upd_ne z] at h; exact x.gs.sub b u h
  · by_cases z : b = a
    · subst z; rw [upd_same] at h; cases h; exact ho ps rfl
    · rw [upd_ne z] at h; exact g.nt b ps h
  · have hb : b ≠ a := fun z => by
      obtain ⟨sv, ns, i, j, r, q1, _⟩ := d
      rw [z, hn] at q1
      cases q1
    exact drw_same (fun u h _ => key b u h) (upd_ne hb) fs d

theorem de_op {op : Operator} {r : R2} {f : PyData → PyData → M PyData} (ho : OpR X (binaryOp op) r) (hf : BinOk X.K C r f) (ha : DR X C E ρ a ma) (hb : DR X C E ρ b mb) : DE X C E ρ (.BinOp a op b pos) (ma >>= fun x => mb >>= fun y => f x y) := by
  obtain ⟨ta, ha1, ha2⟩ := ha
  obtain ⟨tb, hb1, hb2⟩ := hb
  refine ⟨_, pe_op ho ha1 hb1, fun σ F H Q k hm => ?_⟩
  exact two (X := X) (C := C) (E := E) k ha2 hb2 hm fun d e v w F2 H2 q x r1 r2 g => hf _ F2 H2 v w d e Q _ g r1 r2 ((f d e).mono (fun z q v F' H' x' => q v F' H' (x.trans x')) (fun _ r => r) q)
theorem dl_op {op : Operator} {r : R2} {f : PyData → PyData → M (List PyData)} (ho : OpR X (binaryOp op) r) (hf : BinOkL X.K C r f) (ha : DR X C E ρ a ma) (hb : DR X C E ρ b mb) : DL X C E ρ (.BinOp a op b pos) (ma >>= fun x => mb >>= fun y => f x y) := by
  obtain ⟨ta, ha1, ha2⟩ := ha
  obtain ⟨tb, hb1, hb2⟩ := hb
  refine ⟨_, pe_op ho ha1 hb1, fun σ F H Q k hm => ?_⟩
  refine two (X := X) (C := C) (E := E) k ha2 hb2 hm fun d e v w F2 H2 q x r1 r2 g => hf _ F2 H2 v w d e Q _ g r1 r2 ((f d e).mono (fun ds q a vs hn hd => ?_) (fun _ r => r) q)
  have nH : H a = none := by
    cases z : H a with
    | none => rfl
    | some u => exact absurd hn (x.dom a (by rw [z]; simp))
  refine q a vs F2 _ (x.trans (ext_new g hn)) nH ?_ upd_same hd
  cases z : F2 a with
  | none => rfl
  | some u => rw [g.sub _ _ z] at hn; cases hn
theorem db_cmp {op : CmpOp} {r : R2} {f : PyData → PyData → M Bool} (ho : OpR X (compareOp op) r) (hf : CmpOk X.K C r f) (ha : DR X C E ρ a ma) (hb : DR X C E ρ b mb) (hm : behindInMarks op b = false) : DB X C E ρ (.Compare a [op] [b] pos) (ma >>= fun x => mb >>= fun y => f x y) := by
  obtain ⟨ta, ha1, ha2⟩ := ha
  obtain ⟨tb, hb1, hb2⟩ := hb
  refine ⟨_, pe_cmpR ho ha1 hb1 hm, fun σ F H Q k hq => ?_⟩
  exact two (X := X) (C := C) (E := E) k ha2 hb2 hq fun d e v w F2 H2 q x r1 r2 g => hf _ F2 H2 v w d e Q _ g r1 r2 ((f d e).mono (fun z q => q F2 H2 x) (fun _ r => r) q)
theorem dt_cmp {op : CmpOp} {r : R2} {f : PyData → PyData → M Bool} (ho : OpR X (compareOp op) r) (hf : CmpOk X.K C r f) (ha : DR X C E ρ a ma) (hb : DR X C E ρ b mb) (hm : behindInMarks op b = false) : DT X C E ρ (.Compare a [op] [b] pos) (ma >>= fun x => mb >>= fun y => f x y) := by
  obtain ⟨ta, ha1, ha2⟩ := ha
  obtain ⟨tb, hb1, hb2⟩ := hb
  refine ⟨_, pt_cmpR ho ha1 hb1 hm, fun σ F H Q k hq => ?_⟩
  exact two (X := X) (C := C) (E := E) k ha2 hb2 hq fun d e v w F2 H2 q x r1 r2 g => hf _ F2 H2 v w d e _ _ g r1 r2 ((f d e).mono (fun z q => ⟨z, rfl, q F2 H2 x⟩) (fun _ r => r) q)
/-- a < b < c -/
theorem db_chain {op op' : CmpOp} {r r' : R2} {f f' : PyData → PyData → M Bool} (ho : OpR X (compareOp op) r) (ho' : OpR X (compareOp op') r') (hf : CmpOk X.K C r f) (hf' : CmpOk X.K C r' f') (ha : DR X C E ρ a ma) (hb : DR X C E ρ b mb) (hc : DR X C E ρ c mc)
    (hm : lastMarks [op, op'] [b, c] = false) :
    DB X C E ρ (.Compare a [op, op'] [b, c] pos) (ma >>= fun x => mb >>= fun y => f x y >>= fun k => if k = true then mc >>= fun z => f' y z else pure false) := by
  obtain ⟨ta, ha1, ha2⟩ := ha
  obtain ⟨tb, hb1, hb2⟩ := hb
  obtain ⟨tc, hc1, hc2⟩ := hc
  refine ⟨_, pe_chain ho ho' ha1 hb1 hc1 hm, fun σ F H Q k hq => ?_⟩
  refine two (X := X) (C := C) (E := E) k ha2 hb2 hq fun d e v w F2 H2 q x r1 r2 g => hf _ F2 H2 v w d e _ _ g r1 r2 ((f d e).mono (fun z q => ⟨z, rfl, ?_⟩) (fun _ r => r) q)
  cases z with
  | true =>
    dsimp only at q
    rw [if_pos rfl] at q ⊢
    refine hc2 σ F2 H2 _ (k.ext x) (mc.mono (fun z q v3 F3 H3 x3 r3 => ?_) (fun er r => RE.later x er r) q)
    exact hf' _ F3 H3 w v3 e z _ _ x3.gs (r2.ext x3 g) r3 ((f' e z).mono (fun z q => q F3 H3 (x.trans x3)) (fun _ r => r) q)
  | false =>
    dsimp only at q
    rw [if_neg Bool.false_ne_true] at q ⊢
    exact q F2 H2 x
/-- .. as a test -/
theorem dt_chain {op op' : CmpOp} {r r' : R2} {f f' : PyData → PyData → M Bool} (ho : OpR X (compareOp op) r) (ho' : OpR X (compareOp op') r') (hf : CmpOk X.K C r f) (hf' : CmpOk X.K C r' f') (ha : DR X C E ρ a ma) (hb : DR X C E ρ b mb) (hc : DR X C E ρ c mc)
    (hm : lastMarks [op, op'] [b, c] = false) :
    DT X C E ρ (.Compare a [op, op'] [b, c] pos) (ma >>= fun x => mb >>= fun y => f x y >>= fun k => if k = true then mc >>= fun z => f' y z else pure false) := by
  obtain ⟨ta, ha1, ha2⟩ := ha
  obtain ⟨tb, hb1, hb2⟩ := hb
  obtain ⟨tc, hc1, hc2⟩ := hc
  refine ⟨_, pt_chain ho ho' ha1 hb1 hc1 hm, fun σ F H Q k hq => ?_⟩
  refine two (X := X) (C := C) (E := E) k ha2 hb2 hq fun d e v w F2 H2 q x r1 r2 g => hf _ F2 H2 v w d e _ _ g r1 r2 ((f d e).mono (fun z q => ⟨z, rfl, ?_⟩) (fun _ r => r) q)
  cases z with
  | true =>
    dsimp only at q
    rw [if_pos rfl] at q ⊢
    refine hc2 σ F2 H2 _ (k.ext x) (mc.mono (fun z q v3 F3 H3 x3 r3 => ?_) (fun er r => RE.later x er r) q)
    exact hf' _ F3 H3 w v3 e z _ _ x3.gs (r2.ext x3 g) r3 ((f' e z).mono (fun z q => ⟨z, rfl, q F3 H3 (x.trans x3)⟩) (fun _ r => r) q)
  | false =>
    dsimp only at q
    rw [if_neg Bool.false_ne_true] at q ⊢
    exact ⟨false, rfl, q F2 H2 x⟩
end
end DL

set_option Elab.async false
set_option linter.all false
set_option maxRecDepth 100000
set_option maxHeartbeats 4000000
/-! the data layer: the operators -/
namespace DL
open PySem PySem.Spec PyProof.Rows L2

section
open PySem.AutoSeq1
theorem extend_wide (l : Addr) (items : Array Value) (n : Nat) (b : Addr) (items2 : Array Value) (n2 : Nat) (dd2 : Option Addr) (sl2 : Array (Option Value)) (hc0 : ¬(!items.isEmpty && Builtin.List.listTooLong (items.size + items2.size)) = true) (hc1 : items.size ≤ sizeLine) (hs2 : items.size + items2.size ≤ sizeLine + 1) :
    Meets (Builtin.«list.extend» ⟨[.ref l, .ref b], []⟩) (fun _ R s => s.heap.get? l = some { cls := .type "list", dict := none, data := .seq items n, slots := #[] } ∧ s.heap.get? b = some { cls := .type "list", dict := dd2, data := .seq items2 n2, slots := sl2 } ∧ R (.ok (.ret Value.none)) { s with heap := s.heap.update l (Obj.mapSeq fun x => x ++ items2), toks := s.toks }) :=
  .of_wp fun prog w A R s h => by
    obtain ⟨hp, g, d, tk, os⟩ := s
    obtain ⟨hl, hb, h⟩ := h
    have f1 := idx_int
    have f2 := AutoSeq1.sub_tuple_tuple
    have f3 := AutoSeq1.sub_list_list
    have f4 := AutoSeq1.sub_tuple_list
    have f5 := AutoSeq1.sub_list_tuple
    have hz' : (items ++ items2).size ≤ sizeLine + 1 := by
      rw [Array.size_append]
      exact hs2
    wp_walk using (wpAny_updateSeq hl rfl (hz := hc1) (_hz' := hz')), wpAny_loadPart' hl, wpAny_loadPart' hb
    exact ⟨_, rfl, h⟩
end
section
variable {X : Cx} {C : DC} {K : PySem.W.Frag}
/-- .extend by any list that is read -/
def rExtL (K : PySem.W.Frag) : V → List V → Hp → VK → Prop := fun x vs H Q => ∃ l b xs zs, x = .ref l ∧ vs = [.ref b] ∧ H l = some (.lst xs) ∧ SqL K H b zs ∧ xs.length + zs.length ≤ sizeLine ∧ Q .non (upd H l (.lst (xs ++ zs)))
theorem mt_extL : MtM X "list.extend" (rExtL X.K) := by
  intro pins s σ H x vs v us Q I rx rv h
  obtain ⟨l, b, xs, zs, rfl, rfl, hH, hB, hz, q⟩ := h
  cases rx
  obtain ⟨u, rfl, ru⟩ := rv.one
  cases ru
  obtain ⟨z, its, n, r, hl, e⟩ := I.lstM hH
  obtain ⟨its2, r2, ⟨o2, n2, e2, hc2, hd2, hs2⟩, hl2⟩ := I.list hB
  obtain ⟨c2, dd2, da2, sl2⟩ := o2
  simp only at hc2 hd2 hs2
  subst hc2 hd2 hs2
  have h2l := r2.length
  have hsz : its.toArray.size + its2.toArray.size ≤ sizeLine := by rw [List.size_toArray, List.size_toArray]; omega
  have hlong : ¬ (!its.toArray.isEmpty && Builtin.List.listTooLong (its.toArray.size + its2.toArray.size)) = true := by
    rw [notLongL hsz, Bool.and_false]
    exact Bool.false_ne_true
  refine call_meets F.slot_list_extend ⟨_, e, rfl⟩ F.entry_list_extend (F.args_list_extend_2 _ _)
    (extend_wide l its.toArray n b its2.toArray n2 none sl2 hlong (by rw [List.size_toArray]; omega) (by omega)) ⟨e, e2, ?_⟩
  refine ⟨.non, _, I.lset (its' := its ++ its2) hH e (by simp) (r.append r2) ?_, rfl, q⟩
  rw [List.length_append]
  omega
/-- xs + ys, lists that are read -/
def rCatLR (K : PySem.W.Frag) : R2 := fun x y H Q => ∃ l b xs zs, x = .ref l ∧ y = .ref b ∧ SqL K H l xs ∧ SqL K H b zs ∧ xs.length + zs.length ≤ sizeLine ∧ ∀ p, H p = none → Q (.ref p) (upd H p (.lst (xs ++ zs)))
theorem op_catLR : OpR X (binaryOp .Add) (rCatLR X.K) := by
  intro pins s σ H x y v u Q I rx ry h
  obtain ⟨l, b, xs, zs, rfl, rfl, hH, hB, hz, q⟩ := h
  cases rx
  cases ry
  obtain ⟨its, r, ⟨o, n, e, hc, hd, hs⟩, hl⟩ := I.list hH
  obtain ⟨its2, r2, ⟨o2, n2, e2, hc2, hd2, hs2⟩, hl2⟩ := I.list hB
  obtain ⟨c1, dd, da, sl⟩ := o
  obtain ⟨c2, dd2, da2, sl2⟩ := o2
  simp only at hc hd hs hc2 hd2 hs2
  subst hc hd hs hc2 hd2 hs2
  have h1 := r.length
  have h2 := r2.length
  have ea : its.toArray ++ its2.toArray = (its ++ its2).toArray := by simp
  refine concat_meets ⟨_, e, rfl⟩ ⟨_, e2, rfl⟩ noFill_list_add seq_list_add PySem.F.slot_list_add PySem.F.entry_list_add (PySem.F.args_list_add_2 _ _) (list_addW l b its.toArray its2.toArray n n2 none none sl sl2 (by simp only [List.size_toArray]; omega)) ⟨e, e2, ?_⟩
  rw [ea]
  exact ⟨.ref _, _, I.lnew (t' := s.toks) (r.append r2) (by rw [List.length_append]; omega), rfl, q _ I.fresh⟩
def rBB : R2 := fun x y H Q => ∃ i j, x = .bl i ∧ y = .bl j ∧ Q (.int (b2i i + b2i j)) H
theorem op_add_bb : OpR X (binaryOp .Add) rBB := by
  intro pins s σ H x y v u Q I rx ry h
  obtain ⟨i, j, rfl, rfl, q⟩ := h
  cases rx
  cases ry
  exact add_bool ⟨.int _, H, I.tok _, ⟨_, rfl⟩, q⟩
/-- + of any -/
def rAddA (K : PySem.W.Frag) : R2 := fun x y H Q => rI0 (fun i j => .int (i + j)) x y H Q ∨ (∃ i j, x = .str i ∧ y = .str j ∧ i.length + j.length ≤ sizeLine ∧ Q (.str (i ++ j)) H) ∨ rCatX K x y H Q ∨ rCatLR K x y H Q ∨ rBB x y H Q ∨ (∃ i k, x = .int i ∧ y = .bl k ∧ Q (.int (i + b2i k)) H)
theorem op_addA : OpR X (binaryOp .Add) (rAddA X.K) := op_add.or (op_add_str.or (op_catX.or (op_catLR.or (op_add_bb.or op_add_ib))))
def addD : PyData → PyData → M PyData
  | .int i, .int j => pure (.int (i + j))
  | .str x, .str y => .guard (decide (x.length + y.length ≤ sizeLine)) (pure (.str (x ++ y)))
  | .tuple xs, .tuple ys => .guard (decide (xs.length + ys.length ≤ sizeLine)) (pure (.tuple (xs ++ ys)))
  | .list xs, .list ys => .guard (decide (xs.length + ys.length ≤ sizeLine)) (pure (.list (xs ++ ys)))
  | .bool a, .bool b => pure (.int (b2i a + b2i b))
  | .int i, .bool b => pure (.int (i + b2i b))
  | _, _ => .stuck
theorem guard_run {α : Type} {b : Bool} {m : M α} {P : α → Prop} {R : Er → Prop} (h : (M.guard b m).run P R) : b = true ∧ m.run P R := by
  cases b with
  | true => exact ⟨rfl, h⟩
  | false => exact h.elim
theorem DpAll.nil_of {F : Hp} {vs : List V} {ds : List PyData} (h : DpAll K F vs ds) : vs = [] ↔ ds = [] := by
  cases h with
  | nil => simp
  | cons => simp
theorem addA_ok : BinOk K C (rAddA K) addD := by
  intro W F H x y d e Q R g rx ry h
  cases d with
  | int i =>
    cases e with
    | int j =>
      rw [rx.int, ry.int]
      exact .inl ⟨i, j, rfl, rfl, h _ F H (.refl g) (.int _)⟩
    | bool b =>
      rw [rx.int, ry.bool]
      exact .inr (.inr (.inr (.inr (.inr ⟨i, b, rfl, rfl, h _ F H (.refl g) (.int _)⟩))))
    | _ => exact h.elim
  | str a =>
    cases e with
    | str b =>
      rw [rx.str, ry.str]
      obtain ⟨hl, h⟩ := guard_run h
      exact .inr (.inl ⟨a, b, rfl, rfl, of_decide_eq_true hl, h _ F H (.refl g) (.str _)⟩)
    | _ => exact h.elim
  | bool a =>
    cases e with
    | bool b =>
      rw [rx.bool, ry.bool]
      exact .inr (.inr (.inr (.inr (.inl ⟨a, b, rfl, rfl, h _ F H (.refl g) (.int _)⟩))))
    | _ => exact h.elim
  | tuple xs =>
    cases e with
    | tuple ys =>
      obtain ⟨hl, h⟩ := guard_run h
      have hl := of_decide_eq_true hl
      have rx0 := rx
      have ry0 := ry
      obtain ⟨a, vs, rfl, ha, da⟩ := rx.tuple g
      obtain ⟨b, ws, rfl, hb, db⟩ := ry.tuple g
      have l1 := DpAll.length da
      have l2 := DpAll.length db
      refine .inr (.inr (.inl ⟨a, b, vs, ws, rfl, rfl, ha, hb, by omega, fun e => ?_, fun e e2 => ?_, fun e e2 p ob hp hob => ?_⟩))
      · have : xs = [] := (DpAll.nil_of da).mp e
        subst this
        rcases ry0 with q | ⟨_, _, _, _, q, _⟩
        · exact h _ F H (.refl g) q
        · cases q
      · have : ys = [] := (DpAll.nil_of db).mp e2
        subst this
        rcases rx0 with q | ⟨_, _, _, _, q, _⟩
        · exact h _ F H (.refl g) (by rw [List.append_nil]; exact q)
        · cases q
      · obtain ⟨x1, fs⟩ := ext_newF (K := K) (W := W) (o := frT ob (vs ++ ws)) g hp (fun ps e => by cases e)
        exact h _ _ _ x1 (.tup (.inl ⟨_, upd_same, hob⟩) (dpAll_mono fs _ _ (DpAll.append da db)))
    | _ => exact h.elim
  | list xs =>
    cases e with
    | list ys =>
      obtain ⟨hl, h⟩ := guard_run h
      have hl := of_decide_eq_true hl
      obtain ⟨a, vs, rfl, ha, da⟩ := rx.list g
      obtain ⟨b, ws, rfl, hb, db⟩ := ry.list g
      have l1 := DpAll.length da
      have l2 := DpAll.length db
      refine .inr (.inr (.inr (.inl ⟨a, b, vs, ws, rfl, rfl, ha, hb, by omega, fun p hp => ?_⟩)))
      obtain ⟨x1, fs⟩ := ext_newF (K := K) (W := W) (o := .lst (vs ++ ws)) g hp (fun ps e => by cases e)
      exact h _ _ _ x1 (.lst (.inl (.inl upd_same)) (dpAll_mono fs _ _ (DpAll.append da db)))
    | _ => exact h.elim
  | none => exact h.elim
  | dict _ => exact h.elim
/-- a new list from two -/
def catL : PyData → PyData → M (List PyData)
  | .list xs, .list ys => .guard (decide (xs.length + ys.length ≤ sizeLine)) (pure (xs ++ ys))
  | _, _ => .stuck
theorem catL_ok : BinOkL K C (rCatLR K) catL := by
  intro W F H x y d e Q R g rx ry h
  cases d with
  | list xs =>
    cases e with
    | list ys =>
      obtain ⟨hl, h⟩ := guard_run h
      have hl := of_decide_eq_true hl
      obtain ⟨a, vs, rfl, ha, da⟩ := rx.list g
      obtain ⟨b, ws, rfl, hb, db⟩ := ry.list g
      have l1 := DpAll.length da
      have l2 := DpAll.length db
      exact ⟨a, b, vs, ws, rfl, rfl, ha, hb, by omega, fun p hp => h p _ hp (DpAll.append da db)⟩
    | _ => exact h.elim
  | _ => exact h.elim
end
end DL

set_option Elab.async false
set_option linter.all false
set_option maxRecDepth 100000
set_option maxHeartbeats 4000000
/-! the data layer: more operators, subscripts, calls of built-ins, truth -/
namespace DL
open PySem PySem.Spec PyProof.Rows L2

section
variable {X : Cx} {C : DC} {K : PySem.W.Frag}
/-! numbers -/
def subD : PyData → PyData → M PyData
  | .int i, .int j => pure (.int (i - j))
  | _, _ => .stuck
theorem sub_ok : BinOk K C (rI0 fun i j => .int (i - j)) subD := by
  intro W F H x y d e Q R g rx ry h
  cases d with
  | int i =>
    cases e with
    | int j => rw [rx.int, ry.int]; exact ⟨i, j, rfl, rfl, h _ F H (.refl g) (.int _)⟩
    | _ => exact h.elim
  | _ => exact h.elim
def cmulB (i j : Int) : Bool := (decide (-(2 ^ 64) < i) && decide (i < 2 ^ 64)) || (decide (-(2 ^ 64) < j) && decide (j < 2 ^ 64))
def mulD : PyData → PyData → M PyData
  | .int i, .int j => .guard (cmulB i j) (pure (.int (i * j)))
  | _, _ => .stuck
theorem mul_ok : BinOk K C (rI CMul fun i j => .int (i * j)) mulD := by
  intro W F H x y d e Q R g rx ry h
  cases d with
  | int i =>
    cases e with
    | int j =>
      obtain ⟨hc, h⟩ := guard_run h
      rw [rx.int, ry.int]
      refine ⟨i, j, rfl, rfl, ?_, h _ F H (.refl g) (.int _)⟩
      unfold cmulB at hc
      simp only [Bool.or_eq_true, Bool.and_eq_true, decide_eq_true_eq] at hc
      exact hc
    | _ => exact h.elim
  | _ => exact h.elim
def modD : PyData → PyData → M PyData
  | .int i, .int j => .guard (decide (0 < j)) (pure (.int (i % j)))
  | _, _ => .stuck
theorem mod_ok : BinOk K C (rI (fun _ j => 0 < j) fun i j => .int (i % j)) modD := by
  intro W F H x y d e Q R g rx ry h
  cases d with
  | int i =>
    cases e with
    | int j =>
      obtain ⟨hc, h⟩ := guard_run h
      rw [rx.int, ry.int]
      exact ⟨i, j, rfl, rfl, of_decide_eq_true hc, h _ F H (.refl g) (.int _)⟩
    | _ => exact h.elim
  | _ => exact h.elim
def fdivD : PyData → PyData → M PyData
  | .int i, .int j => .guard (decide (0 < j) && decide (j < 1073741824)) (pure (.int (i / j)))
  | _, _ => .stuck
theorem fdiv_ok : BinOk K C (rI CDiv fun i j => .int (i / j)) fdivD := by
  intro W F H x y d e Q R g rx ry h
  cases d with
  | int i =>
    cases e with
    | int j =>
      obtain ⟨hc, h⟩ := guard_run h
      rw [Bool.and_eq_true] at hc
      rw [rx.int, ry.int]
      exact ⟨i, j, rfl, rfl, ⟨of_decide_eq_true hc.1, of_decide_eq_true hc.2⟩, h _ F H (.refl g) (.int _)⟩
    | _ => exact h.elim
  | _ => exact h.elim

/-! equality, order, membership, identity -/
def eqM (d e : PyData) : M Bool := .guard (SeqAt.shaped d && SeqAt.shaped e) (pure (PyData.eqv d e))
def neM (d e : PyData) : M Bool := .guard (SeqAt.shaped d && SeqAt.shaped e) (pure (!PyData.eqv d e))
theorem eq_ok : CmpOk K C (rEqD K) eqM := by
  intro W F H x y d e Q R g rx ry h
  obtain ⟨hc, h⟩ := guard_run h
  rw [Bool.and_eq_true] at hc
  exact ⟨d, e, (rx.dp g).low, (ry.dp g).low, hc.1, hc.2, h⟩
theorem ne_ok : CmpOk K C (rNeD K) neM := by
  intro W F H x y d e Q R g rx ry h
  obtain ⟨hc, h⟩ := guard_run h
  rw [Bool.and_eq_true] at hc
  exact ⟨d, e, (rx.dp g).low, (ry.dp g).low, hc.1, hc.2, h⟩
/-- <, <=, >, >= -/
inductive Od where | lt | le | gt | ge
  deriving DecidableEq
def Od.op : Od → CmpOp
  | .lt => .Lt | .le => .LtE | .gt => .Gt | .ge => .GtE
def ordD : Od → PyData → PyData → Bool
  | .lt, d, e => PySem.W.dataLt d e
  | .le, d, e => !PySem.W.dataLt e d
  | .gt, d, e => PySem.W.dataLt e d
  | .ge, d, e => !PySem.W.dataLt d e
def isNone : PyData → Bool
  | .none => true
  | _ => false
theorem ne_none {d : PyData} (h : isNone d = false) : d ≠ .none := fun e => by rw [e] at h; cases h
def rOrd (K : PySem.W.Frag) (o : Od) : R2 := fun x y H Q => ∃ d e, L2.Dp K H x d ∧ L2.Dp K H y e ∧ PySem.W.alike d e = true ∧ isNone d = false ∧ d.depth ≤ 64 ∧ Q (.bl (ordD o d e)) H
theorem op_ord (o : Od) (hu : X.A.units + 65 < cLine) : OpR X (compareOp o.op) (rOrd X.K o) := by
  intro pins s σ H x y v u Q I rx ry h
  obtain ⟨d, e, hd, he, ha, hn, hdp, q⟩ := h
  obtain ⟨as, r1⟩ := Dp.reads I d x v hd rx
  obtain ⟨bs, r2⟩ := Dp.reads I e y u he ry
  have hu2 : X.A.units + min d.depth e.depth < cLine := by
    have := Nat.min_le_left d.depth e.depth
    omega
  cases o
  · exact PySem.W.lt_data r1 r2 ha (ne_none hn) hu2 ⟨.bl _, H, I, rfl, q⟩
  · exact PySem.W.le_data r1 r2 ha (ne_none hn) hu2 ⟨.bl _, H, I, rfl, q⟩
  · exact PySem.W.gt_data r1 r2 ha (ne_none hn) hu2 ⟨.bl _, H, I, rfl, q⟩
  · exact PySem.W.ge_data r1 r2 ha (ne_none hn) hu2 ⟨.bl _, H, I, rfl, q⟩
def ordM (o : Od) (d e : PyData) : M Bool := .guard (PySem.W.alike d e && !isNone d && decide (d.depth ≤ 64)) (pure (ordD o d e))
theorem ord_ok (o : Od) : CmpOk K C (rOrd K o) (ordM o) := by
  intro W F H x y d e Q R g rx ry h
  obtain ⟨hc, h⟩ := guard_run h
  rw [Bool.and_eq_true, Bool.and_eq_true, Bool.not_eq_true'] at hc
  exact ⟨d, e, (rx.dp g).low, (ry.dp g).low, hc.1.1, hc.1.2, of_decide_eq_true hc.2, h⟩
def itemsOf : PyData → Option (List PyData)
  | .list ys => some ys
  | .tuple ys => some ys
  | _ => none
def rInA (K : PySem.W.Frag) (neg : Bool) : R2 := fun x y H Q => ∃ d e ds, L2.Dp K H x d ∧ L2.Dp K H y e ∧ itemsOf e = some ds ∧ SeqAt.shaped d = true ∧ SeqAt.shaped e = true ∧ Q (.bl (neg != ds.any fun z => PyData.eqv z d)) H
theorem op_inA (hu : X.A.units + 65 < cLine) : OpR X (compareOp .In) (rInA X.K false) := by
  intro pins s σ H x y v u Q I rx ry h
  obtain ⟨d, e, ds, hd, he, hi, sd, se, q⟩ := h
  obtain ⟨as, r1⟩ := Dp.reads I d x v hd rx
  obtain ⟨bs, r2⟩ := Dp.reads I e y u he ry
  have q : Q (.bl (ds.any fun z => PyData.eqv z d)) H := by simpa using q
  cases e with
  | list ys =>
    cases hi
    exact SeqAt.in_list_reads r2 r1 (SeqAt.canLay_of_shaped se) (SeqAt.canLay_of_shaped sd) (room_in_shaped sd hu) ⟨.bl _, H, I, rfl, q⟩
  | tuple ys =>
    cases hi
    exact SeqAt.in_tuple_reads r2 r1 (SeqAt.canLay_of_shaped se) (SeqAt.canLay_of_shaped sd) (room_in_shaped sd hu) ⟨.bl _, H, I, rfl, q⟩
  | _ => cases hi
theorem op_notInA (hu : X.A.units + 65 < cLine) : OpR X (compareOp .NotIn) (rInA X.K true) := by
  intro pins s σ H x y v u Q I rx ry h
  obtain ⟨d, e, ds, hd, he, hi, sd, se, q⟩ := h
  obtain ⟨as, r1⟩ := Dp.reads I d x v hd rx
  obtain ⟨bs, r2⟩ := Dp.reads I e y u he ry
  have q : Q (.bl (!ds.any fun z => PyData.eqv z d)) H := by simpa using q
  cases e with
  | list ys =>
    cases hi
    exact SeqAt.notIn_list_reads r2 r1 (SeqAt.canLay_of_shaped se) (SeqAt.canLay_of_shaped sd) (room_in_shaped sd hu) ⟨.bl _, H, I, rfl, q⟩
  | tuple ys =>
    cases hi
    exact SeqAt.notIn_tuple_reads r2 r1 (SeqAt.canLay_of_shaped se) (SeqAt.canLay_of_shaped sd) (room_in_shaped sd hu) ⟨.bl _, H, I, rfl, q⟩
  | _ => cases hi
/-- a text of one sign in a text -/
def signIn (d e : PyData) (neg : Bool) : M Bool := match d, e with
  | .str ⟨⟨[c]⟩⟩, .str z => pure (neg != decide (c ∈ z.cps.toList))
  | _, _ => .stuck
def rInS (neg : Bool) : R2 := fun x y H Q => ∃ (c : Nat) (z : Str), x = .str ⟨#[c]⟩ ∧ y = .str z ∧ Q (.bl (neg != decide (c ∈ z.cps.toList))) H
theorem op_inS : OpR X (compareOp .In) (rInS false) := by
  intro pins s σ H x y v u Q I rx ry h
  obtain ⟨c, z, e1, e2, q⟩ := h
  exact op_in_sign pins s σ H x y v u Q I rx ry ⟨c, z, e1, e2, by simpa using q⟩
theorem op_notInS : OpR X (compareOp .NotIn) (rInS true) := by
  intro pins s σ H x y v u Q I rx ry h
  obtain ⟨c, z, e1, e2, q⟩ := h
  exact op_notIn_sign pins s σ H x y v u Q I rx ry ⟨c, z, e1, e2, by simpa using q⟩
def rInB (K : PySem.W.Frag) (neg : Bool) : R2 := fun x y H Q => rInA K neg x y H Q ∨ rInS neg x y H Q
theorem op_inB (hu : X.A.units + 65 < cLine) : OpR X (compareOp .In) (rInB X.K false) := (op_inA hu).or op_inS
theorem op_notInB (hu : X.A.units + 65 < cLine) : OpR X (compareOp .NotIn) (rInB X.K true) := (op_notInA hu).or op_notInS
theorem sign_ok {W : Addr → Prop} {F H : Hp} {x y : V} {d e : PyData} {neg : Bool} {Q : VK} {R : Er → Prop} (rx : RdV K W F H x d) (ry : RdV K W F H y e) (h : (signIn d e neg).run (fun b => Q (.bl b) H) R) : rInS neg x y H Q := by
  unfold signIn at h
  split at h
  · rename_i c z
    rw [rx.str, ry.str]
    exact ⟨c, z, rfl, rfl, h⟩
  · exact h.elim
def inM (d e : PyData) : M Bool := match itemsOf e with
  | some ds => .guard (SeqAt.shaped d && SeqAt.shaped e) (pure (ds.any fun z => PyData.eqv z d))
  | none => signIn d e false
def ninM (d e : PyData) : M Bool := match itemsOf e with
  | some ds => .guard (SeqAt.shaped d && SeqAt.shaped e) (pure (!ds.any fun z => PyData.eqv z d))
  | none => signIn d e true
theorem in_ok : CmpOk K C (rInB K false) inM := by
  intro W F H x y d e Q R g rx ry h
  unfold inM at h
  cases hi : itemsOf e with
  | none => rw [hi] at h; exact .inr (sign_ok rx ry h)
  | some ds =>
    rw [hi] at h
    obtain ⟨hc, h⟩ := guard_run h
    rw [Bool.and_eq_true] at hc
    have h : Q (.bl (ds.any fun z => PyData.eqv z d)) H := h
    exact .inl ⟨d, e, ds, (rx.dp g).low, (ry.dp g).low, hi, hc.1, hc.2, by simpa using h⟩
theorem nin_ok : CmpOk K C (rInB K true) ninM := by
  intro W F H x y d e Q R g rx ry h
  unfold ninM at h
  cases hi : itemsOf e with
  | none => rw [hi] at h; exact .inr (sign_ok rx ry h)
  | some ds =>
    rw [hi] at h
    obtain ⟨hc, h⟩ := guard_run h
    rw [Bool.and_eq_true] at hc
    have h : Q (.bl (!ds.any fun z => PyData.eqv z d)) H := h
    exact .inl ⟨d, e, ds, (rx.dp g).low, (ry.dp g).low, hi, hc.1, hc.2, by simpa using h⟩
theorem RdV.non_iff {W : Addr → Prop} {F H : Hp} {v : V} {d : PyData} (h : RdV K W F H v d) : decide (v = .non) = isNone d := by
  rcases h with h | ⟨a, vs, ds, rfl, rfl, _⟩
  · cases h <;> rfl
  · rfl
/-- is None; is True, is False -/
def isM (d e : PyData) : M Bool := match d, e with
  | d, .none => pure (isNone d)
  | .bool a, .bool b => pure (decide (a = b))
  | _, _ => .stuck
def isntM (d e : PyData) : M Bool := match d, e with
  | d, .none => pure (!isNone d)
  | .bool a, .bool b => pure (!decide (a = b))
  | _, _ => .stuck
def rIsA : R2 := fun x y H Q => (y = .non ∧ Q (.bl (decide (x = .non))) H) ∨ (∃ a b, x = .bl a ∧ y = .bl b ∧ Q (.bl (decide (a = b))) H)
def rIsntA : R2 := fun x y H Q => (y = .non ∧ Q (.bl (!decide (x = .non))) H) ∨ (∃ a b, x = .bl a ∧ y = .bl b ∧ Q (.bl (!decide (a = b))) H)
theorem op_isA : OpR X (compareOp .Is) rIsA := op_isN.or op_is_bl
theorem op_isntA : OpR X (compareOp .IsNot) rIsntA := op_notN.or op_isnot_bl
theorem is_ok : CmpOk K C rIsA isM := by
  intro W F H x y d e Q R g rx ry h
  cases e with
  | none =>
    have h : Q (.bl (isNone d)) H := by cases d <;> exact h
    exact .inl ⟨ry.none, by rw [rx.non_iff]; exact h⟩
  | bool b =>
    cases d with
    | bool a => exact .inr ⟨a, b, rx.bool, ry.bool, h⟩
    | _ => exact h.elim
  | _ => cases d <;> exact h.elim
theorem isnt_ok : CmpOk K C rIsntA isntM := by
  intro W F H x y d e Q R g rx ry h
  cases e with
  | none =>
    have h : Q (.bl (!isNone d)) H := by cases d <;> exact h
    exact .inl ⟨ry.none, by rw [rx.non_iff]; exact h⟩
  | bool b =>
    cases d with
    | bool a => exact .inr ⟨a, b, rx.bool, ry.bool, h⟩
    | _ => exact h.elim
  | _ => cases d <;> exact h.elim

/-! subscripts -/
def atD : PyData → PyData → M PyData
  | .tuple xs, .int i => match atI xs i with
    | some d => pure d
    | none => .stuck
  | .list xs, .int i => match atI xs i with
    | some d => pure d
    | none => .stuck
  | .str z, .int i => match atI z.cps.toList i with
    | some c => .guard (decide (z.length ≤ sizeLine)) (pure (.str ⟨#[c]⟩))
    | none => .stuck
  | _, _ => .stuck
theorem atI_dp {F : Hp} {vs : List V} {ds : List PyData} {i : Int} {d : PyData} (h : DpAll K F vs ds) (e : atI ds i = some d) : ∃ v, atI vs i = some v ∧ Dp K F v d := by
  unfold atI at e ⊢
  rw [DpAll.length h]
  cases hj : ixN ds.length i with
  | none => rw [hj] at e; cases e
  | some j =>
    rw [hj] at e
    exact DpAll.get h e
theorem at_ok : BinOk K C (rIx K) atD := by
  intro W F H x y d e Q R g rx ry h
  cases d with
  | tuple xs =>
    cases e with
    | int i =>
      unfold atD at h
      dsimp only at h
      cases hi : atI xs i with
      | none => rw [hi] at h; exact h.elim
      | some d =>
        rw [hi] at h
        obtain ⟨a, vs, rfl, ha, da⟩ := rx.tuple g
        obtain ⟨v, hv, dv⟩ := atI_dp da hi
        rw [ry.int]
        exact .inr (.inl ⟨a, vs, i, v, rfl, rfl, ha, hv, h _ F H (.refl g) dv⟩)
    | _ => exact h.elim
  | list xs =>
    cases e with
    | int i =>
      unfold atD at h
      dsimp only at h
      cases hi : atI xs i with
      | none => rw [hi] at h; exact h.elim
      | some d =>
        rw [hi] at h
        obtain ⟨a, vs, rfl, ha, da⟩ := rx.list g
        obtain ⟨v, hv, dv⟩ := atI_dp da hi
        rw [ry.int]
        exact .inl ⟨a, vs, i, v, rfl, rfl, ha, hv, h _ F H (.refl g) dv⟩
    | _ => exact h.elim
  | str z =>
    cases e with
    | int i =>
      unfold atD at h
      dsimp only at h
      cases hi : atI z.cps.toList i with
      | none => rw [hi] at h; exact h.elim
      | some c =>
        rw [hi] at h
        obtain ⟨hz, h⟩ := guard_run h
        rw [rx.str, ry.int]
        exact .inr (.inr ⟨z, i, c, rfl, rfl, of_decide_eq_true hz, hi, h _ F H (.refl g) (.str _)⟩)
    | _ => exact h.elim
  | _ => exact h.elim
end

section
variable {X : Cx} {C : DC} {E : XK} {ρ : REnv} {e a b c : Expr} {es rest : List Expr} {m ma mb mc : M PyData} {p p2 pos : Pos}
theorem de_at (ha : DR X C E ρ a ma) (hb : DR X C E ρ b mb) (hs : PlainIx b := by exact fun _ _ => rfl) : DE X C E ρ (.Subscript a b pos) (ma >>= fun x => mb >>= fun y => atD x y) := by
  obtain ⟨ta, ha1, ha2⟩ := ha
  obtain ⟨tb, hb1, hb2⟩ := hb
  refine ⟨_, pe_ix ix_seq ha1 hb1 hs, fun σ F H Q k hm => ?_⟩
  exact two (X := X) (C := C) (E := E) k ha2 hb2 hm fun d e v w F2 H2 q x r1 r2 g => at_ok _ F2 H2 v w d e Q _ g r1 r2 ((atD d e).mono (fun z q v F' H' x' => q v F' H' (x.trans x')) (fun _ r => r) q)

/-! slices -/
def cutP (xs : List PyData) (lo hi : Option Int) : List PyData := (xs.drop (HT.sIx xs.length 0 lo)).take (HT.sIx xs.length xs.length hi - HT.sIx xs.length 0 lo)
theorem cut_dp {K : PySem.W.Frag} {F : Hp} {vs : List V} {ds : List PyData} {lo hi : Option Int} (h : DpAll K F vs ds) : DpAll K F (cutV vs lo hi) (cutP ds lo hi) := by
  unfold cutV cutP
  rw [DpAll.length h]
  exact DpAll.take _ (DpAll.drop _ h)
/-- a part of a slice -/
def DO (X : Cx) (C : DC) (E : XK) (ρ : REnv) (e : Option Expr) (m : M (Option Int)) : Prop := ∃ t, PO X e t ∧ ∀ σ F H (Q : Option Int → Hp → Prop), Ok C X.K ρ σ F H →
  m.run (fun d => ∀ F' H', Ext C X.K (drA ρ σ) F H F' H' → Q d H') (RE C X.K E (drA ρ σ) F H) → t σ H Q
theorem do_none : DO X C E ρ none (pure none) := ⟨_, po_none, fun σ F H Q k hm => hm F H (.refl k.gs)⟩
def intM : PyData → M (Option Int)
  | .int i => pure (some i)
  | _ => .stuck
theorem do_some (h : DR X C E ρ e m) : DO X C E ρ (some e) (m >>= intM) := by
  obtain ⟨t, h1, h2⟩ := h
  refine ⟨_, po_some h1, fun σ F H Q k hm => h2 σ F H _ k (m.mono (fun d q v F' H' x r => ?_) (fun _ r => r) hm)⟩
  cases d with
  | int i => exact ⟨i, r.int, q F' H' x⟩
  | _ => exact q.elim
def sliceD (d : PyData) (lo hi : Option Int) : M PyData := match d with
  | .tuple xs => pure (.tuple (cutP xs lo hi))
  | .list xs => pure (.list (cutP xs lo hi))
  | .str z => .guard (decide (z.length ≤ sizeLine)) (pure (.str (cutS z lo hi)))
  | _ => .stuck
def rSlD (K : PySem.W.Frag) : V → Option Int → Option Int → Hp → VK → Prop := fun x lo hi H Q => rSlX K x lo hi H Q ∨ (rSlL K x lo hi H Q ∨ rSlS x lo hi H Q)
theorem cut_whole {ds : List PyData} {lo hi : Option Int} (h : HT.sIx ds.length 0 lo = 0 ∧ HT.sIx ds.length ds.length hi = ds.length) : cutP ds lo hi = ds := by
  unfold cutP
  rw [h.1, h.2, List.drop_zero, Nat.sub_zero, List.take_length]
theorem slice_walk {lo hi : Option Expr} {ml mh : M (Option Int)} {te : TE} {tl th : TO} {σ : L2.St} {F H : Hp} {r : V → Option Int → Option Int → Hp → Prop} (k : Ok C X.K ρ σ F H)
    (ha : ∀ σ F H Q, Ok C X.K ρ σ F H → ma.run (fun d => ∀ v F' H', Ext C X.K (drA ρ σ) F H F' H' → RdV X.K (drA ρ σ) F' H' v d → Q v H') (RE C X.K E (drA ρ σ) F H) → te σ H Q)
    (hl : ∀ σ F H (Q : Option Int → Hp → Prop), Ok C X.K ρ σ F H → ml.run (fun d => ∀ F' H', Ext C X.K (drA ρ σ) F H F' H' → Q d H') (RE C X.K E (drA ρ σ) F H) → tl σ H Q)
    (hh : ∀ σ F H (Q : Option Int → Hp → Prop), Ok C X.K ρ σ F H → mh.run (fun d => ∀ F' H', Ext C X.K (drA ρ σ) F H F' H' → Q d H') (RE C X.K E (drA ρ σ) F H) → th σ H Q)
    {A : PyData → Option Int → Option Int → Prop} (hm : ma.run (fun d => ml.run (fun l => mh.run (fun u => A d l u) (RE C X.K E (drA ρ σ) F H)) (RE C X.K E (drA ρ σ) F H)) (RE C X.K E (drA ρ σ) F H))
    (hR : ∀ d l u v F2 H2, A d l u → Ext C X.K (drA ρ σ) F H F2 H2 → RdV X.K (drA ρ σ) F2 H2 v d → GS C F2 H2 → r v l u H2) : te σ H fun x H1 => tl σ H1 fun l H2 => th σ H2 fun u H3 => r x l u H3 := by
  refine ha σ F H _ k (ma.mono (fun d q v F1 H1 x1 r1 => ?_) (fun _ r => r) hm)
  refine hl σ F1 H1 _ (k.ext x1) (ml.mono (fun l q2 F2 H2 x2 => ?_) (fun er r => RE.later x1 er r) q)
  refine hh σ F2 H2 _ ((k.ext x1).ext x2) (mh.mono (fun u q3 F3 H3 x3 => ?_) (fun er r => RE.later (x1.trans x2) er r) q2)
  exact hR d l u v F3 H3 q3 ((x1.trans x2).trans x3) ((r1.ext x2 x1.gs).ext x3 x2.gs) x3.gs
theorem de_slice {lo hi : Option Expr} {ml mh : M (Option Int)} (ha : DR X C E ρ a ma) (hl : DO X C E ρ lo ml) (hh : DO X C E ρ hi mh) : DE X C E ρ (.Subscript a (.Slice lo hi none p2) pos) (ma >>= fun x => ml >>= fun l => mh >>= fun u => sliceD x l u) := by
  obtain ⟨ta, ha1, ha2⟩ := ha
  obtain ⟨tl, hl1, hl2⟩ := hl
  obtain ⟨th, hh1, hh2⟩ := hh
  refine ⟨_, pe_slice (r := rSlD X.K) (SlR.or sl_tupX (SlR.or sl_list sl_str)) ha1 hl1 hh1, fun σ F H Q k hm => ?_⟩
  refine slice_walk (X := X) (C := C) (E := E) (lo := lo) (hi := hi) (r := fun x l u H3 => rSlD X.K x l u H3 Q) k ha2 hl2 hh2 hm fun d l u v F2 H2 q x r g => ?_
  cases d with
  | tuple xs =>
    have r0 := r
    obtain ⟨a, vs, rfl, ha, da⟩ := r.tuple g
    have q : ∀ v F' H', Ext C X.K (drA ρ σ) F H F' H' → Dp X.K F' v (.tuple (cutP xs l u)) → Q v H' := q
    refine .inl ⟨a, vs, rfl, ha, fun hw => ?_, fun hw p ob hp hob => ?_⟩
    · rw [DpAll.length da] at hw
      rcases r0 with r0 | ⟨_, _, _, _, z, _⟩
      · exact q _ F2 H2 x (by rw [cut_whole hw]; exact r0)
      · cases z
    · obtain ⟨x1, fs⟩ := ext_newF (K := X.K) (W := drA ρ σ) (o := frT ob (cutV vs l u)) g hp (fun ps e => by cases e)
      exact q _ _ _ (x.trans x1) (.tup (.inl ⟨_, upd_same, hob⟩) (dpAll_mono fs _ _ (cut_dp da)))
  | list xs =>
    obtain ⟨a, vs, rfl, ha, da⟩ := r.list g
    have q : ∀ v F' H', Ext C X.K (drA ρ σ) F H F' H' → Dp X.K F' v (.list (cutP xs l u)) → Q v H' := q
    refine .inr (.inl ⟨a, vs, rfl, ha, fun p hp => ?_⟩)
    obtain ⟨x1, fs⟩ := ext_newF (K := X.K) (W := drA ρ σ) (o := .lst (cutV vs l u)) g hp (fun ps e => by cases e)
    exact q _ _ _ (x.trans x1) (.lst (.inl (.inl upd_same)) (dpAll_mono fs _ _ (cut_dp da)))
  | str z =>
    obtain ⟨hz, q⟩ := guard_run (show (M.guard (decide (z.length ≤ sizeLine)) (pure (PyData.str (cutS z l u)))).run _ _ from q)
    rw [r.str]
    exact .inr (.inr ⟨z, rfl, of_decide_eq_true hz, q _ F2 H2 x (.str _)⟩)
  | _ => exact q.elim

/-! truth -/
def truthM : PyData → M Bool
  | .none => pure false
  | .bool b => pure b
  | .int i => pure (i != 0)
  | .list xs => pure (!xs.isEmpty)
  | .tuple xs => pure (!xs.isEmpty)
  | _ => .stuck
theorem isEmpty_dp {K : PySem.W.Frag} {F : Hp} {vs : List V} {ds : List PyData} (h : DpAll K F vs ds) : (!vs.isEmpty) = !ds.isEmpty := by
  cases h <;> rfl
theorem tru_dp {K : PySem.W.Frag} {W : Addr → Prop} {F H : Hp} {v : V} {d : PyData} {P : Bool → Prop} {R : Er → Prop} (g : GS C F H) (r : RdV K W F H v d) (h : (truthM d).run P R) : ∃ k, TruV K v H k ∧ P k := by
  cases d with
  | none => rw [r.none]; exact ⟨false, rfl, h⟩
  | bool b => rw [r.bool]; exact ⟨b, rfl, h⟩
  | int i => rw [r.int]; exact ⟨i != 0, rfl, h⟩
  | list xs =>
    obtain ⟨a, vs, rfl, ha, da⟩ := r.list g
    exact ⟨_, .inl ⟨vs, ha, rfl⟩, by rw [isEmpty_dp da]; exact h⟩
  | tuple xs =>
    obtain ⟨a, vs, rfl, ha, da⟩ := r.tuple g
    exact ⟨_, .inr (.inl ⟨vs, ha, rfl⟩), by rw [isEmpty_dp da]; exact h⟩
  | str x => exact h.elim
  | dict x => exact h.elim
theorem dt_truth (ha : DR X C E ρ a ma) (he : ∀ whole, isTrue a X.env whole = (do let v ← whole; standAt a.pos; holding [v] (truthy v)) := by intro _; rfl) : DT X C E ρ a (ma >>= truthM) := by
  obtain ⟨ta, ha1, ha2⟩ := ha
  refine ⟨_, pt_truth ha1 he, fun σ F H Q k hm => ha2 σ F H _ k (ma.mono (fun d q v F' H' x r => ?_) (fun _ r => r) hm)⟩
  obtain ⟨kk, h1, h2⟩ := tru_dp (P := fun b => ∀ F' H', Ext C X.K (drA ρ σ) F H F' H' → Q b H') x.gs r q
  exact ⟨kk, h1, h2 F' H' x⟩
/-- a truth value as a test -/
theorem dt_of {mb : M Bool} (ha : DB X C E ρ a mb) (he : ∀ whole, isTrue a X.env whole = (do let v ← whole; standAt a.pos; holding [v] (truthy v)) := by intro _; rfl) : DT X C E ρ a mb := by
  obtain ⟨ta, ha1, ha2⟩ := ha
  exact ⟨_, pt_val ha1 he, fun σ F H Q k hm => ha2 σ F H _ k (mb.mono (fun d q F' H' x => ⟨d, rfl, q F' H' x⟩) (fun _ r => r) hm)⟩
theorem dt_not {mb : M Bool} (ha : DT X C E ρ a mb) : DT X C E ρ (.UnaryOp .Not a pos) (mb >>= fun c => pure (!c)) := by
  obtain ⟨ta, ha1, ha2⟩ := ha
  exact ⟨_, pt_not ha1, fun σ F H Q k hm => ha2 σ F H _ k hm⟩
/-- and, or as tests -/
def DW (X : Cx) (C : DC) (E : XK) (ρ : REnv) (e : Expr) (m : M Bool) : Prop := ∃ t, PW X e t ∧ ∀ σ F H Q, Ok C X.K ρ σ F H →
  m.run (fun b => ∀ F' H', Ext C X.K (drA ρ σ) F H F' H' → Q b H') (RE C X.K E (drA ρ σ) F H) → t σ H Q
theorem DW.dt {mb : M Bool} (h : DW X C E ρ e mb) : DT X C E ρ e mb := by
  obtain ⟨t, h1, h2⟩ := h
  exact ⟨t, h1.pt, h2⟩
theorem dw_and1 {mb : M Bool} (ha : DT X C E ρ a mb) : DW X C E ρ (.BoolOp .And [a] pos) mb := by
  obtain ⟨t, h1, h2⟩ := ha
  exact ⟨t, pw_and1 h1, h2⟩
theorem dw_or1 {mb : M Bool} (ha : DT X C E ρ a mb) : DW X C E ρ (.BoolOp .Or [a] pos) mb := by
  obtain ⟨t, h1, h2⟩ := ha
  exact ⟨t, pw_or1 h1, h2⟩
theorem dw_and {ma mb : M Bool} (ha : DT X C E ρ a ma) (hb : DW X C E ρ (.BoolOp .And (b :: rest) pos) mb) : DW X C E ρ (.BoolOp .And (a :: b :: rest) pos) (ma >>= fun k => if k = true then mb else pure false) := by
  obtain ⟨ta, ha1, ha2⟩ := ha
  obtain ⟨tb, hb1, hb2⟩ := hb
  refine ⟨_, pw_and ha1 hb1, fun σ F H Q k hm => ha2 σ F H _ k (ma.mono (fun c q F' H' x => ?_) (fun _ r => r) hm)⟩
  cases c with
  | true => exact hb2 σ F' H' Q (k.ext x) (mb.mono (fun c q F2 H2 x2 => q F2 H2 (x.trans x2)) (fun er r => RE.later x er r) q)
  | false => exact q F' H' x
theorem dw_or {ma mb : M Bool} (ha : DT X C E ρ a ma) (hb : DW X C E ρ (.BoolOp .Or (b :: rest) pos) mb) : DW X C E ρ (.BoolOp .Or (a :: b :: rest) pos) (ma >>= fun k => if k = true then pure true else mb) := by
  obtain ⟨ta, ha1, ha2⟩ := ha
  obtain ⟨tb, hb1, hb2⟩ := hb
  refine ⟨_, pw_or ha1 hb1, fun σ F H Q k hm => ha2 σ F H _ k (ma.mono (fun c q F' H' x => ?_) (fun _ r => r) hm)⟩
  cases c with
  | true => exact q F' H' x
  | false => exact hb2 σ F' H' Q (k.ext x) (mb.mono (fun c q F2 H2 x2 => q F2 H2 (x.trans x2)) (fun er r => RE.later x er r) q)
/-- .. as values: truth values -/
theorem db_one {op : BoolOp} {mb : M Bool} (ha : DB X C E ρ a mb) : DB X C E ρ (.BoolOp op [a] pos) mb := by
  obtain ⟨t, h1, h2⟩ := ha
  exact ⟨t, pe_one h1, h2⟩
theorem db_and {ma mb : M Bool} (ha : DB X C E ρ a ma) (hb : DB X C E ρ (.BoolOp .And (b :: rest) pos) mb) : DB X C E ρ (.BoolOp .And (a :: b :: rest) pos) (ma >>= fun k => if k = true then mb else pure false) := by
  obtain ⟨ta, ha1, ha2⟩ := ha
  obtain ⟨tb, hb1, hb2⟩ := hb
  refine ⟨_, pe_and ha1 hb1, fun σ F H Q k hm => ha2 σ F H _ k (ma.mono (fun c q F' H' x => ⟨c, rfl, ?_⟩) (fun _ r => r) hm)⟩
  cases c with
  | true => exact hb2 σ F' H' Q (k.ext x) (mb.mono (fun c q F2 H2 x2 => q F2 H2 (x.trans x2)) (fun er r => RE.later x er r) q)
  | false => exact q F' H' x
theorem db_or {ma mb : M Bool} (ha : DB X C E ρ a ma) (hb : DB X C E ρ (.BoolOp .Or (b :: rest) pos) mb) : DB X C E ρ (.BoolOp .Or (a :: b :: rest) pos) (ma >>= fun k => if k = true then pure true else mb) := by
  obtain ⟨ta, ha1, ha2⟩ := ha
  obtain ⟨tb, hb1, hb2⟩ := hb
  refine ⟨_, pe_or ha1 hb1, fun σ F H Q k hm => ha2 σ F H _ k (ma.mono (fun c q F' H' x => ⟨c, rfl, ?_⟩) (fun _ r => r) hm)⟩
  cases c with
  | true => exact q F' H' x
  | false => exact hb2 σ F' H' Q (k.ext x) (mb.mono (fun c q F2 H2 x2 => q F2 H2 (x.trans x2)) (fun er r => RE.later x er r) q)
theorem db_not {mb : M Bool} (ha : DB X C E ρ a mb) : DB X C E ρ (.UnaryOp .Not a pos) (mb >>= fun c => pure (!c)) := by
  obtain ⟨ta, ha1, ha2⟩ := ha
  exact ⟨_, pe_not ha1, fun σ F H Q k hm => ha2 σ F H _ k (mb.mono (fun c q F' H' x => ⟨c, rfl, q F' H' x⟩) (fun _ r => r) hm)⟩
/-- a datum that is a truth value -/
def boolM : PyData → M Bool
  | .bool b => pure b
  | _ => .stuck
theorem db_of (ha : DR X C E ρ a ma) : DB X C E ρ a (ma >>= boolM) := by
  obtain ⟨ta, ha1, ha2⟩ := ha
  refine ⟨_, ha1, fun σ F H Q k hm => ha2 σ F H _ k (ma.mono (fun d q v F' H' x r => ?_) (fun _ r => r) hm)⟩
  cases d with
  | bool b => rw [r.bool]; exact q F' H' x
  | _ => exact q.elim
/-- a if t else b -/
theorem de_if {mt : M Bool} (ht : DT X C E ρ c mt) (ha : DE X C E ρ a ma) (hb : DE X C E ρ b mb) : DE X C E ρ (.IfExp c a b pos) (mt >>= fun k => if k = true then ma else mb) := by
  obtain ⟨tc, hc1, hc2⟩ := ht
  obtain ⟨ta, ha1, ha2⟩ := ha
  obtain ⟨tb, hb1, hb2⟩ := hb
  refine ⟨_, pe_ifExp hc1 ha1 hb1, fun σ F H Q k hm => hc2 σ F H _ k (mt.mono (fun z q F' H' x => ?_) (fun _ r => r) hm)⟩
  cases z with
  | true => exact ha2 σ F' H' Q (k.ext x) (ma.mono (fun d q v F2 H2 x2 => q v F2 H2 (x.trans x2)) (fun er r => RE.later x er r) q)
  | false => exact hb2 σ F' H' Q (k.ext x) (mb.mono (fun d q v F2 H2 x2 => q v F2 H2 (x.trans x2)) (fun er r => RE.later x er r) q)
/-- -a -/
def negD : PyData → M PyData
  | .int i => pure (.int (-i))
  | _ => .stuck
theorem de_neg (ha : DR X C E ρ a ma) : DE X C E ρ (.UnaryOp .USub a pos) (ma >>= negD) := by
  obtain ⟨ta, ha1, ha2⟩ := ha
  refine ⟨_, pe_un un_neg ha1, fun σ F H Q k hm => ha2 σ F H _ k (ma.mono (fun d q v F' H' x r => ?_) (fun _ r => r) hm)⟩
  cases d with
  | int i => exact ⟨i, r.int, q _ F' H' x (.int _)⟩
  | _ => exact q.elim

/-! displays -/
theorem da_nil : DA X C E ρ [] (pure []) := ⟨_, pa_nil, fun σ F H Q k hm => hm _ F H (.refl k.gs) .nil⟩
theorem da_cons {ms : M (List PyData)} (ha : DE X C E ρ a ma) (hr : DA X C E ρ es ms) (hs : starEach (a :: es) X.env = (false, eval a X.env) :: starEach es X.env := by rfl) : DA X C E ρ (a :: es) (ma >>= fun x => ms >>= fun xs => pure (x :: xs)) := by
  obtain ⟨ta, ha1, ha2⟩ := ha
  obtain ⟨tr, hr1, hr2⟩ := hr
  refine ⟨_, pa_cons ha1 hr1 hs, fun σ F H Q k hm => ha2 σ F H _ k (ma.mono (fun d q v F' H' x r => ?_) (fun _ r => r) hm)⟩
  refine hr2 σ F' H' _ (k.ext x) (ms.mono (fun ds q vs F2 H2 x2 r2 => ?_) (fun er r => RE.later x er r) q)
  exact q _ F2 H2 (x.trans x2) (.cons (dp_mono (x2.fsub x.gs) _ _ r) r2)
theorem de_tup {n : Nat} {ms : M (List PyData)} (h : DA X C E ρ es ms) : DE X C E ρ (.Tuple es n pos) (ms >>= fun xs => .guard (decide (xs.length ≤ sizeLine)) (pure (.tuple xs))) := by
  obtain ⟨t, h1, h2⟩ := h
  refine ⟨_, pe_tupX h1, fun σ F H Q k hm => h2 σ F H _ k (ms.mono (fun ds q vs F' H' x r => ?_) (fun _ r => r) hm)⟩
  obtain ⟨hl, q⟩ := guard_run q
  refine ⟨by rw [DpAll.length r]; exact of_decide_eq_true hl, fun p ob hp hob => ?_⟩
  obtain ⟨x1, fs⟩ := ext_newF (K := X.K) (W := drA ρ σ) (o := frT ob vs) x.gs hp (fun ps e => by cases e)
  exact q _ _ _ (x.trans x1) (.tup (.inl ⟨_, upd_same, hob⟩) (dpAll_mono fs _ _ r))
theorem dl_lst {ms : M (List PyData)} (h : DA X C E ρ es ms) : DL X C E ρ (.List es pos) (ms >>= fun xs => .guard (decide (xs.length ≤ sizeLine)) (pure xs)) := by
  obtain ⟨t, h1, h2⟩ := h
  refine ⟨_, pe_lst h1, fun σ F H Q k hm => h2 σ F H _ k (ms.mono (fun ds q vs F' H' x r => ?_) (fun _ r => r) hm)⟩
  obtain ⟨hl, q⟩ := guard_run q
  refine ⟨by rw [DpAll.length r]; exact of_decide_eq_true hl, fun p hp => ?_⟩
  have nH : H p = none := by
    cases z : H p with
    | none => rfl
    | some u => exact absurd hp (x.dom p (by rw [z]; simp))
  refine q p vs F' _ (x.trans (ext_new x.gs hp)) nH ?_ upd_same r
  cases z : F' p with
  | none => rfl
  | some u => rw [x.gs.sub _ _ z] at hp; cases hp
end
end DL

set_option Elab.async false
set_option linter.all false
set_option maxRecDepth 100000
set_option maxHeartbeats 4000000
/-! the data layer: calls of built-ins -/
namespace DL
open PySem PySem.Spec PyProof.Rows L2

/-- a call by values -/
def CallOk (K : PySem.W.Frag) (C : DC) (r : List V → Hp → VK → Prop) (f : List PyData → M PyData) : Prop :=
  ∀ W F H vs ds (Q : VK) (R : Er → Prop), GS C F H → Paired (RdV K W F H) vs ds → (f ds).run (fun z => ∀ v F' H', Ext C K W F H F' H' → Dp K F' v z → Q v H') R → r vs H Q
def CallOkL (K : PySem.W.Frag) (C : DC) (r : List V → Hp → VK → Prop) (f : List PyData → M (List PyData)) : Prop :=
  ∀ W F H vs ds (Q : VK) (R : Er → Prop), GS C F H → Paired (RdV K W F H) vs ds → (f ds).run (fun es => ∀ a ws, H a = none → DpAll K F ws es → Q (.ref a) (upd H a (.lst ws))) R → r vs H Q
section
variable {X : Cx} {C : DC} {E : XK} {ρ : REnv} {e a b c : Expr} {es : List Expr} {m ma mb mc : M PyData} {ms : M (List PyData)} {p pos : Pos} {x : Str}
theorem dar_nil : DAR X C E ρ [] (pure []) := ⟨_, pa_nil, fun σ F H Q k hm => hm _ F H (.refl k.gs) .nil⟩
theorem paired_ext {K : PySem.W.Frag} {W : Addr → Prop} {F H F1 H1 : Hp} (x : Ext C K W F H F1 H1) (g : GS C F H) : ∀ {vs : List V} {ds : List PyData}, Paired (RdV K W F H) vs ds → Paired (RdV K W F1 H1) vs ds
  | _, _, .nil => .nil
  | _, _, .cons h r => .cons (h.ext x g) (paired_ext x g r)
theorem dar_cons (ha : DR X C E ρ a ma) (hr : DAR X C E ρ es ms) (hs : starEach (a :: es) X.env = (false, eval a X.env) :: starEach es X.env := by rfl) : DAR X C E ρ (a :: es) (ma >>= fun x => ms >>= fun xs => pure (x :: xs)) := by
  obtain ⟨ta, ha1, ha2⟩ := ha
  obtain ⟨tr, hr1, hr2⟩ := hr
  refine ⟨_, pa_cons ha1 hr1 hs, fun σ F H Q k hm => ha2 σ F H _ k (ma.mono (fun d q v F' H' x r => ?_) (fun _ r => r) hm)⟩
  refine hr2 σ F' H' _ (k.ext x) (ms.mono (fun ds q vs F2 H2 x2 r2 => ?_) (fun er r => RE.later x er r) q)
  exact q _ F2 H2 (x.trans x2) (.cons (r.ext x2 x.gs) r2)
theorem de_callB {id : String} {r : List V → Hp → VK → Prop} {f : List PyData → M PyData} (hc : CallR X (.builtin id) r) (hf : CallOk X.K C r f) (hg : Gl X x) (hm : X.mg x = none) (hv : bootBuiltins x = some (.builtin id)) (ha : DAR X C E ρ (e :: es) ms)
    (hn : x ≠ "__name__" := by decide) (hdb : (x == ("__debug__" : Str)) = false := by decide) (he : starEach (e :: es) X.env = (false, eval e X.env) :: starEach es X.env := by rfl) (hpl : (backTo pos (starEach es X.env)).any (·.1) = false := by rfl) :
    DE X C E ρ (.Call (.Name x p) (e :: es) [] pos) (ms >>= f) := by
  obtain ⟨t, h1, h2⟩ := ha
  refine ⟨_, pe_callB hc hg hm hv h1 hn hdb he hpl, fun σ F H Q k hm => h2 σ F H _ k (ms.mono (fun ds q vs F' H' x r => ?_) (fun _ r => r) hm)⟩
  exact hf _ F' H' vs ds Q _ x.gs r ((f ds).mono (fun z q v F2 H2 x2 => q v F2 H2 (x.trans x2)) (fun _ r => r) q)
theorem de_callTy {T : String} {r : List V → Hp → VK → Prop} {f : List PyData → M PyData} (hc : CallR X (.type T) r) (hf : CallOk X.K C r f) (hg : Gl X x) (hm : X.mg x = none) (hv : bootBuiltins x = some (.type T)) (ha : DAR X C E ρ (e :: es) ms)
    (hn : x ≠ "__name__" := by decide) (hdb : (x == ("__debug__" : Str)) = false := by decide) (he : starEach (e :: es) X.env = (false, eval e X.env) :: starEach es X.env := by rfl) (hpl : (backTo pos (starEach es X.env)).any (·.1) = false := by rfl) :
    DE X C E ρ (.Call (.Name x p) (e :: es) [] pos) (ms >>= f) := by
  obtain ⟨t, h1, h2⟩ := ha
  refine ⟨_, pe_callTy hc hg hm hv h1 hn hdb he hpl, fun σ F H Q k hm => h2 σ F H _ k (ms.mono (fun ds q vs F' H' x r => ?_) (fun _ r => r) hm)⟩
  exact hf _ F' H' vs ds Q _ x.gs r ((f ds).mono (fun z q v F2 H2 x2 => q v F2 H2 (x.trans x2)) (fun _ r => r) q)
theorem none_back {K : PySem.W.Frag} {W : Addr → Prop} {F H F1 H1 : Hp} (x : Ext C K W F H F1 H1) {a : Addr} (h : H1 a = none) : H a = none ∧ F1 a = none := by
  refine ⟨?_, ?_⟩
  · cases z : H a with
    | none => rfl
    | some u => exact absurd h (x.dom a (by rw [z]; simp))
  · cases z : F1 a with
    | none => rfl
    | some u => rw [x.gs.sub _ _ z] at h; cases h
theorem dl_callB {id : String} {r : List V → Hp → VK → Prop} {f : List PyData → M (List PyData)} (hc : CallR X (.builtin id) r) (hf : CallOkL X.K C r f) (hg : Gl X x) (hm : X.mg x = none) (hv : bootBuiltins x = some (.builtin id)) (ha : DAR X C E ρ (e :: es) ms)
    (hn : x ≠ "__name__" := by decide) (hdb : (x == ("__debug__" : Str)) = false := by decide) (he : starEach (e :: es) X.env = (false, eval e X.env) :: starEach es X.env := by rfl) (hpl : (backTo pos (starEach es X.env)).any (·.1) = false := by rfl) :
    DL X C E ρ (.Call (.Name x p) (e :: es) [] pos) (ms >>= f) := by
  obtain ⟨t, h1, h2⟩ := ha
  refine ⟨_, pe_callB hc hg hm hv h1 hn hdb he hpl, fun σ F H Q k hm => h2 σ F H _ k (ms.mono (fun ds q vs F' H' x r => ?_) (fun _ r => r) hm)⟩
  refine hf _ F' H' vs ds Q _ x.gs r ((f ds).mono (fun es q a ws hn hd => ?_) (fun _ r => r) q)
  exact q a ws F' _ (x.trans (ext_new x.gs hn)) (none_back x hn).1 (none_back x hn).2 upd_same hd
theorem dl_callTy {T : String} {r : List V → Hp → VK → Prop} {f : List PyData → M (List PyData)} (hc : CallR X (.type T) r) (hf : CallOkL X.K C r f) (hg : Gl X x) (hm : X.mg x = none) (hv : bootBuiltins x = some (.type T)) (ha : DAR X C E ρ (e :: es) ms)
    (hn : x ≠ "__name__" := by decide) (hdb : (x == ("__debug__" : Str)) = false := by decide) (he : starEach (e :: es) X.env = (false, eval e X.env) :: starEach es X.env := by rfl) (hpl : (backTo pos (starEach es X.env)).any (·.1) = false := by rfl) :
    DL X C E ρ (.Call (.Name x p) (e :: es) [] pos) (ms >>= f) := by
  obtain ⟨t, h1, h2⟩ := ha
  refine ⟨_, pe_callTy hc hg hm hv h1 hn hdb he hpl, fun σ F H Q k hm => h2 σ F H _ k (ms.mono (fun ds q vs F' H' x r => ?_) (fun _ r => r) hm)⟩
  refine hf _ F' H' vs ds Q _ x.gs r ((f ds).mono (fun es q a ws hn hd => ?_) (fun _ r => r) q)
  exact q a ws F' _ (x.trans (ext_new x.gs hn)) (none_back x hn).1 (none_back x hn).2 upd_same hd
end

section
variable {X : Cx} {C : DC} {K : PySem.W.Frag}
theorem paired1 {R : V → PyData → Prop} {vs : List V} {d : PyData} (h : Paired R vs [d]) : ∃ v, vs = [v] ∧ R v d := by
  cases h with
  | cons a r => cases r with | nil => exact ⟨_, rfl, a⟩
theorem paired2 {R : V → PyData → Prop} {vs : List V} {d e : PyData} (h : Paired R vs [d, e]) : ∃ v w, vs = [v, w] ∧ R v d ∧ R w e := by
  cases h with
  | cons a r =>
    obtain ⟨w, rfl, h⟩ := paired1 r
    exact ⟨_, _, rfl, a, h⟩
def lenD : List PyData → M PyData
  | [.list xs] => pure (.int xs.length)
  | [.tuple xs] => pure (.int xs.length)
  | [.str z] => .guard (decide (z.length ≤ sizeLine)) (pure (.int z.length))
  | _ => .stuck
theorem len_ok : CallOk K C (fun xs H Q => ∃ x n, xs = [x] ∧ LenV K x H n ∧ Q (.int n) H) lenD := by
  intro W F H vs ds Q R g rv h
  match ds, h with
  | [.list xs], h =>
    obtain ⟨v, rfl, r⟩ := paired1 rv
    obtain ⟨a, ws, rfl, ha, da⟩ := r.list g
    refine ⟨_, ws.length, rfl, .inl ⟨ws, ha, rfl⟩, ?_⟩
    rw [DpAll.length da]
    exact h _ F H (.refl g) (.int _)
  | [.tuple xs], h =>
    obtain ⟨v, rfl, r⟩ := paired1 rv
    obtain ⟨a, ws, rfl, ha, da⟩ := r.tuple g
    refine ⟨_, ws.length, rfl, .inr ⟨ws, ha, rfl⟩, ?_⟩
    rw [DpAll.length da]
    exact h _ F H (.refl g) (.int _)
  | [.str z], h =>
    obtain ⟨v, rfl, r⟩ := paired1 rv
    obtain ⟨hl, h⟩ := guard_run h
    rw [r.str]
    exact ⟨_, z.length, rfl, ⟨of_decide_eq_true hl, rfl⟩, h _ F H (.refl g) (.int _)⟩
def absD : List PyData → M PyData
  | [.int i] => pure (.int (if i < 0 then -i else i))
  | _ => .stuck
theorem abs_ok : CallOk K C (fun xs H Q => ∃ i, xs = [.int i] ∧ Q (.int (if i < 0 then -i else i)) H) absD := by
  intro W F H vs ds Q R g rv h
  match ds, h with
  | [.int i], h =>
    obtain ⟨v, rfl, r⟩ := paired1 rv
    rw [r.int]
    exact ⟨i, rfl, h _ F H (.refl g) (.int _)⟩
def max2D : List PyData → M PyData
  | [.int i, .int j] => pure (.int (if j > i then j else i))
  | _ => .stuck
def min2D : List PyData → M PyData
  | [.int i, .int j] => pure (.int (if j < i then j else i))
  | _ => .stuck
theorem max2_ok : CallOk K C (fun xs H Q => ∃ i j, xs = [.int i, .int j] ∧ Q (.int (if j > i then j else i)) H) max2D := by
  intro W F H vs ds Q R g rv h
  match ds, h with
  | [.int i, .int j], h =>
    obtain ⟨v, w, rfl, r, r2⟩ := paired2 rv
    rw [r.int, r2.int]
    exact ⟨i, j, rfl, h _ F H (.refl g) (.int _)⟩
theorem min2_ok : CallOk K C (fun xs H Q => ∃ i j, xs = [.int i, .int j] ∧ Q (.int (if j < i then j else i)) H) min2D := by
  intro W F H vs ds Q R g rv h
  match ds, h with
  | [.int i, .int j], h =>
    obtain ⟨v, w, rfl, r, r2⟩ := paired2 rv
    rw [r.int, r2.int]
    exact ⟨i, j, rfl, h _ F H (.refl g) (.int _)⟩
def intC : List PyData → M PyData
  | [.int i] => pure (.int i)
  | [.bool k] => pure (.int (if k then 1 else 0))
  | [.str a] => match PySem.intText? a with
    | some n => .guard (decide (a.length ≤ 640)) (pure (.int n))
    | none => .stuck
  | _ => .stuck
theorem call_int3 {X : Cx} : CallR X (.type "int") (fun xs H Q => ((∃ i, xs = [.int i] ∧ Q (.int i) H) ∨ ∃ k, xs = [.bl k] ∧ Q (.int (if k then 1 else 0)) H) ∨ ∃ a n, xs = [.str a] ∧ PySem.intText? a = some n ∧ a.length ≤ 640 ∧ Q (.int n) H) := call_int1.or call_int_str
theorem int_ok : CallOk K C (fun xs H Q => ((∃ i, xs = [.int i] ∧ Q (.int i) H) ∨ ∃ k, xs = [.bl k] ∧ Q (.int (if k then 1 else 0)) H) ∨ ∃ a n, xs = [.str a] ∧ PySem.intText? a = some n ∧ a.length ≤ 640 ∧ Q (.int n) H) intC := by
  intro W F H vs ds Q R g rv h
  match ds, h with
  | [.int i], h =>
    obtain ⟨v, rfl, r⟩ := paired1 rv
    rw [r.int]
    exact .inl (.inl ⟨i, rfl, h _ F H (.refl g) (.int _)⟩)
  | [.bool i], h =>
    obtain ⟨v, rfl, r⟩ := paired1 rv
    rw [r.bool]
    exact .inl (.inr ⟨i, rfl, h _ F H (.refl g) (.int _)⟩)
  | [.str a], h =>
    obtain ⟨v, rfl, r⟩ := paired1 rv
    rw [r.str]
    unfold intC at h
    dsimp only at h
    cases hi : PySem.intText? a with
    | none => rw [hi] at h; exact h.elim
    | some n =>
      rw [hi] at h
      obtain ⟨hl, h⟩ := guard_run h
      exact .inr ⟨a, n, rfl, hi, of_decide_eq_true hl, h _ F H (.refl g) (.int _)⟩
def tupleC : List PyData → M PyData
  | [.list xs] => pure (.tuple xs)
  | [.tuple xs] => pure (.tuple xs)
  | _ => .stuck
theorem tuple_ok : CallOk K C (fun xs H Q => ∃ p ys, xs = [.ref p] ∧ ((SqL K H p ys ∧ ∀ l o, H l = none → o.dict = none → Q (.ref l) (upd H l (frT o ys))) ∨ (SqT K H p ys ∧ Q (.ref p) H))) tupleC := by
  intro W F H vs ds Q R g rv h
  match ds, h with
  | [.list xs], h =>
    obtain ⟨v, rfl, r⟩ := paired1 rv
    obtain ⟨a, ws, rfl, ha, da⟩ := r.list g
    refine ⟨a, ws, rfl, .inl ⟨ha, fun l ob hl hob => ?_⟩⟩
    obtain ⟨x1, fs⟩ := ext_newF (K := K) (W := W) (o := frT ob ws) g hl (fun ps e => by cases e)
    exact h _ _ _ x1 (.tup (.inl ⟨_, upd_same, hob⟩) (dpAll_mono fs _ _ da))
  | [.tuple xs], h =>
    obtain ⟨v, rfl, r⟩ := paired1 rv
    have r0 := r
    obtain ⟨a, ws, rfl, ha, da⟩ := r.tuple g
    refine ⟨a, ws, rfl, .inr ⟨ha, ?_⟩⟩
    rcases r0 with r0 | ⟨_, _, _, _, z, _⟩
    · exact h _ F H (.refl g) r0
    · cases z
def listC : List PyData → M (List PyData)
  | [.list xs] => pure xs
  | [.tuple xs] => pure xs
  | _ => .stuck
theorem list_ok : CallOkL K C (fun xs H Q => ∃ p ys, xs = [.ref p] ∧ (SqL K H p ys ∨ SqT K H p ys) ∧ ∀ l, H l = none → Q (.ref l) (upd H l (.lst ys))) listC := by
  intro W F H vs ds Q R g rv h
  match ds, h with
  | [.list xs], h =>
    obtain ⟨v, rfl, r⟩ := paired1 rv
    obtain ⟨a, ws, rfl, ha, da⟩ := r.list g
    exact ⟨a, ws, rfl, .inl ha, fun l hl => h l _ hl da⟩
  | [.tuple xs], h =>
    obtain ⟨v, rfl, r⟩ := paired1 rv
    obtain ⟨a, ws, rfl, ha, da⟩ := r.tuple g
    exact ⟨a, ws, rfl, .inr ha, fun l hl => h l _ hl da⟩
/-- a list of ints -/
def intsOf : List PyData → Option (List Int)
  | [] => some []
  | .int i :: r => (intsOf r).map (i :: ·)
  | _ :: _ => none
theorem intsOf_some : ∀ {ds : List PyData} {ns : List Int}, intsOf ds = some ns → ds = ns.map PyData.int
  | [], ns, h => by cases h; rfl
  | .int i :: r, ns, h => by
    rw [intsOf] at h
    cases hr : intsOf r with
    | none => rw [hr] at h; cases h
    | some ms =>
      rw [hr] at h
      cases h
      rw [intsOf_some hr]
      rfl
theorem intsOf_map : ∀ (ns : List Int), intsOf (ns.map PyData.int) = some ns
  | [] => rfl
  | i :: ns => by
    show (intsOf (ns.map PyData.int)).map (i :: ·) = _
    rw [intsOf_map ns]
    rfl
theorem dpAll_ints {F : Hp} : ∀ {vs : List V} {ns : List Int}, DpAll K F vs (ns.map PyData.int) → vs = ns.map V.int
  | _, [], .nil => rfl
  | _, i :: ns, .cons h r => by
    cases h
    rw [dpAll_ints r]
    rfl
theorem ints_dpAll {F : Hp} : ∀ (ns : List Int), DpAll K F (ns.map V.int) (ns.map PyData.int)
  | [] => .nil
  | i :: ns => .cons (.int i) (ints_dpAll ns)
def sumD : List PyData → M PyData
  | [.list xs] => match intsOf xs with
    | some ns => pure (.int ns.sum)
    | none => .stuck
  | _ => .stuck
theorem sum_ok : CallOk K C (rSum K) sumD := by
  intro W F H vs ds Q R g rv h
  match ds, h with
  | [.list xs], h =>
    obtain ⟨v, rfl, r⟩ := paired1 rv
    obtain ⟨a, ws, rfl, ha, da⟩ := r.list g
    dsimp only [sumD] at h
    cases hn : intsOf xs with
    | none => rw [hn] at h; exact h.elim
    | some ns =>
      rw [hn] at h
      rw [intsOf_some hn] at da
      rw [dpAll_ints da] at ha
      exact ⟨a, ns, rfl, ha, h _ F H (.refl g) (.int _)⟩
end
end DL

set_option Elab.async false
set_option linter.all false
set_option maxRecDepth 100000
set_option maxHeartbeats 4000000
/-! the data layer: sorted, min, max of data; sorted(set(..)) of ints -/
namespace DL
open PySem PySem.Spec PyProof.Rows L2 PySem.W

def neTup : PyData → Bool
  | .tuple (_ :: _) => true
  | _ => false
def notTup : PyData → Bool
  | .none => false
  | .tuple _ => false
  | _ => true
/-- such data can be sorted -/
def sortable (ds : List PyData) : Bool := (ds.all fun d => ds.all fun e => alike d e) && (ds.all neTup || (ds.all notTup || (decide (ds.length ≤ 1) && ds.all fun d => match d with | .none => false | _ => true))) && (ds.all fun d => decide (d.depth ≤ 60)) && decide (ds.length ≤ sizeLine)
abbrev sortD (ds : List PyData) : List PyData := ds.mergeSort (dataLe false fun d => d)
def SortOK (ds : List PyData) : Prop := Sortable ds ∨ (ds.length ≤ 1 ∧ ∀ d ∈ ds, d ≠ .none)
theorem sortable_iff {ds : List PyData} (h : sortable ds = true) : AllAlike ds ∧ SortOK ds ∧ (∀ d ∈ ds, d.depth ≤ 60) ∧ ds.length ≤ sizeLine := by
  unfold sortable at h
  simp only [Bool.and_eq_true, Bool.or_eq_true, List.all_eq_true, decide_eq_true_eq] at h
  obtain ⟨⟨⟨h1, h2⟩, h3⟩, h4⟩ := h
  refine ⟨fun d hd e he => h1 d hd e he, ?_, h3, h4⟩
  rcases h2 with h2 | h2 | ⟨h2, h5⟩
  · refine .inl (.inl fun d hd => ?_)
    have q := h2 d hd
    cases d with
    | tuple xs =>
      cases xs with
      | nil => cases q
      | cons x r => exact ⟨x, r, rfl⟩
    | _ => cases q
  · refine .inl (.inr fun d hd => ?_)
    have q := h2 d hd
    cases d with
    | none => exact absurd q Bool.false_ne_true
    | tuple xs => exact absurd q Bool.false_ne_true
    | _ => exact ⟨fun e => (nomatch e), fun xs e => (nomatch e)⟩
  · exact .inr ⟨h2, fun d hd e => by have q := h5 d hd; rw [e] at q; cases q⟩
/-- values that stand for data, by P -/
def RV (P : V → PyData → Prop) (u : Value) (d : PyData) : Prop := ∃ x, RelV x u ∧ P x d
theorem each_of {P : V → PyData → Prop} : ∀ {xs : List V} {us : List Value} {ds : List PyData}, Vals xs us → Paired P xs ds → EachIs (RV P) us ds
  | _, _, _, .nil, .nil => .nil
  | _, _, _, .cons r t, .cons p q => .cons ⟨_, r, p⟩ (each_of t q)
theorem each_back {P : V → PyData → Prop} : ∀ {us : List Value} {ds : List PyData}, EachIs (RV P) us ds → ∃ xs, Vals xs us ∧ Paired P xs ds
  | _, _, .nil => ⟨[], .nil, .nil⟩
  | _, _, .cons ⟨x, r, p⟩ t => by
    obtain ⟨xs, h1, h2⟩ := each_back t
    exact ⟨x :: xs, .cons r h1, .cons p h2⟩
theorem each_reads {X : Cx} {pins : List (Addr × Obj)} {σ : L2.St} {H : Hp} {s : Shared} (I : Inv X pins σ H s) {P : V → PyData → Prop} (hP : ∀ x d, P x d → L2.Dp X.K H x d) : ∀ {us : List Value} {ds : List PyData}, EachIs (RV P) us ds → EachIs (fun v d => ∃ as, Reads s.heap v d as) us ds
  | _, _, .nil => .nil
  | _, _, .cons ⟨x, r, p⟩ t => .cons (Dp.reads I _ x _ (hP _ _ p) r) (each_reads I hP t)
section
variable {prog : Program} {w : World} {A : Around} {E : Value → Shared → Prop} {s : Shared} {β : Type} {R : Value → β → Prop} {vs : List Value}
theorem sortsAtX {ds : List PyData} (e : EachIs (fun v d => ∃ as, Reads s.heap v d as) vs ds) (hal : AllAlike ds) (hk : SortOK ds) (hu : ∀ d, d ∈ ds → A.units + d.depth < cLine) : SortsAt prog w A s (dataKind s.heap ds) vs := by
  rcases hk with hk | ⟨h1, hn⟩
  · exact .data e hal hk hu
  · refine ⟨fun v hv => ?_, PyProof.Rows.general', ?_, fun h2 => ?_⟩
    · obtain ⟨d, hd, as, r⟩ := e.left v hv
      exact ⟨_, dataKind_some hal hd r⟩
    · intro E x y a b Q ha hb hq
      obtain ⟨d, as, hd, ra, rfl⟩ := dataKind_inv ha
      obtain ⟨d', as', hd', rb, rfl⟩ := dataKind_inv hb
      show wpAny _ _ (PyProof.Rows.oneLt' false x y) _ _ _
      exact oneLt_alike (fun z => absurd z Bool.false_ne_true) ra rb (hal d hd d' hd') (hn d hd) (Nat.lt_of_le_of_lt (Nat.add_le_add_left (Nat.min_le_left _ _) _) (hu d hd)) hq
    · have := e.length
      omega
theorem list_sort_dataX {enc : β → PyData} {bs : List β} {a : Addr} {n : Nat} {Q : Value → Shared → Prop} (ho : s.heap.get? a = some (seqObj "list" vs.toArray n)) (e : EachIs R vs bs) (er : EachIs (fun v b => ∃ as, Reads s.heap v (enc b) as ∧ a ∉ as) vs bs) (hal : AllAlike (bs.map enc)) (hk : SortOK (bs.map enc)) (hL : bs.length ≤ sizeLine)
    (hu : ∀ b, b ∈ bs → A.units + 1 + (enc b).depth < cLine) (h : ∀ out, out.length = bs.length → EachIs R out (bs.mergeSort (dataLe false enc)) → Q .none { s with heap := sortedHeap s.heap a vs (List.toArray out) }) :
    wpAny (model prog w) A (call (.builtin "list.sort") [.ref a]) Q E s := by
  have er' := each_keepBut (h' := sortingHeap s.heap a vs) (fun _ _ hb q => sortingHeap_old hb q) (fun o q => by rw [ho] at q; rw [← Option.some.inj q]) hal er
  have S : SortsAt prog w A.in1 { s with heap := sortingHeap s.heap a vs } (dataKind (sortingHeap s.heap a vs) (bs.map enc)) vs :=
    sortsAtX (s := { s with heap := sortingHeap s.heap a vs }) (each_map (R := fun v d => ∃ as, Reads (sortingHeap s.heap a vs) v d as) enc er') hal hk (fun d hd => by
      obtain ⟨b, hb, rfl⟩ := List.mem_map.mp hd
      have h1 := hu b hb
      have h2 : A.in1.units ≤ A.units + 1 := (by first | exact Nat.le_refl _ | (unfold Around.in1; simp; omega))
      omega)
  refine wpAny_call_entry slot_list_sort ⟨_, ho, rfl⟩ entry_list_sort (list_sort_vals ho S (by rw [e.length]; exact hL) ⟨.none, rfl, ?_⟩) (args_list_sort _)
  exact h _ (by rw [sortVals_length false rfl]; exact e.length) (sortVals_data false e er' hal)
end
def rSortD (K : Frag) : List V → Hp → VK → Prop := fun vs H Q => ∃ (a : Addr) (xs : List V) (ds : List PyData) (P : V → PyData → Prop), vs = [V.ref a] ∧ (SqL K H a xs ∨ SqT K H a xs) ∧ Paired P xs ds ∧ (∀ x d, P x d → L2.Dp K H x d) ∧ sortable ds = true ∧
  ∀ ws p, Paired P ws (sortD ds) → H p = none → Q (.ref p) (upd H p (.lst ws))
section
variable {X : Cx} {C : DC} {K : Frag}
theorem cr_sortD (hu : X.A.units + 65 < cLine) : CallR X (.builtin "sorted") (rSortD X.K) := by
  intro pins s σ H vs us Q I r h
  obtain ⟨a, xs, ds, P, rfl, hs, pr, hP, hk, q⟩ := h
  rw [Vals.ref1 r]
  obtain ⟨its, T, o, n, hT, ho, hc, hd, rv, hz⟩ : ∃ (its : List Value) (T : String) (o : Obj) (n : Nat), (T = "list" ∨ T = "tuple") ∧ s.heap.get? a = some o ∧ o.cls = .type T ∧ o.data = .seq its.toArray n ∧ Vals xs its ∧ xs.length ≤ sizeLine := by
    rcases hs with hs | hs
    · obtain ⟨its, rv, hl, hz⟩ := I.list hs
      obtain ⟨o, ho, hc, n, hd⟩ := hl.isList
      exact ⟨its, "list", o, n, .inl rfl, ho, hc, hd, rv, hz⟩
    · obtain ⟨its, rv, ⟨o, ho, hc, n, hd⟩, hz⟩ := I.tuple hs
      exact ⟨its, "tuple", o, n, .inr rfl, ho, hc, hd, rv, hz⟩
  obtain ⟨k1, k2, k3, k4⟩ := sortable_iff hk
  have hlen : its.length = xs.length := rv.length.symm
  refine Calls.call_function_entry PyProof.Rows.kind_sorted PyProof.Rows.plain_sorted PyProof.Rows.entry_sorted (PyProof.Rows.args_sorted1 _) ?_
  unfold Builtin.«sorted»
  refine wpAny_bind (m := checkCount "sorted" 1 1 _) (wpAny_pure ?_)
  refine wpAny_bind (wpAny_collect_seq a hT ho hc hd (fun h' kp => ?_) (by rw [List.size_toArray]; omega))
  have I1 : Inv X pins σ H { s with heap := h' } := I.kept (t' := s.toks) kp
  refine wpAny_bind (wpAny_newList ?_ (by show its.length ≤ sizeLine; omega))
  have hoL : (h'.push (seqObj "list" its.toArray 0)).get? h'.objs.size = some (seqObj "list" its.toArray 0) := Heap.get?_push_size _ rfl
  show wpAny _ _ _ _ _ { s with heap := h'.push (seqObj "list" its.toArray 0) }
  have er := each_of rv pr
  have er1 := each_reads I1 hP er
  have mp : ds.map (fun d : PyData => d) = ds := List.map_id _
  refine wpAny_bind (wpAny_holding (list_sort_dataX (s := { s with heap := h'.push (seqObj "list" its.toArray 0) }) (enc := fun d => d) hoL er
    (er1.mono fun v d ⟨as, z⟩ => ⟨as, PyProof.Rows.Reads.keeps (fun b o e => Heap.get?_push_of_some _ e) z, fun hm => ?_⟩) (by rw [mp]; exact k1) (by rw [mp]; exact k2) k4 (fun b hb => by have := k3 b hb; show X.A.in1.units + 1 + b.depth < cLine; have : X.A.in1.units ≤ X.A.units + 1 := (by first | exact Nat.le_refl _ | (unfold Around.in1; simp; omega)); omega) fun out hol eo => ?_))
  · obtain ⟨ws, r2, p2⟩ := each_back eo
    obtain ⟨e', he'⟩ := PyProof.Rows.sortedHeap_at (vs := its) (out := out.toArray) hoL
    have hsz : ws.length ≤ sizeLine := by rw [r2.length, hol]; exact k4
    refine wpAny_pure ⟨_, rfl, .ref h'.objs.size, upd H h'.objs.size (.lst ws), I1.laid (t' := s.toks) (fun b u e => ?_) (Nat.le_refl _) ⟨hsz, out, e', r2, he'⟩, rfl, q ws _ p2 (I1.hok.fresh (Nat.le_refl _))⟩
    have hb : b < h'.objs.size := Heap.lt_size e
    rw [PyProof.Rows.sortedHeap_old (Nat.ne_of_lt hb) (by rw [size_push']; exact Nat.lt_succ_of_lt hb)]
    exact Heap.get?_push_of_some _ e
  · obtain ⟨o, ho⟩ := PyProof.On.reads_mem_get z _ hm
    exact absurd (Heap.lt_size ho) (Nat.lt_irrefl _)
theorem dpAll_paired {F : Hp} : ∀ {vs : List V} {ds : List PyData}, DpAll K F vs ds → Paired (Dp K F) vs ds
  | _, _, .nil => .nil
  | _, _, .cons h r => .cons h (dpAll_paired r)
theorem paired_dpAll {F : Hp} : ∀ {vs : List V} {ds : List PyData}, Paired (Dp K F) vs ds → DpAll K F vs ds
  | _, _, .nil => .nil
  | _, _, .cons h r => .cons h (paired_dpAll r)
def sortC : List PyData → M (List PyData)
  | [.list xs] => .guard (sortable xs) (pure (sortD xs))
  | [.tuple xs] => .guard (sortable xs) (pure (sortD xs))
  | _ => .stuck
theorem sort_ok : CallOkL K C (rSortD K) sortC := by
  intro W F H vs ds Q R g rv h
  match ds, h with
  | [.list xs], h =>
    obtain ⟨v, rfl, r⟩ := paired1 rv
    obtain ⟨hk, h⟩ := guard_run h
    obtain ⟨a, ws, rfl, ha, da⟩ := r.list g
    exact ⟨a, ws, xs, Dp K F, rfl, .inl ha, dpAll_paired da, fun x d p => (dp_mono g.sub _ _ p).low, hk, fun ws p hw hp => h p ws hp (paired_dpAll hw)⟩
  | [.tuple xs], h =>
    obtain ⟨v, rfl, r⟩ := paired1 rv
    obtain ⟨hk, h⟩ := guard_run h
    obtain ⟨a, ws, rfl, ha, da⟩ := r.tuple g
    exact ⟨a, ws, xs, Dp K F, rfl, .inr ha, dpAll_paired da, fun x d p => (dp_mono g.sub _ _ p).low, hk, fun ws p hw hp => h p ws hp (paired_dpAll hw)⟩
end
end DL

set_option Elab.async false
set_option linter.all false
set_option maxRecDepth 100000
set_option maxHeartbeats 4000000
/-! the data layer: set(..) of a list of ints (turned from the kit's rule for tuples), sorted of it -/
namespace L2
open PySem PySem.Spec PyProof.Rows
section
variable {P : Program} {w : World} {A : Around} {E : Value → Shared → Prop} {s : Shared}
theorem call_set_lstI {l : Addr} {items : Array Value} (ns : List Int) {Q : Value → Shared → Prop} (hh : A.handled = none) (hl : s.heap.IsList l items) (hit : IntsAre items.toList ns) (hb : ns.length + 1 < scanBound)
    (h : ∀ (h' : Heap) (tk c : Nat), SetR w h' s.heap.objs.size (fun j => decide (j ∈ ns)) c → c ≤ ns.length → (∀ b o, s.heap.get? b = some o → h'.get? b = some o) → Q (.ref s.heap.objs.size) { s with heap := h', toks := tk }) :
    wpAny (model P w) A (call (.type "set") [.ref l]) Q E s := by
  have hisz : items.size = ns.length := by
    have q := IntsAre.length hit
    rw [Array.length_toList] at q
    exact q
  obtain ⟨c, tl, hmro⟩ := F.called_set.mro
  have hmade := F.called_set.made
  have hsub := F.called_set.sub
  refine wpAny_call (codeAny_of_tree ?_)
  show wpAny _ _ (callAny (.type "set") _) _ _ _
  refine wpAny_pure ⟨Code.quiet_builtin _ (by decide +kernel), codeAny_builtin F.entry_type_call ?_⟩
  rw [Around.under_plain (weight_type_call_type "set" [.ref l] []) rfl]
  have h1 := F.called_set.notType
  have h2 := F.called_set.canCreate
  have hct := F.typeCall_set_1 (.ref l)
  repeat (any_goals (first | assumption | wp_step))

  refine codeAny_mono (code_set_led1 (.ref l) (E := E) (Q₁ := fun obj s₁ => obj = .ref s.heap.objs.size ∧ s₁ = { s with heap := s.heap.push { cls := .type "set", dict := none, data := .set #[] 0 (.fresh 0 0 (!w.params.followText "set-order")) } }) ⟨rfl, rfl⟩) fun r s₁ hr => ?_
  cases r with
  | error e => exact hr
  | ok fl =>
    cases fl with
    | ret obj =>
      obtain ⟨rfl, rfl⟩ := hr
      have hS : (s.heap.push { cls := .type "set", dict := none, data := .set #[] 0 (.fresh 0 0 (!w.params.followText "set-order")) }).get? s.heap.objs.size = some { cls := .type "set", dict := none, data := .set #[] 0 (.fresh 0 0 (!w.params.followText "set-order")) } := Heap.get?_push_size _ rfl
      have hT : Shared.TypeIs { s with heap := s.heap.push { cls := .type "set", dict := none, data := .set #[] 0 (.fresh 0 0 (!w.params.followText "set-order")) } } (.ref s.heap.objs.size) "set" := ⟨_, hS, rfl⟩
      have hli := F.called_set.init.lookup
      have hbi := F.called_set.init.bind (.ref s.heap.objs.size)
      repeat (any_goals (first | assumption | wp_step))

      refine codeAny_mono (codeAny_call_builtin (R := wants (fun r s₂ => r = .none ∧ ∃ h' tk c, s₂ = { s with heap := h', toks := tk } ∧ SetR w h' s.heap.objs.size (fun j => decide (j ∈ ns)) c ∧ c ≤ ns.length ∧
          (∀ b o, s.heap.get? b = some o → h'.get? b = some o)) E) F.called_set.init.plain F.entry_set_init (check_set_init_1 hT ?_)) fun r₂ s₂ hr₂ => ?_
      · obtain ⟨ol, hol, hcl, nl, hdl⟩ := hl
        obtain ⟨ocls, odict, odata, oslots⟩ := ol
        simp only at hcl hdl
        subst hcl; subst hdl
        have hol' : (s.heap.push { cls := .type "set", dict := none, data := .set #[] 0 (.fresh 0 0 (!w.params.followText "set-order")) }).get? l = some { cls := .type "list", dict := odict, data := .seq items nl, slots := oslots } := Heap.get?_push_of_some _ hol
        have hsls := F.sub_list_set
        have hslf := F.sub_list_frozenset
        have hne : (Value.type "list" == Value.type "dict") = false := by decide
        have hl1 : (s.heap.push { cls := .type "set", dict := none, data := .set #[] 0 (.fresh 0 0 (!w.params.followText "set-order")) }).IsList l items := ⟨_, hol', rfl, nl, rfl⟩
        unfold Builtin.«set.__init__» noKeywords Builtin.Frozenset.updateFrom
        generalize hPI : pyIter = PI
        wp_walk
        subst hPI

        refine wpAny_pyIter_list hl1 ?_
        refine wpAny_bind (wpAny_runValue ?_)
        have hlS : l < s.heap.objs.size := Heap.lt_size hol
        have hh3 : A.in1.in1.in1.handled = none := by simp [hh]
        have hz1 : (s.heap.push { cls := .type "set", dict := none, data := .set #[] 0 (.fresh 0 0 (!w.params.followText "set-order")) }).objs.size = s.heap.objs.size + 1 := Heap.size_push ..
        have hneI : l ≠ (s.heap.push { cls := .type "set", dict := none, data := .set #[] 0 (.fresh 0 0 (!w.params.followText "set-order")) }).objs.size := by
          rw [Heap.size_push]; exact Nat.ne_of_lt (Nat.lt_succ_of_lt hlS)
        have hSf : s.heap.objs.size ∉ [(s.heap.push { cls := .type "set", dict := none, data := .set #[] 0 (.fresh 0 0 (!w.params.followText "set-order")) }).objs.size, l] := by
          rw [Heap.size_push]; simp only [List.mem_cons, List.mem_singleton, List.not_mem_nil, or_false, not_or]
          exact ⟨Nat.ne_of_lt (Nat.lt_succ_self _), Nat.ne_of_gt hlS⟩
        have hval : ∀ (i : Nat) (v : Value), items[i]? = some v → ∃ k t, ns[i]? = some k ∧ v = .int k t := fun i v hv => by
          have hi : i < ns.length := by rw [← hisz]; exact (Array.getElem?_eq_some_iff.mp hv).1
          obtain ⟨t, e⟩ := PyProof.Rows.IntsAre.int_at hit i v (by rw [Array.getElem?_toList]; exact hv)
          refine ⟨ns[i], t, List.getElem?_eq_getElem hi, ?_⟩
          rw [e, List.getD_eq_getElem?_getD, List.getElem?_eq_getElem hi] <;> rfl
        refine set_update_ints ((Walks.list hh3 _ l hneI items).toS) s.heap.objs.size
          hSf ns hisz hb hval (items.size - 0) 0 _ (by omega) (Nat.zero_le _)
          ⟨⟨_, Heap.get?_push_size _ rfl, rfl, rfl⟩, (hl1.push _)⟩ ?hS0 ?hR
        case hS0 =>
          have hget : ((s.heap.push { cls := .type "set", dict := none, data := .set #[] 0 (.fresh 0 0 (!w.params.followText "set-order")) }).push { cls := .type "list_iterator", data := .fields #[.ref l, .int 0 0] }).get? s.heap.objs.size
              = some { cls := .type "set", dict := none, data := .set #[] 0 (.fresh 0 0 (!w.params.followText "set-order")) } := Heap.get?_push_of_some _ hS
          exact ⟨0, Nat.le_refl 0, setR_new_at hget⟩
        case hR =>
          intro s' c' hm hc' hS'
          obtain ⟨h', g2, d', tk', os'⟩ := s'
          have eg : g2 = s.gens := hm.gens
          have ed : d' = s.drawn := hm.drawn
          have eo : os' = s.os := hm.os
          subst eg; subst ed; subst eo
          show wpAny _ _ _ _ _ _
          refine wpAny_pure ?_
          show wpAny _ _ (ret Value.none) _ _ _
          rw [hisz] at hc'
          refine wpAny_pure ⟨rfl, h', tk', c', rfl, hS', hc', fun b o e => ?_⟩
          have hb0 : b < s.heap.objs.size := Heap.lt_size e
          have hb1 : b ≠ s.heap.objs.size := Nat.ne_of_lt hb0
          have hb2 : b ≠ (s.heap.push { cls := .type "set", dict := none, data := .set #[] 0 (.fresh 0 0 (!w.params.followText "set-order")) }).objs.size := by
            rw [Heap.size_push]; exact Nat.ne_of_lt (Nat.lt_succ_of_lt hb0)
          exact hm.heap b o (by simp only [List.mem_cons, List.mem_singleton, List.not_mem_nil, or_false, not_or]; exact ⟨hb1, hb2⟩) (Heap.get?_push_of_some _ (Heap.get?_push_of_some _ e))

      · cases r₂ with
        | error e => exact hr₂
        | ok fl₂ =>
          cases fl₂ with
          | ret r =>
            obtain ⟨rfl, h', tk, c', rfl, hS', hc', hk'⟩ := hr₂
            repeat (any_goals (first | assumption | wp_step))
            exact h _ _ _ hS' hc' hk'
          | _ => exact hr₂.elim
    | _ => exact hr.elim

end
end L2

set_option Elab.async false
set_option linter.all false
set_option maxRecDepth 100000
set_option maxHeartbeats 4000000
/-! the data layer: sorted(set(..)) of ints; isinstance -/
namespace DL
open PySem PySem.Spec PyProof.Rows L2 PySem.W

/-- the members, each once, upwards -/
def insU (k : Int) : List Int → List Int
  | [] => [k]
  | j :: l => if k < j then k :: j :: l else if k = j then j :: l else j :: insU k l
def sortU (ns : List Int) : List Int := ns.foldr insU []
theorem insU_mem (k m : Int) : ∀ l : List Int, m ∈ insU k l ↔ m = k ∨ m ∈ l
  | [] => by simp [insU]
  | j :: l => by
    unfold insU
    split
    · simp
    · split
      · rename_i e
        subst e
        simp
      · have := insU_mem k m l
        simp only [List.mem_cons, this]
        constructor
        · rintro (h | h | h) <;> simp [h]
        · rintro (h | h | h) <;> simp [h]
theorem insU_pw (k : Int) : ∀ l : List Int, l.Pairwise (· < ·) → (insU k l).Pairwise (· < ·)
  | [], _ => by simp [insU]
  | j :: l, h => by
    have h1 := (List.pairwise_cons.mp h).1
    have h2 := (List.pairwise_cons.mp h).2
    unfold insU
    split
    · rename_i e
      refine List.pairwise_cons.mpr ⟨fun x hx => ?_, h⟩
      rcases List.mem_cons.mp hx with q | q
      · omega
      · have := h1 x q
        omega
    · split
      · exact h
      · refine List.pairwise_cons.mpr ⟨fun x hx => ?_, insU_pw k l h2⟩
        rcases (insU_mem k x l).mp hx with q | q
        · omega
        · exact h1 x q
theorem sortU_mem (m : Int) : ∀ ns : List Int, m ∈ sortU ns ↔ m ∈ ns
  | [] => by simp [sortU]
  | k :: ns => by
    show m ∈ insU k (sortU ns) ↔ _
    rw [insU_mem, sortU_mem m ns, List.mem_cons]
theorem sortU_pw : ∀ ns : List Int, (sortU ns).Pairwise (· < ·)
  | [] => .nil
  | k :: ns => insU_pw k _ (sortU_pw ns)
theorem pw_uniq : ∀ {l m : List Int}, l.Pairwise (· < ·) → m.Pairwise (· < ·) → (∀ k : Int, k ∈ l ↔ k ∈ m) → l = m
  | [], [], _, _, _ => rfl
  | [], y :: m, _, _, h => absurd ((h y).mpr List.mem_cons_self) (by simp)
  | x :: l, [], _, _, h => absurd ((h x).mp List.mem_cons_self) (by simp)
  | x :: l, y :: m, hl, hm, h => by
    obtain ⟨a1, a2⟩ := List.pairwise_cons.mp hl
    obtain ⟨b1, b2⟩ := List.pairwise_cons.mp hm
    have e : x = y := by
      rcases List.mem_cons.mp ((h x).mp List.mem_cons_self) with q | q
      · exact q
      · rcases List.mem_cons.mp ((h y).mpr List.mem_cons_self) with q2 | q2
        · exact q2.symm
        · have h1 := a1 y q2
          have h2 := b1 x q
          omega
    subst e
    rw [pw_uniq a2 b2 fun k => ?_]
    constructor
    · intro hk
      rcases List.mem_cons.mp ((h k).mp (List.mem_cons_of_mem _ hk)) with q | q
      · have := a1 k hk
        omega
      · exact q
    · intro hk
      rcases List.mem_cons.mp ((h k).mpr (List.mem_cons_of_mem _ hk)) with q | q
      · have := b1 k hk
        omega
      · exact q

def rSetL (K : Frag) (w : World) : List V → Hp → VK → Prop := fun vs H Q => ∃ (a : Addr) (ns : List Int), vs = [V.ref a] ∧ SqL K H a (ns.map V.int) ∧ ns.length < 64 ∧
  ∀ p c, H p = none → c ≤ ns.length → Q (.ref p) (upd H p (SetO w p (fun j => decide (j ∈ ns)) c))
section
variable {X : Cx} {C : DC} {E : XK} {ρ : REnv} {K : Frag}
theorem cr_setL (hc : X.calm = true) : CallR X (.type "set") (rSetL X.K X.w) := by
  intro pins s σ H vs us Q I r h
  obtain ⟨a, ns, rfl, hs, hf, q⟩ := h
  obtain ⟨its, rv, hl, hz⟩ := I.list hs
  rw [Vals.ref1 r]
  refine call_set_lstI ns (I.ok.hd hc) hl.isList rv.ints (by show ns.length + 1 < 4096; omega) fun h' tk c R hc' kp => ?_
  have hn : H s.heap.objs.size = none := I.hok.fresh (Nat.le_refl _)
  exact ⟨.ref _, upd H s.heap.objs.size (SetO X.w s.heap.objs.size (fun j => decide (j ∈ ns)) c), I.laid (t' := tk) kp (Nat.le_refl _) (setO_new R), rfl, q _ c hn hc'⟩
/-- pairs of small ints, each as one number -/
def pairC : PyData → Option Int
  | .tuple [.int x, .int y] => if 0 ≤ x ∧ x < 64 ∧ 0 ≤ y ∧ y < 64 then some (x * 64 + y) else none
  | _ => none
def pairsC : List PyData → Option (List Int)
  | [] => some []
  | d :: r => match pairC d, pairsC r with
    | some c, some cs => some (c :: cs)
    | _, _ => none
def unpair (c : Int) : PyData := .tuple [.int (c / 64), .int (c % 64)]
theorem pairC_some {d : PyData} {c : Int} (h : pairC d = some c) : ∃ x y : Int, d = .tuple [.int x, .int y] ∧ 0 ≤ x ∧ x < 64 ∧ 0 ≤ y ∧ y < 64 ∧ c = x * 64 + y ∧ c / 64 = x ∧ c % 64 = y := by
  unfold pairC at h
  split at h
  · rename_i x y
    split at h
    · rename_i hb
      cases h
      exact ⟨x, y, rfl, hb.1, hb.2.1, hb.2.2.1, hb.2.2.2, rfl, by omega, by omega⟩
    · cases h
  · cases h
theorem pairsC_dp {K : Frag} {F : Hp} : ∀ {vs : List V} {ds : List PyData} {cs : List Int}, DpAll K F vs ds → pairsC ds = some cs → ∃ ks : List (Addr × List Int), vs = ks.map (fun p => V.ref p.1) ∧ ks.map (fun p => TS.code 64 p.2) = cs ∧ ∀ p ∈ ks, exT K F p.1 (p.2.map V.int) ∧ ∃ x y : Int, p.2 = [x, y] ∧ 0 ≤ x ∧ x < 64 ∧ 0 ≤ y ∧ y < 64
  | _, _, cs, .nil, e => by cases e; exact ⟨[], rfl, rfl, fun p h => nomatch h⟩
  | _, d :: ds, cs, .cons h r, e => by
    unfold pairsC at e
    split at e
    · rename_i c cs' e1 e2
      cases e
      obtain ⟨ks, h1, h2, h3⟩ := pairsC_dp r e2
      obtain ⟨x, y, rfl, b1, b2, b3, b4, e5, _⟩ := pairC_some e1
      cases h with
      | tup hs hd =>
        cases hd with
        | cons d1 hd =>
        cases hd with
        | cons d2 hd =>
        cases hd
        cases d1
        cases d2
        refine ⟨(_, [x, y]) :: ks, by rw [List.map_cons, h1], by rw [List.map_cons, h2, L2.code_pair, e5], fun p hp => ?_⟩
        rcases List.mem_cons.mp hp with rfl | hp
        · exact ⟨hs, x, y, rfl, b1, b2, b3, b4⟩
        · exact h3 p hp
    · cases e
theorem unpair_code {x y : Int} (b1 : 0 ≤ x) (b2 : x < 64) (b3 : 0 ≤ y) (b4 : y < 64) : unpair (TS.code 64 [x, y]) = .tuple [.int x, .int y] := by
  rw [L2.code_pair]
  unfold unpair
  rw [show (x * 64 + y) / 64 = x by omega, show (x * 64 + y) % 64 = y by omega]
def setSortC : PyData → M (List PyData)
  | .list xs => match intsOf xs with
    | some ns => .guard (decide (ns.length < 64)) (pure ((sortU ns).map PyData.int))
    | none => match pairsC xs with
      | some cs => .guard (decide (cs.length < 64)) (pure ((sortU cs).map unpair))
      | none => .stuck
  | _ => .stuck
theorem dl_sortset {e : Expr} {m : M PyData} {x y : Str} {p p2 pos pos2 : Pos} (hc : X.calm = true) (hu : X.A.units + 65 < cLine) (hx : x = "sorted") (hy : y = "set") (hg : Gl X x) (hm : X.mg x = none) (hv : bootBuiltins x = some (.builtin "sorted")) (hg2 : Gl X y) (hm2 : X.mg y = none) (hv2 : bootBuiltins y = some (.type "set")) (ha : DR X C E ρ e m)
    (hs : starEach [e] X.env = [(false, eval e X.env)] := by rfl) (hs2 : starEach [Expr.Call (.Name y p2) [e] [] pos2] X.env = [(false, eval (.Call (.Name y p2) [e] [] pos2) X.env)] := by rfl) :
    DL X C E ρ (.Call (.Name x p) [.Call (.Name y p2) [e] [] pos2] [] pos) (m >>= setSortC) := by
  obtain ⟨t, h1, h2⟩ := ha
  have pe1 : PE X (.Call (.Name y p2) [e] [] pos2) _ := pe_callTy ((cr_setL hc).or (cr_setOfT hc (by omega))) hg2 hm2 hv2 (pa_cons h1 pa_nil hs) (by rw [hy]; decide) (by rw [hy]; decide) hs rfl
  refine ⟨_, pe_callB ((cr_sortedSet hc).or (cr_sortedT hc)) hg hm hv (pa_cons pe1 pa_nil hs2) (by rw [hx]; decide) (by rw [hx]; decide) hs2 rfl, fun σ F H Q k hm => h2 σ F H _ k (m.mono (fun d q v F' H' x r => ?_) (fun _ r => r) hm)⟩
  cases d with
  | list xs =>
    dsimp only [setSortC] at q
    obtain ⟨a, ws, rfl, ha, da⟩ := r.list x.gs
    cases hi : intsOf xs with
    | none =>
      rw [hi] at q
      dsimp only at q
      cases hp : pairsC xs with
      | none => rw [hp] at q; exact q.elim
      | some cs =>
        rw [hp] at q
        obtain ⟨hl, q⟩ := guard_run q
        have hl := of_decide_eq_true hl
        obtain ⟨ks, rfl, hcs, hks⟩ := pairsC_dp da hp
        have hkl : ks.length = cs.length := by rw [← hcs, List.length_map]
        refine .inr ⟨a, ks, rfl, ha, fun p hp => sqt_mono x.gs.sub (hks p hp).1.sq, by omega, fun p2 L hp2 hsub hall => ?_⟩
        have x2 := x.trans (ext_new (o := SetTO X.prog X.w p2 L) x.gs hp2)
        have sub2 : ∀ b o, F' b = some o → upd H' p2 (SetTO X.prog X.w p2 L) b = some o := x2.gs.sub
        refine .inr ⟨p2, L, 2, 64, rfl, upd_same, fun p hp => sqt_mono sub2 (hks p (hsub p hp)).1.sq, by decide, fun p hp => ?_, fun L' p pm nd hf pw hp => ?_⟩
        · obtain ⟨_, x, y, e, b1, b2, b3, b4⟩ := hks p (hsub p hp)
          rw [e]
          refine ⟨rfl, ?_⟩
          intro z hz
          simp only [List.mem_cons, List.not_mem_nil, or_false] at hz
          rcases hz with rfl | rfl
          · exact ⟨b1, b2⟩
          · exact ⟨b3, b4⟩
        have hin : ∀ q ∈ L', q ∈ ks := fun q hq => hsub q (pm.mem_iff.mp hq)
        have e1 : L'.map (fun q => TS.code 64 q.2) = sortU cs := by
          refine pw_uniq ?_ (sortU_pw cs) fun c => ?_
          · rw [List.pairwise_map]
            have nd' : L'.Pairwise fun a b => a.2 ≠ b.2 := List.pairwise_map.mp nd
            refine List.Pairwise.imp_of_mem (fun {q r} hq hr hh => ?_) (pw.and nd')
            obtain ⟨_, x, y, e, b1, b2, b3, b4⟩ := hks q (hin q hq)
            obtain ⟨_, x', y', e', c1, c2, c3, c4⟩ := hks r (hin r hr)
            obtain ⟨h1, h2⟩ := hh
            rw [e, e'] at h1 h2 ⊢
            have h3 := L2.pair_lt h1 h2 ⟨b1, b2⟩ ⟨b3, b4⟩ ⟨c1, c2⟩ ⟨c3, c4⟩
            rw [L2.code_pair, L2.code_pair]
            omega
          · rw [sortU_mem, ← hcs]
            constructor
            · intro h
              obtain ⟨q, hq, e⟩ := List.mem_map.mp h
              exact List.mem_map.mpr ⟨q, hin q hq, e⟩
            · intro h
              obtain ⟨q, hq, e⟩ := List.mem_map.mp h
              obtain ⟨r, hr, e2⟩ := List.mem_map.mp (hall q hq)
              exact List.mem_map.mpr ⟨r, pm.mem_iff.mpr hr, by rw [e2]; exact e⟩
        have x3 := x2.trans (ext_new (o := .lst (L'.map fun q => V.ref q.1)) x2.gs hp)
        have hb := none_back x2 hp
        refine q p _ F' _ x3 hb.1 hb.2 upd_same ?_
        rw [← e1, List.map_map]
        have key : ∀ l : List (Addr × List Int), (∀ q ∈ l, q ∈ ks) → DpAll X.K F' (l.map fun q => V.ref q.1) (l.map (unpair ∘ fun q => TS.code 64 q.2)) := by
          intro l
          induction l with
          | nil => exact fun _ => .nil
          | cons z l ih =>
            intro hz
            refine .cons ?_ (ih fun q hq => hz q (.tail _ hq))
            obtain ⟨ht, x, y, e, b1, b2, b3, b4⟩ := hks z (hz z List.mem_cons_self)
            show Dp X.K F' (.ref z.1) (unpair (TS.code 64 z.2))
            rw [e] at ht ⊢
            rw [unpair_code b1 b2 b3 b4]
            exact .tup ht (.cons (.int _) (.cons (.int _) .nil))
        exact key L' hin
    | some ns =>
      rw [hi] at q
      obtain ⟨hl, q⟩ := guard_run q
      rw [intsOf_some hi] at da
      rw [dpAll_ints da] at ha
      have hl := of_decide_eq_true hl
      refine .inl ⟨a, ns, rfl, ha, hl, fun p2 c hp2 hc2 => ?_⟩
      refine .inl ⟨p2, _, c, rfl, upd_same, by omega, fun ms p pw hmem _ hp => ?_⟩
      have e1 : ms = sortU ns := pw_uniq pw (sortU_pw ns) fun k => by rw [hmem, decide_eq_true_eq, sortU_mem]
      subst e1
      have x2 := x.trans (ext_new (o := SetO X.w p2 (fun j => decide (j ∈ ns)) c) x.gs hp2)
      have x3 := x2.trans (ext_new (o := .lst ((sortU ns).map V.int)) x2.gs hp)
      have hb := none_back x2 hp
      exact q p _ F' _ x3 hb.1 hb.2 upd_same (ints_dpAll _)
  | _ => exact q.elim

/-! isinstance -/
def tyName : PyData → String
  | .none => "NoneType" | .bool _ => "bool" | .int _ => "int" | .str _ => "str" | .list _ => "list" | .tuple _ => "tuple" | .dict _ => "dict"
def isTy (T : String) (d : PyData) : Bool := (kitB (tyName d) T).getD false
theorem RdV.ty {W : Addr → Prop} {F H : Hp} {v : V} {d : PyData} (h : RdV K W F H v d) (g : GS C F H) : TyX K H v (.type (tyName d)) := by
  have seq : ∀ {a : Addr} {xs : List V}, SqL K H a xs → TyX K H (.ref a) (.type "list") := fun {a xs} h => by
    rcases h with (h | ⟨o, h⟩) | ⟨o, its, n, h1, h2, _⟩
    · exact .base (.lst h)
    · exact .base (.frz h)
    · exact .kList h1 h2
  have seqT : ∀ {a : Addr} {xs : List V}, SqT K H a xs → TyX K H (.ref a) (.type "tuple") := fun {a xs} h => by
    rcases h with (h | ⟨o, h⟩) | ⟨o, its, n, h1, h2, _⟩
    · exact .base (.tup h)
    · exact .fTuple h
    · exact .kTuple h1 h2
  cases d with
  | none => rw [h.none]; exact .base .non
  | bool b => rw [h.bool]; exact .base (.bl b)
  | int i => rw [h.int]; exact .base (.int i)
  | str x => rw [h.str]; exact .base (.str x)
  | list xs => obtain ⟨a, vs, rfl, h1, _⟩ := h.list g; exact seq h1
  | tuple xs => obtain ⟨a, vs, rfl, h1, _⟩ := h.tuple g; exact seqT h1
  | dict kvs => rcases h with h | ⟨_, _, _, _, e, _⟩ <;> first | (cases h; done) | (cases e; done)
theorem kit_some (T : String) (hT : (["NoneType", "bool", "int", "str", "list", "tuple", "dict"].all fun a => (kitB a T).isSome) = true) (d : PyData) : kitOne K (.type (tyName d)) (.type T) = some (isTy T d) := by
  simp only [List.all_cons, List.all_nil, Bool.and_true, Bool.and_eq_true, Option.isSome_iff_exists] at hT
  obtain ⟨⟨a1, h1⟩, ⟨a2, h2⟩, ⟨a3, h3⟩, ⟨a4, h4⟩, ⟨a5, h5⟩, ⟨a6, h6⟩, ⟨a7, h7⟩⟩ := hT
  refine kit_ty ?_
  unfold isTy
  cases d <;> simp only [tyName, h1, h2, h3, h4, h5, h6, h7, Option.getD_some]
theorem db_isi {e : Expr} {m : M PyData} {x y : Str} {T : String} {p p2 pos : Pos} (hg : Gl X x) (hm : X.mg x = none) (hv : bootBuiltins x = some (.builtin "isinstance")) (hg2 : Gl X y) (hm2 : X.mg y = none) (hv2 : bootBuiltins y = some (.type T)) (hT : (["NoneType", "bool", "int", "str", "list", "tuple", "dict"].all fun a => (kitB a T).isSome) = true) (ha : DR X C E ρ e m)
    (hn : x ≠ "__name__" := by decide) (hdb : (x == ("__debug__" : Str)) = false := by decide) (hn2 : y ≠ "__name__" := by decide) (hdb2 : (y == ("__debug__" : Str)) = false := by decide)
    (hs : starEach [e, .Name y p2] X.env = (false, eval e X.env) :: starEach [.Name y p2] X.env := by rfl) (hpl : (backTo pos (starEach [.Name y p2] X.env)).any (·.1) = false := by rfl) :
    DB X C E ρ (.Call (.Name x p) [e, .Name y p2] [] pos) (m >>= fun d => pure (isTy T d)) := by
  obtain ⟨t, h1, h2⟩ := ha
  have py : PE X (.Name y p2) (tC (.ty T)) := pe_bltn hg2 hm2 hv2 rfl hn2 hdb2
  refine ⟨_, pe_callB call_isi hg hm hv (pa_cons h1 (pa_cons py pa_nil rfl) hs) hn hdb hs hpl, fun σ F H Q k hm => h2 σ F H _ k (m.mono (fun d q v F' H' x r => ?_) (fun _ r => r) hm)⟩
  exact ⟨v, .ty T, _, _, _, rfl, .ty T, r.ty x.gs, kit_some T hT d, q F' H' x⟩
theorem db_isi2 {e : Expr} {m : M PyData} {x y z : Str} {T U : String} {n : Nat} {p p2 p3 p4 pos : Pos} (hg : Gl X x) (hm : X.mg x = none) (hv : bootBuiltins x = some (.builtin "isinstance")) (hg2 : Gl X y) (hm2 : X.mg y = none) (hv2 : bootBuiltins y = some (.type T)) (hg3 : Gl X z) (hm3 : X.mg z = none) (hv3 : bootBuiltins z = some (.type U)) (hT : (["NoneType", "bool", "int", "str", "list", "tuple", "dict"].all fun a => (kitB a T).isSome) = true) (hU : (["NoneType", "bool", "int", "str", "list", "tuple", "dict"].all fun a => (kitB a U).isSome) = true) (ha : DR X C E ρ e m)
    (hn : x ≠ "__name__" := by decide) (hdb : (x == ("__debug__" : Str)) = false := by decide) (hn2 : y ≠ "__name__" := by decide) (hdb2 : (y == ("__debug__" : Str)) = false := by decide) (hn3 : z ≠ "__name__" := by decide) (hdb3 : (z == ("__debug__" : Str)) = false := by decide)
    (hs : starEach [e, .Tuple [.Name y p2, .Name z p3] n p4] X.env = (false, eval e X.env) :: starEach [.Tuple [.Name y p2, .Name z p3] n p4] X.env := by rfl) (hpl : (backTo pos (starEach [.Tuple [.Name y p2, .Name z p3] n p4] X.env)).any (·.1) = false := by rfl) :
    DB X C E ρ (.Call (.Name x p) [e, .Tuple [.Name y p2, .Name z p3] n p4] [] pos) (m >>= fun d => pure (isTy T d || isTy U d)) := by
  obtain ⟨t, h1, h2⟩ := ha
  have py : PE X (.Name y p2) (tC (.ty T)) := pe_bltn hg2 hm2 hv2 rfl hn2 hdb2
  have pz : PE X (.Name z p3) (tC (.ty U)) := pe_bltn hg3 hm3 hv3 rfl hn3 hdb3
  refine ⟨_, pe_callB call_isiT hg hm hv (pa_cons h1 (pa_cons (pe_tup (pa_cons py (pa_cons pz pa_nil rfl) rfl)) pa_nil rfl) hs) hn hdb hs hpl, fun σ F H Q k hm => h2 σ F H _ k (m.mono (fun d q v F' H' x r => ?_) (fun _ r => r) hm)⟩
  refine ⟨by show 2 ≤ sizeLine; decide, fun tp hp => ?_⟩
  have x2 := x.trans (ext_new (o := .tup [.ty T, .ty U]) x.gs hp)
  refine ⟨v, tp, [.ty T, .ty U], _, [.type T, .type U], isTy T d || isTy U d, rfl, upd_same, .cons (.ty T) (.cons (.ty U) .nil), (r.ext (ext_new (o := .tup [.ty T, .ty U]) x.gs hp) x.gs).ty x2.gs, ?_, q F' _ x2⟩
  refine kitAny_cons (kit_some T hT d) (fun hb => kitAny_cons (kit_some U hU d) (fun hb2 => ?_) (fun hb2 => ?_)) (fun hb => ?_)
  · rw [hb, hb2]; exact kitAny_nil
  · rw [hb2, Bool.or_true]
  · rw [hb, Bool.true_or]
end
end DL

set_option Elab.async false
set_option linter.all false
set_option maxRecDepth 100000
set_option maxHeartbeats 4000000
/-! the data layer: what is walked; comprehensions; all, any of generator expressions -/
namespace DL
open PySem PySem.Spec PyProof.Rows L2

/-! ### canonical readings -/
def tDE (C : DC) (K : PySem.W.Frag) (E : XK) (ρ : REnv) (m : M PyData) : TE := fun σ H Q => ∃ F, Ok C K ρ σ F H ∧ m.run (fun d => ∀ v F' H', Ext C K (drA ρ σ) F H F' H' → Dp K F' v d → Q v H') (RE C K E (drA ρ σ) F H)
def tDT (C : DC) (K : PySem.W.Frag) (E : XK) (ρ : REnv) (m : M Bool) : TT := fun σ H Q => ∃ F, Ok C K ρ σ F H ∧ m.run (fun d => ∀ F' H', Ext C K (drA ρ σ) F H F' H' → Q d H') (RE C K E (drA ρ σ) F H)
def tDB (C : DC) (K : PySem.W.Frag) (E : XK) (ρ : REnv) (m : M Bool) : TE := fun σ H Q => ∃ F, Ok C K ρ σ F H ∧ m.run (fun d => ∀ F' H', Ext C K (drA ρ σ) F H F' H' → Q (.bl d) H') (RE C K E (drA ρ σ) F H)
section
variable {X : Cx} {C : DC} {E : XK} {ρ : REnv} {e : Expr}
theorem DE.pe {m : M PyData} (h : DE X C E ρ e m) : PE X e (tDE C X.K E ρ m) := by
  obtain ⟨t, h1, h2⟩ := h
  exact ⟨fun pins s σ H Q I ⟨F, k, hq⟩ => h1.run pins s σ H Q I (h2 σ F H Q k hq)⟩
theorem DT.pt {m : M Bool} (h : DT X C E ρ e m) : PT X e (tDT C X.K E ρ m) := by
  obtain ⟨t, h1, h2⟩ := h
  exact ⟨fun pins s σ H Q I ⟨F, k, hq⟩ => h1.run pins s σ H Q I (h2 σ F H Q k hq)⟩
theorem DB.pe {m : M Bool} (h : DB X C E ρ e m) : PE X e (tDB C X.K E ρ m) := by
  obtain ⟨t, h1, h2⟩ := h
  exact ⟨fun pins s σ H Q I ⟨F, k, hq⟩ => h1.run pins s σ H Q I (h2 σ F H Q k hq)⟩
end

/-! ### what is walked -/
abbrev E0 : XK := fun _ _ _ => False
/-- an item of a walk: where l, a pair that only stands to be unpacked -/
def DpL (l : Bool) (K : PySem.W.Frag) (F : Hp) (v : V) (d : PyData) : Prop := Dp K F v d ∨ (l = true ∧ ∃ a vs ds, v = .ref a ∧ d = .tuple ds ∧ SqT K F a vs ∧ DpAll K F vs ds)
theorem DpL.strict {K : PySem.W.Frag} {F : Hp} {v : V} {d : PyData} (h : DpL false K F v d) : Dp K F v d := by
  rcases h with h | ⟨h, _⟩
  · exact h
  · cases h
theorem dpl_mono {l : Bool} {K : PySem.W.Frag} {F F' : Hp} (h : ∀ a o, F a = some o → F' a = some o) {v : V} {d : PyData} (x : DpL l K F v d) : DpL l K F' v d := by
  rcases x with x | ⟨e, a, vs, ds, e1, e2, hs, hd⟩
  · exact .inl (dp_mono h _ _ x)
  · exact .inr ⟨e, a, vs, ds, e1, e2, sqt_mono h hs, dpAll_mono h _ _ hd⟩
theorem DpL.tuple {l : Bool} {K : PySem.W.Frag} {F : Hp} {v : V} {ds : List PyData} (x : DpL l K F v (.tuple ds)) : ∃ a vs, v = .ref a ∧ SqT K F a vs ∧ DpAll K F vs ds := by
  rcases x with x | ⟨e, a, vs, ds', e1, e2, hs, hd⟩
  · cases x with
    | tup h1 h2 => exact ⟨_, _, rfl, h1.sq, h2⟩
  · cases e2
    exact ⟨a, vs, e1, hs, hd⟩
/-- J walks over the data ds, while what is frozen stands -/
def WkF (l : Bool) (C : DC) (K : PySem.W.Frag) (F' : Hp) (J : It) (ds : List PyData) : Prop := ∀ F2 H2 (i : Nat), GS C F2 H2 → (∀ a o, F' a = some o → F2 a = some o) →
  (ds.length ≤ i → J.stop i H2) ∧ ∀ d, ds[i]? = some d → J.go i H2 ∧ ∀ x H3, J.yld i H2 x H3 → ∃ F3, (∀ W, Ext C K W F2 H2 F3 H3) ∧ DpL l K F3 x d
def Wk (l : Bool) (C : DC) (K : PySem.W.Frag) (W : Addr → Prop) (F' H' : Hp) (J : It) (ds : List PyData) : Prop := ∀ F2 H2 (i : Nat), Ext C K W F' H' F2 H2 →
  (ds.length ≤ i → J.stop i H2) ∧ ∀ d, ds[i]? = some d → J.go i H2 ∧ ∀ x H3, J.yld i H2 x H3 → ∃ F3, (∀ W, Ext C K W F2 H2 F3 H3) ∧ DpL l K F3 x d
section
variable (X : Cx) (C : DC) (E : XK) (ρ : REnv)
def DF (l : Bool) (tg e : Expr) (m : M (List PyData)) : Prop := ∃ wi, PI X tg e wi ∧ ∀ σ F H (R : It → Hp → Prop), Ok C X.K ρ σ F H →
  m.run (fun ds => ∀ J F' H', Ext C X.K (drA ρ σ) F H F' H' → WkF l C X.K F' J ds → R J H') (RE C X.K E (drA ρ σ) F H) → wi σ H R
def DI (l : Bool) (tg e : Expr) (m : M (List PyData)) : Prop := ∃ wi, PI X tg e wi ∧ ∀ σ F H (R : It → Hp → Prop), Ok C X.K ρ σ F H →
  m.run (fun ds => ∀ J F' H', Ext C X.K (drA ρ σ) F H F' H' → Wk l C X.K (drA ρ σ) F' H' J ds → R J H') (RE C X.K E (drA ρ σ) F H) → wi σ H R
end
section
variable {X : Cx} {C : DC} {E : XK} {ρ : REnv} {e tg a b : Expr} {es : List Expr} {m : M PyData} {ms : M (List PyData)} {p pos tpos : Pos}
theorem DF.di {l : Bool} (h : DF X C E ρ l tg e ms) : DI X C E ρ l tg e ms := by
  obtain ⟨t, h1, h2⟩ := h
  exact ⟨t, h1, fun σ F H R k hm => h2 σ F H R k (ms.mono (fun ds q J F' H' x w => q J F' H' x fun F2 H2 i y => w F2 H2 i y.gs (y.fsub x.gs)) (fun _ r => r) hm)⟩
/-- a list or a tuple -/
def iSeq (K : PySem.W.Frag) (tl : TE) : TI := fun σ H R => tl σ H fun x H1 => (∃ z, x = .str z ∧ R (Its z) H1) ∨ ∃ a, x = .ref a ∧ (((∃ xs, SqL K H1 a xs) ∧ R (Itl K a) H1) ∨ ((∃ xs, SqT K H1 a xs) ∧ R (Itt K a) H1))
theorem pi_seq {l : Expr} {tl : TE} (hl : PE X l tl) : PI X tg l (iSeq X.K tl) := by
  refine ⟨fun pins s σ H R I h => ?_⟩
  refine thn (hl.run pins s σ H _ I h) fun v s1 ⟨x, H1, I1, r1, q1⟩ => ?_
  rcases q1 with ⟨z, e, q⟩ | ⟨a, e, q⟩
  · subst e
    obtain ⟨t, rfl⟩ := r1
    cases ha : z.cps.all (· < 128)
    · exact wpAny_pyIter_wide ha (pi_one (tk := s1.toks) I1 _ (turn_str _ z t "str_iterator" (.inr rfl)) ⟨_, Heap.get?_push_size _ rfl, rfl, rfl⟩ q)
    · exact wpAny_pyIter_ascii ha (pi_one (tk := s1.toks) I1 _ (turn_str _ z t "str_ascii_iterator" (.inl rfl)) ⟨_, Heap.get?_push_size _ rfl, rfl, rfl⟩ q)
  subst e
  cases r1
  have nb : ∀ b ∈ [s1.heap.objs.size], FpOk X pins H1 b := fun b hb => by
    rw [List.mem_singleton.mp hb]
    exact I1.fpOk (Nat.le_refl _) (I1.hok.fresh (Nat.le_refl _))
  rcases q with ⟨⟨xs, hq⟩, q⟩ | ⟨⟨xs, hq⟩, q⟩
  · obtain ⟨its, rv, p, hz⟩ := I1.list hq
    exact wpAny_pyIter_list p.isList ⟨s1.heap.objs.size, [s1.heap.objs.size], _, _, H1, rfl, I1.kept (t' := s1.toks) fun b o e => Heap.get?_push_of_some _ e, turn_list a _, ⟨_, Heap.get?_push_size _ rfl, rfl, rfl⟩, nb, q⟩
  · obtain ⟨its, rv, p, hz⟩ := I1.tuple hq
    exact wpAny_pyIter_tuple (show s1.heap.IsTuple a its.toArray from p) ⟨s1.heap.objs.size, [s1.heap.objs.size], _, _, H1, rfl, I1.kept (t' := s1.toks) fun b o e => Heap.get?_push_of_some _ e, turn_tuple a _, ⟨_, Heap.get?_push_size _ rfl, rfl, rfl⟩, nb, q⟩
def seqM : PyData → M (List PyData)
  | .list ds => pure ds
  | .tuple ds => pure ds
  | .str z => pure (z.cps.toList.map fun c => .str ⟨#[c]⟩)
  | _ => .stuck
theorem wkS {K : PySem.W.Frag} {F H : Hp} {z : Str} (g : GS C F H) (i : Nat) :
    ((z.cps.toList.map fun c => PyData.str ⟨#[c]⟩).length ≤ i → (Its z).stop i H) ∧ ∀ d, (z.cps.toList.map fun c => PyData.str ⟨#[c]⟩)[i]? = some d → (Its z).go i H ∧ ∀ x H3, (Its z).yld i H x H3 → ∃ F3, (∀ W, Ext C K W F H F3 H3) ∧ DpL false K F3 x d := by
  refine ⟨fun hi => ?_, fun d hd => ?_⟩
  · rw [List.length_map, Array.length_toList] at hi
    exact hi
  · rw [List.getElem?_map, Array.getElem?_toList] at hd
    obtain ⟨c, hc, rfl⟩ := Option.map_eq_some_iff.mp hd
    refine ⟨(Array.getElem?_eq_some_iff.mp hc).1, fun x H3 hx => ?_⟩
    obtain ⟨rfl, c', hc', rfl⟩ := hx
    rw [hc] at hc'
    cases hc'
    exact ⟨F, fun W => .refl g, .inl (.str _)⟩
theorem wkL {K : PySem.W.Frag} {F H : Hp} {a : Addr} {vs : List V} {ds : List PyData} (g : GS C F H) (h : SqL K H a vs) (d : DpAll K F vs ds) (i : Nat) :
    (ds.length ≤ i → (Itl K a).stop i H) ∧ ∀ d, ds[i]? = some d → (Itl K a).go i H ∧ ∀ x H3, (Itl K a).yld i H x H3 → ∃ F3, (∀ W, Ext C K W F H F3 H3) ∧ DpL false K F3 x d := by
  refine ⟨fun hi => ⟨vs, h, by rw [DpAll.length d]; exact hi⟩, fun c hc => ?_⟩
  obtain ⟨v, hv, dv⟩ := DpAll.get d hc
  refine ⟨⟨vs, v, h, hv⟩, fun x H3 ⟨e, hx⟩ => ?_⟩
  subst e
  have := hx vs h
  rw [hv] at this
  cases this
  exact ⟨F, fun W => .refl g, .inl dv⟩
theorem wkT {K : PySem.W.Frag} {F H : Hp} {a : Addr} {vs : List V} {ds : List PyData} (g : GS C F H) (h : SqT K H a vs) (d : DpAll K F vs ds) (i : Nat) :
    (ds.length ≤ i → (Itt K a).stop i H) ∧ ∀ d, ds[i]? = some d → (Itt K a).go i H ∧ ∀ x H3, (Itt K a).yld i H x H3 → ∃ F3, (∀ W, Ext C K W F H F3 H3) ∧ DpL false K F3 x d := by
  refine ⟨fun hi => ⟨vs, h, by rw [DpAll.length d]; exact hi⟩, fun c hc => ?_⟩
  obtain ⟨v, hv, dv⟩ := DpAll.get d hc
  refine ⟨⟨vs, v, h, hv⟩, fun x H3 ⟨e, hx⟩ => ?_⟩
  subst e
  have := hx vs h
  rw [hv] at this
  cases this
  exact ⟨F, fun W => .refl g, .inl dv⟩
theorem df_seq (h : DE X C E ρ e m) : DF X C E ρ false tg e (m >>= seqM) := by
  obtain ⟨t, h1, h2⟩ := h
  refine ⟨_, pi_seq h1, fun σ F H R k hm => h2 σ F H _ k (m.mono (fun d q v F' H' x r => ?_) (fun _ r => r) hm)⟩
  cases d with
  | list ds =>
    cases r with
    | lst hs hd =>
      exact .inr ⟨_, rfl, .inl ⟨⟨_, sql_mono x.gs.sub hs⟩, q _ F' H' x fun F2 H2 i g2 sb => wkL g2 (sql_mono g2.sub (sql_mono sb hs)) (dpAll_mono sb _ _ hd) i⟩⟩
  | tuple ds =>
    cases r with
    | tup hs hd =>
      exact .inr ⟨_, rfl, .inr ⟨⟨_, sqt_mono x.gs.sub hs.sq⟩, q _ F' H' x fun F2 H2 i g2 sb => wkT g2 (sqt_mono g2.sub (sqt_mono sb hs.sq)) (dpAll_mono sb _ _ hd) i⟩⟩
  | str z =>
    cases r
    exact .inl ⟨z, rfl, q _ F' H' x fun F2 H2 i g2 sb => wkS g2 i⟩
  | _ => exact q.elim
theorem di_seq (h : DR X C E ρ e m) : DI X C E ρ false tg e (m >>= seqM) := by
  obtain ⟨t, h1, h2⟩ := h
  refine ⟨_, pi_seq h1, fun σ F H R k hm => h2 σ F H _ k (m.mono (fun d q v F' H' x r => ?_) (fun _ r => r) hm)⟩
  cases d with
  | list ds =>
    obtain ⟨a, vs, e, hs, hd⟩ := r.list x.gs
    subst e
    refine .inr ⟨a, rfl, .inl ⟨⟨_, hs⟩, q _ F' H' x fun F2 H2 i y => ?_⟩⟩
    obtain ⟨a', vs', e', hs', hd'⟩ := (r.ext y x.gs).list y.gs
    cases e'
    exact wkL y.gs hs' hd' i
  | tuple ds =>
    obtain ⟨a, vs, e, hs, hd⟩ := r.tuple x.gs
    subst e
    refine .inr ⟨a, rfl, .inr ⟨⟨_, hs⟩, q _ F' H' x fun F2 H2 i y => ?_⟩⟩
    obtain ⟨a', vs', e', hs', hd'⟩ := (r.ext y x.gs).tuple y.gs
    cases e'
    exact wkT y.gs hs' hd' i
  | str z =>
    rw [r.str]
    exact .inl ⟨z, rfl, q _ F' H' x fun F2 H2 i y => wkS y.gs i⟩
  | _ => exact q.elim
def rngL (lo : Int) (n : Nat) : List PyData := (List.range n).map fun i => .int (lo + (i : Nat))
def rng1M : List PyData → M (List PyData)
  | [.int j] => .guard (decide (j.natAbs < 2 ^ 60)) (pure (rngL 0 j.toNat))
  | _ => .stuck
def rng2M : List PyData → M (List PyData)
  | [.int i, .int j] => .guard (decide (i.natAbs < 2 ^ 60) && decide (j.natAbs < 2 ^ 60)) (pure (rngL i (j - i).toNat))
  | _ => .stuck
theorem wkR {K : PySem.W.Frag} {F : Hp} {lo : Int} {n : Nat} : WkF false C K F (Itr lo n) (rngL lo n) := by
  intro F2 H2 i g2 sb
  refine ⟨fun hi => (by simpa [rngL] using hi : n ≤ i), fun d hd => ?_⟩
  unfold rngL at hd
  rw [List.getElem?_map] at hd
  cases hr : (List.range n)[i]? with
  | none => rw [hr] at hd; cases hd
  | some j =>
    obtain ⟨h1, h2⟩ := List.getElem?_eq_some_iff.mp hr
    have hi : i < n := by simpa using h1
    have hj : j = i := by rw [← h2]; simp
    rw [hr, hj] at hd
    cases hd
    refine ⟨hi, fun x H3 ⟨e, hx⟩ => ?_⟩
    subst e hx
    exact ⟨F2, fun W => .refl g2, .inl (.int _)⟩
theorem df_range1 (hg : Gl X "range") (hm : X.mg "range" = none) (ha : DAR X C E ρ [a] ms) (hs : starEach [a] X.env = [(false, eval a X.env)] := by rfl) : DF X C E ρ false tg (.Call (.Name "range" p) [a] [] pos) (ms >>= rng1M) := by
  obtain ⟨t, h1, h2⟩ := ha
  refine ⟨_, pi_range1 hg hm h1 hs, fun σ F H R k hm => h2 σ F H _ k (ms.mono (fun ds q vs F' H' x r => ?_) (fun _ r => r) hm)⟩
  match ds, q with
  | [.int j], q =>
    obtain ⟨v, rfl, r1⟩ := paired1 r
    obtain ⟨hl, q⟩ := guard_run q
    have hl := of_decide_eq_true hl
    rw [r1.int]
    exact ⟨j, rfl, by omega, by omega, q _ F' H' x wkR⟩
theorem df_range2 (hg : Gl X "range") (hm : X.mg "range" = none) (ha : DAR X C E ρ [a, b] ms) (hs : starEach [a, b] X.env = [(false, eval a X.env), (false, eval b X.env)] := by rfl) (hs2 : starEach [b] X.env = [(false, eval b X.env)] := by rfl) : DF X C E ρ false tg (.Call (.Name "range" p) [a, b] [] pos) (ms >>= rng2M) := by
  obtain ⟨t, h1, h2⟩ := ha
  refine ⟨_, pi_range2 hg hm h1 hs hs2, fun σ F H R k hm => h2 σ F H _ k (ms.mono (fun ds q vs F' H' x r => ?_) (fun _ r => r) hm)⟩
  match ds, q with
  | [.int i, .int j], q =>
    obtain ⟨v, w, rfl, r1, r2⟩ := paired2 r
    obtain ⟨hl, q⟩ := guard_run q
    rw [Bool.and_eq_true] at hl
    have hl1 := of_decide_eq_true hl.1
    have hl2 := of_decide_eq_true hl.2
    rw [r1.int, r2.int]
    exact ⟨i, j, rfl, ⟨by omega, by omega, by omega, by omega⟩, q _ F' H' x wkR⟩
def zipL (xs ys : List PyData) : List PyData := (xs.zip ys).map fun p => .tuple [p.1, p.2]
def zipM : List PyData → M (List PyData)
  | [.list xs, .list ys] => pure (zipL xs ys)
  | [.tuple xs, .tuple ys] => pure (zipL xs ys)
  | _ => .stuck
theorem zipL_get {xs ys : List PyData} {i : Nat} {d : PyData} (h : (zipL xs ys)[i]? = some d) : ∃ x y, xs[i]? = some x ∧ ys[i]? = some y ∧ d = .tuple [x, y] := by
  unfold zipL at h
  rw [List.getElem?_map] at h
  cases hz : (xs.zip ys)[i]? with
  | none => rw [hz] at h; cases h
  | some p =>
    rw [hz] at h
    obtain ⟨h1, h2⟩ := List.getElem?_zip_eq_some.mp hz
    exact ⟨p.1, p.2, h1, h2, (Option.some.inj h).symm⟩
theorem pair_new {K : PySem.W.Frag} {F H : Hp} {T : Addr} {x y : V} {d e : PyData} (g : GS C F H) (hT : H T = none) (hx : Dp K F x d) (hy : Dp K F y e) : ∃ F3, (∀ W, Ext C K W F H F3 (upd H T (.tup [x, y]))) ∧ DpL true K F3 (.ref T) (.tuple [d, e]) := by
  have q := fun W => ext_newF (K := K) (W := W) (o := .tup [x, y]) g hT (fun ps e => by cases e)
  have fs := (q fun _ => False).2
  exact ⟨_, fun W => (q W).1, .inr ⟨rfl, _, _, _, rfl, rfl, .inl (.inl upd_same), .cons (dp_mono fs _ _ hx) (.cons (dp_mono fs _ _ hy) .nil)⟩⟩
theorem wkZ {K : PySem.W.Frag} {F : Hp} {a b : Addr} {xs ys : List V} {ds es : List PyData} (hx : SqL K F a xs) (hy : SqL K F b ys) (dx : DpAll K F xs ds) (dy : DpAll K F ys es) : WkF true C K F (Itz K a b) (zipL ds es) := by
  intro F2 H2 i g2 sb
  have hx2 := sql_mono g2.sub (sql_mono sb hx)
  have hy2 := sql_mono g2.sub (sql_mono sb hy)
  have dx2 := dpAll_mono sb _ _ dx
  have dy2 := dpAll_mono sb _ _ dy
  refine ⟨fun hi => ⟨xs, ys, hx2, hy2, ?_⟩, fun d hd => ?_⟩
  · rw [DpAll.length dx, DpAll.length dy]
    have : (zipL ds es).length = min ds.length es.length := by simp [zipL]
    omega
  · obtain ⟨c, c', h1, h2, rfl⟩ := zipL_get hd
    obtain ⟨v, hv, dv⟩ := DpAll.get dx2 h1
    obtain ⟨w, hw, dw⟩ := DpAll.get dy2 h2
    refine ⟨⟨xs, ys, v, w, hx2, hy2, hv, hw⟩, fun x H3 ⟨T, x1, y1, e, hT, e3, q1, q2⟩ => ?_⟩
    have z1 := q1 xs hx2
    have z2 := q2 ys hy2
    rw [hv] at z1
    rw [hw] at z2
    cases z1
    cases z2
    subst e e3
    exact pair_new g2 hT dv dw
theorem wkZT {K : PySem.W.Frag} {F : Hp} {a b : Addr} {xs ys : List V} {ds es : List PyData} (hx : SqT K F a xs) (hy : SqT K F b ys) (dx : DpAll K F xs ds) (dy : DpAll K F ys es) : WkF true C K F (RZ.ItzT K a b) (zipL ds es) := by
  intro F2 H2 i g2 sb
  have hx2 := sqt_mono g2.sub (sqt_mono sb hx)
  have hy2 := sqt_mono g2.sub (sqt_mono sb hy)
  have dx2 := dpAll_mono sb _ _ dx
  have dy2 := dpAll_mono sb _ _ dy
  refine ⟨fun hi => ⟨xs, ys, hx2, hy2, ?_⟩, fun d hd => ?_⟩
  · rw [DpAll.length dx, DpAll.length dy]
    have : (zipL ds es).length = min ds.length es.length := by simp [zipL]
    omega
  · obtain ⟨c, c', h1, h2, rfl⟩ := zipL_get hd
    obtain ⟨v, hv, dv⟩ := DpAll.get dx2 h1
    obtain ⟨w, hw, dw⟩ := DpAll.get dy2 h2
    refine ⟨⟨xs, ys, v, w, hx2, hy2, hv, hw⟩, fun x H3 ⟨T, x1, y1, e, hT, e3, q1, q2⟩ => ?_⟩
    have z1 := q1 xs hx2
    have z2 := q2 ys hy2
    rw [hv] at z1
    rw [hw] at z2
    cases z1
    cases z2
    subst e e3
    exact pair_new g2 hT dv dw
theorem dpAll2 {K : PySem.W.Frag} {F : Hp} {vs : List V} {d e : PyData} (h : DpAll K F vs [d, e]) : ∃ v w, vs = [v, w] ∧ Dp K F v d ∧ Dp K F w e := by
  cases h with
  | cons a r => cases r with | cons b r => cases r with | nil => exact ⟨_, _, rfl, a, b⟩
theorem df_zip {elts : List Expr} {kk : Nat} (hg : Gl X "zip") (hm : X.mg "zip" = none) (ha : DA X C E ρ [a, b] ms) (hs : starEach [a, b] X.env = (false, eval a X.env) :: starEach [b] X.env := by rfl) (hpl : (backTo pos (starEach [b] X.env)).any (·.1) = false := by rfl) :
    DF X C E ρ true (.Tuple elts kk tpos) (.Call (.Name "zip" p) [a, b] [] pos) (ms >>= zipM) := by
  obtain ⟨t, h1, h2⟩ := ha
  refine ⟨_, RZ.pi_zipA hg hm h1 hs hpl, fun σ F H R k hm => h2 σ F H _ k (ms.mono (fun ds q vs F' H' x r => ?_) (fun _ r => r) hm)⟩
  match ds, q with
  | [.list xs, .list ys], q =>
    obtain ⟨v, w, rfl, r1, r2⟩ := dpAll2 r
    cases r1 with
    | lst hs hd => cases r2 with | lst hs2 hd2 => exact ⟨_, _, _, _, rfl, .inl ⟨sql_mono x.gs.sub hs, sql_mono x.gs.sub hs2, q _ F' H' x (wkZ hs hs2 hd hd2)⟩⟩
  | [.tuple xs, .tuple ys], q =>
    obtain ⟨v, w, rfl, r1, r2⟩ := dpAll2 r
    cases r1 with
    | tup hs hd => cases r2 with | tup hs2 hd2 => exact ⟨_, _, _, _, rfl, .inr ⟨sqt_mono x.gs.sub hs.sq, sqt_mono x.gs.sub hs2.sq, q _ F' H' x (wkZT hs.sq hs2.sq hd hd2)⟩⟩
end
end DL

set_option Elab.async false
set_option linter.all false
set_option maxRecDepth 100000
set_option maxHeartbeats 4000000
/-! the data layer: targets, comprehensions, all and any of generator expressions -/
namespace DL
open PySem PySem.Spec PyProof.Rows L2

/-! ### slots set, wiped -/
def slotFree (ρ : REnv) (i : Nat) : Bool := match ρ[i]? with
  | some none => true
  | some (some (.val _)) => true
  | some (some (.obj _)) => true
  | some (some (.fob _)) => true
  | some (some (.dic _)) => true
  | _ => false
def wipeR (ρ : REnv) : List Nat → REnv
  | [] => ρ
  | v :: vs => (wipeR ρ vs).set v none
section
variable {C : DC} {K : PySem.W.Frag} {ρ : REnv} {σ : L2.St} {F H : Hp}
theorem Ok.putS {i : Nat} {v : V} {d : PyData} (k : Ok C K ρ σ F H) (h : Dp K F v d) (hi : i < ρ.length) : Ok C K (ρ.set i (some (.val d))) (σ.set i (some v)) F H := by
  refine ⟨k.gs, by rw [List.length_set, List.length_set]; exact k.len, fun j s hs => ?_, fun j l s t a hjl hs ht ms mt hj => ?_⟩
  · by_cases e : j = i
    · subst e
      rw [List.getElem?_set_self hi] at hs
      cases hs
      exact ⟨v, by rw [List.getElem?_set_self (by rw [k.len]; exact hi)], h⟩
    · rw [List.getElem?_set_ne (Ne.symm e)] at hs ⊢
      exact k.sl j s hs
  · by_cases e : j = i
    · subst e
      rw [List.getElem?_set_self hi] at hs
      cases hs
      cases ms
    · by_cases e2 : l = i
      · subst e2
        rw [List.getElem?_set_self hi] at ht
        cases ht
        cases mt
      · rw [List.getElem?_set_ne (Ne.symm e)] at hs hj
        rw [List.getElem?_set_ne (Ne.symm e2)] at ht ⊢
        exact k.dj j l s t a hjl hs ht ms mt hj
theorem Ok.drop1 (k : Ok C K ρ σ F H) (i : Nat) : Ok C K (ρ.set i none) (σ.set i none) F H := by
  have key : ∀ (j : Nat) s, (ρ.set i none)[j]? = some (some s) → ρ[j]? = some (some s) ∧ j ≠ i := fun j s hs => by
    by_cases e : i = j
    · subst e
      rw [List.getElem?_set] at hs
      simp only [if_true] at hs
      split at hs <;> cases hs
    · rw [List.getElem?_set_ne e] at hs
      exact ⟨hs, Ne.symm e⟩
  refine ⟨k.gs, by rw [List.length_set, List.length_set]; exact k.len, fun j s hs => ?_, fun j l s t a hjl hs ht ms mt hj => ?_⟩
  · obtain ⟨h1, h2⟩ := key j s hs
    rw [List.getElem?_set_ne (Ne.symm h2)]
    exact k.sl j s h1
  · obtain ⟨h1, h2⟩ := key j s hs
    obtain ⟨h3, h4⟩ := key l t ht
    rw [List.getElem?_set_ne (Ne.symm h2)] at hj
    rw [List.getElem?_set_ne (Ne.symm h4)]
    exact k.dj j l s t a hjl h1 h3 ms mt hj
theorem Ok.wiped (k : Ok C K ρ σ F H) : ∀ vs : List Nat, Ok C K (wipeR ρ vs) (wipe σ vs) F H
  | [] => k
  | v :: vs => (Ok.wiped k vs).drop1 v
theorem drA_put {i : Nat} {v : V} {d : PyData} (hs : slotFree ρ i = true) : drA (ρ.set i (some (.val d))) (σ.set i (some v)) = drA ρ σ := by
  funext a
  apply propext
  have hne : ρ[i]? ≠ some (some .drw) := fun e => by unfold slotFree at hs; rw [e] at hs; cases hs
  have hlt : i < ρ.length := by
    cases q : ρ[i]? with
    | none => unfold slotFree at hs; rw [q] at hs; cases hs
    | some z => exact (List.getElem?_eq_some_iff.mp q).1
  constructor
  · rintro ⟨j, h1, h2⟩
    by_cases e : i = j
    · subst e
      rw [List.getElem?_set_self hlt] at h1
      cases h1
    · rw [List.getElem?_set_ne e] at h1 h2
      exact ⟨j, h1, h2⟩
  · rintro ⟨j, h1, h2⟩
    have e : i ≠ j := fun z => by subst z; exact hne h1
    exact ⟨j, by rw [List.getElem?_set_ne e]; exact h1, by rw [List.getElem?_set_ne e]; exact h2⟩
theorem drA_drop {i : Nat} {a : Addr} (h : drA (ρ.set i none) (σ.set i none) a) : drA ρ σ a := by
  obtain ⟨j, h1, h2⟩ := h
  by_cases e : i = j
  · subst e
    rw [List.getElem?_set] at h1
    simp only [if_true] at h1
    split at h1 <;> cases h1
  · rw [List.getElem?_set_ne e] at h1 h2
    exact ⟨j, h1, h2⟩
theorem drA_wipe {a : Addr} : ∀ (vs : List Nat), drA (wipeR ρ vs) (wipe σ vs) a → drA ρ σ a
  | [], h => h
  | _ :: vs, h => drA_wipe vs (drA_drop h)
theorem wipe_set {i : Nat} {x : Option V} : ∀ {vs : List Nat}, i ∈ vs → wipe (σ.set i x) vs = wipe σ vs
  | v :: vs, h => by
    show (wipe (σ.set i x) vs).set v none = (wipe σ vs).set v none
    by_cases e : i ∈ vs
    · rw [wipe_set e]
    · have ev : i = v := by
        rcases List.mem_cons.mp h with q | q
        · exact q
        · exact absurd q e
      subst ev
      have gen : ∀ (us : List Nat), i ∉ us → wipe (σ.set i x) us = (wipe σ us).set i x := by
        intro us
        induction us with
        | nil => intro _; rfl
        | cons u us ih =>
          intro hu
          show (wipe (σ.set i x) us).set u none = ((wipe σ us).set u none).set i x
          rw [ih fun z => hu (List.mem_cons_of_mem _ z), List.set_comm _ _ (fun z => hu (by rw [z]; exact List.mem_cons_self))]
      rw [gen vs e, List.set_set]
theorem wipe_mem {i : Nat} (hi : i < σ.length) : ∀ {vs : List Nat}, i ∈ vs → (wipe σ vs)[i]? = some none
  | v :: vs, h => by
    show ((wipe σ vs).set v none)[i]? = some none
    by_cases e : v = i
    · subst e
      rw [List.getElem?_set_self (by rw [wipe_length]; exact hi)]
    · rw [List.getElem?_set_ne e]
      rcases List.mem_cons.mp h with q | q
      · exact absurd q.symm e
      · exact wipe_mem hi q
theorem wipe_idem (vs : List Nat) : wipe (wipe σ vs) vs = wipe σ vs := by
  apply List.ext_getElem?
  intro i
  by_cases hi : i < σ.length
  · by_cases hv : i ∈ vs
    · rw [wipe_mem (by rw [wipe_length]; exact hi) hv, wipe_mem hi hv]
    · rw [wipe_out hv]
  · have e1 : (wipe (wipe σ vs) vs)[i]? = none := by rw [List.getElem?_eq_none_iff, wipe_length, wipe_length]; omega
    have e2 : (wipe σ vs)[i]? = none := by rw [List.getElem?_eq_none_iff, wipe_length]; omega
    rw [e1, e2]
theorem gs_atO {a : Addr} {o o' : HO} (g : GS C F H) (hF : F a = none) (ha : H a = some o) (nt : ∀ ps, o ≠ .tbl ps) (nc : ∀ c q, o ≠ LamX.CodeO c q) : GS C F (upd H a o') := by
  refine ⟨fun b o h => ?_, g.nt, fun P hP => ?_, fun p hp => ?_⟩
  · rw [upd_ne (fun z => by rw [z, hF] at h; cases h)]
    exact g.sub b o h
  · obtain ⟨ps, h1, h2⟩ := g.tabs P hP
    exact ⟨ps, by rw [upd_ne (fun z => by rw [z, ha] at h1; exact nt ps (Option.some.inj h1))]; exact h1, h2⟩
  · obtain ⟨ps, h1, h2⟩ := g.lams p hp
    refine ⟨ps, by rw [upd_ne (fun z => by rw [z, ha] at h1; exact nt ps (Option.some.inj h1))]; exact h1, h2.1, fun pos cv hc => ?_⟩
    obtain ⟨c, e, hcc⟩ := h2.2 pos cv hc
    refine ⟨c, e, ?_⟩
    rw [upd_ne (fun z => by rw [z, ha] at hcc; exact nc _ _ (Option.some.inj hcc))]
    exact hcc
theorem gs_at {a : Addr} {vs : List V} {o' : HO} (g : GS C F H) (hF : F a = none) (ha : H a = some (.lst vs)) : GS C F (upd H a o') :=
  gs_atO g hF ha (fun _ z => HO.noConfusion z) fun _ _ z => HO.noConfusion z
/-- a list of one's own that has come since is changed -/
theorem ext_atO {W : Addr → Prop} {F0 H0 : Hp} {a : Addr} {o o' : HO} (x : Ext C K W F0 H0 F H) (hn : H0 a = none) (hF : F a = none) (ha : H a = some o) (nt : ∀ ps, o ≠ .tbl ps) (nc : ∀ c q, o ≠ LamX.CodeO c q) : Ext C K W F0 H0 F (upd H a o') := by
  have ne : ∀ b, H0 b ≠ none → b ≠ a := fun b h z => h (by rw [z]; exact hn)
  refine ⟨fun b o h n w => ?_, fun b h => ?_, x.frz, gs_atO x.gs hF ha nt nc, fun b w d => ?_⟩
  · rw [upd_ne (ne b (by rw [h]; simp))]
    exact x.same b o h n w
  · rw [upd_ne (ne b h)]
    exact x.dom b h
  · have hb : b ≠ a := ne b (by obtain ⟨sv, ns, i, j, r, h1, _⟩ := d; rw [h1]; simp)
    exact drw_same (F := F) (H := H) (fun o h _ => by rw [upd_ne hb]; exact h) rfl (fun _ _ h => h) (x.drw b w d)
theorem ext_at {W : Addr → Prop} {F0 H0 : Hp} {a : Addr} {vs : List V} {o' : HO} (x : Ext C K W F0 H0 F H) (hn : H0 a = none) (hF : F a = none) (ha : H a = some (.lst vs)) : Ext C K W F0 H0 F (upd H a o') :=
  ext_atO x hn hF ha (fun _ z => HO.noConfusion z) fun _ _ z => HO.noConfusion z
theorem drw_has {a : Addr} (k : Ok C K ρ σ F H) (h : drA ρ σ a) : H a ≠ none := by
  obtain ⟨j, h1, h2⟩ := h
  obtain ⟨v, h3, b, rfl, sv, ns, i, jj, r, h4, _⟩ := k.sl j _ h1
  rw [h2] at h3
  cases h3
  rw [h4]
  simp
end

/-! ### targets -/
structure DG (X : Cx) (C : DC) (lz : Bool) (ρ : REnv) (vs : List Nat) (tg : Expr) {γ : Type} (pat : PyData → M γ) (ρ' : γ → REnv) (g : TG) : Prop where
  pg : PG X tg g
  ok : ∀ σ F H (Q : L2.St → Hp → Prop) v d, Ok C X.K ρ σ F H → DpL lz X.K F v d → (pat d).run (fun c => ∀ σ', Ok C X.K (ρ' c) σ' F H → drA (ρ' c) σ' = drA ρ σ → wipe σ' vs = wipe σ vs → Q σ' H) (fun _ => False) → g v σ H Q
def patN (d : PyData) : M PyData := pure d
def pat2 : PyData → M (PyData × PyData)
  | .tuple [a, b] => pure (a, b)
  | _ => .stuck
def pat3 : PyData → M (PyData × PyData × PyData)
  | .tuple [a, b, c] => pure (a, b, c)
  | _ => .stuck
theorem slot_lt {ρ : REnv} {i : Nat} (h : slotFree ρ i = true) : i < ρ.length := by
  cases q : ρ[i]? with
  | none => unfold slotFree at h; rw [q] at h; cases h
  | some z => exact (List.getElem?_eq_some_iff.mp q).1
section
variable {X : Cx} {C : DC} {E : XK} {ρ : REnv} {vs : List Nat} {x y z : Str} {p p2 p3 pos : Pos} {i j l : Nat}
theorem dg_name (hN : X.N.Nodup) (hi : X.N[i]? = some x) (hx : Loc X.env.scope x) (hs : slotFree ρ i = true) (hv : i ∈ vs) (hf : X.fn x = true ∨ X.env.scope.names.lookup x = some .local := by first | exact .inl rfl | exact .inr rfl) :
    DG X C false ρ vs (.Name x p) patN (fun d => ρ.set i (some (.val d))) (gName i) :=
  ⟨pg_name hN hi hx hf, fun σ F H Q v d k h q => q _ (k.putS h.strict (slot_lt hs)) (drA_put hs) (wipe_set hv)⟩
theorem dg_2 {lz : Bool} {k : Nat} {K : PySem.W.Frag} (hK : X.K = K) (hc : X.calm = true) (hN : X.N.Nodup) (hi : X.N[i]? = some x) (hx : Loc X.env.scope x) (hj : X.N[j]? = some y) (hy : Loc X.env.scope y) (hs : slotFree ρ i = true) (hs2 : ∀ d, slotFree (ρ.set i (some (.val d))) j = true) (hv : i ∈ vs) (hv2 : j ∈ vs)
    (hf : X.fn x = true ∨ X.env.scope.names.lookup x = some .local := by first | exact .inl rfl | exact .inr rfl) (hf2 : X.fn y = true ∨ X.env.scope.names.lookup y = some .local := by first | exact .inl rfl | exact .inr rfl)
    (hn : (assignEach [.Name x p, .Name y p2] X.env).length = 2 := by rfl) (hst : (assignEach [.Name x p, .Name y p2] X.env).findIdx? (·.1) = none := by rfl) :
    DG X C lz ρ vs (.Tuple [.Name x p, .Name y p2] k pos) pat2 (fun c => (ρ.set i (some (.val c.1))).set j (some (.val c.2))) (gTup K 2 (gCons (gName i) (gCons (gName j) gNil))) := by
  subst hK
  have hpg : PGs X [.Name x p, .Name y p2] (gCons (gName i) (gCons (gName j) gNil)) := pgs_cons (pg_name hN hi hx hf) (pgs_cons (pg_name hN hj hy hf2) pgs_nil)
  refine ⟨pg_tup hc hpg hn hst, fun σ F H Q v d k h q => ?_⟩
  match d, q with
  | .tuple [a, b], q =>
    obtain ⟨a0, vs0, rfl, hs1, hd⟩ := h.tuple
    · obtain ⟨v1, v2, rfl, d1, d2⟩ := dpAll2 hd
      refine ⟨_, _, rfl, sqt_mono k.gs.sub hs1, rfl, v1, [v2], rfl, v2, [], rfl, rfl, ?_⟩
      refine q _ ((k.putS d1 (slot_lt hs)).putS d2 (slot_lt (hs2 a))) ?_ ?_
      · rw [drA_put (hs2 a), drA_put hs]
      · rw [wipe_set hv2, wipe_set hv]
end

/-! ### comprehensions -/
def M.noe {α : Type} (m : M α) : M α := ⟨fun P _ => m.run P (fun _ => False), fun h _ x => m.mono h (fun _ z => z) x⟩
def compM {γ : Type} (pat : PyData → M γ) (mt : γ → M Bool) (f : γ → M PyData) : List PyData → M (List PyData)
  | [] => pure []
  | d :: r => M.noe (pat d >>= fun c => mt c >>= fun b => if b = true then f c >>= fun y => pure (some y) else pure none) >>= fun o => compM pat mt f r >>= fun ys => pure (match o with | some y => y :: ys | none => ys)
def DTs (X : Cx) (C : DC) (E : XK) (ρ : REnv) (ifs : List Expr) (m : M Bool) : Prop := PTs X ifs (tDT C X.K E ρ m)
section
variable {X : Cx} {C : DC} {E : XK} {ρ : REnv} {e : Expr} {γ : Type}
theorem dts_nil : DTs X C E ρ [] (pure true) := ⟨fun pins s σ H Q I ⟨F, k, hq⟩ => pts_nil.run pins s σ H Q I (hq F H (.refl k.gs))⟩
theorem dts_one {m : M Bool} (h : DT X C E ρ e m) : DTs X C E ρ [e] m := pts_one h.pt
def LcInv (C : DC) (K : PySem.W.Frag) (W : Addr → Prop) (pat : PyData → M γ) (mt : γ → M Bool) (f : γ → M PyData) (ds : List PyData) (F0 H0 F1 H1 : Hp) (D : Addr) (Q : VK) (i : Nat) (H : Hp) : Prop :=
  i ≤ ds.length ∧ ∃ F ws es, Ext C K W F1 H1 F H ∧ H D = some (.lst ws) ∧ F D = none ∧ DpAll K F ws es ∧ es.length ≤ i ∧
    (compM pat mt f (ds.drop i)).run (fun ys => ∀ a vs F' H', Ext C K W F0 H0 F' H' → H0 a = none → F' a = none → H' a = some (.lst vs) → DpAll K F' vs (es ++ ys) → Q (.ref a) H') (fun _ => True)
theorem fun_run {K : PySem.W.Frag} {W : Addr → Prop} {F H : Hp} {α : Type} {m : M α} {P : α → Prop} (h : m.run P (fun _ => False)) : m.run P (RE C K E0 W F H) := m.mono (fun _ x => x) (fun _ z => z.elim) h
abbrev tLcT (C : DC) (K : PySem.W.Frag) (ρ' : γ → REnv) (mt : γ → M Bool) : TT := fun σ H Q => ∃ c, tDT C K E0 (ρ' c) (mt c) σ H Q
abbrev tLcE (C : DC) (K : PySem.W.Frag) (ρ' : γ → REnv) (f : γ → M PyData) : TE := fun σ H Q => ∃ c, tDE C K E0 (ρ' c) (f c) σ H Q
theorem lc_spec {lz : Bool} {A : Cx} {vs : List Nat} {tg : Expr} {pat : PyData → M γ} {ρ' : γ → REnv} {g : TG} {wi : TI} {mi : M (List PyData)} {mt : γ → M Bool} {f : γ → M PyData} (hK : A.K = X.K)
    (hi2 : ∀ σ F H (R : It → Hp → Prop), Ok C X.K ρ σ F H → mi.run (fun ds => ∀ J F' H', Ext C X.K (drA ρ σ) F H F' H' → Wk lz C X.K (drA ρ σ) F' H' J ds → R J H') (RE C X.K E (drA ρ σ) F H) → wi σ H R)
    {Q : VK} (dg : DG A C lz (wipeR ρ vs) vs tg pat ρ' g) (σ : L2.St) (F0 H0 : Hp) (k0 : Ok C X.K ρ σ F0 H0)
    (hm : (mi >>= fun ds => M.guard (decide (ds.length ≤ sizeLine)) (compM pat mt f ds)).run (fun ds => ∀ a vs F' H', Ext C X.K (drA ρ σ) F0 H0 F' H' → H0 a = none → F' a = none → H' a = some (.lst vs) → DpAll X.K F' vs ds → Q (.ref a) H') (RE C X.K E (drA ρ σ) F0 H0)) :
    tLc wi g (tLcT C X.K ρ' mt) (tLcE C X.K ρ' f) vs σ H0 Q := by
  refine hi2 σ F0 H0 _ k0 (mi.mono (fun ds q J F1 H1 x1 wk D hD => ?_) (fun _ r => r) hm)
  obtain ⟨hl, q⟩ := guard_run q
  have hl := of_decide_eq_true hl
  have k1 := k0.ext x1
  generalize hW : drA ρ σ = W at *
  have nD : ¬ W D := fun w => drw_has k1 (by rw [hW]; exact w) hD
  refine ⟨fun i m H => m = ds.length - i ∧ LcInv C X.K W pat mt f ds F0 H0 F1 H1 D Q i H, ⟨_, rfl, Nat.zero_le _, F1, [], [], ext_new x1.gs hD, upd_same, (none_back (.refl x1.gs : Ext C X.K W F1 H1 F1 H1) hD).2, .nil, Nat.le_refl _, ?_⟩, fun i m H ⟨hm, hile, F, ws, es, x, hDH, hDF, hd, hlen, hr⟩ => ?_⟩
  · exact (compM pat mt f ds).mono (fun ys q => q) (fun _ _ => trivial) q
  · have wki := wk F H i x
    by_cases hlt : i < ds.length
    · have hdrop : ds.drop i = ds[i] :: ds.drop (i + 1) := List.drop_eq_getElem_cons hlt
      rw [hdrop] at hr
      obtain ⟨hgo, hy⟩ := wki.2 ds[i] (List.getElem?_eq_getElem hlt)
      refine .inr ⟨hgo, LcInv C X.K W pat mt f ds F0 H0 F1 H1 D Q (i + 1), fun H' h => ⟨ds.length - (i + 1), by omega, rfl, h⟩, fun u H3 hu => ?_⟩
      obtain ⟨F3, x3, hd3⟩ := hy u H3 hu
      have x13 := x.trans (x3 W)
      have k3 : Ok C X.K (wipeR ρ vs) (wipe σ vs) F3 H3 := (k1.ext (by rw [hW]; exact x13)).wiped vs
      have hr : (pat ds[i]).run (fun c => (mt c).run (fun b => (if b = true then f c >>= fun y => pure (some y) else pure none : M (Option PyData)).run (fun o => (compM pat mt f (ds.drop (i + 1))).run (fun ys => ∀ a vs F' H', Ext C X.K W F0 H0 F' H' → H0 a = none → F' a = none → H' a = some (.lst vs) → DpAll X.K F' vs (es ++ (match o with | some y => y :: ys | none => ys)) → Q (.ref a) H') (fun _ => True)) (fun _ => False)) (fun _ => False)) (fun _ => False) := hr
      refine dg.ok (wipe σ vs) F3 H3 _ u ds[i] (by rw [hK]; exact k3) (by rw [hK]; exact hd3) ((pat ds[i]).mono (fun c hr σ' k' hdr hwp => ⟨by rw [hwp, wipe_idem], c, F3, by rw [← hK]; exact k', fun_run ?_⟩) (fun _ z => z) hr)
      have k' : Ok C X.K (ρ' c) σ' F3 H3 := by rw [← hK]; exact k'
      have sub : ∀ a, drA (ρ' c) σ' a → W a := fun a h => by rw [hdr] at h; rw [← hW]; exact drA_wipe vs h
      have hD3 : H3 D = some (.lst ws) := (x3 W).same D _ hDH (fun ps e => by cases e) nD
      have hDF3 : F3 D = none := (x3 W).fnone (by rw [hDH]; simp) hDF
      have hd3' := dpAll_mono ((x3 W).fsub x.gs) _ _ hd
      refine (mt c).mono (fun b hb F4 H4 x4 => ?_) (fun _ z => z) hr
      have x4w := x4.wide k3.gs sub
      have x14 := x13.trans x4w
      have hD4 : H4 D = some (.lst ws) := x4w.same D _ hD3 (fun ps e => by cases e) nD
      have hDF4 : F4 D = none := x4w.fnone (by rw [hD3]; simp) hDF3
      have hd4 := dpAll_mono (x4w.fsub x13.gs) _ _ hd3'
      cases b with
      | true =>
        rw [if_pos rfl] at hb
        dsimp only
        rw [if_pos rfl]
        refine ⟨c, F4, k'.ext x4, fun_run ((f c).mono (fun y hy v F5 H5 x5 hv => ?_) (fun _ z => z) (show (f c).run _ _ from hb))⟩
        have x5w := x5.wide x4w.gs sub
        have x15 := x14.trans x5w
        have hD5 : H5 D = some (.lst ws) := x5w.same D _ hD4 (fun ps e => by cases e) nD
        have hDF5 : F5 D = none := x5w.fnone (by rw [hD4]; simp) hDF4
        have hd5 := dpAll_mono (x5w.fsub x14.gs) _ _ hd4
        refine ⟨ws, hD5, by rw [DpAll.length hd]; omega, hlt, F5, ws ++ [v], es ++ [y], ext_at x15 hD hDF5 hD5, upd_same, hDF5, DpAll.append hd5 (.cons hv .nil), by rw [List.length_append, List.length_singleton]; omega, ?_⟩
        refine (compM pat mt f (ds.drop (i + 1))).mono (fun ys q => ?_) (fun _ z => z) hy
        rw [List.append_assoc]
        exact q
      | false =>
        rw [if_neg Bool.false_ne_true] at hb
        dsimp only
        rw [if_neg Bool.false_ne_true]
        exact ⟨hlt, F4, ws, es, x14, hD4, hDF4, hd4, by omega, hb⟩
    · have hi : i = ds.length := by omega
      refine .inl ⟨wki.1 (by omega), ?_⟩
      rw [List.drop_eq_nil_of_le (by omega)] at hr
      have hr : ∀ a vs F' H', Ext C X.K W F0 H0 F' H' → H0 a = none → F' a = none → H' a = some (.lst vs) → DpAll X.K F' vs (es ++ []) → Q (.ref a) H' := hr
      refine hr D ws F H (x1.trans x) (none_back x1 hD).1 hDF hDH ?_
      rw [List.append_nil]
      exact hd
theorem dl_lc {lz : Bool} {elt tg iter : Expr} {ifs : List Expr} {scope : Scope} {own : List (Str × Nat)} {pos : Pos} {pat : PyData → M γ} {ρ' : γ → REnv} {g : TG} {mi : M (List PyData)} {mt : γ → M Bool} {f : γ → M PyData} (hc : X.calm = true) (hN : X.N.Nodup) (hi : DI X C E ρ lz tg iter mi) (ok : BlkOk X.N X.env.scope scope own)
    (hg : ∀ (s : Shared) (H : Hp) (A : Addr) (cl : List (Str × Addr)) (fp : List Addr), DG (X.blk s H scope (compEnvC scope cl A X.env) fp) C lz (wipeR ρ (own.map (·.2))) (own.map (·.2)) tg pat ρ' g)
    (ht : ∀ (s : Shared) (H : Hp) (A : Addr) (cl : List (Str × Addr)) (fp : List Addr) c, DTs (X.blk s H scope (compEnvC scope cl A X.env) fp) C E0 (ρ' c) ifs (mt c))
    (he : ∀ (s : Shared) (H : Hp) (A : Addr) (cl : List (Str × Addr)) (fp : List Addr) c, DE (X.blk s H scope (compEnvC scope cl A X.env) fp) C E0 (ρ' c) elt (f c)) (hs : ∀ x, foldedSetIterable iter X.env x = pure x := by intro _; rfl) :
    DL X C E ρ (.ListComp elt [⟨tg, iter, ifs, 0⟩] scope pos) (mi >>= fun ds => .guard (decide (ds.length ≤ sizeLine)) (compM pat mt f ds)) := by
  obtain ⟨wi, hi1, hi2⟩ := hi
  refine ⟨_, pe_lc hc hN hi1 ok (fun s H A cl fp => (hg s H A cl fp).pg)
    (tt := tLcT C X.K ρ' mt) (fun s H A cl fp => ⟨fun pins s' σ H' Q I ⟨c, h⟩ => (ht s H A cl fp c).run pins s' σ H' Q I h⟩)
    (te := tLcE C X.K ρ' f) (fun s H A cl fp => ⟨fun pins s' σ H' Q I ⟨c, h⟩ => (he s H A cl fp c).pe.run pins s' σ H' Q I h⟩) hs, fun σ F0 H0 Q k0 hm => ?_⟩
  exact lc_spec (X := X) (A := X.blk X.s_0 H0 scope (compEnvC scope [] 0 X.env) []) rfl hi2 (hg X.s_0 H0 0 [] []) σ F0 H0 k0 hm
end
end DL

set_option Elab.async false
set_option linter.all false
set_option maxRecDepth 100000
set_option maxHeartbeats 4000000
/-! the data layer: all and any of generator expressions -/
namespace DL
open PySem PySem.Spec PyProof.Rows L2
section
variable {X : Cx} {C : DC} {E : XK} {ρ : REnv} {e : Expr} {γ : Type}
theorem ext_tab {K : PySem.W.Frag} {W : Addr → Prop} {F H H' : Hp} {P : Addr} (g : GS C F H) (hP : P ∈ C.TS) (hL : ∀ p ∈ C.TL, p.1 ≠ P) (t : GxR.Tabbed P H H') : Ext C K W F H F H' := by
  obtain ⟨ps, hp, _⟩ := g.tabs P hP
  have ne : ∀ a o, H a = some o → (∀ ps, o ≠ .tbl ps) → a ≠ P := fun a o h n z => by
    rw [z, hp] at h
    cases h
    exact n ps rfl
  have nf : ∀ a o, F a = some o → a ≠ P := fun a o h z => by
    have := g.sub a o h
    rw [z, hp] at this
    cases this
    exact g.nt a ps h
  refine ⟨fun a o h n _ => by rw [t.2 a (ne a o h n)]; exact h, fun a h => ?_, fun _ _ => rfl, ⟨fun a o h => by rw [t.2 a (nf a o h)]; exact g.sub a o h, g.nt, fun P' hP' => ?_, fun p hp' => ?_⟩, fun a _ d => ?_⟩
  · by_cases z : a = P
    · obtain ⟨ps', h', _⟩ := t.1
      rw [z, h']
      simp
    · rw [t.2 a z]
      exact h
  · by_cases z : P' = P
    · rw [z]
      exact t.1
    · obtain ⟨ps', h1, h2⟩ := g.tabs P' hP'
      exact ⟨ps', by rw [t.2 P' z]; exact h1, h2⟩
  · obtain ⟨ps', h1, h2, h3⟩ := g.lams p hp'
    refine ⟨ps', by rw [t.2 _ (hL p hp')]; exact h1, h2, fun pos cv hc => ?_⟩
    obtain ⟨c, e, hcc⟩ := h3 pos cv hc
    refine ⟨c, e, ?_⟩
    rw [t.2 c (ne c _ hcc fun ps z => HO.noConfusion z)]
    exact hcc
  · exact drw_same (fun o h n => by rw [t.2 a (ne a o h n)]; exact h) rfl (fun _ _ h => h) d
/-- all (stop = false), any (stop = true) -/
def gxM (stop : Bool) (pat : PyData → M γ) (f : γ → M Bool) : List PyData → M Bool
  | [] => pure (!stop)
  | d :: r => M.noe (pat d >>= f) >>= fun b => if b = stop then pure stop else gxM stop pat f r
def GxInv (C : DC) (K : PySem.W.Frag) (W : Addr → Prop) (stop : Bool) (pat : PyData → M γ) (f : γ → M Bool) (ds : List PyData) (F0 H0 F1 H1 : Hp) (Q : VK) (i : Nat) (H : Hp) : Prop :=
  i ≤ ds.length ∧ ∃ F, Ext C K W F1 H1 F H ∧ (gxM stop pat f (ds.drop i)).run (fun b => ∀ F' H', Ext C K W F0 H0 F' H' → Q (.bl b) H') (fun _ => True)
theorem gx_turns {lz : Bool} {A : Cx} {own : List Nat} {tg : Expr} {pat : PyData → M γ} {ρ' : γ → REnv} {g : TG} {f : γ → M Bool} {stop : Bool} {σ : L2.St} {F0 H0 F1 H1 H2 : Hp} {J : It} {ds : List PyData} {P : Addr} {Q : VK}
    (hK : A.K = X.K) (k0 : Ok C X.K ρ σ F0 H0) (x1 : Ext C X.K (drA ρ σ) F0 H0 F1 H1) (wk : Wk lz C X.K (drA ρ σ) F1 H1 J ds) (dg : DG A C lz (wipeR ρ own) own tg pat ρ' g) (hP : P ∈ C.TS) (hL : ∀ p ∈ C.TL, p.1 ≠ P) (t : GxR.Tabbed P H1 H2)
    (q : (gxM stop pat f ds).run (fun b => ∀ F' H', Ext C X.K (drA ρ σ) F0 H0 F' H' → Q (.bl b) H') (fun _ => True)) :
    ∃ n Pv, Pv 0 H2 ∧ GTurns J g (fun σ H Q => ∃ c, tDB C X.K E0 (ρ' c) (f c) σ H Q) own σ stop n Pv (fun H => Q (.bl (!stop)) H) (fun H => Q (.bl stop) H) := by
  have k1 := k0.ext x1
  generalize hW : drA ρ σ = W at *
  refine ⟨ds.length, GxInv C X.K W stop pat f ds F0 H0 F1 H1 Q, ⟨Nat.zero_le _, F1, ext_tab x1.gs hP hL t, q⟩, fun H ⟨_, F, x, hr⟩ => ?_, fun i H hlt ⟨_, F, x, hr⟩ => ?_⟩
  · rw [List.drop_eq_nil_of_le (Nat.le_refl _)] at hr
    exact ⟨(wk F H _ x).1 (Nat.le_refl _), (show ∀ F' H', Ext C X.K W F0 H0 F' H' → Q (.bl (!stop)) H' from hr) F H (x1.trans x)⟩
  · rw [List.drop_eq_getElem_cons hlt] at hr
    obtain ⟨hgo, hy⟩ := (wk F H i x).2 ds[i] (List.getElem?_eq_getElem hlt)
    refine ⟨hgo, fun u H3 hu => ?_⟩
    obtain ⟨F3, x3, hd3⟩ := hy u H3 hu
    have x13 := x.trans (x3 W)
    have k3 : Ok C X.K (wipeR ρ own) (wipe σ own) F3 H3 := (k1.ext (by rw [hW]; exact x13)).wiped own
    have hr : (pat ds[i]).run (fun c => (f c).run (fun b => (if b = stop then pure stop else gxM stop pat f (ds.drop (i + 1)) : M Bool).run (fun b => ∀ F' H', Ext C X.K W F0 H0 F' H' → Q (.bl b) H') (fun _ => True)) (fun _ => False)) (fun _ => False) := hr
    refine dg.ok (wipe σ own) F3 H3 _ u ds[i] (by rw [hK]; exact k3) (by rw [hK]; exact hd3) ((pat ds[i]).mono (fun c hr σ' k' hdr hwp => ⟨by rw [hwp, wipe_idem], c, F3, by rw [← hK]; exact k', fun_run ?_⟩) (fun _ z => z) hr)
    have sub : ∀ a, drA (ρ' c) σ' a → W a := fun a h => by rw [hdr] at h; rw [← hW]; exact drA_wipe own h
    refine (f c).mono (fun b hb F4 H4 x4 => ⟨b, rfl, fun e => ?_, fun e => ?_⟩) (fun _ z => z) hr
    · have x4w := x4.wide k3.gs sub
      subst e
      rw [if_pos rfl] at hb
      exact (show ∀ F' H', Ext C X.K W F0 H0 F' H' → Q (.bl b) H' from hb) F4 H4 (x1.trans (x13.trans x4w))
    · have x4w := x4.wide k3.gs sub
      rw [if_neg e] at hb
      exact ⟨hlt, F4, x13.trans x4w, hb⟩
section
variable {elt tg iter : Expr} {scope : Scope} {own : List (Str × Nat)} {gpos p pos : Pos} {pat : PyData → M γ} {ρ' : γ → REnv} {g : TG} {mi : M (List PyData)} {f : γ → M Bool} {k : Nat} {c P : Addr}
theorem db_all {lz : Bool} (hc : X.calm = true) (hN : X.N.Nodup) (hr : Room (k + 3) X.A) (hgl : Gl X "all") (hm : X.mg "all" = none) (TB : GxR.TabB X.base X.mg c P) (hcode : X.env.code = .ref c) (G : GnS X.N X.env.scope scope own) (hP : P ∈ C.TS) (hL : ∀ p ∈ C.TL, p.1 ≠ P) (hi : DI X C E ρ lz tg iter mi)
    (hg : ∀ (A : Around) (s : Shared) (H : Hp) (code : Value) (ex : List Addr), Room k A → DG (genCx X A s H scope code ex) C lz (wipeR ρ (own.map (·.2))) (own.map (·.2)) tg pat ρ' g)
    (he : ∀ (A : Around) (s : Shared) (H : Hp) (code : Value) (ex : List Addr), Room k A → ∀ c, DB (genCx X A s H scope code ex) C E0 (ρ' c) elt (f c))
    (hs : ∀ v, genFold iter X.env v = pure v := by intro _; rfl)
    (hst : starEach [gxE elt tg iter scope gpos] X.env = (false, eval (gxE elt tg iter scope gpos) X.env) :: starEach [] X.env := by rfl) :
    DB X C E ρ (.Call (.Name "all" p) [.GeneratorExp elt [⟨tg, iter, [], 0⟩] scope gpos] [] pos) (mi >>= gxM false pat f) := by
  obtain ⟨wi, hi1, hi2⟩ := hi
  refine ⟨_, pe_gxall (te := fun σ H Q => ∃ c, tDB C X.K E0 (ρ' c) (f c) σ H Q) hc hN hr hgl hm TB hcode G hi1 (fun A s H code ex r => (hg A s H code ex r).pg) (fun A s H code ex r => ⟨fun pins s' σ H' Q I ⟨c, h⟩ => (he A s H code ex r c).pe.run pins s' σ H' Q I h⟩) hs hst, fun σ F0 H0 Q k0 hm => hi2 σ F0 H0 _ k0 (mi.mono (fun ds q J F1 H1 x1 wk => ⟨x1.gs.tabs P hP, fun H2 t => ?_⟩) (fun _ r => r) hm)⟩
  exact gx_turns (X := X) (A := genCx X X.A X.s_0 H0 scope (.ref c) []) rfl k0 x1 wk (hg X.A X.s_0 H0 (.ref c) [] (hr.mono (by omega))) hP hL t ((gxM false pat f ds).mono (fun _ q => q) (fun _ _ => trivial) q)
theorem db_any {lz : Bool} (hc : X.calm = true) (hN : X.N.Nodup) (hr : Room (k + 3) X.A) (hgl : Gl X "any") (hm : X.mg "any" = none) (TB : GxR.TabB X.base X.mg c P) (hcode : X.env.code = .ref c) (G : GnS X.N X.env.scope scope own) (hP : P ∈ C.TS) (hL : ∀ p ∈ C.TL, p.1 ≠ P) (hi : DI X C E ρ lz tg iter mi)
    (hg : ∀ (A : Around) (s : Shared) (H : Hp) (code : Value) (ex : List Addr), Room k A → DG (genCx X A s H scope code ex) C lz (wipeR ρ (own.map (·.2))) (own.map (·.2)) tg pat ρ' g)
    (he : ∀ (A : Around) (s : Shared) (H : Hp) (code : Value) (ex : List Addr), Room k A → ∀ c, DB (genCx X A s H scope code ex) C E0 (ρ' c) elt (f c))
    (hs : ∀ v, genFold iter X.env v = pure v := by intro _; rfl)
    (hst : starEach [gxE elt tg iter scope gpos] X.env = (false, eval (gxE elt tg iter scope gpos) X.env) :: starEach [] X.env := by rfl) :
    DB X C E ρ (.Call (.Name "any" p) [.GeneratorExp elt [⟨tg, iter, [], 0⟩] scope gpos] [] pos) (mi >>= gxM true pat f) := by
  obtain ⟨wi, hi1, hi2⟩ := hi
  refine ⟨_, pe_gxany (te := fun σ H Q => ∃ c, tDB C X.K E0 (ρ' c) (f c) σ H Q) hc hN hr hgl hm TB hcode G hi1 (fun A s H code ex r => (hg A s H code ex r).pg) (fun A s H code ex r => ⟨fun pins s' σ H' Q I ⟨c, h⟩ => (he A s H code ex r c).pe.run pins s' σ H' Q I h⟩) hs hst, fun σ F0 H0 Q k0 hm => hi2 σ F0 H0 _ k0 (mi.mono (fun ds q J F1 H1 x1 wk => ⟨x1.gs.tabs P hP, fun H2 t => ?_⟩) (fun _ r => r) hm)⟩
  exact gx_turns (X := X) (A := genCx X X.A X.s_0 H0 scope (.ref c) []) rfl k0 x1 wk (hg X.A X.s_0 H0 (.ref c) [] (hr.mono (by omega))) hP hL t ((gxM true pat f ds).mono (fun _ q => q) (fun _ _ => trivial) q)
end
end
end DL

set_option Elab.async false
set_option linter.all false
set_option maxRecDepth 100000
set_option maxHeartbeats 4000000
/-! the data layer: statements -/
namespace DL
open PySem PySem.Spec PyProof.Rows L2

/-! ### a state within a call -/
structure Jd (C : DC) (K : PySem.W.Frag) (W : Addr → Prop) (F0 H0 : Hp) (ρ : REnv) (σ : L2.St) (F H : Hp) : Prop where
  ok : Ok C K ρ σ F H
  ext : Ext C K W F0 H0 F H
  own : ∀ (i : Nat) r a, ρ[i]? = some (some (.obj r)) → σ[i]? = some (some (.ref a)) → H0 a = none
  drw : ∀ a, drA ρ σ a → W a
def FSub (F F' : Hp) : Prop := ∀ a o, F a = some o → F' a = some o
theorem FSub.refl (F : Hp) : FSub F F := fun _ _ h => h
theorem FSub.trans {F F1 F2 : Hp} (a : FSub F F1) (b : FSub F1 F2) : FSub F F2 := fun x o h => b x o (a x o h)
/-- a value that was just made -/
def SlNew (K : PySem.W.Frag) (F' H' H : Hp) (v : V) : Sl → Prop
  | .val d => Dp K F' v d
  | .obj r => ∃ a o, v = .ref a ∧ H a = none ∧ F' a = none ∧ H' a = some o ∧ r.R K F' a o
  | .fob r => SlRep K F' H' v (.fob r)
  | .dic f => DicRep K F' v f
  | .drw => False
section
variable {C : DC} {K : PySem.W.Frag} {W : Addr → Prop} {F0 H0 : Hp} {ρ : REnv} {σ : L2.St} {F H F1 H1 : Hp}
theorem Jd.step (j : Jd C K W F0 H0 ρ σ F H) (x : Ext C K (drA ρ σ) F H F1 H1) : Jd C K W F0 H0 ρ σ F1 H1 :=
  ⟨j.ok.ext x, j.ext.trans (x.wide j.ok.gs j.drw), j.own, j.drw⟩
theorem Jd.re {E : XK} {er : Er} (j : Jd C K W F0 H0 ρ σ F H) (h : RE C K E W F0 H0 er) : RE C K E (drA ρ σ) F H er := fun cls dd F' H' x r => h cls dd F' H' (j.ext.trans (x.wide j.ok.gs j.drw)) r
theorem Jd.put {i : Nat} {v : V} {s : Sl} (j : Jd C K W F0 H0 ρ σ F H) (x : Ext C K (drA ρ σ) F H F1 H1) (h : SlNew K F1 H1 H v s) (hs : slotFree ρ i = true) : Jd C K W F0 H0 (ρ.set i (some s)) (σ.set i (some v)) F1 H1 := by
  have hi := slot_lt hs
  have j1 := j.step x
  cases s with
  | val d =>
    refine ⟨j1.ok.putS h hi, j1.ext, fun l ds a e1 e2 => ?_, fun a w => j1.drw a (by rw [drA_put hs] at w; exact w)⟩
    by_cases e : i = l
    · subst e
      rw [List.getElem?_set_self hi] at e1
      cases e1
    · rw [List.getElem?_set_ne e] at e1 e2
      exact j1.own l ds a e1 e2
  | dic f =>
    have hσ : i < σ.length := by rw [j1.ok.len]; exact hi
    have key : ∀ (l : Nat) t, (ρ.set i (some (.dic f)))[l]? = some (some t) → (l = i ∧ t = .dic f) ∨ (l ≠ i ∧ ρ[l]? = some (some t)) := fun l t e => by
      by_cases z : i = l
      · subst z
        rw [List.getElem?_set_self hi] at e
        cases e
        exact .inl ⟨rfl, rfl⟩
      · rw [List.getElem?_set_ne z] at e
        exact .inr ⟨Ne.symm z, e⟩
    have oth : ∀ l, l ≠ i → (σ.set i (some v))[l]? = σ[l]? := fun l z => List.getElem?_set_ne (Ne.symm z)
    refine ⟨⟨j1.ok.gs, by rw [List.length_set, List.length_set]; exact j1.ok.len, fun l t e => ?_, fun l m t u b hlm e1 e2 m1 m2 e3 e4 => ?_⟩, j1.ext, fun l es b e1 e2 => ?_, fun b ⟨l, e1, e2⟩ => ?_⟩
    · rcases key l t e with ⟨rfl, rfl⟩ | ⟨z, e⟩
      · exact ⟨v, List.getElem?_set_self hσ, h⟩
      · rw [oth l z]
        exact j1.ok.sl l t e
    · rcases key l t e1 with ⟨y1, y2⟩ | ⟨z1, e1'⟩
      · rw [y2] at m1; cases m1
      · rcases key m u e2 with ⟨y1, y2⟩ | ⟨z2, e2'⟩
        · rw [y2] at m2; cases m2
        · rw [oth l z1] at e3
          rw [oth m z2] at e4
          exact j1.ok.dj l m t u b hlm e1' e2' m1 m2 e3 e4
    · rcases key l _ e1 with ⟨y1, y2⟩ | ⟨z, e1'⟩
      · cases y2
      · rw [oth l z] at e2
        exact j1.own l es b e1' e2
    · rcases key l _ e1 with ⟨y1, y2⟩ | ⟨z, e1'⟩
      · cases y2
      · rw [oth l z] at e2
        exact j1.drw b ⟨l, e1', e2⟩
  | fob f =>
    have hσ : i < σ.length := by rw [j1.ok.len]; exact hi
    have key : ∀ (l : Nat) t, (ρ.set i (some (.fob f)))[l]? = some (some t) → (l = i ∧ t = .fob f) ∨ (l ≠ i ∧ ρ[l]? = some (some t)) := fun l t e => by
      by_cases z : i = l
      · subst z
        rw [List.getElem?_set_self hi] at e
        cases e
        exact .inl ⟨rfl, rfl⟩
      · rw [List.getElem?_set_ne z] at e
        exact .inr ⟨Ne.symm z, e⟩
    have oth : ∀ l, l ≠ i → (σ.set i (some v))[l]? = σ[l]? := fun l z => List.getElem?_set_ne (Ne.symm z)
    refine ⟨⟨j1.ok.gs, by rw [List.length_set, List.length_set]; exact j1.ok.len, fun l t e => ?_, fun l m t u b hlm e1 e2 m1 m2 e3 e4 => ?_⟩, j1.ext, fun l es b e1 e2 => ?_, fun b ⟨l, e1, e2⟩ => ?_⟩
    · rcases key l t e with ⟨rfl, rfl⟩ | ⟨z, e⟩
      · exact ⟨v, List.getElem?_set_self hσ, h⟩
      · rw [oth l z]
        exact j1.ok.sl l t e
    · rcases key l t e1 with ⟨y1, y2⟩ | ⟨z1, e1'⟩
      · rw [y2] at m1; cases m1
      · rcases key m u e2 with ⟨y1, y2⟩ | ⟨z2, e2'⟩
        · rw [y2] at m2; cases m2
        · rw [oth l z1] at e3
          rw [oth m z2] at e4
          exact j1.ok.dj l m t u b hlm e1' e2' m1 m2 e3 e4
    · rcases key l _ e1 with ⟨y1, y2⟩ | ⟨z, e1'⟩
      · cases y2
      · rw [oth l z] at e2
        exact j1.own l es b e1' e2
    · rcases key l _ e1 with ⟨y1, y2⟩ | ⟨z, e1'⟩
      · cases y2
      · rw [oth l z] at e2
        exact j1.drw b ⟨l, e1', e2⟩
  | drw => exact h.elim
  | obj r =>
    obtain ⟨a, vs, rfl, h1, h2, h3, h4⟩ := h
    have fresh : ∀ (l : Nat) t b, ρ[l]? = some (some t) → t.mut = true → σ[l]? = some (some (V.ref b)) → b ≠ a := fun l t b e1 e2 e3 z => by
      obtain ⟨v, e4, e5⟩ := j.ok.sl l t e1
      obtain ⟨b', rfl, _, vs', e6⟩ := e5.there e2
      rw [e3] at e4
      cases e4
      rw [z, h1] at e6
      cases e6
    refine ⟨⟨j1.ok.gs, by rw [List.length_set, List.length_set]; exact j1.ok.len, fun l t e1 => ?_, fun l m s t b hlm e1 e2 m1 m2 e3 e4 => ?_⟩, j1.ext, fun l es b e1 e2 => ?_, fun b w => ?_⟩
    · by_cases e : i = l
      · subst e
        rw [List.getElem?_set_self hi] at e1
        cases e1
        exact ⟨_, by rw [List.getElem?_set_self (by rw [j1.ok.len]; exact hi)], a, vs, rfl, h2, h3, h4⟩
      · rw [List.getElem?_set_ne e] at e1 ⊢
        exact j1.ok.sl l t e1
    · have hσ : i < σ.length := by rw [j1.ok.len]; exact hi
      by_cases e : i = l
      · subst e
        rw [List.getElem?_set_self hσ] at e3
        cases e3
        rw [List.getElem?_set_ne hlm] at e2 e4
        exact fresh m t _ e2 m2 e4 rfl
      · rw [List.getElem?_set_ne e] at e1 e3
        by_cases e' : i = m
        · subst e'
          rw [List.getElem?_set_self hσ] at e4
          cases e4
          exact fresh l s _ e1 m1 e3 rfl
        · rw [List.getElem?_set_ne e'] at e2 e4
          exact j1.ok.dj l m s t b hlm e1 e2 m1 m2 e3 e4
    · by_cases e : i = l
      · subst e
        rw [List.getElem?_set_self (by rw [j1.ok.len]; exact hi)] at e2
        cases e2
        cases z : H0 a with
        | none => rfl
        | some o => exact absurd h1 (j.ext.dom a (by rw [z]; simp))
      · rw [List.getElem?_set_ne e] at e1 e2
        exact j1.own l es b e1 e2
    · obtain ⟨l, e1, e2⟩ := w
      by_cases e : i = l
      · subst e
        rw [List.getElem?_set_self hi] at e1
        cases e1
      · rw [List.getElem?_set_ne e] at e1 e2
        exact j1.drw b ⟨l, e1, e2⟩
/-- less is known -/
def subR : REnv → REnv → Prop
  | [], [] => True
  | x :: xs, y :: ys => (x = none ∨ x = y) ∧ subR xs ys
  | _, _ => False
theorem subR.get : ∀ {a b : REnv}, subR a b → a.length = b.length ∧ ∀ (i : Nat) s, a[i]? = some (some s) → b[i]? = some (some s)
  | [], [], _ => ⟨rfl, fun i s h => h⟩
  | x :: xs, y :: ys, h => by
    obtain ⟨h1, h2⟩ := h
    obtain ⟨k1, k2⟩ := subR.get h2
    refine ⟨by rw [List.length_cons, List.length_cons, k1], fun i s e => ?_⟩
    cases i with
    | zero =>
      rcases h1 with q | q
      · subst q
        simp at e
      · subst q
        simpa using e
    | succ i => exact k2 i s (by simpa using e)
  | [], _ :: _, h => h.elim
  | _ :: _, [], h => h.elim
theorem subR.refl : ∀ (a : REnv), subR a a
  | [] => trivial
  | _ :: xs => ⟨.inr rfl, subR.refl xs⟩
theorem Jd.sub {ρ2 : REnv} (j : Jd C K W F0 H0 ρ σ F H) (h : subR ρ2 ρ) : Jd C K W F0 H0 ρ2 σ F H := by
  obtain ⟨hl, hg⟩ := h.get
  exact ⟨⟨j.ok.gs, j.ok.len.trans hl.symm, fun i s e => j.ok.sl i s (hg i s e), fun i l s t a n e1 e2 => j.ok.dj i l s t a n (hg i s e1) (hg l t e2)⟩, j.ext, fun i ds a e => j.own i ds a (hg i _ e), fun a ⟨i, e1, e2⟩ => j.drw a ⟨i, hg i _ e1, e2⟩⟩
/-- an object of one's own is changed -/
theorem Jd.wrO {i : Nat} {a : Addr} {r r' : OR} {o' : HO} (j : Jd C K W F0 H0 ρ σ F H) (hi : ρ[i]? = some (some (.obj r))) (ha : σ[i]? = some (some (.ref a))) (hd : r'.R K F a o') :
    Jd C K W F0 H0 (ρ.set i (some (.obj r'))) σ F (upd H a o') := by
  have hlt : i < ρ.length := (List.getElem?_eq_some_iff.mp hi).1
  obtain ⟨v, e1, a', vs', rfl, hF, hH', hd'⟩ := j.ok.sl i _ hi
  rw [ha] at e1
  cases e1
  have x := ext_atO (o' := o') j.ext (j.own i r a hi ha) hF hH' (fun ps => r.nt ps hd') fun c q => r.nc c q hd'
  have key : ∀ (l : Nat) t, (ρ.set i (some (.obj r')))[l]? = some (some t) → (l = i ∧ t = .obj r') ∨ (l ≠ i ∧ ρ[l]? = some (some t)) := fun l t e => by
    by_cases z : i = l
    · subst z
      rw [List.getElem?_set_self hlt] at e
      cases e
      exact .inl ⟨rfl, rfl⟩
    · rw [List.getElem?_set_ne z] at e
      exact .inr ⟨Ne.symm z, e⟩
  have mutI : ∀ (l : Nat) t, (ρ.set i (some (.obj r')))[l]? = some (some t) → t.mut = true → ∃ t', ρ[l]? = some (some t') ∧ t'.mut = true := fun l t e m => by
    rcases key l t e with ⟨rfl, rfl⟩ | ⟨_, e⟩
    · exact ⟨_, hi, rfl⟩
    · exact ⟨t, e, m⟩
  refine ⟨⟨x.gs, by rw [List.length_set]; exact j.ok.len, fun l t e => ?_, fun l m s t b hlm e1 e2 m1 m2 e3 => ?_⟩, x, fun l fs b e1 e2 => ?_, fun b ⟨l, e1, e2⟩ => ?_⟩
  · rcases key l t e with ⟨rfl, rfl⟩ | ⟨z, e⟩
    · exact ⟨_, ha, a, o', rfl, hF, upd_same, hd⟩
    · obtain ⟨v, e1, e2⟩ := j.ok.sl l t e
      refine ⟨v, e1, ?_⟩
      cases t with
      | val d => exact e2
      | dic f => exact e2
      | fob f => exact e2
      | obj fs =>
        obtain ⟨b, us, rfl, g1, g2, g3⟩ := e2
        have hb : b ≠ a := fun q => j.ok.dj l i _ _ b z e hi rfl rfl e1 (by rw [q]; exact ha)
        exact ⟨b, us, rfl, g1, by rw [upd_ne hb]; exact g2, g3⟩
      | drw =>
        obtain ⟨b, rfl, d⟩ := e2
        have hb : b ≠ a := fun q => j.ok.dj l i _ _ b z e hi rfl rfl e1 (by rw [q]; exact ha)
        exact ⟨b, rfl, drw_same (F := F) (H := H) (fun o h _ => by rw [upd_ne hb]; exact h) rfl (fun _ _ h => h) d⟩
  · obtain ⟨s', e1', m1'⟩ := mutI l s e1 m1
    obtain ⟨t', e2', m2'⟩ := mutI m t e2 m2
    exact j.ok.dj l m s' t' b hlm e1' e2' m1' m2' e3
  · rcases key l _ e1 with ⟨rfl, z⟩ | ⟨z, e1⟩
    · exact j.own l r b hi e2
    · exact j.own l fs b e1 e2
  · rcases key l _ e1 with ⟨rfl, z⟩ | ⟨z, e1⟩
    · cases z
    · exact j.drw b ⟨l, e1, e2⟩
theorem Jd.wr {i : Nat} {a : Addr} {ds es : List PyData} {vs ws : List V} (j : Jd C K W F0 H0 ρ σ F H) (hi : ρ[i]? = some (some (.own ds))) (ha : σ[i]? = some (some (.ref a))) (hH : H a = some (.lst vs)) (hd : DpAll K F ws es) :
    Jd C K W F0 H0 (ρ.set i (some (.own es))) σ F (upd H a (.lst ws)) := j.wrO (r' := lstR es) hi ha ⟨ws, rfl, hd⟩
/-- an object of one's own is let go: from now on it is read as s -/
theorem Jd.frzO {i : Nat} {r : OR} {s : Sl} (j : Jd C K W F0 H0 ρ σ F H) (hi : ρ[i]? = some (some (.obj r))) (hm : s.mut = false) (hsr : ∀ a o F', FSub F F' → F' a = some o → r.R K F' a o → SlRep K F' H (.ref a) s) : ∃ F', FSub F F' ∧ Jd C K W F0 H0 (ρ.set i (some s)) σ F' H := by
  have hlt : i < ρ.length := (List.getElem?_eq_some_iff.mp hi).1
  obtain ⟨v, ha, a, vs, rfl, hF, hH, hd⟩ := j.ok.sl i _ hi
  have h0 := j.own i r a hi ha
  have fs : FSub F (upd F a vs) := fun b o e => by
    rw [upd_ne (fun z => by rw [z, hF] at e; cases e)]
    exact e
  have ne0 : ∀ b, H0 b ≠ none → b ≠ a := fun b h z => h (by rw [z]; exact h0)
  have g' : GS C (upd F a vs) H := by
    refine ⟨fun b o e => ?_, fun b ps e => ?_, j.ok.gs.tabs, j.ok.gs.lams⟩
    · by_cases z : b = a
      · subst z; rw [upd_same] at e; cases e; exact hH
      · rw [upd_ne z] at e; exact j.ok.gs.sub b o e
    · by_cases z : b = a
      · subst z; rw [upd_same] at e; exact r.nt ps hd (Option.some.inj e)
      · rw [upd_ne z] at e; exact j.ok.gs.nt b ps e
  have x' : Ext C K W F0 H0 (upd F a vs) H := by
    refine ⟨j.ext.same, j.ext.dom, fun b hb => by rw [upd_ne (ne0 b hb)]; exact j.ext.frz b hb, g', fun b w d => ?_⟩
    have hb : b ≠ a := ne0 b (by obtain ⟨sv, ns, i, jj, r, h1, _⟩ := d; rw [h1]; simp)
    exact drw_same (F := F) (H := H) (fun o h _ => h) (upd_ne hb) fs (j.ext.drw b w d)
  have key : ∀ (l : Nat) t, (ρ.set i (some s))[l]? = some (some t) → (l = i ∧ t = s) ∨ (l ≠ i ∧ ρ[l]? = some (some t)) := fun l t e => by
    by_cases z : i = l
    · subst z
      rw [List.getElem?_set_self hlt] at e
      cases e
      exact .inl ⟨rfl, rfl⟩
    · rw [List.getElem?_set_ne z] at e
      exact .inr ⟨Ne.symm z, e⟩
  refine ⟨_, fs, ⟨g', by rw [List.length_set]; exact j.ok.len, fun l t e => ?_, fun l m s1 t b hlm e1 e2 m1 m2 e3 => ?_⟩, x', fun l es b e1 e2 => ?_, fun b ⟨l, e1, e2⟩ => ?_⟩
  · rcases key l t e with ⟨rfl, rfl⟩ | ⟨z, e⟩
    · exact ⟨_, ha, hsr a vs _ fs upd_same (r.mono fs hd)⟩
    · obtain ⟨v, e1, e2⟩ := j.ok.sl l t e
      refine ⟨v, e1, ?_⟩
      cases t with
      | val d => exact dp_mono fs _ _ e2
      | dic f => exact dic_mono fs e2
      | fob r2 =>
        obtain ⟨b, u, rfl, g1, g2⟩ := e2
        exact ⟨b, u, rfl, fs _ _ g1, r2.mono fs g2⟩
      | obj r2 =>
        obtain ⟨b, us, rfl, g1, g2, g3⟩ := e2
        have hb : b ≠ a := fun q => j.ok.dj l i _ _ b z e hi rfl rfl e1 (by rw [q]; exact ha)
        exact ⟨b, us, rfl, by rw [upd_ne hb]; exact g1, g2, r2.mono fs g3⟩
      | drw =>
        obtain ⟨b, rfl, d⟩ := e2
        have hb : b ≠ a := fun q => j.ok.dj l i _ _ b z e hi rfl rfl e1 (by rw [q]; exact ha)
        exact ⟨b, rfl, drw_same (F := F) (H := H) (fun o h _ => h) (upd_ne hb) fs d⟩
  · rcases key l s1 e1 with ⟨rfl, rfl⟩ | ⟨z1, e1⟩
    · rw [hm] at m1; cases m1
    · rcases key m t e2 with ⟨rfl, rfl⟩ | ⟨z2, e2⟩
      · rw [hm] at m2; cases m2
      · exact j.ok.dj l m s1 t b hlm e1 e2 m1 m2 e3
  · rcases key l _ e1 with ⟨rfl, z⟩ | ⟨z, e1⟩
    · rw [← z] at hm; cases hm
    · exact j.own l es b e1 e2
  · rcases key l _ e1 with ⟨rfl, z⟩ | ⟨z, e1⟩
    · rw [← z] at hm; cases hm
    · exact j.drw b ⟨l, e1, e2⟩
theorem Jd.frz {i : Nat} {ds : List PyData} (j : Jd C K W F0 H0 ρ σ F H) (hi : ρ[i]? = some (some (.own ds))) : ∃ F', FSub F F' ∧ Jd C K W F0 H0 (ρ.set i (some (.val (.list ds)))) σ F' H :=
  j.frzO hi rfl fun a o F' fs e ⟨vs, eo, hd⟩ => .lst (.inl (.inl (by rw [e, eo]))) hd
theorem Jd.frzF {i : Nat} {r : OR} (j : Jd C K W F0 H0 ρ σ F H) (hi : ρ[i]? = some (some (.obj r))) : ∃ F', FSub F F' ∧ Jd C K W F0 H0 (ρ.set i (some (.fob r))) σ F' H :=
  j.frzO hi rfl fun a o F' fs e hd => ⟨a, o, rfl, e, hd⟩
end

/-! ### the judgements -/
inductive Fl (γ : Type) where
  | nx (c : γ)
  | rt (d : PyData)
def SPost (C : DC) (K : PySem.W.Frag) (W : Addr → Prop) (F0 H0 F : Hp) {γ : Type} (ρ' : γ → REnv) (D : Ends) : Fl γ → Prop
  | .nx c => ∀ σ' F' H', Jd C K W F0 H0 (ρ' c) σ' F' H' → FSub F F' → D.nx σ' H'
  | .rt d => ∀ v F' H', Ext C K W F0 H0 F' H' → Dp K F' v d → D.rt v H'
def DSs (X : Cx) (C : DC) (E : XK) (ρ : REnv) (ss : List Stmt) {γ : Type} (ρ' : γ → REnv) (m : M (Fl γ)) : Prop :=
  ∃ t, PSs X ss t ∧ ∀ W F0 H0 σ F H D, Jd C X.K W F0 H0 ρ σ F H → m.run (SPost C X.K W F0 H0 F ρ' D) (RE C X.K E W F0 H0) → t D σ H
def DV (X : Cx) (C : DC) (E : XK) (ρ : REnv) (e : Expr) {α : Type} (inj : α → Sl) (m : M α) : Prop := ∃ t, PE X e t ∧ ∀ σ F H Q, Ok C X.K ρ σ F H →
  m.run (fun a => ∀ v F' H', Ext C X.K (drA ρ σ) F H F' H' → SlNew X.K F' H' H v (inj a) → Q v H') (RE C X.K E (drA ρ σ) F H) → t σ H Q
section
variable {X : Cx} {C : DC} {E : XK} {ρ : REnv} {e : Expr} {γ : Type} {ρ' : γ → REnv}
theorem DE.dv {m : M PyData} (h : DE X C E ρ e m) : DV X C E ρ e Sl.val m := h
theorem DL.dv {m : M (List PyData)} (h : DL X C E ρ e m) : DV X C E ρ e Sl.own m := by
  obtain ⟨t, h1, h2⟩ := h
  exact ⟨t, h1, fun σ F H Q k hm => h2 σ F H Q k (m.mono (fun ds q a vs F' H' x hn hf ha hd => q _ F' H' x ⟨a, _, rfl, hn, hf, ha, vs, rfl, hd⟩) (fun _ r => r) hm)⟩
theorem SPost.sub {K : PySem.W.Frag} {W : Addr → Prop} {F0 H0 F F1 : Hp} {D : Ends} (h : FSub F F1) : ∀ fl : Fl γ, SPost C K W F0 H0 F ρ' D fl → SPost C K W F0 H0 F1 ρ' D fl
  | .nx _, q => fun σ' F' H' j f => q σ' F' H' j (h.trans f)
  | .rt _, q => q
theorem dss_nil (c : γ) (h : subR (ρ' c) ρ) : DSs X C E ρ [] ρ' (pure (.nx c)) :=
  ⟨_, pss_nil, fun W F0 H0 σ F H D j q => (show SPost C X.K W F0 H0 F ρ' D (.nx c) from q) σ F H (j.sub h) (FSub.refl F)⟩
/-- a canonical reading of a block -/
def tSS (C : DC) (K : PySem.W.Frag) (E : XK) {α : Type} (ρa : α → REnv) (ρ' : γ → REnv) (f : α → M (Fl γ)) : TS := fun D σ H => ∃ a W F0 H0 F, Jd C K W F0 H0 (ρa a) σ F H ∧ (f a).run (SPost C K W F0 H0 F ρ' D) (RE C K E W F0 H0)
theorem DSs.pss {rest : List Stmt} {α : Type} {ρa : α → REnv} {f : α → M (Fl γ)} (hr : ∀ a, DSs X C E (ρa a) rest ρ' (f a)) : PSs X rest (tSS C X.K E ρa ρ' f) := ⟨fun pins s σ H D I ⟨a, W, F0, H0, F, j, q⟩ => by
  obtain ⟨u, g1, g2⟩ := hr a
  exact g1.run pins s σ H D I (g2 W F0 H0 σ F H D j q)⟩
theorem tSS.mk {K : PySem.W.Frag} {α : Type} {ρa : α → REnv} {f : α → M (Fl γ)} {D : Ends} {σ : L2.St} {W : Addr → Prop} {F0 H0 F F1 H1 : Hp} (a : α) (j : Jd C K W F0 H0 (ρa a) σ F1 H1) (fs : FSub F F1) (q : (f a).run (SPost C K W F0 H0 F ρ' D) (RE C K E W F0 H0)) : tSS C K E ρa ρ' f D σ H1 :=
  ⟨a, W, F0, H0, F1, j, (f a).mono (fun fl z => SPost.sub fs fl z) (fun _ z => z) q⟩
variable {rest : List Stmt} {p pos : Pos} {i : Nat} {x : Str}
/-- x = e -/
theorem dss_set {α : Type} {inj : α → Sl} {m : M α} {f : α → M (Fl γ)} (hN : X.N.Nodup) (hi : X.N[i]? = some x) (hx : Loc X.env.scope x) (hs : slotFree ρ i = true) (he : DV X C E ρ e inj m) (hr : ∀ a, DSs X C E (ρ.set i (some (inj a))) rest ρ' (f a))
    (hsw : swapsWith e (some (.Name x p)) pos.line X.env = pure false := by rfl) (hf : X.fn x = true ∨ X.env.scope.names.lookup x = some .local := by first | exact .inl rfl | exact .inr rfl) :
    DSs X C E ρ (.Assign [.Name x p] e pos :: rest) ρ' (m >>= f) := by
  obtain ⟨t, h1, h2⟩ := he
  exact ⟨_, pss_cons (ps_set hN hi hx h1 hsw hf) (DSs.pss hr), fun W F0 H0 σ F H D j hm => h2 σ F H _ j.ok (m.mono (fun a q v F1 H1 x1 hv => tSS.mk a (j.put x1 hv hs) (x1.fsub j.ok.gs) q) (fun er r => j.re r) hm)⟩
/-- x = [..] -/
theorem dss_setLc {lz : Bool} {δ : Type} {elt tg iter : Expr} {ifs : List Expr} {scope : Scope} {own : List (Str × Nat)} {lpos : Pos} {pat : PyData → M δ} {ρc : δ → REnv} {g : TG} {mi : M (List PyData)} {mt : δ → M Bool} {fe : δ → M PyData} {f : List PyData → M (Fl γ)} (hN : X.N.Nodup) (hi : X.N[i]? = some x) (hx : X.env.scope.names.lookup x = some .local) (hs : slotFree ρ i = true)
    (hc : X.calm = true) (hit : DI X C E ρ lz tg iter mi) (ok : BlkOk X.N X.env.scope scope own)
    (hg : ∀ (s : Shared) (H : Hp) (A : Addr) (cl : List (Str × Addr)) (fp : List Addr), DG (X.blk s H scope (compEnvC scope cl A X.env) fp) C lz (wipeR ρ (own.map (·.2))) (own.map (·.2)) tg pat ρc g)
    (ht : ∀ (s : Shared) (H : Hp) (A : Addr) (cl : List (Str × Addr)) (fp : List Addr) c, DTs (X.blk s H scope (compEnvC scope cl A X.env) fp) C E0 (ρc c) ifs (mt c))
    (he : ∀ (s : Shared) (H : Hp) (A : Addr) (cl : List (Str × Addr)) (fp : List Addr) c, DE (X.blk s H scope (compEnvC scope cl A X.env) fp) C E0 (ρc c) elt (fe c))
    (hr : ∀ a, DSs X C E (ρ.set i (some (.own a))) rest ρ' (f a)) (hsw : swapsWith (.ListComp elt [⟨tg, iter, ifs, 0⟩] scope lpos) (some (.Name x p)) pos.line X.env = pure true := by rfl) (hsf : ∀ x, foldedSetIterable iter X.env x = pure x := by intro _; rfl) :
    DSs X C E ρ (.Assign [.Name x p] (.ListComp elt [⟨tg, iter, ifs, 0⟩] scope lpos) pos :: rest) ρ' ((mi >>= fun ds => .guard (decide (ds.length ≤ sizeLine)) (compM pat mt fe ds)) >>= f) := by
  obtain ⟨wi, hi1, hi2⟩ := hit
  refine ⟨_, pss_cons (ps_setLc hc hN hi hx hsw hi1 ok (fun s H A cl fp => (hg s H A cl fp).pg)
    (tt := tLcT C X.K ρc mt) (fun s H A cl fp => ⟨fun pins s' σ H' Q I ⟨c, h⟩ => (ht s H A cl fp c).run pins s' σ H' Q I h⟩)
    (te := tLcE C X.K ρc fe) (fun s H A cl fp => ⟨fun pins s' σ H' Q I ⟨c, h⟩ => (he s H A cl fp c).pe.run pins s' σ H' Q I h⟩) hsf) (DSs.pss hr), fun W F0 H0 σ F H D j hm => ?_⟩
  refine lc_spec (X := X) (A := X.blk X.s_0 H0 scope (compEnvC scope [] 0 X.env) []) (Q := fun v H1 => tSS C X.K E (fun a => ρ.set i (some (.own a))) ρ' f D (σ.set i (some v)) H1) rfl hi2 (hg X.s_0 H0 0 [] []) σ F H j.ok ((mi >>= fun ds => M.guard (decide (ds.length ≤ sizeLine)) (compM pat mt fe ds)).mono (fun ds q a vs F1 H1 x1 hn hf ha hd => ?_) (fun er r => j.re r) hm)
  exact tSS.mk ds (j.put (s := .own ds) x1 ⟨a, _, rfl, hn, hf, ha, vs, rfl, hd⟩ hs) (x1.fsub j.ok.gs) q
/-- an expression alone -/
theorem dss_expr {m : M PyData} {f : M (Fl γ)} (he : DR X C E ρ e m) (hr : DSs X C E ρ rest ρ' f) (hsw : swapsWith e none pos.line X.env = pure false := by rfl) : DSs X C E ρ (.Expr e pos :: rest) ρ' (m >>= fun _ => f) := by
  obtain ⟨t, h1, h2⟩ := he
  exact ⟨_, pss_cons (ps_expr h1 hsw) (DSs.pss (α := Unit) (ρa := fun _ => ρ) (f := fun _ => f) fun _ => hr), fun W F0 H0 σ F H D j hm => h2 σ F H _ j.ok (m.mono (fun a q v F1 H1 x1 _ => tSS.mk () (j.step x1) (x1.fsub j.ok.gs) q) (fun er r => j.re r) hm)⟩
/-- return e -/
theorem dss_ret {m : M PyData} (he : DE X C E ρ e m) : DSs X C E ρ (.Return (some e) pos :: rest) ρ' (m >>= fun d => pure (.rt d)) := by
  obtain ⟨t, h1, h2⟩ := he
  refine ⟨_, pss_cons (ps_ret h1) pss_never, fun W F0 H0 σ F H D j hm => h2 σ F H _ j.ok (m.mono (fun a q v F1 H1 x1 hv => ?_) (fun er r => j.re r) hm)⟩
  exact (show ∀ v F' H', Ext C X.K W F0 H0 F' H' → Dp X.K F' v a → D.rt v H' from q) v F1 H1 (j.step x1).ext hv
/-- a list of one's own is from now on a datum -/
theorem dss_frz {f : M (Fl γ)} {ds : List PyData} {ss : List Stmt} (hi : ρ[i]? = some (some (.own ds))) (hr : DSs X C E (ρ.set i (some (.val (.list ds)))) ss ρ' f) : DSs X C E ρ ss ρ' f := by
  obtain ⟨t, h1, h2⟩ := hr
  refine ⟨t, h1, fun W F0 H0 σ F H D j hm => ?_⟩
  obtain ⟨F', fs, j'⟩ := j.frz hi
  exact h2 W F0 H0 σ F' H D j' (f.mono (fun fl z => SPost.sub fs fl z) (fun _ z => z) hm)
/-- an object of one's own is let go -/
theorem dss_frzF {f : M (Fl γ)} {r : OR} {ss : List Stmt} (hi : ρ[i]? = some (some (.obj r))) (hr : DSs X C E (ρ.set i (some (.fob r))) ss ρ' f) : DSs X C E ρ ss ρ' f := by
  obtain ⟨t, h1, h2⟩ := hr
  refine ⟨t, h1, fun W F0 H0 σ F H D j hm => ?_⟩
  obtain ⟨F', fs, j'⟩ := j.frzF hi
  exact h2 W F0 H0 σ F' H D j' (f.mono (fun fl z => SPost.sub fs fl z) (fun _ z => z) hm)
/-- less is known -/
theorem dss_sub {f : M (Fl γ)} {ρ2 : REnv} {ss : List Stmt} (h : subR ρ2 ρ) (hr : DSs X C E ρ2 ss ρ' f) : DSs X C E ρ ss ρ' f := by
  obtain ⟨t, h1, h2⟩ := hr
  exact ⟨t, h1, fun W F0 H0 σ F H D j hm => h2 W F0 H0 σ F H D (j.sub h) hm⟩
/-- what comes behind a block -/
def M.thn {α : Type} (m : M (Fl α)) (f : α → M (Fl γ)) : M (Fl γ) := m >>= fun fl => match fl with
  | .nx c => f c
  | .rt d => pure (.rt d)
theorem SPost.thn {K : PySem.W.Frag} {W : Addr → Prop} {F0 H0 F : Hp} {D : Ends} {α : Type} {ρ1 : α → REnv} {f : α → M (Fl γ)} : ∀ fl : Fl α, (match fl with | .nx c => f c | .rt d => pure (.rt d) : M (Fl γ)).run (SPost C K W F0 H0 F ρ' D) (RE C K E W F0 H0) →
    SPost C K W F0 H0 F ρ1 { D with nx := tSS C K E ρ1 ρ' f D } fl
  | .nx c, q => fun σ' F' H' j fs => tSS.mk c j fs q
  | .rt d, q => q
theorem dss_if {α : Type} {c : Expr} {a b : List Stmt} {ρ1 : α → REnv} {mc : M Bool} {ma mb : M (Fl α)} {f : α → M (Fl γ)} (hc : DT X C E ρ c mc) (ha : DSs X C E ρ a ρ1 ma) (hb : DSs X C E ρ b ρ1 mb) (hr : ∀ c, DSs X C E (ρ1 c) rest ρ' (f c)) :
    DSs X C E ρ (.If c a b pos :: rest) ρ' ((mc >>= fun k => if k = true then ma else mb).thn f) := by
  obtain ⟨tc, hc1, hc2⟩ := hc
  obtain ⟨ta, ha1, ha2⟩ := ha
  obtain ⟨tb, hb1, hb2⟩ := hb
  refine ⟨_, pss_cons (ps_if hc1 ha1 hb1) (DSs.pss hr), fun W F0 H0 σ F H D j hm => hc2 σ F H _ j.ok (mc.mono (fun k q F1 H1 x1 => ?_) (fun er r => j.re r) hm)⟩
  have fs := x1.fsub j.ok.gs
  cases k with
  | true =>
    dsimp only at q
    rw [if_pos rfl] at q ⊢
    exact ha2 W F0 H0 σ F1 H1 _ (j.step x1) (ma.mono (fun fl z => SPost.sub fs fl (SPost.thn fl z)) (fun _ z => z) q)
  | false =>
    dsimp only at q
    rw [if_neg Bool.false_ne_true] at q ⊢
    exact hb2 W F0 H0 σ F1 H1 _ (j.step x1) (mb.mono (fun fl z => SPost.sub fs fl (SPost.thn fl z)) (fun _ z => z) q)
/-- if the test holds, the block returns -/
theorem dss_ifr {c : Expr} {a : List Stmt} {ρ1 : Empty → REnv} {mc : M Bool} {ma : M (Fl Empty)} {f : M (Fl γ)} (hc : DT X C E ρ c mc) (ha : DSs X C E ρ a ρ1 ma) (hr : DSs X C E ρ rest ρ' f) :
    DSs X C E ρ (.If c a [] pos :: rest) ρ' (mc >>= fun k => if k = true then ma.thn fun z => z.elim else f) := by
  obtain ⟨tc, hc1, hc2⟩ := hc
  obtain ⟨ta, ha1, ha2⟩ := ha
  refine ⟨_, pss_cons (ps_if hc1 ha1 pss_nil) (DSs.pss (α := Unit) (ρa := fun _ => ρ) (f := fun _ => f) fun _ => hr), fun W F0 H0 σ F H D j hm => hc2 σ F H _ j.ok (mc.mono (fun k q F1 H1 x1 => ?_) (fun er r => j.re r) hm)⟩
  have fs := x1.fsub j.ok.gs
  cases k with
  | true =>
    dsimp only at q
    rw [if_pos rfl] at q ⊢
    refine ha2 W F0 H0 σ F1 H1 _ (j.step x1) (ma.mono (fun fl z => SPost.sub fs fl ?_) (fun _ z => z) q)
    cases fl with
    | nx c => exact c.elim
    | rt d => exact z
  | false =>
    dsimp only at q
    rw [if_neg Bool.false_ne_true] at q ⊢
    exact tSS.mk () (j.step x1) fs q
end
end DL

set_option Elab.async false
set_option linter.all false
set_option maxRecDepth 100000
set_option maxHeartbeats 4000000
/-! the data layer: more statements -/
namespace DL
open PySem PySem.Spec PyProof.Rows L2
section
variable {C : DC} {K : PySem.W.Frag} {W : Addr → Prop} {F0 H0 : Hp} {ρ : REnv} {σ : L2.St} {F H F1 H1 F2 H2 : Hp}
theorem SlNew.rep {v : V} {s : Sl} (h : SlNew K F1 H1 H v s) : SlRep K F1 H1 v s ∧ s ≠ .drw := by
  cases s with
  | val d => exact ⟨h, fun z => nomatch z⟩
  | dic f => exact ⟨h, fun z => nomatch z⟩
  | fob f => exact ⟨h, fun z => nomatch z⟩
  | obj r => obtain ⟨a, vs, rfl, _, h2, h3, h4⟩ := h; exact ⟨⟨a, vs, rfl, h2, h3, h4⟩, fun z => nomatch z⟩
  | drw => exact h.elim
theorem SlNew.new {v : V} {r : OR} {a : Addr} (h : SlNew K F1 H1 H v (.obj r)) (e : v = .ref a) : H a = none := by
  obtain ⟨b, vs, rfl, h1, _⟩ := h
  cases e
  exact h1
theorem SlNew.later {v : V} {s : Sl} (k : Ok C K ρ σ F H) (g : GS C F1 H1) (h : SlNew K F1 H1 H v s) (x : Ext C K (drA ρ σ) F1 H1 F2 H2) : SlNew K F2 H2 H v s := by
  cases s with
  | val d => exact dp_mono (x.fsub g) _ _ h
  | dic f => exact dic_mono (x.fsub g) h
  | fob r =>
    obtain ⟨a, vs, rfl, h1, h2⟩ := h
    exact ⟨a, vs, rfl, x.fsub g _ _ h1, r.mono (x.fsub g) h2⟩
  | obj r =>
    obtain ⟨a, vs, rfl, h1, h2, h3, h4⟩ := h
    exact ⟨a, vs, rfl, h1, x.fnone (by rw [h3]; simp) h2, x.same a _ h3 (fun ps e => r.nt ps h4 e) fun w => drw_has k w h1, r.mono (x.fsub g) h4⟩
  | drw => exact h.elim
theorem Jd.put' {i : Nat} {v : V} {s : Sl} (j : Jd C K W F0 H0 ρ σ F H) (h : SlRep K F H v s) (hd : s ≠ .drw) (hs : slotFree ρ i = true)
    (fr : ∀ ds a, s = .obj ds → v = .ref a → H0 a = none ∧ ∀ (l : Nat) t, ρ[l]? = some (some t) → t.mut = true → σ[l]? ≠ some (some (V.ref a))) : Jd C K W F0 H0 (ρ.set i (some s)) (σ.set i (some v)) F H := by
  have hi := slot_lt hs
  have hσ : i < σ.length := by rw [j.ok.len]; exact hi
  have key : ∀ (l : Nat) t, (ρ.set i (some s))[l]? = some (some t) → (l = i ∧ t = s) ∨ (l ≠ i ∧ ρ[l]? = some (some t)) := fun l t e => by
    by_cases z : i = l
    · subst z
      rw [List.getElem?_set_self hi] at e
      cases e
      exact .inl ⟨rfl, rfl⟩
    · rw [List.getElem?_set_ne z] at e
      exact .inr ⟨Ne.symm z, e⟩
  have sel : (σ.set i (some v))[i]? = some (some v) := List.getElem?_set_self hσ
  have oth : ∀ l, l ≠ i → (σ.set i (some v))[l]? = σ[l]? := fun l z => List.getElem?_set_ne (Ne.symm z)
  have mutS : s.mut = true → ∃ ds, s = .obj ds := fun m => by
    cases s with
    | val d => cases m
    | dic f => cases m
    | fob f => cases m
    | obj ds => exact ⟨ds, rfl⟩
    | drw => exact absurd rfl hd
  refine ⟨⟨j.ok.gs, by rw [List.length_set, List.length_set]; exact j.ok.len, fun l t e => ?_, fun l m t u b hlm e1 e2 m1 m2 e3 e4 => ?_⟩, j.ext, fun l es b e1 e2 => ?_, fun b ⟨l, e1, e2⟩ => ?_⟩
  · rcases key l t e with ⟨rfl, rfl⟩ | ⟨z, e⟩
    · exact ⟨v, sel, h⟩
    · rw [oth l z]
      exact j.ok.sl l t e
  · rcases key l t e1 with ⟨y1, y2⟩ | ⟨z1, e1'⟩
    · obtain ⟨ds, hds⟩ := mutS (y2 ▸ m1)
      rw [y1, sel] at e3
      cases e3
      rcases key m u e2 with ⟨z, _⟩ | ⟨z2, e2'⟩
      · exact hlm (y1.trans z.symm)
      · rw [oth m z2] at e4
        exact (fr ds b hds rfl).2 m u e2' m2 e4
    · rw [oth l z1] at e3
      rcases key m u e2 with ⟨y1, y2⟩ | ⟨z2, e2'⟩
      · obtain ⟨ds, hds⟩ := mutS (y2 ▸ m2)
        rw [y1, sel] at e4
        cases e4
        exact (fr ds b hds rfl).2 l t e1' m1 e3
      · rw [oth m z2] at e4
        exact j.ok.dj l m t u b hlm e1' e2' m1 m2 e3 e4
  · rcases key l _ e1 with ⟨rfl, z⟩ | ⟨z, e1⟩
    · rw [sel] at e2
      cases e2
      exact (fr es b z.symm rfl).1
    · rw [oth l z] at e2
      exact j.own l es b e1 e2
  · rcases key l _ e1 with ⟨rfl, z⟩ | ⟨z, e1⟩
    · exact absurd z.symm hd
    · rw [oth l z] at e2
      exact j.drw b ⟨l, e1, e2⟩
theorem slot_there (k : Ok C K ρ σ F H) {l : Nat} {t : Sl} {a : Addr} (e : ρ[l]? = some (some t)) (m : t.mut = true) (h : σ[l]? = some (some (V.ref a))) : H a ≠ none := by
  obtain ⟨v, e1, e2⟩ := k.sl l t e
  obtain ⟨b, rfl, _, vs, hb⟩ := e2.there m
  rw [h] at e1
  cases e1
  rw [hb]
  simp
/-- two values that were just made, one after the other -/
theorem Jd.put2 {i i2 : Nat} {v v2 : V} {s s2 : Sl} (j : Jd C K W F0 H0 ρ σ F H) (x1 : Ext C K (drA ρ σ) F H F1 H1) (h : SlNew K F1 H1 H v s) (x2 : Ext C K (drA ρ σ) F1 H1 F2 H2) (h2 : SlNew K F2 H2 H1 v2 s2) (hs : slotFree ρ i = true) (hs2 : slotFree (ρ.set i (some s)) i2 = true) :
    Jd C K W F0 H0 ((ρ.set i (some s)).set i2 (some s2)) ((σ.set i (some v)).set i2 (some v2)) F2 H2 := by
  have hl := h.later j.ok x1.gs x2
  have j1 := (j.step x1).step x2
  have old : ∀ a, H a = none → H0 a = none := fun a ha => by
    cases z : H0 a with
    | none => rfl
    | some o => exact absurd ha (j.ext.dom a (by rw [z]; simp))
  have old1 : ∀ a, H1 a = none → H a = none := fun a ha => (none_back x1 ha).1
  have ja := j1.put' hl.rep.1 hl.rep.2 hs fun ds a es ev => ⟨old a (SlNew.new (es ▸ h) ev), fun l t e1 m e2 => slot_there j.ok e1 m e2 (SlNew.new (es ▸ h) ev)⟩
  refine ja.put' h2.rep.1 h2.rep.2 hs2 fun ds a es ev => ?_
  have ha1 : H1 a = none := SlNew.new (es ▸ h2) ev
  refine ⟨old a (old1 a ha1), fun l t e1 m e2 => ?_⟩
  have hi := slot_lt hs
  by_cases z : i = l
  · subst z
    rw [List.getElem?_set_self (by rw [j.ok.len]; exact hi)] at e2
    rw [List.getElem?_set_self hi] at e1
    cases e1
    cases e2
    cases s with
    | val d => cases m
    | dic f => cases m
    | fob f => cases m
    | drw => exact hl.rep.2 rfl
    | obj es =>
      obtain ⟨b, vs, eb, _, _, hb, _⟩ := h
      cases eb
      rw [ha1] at hb
      cases hb
  · rw [List.getElem?_set_ne z] at e1 e2
    exact slot_there (j.step x1).ok e1 m e2 ha1
end

section
variable {X : Cx} {C : DC} {E : XK} {ρ : REnv} {e a b : Expr} {γ : Type} {ρ' : γ → REnv} {rest : List Stmt} {p p2 p3 p4 pos : Pos} {i j : Nat} {x y : Str}
/-- the values of two expressions -/
theorem dv_two {α β : Type} {inj : α → Sl} {inj2 : β → Sl} {m : M α} {m2 : M β} (ha : DV X C E ρ a inj m) (hb : DV X C E ρ b inj2 m2) (hst : starEach [a, b] X.env = (false, eval a X.env) :: starEach [b] X.env := by rfl) (hst2 : starEach [b] X.env = (false, eval b X.env) :: starEach [] X.env := by rfl) :
    ∃ t, PA X [a, b] t ∧ ∀ σ F H Q, Ok C X.K ρ σ F H → (m >>= fun c => m2 >>= fun d => pure (c, d)).run (fun c => ∀ v v2 F1 H1 F2 H2, Ext C X.K (drA ρ σ) F H F1 H1 → SlNew X.K F1 H1 H v (inj c.1) → Ext C X.K (drA ρ σ) F1 H1 F2 H2 → SlNew X.K F2 H2 H1 v2 (inj2 c.2) → Q [v, v2] H2) (RE C X.K E (drA ρ σ) F H) → t σ H Q := by
  obtain ⟨t, h1, h2⟩ := ha
  obtain ⟨u, g1, g2⟩ := hb
  refine ⟨_, pa_cons h1 (pa_cons g1 pa_nil hst2) hst, fun σ F H Q k hm => h2 σ F H _ k (m.mono (fun c q v F1 H1 x1 hv => ?_) (fun _ r => r) hm)⟩
  exact g2 σ F1 H1 _ (k.ext x1) (m2.mono (fun d q v2 F2 H2 x2 hv2 => q v v2 F1 H1 F2 H2 x1 hv x2 hv2) (fun er r => RE.later x1 er r) q)
/-- x, y = a, b -/
theorem dss_par {α β : Type} {inj : α → Sl} {inj2 : β → Sl} {m : M α} {m2 : M β} {f : α → β → M (Fl γ)} {kt k2 : Nat} (hc : X.calm = true) (hN : X.N.Nodup) (hi : X.N[i]? = some x) (hj : X.N[j]? = some y) (hij : i ≠ j) (hx : X.env.scope.names.lookup x = some .local) (hy : X.env.scope.names.lookup y = some .local)
    (hs : slotFree ρ i = true) (hs2 : ∀ c, slotFree (ρ.set i (some (inj c))) j = true) (ha : DV X C E ρ a inj m) (hb : DV X C E ρ b inj2 m2) (hr : ∀ c d, DSs X C E ((ρ.set i (some (inj c))).set j (some (inj2 d))) rest ρ' (f c d))
    (hw : swappedStores [.Tuple [.Name x p, .Name y p2] kt p3] (.Tuple [a, b] k2 p4) X.env = pure (some [x, y])) (hst : starEach [a, b] X.env = (false, eval a X.env) :: starEach [b] X.env := by rfl) (hst2 : starEach [b] X.env = (false, eval b X.env) :: starEach [] X.env := by rfl)
    (hsw : swapsWithSole [.Tuple [.Name x p, .Name y p2] kt p3] (.Tuple [a, b] k2 p4) pos.line X.env = pure false := by rfl) :
    DSs X C E ρ (.Assign [.Tuple [.Name x p, .Name y p2] kt p3] (.Tuple [a, b] k2 p4) pos :: rest) ρ' (m >>= fun c => m2 >>= fun d => f c d) := by
  obtain ⟨t, h1, h2⟩ := dv_two ha hb hst hst2
  refine ⟨_, pss_cons (ps_par hc hN hi hj hij hx hy h1 hw hsw) (DSs.pss (α := α × β) (ρa := fun c => (ρ.set i (some (inj c.1))).set j (some (inj2 c.2))) (f := fun c => f c.1 c.2) fun c => hr c.1 c.2), fun W F0 H0 σ F H D jd hm => h2 σ F H _ jd.ok ?_⟩
  refine (m >>= fun c => m2 >>= fun d => pure (c, d)).mono (fun c q v v2 F1 H1 F2 H2 x1 hv x2 hv2 => ⟨v, v2, rfl, ?_⟩) (fun er r => jd.re r) (show (m >>= fun c => m2 >>= fun d => pure (c, d)).run (fun c => (f c.1 c.2).run (SPost C X.K W F0 H0 F ρ' D) (RE C X.K E W F0 H0)) _ from hm)
  exact tSS.mk c (jd.put2 x1 hv x2 hv2 hs (hs2 c.1)) (x1.trans x2 |>.fsub jd.ok.gs) q
/-- .. by a pair that is made -/
theorem dss_parT {α β : Type} {inj : α → Sl} {inj2 : β → Sl} {m : M α} {m2 : M β} {f : α → β → M (Fl γ)} {kt k2 : Nat} (hc : X.calm = true) (hN : X.N.Nodup) (hi : X.N[i]? = some x) (hj : X.N[j]? = some y) (hx : Loc X.env.scope x) (hy : Loc X.env.scope y)
    (hs : slotFree ρ i = true) (hs2 : ∀ c, slotFree (ρ.set i (some (inj c))) j = true) (ha : DV X C E ρ a inj m) (hb : DV X C E ρ b inj2 m2) (hr : ∀ c d, DSs X C E ((ρ.set i (some (inj c))).set j (some (inj2 d))) rest ρ' (f c d))
    (hw : swappedStores [.Tuple [.Name x p, .Name y p2] kt p3] (.Tuple [a, b] k2 p4) X.env = pure none := by rfl) (hst : starEach [a, b] X.env = (false, eval a X.env) :: starEach [b] X.env := by rfl) (hst2 : starEach [b] X.env = (false, eval b X.env) :: starEach [] X.env := by rfl)
    (hsw : swapsWithSole [.Tuple [.Name x p, .Name y p2] kt p3] (.Tuple [a, b] k2 p4) pos.line X.env = pure false := by rfl) (h1 : (assignEach [.Tuple [.Name x p, .Name y p2] kt p3] X.env).map (·.2) = [assign (.Tuple [.Name x p, .Name y p2] kt p3) X.env] := by rfl)
    (hf : X.fn x = true ∨ X.env.scope.names.lookup x = some .local := by first | exact .inl rfl | exact .inr rfl) (hf2 : X.fn y = true ∨ X.env.scope.names.lookup y = some .local := by first | exact .inl rfl | exact .inr rfl)
    (hn : (assignEach [.Name x p, .Name y p2] X.env).length = 2 := by rfl) (hst3 : (assignEach [.Name x p, .Name y p2] X.env).findIdx? (·.1) = none := by rfl) :
    DSs X C E ρ (.Assign [.Tuple [.Name x p, .Name y p2] kt p3] (.Tuple [a, b] k2 p4) pos :: rest) ρ' (m >>= fun c => m2 >>= fun d => f c d) := by
  have hpg : PGs X [.Name x p, .Name y p2] (gCons (gName i) (gCons (gName j) gNil)) := pgs_cons (pg_name hN hi hx hf) (pgs_cons (pg_name hN hj hy hf2) pgs_nil)
  obtain ⟨t, g1, g2⟩ := dv_two ha hb hst hst2
  refine ⟨_, pss_cons (ps_asg (pe_tup g1) (pg_tup hc hpg hn hst3) hsw hw h1) (DSs.pss (α := α × β) (ρa := fun c => (ρ.set i (some (inj c.1))).set j (some (inj2 c.2))) (f := fun c => f c.1 c.2) fun c => hr c.1 c.2), fun W F0 H0 σ F H D jd hm => g2 σ F H _ jd.ok ?_⟩
  refine (m >>= fun c => m2 >>= fun d => pure (c, d)).mono (fun c q v v2 F1 H1 F2 H2 x1 hv x2 hv2 => ⟨by show 2 ≤ sizeLine; decide, fun T hT => ?_⟩) (fun er r => jd.re r) (show (m >>= fun c => m2 >>= fun d => pure (c, d)).run (fun c => (f c.1 c.2).run (SPost C X.K W F0 H0 F ρ' D) (RE C X.K E W F0 H0)) _ from hm)
  have x3 : Ext C X.K (drA ρ σ) F2 H2 F2 (upd H2 T (.tup [v, v2])) := ext_new x2.gs hT
  have x23 := x2.trans x3
  have hv3 : SlNew X.K F2 (upd H2 T (.tup [v, v2])) H1 v2 (inj2 c.2) := by
    generalize inj2 c.2 = s at hv2 ⊢
    cases s with
    | val d => exact hv2
    | dic f => exact hv2
    | fob f => exact hv2
    | obj ds =>
      obtain ⟨a, vs, rfl, q1, q2, q3, q4⟩ := hv2
      exact ⟨a, vs, rfl, q1, q2, by rw [upd_ne (fun z => by rw [z, hT] at q3; cases q3)]; exact q3, q4⟩
    | drw => exact hv2
  exact ⟨T, [v, v2], rfl, .inl (.inl upd_same), rfl, v, [v2], rfl, v2, [], rfl, rfl, tSS.mk c (jd.put2 x1 hv x23 hv3 hs (hs2 c.1)) (x1.trans x23 |>.fsub jd.ok.gs) q⟩
/-- x.append(e) -/
theorem dss_app {m : M PyData} {ds : List PyData} {f : PyData → M (Fl γ)} {name : Str} {apos : Pos} (hn : name = "append") (hρ : ρ[i]? = some (some (.own ds))) (hp : PE X (.Name x p) (tVar i)) (he : DE X C E ρ e m) (hr : ∀ d, DSs X C E (ρ.set i (some (.own (ds ++ [d])))) rest ρ' (f d))
    (hpe : ∀ {to : TE} {t : TA}, PE X (.Name x p) to → PA X [e] t → PE X (.Call (.Attribute (.Name x p) name apos) [e] [] p2) (tBM X.K "list" rAppend to t)) (hst : starEach [e] X.env = (false, eval e X.env) :: starEach [] X.env := by rfl)
    (hsw : swapsWith (.Call (.Attribute (.Name x p) name apos) [e] [] p2) none pos.line X.env = pure false := by rfl) :
    DSs X C E ρ (.Expr (.Call (.Attribute (.Name x p) name apos) [e] [] p2) pos :: rest) ρ' (m >>= fun d => M.guard (decide (ds.length < sizeLine)) (f d)) := by
  obtain ⟨t, h1, h2⟩ := he
  refine ⟨_, pss_cons (ps_expr (hpe hp (pa_cons h1 pa_nil hst)) hsw) (DSs.pss hr), fun W F0 H0 σ F H D j hm => ?_⟩
  obtain ⟨v, ha, hsl⟩ := j.ok.sl i _ hρ
  obtain ⟨a, vs, rfl, hF, hH, hd⟩ := own_iff.mp hsl
  refine ⟨_, ha, .inl ⟨rfl, _, .inl (.inl hH)⟩, h2 σ F H _ j.ok (m.mono (fun d q w F1 H1 x1 hw => ?_) (fun er r => j.re r) hm)⟩
  obtain ⟨hl, q⟩ := guard_run q
  have hl := of_decide_eq_true hl
  have j1 := j.step x1
  obtain ⟨v', ha', hsl'⟩ := j1.ok.sl i _ hρ
  obtain ⟨a', vs', e', hF', hH', hd'⟩ := own_iff.mp hsl'
  rw [ha] at ha'
  cases ha'
  cases e'
  exact ⟨a, vs', w, rfl, rfl, hH', by rw [DpAll.length hd']; exact hl, tSS.mk d (j1.wr hρ ha hH' (DpAll.append hd' (.cons hw .nil))) (x1.fsub j.ok.gs) q⟩
/-- what .extend wants of a datum -/
def extM {β : Type} (f : List PyData → M β) : PyData → M β
  | .list es => f es
  | _ => .stuck
/-- x.extend(e) -/
theorem dss_ext {m : M PyData} {ds : List PyData} {f : List PyData → M (Fl γ)} {name : Str} {apos : Pos} (hn : name = "extend") (hρ : ρ[i]? = some (some (.own ds))) (hp : PE X (.Name x p) (tVar i)) (he : DE X C E ρ e m) (hr : ∀ es, DSs X C E (ρ.set i (some (.own (ds ++ es)))) rest ρ' (f es))
    (hpe : ∀ {to : TE} {t : TA}, PE X (.Name x p) to → PA X [e] t → PE X (.Call (.Attribute (.Name x p) name apos) [e] [] p2) (tBM X.K "list" (rExtL X.K) to t)) (hst : starEach [e] X.env = (false, eval e X.env) :: starEach [] X.env := by rfl)
    (hsw : swapsWith (.Call (.Attribute (.Name x p) name apos) [e] [] p2) none pos.line X.env = pure false := by rfl) :
    DSs X C E ρ (.Expr (.Call (.Attribute (.Name x p) name apos) [e] [] p2) pos :: rest) ρ' (m >>= fun d => extM (fun es => M.guard (decide (ds.length + es.length ≤ sizeLine)) (f es)) d) := by
  obtain ⟨t, h1, h2⟩ := he
  refine ⟨_, pss_cons (ps_expr (hpe hp (pa_cons h1 pa_nil hst)) hsw) (DSs.pss hr), fun W F0 H0 σ F H D j hm => ?_⟩
  obtain ⟨v, ha, hsl⟩ := j.ok.sl i _ hρ
  obtain ⟨a, vs, rfl, hF, hH, hd⟩ := own_iff.mp hsl
  refine ⟨_, ha, .inl ⟨rfl, _, .inl (.inl hH)⟩, h2 σ F H _ j.ok (m.mono (fun d q w F1 H1 x1 hw => ?_) (fun er r => j.re r) hm)⟩
  have j1 := j.step x1
  obtain ⟨v', ha', hsl'⟩ := j1.ok.sl i _ hρ
  obtain ⟨a', vs', e', hF', hH', hd'⟩ := own_iff.mp hsl'
  rw [ha] at ha'
  cases ha'
  cases e'
  cases d with
  | list es =>
    obtain ⟨hl, q⟩ := guard_run q
    have hl := of_decide_eq_true hl
    cases hw with
    | lst hs hde =>
      exact ⟨a, _, vs', _, rfl, rfl, hH', sql_mono x1.gs.sub hs, by rw [DpAll.length hd', DpAll.length hde]; exact hl, tSS.mk es (j1.wr hρ ha hH' (DpAll.append hd' hde)) (x1.fsub j.ok.gs) q⟩
  | _ => exact q.elim
def augM {β : Type} (g : Int → Int → Int) (f : PyData → M β) : PyData → PyData → M β
  | .int a, .int b => f (.int (g a b))
  | _, _ => .stuck
/-- x += e, whole numbers -/
theorem dss_augI {m : M PyData} {f : PyData → M (Fl γ)} {op : Operator} {g : Int → Int → Int} {d0 : PyData} (hN : X.N.Nodup) (hi : X.N[i]? = some x) (hx : Loc X.env.scope x) (hρ : ρ[i]? = some (some (.val d0))) (hop : PIp X op (ipI g)) (he : DE X C E ρ e m) (hr : ∀ d, DSs X C E (ρ.set i (some (.val d))) rest ρ' (f d))
    (hf : X.fn x = true ∨ X.env.scope.names.lookup x = some .local := by first | exact .inl rfl | exact .inr rfl) :
    DSs X C E ρ (.AugAssign (.Name x p) op e pos :: rest) ρ' (m >>= fun d => augM g f d0 d) := by
  obtain ⟨t, h1, h2⟩ := he
  refine ⟨_, pss_cons (ps_aug hN hi hx h1 hop hf) (DSs.pss hr), fun W F0 H0 σ F H D j hm => ?_⟩
  obtain ⟨v, hv, hd0⟩ := j.ok.sl i _ hρ
  refine ⟨v, hv, h2 σ F H _ j.ok (m.mono (fun d q w F1 H1 x1 hw => ?_) (fun er r => j.re r) hm)⟩
  have hs : slotFree ρ i = true := by unfold slotFree; rw [hρ]
  cases hd0 with
  | int a =>
    cases hw with
    | int b => exact ⟨a, b, rfl, rfl, tSS.mk _ (j.put (s := .val (.int (g a b))) x1 (.int _) hs) (x1.fsub j.ok.gs) q⟩
    | _ => exact q.elim
  | _ => exact q.elim
end
end DL

set_option Elab.async false
set_option linter.all false
set_option maxRecDepth 100000
set_option maxHeartbeats 4000000
/-! the data layer: loops, raise, defs, calls -/
namespace DL
open PySem PySem.Spec PyProof.Rows L2

/-! ### loops -/
/-- a walk with a state -/
def forM {γ δ : Type} (pat : PyData → M δ) (body : γ → δ → M (Fl γ)) : List PyData → γ → M (Fl γ)
  | [], c => pure (.nx c)
  | d :: r, c => (pat d >>= fun p => body c p).thn fun c' => forM pat body r c'
def whileM {γ : Type} (test : γ → M Bool) (body : γ → M (Fl γ)) : Nat → γ → M (Fl γ)
  | 0, _ => .stuck
  | n + 1, c => test c >>= fun k => if k = true then (body c).thn fun c' => whileM test body n c' else pure (.nx c)
structure DGs (X : Cx) (C : DC) (lz : Bool) (ρ : REnv) (tg : Expr) {δ : Type} (pat : PyData → M δ) (ρ' : δ → REnv) (g : TG) : Prop where
  pg : PG X tg g
  ok : ∀ W F0 H0 σ F H (Q : L2.St → Hp → Prop) (R : Er → Prop) v d, Jd C X.K W F0 H0 ρ σ F H → DpL lz X.K F v d → (pat d).run (fun c => ∀ σ', Jd C X.K W F0 H0 (ρ' c) σ' F H → Q σ' H) R → g v σ H Q
section
variable {X : Cx} {C : DC} {E : XK} {ρ : REnv} {e a b : Expr} {γ : Type} {ρ' : γ → REnv} {rest : List Stmt} {p p2 p3 p4 pos : Pos} {i j l : Nat} {x y z : Str}
theorem Jd.putV {K : PySem.W.Frag} {W : Addr → Prop} {F0 H0 F H : Hp} {σ : L2.St} {v : V} {d : PyData} (jd : Jd C K W F0 H0 ρ σ F H) (h : Dp K F v d) (hs : slotFree ρ i = true) : Jd C K W F0 H0 (ρ.set i (some (.val d))) (σ.set i (some v)) F H :=
  jd.put' (s := .val d) h (fun z => nomatch z) hs fun ds a e => nomatch e
theorem dgs_name (hN : X.N.Nodup) (hi : X.N[i]? = some x) (hx : Loc X.env.scope x) (hs : slotFree ρ i = true) (hf : X.fn x = true ∨ X.env.scope.names.lookup x = some .local := by first | exact .inl rfl | exact .inr rfl) :
    DGs X C false ρ (.Name x p) patN (fun d => ρ.set i (some (.val d))) (gName i) := ⟨pg_name hN hi hx hf, fun W F0 H0 σ F H Q R v d jd h q => q _ (jd.putV h.strict hs)⟩
theorem dgs_2 {lz : Bool} {k : Nat} {K : PySem.W.Frag} (hK : X.K = K) (hc : X.calm = true) (hN : X.N.Nodup) (hi : X.N[i]? = some x) (hx : Loc X.env.scope x) (hj : X.N[j]? = some y) (hy : Loc X.env.scope y) (hs : slotFree ρ i = true) (hs2 : ∀ d, slotFree (ρ.set i (some (.val d))) j = true)
    (hf : X.fn x = true ∨ X.env.scope.names.lookup x = some .local := by first | exact .inl rfl | exact .inr rfl) (hf2 : X.fn y = true ∨ X.env.scope.names.lookup y = some .local := by first | exact .inl rfl | exact .inr rfl)
    (hn : (assignEach [.Name x p, .Name y p2] X.env).length = 2 := by rfl) (hst : (assignEach [.Name x p, .Name y p2] X.env).findIdx? (·.1) = none := by rfl) :
    DGs X C lz ρ (.Tuple [.Name x p, .Name y p2] k pos) pat2 (fun c => (ρ.set i (some (.val c.1))).set j (some (.val c.2))) (gTup K 2 (gCons (gName i) (gCons (gName j) gNil))) := by
  subst hK
  have hpg : PGs X [.Name x p, .Name y p2] (gCons (gName i) (gCons (gName j) gNil)) := pgs_cons (pg_name hN hi hx hf) (pgs_cons (pg_name hN hj hy hf2) pgs_nil)
  refine ⟨pg_tup hc hpg hn hst, fun W F0 H0 σ F H Q R v d jd h q => ?_⟩
  match d, q with
  | .tuple [a, b], q =>
    obtain ⟨a0, vs0, rfl, hs1, hd⟩ := h.tuple
    · obtain ⟨v1, v2, rfl, d1, d2⟩ := dpAll2 hd
      exact ⟨_, _, rfl, sqt_mono jd.ok.gs.sub hs1, rfl, v1, [v2], rfl, v2, [], rfl, rfl, q _ ((jd.putV d1 hs).putV d2 (hs2 a))⟩
def ThP {α β : Type} (f : α → M (Fl β)) (P : Fl β → Prop) (R : Er → Prop) : Fl α → Prop
  | .nx c => (f c).run P R
  | .rt d => P (.rt d)
theorem thn_run {α β : Type} {m : M (Fl α)} {f : α → M (Fl β)} {P : Fl β → Prop} {R : Er → Prop} : (m.thn f).run P R = m.run (ThP f P R) R := by
  show m.run _ R = m.run _ R
  congr 1
  funext fl
  cases fl <;> rfl
/-- the body of a loop -/
theorem loop_post {K : PySem.W.Frag} {W : Addr → Prop} {F0 H0 F F1 : Hp} {D : Ends} {α : Type} {ρl : α → REnv} {N : L2.St → Hp → Prop} {nxt : α → M (Fl α)} (fs1 : FSub F F1) (hN : ∀ c σ' F' H', Jd C K W F0 H0 (ρl c) σ' F' H' → FSub F1 F' → (nxt c).run (SPost C K W F0 H0 F' ρl D) (RE C K E W F0 H0) → N σ' H') (ct bk : L2.St → Hp → Prop) :
    ∀ fl : Fl α, ThP nxt (SPost C K W F0 H0 F ρl D) (RE C K E W F0 H0) fl → SPost C K W F0 H0 F1 ρl { D with nx := N, ct := ct, bk := bk } fl
  | .nx c, q => fun σ' F' H' jd fs => hN c σ' F' H' jd fs ((nxt c).mono (fun fl z => SPost.sub (fs1.trans fs) fl z) (fun _ z => z) (show (nxt c).run _ _ from q))
  | .rt d, q => q
/-- while -/
theorem dss_while {α : Type} {c : Expr} {body : List Stmt} {ρl : α → REnv} {test : α → M Bool} {mb : α → M (Fl α)} {f : α → M (Fl γ)} (n : Nat) (c0 : α) (h0 : subR (ρl c0) ρ) (hp : PassesOwn (model X.prog X.w) X.A X.env X.xe)
    (ht : ∀ a, DT X C E (ρl a) c (test a)) (hb : ∀ a, DSs X C E (ρl a) body ρl (mb a)) (hr : ∀ a, DSs X C E (ρl a) rest ρ' (f a)) :
    DSs X C E ρ (.While c body [] pos :: rest) ρ' ((whileM test mb n c0).thn f) := by
  have hpt : PT X c (fun σ H Q => ∃ a, tDT C X.K E (ρl a) (test a) σ H Q) := ⟨fun pins s σ H Q I ⟨a, h⟩ => (ht a).pt.run pins s σ H Q I h⟩
  refine ⟨_, pss_cons (ps_while hp hpt (DSs.pss hb)) (DSs.pss hr), fun W F0 H0 σ F H D jd hm => ?_⟩
  rw [thn_run] at hm
  refine ⟨fun m σ H => ∃ a F1, Jd C X.K W F0 H0 (ρl a) σ F1 H ∧ FSub F F1 ∧ (whileM test mb m a).run (SPost C X.K W F0 H0 F1 ρl { D with nx := tSS C X.K E ρl ρ' f D }) (RE C X.K E W F0 H0), ⟨n, c0, F, jd.sub h0, FSub.refl F, (whileM test mb n c0).mono (fun fl z => ?_) (fun _ z => z) hm⟩, fun m σ H ⟨a, F1, j1, fs1, hw⟩ => ?_⟩
  · cases fl with
    | nx c => exact fun σ' F' H' j' fs => tSS.mk c j' fs z
    | rt d => exact z
  · cases m with
    | zero => exact hw.elim
    | succ m =>
      refine ⟨a, F1, j1.ok, (test a).mono (fun k q F2 H2 x2 => ?_) (fun er r => j1.re r) (show (test a).run _ _ from hw)⟩
      have fs2 : FSub F1 F2 := x2.fsub j1.ok.gs
      cases k with
      | true =>
        dsimp only at q ⊢
        rw [if_pos rfl] at q
        rw [if_pos rfl]
        rw [thn_run] at q
        refine ⟨fun σ' H' => ∃ a F', Jd C X.K W F0 H0 (ρl a) σ' F' H' ∧ FSub F F' ∧ (whileM test mb m a).run (SPost C X.K W F0 H0 F' ρl { D with nx := tSS C X.K E ρl ρ' f D }) (RE C X.K E W F0 H0), fun σ' H' h => ⟨m, Nat.lt_succ_self m, h⟩, ?_⟩
        refine ⟨a, W, F0, H0, F2, j1.step x2, (mb a).mono (fun fl z => ?_) (fun _ z => z) q⟩
        exact loop_post (D := { D with nx := tSS C X.K E ρl ρ' f D }) fs2 (fun c σ' F' H' j' fs q => ⟨c, F', j', (fs1.trans fs2).trans fs, q⟩) _ _ fl z
      | false =>
        dsimp only at q ⊢
        rw [if_neg Bool.false_ne_true] at q
        rw [if_neg Bool.false_ne_true]
        exact (show SPost C X.K W F0 H0 F1 ρl { D with nx := tSS C X.K E ρl ρ' f D } (.nx a) from q) σ F2 H2 (j1.step x2) fs2
/-- for -/
theorem dss_for {lz : Bool} {α δ : Type} {tg iter : Expr} {body : List Stmt} {ρl : α → REnv} {pat : PyData → M δ} {ρb : α → δ → REnv} {g : TG} {mi : M (List PyData)} {mb : α → δ → M (Fl α)} {f : α → M (Fl γ)} (c0 : α) (h0 : subR (ρl c0) ρ) (hp : PassesOwn (model X.prog X.w) X.A X.env X.xe) (hc : X.calm = true)
    (hi : DF X C E ρ lz tg iter mi) (hg : ∀ a, DGs X C lz (ρl a) tg pat (ρb a) g) (hb : ∀ a c, DSs X C E (ρb a c) body ρl (mb a c)) (hr : ∀ a, DSs X C E (ρl a) rest ρ' (f a)) (hs : ∀ x, foldedSetIterable iter X.env x = pure x := by intro _; rfl) :
    DSs X C E ρ (.For tg iter body [] pos :: rest) ρ' (mi >>= fun ds => (forM pat mb ds c0).thn f) := by
  obtain ⟨wi, hi1, hi2⟩ := hi
  refine ⟨_, pss_cons (ps_for hp hc hi1 (hg c0).pg (DSs.pss (α := α × δ) (ρa := fun c => ρb c.1 c.2) (f := fun c => mb c.1 c.2) fun c => hb c.1 c.2) hs) (DSs.pss hr), fun W F0 H0 σ F H D jd hm => hi2 σ F H _ jd.ok (mi.mono (fun ds q J F1 H1 x1 wk => ?_) (fun er r => jd.re r) hm)⟩
  dsimp only at q
  rw [thn_run] at q
  have fs0 : FSub F F1 := x1.fsub jd.ok.gs
  refine ⟨fun i m σ H => m = ds.length - i ∧ i ≤ ds.length ∧ ∃ a F2, Jd C X.K W F0 H0 (ρl a) σ F2 H ∧ FSub F1 F2 ∧ (forM pat mb (ds.drop i) a).run (SPost C X.K W F0 H0 F2 ρl { D with nx := tSS C X.K E ρl ρ' f D }) (RE C X.K E W F0 H0),
    ⟨_, rfl, Nat.zero_le _, c0, F1, (jd.step x1).sub h0, FSub.refl F1, (forM pat mb ds c0).mono (fun fl z => ?_) (fun _ z => z) q⟩, fun i m σ H ⟨hm, hile, a, F2, j2, fs2, hw⟩ => ?_⟩
  · cases fl with
    | nx c => exact fun σ' F' H' j' fs => tSS.mk c j' (fs0.trans fs) z
    | rt d => exact z
  · have wki := wk F2 H i j2.ok.gs fs2
    by_cases hlt : i < ds.length
    · have hdrop : ds.drop i = ds[i] :: ds.drop (i + 1) := List.drop_eq_getElem_cons hlt
      rw [hdrop] at hw
      obtain ⟨hgo, hy⟩ := wki.2 ds[i] (List.getElem?_eq_getElem hlt)
      refine .inr ⟨hgo, fun σ' H' => (i + 1) ≤ ds.length ∧ ∃ a F', Jd C X.K W F0 H0 (ρl a) σ' F' H' ∧ FSub F1 F' ∧ (forM pat mb (ds.drop (i + 1)) a).run (SPost C X.K W F0 H0 F' ρl { D with nx := tSS C X.K E ρl ρ' f D }) (RE C X.K E W F0 H0), fun σ' H' h => ⟨ds.length - (i + 1), by omega, rfl, h⟩, fun u H3 hu => ?_⟩
      obtain ⟨F3, x3, hd3⟩ := hy u H3 hu
      have fs3 : FSub F2 F3 := (x3 W).fsub j2.ok.gs
      have j3 := j2.step (x3 (drA (ρl a) σ))
      have hw : ((pat ds[i] >>= fun p => mb a p).thn fun c' => forM pat mb (ds.drop (i + 1)) c').run (SPost C X.K W F0 H0 F2 ρl { D with nx := tSS C X.K E ρl ρ' f D }) (RE C X.K E W F0 H0) := hw
      rw [thn_run] at hw
      refine (hg a).ok W F0 H0 σ F3 H3 _ (RE C X.K E W F0 H0) u ds[i] j3 hd3 ((pat ds[i]).mono (fun c hb2 σ' j4 => ⟨(a, c), W, F0, H0, F3, j4, (mb a c).mono (fun fl z => ?_) (fun _ z => z) hb2⟩) (fun _ z => z) (show (pat ds[i]).run _ _ from hw))
      exact loop_post (D := { D with nx := tSS C X.K E ρl ρ' f D }) fs3 (fun c σ' F' H' j' fs q => ⟨hlt, c, F', j', (fs2.trans fs3).trans fs, q⟩) _ _ fl z
    · refine .inl ⟨wki.1 (by omega), ?_⟩
      rw [List.drop_eq_nil_of_le (by omega)] at hw
      exact (show SPost C X.K W F0 H0 F2 ρl { D with nx := tSS C X.K E ρl ρ' f D } (.nx a) from hw) σ F2 H j2 (FSub.refl F2)
end
end DL

set_option Elab.async false
set_option linter.all false
set_option maxRecDepth 100000
set_option maxHeartbeats 4000000
/-! the data layer: raise, defs, calls -/
namespace DL
open PySem PySem.Spec PyProof.Rows L2

/-! ### the promise of __init__ with one field -/
def spIni1 (K : PySem.W.Frag) (C : Addr) (fld : Str) : Sp := fun vs H Q _ => ∃ (a : Addr) (v : V), vs = [.ref a, v] ∧ H a = some (exo a C none) ∧ Shows K H v ∧ ∀ dx, H dx = none → dx ≠ a → Q .non (upd (upd H dx (exd dx [(fld, v)])) a (exo a C (some dx)))
section
variable {P : Program} {w : World} {K : PySem.W.Frag} {mg : Str → Option Value} {base : Heap}
theorem ini1 {CX : CXT} {qual fld txt : Str} {N : List Str} {fI C cda cc : Addr} {k : Nat} {pl : Env → Sem Bool} {st : Stmt} {fd : FuncData} {p0 p1 p2 p4 p5 p6 p7 p8 p9 q0 q1 q2 q3 : Pos} {jj : Nat}
    (F : SupF P K C fI qual st fd cda cc) (hN : N = [("self" : Str), fld]) (S : SupS N N (defScope st)) (hf : PySem.W.findIn K (.ref C) fld = some none)
    (hbody : defBody st = [.Expr (.Call (.Attribute (.Call (.Name "super" p0) [] [] p1) "__init__" p2) [.JoinedStr [.Constant (.str txt) jj p6, .FormattedValue (.Name fld p7) (-1) none p8] p9] [] p4) p5, .Assign [.Attribute (.Name "self" q0) fld q1] (.Name fld q2) q3])
    (hfl : (defScope st).names.lookup fld = some .local) (hsl : (defScope st).names.lookup ("self" : Str) = some .local) (hd : (fld == ("__debug__" : Str)) = false) (hcd : (fld == ("__classdict__" : Str)) = false) (htx : txt.length ≤ 1000)
    (hpar : ((defArgs st).posonlyargs ++ (defArgs st).args).head?.map (·.arg) = some ("self" : Str))
    (htop : (P.main.scope.names.lookup ("super" : Str)).isSome = false) (hms : mg "super" = none)
    (hst : ∀ X : Cx, starEach [.JoinedStr [.Constant (.str txt) jj p6, .FormattedValue (.Name fld p7) (-1) none p8] p9] X.env = (false, eval (.JoinedStr [.Constant (.str txt) jj p6, .FormattedValue (.Name fld p7) (-1) none p8] p9) X.env) :: starEach [] X.env)
    (hsw : ∀ X : Cx, swapsWith (.Name fld q2) (some (.Attribute (.Name "self" q0) fld q1)) q3.line X.env = pure false)
    (he : ∀ env : Env, eval (.Call (.Attribute (.Call (.Name "super" p0) [] [] p1) "__init__" p2) [.JoinedStr [.Constant (.str txt) jj p6, .FormattedValue (.Name fld p7) (-1) none p8] p9] [] p4) env = (do
        let ov ← attributeBase (.Call (.Name "super" p0) [] [] p1) "__init__" env (eval (.Call (.Name "super" p0) [] [] p1) env)
        standAt p2.atName
        let (f, first) ← holding [ov] (getMethod ov "__init__" (pl env))
        callWith p4 f first (backTo p4 (starEach [.JoinedStr [.Constant (.str txt) jj p6, .FormattedValue (.Name fld p7) (-1) none p8] p9] env)) [])) :
    FnOk P w K mg base CX (k + 1) fI fd N (spIni1 K C fld) := by
  refine ini_of F S hbody (by rw [hN]; rfl) hpar htop hms (fun vs H Q E ⟨a, v, e, _⟩ => by rw [e, hN]; rfl) (fun A outer s H vs Q E hr ⟨a, v, e, ha, hsh, q⟩ => ?_) hst he
  subst e
  subst hN
  have pF : PE (iniCx CX P w K mg base [("self" : Str), fld] qual (defScope st) fI (.ref cda) cc A outer s H E) (.Name fld p7) (tVar 1) := pe_var (i := 1) rfl (.inl hfl) hd hcd
  have pF2 : PE (iniCx CX P w K mg base [("self" : Str), fld] qual (defScope st) fI (.ref cda) cc A outer s H E) (.Name fld q2) (tVar 1) := pe_var (i := 1) rfl (.inl hfl) hd hcd
  have pS : PE (iniCx CX P w K mg base [("self" : Str), fld] qual (defScope st) fI (.ref cda) cc A outer s H E) (.Name "self" q0) (tVar 0) := pe_var (i := 0) rfl (.inl hsl) (by decide)
  refine ⟨a, [v], _, _, rfl, ha, pe_joined (.cons pe_str (.cons (pe_fmtD hr pF) .nil)), pss_one (ps_ost pS pF2 (hsw _)), ?_⟩
  refine ⟨txt, rfl, ?_, v, rfl, hsh, fun m hm => ⟨m, rfl, ?_, ?_⟩⟩
  · show (Str.empty ++ txt).length ≤ sizeLine
    rw [Str.length_append, sizeLine_eq]
    have : Str.empty.length = 0 := rfl
    omega
  · show (Str.empty ++ txt ++ m).length ≤ sizeLine
    rw [Str.length_append, Str.length_append, sizeLine_eq]
    have : Str.empty.length = 0 := rfl
    omega
  · refine ⟨⟨_, rfl⟩, ha, v, rfl, .ref a, rfl, a, C, rfl, F.T, hf, .inl ⟨ha, fun dx hdx hne => ?_⟩⟩
    exact q dx hdx hne
end

/-! ### raise -/
def smallD : PyData → Bool
  | .str y => decide (y.length ≤ 60) && y.cps.toList.all fun c => decide (c < 16 ^ 8)
  | .int i => decide (-300 < i) && decide (i < 300)
  | _ => false
def showsD : PyData → Bool
  | .tuple ds => decide (ds.length ≤ 20) && ds.all smallD
  | d => smallD d
section
variable {X : Cx} {C : DC} {E : XK} {ρ : REnv} {e a b : Expr} {γ : Type} {ρ' : γ → REnv} {rest : List Stmt} {p p2 p3 p4 pos : Pos} {i j l : Nat} {x y z : Str} {K : PySem.W.Frag} {W : Addr → Prop} {F H F1 H1 : Hp}
theorem small_dp {v : V} {d : PyData} (h : Dp K F v d) (hs : smallD d = true) : smallV v = true := by
  cases h with
  | str y => exact hs
  | int i => exact hs
  | _ => cases hs
theorem small_all : ∀ {vs : List V} {ds : List PyData}, DpAll K F vs ds → ds.all smallD = true → vs.all smallV = true
  | _, _, .nil, _ => rfl
  | _, _, .cons h r, hs => by
    rw [List.all_cons, Bool.and_eq_true] at hs ⊢
    exact ⟨small_dp h hs.1, small_all r hs.2⟩
theorem shows_dp {v : V} {d : PyData} (g : GS C F H) (h : Dp K F v d) (hs : showsD d = true) : Shows K H v := by
  cases d with
  | tuple ds =>
    simp only [showsD, Bool.and_eq_true, decide_eq_true_eq] at hs
    cases h with
    | tup ht hd => exact .inr ⟨_, _, rfl, sqt_mono g.sub ht.sq, by rw [DpAll.length hd]; exact hs.1, small_all hd hs.2⟩
  | _ => exact .inl (small_dp h hs)
theorem ext_grow {H' : Hp} (g : GS C F H) (k : ∀ b o, H b = some o → H' b = some o) : Ext C K W F H F H' := by
  refine ⟨fun b u h _ _ => k b u h, fun b h => ?_, fun _ _ => rfl, ⟨fun b u h => k b u (g.sub b u h), g.nt, fun P hP => ?_, g.lams.ext k⟩, fun b w d => drw_same (fun u h _ => k b u h) rfl (fun _ _ h => h) d⟩
  · cases q : H b with
    | none => exact absurd q h
    | some u => rw [k b u q]; simp
  · obtain ⟨ps, h1, h2⟩ := g.tabs P hP
    exact ⟨ps, k _ _ h1, h2⟩
def raise1 (mk : PyData → Er) (d : PyData) {β : Type} : M β := M.guard (showsD d) (M.err (mk d))
/-- raise X(e), an error with one field -/
theorem dss_raise1 {m : M PyData} {A fI : Addr} {fld : Str} {k : Nat} {fd : FuncData} {ps : List Str} (mk : PyData → Er) (hmk : ∀ n F H dd y, dd = some y → (∃ z, H y = some (.xd [(fld, z)]) ∧ Dp X.K F z n) → ErRep C X.K F H (mk n) (.ref A) dd)
    (hc : X.calm = true) (tk : Takes X (fun cls d _ H => E cls d H)) (T : OexC X.K A) (iC : PySem.W.findIn X.K (.ref A) "__init__" = some (some (.ref fI))) (tI : PySem.W.typeIn X.K (.ref fI) = some (.type "function"))
    (F1 : FnOk X.prog X.w X.K X.mg X.base (L2.CX X.prog X.w) k fI fd ps (spIni1 X.K A fld)) (hr : Room (k + 1) X.A) (hb : Binds X.K fd ps []) (hg : Gl X x) (hm : X.mg x = some (.ref A)) (he : DE X C E ρ e m)
    (hdb : (x == ("__debug__" : Str)) = false := by decide) (hst : starEach [e] X.env = (false, eval e X.env) :: starEach [] X.env := by rfl) (hpl : (backTo p2 (starEach [] X.env)).any (·.1) = false := by rfl) :
    DSs X C E ρ (.Raise (some (.Call (.Name x p) [e] [] p2)) none pos :: rest) ρ' (m >>= fun d => raise1 mk d) := by
  obtain ⟨t, h1, h2⟩ := he
  have hx : Passes (L2.CX X.prog X.w) X (fun _ _ _ => False) := fun _ _ _ _ _ _ _ ⟨_, _, _, _, _, _, _, _, _, _, _, _, z⟩ => z.elim
  refine ⟨_, pss_cons (ps_raise hc tk (pmk_oex T iC tI F1 hr hb .nil hx hg hm (pa_cons h1 pa_nil hst) hdb hst hpl)) pss_never, fun W F0 H0 σ F H D jd hq => h2 σ F H _ jd.ok (m.mono (fun d q v F2 H2 x2 hv => ?_) (fun er r => jd.re r) hq)⟩
  obtain ⟨hs, q⟩ := guard_run q
  have q : RE C X.K E W F0 H0 (mk d) := q
  have j2 := jd.step x2
  refine ⟨by show 1 ≤ 1000; decide, fun o ho => ⟨o, v, rfl, upd_same, ?_, fun dx hdx hne => ⟨rfl, dx, [(fld, v)], upd_same, ?_, ?_, ?_⟩⟩⟩
  · obtain hsh := shows_dp j2.ok.gs hv hs
    rcases hsh with hsh | ⟨ta, vs, rfl, ht, hl⟩
    · exact .inl hsh
    · have k : ∀ b u, H2 b = some u → upd H2 o (exo o A none) b = some u := fun b u h => by
        rw [upd_ne (fun z => by rw [z, ho] at h; cases h)]
        exact h
      exact .inr ⟨ta, vs, rfl, sqt_mono k ht, hl⟩
  · rw [upd_ne hne, upd_same]
  · rw [upd_ne hne] at hdx
    exact hdx
  · have hdx2 : H2 dx = none := by rw [upd_ne hne] at hdx; exact hdx
    have k : ∀ b u, H2 b = some u → upd (del (upd (upd (upd H2 o (exo o A none)) dx (exd dx [(fld, v)])) o (exo o A (some dx))) o) dx (.xd [(fld, v)]) b = some u := fun b u h => by
      have hb : b ≠ dx := fun z => by rw [z, hdx2] at h; cases h
      have hb2 : b ≠ o := fun z => by rw [z, ho] at h; cases h
      rw [upd_ne hb, del_ne hb2, upd_ne hb2, upd_ne hb, upd_ne hb2]
      exact h
    exact q _ _ F2 _ (j2.ext.trans (ext_grow j2.ok.gs k)) (hmk d F2 _ _ dx rfl ⟨v, upd_same, hv⟩)
end

/-! ### defs -/
def startR (N : List Str) (ds : List PyData) : REnv := ds.map (fun d => some (.val d)) ++ List.replicate (N.length - ds.length) none
def startD (N : List Str) (ds : List PyData) : REnv := some .drw :: (ds.map (fun d => some (.val d)) ++ List.replicate (N.length - (ds.length + 1)) none)
def M.fin {γ : Type} (m : M (Fl γ)) : M PyData := m >>= fun fl => match fl with
  | .nx _ => pure .none
  | .rt d => pure d
/-- a def's promise: what its mirror says -/
def spD (C : DC) (K : PySem.W.Frag) (n : Nat) (mir : List PyData → M PyData) : Sp := fun vs H Q E => ∃ W F ds, GS C F H ∧ DpAll K F vs ds ∧ ds.length = n ∧ (mir ds).run (fun d => ∀ v F' H', Ext C K W F H F' H' → Dp K F' v d → Q v H') (RE C K E W F H)
/-- .. whose first argument is the draws -/
def spR (C : DC) (K : PySem.W.Frag) (n : Nat) (mir : List PyData → M PyData) : Sp := fun vs H Q E => ∃ W F ds a ws, vs = .ref a :: ws ∧ W a ∧ Drw K F H a ∧ GS C F H ∧ DpAll K F ws ds ∧ ds.length + 1 = n ∧ (mir ds).run (fun d => ∀ v F' H', Ext C K W F H F' H' → Dp K F' v d → Q v H') (RE C K E W F H)
section
variable {C : DC} {K : PySem.W.Frag} {W : Addr → Prop} {F H : Hp}
theorem startR_get {N : List Str} {vs : List V} {ds : List PyData} (hd : DpAll K F vs ds) (hl : ds.length ≤ N.length) : (startR N ds).length = (L2.start N vs).length ∧ ∀ (i : Nat) s, (startR N ds)[i]? = some (some s) → ∃ v d, (L2.start N vs)[i]? = some (some v) ∧ s = .val d ∧ Dp K F v d := by
  have el := DpAll.length hd
  refine ⟨by unfold startR L2.start; rw [List.length_append, List.length_append, List.length_map, List.length_map, List.length_replicate, List.length_replicate, el], fun i s h => ?_⟩
  unfold startR at h
  unfold L2.start
  by_cases hi : i < ds.length
  · rw [List.getElem?_append_left (by rw [List.length_map]; exact hi), List.getElem?_map] at h
    rw [List.getElem?_append_left (by rw [List.length_map, el]; exact hi), List.getElem?_map]
    cases hdi : ds[i]? with
    | none => rw [hdi] at h; cases h
    | some d =>
      rw [hdi] at h
      obtain ⟨v, hv, dv⟩ := DpAll.get hd hdi
      rw [hv]
      cases h
      exact ⟨v, d, rfl, rfl, dv⟩
  · rw [List.getElem?_append_right (by rw [List.length_map]; omega), List.getElem?_replicate] at h
    split at h <;> cases h
theorem jd_start {N : List Str} {vs : List V} {ds : List PyData} (g : GS C F H) (hd : DpAll K F vs ds) (hl : ds.length ≤ N.length) : Jd C K W F H (startR N ds) (L2.start N vs) F H := by
  obtain ⟨h1, h2⟩ := startR_get hd hl
  refine ⟨⟨g, h1.symm, fun i s e => ?_, fun i j s t a n e1 e2 m1 => ?_⟩, .refl g, fun i es a e => ?_, fun a ⟨i, e, _⟩ => ?_⟩
  · obtain ⟨v, d, q1, rfl, q2⟩ := h2 i s e
    exact ⟨v, q1, q2⟩
  · obtain ⟨v, d, q1, rfl, q2⟩ := h2 i s e1
    cases m1
  · obtain ⟨v, d, q1, z, q2⟩ := h2 i _ e
    cases z
  · obtain ⟨v, d, q1, z, q2⟩ := h2 i _ e
    cases z
theorem jd_startD {N : List Str} {a : Addr} {ws : List V} {ds : List PyData} (g : GS C F H) (hw : W a) (da : Drw K F H a) (hd : DpAll K F ws ds) (hl : ds.length + 1 ≤ N.length) : Jd C K W F H (startD N ds) (L2.start N (.ref a :: ws)) F H := by
  have el := DpAll.length hd
  obtain ⟨h1, h2⟩ := startR_get (N := N.drop 1) hd (by rw [List.length_drop]; omega)
  have eR : startD N ds = some .drw :: startR (N.drop 1) ds := by
    unfold startD startR
    rw [List.length_drop, Nat.sub_sub, Nat.add_comm 1]
  have eS : L2.start N (.ref a :: ws) = some (.ref a) :: L2.start (N.drop 1) ws := by
    unfold L2.start
    rw [List.length_drop, List.map_cons, List.length_cons, List.cons_append, Nat.sub_sub, Nat.add_comm 1]
  rw [eR, eS]
  have key : ∀ (i : Nat) s, (some Sl.drw :: startR (N.drop 1) ds)[i]? = some (some s) → (i = 0 ∧ s = .drw) ∨ ∃ v d, (some (V.ref a) :: L2.start (N.drop 1) ws)[i]? = some (some v) ∧ s = .val d ∧ Dp K F v d := fun i s e => by
    cases i with
    | zero =>
      rw [List.getElem?_cons_zero] at e
      cases e
      exact .inl ⟨rfl, rfl⟩
    | succ i =>
      rw [List.getElem?_cons_succ] at e
      obtain ⟨v, d, q1, q2, q3⟩ := h2 i s e
      exact .inr ⟨v, d, by rw [List.getElem?_cons_succ]; exact q1, q2, q3⟩
  refine ⟨⟨g, by rw [List.length_cons, List.length_cons, h1], fun i s e => ?_, fun i j s t b n e1 e2 m1 m2 => ?_⟩, .refl g, fun i es b e => ?_, fun b ⟨i, e, e2⟩ => ?_⟩
  · rcases key i s e with ⟨rfl, rfl⟩ | ⟨v, d, q1, rfl, q2⟩
    · exact ⟨_, rfl, a, rfl, da⟩
    · exact ⟨v, q1, q2⟩
  · rcases key i s e1 with ⟨rfl, rfl⟩ | ⟨v, d, q1, rfl, q2⟩
    · rcases key j t e2 with ⟨rfl, rfl⟩ | ⟨v, d, q1, rfl, q2⟩
      · exact absurd rfl n
      · cases m2
    · cases m1
  · rcases key i _ e with ⟨rfl, z⟩ | ⟨v, d, q1, z, q2⟩
    · cases z
    · cases z
  · rcases key i _ e with ⟨rfl, z⟩ | ⟨v, d, q1, z, q2⟩
    · rw [List.getElem?_cons_zero] at e2
      cases e2
      exact hw
    · cases z
theorem fin_post {D : Ends} {Q : VK} {γ : Type} {ρ' : γ → REnv} {F0 H0 : Hp} (hD : D = { nx := fun _ H' => Q .non H', rt := Q }) : ∀ fl : Fl γ, (match fl with | .nx _ => pure PyData.none | .rt d => pure d : M PyData).run (fun d => ∀ v F' H', Ext C K W F0 H0 F' H' → Dp K F' v d → Q v H') (fun _ => True) → SPost C K W F0 H0 F ρ' D fl
  | .nx c, q => fun σ' F' H' j fs => by
    subst hD
    exact (show ∀ v F' H', Ext C K W F0 H0 F' H' → Dp K F' v .none → Q v H' from q) .non F' H' j.ext .non
  | .rt d, q => by
    subst hD
    exact q
end
section
variable {P : Program} {w : World} {K : PySem.W.Frag} {mg : Str → Option Value} {base : Heap} {C : DC}
/-- a def of the text -/
structure FunC (K : PySem.W.Frag) (x qual : Str) (st : Stmt) (f : Addr) (fd : FuncData) (cda : Addr) : Prop where
  ex : ∃ (oc : Value) (od : Option Addr) (kV doc pm : Value) (an : Option Addr) (ct : Value) (osl : Array (Option Value)),
    fd = PySem.W.fnOf x qual (defArgs st) (defBody st) (defScope st) .none kV doc pm an (.ref cda) ct ∧ K.lookup f = some ⟨oc, od, .func fd, osl⟩
  cod : PySem.W.codeIn K (.ref cda) qual = true
  kp : PySem.W.keepIn K (.ref f) = true
theorem FunC.binds {x qual : Str} {st : Stmt} {f cda : Addr} {fd : FuncData} {ps : List Str} (F : FunC K x qual st f fd cda)
    (h : ∀ (kV doc pm : Value) (an : Option Addr) (cdv ct : Value) (us : List Value), us.length = ps.length → bindArgs (PySem.W.fnOf x qual (defArgs st) (defBody st) (defScope st) .none kV doc pm an cdv ct) ⟨us, []⟩ = pure (ps.zip us)) : Binds K fd ps [] := by
  obtain ⟨oc, od, kV, doc, pm, an, ct, osl, rfl, lk⟩ := F.ex
  exact .all (h kV doc pm an _ ct)
theorem fn_D {x qual : Str} {st : Stmt} {f cda : Addr} {fd : FuncData} {N ps : List Str} {k : Nat} {γ : Type} {ρ' : γ → REnv} {mir : List PyData → M (Fl γ)} (Fn : FunC K x qual st f fd cda) (S : FnScope N ps (defScope st)) (hN : ps.length ≤ N.length)
    (hbody : ∀ (A : Around) (outer : List Env) (s : Shared) (H : Hp) (E : XK), Room k (A.deeper (envOfC qual (defScope st) s.heap.objs.size f (.ref cda))) → ∀ ds, ds.length = ps.length →
      DSs (cxOf (L2.CX P w) P w K mg base N qual (defScope st) f (.ref cda) A outer s H E) C E (startR N ds) (defBody st) ρ' (mir ds)) :
    FnOk P w K mg base (L2.CX P w) (k + 1) f fd ps (spD C K ps.length fun ds => (mir ds).fin) := by
  obtain ⟨oc, od, kV, doc, pm, an, ct, osl, rfl, lk⟩ := Fn.ex
  refine fn_of lk Fn.cod S (fun vs H Q E ⟨W, F, ds, g, hd, hl, _⟩ => by rw [DpAll.length hd, hl]) fun A outer s H vs Q E hr ⟨W, F, ds, g, hd, hl, hm⟩ => ?_
  obtain ⟨t, h1, h2⟩ := hbody A outer s H E hr ds hl
  refine ⟨t, h1, h2 W F H _ F H _ (jd_start g hd (by omega)) ((mir ds).mono (fun fl q => fin_post rfl fl ?_) (fun _ r => r) hm)⟩
  cases fl <;> exact q
theorem fn_R {x qual : Str} {st : Stmt} {f cda : Addr} {fd : FuncData} {N ps : List Str} {k : Nat} {γ : Type} {ρ' : γ → REnv} {mir : List PyData → M (Fl γ)} (Fn : FunC K x qual st f fd cda) (S : FnScope N ps (defScope st)) (hN : ps.length ≤ N.length)
    (hbody : ∀ (A : Around) (outer : List Env) (s : Shared) (H : Hp) (E : XK), Room k (A.deeper (envOfC qual (defScope st) s.heap.objs.size f (.ref cda))) → ∀ ds, ds.length + 1 = ps.length →
      DSs (cxOf (L2.CX P w) P w K mg base N qual (defScope st) f (.ref cda) A outer s H E) C E (startD N ds) (defBody st) ρ' (mir ds)) :
    FnOk P w K mg base (L2.CX P w) (k + 1) f fd ps (spR C K ps.length fun ds => (mir ds).fin) := by
  obtain ⟨oc, od, kV, doc, pm, an, ct, osl, rfl, lk⟩ := Fn.ex
  refine fn_of lk Fn.cod S (fun vs H Q E ⟨W, F, ds, a, ws, e, hw, da, g, hd, hl, _⟩ => by rw [e, List.length_cons, DpAll.length hd, hl]) fun A outer s H vs Q E hr ⟨W, F, ds, a, ws, e, hw, da, g, hd, hl, hm⟩ => ?_
  subst e
  obtain ⟨t, h1, h2⟩ := hbody A outer s H E hr ds hl
  refine ⟨t, h1, h2 W F H _ F H _ (jd_startD g hw da hd (by omega)) ((mir ds).mono (fun fl q => fin_post rfl fl ?_) (fun _ r => r) hm)⟩
  cases fl <;> exact q
end

/-! ### calls -/
section
variable {X : Cx} {C : DC} {E : XK} {ρ : REnv} {e : Expr} {es : List Expr} {p p2 pos : Pos} {x y : Str} {k n : Nat} {f : Addr} {fd : FuncData} {ps : List Str} {mir : List PyData → M PyData} {ms : M (List PyData)}
theorem passesE0 {P : Program} {w : World} : Passes (L2.CX P w) X E0 := fun _ _ _ _ _ _ _ ⟨_, _, _, _, _, _, _, _, _, _, _, _, z⟩ => z.elim
theorem de_call (Fn : FnOk X.prog X.w X.K X.mg X.base (L2.CX X.prog X.w) k f fd ps (spD C X.K n mir)) (hr : Room k X.A) (hg : Gl X x) (hm : X.mg x = some (.ref f)) (hk : PySem.W.keepIn X.K (.ref f) = true) (hb : Binds X.K fd ps []) (hx : Passes (L2.CX X.prog X.w) X E) (ha : DA X C E ρ (e :: es) ms)
    (hdb : (x == ("__debug__" : Str)) = false := by decide) (he : starEach (e :: es) X.env = (false, eval e X.env) :: starEach es X.env := by rfl) (hpl : (backTo pos (starEach es X.env)).any (·.1) = false := by rfl) :
    DE X C E ρ (.Call (.Name x p) (e :: es) [] pos) (ms >>= fun ds => M.guard (decide (ds.length = n)) (mir ds)) := by
  obtain ⟨t, h1, h2⟩ := ha
  refine ⟨_, pe_call Fn hr hg hm hk hb .nil hx h1 hdb he hpl, fun σ F H Q j hq => h2 σ F H _ j (ms.mono (fun ds q vs F1 H1 x1 hv => ?_) (fun _ r => r) hq)⟩
  obtain ⟨hl, q⟩ := guard_run q
  refine ⟨drA ρ σ, F1, ds, x1.gs, by rw [List.append_nil]; exact hv, of_decide_eq_true hl, (mir ds).mono (fun d q v F2 H2 x2 hd => q v F2 H2 (x1.trans x2) hd) (fun er r => RE.later x1 er r) q⟩
theorem de_callR {i : Nat} (Fn : FnOk X.prog X.w X.K X.mg X.base (L2.CX X.prog X.w) k f fd ps (spR C X.K n mir)) (hr : Room k X.A) (hg : Gl X x) (hm : X.mg x = some (.ref f)) (hk : PySem.W.keepIn X.K (.ref f) = true) (hb : Binds X.K fd ps []) (hx : Passes (L2.CX X.prog X.w) X E) (hρ : ρ[i]? = some (some .drw)) (hp : PE X (.Name y p2) (tVar i)) (ha : DA X C E ρ es ms)
    (hdb : (x == ("__debug__" : Str)) = false := by decide) (he : starEach (.Name y p2 :: es) X.env = (false, eval (.Name y p2) X.env) :: starEach es X.env := by rfl) (hpl : (backTo pos (starEach es X.env)).any (·.1) = false := by rfl) :
    DE X C E ρ (.Call (.Name x p) (.Name y p2 :: es) [] pos) (ms >>= fun ds => M.guard (decide (ds.length + 1 = n)) (mir ds)) := by
  obtain ⟨t, h1, h2⟩ := ha
  refine ⟨_, pe_call Fn hr hg hm hk hb .nil hx (pa_cons hp h1 he) hdb he hpl, fun σ F H Q j hq => ?_⟩
  obtain ⟨v, hv0, a, rfl, da⟩ := j.sl i _ hρ
  have hw : drA ρ σ a := ⟨i, hρ, hv0⟩
  refine ⟨_, hv0, h2 σ F H _ j (ms.mono (fun ds q vs F1 H1 x1 hv => ?_) (fun _ r => r) hq)⟩
  obtain ⟨hl, q⟩ := guard_run q
  refine ⟨drA ρ σ, F1, ds, a, vs, by rw [List.append_nil], hw, x1.drw a hw da, x1.gs, hv, of_decide_eq_true hl, (mir ds).mono (fun d q v F2 H2 x2 hd => q v F2 H2 (x1.trans x2) hd) (fun er r => RE.later x1 er r) q⟩
end
end DL

set_option Elab.async false
set_option linter.all false
set_option maxRecDepth 100000
set_option maxHeartbeats 4000000
/-! the data layer: what is left: constants of the module, room, tuple * int, list * int -/
namespace DL
open PySem PySem.Spec PyProof.Rows L2
theorem hu65 {k : Nat} {A : Around} (hr : Room k A) : A.units + 65 < cLine := by have := hr.un; omega
section
variable {X : Cx} {C : DC} {E : XK} {ρ : REnv} {p : Pos} {x : Str}
theorem de_gint {i : Int} (h : ∃ t, X.mg x = some (.int i t)) (hg : Gl X x := by rfl) (hdb : (x == ("__debug__" : Str)) = false := by decide) : DE X C E ρ (.Name x p) (pure (.int i)) := by
  obtain ⟨t, h⟩ := h
  exact de_glob hg h (v := .int i) ⟨t, rfl⟩ (fun F => .int i) hdb
theorem de_gstr {z : Str} (h : ∃ t, X.mg x = some (.str z t)) (hg : Gl X x := by rfl) (hdb : (x == ("__debug__" : Str)) = false := by decide) : DE X C E ρ (.Name x p) (pure (.str z)) := by
  obtain ⟨t, h⟩ := h
  exact de_glob hg h (v := .str z) ⟨t, rfl⟩ (fun F => .str z) hdb
/-- a tuple of ints of the module -/
def GTup (K : PySem.W.Frag) (mg : Str → Option Value) (x : Str) (ns : List Int) : Prop := ∃ (a : Addr) (o : Obj) (its : Array Value) (n : Nat), mg x = some (.ref a) ∧ K.lookup a = some o ∧ o.cls = .type "tuple" ∧ o.data = .seq its n ∧ its.size ≤ sizeLine ∧ Vals (ns.map V.int) its.toList ∧ o.dict = none
theorem de_gtup {ns : List Int} (h : GTup X.K X.mg x ns) (hg : Gl X x := by rfl) (hdb : (x == ("__debug__" : Str)) = false := by decide) : DE X C E ρ (.Name x p) (pure (.tuple (ns.map PyData.int))) := by
  obtain ⟨a, o, its, n, h1, h2, h3, h4, h5, h6, h7⟩ := h
  exact de_glob hg h1 (v := .ref a) rfl (fun F => .tup (.inr ⟨o, its, n, h2, h3, h4, h5, h6, h7⟩) (ints_dpAll ns)) hdb
end
section
variable {X : Cx} {C : DC} {E : XK} {ρ : REnv} {a b : Expr} {p pos : Pos} {x : Str} {K : PySem.W.Frag}
def rMulA (K : PySem.W.Frag) : R2 := fun x y H Q => rI CMul (fun i j => .int (i * j)) x y H Q ∨ rRepX K x y H Q
theorem op_mulA : OpR X (binaryOp .Mult) (rMulA X.K) := op_mul.or op_repX
def repL (xs : List PyData) (k : Nat) : List PyData := (List.replicate k xs).flatten
theorem rep_dp {F : Hp} {vs : List V} {ds : List PyData} (h : DpAll K F vs ds) : ∀ k : Nat, DpAll K F (List.replicate k vs).flatten (repL ds k)
  | 0 => .nil
  | k + 1 => by
    unfold repL
    rw [List.replicate_succ, List.replicate_succ, List.flatten_cons, List.flatten_cons]
    exact DpAll.append h (rep_dp h k)
def mulA : PyData → PyData → M PyData
  | .int i, .int j => .guard (cmulB i j) (pure (.int (i * j)))
  | .tuple xs, .int k => .guard (!xs.isEmpty && decide (2 ≤ k) && decide (k ≤ 1000) && decide (xs.length ≤ 1000)) (pure (.tuple (repL xs k.toNat)))
  | _, _ => .stuck
theorem mulA_ok : BinOk K C (rMulA K) mulA := by
  intro W F H x y d e Q R g rx ry h
  cases d with
  | int i =>
    cases e with
    | int j => exact .inl (mul_ok W F H x y (.int i) (.int j) Q R g rx ry h)
    | _ => exact h.elim
  | tuple xs =>
    cases e with
    | int k =>
      obtain ⟨hl, h⟩ := guard_run h
      simp only [Bool.and_eq_true, decide_eq_true_eq, Bool.not_eq_true', List.isEmpty_eq_false_iff] at hl
      obtain ⟨⟨⟨h1, h2⟩, h3⟩, h4⟩ := hl
      obtain ⟨a, vs, rfl, ha, da⟩ := rx.tuple g
      rw [ry.int]
      refine .inr ⟨a, k, vs, rfl, rfl, ha, fun z => h1 ((DpAll.nil_of da).mp z), h2, h3, by rw [DpAll.length da]; exact h4, fun p ob hp hob => ?_⟩
      obtain ⟨x1, fs⟩ := ext_newF (K := K) (W := W) (o := frT ob (List.replicate k.toNat vs).flatten) g hp (fun ps e => by cases e)
      exact h _ _ _ x1 (.tup (.inl ⟨_, upd_same, hob⟩) (dpAll_mono fs _ _ (rep_dp da _)))
    | _ => exact h.elim
  | _ => exact h.elim
/-- a new list * k -/
def repM (ds : List PyData) : PyData → M (List PyData)
  | .int k => .guard (decide (0 ≤ k) && decide (k ≤ 1000) && decide (ds.length ≤ 1000)) (pure (repL ds k.toNat))
  | _ => .stuck
theorem dl_rep {ml : M (List PyData)} {mb : M PyData} (ha : DL X C E ρ a ml) (hb : DR X C E ρ b mb) : DL X C E ρ (.BinOp a .Mult b pos) (ml >>= fun ds => mb >>= fun k => repM ds k) := by
  obtain ⟨ta, ha1, ha2⟩ := ha
  obtain ⟨tb, hb1, hb2⟩ := hb
  refine ⟨_, pe_op op_rep ha1 hb1, fun σ F H Q k hm => ha2 σ F H _ k (ml.mono (fun ds q l vs F1 H1 x1 hn hf hl hd => ?_) (fun _ r => r) hm)⟩
  refine hb2 σ F1 H1 _ (k.ext x1) (mb.mono (fun d q v F2 H2 x2 hv => ?_) (fun er r => RE.later x1 er r) q)
  cases d with
  | int j =>
    obtain ⟨hg, q⟩ := guard_run q
    simp only [Bool.and_eq_true, decide_eq_true_eq] at hg
    obtain ⟨⟨h1, h2⟩, h3⟩ := hg
    have hl2 : H2 l = some (.lst vs) := x2.same l _ hl (fun ps e => by cases e) fun w => drw_has k w hn
    have hd2 := dpAll_mono (x2.fsub x1.gs) _ _ hd
    rw [hv.int]
    have e1 := DpAll.length hd
    refine ⟨l, j, vs, rfl, rfl, hl2, by omega, by omega, ?_, fun p hp => ?_⟩
    · rw [e1, sizeLine_eq]
      have : j.toNat ≤ 1000 := by omega
      have h5 : ds.length * j.toNat ≤ 1000 * 1000 := Nat.mul_le_mul h3 this
      omega
    · have x3 := (x1.trans x2).trans (ext_new (o := .lst (List.replicate j.toNat vs).flatten) x2.gs hp)
      have nb := none_back (x1.trans x2) hp
      exact q p _ F2 _ x3 nb.1 nb.2 upd_same (rep_dp hd2 _)
  | _ => exact q.elim
end
end DL

set_option Elab.async false
set_option linter.all false
set_option maxRecDepth 100000
set_option maxHeartbeats 4000000
/-! the data layer: dicts that are read; names of built-ins -/
namespace DL
open PySem PySem.Spec PyProof.Rows L2
theorem hu64 {k : Nat} {A : Around} (hr : Room k A) : A.units + 64 < cLine := by have := hr.un; omega
theorem hu1 {k : Nat} {A : Around} (hr : Room k A) : A.units + 1 < cLine := by have := hr.un; omega
theorem bt_len : bootBuiltins ("len" : Str) = some (.builtin "len") := by decide +kernel
theorem bt_isinstance : bootBuiltins ("isinstance" : Str) = some (.builtin "isinstance") := by decide +kernel
theorem bt_sorted : bootBuiltins ("sorted" : Str) = some (.builtin "sorted") := by decide +kernel
theorem bt_abs : bootBuiltins ("abs" : Str) = some (.builtin "abs") := by decide +kernel
theorem bt_max : bootBuiltins ("max" : Str) = some (.builtin "max") := by decide +kernel
theorem bt_min : bootBuiltins ("min" : Str) = some (.builtin "min") := by decide +kernel
theorem bt_sum : bootBuiltins ("sum" : Str) = some (.builtin "sum") := by decide +kernel
theorem bt_set : bootBuiltins ("set" : Str) = some (.type "set") := by decide +kernel
theorem bt_tuple : bootBuiltins ("tuple" : Str) = some (.type "tuple") := by decide +kernel
theorem bt_list : bootBuiltins ("list" : Str) = some (.type "list") := by decide +kernel
theorem bt_int : bootBuiltins ("int" : Str) = some (.type "int") := by decide +kernel
theorem bt_str : bootBuiltins ("str" : Str) = some (.type "str") := by decide +kernel
theorem bt_bool : bootBuiltins ("bool" : Str) = some (.type "bool") := by decide +kernel
theorem bt_dict : bootBuiltins ("dict" : Str) = some (.type "dict") := by decide +kernel
/-- pairs of an int and a datum -/
def pairsI : List PyData → Option (List (Int × PyData))
  | [] => some []
  | .tuple [.int k, d] :: r => (pairsI r).map ((k, d) :: ·)
  | _ :: _ => none
def dicOf (ps : List (Int × PyData)) : Int → Option PyData := ps.foldl (fun f p => fun k => if k = p.1 then some p.2 else f k) fun _ => none
section
variable {X : Cx} {C : DC} {E : XK} {ρ : REnv} {e a b : Expr} {p p2 pos apos : Pos} {x : Str} {K : PySem.W.Frag}
theorem pairs_dp {F : Hp} : ∀ {vs : List V} {ds : List PyData} {ps : List (Int × PyData)}, DpAll K F vs ds → pairsI ds = some ps → ∃ (as : List Addr) (kvs : List (Key × V)), vs = as.map V.ref ∧ Paired (fun p (kv : Key × V) => SqT K F p [kV kv.1, kv.2]) as kvs ∧ Paired (fun (kv : Key × V) (q : Int × PyData) => kv.1 = .inl q.1 ∧ Dp K F kv.2 q.2) kvs ps
  | _, _, ps, .nil, e => by cases e; exact ⟨[], [], rfl, .nil, .nil⟩
  | _, d :: ds, ps, .cons h r, e => by
    match d, h, e with
    | .tuple [.int k, d], h, e =>
      have e : (pairsI ds).map ((k, d) :: ·) = some ps := e
      cases hr : pairsI ds with
      | none => rw [hr] at e; cases e
      | some qs =>
        rw [hr] at e
        cases e
        obtain ⟨as, kvs, h1, h2, h3⟩ := pairs_dp r hr
        cases h with
        | tup hs hd =>
          obtain ⟨v1, v2, rfl, d1, d2⟩ := dpAll2 hd
          cases d1
          exact ⟨_ :: as, (.inl k, v2) :: kvs, by rw [List.map_cons, h1], .cons hs.sq h2, .cons ⟨rfl, d2⟩ h3⟩
theorem merge_dic {F : Hp} : ∀ {kvs : List (Key × V)} {ps : List (Int × PyData)} {acc : List (Key × V)} {f : Int → Option PyData}, Paired (fun (kv : Key × V) (q : Int × PyData) => kv.1 = .inl q.1 ∧ Dp K F kv.2 q.2) kvs ps →
    (∀ k : Int, match f k with | some d => ∃ x, valV acc (Sum.inl k : Key) = some x ∧ Dp K F x d | none => valV acc (Sum.inl k : Key) = none) →
    ∀ k : Int, match (ps.foldl (fun f p => fun k => if k = p.1 then some p.2 else f k) f) k with | some d => ∃ x, valV (mergeK acc kvs) (Sum.inl k : Key) = some x ∧ Dp K F x d | none => valV (mergeK acc kvs) (Sum.inl k : Key) = none
  | _, _, acc, f, .nil, h => h
  | (k0, v0) :: kvs, (i, d) :: ps, acc, f, .cons ⟨h1, h2⟩ r, h => by
    have h1 : k0 = .inl i := h1
    refine merge_dic (acc := putK acc k0 v0) (f := fun k => if k = i then some d else f k) r fun k => ?_
    rw [h1]
    by_cases e : k = i
    · subst e
      simp only [if_true]
      exact ⟨v0, by rw [valV_put, if_pos rfl], h2⟩
    · simp only [if_neg e]
      have ne : ¬ (Sum.inl k : Key) = .inl i := fun z => e (Sum.inl.inj z)
      have q := h k
      cases hf : f k with
      | none =>
        rw [hf] at q
        simp only
        rw [valV_put, if_neg ne]
        exact q
      | some d' =>
        rw [hf] at q
        simp only
        obtain ⟨x, q1, q2⟩ := q
        exact ⟨x, by rw [valV_put, if_neg ne]; exact q1, q2⟩
def dictC : PyData → M (Int → Option PyData)
  | .list xs => match pairsI xs with
    | some ps => pure (dicOf ps)
    | none => .stuck
  | _ => .stuck
theorem dv_dict {m : M PyData} (hc : X.calm = true) (hg : Gl X x) (hm : X.mg x = none) (hv : bootBuiltins x = some (.type "dict")) (ha : DR X C E ρ e m)
    (hn : x ≠ "__name__" := by decide) (hdb : (x == ("__debug__" : Str)) = false := by decide) (he : starEach (e :: []) X.env = (false, eval e X.env) :: starEach [] X.env := by rfl) (hpl : (backTo pos (starEach [] X.env)).any (·.1) = false := by rfl) :
    DV X C E ρ (.Call (.Name x p) [e] [] pos) Sl.dic (m >>= dictC) := by
  obtain ⟨t, h1, h2⟩ := ha
  refine ⟨_, pe_callTy (call_dictP hc) hg hm hv (pa_cons h1 pa_nil he) hn hdb he hpl, fun σ F H Q k hq => h2 σ F H _ k (m.mono (fun d q v F1 H1 x1 r => ?_) (fun _ r => r) hq)⟩
  cases d with
  | list xs =>
    obtain ⟨l, vs, rfl, hl, hd⟩ := r.list x1.gs
    dsimp only [dictC] at q
    cases hp : pairsI xs with
    | none => rw [hp] at q; exact q.elim
    | some ps =>
      rw [hp] at q
      obtain ⟨as, kvs, rfl, q1, q2⟩ := pairs_dp hd hp
      refine ⟨l, as, kvs, rfl, hl, Paired.mapP q1 fun a b z => sqt_mono x1.gs.sub z, fun o ho => ?_⟩
      obtain ⟨x2, fs⟩ := ext_newF (K := X.K) (W := drA ρ σ) (o := .dK (mergeK [] kvs)) x1.gs ho (fun ps e => by cases e)
      refine q _ _ _ (x1.trans x2) ⟨o, _, rfl, upd_same, ?_⟩
      have hk := merge_dic (acc := []) (f := fun _ => none) q2 fun k => rfl
      intro k
      have z := hk k
      show match dicOf ps k with | some d => _ | none => _
      unfold dicOf
      cases hf : (ps.foldl (fun f p => fun k => if k = p.1 then some p.2 else f k) (fun _ => none : Int → Option PyData)) k with
      | none => rw [hf] at z; exact z
      | some d =>
        rw [hf] at z
        obtain ⟨y, z1, z2⟩ := z
        exact ⟨y, z1, dp_mono fs _ _ z2⟩
  | _ => exact q.elim
def getM (f : Int → Option PyData) : PyData → PyData → M PyData
  | .int k, d => pure ((f k).getD d)
  | _, _ => .stuck
theorem de_get {i : Nat} {f : Int → Option PyData} {ma mb : M PyData} {name : Str} (hn : name = "get") (hu : X.A.units + 1 < cLine) (hρ : ρ[i]? = some (some (.dic f))) (hp : PE X (.Name x p) (tVar i)) (ha : DE X C E ρ a ma) (hb : DE X C E ρ b mb)
    (m2 : M2 X (.Name x p) "get" apos a b pos) : DE X C E ρ (.Call (.Attribute (.Name x p) name apos) [a, b] [] pos) (ma >>= fun k => mb >>= fun d => getM f k d) := by
  subst hn
  obtain ⟨ta, a1, a2⟩ := ha
  obtain ⟨tb, b1, b2⟩ := hb
  refine ⟨_, pe_dget2 hu hp a1 b1 m2, fun σ F H Q k hq => ?_⟩
  obtain ⟨v, hv, l, ws, rfl, hl, hk⟩ := k.sl i _ hρ
  refine ⟨_, hv, l, rfl, .inl ⟨ws, .inl (k.gs.sub _ _ hl)⟩, a2 σ F H _ k (ma.mono (fun d q y F1 H1 x1 hy => ?_) (fun _ r => r) hq)⟩
  refine b2 σ F1 H1 _ (k.ext x1) (mb.mono (fun d2 q z F2 H2 x2 hz => ?_) (fun er r => RE.later x1 er r) q)
  cases hy with
  | int j =>
    have fs1 := x1.fsub k.gs
    have fs2 := x2.fsub x1.gs
    have hl2 : H2 l = some (.dK ws) := x2.gs.sub _ _ (fs2 _ _ (fs1 _ _ hl))
    refine ⟨_, DGet.k (k := Sum.inl j) hl2, ?_⟩
    have q : ∀ v F' H', Ext C X.K (drA ρ σ) F H F' H' → Dp X.K F' v ((f j).getD d2) → Q v H' := q
    have hj := hk j
    cases hf : f j with
    | none =>
      rw [hf] at hj q
      rw [hj]
      exact q z F2 H2 (x1.trans x2) hz
    | some d' =>
      rw [hf] at hj q
      obtain ⟨y, y1, y2⟩ := hj
      rw [y1]
      exact q y F2 H2 (x1.trans x2) (dp_mono fs2 _ _ (dp_mono fs1 _ _ y2))
  | _ => exact q.elim
end
end DL
namespace DL
open PySem PySem.Spec PyProof.Rows L2
/-- a number below n is drawn: any -/
def takenM : List PyData → M (Fl Empty)
  | [.int n] => .guard (decide (0 < n) && decide (n < 1000000)) (M.any (fun d => ∃ k : Int, 0 ≤ k ∧ k < n ∧ d = PyData.int k) >>= fun d => pure (.rt d))
  | _ => .stuck
theorem er_bad {C : DC} {K : PySem.W.Frag} (n : PyData) (F H : Hp) (dd : Option Addr) (y : Addr) (e : dd = some y) (h : ∃ z, H y = some (.xd [("name", z)]) ∧ Dp K F z n) : ErRep C K F H (.bad n) (.ref C.cBad) dd := by
  obtain ⟨z, h1, h2⟩ := h
  exact ⟨rfl, y, z, e, h1, h2⟩
theorem er_unlaid {C : DC} {K : PySem.W.Frag} (n : PyData) (F H : Hp) (dd : Option Addr) (y : Addr) (e : dd = some y) (h : ∃ z, H y = some (.xd [("bar", z)]) ∧ Dp K F z n) : ErRep C K F H (.unlaid n) (.ref C.cUnl) dd := by
  obtain ⟨z, h1, h2⟩ := h
  exact ⟨rfl, y, z, e, h1, h2⟩
theorem er_refused {C : DC} {K : PySem.W.Frag} (n : PyData) (F H : Hp) (dd : Option Addr) (y : Addr) (e : dd = some y) (h : ∃ z, H y = some (.xd [("why", z)]) ∧ Dp K F z n) : ErRep C K F H (.refused n) (.ref C.cRef) dd := by
  obtain ⟨z, h1, h2⟩ := h
  exact ⟨rfl, y, z, e, h1, h2⟩
end DL

set_option Elab.async false
set_option linter.all false
set_option maxRecDepth 100000
set_option maxHeartbeats 4000000
/-! the data layer: three at once -/
namespace DL
open PySem PySem.Spec PyProof.Rows L2
section
variable {C : DC} {K : PySem.W.Frag} {W : Addr → Prop} {F0 H0 : Hp} {ρ : REnv} {σ : L2.St} {F H F1 H1 F2 H2 F3 H3 : Hp}
/-- three values that were just made, one after the other -/
theorem Jd.put3 {i i2 i3 : Nat} {v v2 v3 : V} {s s2 s3 : Sl} (j : Jd C K W F0 H0 ρ σ F H) (x1 : Ext C K (drA ρ σ) F H F1 H1) (h : SlNew K F1 H1 H v s) (x2 : Ext C K (drA ρ σ) F1 H1 F2 H2) (h2 : SlNew K F2 H2 H1 v2 s2) (x3 : Ext C K (drA ρ σ) F2 H2 F3 H3) (h3 : SlNew K F3 H3 H2 v3 s3)
    (hs : slotFree ρ i = true) (hs2 : slotFree (ρ.set i (some s)) i2 = true) (hs3 : slotFree ((ρ.set i (some s)).set i2 (some s2)) i3 = true) :
    Jd C K W F0 H0 (((ρ.set i (some s)).set i2 (some s2)).set i3 (some s3)) (((σ.set i (some v)).set i2 (some v2)).set i3 (some v3)) F3 H3 := by
  have jb := (j.step x1)
  have jb2 := jb.step x2
  have j12 := j.put2 x1 h (x2.trans x3) (h2.later jb.ok x2.gs x3) hs hs2
  have old : ∀ a, H a = none → H0 a = none := fun a ha => by
    cases z : H0 a with
    | none => rfl
    | some o => exact absurd ha (j.ext.dom a (by rw [z]; simp))
  refine j12.put' h3.rep.1 h3.rep.2 hs3 fun ds a es ev => ?_
  have ha2 : H2 a = none := SlNew.new (es ▸ h3) ev
  have ha1 : H1 a = none := (none_back x2 ha2).1
  have ha : H a = none := (none_back x1 ha1).1
  refine ⟨old a ha, fun l t e1 m e2 => ?_⟩
  have hi := slot_lt hs
  have hi2 : i2 < ρ.length := by
    have := slot_lt hs2
    rwa [List.length_set] at this
  by_cases z2 : i2 = l
  · subst z2
    rw [List.getElem?_set_self (by rw [List.length_set, j.ok.len]; exact hi2)] at e2
    rw [List.getElem?_set_self (by rw [List.length_set]; exact hi2)] at e1
    cases e1
    cases e2
    cases s2 with
    | val d => cases m
    | dic f => cases m
    | fob f => cases m
    | drw => exact h2.rep.2 rfl
    | obj es =>
      obtain ⟨b, vs, eb, _, _, hb, _⟩ := h2
      cases eb
      rw [ha2] at hb
      cases hb
  · rw [List.getElem?_set_ne z2] at e1 e2
    by_cases z : i = l
    · subst z
      rw [List.getElem?_set_self (by rw [j.ok.len]; exact hi)] at e2
      rw [List.getElem?_set_self hi] at e1
      cases e1
      cases e2
      cases s with
      | val d => cases m
      | dic f => cases m
      | fob f => cases m
      | drw => exact h.rep.2 rfl
      | obj es =>
        obtain ⟨b, vs, eb, _, _, hb, _⟩ := h
        cases eb
        rw [ha1] at hb
        cases hb
    · rw [List.getElem?_set_ne z] at e1 e2
      exact slot_there jb2.ok e1 m e2 ha2
end
section
variable {X : Cx} {C : DC} {E : XK} {ρ : REnv} {e a b c : Expr} {γ : Type} {ρ' : γ → REnv} {rest : List Stmt} {p p2 p3 p4 p5 pos : Pos} {i j l : Nat} {x y z : Str}
theorem dv_three {α β δ : Type} {inj : α → Sl} {inj2 : β → Sl} {inj3 : δ → Sl} {m : M α} {m2 : M β} {m3 : M δ} (ha : DV X C E ρ a inj m) (hb : DV X C E ρ b inj2 m2) (hc : DV X C E ρ c inj3 m3) (hst : starEach [a, b, c] X.env = (false, eval a X.env) :: starEach [b, c] X.env := by rfl) (hst2 : starEach [b, c] X.env = (false, eval b X.env) :: starEach [c] X.env := by rfl) (hst3 : starEach [c] X.env = (false, eval c X.env) :: starEach [] X.env := by rfl) :
    ∃ t, PA X [a, b, c] t ∧ ∀ σ F H Q, Ok C X.K ρ σ F H → (m >>= fun c => m2 >>= fun d => m3 >>= fun e => pure (c, d, e)).run (fun c => ∀ v v2 v3 F1 H1 F2 H2 F3 H3, Ext C X.K (drA ρ σ) F H F1 H1 → SlNew X.K F1 H1 H v (inj c.1) → Ext C X.K (drA ρ σ) F1 H1 F2 H2 → SlNew X.K F2 H2 H1 v2 (inj2 c.2.1) → Ext C X.K (drA ρ σ) F2 H2 F3 H3 → SlNew X.K F3 H3 H2 v3 (inj3 c.2.2) → Q [v, v2, v3] H3) (RE C X.K E (drA ρ σ) F H) → t σ H Q := by
  obtain ⟨t, h1, h2⟩ := ha
  obtain ⟨u, g1, g2⟩ := hb
  obtain ⟨r, f1, f2⟩ := hc
  refine ⟨_, pa_cons h1 (pa_cons g1 (pa_cons f1 pa_nil hst3) hst2) hst, fun σ F H Q k hm => h2 σ F H _ k (m.mono (fun c q v F1 H1 x1 hv => ?_) (fun _ r => r) hm)⟩
  refine g2 σ F1 H1 _ (k.ext x1) (m2.mono (fun d q v2 F2 H2 x2 hv2 => ?_) (fun er r => RE.later x1 er r) q)
  exact f2 σ F2 H2 _ ((k.ext x1).ext x2) (m3.mono (fun e q v3 F3 H3 x3 hv3 => q v v2 v3 F1 H1 F2 H2 F3 H3 x1 hv x2 hv2 x3 hv3) (fun er r => RE.later (x1.trans x2) er r) q)
/-- x, y, z = a, b, c -/
theorem dss_par3 {α β δ : Type} {inj : α → Sl} {inj2 : β → Sl} {inj3 : δ → Sl} {m : M α} {m2 : M β} {m3 : M δ} {f : α → β → δ → M (Fl γ)} {kt k2 : Nat} (hc : X.calm = true) (hN : X.N.Nodup) (hi : X.N[i]? = some x) (hj : X.N[j]? = some y) (hl : X.N[l]? = some z) (hij : i ≠ j) (hil : i ≠ l) (hjl : j ≠ l)
    (hx : X.env.scope.names.lookup x = some .local) (hy : X.env.scope.names.lookup y = some .local) (hz : X.env.scope.names.lookup z = some .local)
    (hs : slotFree ρ i = true) (hs2 : ∀ c, slotFree (ρ.set i (some (inj c))) j = true) (hs3 : ∀ c d, slotFree ((ρ.set i (some (inj c))).set j (some (inj2 d))) l = true) (ha : DV X C E ρ a inj m) (hb : DV X C E ρ b inj2 m2) (hd : DV X C E ρ c inj3 m3)
    (hr : ∀ c d e, DSs X C E (((ρ.set i (some (inj c))).set j (some (inj2 d))).set l (some (inj3 e))) rest ρ' (f c d e))
    (hw : swappedStores [.Tuple [.Name x p, .Name y p2, .Name z p5] kt p3] (.Tuple [a, b, c] k2 p4) X.env = pure (some [x, y, z])) (hst : starEach [a, b, c] X.env = (false, eval a X.env) :: starEach [b, c] X.env := by rfl) (hst2 : starEach [b, c] X.env = (false, eval b X.env) :: starEach [c] X.env := by rfl) (hst3 : starEach [c] X.env = (false, eval c X.env) :: starEach [] X.env := by rfl)
    (hsw : swapsWithSole [.Tuple [.Name x p, .Name y p2, .Name z p5] kt p3] (.Tuple [a, b, c] k2 p4) pos.line X.env = pure false := by rfl) :
    DSs X C E ρ (.Assign [.Tuple [.Name x p, .Name y p2, .Name z p5] kt p3] (.Tuple [a, b, c] k2 p4) pos :: rest) ρ' (m >>= fun c => m2 >>= fun d => m3 >>= fun e => f c d e) := by
  obtain ⟨t, h1, h2⟩ := dv_three ha hb hd hst hst2 hst3
  refine ⟨_, pss_cons (ps_par3 hc hN hi hj hl hij hil hjl hx hy hz h1 hw hsw) (DSs.pss (α := α × β × δ) (ρa := fun c => ((ρ.set i (some (inj c.1))).set j (some (inj2 c.2.1))).set l (some (inj3 c.2.2))) (f := fun c => f c.1 c.2.1 c.2.2) fun c => hr c.1 c.2.1 c.2.2), fun W F0 H0 σ F H D jd hm => h2 σ F H _ jd.ok ?_⟩
  refine (m >>= fun c => m2 >>= fun d => m3 >>= fun e => pure (c, d, e)).mono (fun c q v v2 v3 F1 H1 F2 H2 F3 H3 x1 hv x2 hv2 x3 hv3 => ⟨v, v2, v3, rfl, ?_⟩) (fun er r => jd.re r) (show (m >>= fun c => m2 >>= fun d => m3 >>= fun e => pure (c, d, e)).run (fun c => (f c.1 c.2.1 c.2.2).run (SPost C X.K W F0 H0 F ρ' D) (RE C X.K E W F0 H0)) _ from hm)
  exact tSS.mk c (jd.put3 x1 hv x2 hv2 x3 hv3 hs (hs2 c.1) (hs3 c.1 c.2.1)) ((x1.trans x2).trans x3 |>.fsub jd.ok.gs) q
end
end DL

set_option Elab.async false
set_option linter.all false
set_option maxRecDepth 100000
set_option maxHeartbeats 4000000
/-! isinstance of a caught error with a dict of its own; several except clauses with names (turned from the kit's rules) -/
namespace PySem.W
open PySem PySem.Spec PySem.Calls PyProof.Rows
section
variable {prog : Program} {w : World} {A : Around} {E : Value → Shared → Prop} {s : Shared} {K : Frag} {x D : Addr} {ox : Obj}
theorem findObj_dataD {C : Addr} {od : Option Obj} {name : Str} {a g : Value} (hc : (clsIn K C).isSome = true) (ha : findIn K (.ref C) name = some (some a)) (hg : specialIn K a "__get__" = some (some g)) (ht : takesIn K a = some true) : findObj K C od name = some (.bind g a) := by
  obtain ⟨cd, hc⟩ := Option.isSome_iff_exists.mp hc
  unfold findObj
  rw [hc, Option.bind_some, ha, Option.bind_some]
  simp [hg, ht]
theorem kin_classD {od : Option Obj} {Q : Option Value → Shared → Prop} (hga : findIn K (.ref D) "__getattribute__" = some (some (.builtin "BaseException.__getattribute__"))) (hgt : findIn K (.ref D) "__getattr__" = some none) (hsub : subIn K (.ref D) (.type "BaseException") = some true)
    (hdct : hasDictIn K D = true) (ha : findIn K (.ref D) "__class__" = some (some (.builtin "object.__class__")))
    (hn : specialIn K (.builtin "object.__class__") "__get__" = some (some (.builtin "getset_descriptor.__get__"))) (htk : takesIn K (.builtin "object.__class__") = some true) (hm : mroIn K D (.type "object") = some true)
    (X : K.In s.heap) (I : InstAt s.heap x ox D od) (h : Q (some (.ref D)) { s with toks := s.toks + 1 }) : wpAny (model prog w) A (getAttr? (.ref x) "__class__") Q E s := by
  have hf : findObj K D od "__class__" = some (.bind (.builtin "getset_descriptor.__get__") (.builtin "object.__class__")) := findObj_dataD (by obtain ⟨cd, hc, _⟩ := any_some hdct; rw [hc]; rfl) ha hn htk
  obtain ⟨hp, g, d, t, os⟩ := s
  have L0 := I.type (M := model prog w)
  have L1 := looks_findIn (M := model prog w) X hga
  have L2 := looks_findIn (M := model prog w) X hgt
  have L3 := looks_find (M := model prog w) X I hf
  have sub : Looks (model prog w) hp (isInstance (.ref x) (.type "BaseException")) true := L0.andThen (looks_subIn X hsub)
  have hx0 : (false && onTheHeap (Value.builtin "BaseException.__getattribute__")) = false := rfl
  have hx2 : (Value.builtin "BaseException.__getattribute__" == Value.builtin "object.__getattribute__") = false := by decide +kernel
  have hx1 : (onTheHeap (Value.ref D) && Value.builtin "BaseException.__getattribute__" == Value.builtin "object.__getattribute__") = false := by rw [hx2]; rfl
  unfold getAttr? getAttrBy? getAttrBy
  refine wpAny_bind (wpAny_mkText (wpAny_bind (wpAny_attempt (wpAny_holding (wpAny_bind (L0.at (wpAny_bind (L1.at ?_))))))))
  show wpAny _ _ (if (onTheHeap (Value.ref D) && Value.builtin "BaseException.__getattribute__" == Value.builtin "object.__getattribute__") = true then _ else _) _ _ _
  rw [hx1, if_neg Bool.false_ne_true]
  unfold getAttrByItsOwn hookBefore
  refine wpAny_bind ?_
  rw [if_pos (show onTheHeap (Value.ref D) = true from rfl)]
  refine L2.at ?_
  refine wpAny_bind (wpAny_attempt (wpAny_holding ?_))
  unfold callGetattribute
  rw [hx0, if_neg Bool.false_ne_true]
  unfold boundAndCalled
  rw [PySem.F.excAttr_ValueError.ga.bind (.ref x)]
  refine wpAny_bind (wpAny_pure ?_)
  show wpAny _ _ (call (.builtin "BaseException.__getattribute__") [.ref x, .str "__class__" t]) _ _ _
  refine wpAny_call (codeAny_call_builtin PySem.F.excAttr_ValueError.ga.plain PySem.F.entry_bexc_ga ?_)
  refine @check_slot (model prog w) _ _ ⟨hp, g, d, t + 1, os⟩ "BaseException.__getattribute__" "BaseException" "__getattribute__" (.ref x) [.str "__class__" t] [] _ (by decide +kernel) (by decide +kernel) sub (PySem.F.args_bexc_ga (.ref x) (.str "__class__" t)) ?_
  unfold Builtin.«object.__getattribute__»
  refine wpAny_bind (wpAny_of_eq (a := ((Value.ref x : Value), [Value.str "__class__" t])) (by first | rfl | (simp only [slotArgs]; rfl)) ?_)
  refine wpAny_bind (wpAny_pure (wpAny_bind (L0.at (wpAny_bind (L3.at ?_)))))
  show wpAny _ _ (holding [Value.builtin "object.__class__"] (call (.builtin "getset_descriptor.__get__") [.builtin "object.__class__", .ref x, .ref D]) >>= ret) _ _ _
  refine wpAny_bind (wpAny_holding (wpAny_call (class_get (s := ⟨hp, g, d, t + 1, os⟩) (ox := ox) (od := od) X I hm ?_)))
  refine wpAny_pure ?_
  show wpAny _ _ (handedOut (.ref D)) _ _ _
  rw [handedOut_of (v := .ref D) rfl]
  first
    | exact wpAny_pure (wpAny_pure h)
    | exact wpAny_pure h
    | exact wpAny_pure (wpAny_bind (wpAny_pure (wpAny_pure h)))
theorem kitx_excD {od : Option Obj} (hga : findIn K (.ref D) "__getattribute__" = some (some (.builtin "BaseException.__getattribute__"))) (hgt : findIn K (.ref D) "__getattr__" = some none) (hsub : subIn K (.ref D) (.type "BaseException") = some true) (hdct : hasDictIn K D = true) (ha : findIn K (.ref D) "__class__" = some (some (.builtin "object.__class__")))
    (hn : specialIn K (.builtin "object.__class__") "__get__" = some (some (.builtin "getset_descriptor.__get__"))) (htk : takesIn K (.builtin "object.__class__") = some true) (hm : mroIn K D (.type "object") = some true) :
    KitX K (.ref x) (.ref D) (fun h => InstAt h x ox D od) where
  ty := fun _ _ _ I => I.type
  it := fun _ _ X _ => by
    obtain ⟨cdD, hcD, _⟩ := any_some hdct
    unfold clsIn at hcD
    split at hcD
    · rename_i c' d' cd' sl' ho
      intro A' Q' E' s' k q
      unfold isType loadHead
      exact wpAny_bind (wpAny_loadPart (k _ _ (X _ _ ho)) (wpAny_pure q))
    · cases hcD
  ne := fun h tp dd its n sl X htp => by
    obtain ⟨cdD, hcD, _⟩ := any_some hdct
    refine Bool.eq_false_iff.mpr fun q => ?_
    have e : D = tp := Value.ref.inj (beq_iff_eq.mp q)
    subst e
    unfold clsIn at hcD
    split at hcD
    · rename_i c' d' cd' sl' ho
      have z := (X _ _ ho).symm.trans htp
      cases z
    · cases hcD
  ca := fun X I k => kin_classD hga hgt hsub hdct ha hn htk hm X I k
end
end PySem.W
namespace L2
open PySem PySem.Spec PyProof.Rows
def rIsD (K : PySem.W.Frag) (D a : Addr) (cls : Value) (d : Option Addr) : List V → Hp → VK → Prop := fun xs H Q => cls = .ref D ∧ ∃ (dd : Addr) (fs : List (Str × V)), d = some dd ∧ H dd = some (.xd fs) ∧ rIsE K D a xs H Q
theorem call_isD {X : Cx} {a D : Addr} {oe : Obj} {cls : Value} {d : Option Addr} {pn : List (Addr × Obj)} (C : ExcC X.K D) (hz : Zc cls d oe) (hf : ∃ vs, oe.data = .fields vs) : CallR (X.suite a ((a, oe) :: pn)) (.builtin "isinstance") (rIsD X.K D a cls d) := by
  intro pins s σ H xs us Q I r h
  obtain ⟨ec0, dd, fs, ed, ea, c, cv, b, rfl, hcv, e, q⟩ := h
  subst ed
  subst ec0
  cases r with
  | cons rx rr =>
    cases rr with
    | cons rt rr =>
      cases rr
      cases rx
      have ec := hcv _ rt
      subst ec
      obtain ⟨hget, _⟩ := I.pin (a, oe) (List.mem_append.mpr (.inl List.mem_cons_self))
      obtain ⟨vs, hv⟩ := hf
      have hx : ObjOk X.prog X.w H s.heap dd (.xd fs) := I.hok dd _ ea
      obtain ⟨mA, hns, hr⟩ := hx
      obtain ⟨od, ho, hl⟩ := lookIn_ns hns
      have J : PySem.W.InstAt s.heap a oe D (some od) := ⟨hget, hz.1, by unfold PySem.W.notCls; rw [hv] <;> rfl, by rw [hz.2]; exact ho⟩
      exact PySem.W.kia_one (PySem.W.kitx_excD C.hg C.hk C.hs C.hd C.ha C.hn C.ht C.hm) I.kIn J e (fun z => nomatch z) fun tk => ⟨.bl b, H, I.kept (t' := tk) fun _ _ z => z, rfl, q⟩
end L2
namespace L2
open PySem PySem.Spec PyProof.Rows
def wManyA (K : PySem.W.Frag) (nN : Nat) (Wout : WX) (D : Ends) : List (Value × Nat × (Addr → Value → Option Addr → TS)) → WX
  | [] => Wout
  | (c, i, ts) :: r => fun cls d σ H => ∃ b, PySem.W.exmOne K cls c = some b ∧ (b = true → σ.length = nN → ∀ a, H a = none → ts a cls d { nx := fun σ' H' => D.nx (σ'.set i none) H', rt := D.rt, bk := fun σ' H' => D.bk (σ'.set i none) H', ct := fun σ' H' => D.ct (σ'.set i none) H' } (σ.set i (some (.ref a))) H) ∧ (b = false → wManyA K nN Wout D r cls d σ H)
inductive HdsA (X : Cx) : List ExceptHandler → List (Value × Nat × (Addr → Value → Option Addr → TS)) → Prop
  | nil : HdsA X [] []
  | cons {x n : Str} {c : Value} {i : Nat} {ts : Addr → Value → Option Addr → TS} {b₀ : Stmt} {suite : List Stmt} {np pos' : Pos} {hds : List ExceptHandler} {l : List (Value × Nat × (Addr → Value → Option Addr → TS))} (hc : Names X x c) (hi : X.N[i]? = some n) (hln : X.env.kindOf n = some .local)
      (hsu : ∀ (a : Addr) (oe : Obj) (cls : Value) (d : Option Addr) (pn : List (Addr × Obj)), Zc cls d oe → (∃ vs, oe.data = .fields vs) → PSs (X.suite a ((a, oe) :: pn)) (b₀ :: suite) (ts a cls d)) (r : HdsA X hds l) :
      HdsA X (.ExceptHandler (some (.Name x np)) (some n) (b₀ :: suite) pos' :: hds) ((c, i, ts) :: l)
section
variable {X : Cx} {body : List Stmt} {h₀ : ExceptHandler} {hds : List ExceptHandler} {l : List (Value × Nat × (Addr → Value → Option Addr → TS))} {pos : Pos} {tb : WX → TS} {Wout : WX}
theorem ps_try_manyA (hN : X.N.Nodup) (hs : X.stack = X.env :: X.outer) (hf : X.env.frame = some X.env.locals) (tk : Takes X Wout)
    (hb : ∀ (W : WX) (pn : List (Addr × Obj)) (xe : Value → Shared → Prop), Takes (X.tr pn xe) W → PassesOwn (model X.prog X.w) X.A X.env xe → PSs (X.tr pn xe) body (tb W))
    (hh : HdsA X (h₀ :: hds) l) : PS X (.Try body (h₀ :: hds) [] [] pos) (fun D σ H => tb (wManyA X.K X.N.length Wout D l) D σ H) := by
  refine ⟨fun pins s σ H D I h => ?_⟩
  have ok := I.ok
  have hfr : X.A.frames = some (X.env :: X.outer) := by rw [ok.frames, hs]
  refine wpAny_Try_except ?_
  refine wpAny_mono ((hb (wManyA X.K X.N.length Wout D l) (X.pn ++ pins) (fun e s₁ => wpAny (model X.prog X.w) X.A (noteFrame e X.env) (fun _ s₂ => wpAny (model X.prog X.w) X.A (setFlight e none) (fun _ s₃ =>
    wpAny (model X.prog X.w) X.A (handleBy e X.env (h₀ :: hds)) (SP X pins D) X.xe s₃) X.xe s₂) X.xe s₁) (fun u s' xx => ?_) PassesOwn.looking).run [] s σ H D (I.toTry _) h) (fun f s1 hsp => ?_) (fun e s1 he => he)
  · -- the catch
    obtain ⟨a, B, sI, pins', σ', H', cls, d, rfl, J', nb, up, sky, na, os, ag, w⟩ := xx
    have J : Inv X pins σ' H' sI := J'.ofTry ok
    have sky' : Sky B (X.env :: X.outer) a (Zc cls d) X.env.locals s'.heap := by rw [← hs]; exact sky
    show wpAny (model X.prog X.w) X.A (noteFrame (.ref a) X.env) _ _ _
    refine Sky.land Zc.steady hfr hf sky' fun h3 fl3 up3 => ?_
    have J3 : Inv X pins σ' H' { s' with heap := h3 } := J.landed nb fl3.1 (up.trans up3) os ag
    obtain ⟨oe3, vs3, he3, hz3, hd3⟩ := fl3.there
    have notFr : ∀ {h : Heap} {o : Obj} {vs : Array Value}, h.FunFrames B (X.env :: X.outer) → h.get? a = some o → o.data = .fields vs → a ∉ frs (X.env :: X.outer) := fun {h o vs} ff e dd hm => by
      obtain ⟨_, o', e', hnf⟩ := ff.mem hm
      rw [e] at e'; cases e'
      exact hnf _ dd
    have nfr := notFr fl3.2.2.1 he3 hd3
    have nL : a ≠ X.env.locals := fun z => nfr (List.mem_filterMap.mpr ⟨X.env, List.mem_cons_self, by rw [hf, z]⟩)
    have nF : a ∉ X.fs := fun hm => by
      obtain ⟨e, he, q⟩ := List.mem_filterMap.mp hm
      exact nfr (List.mem_filterMap.mpr ⟨e, List.mem_cons_of_mem _ he, q⟩)
    have S3 := J3.suite he3 hd3 na nL nF
    have go : ∀ {hds' : List ExceptHandler} {l' : List (Value × Nat × (Addr → Value → Option Addr → TS))}, HdsA X hds' l' → wManyA X.K X.N.length Wout D l' cls d σ' H' →
        wpAny (model X.prog X.w) X.A (handleBy (.ref a) X.env hds') (SP X pins D) X.xe { s' with heap := h3 } := by
      intro hds' l' hk
      induction hk with
      | nil =>
        intro w
        refine wpAny_handleBy_nil ?_
        obtain ⟨k1, k2, k3, oe, vs, T, oT, ts', he, hz, hd, h1, hr⟩ := id fl3
        unfold PySem.passOn
        refine wpAny_bind (wpAny_field he hd h1 ?_)
        rw [if_neg (show ¬ ((Value.ref T == Value.none) = true) from by simp)]
        have fin : wpAny (model X.prog X.w) X.A (setFlight (.ref a) X.env.frame) (fun _ s4 => wpAny (model X.prog X.w) X.A (throw (.ref a) : Sem Flow) (SP X pins D) X.xe s4) X.xe { s' with heap := h3 } := by
          rw [hf]
          refine HandSPX.setFlight_upZ fl3 fun h4 hh4 up4 => wpAny_throw (tk _ _ ?_)
          exact ⟨a, B, sI, pins, σ', H', cls, d, rfl, J, nb, (up.trans up3).trans up4, .inr (.inr (by rw [hs]; exact hh4)), na, os, ag, w⟩
        first
          | exact wpAny_bind (wpAny_pure (wpAny_bind fin))
          | exact wpAny_bind fin
      | @cons x n c i ts b₀ suite np pos' hds2 l2 hc hi hln hsu r ih =>
        intro w
        have hloc : Loc X.env.scope n := .inl hln
        obtain ⟨b, hb1, hyes, hno⟩ := w
        refine wpAny_handleBy_cons (codeAny_handlers_test ?_) (by intro q; cases q)
        have LT : PySem.W.Looks (model X.prog X.w) h3 (typeOf (.ref a)) cls := fun A Q E s k q => wpAny_typeOf_ref (k _ _ he3) (by rw [hz3.1]; exact q)
        have LM := PySem.W.exm_one (M := model X.prog X.w) (J3.kIn) LT hb1
        have test : ∀ {Q : Value → Shared → Prop} {E : Value → Shared → Prop}, Q c { s' with heap := h3 } → wpAny (model X.prog X.w) (X.A.mark (some (.ref a))) (eval (.Name x np) X.env) Q E { s' with heap := h3 } := fun {Q E} q => by
          obtain ⟨hg, hdbg, hm | ⟨hm, hv, hnn⟩⟩ := hc
          · exact ld_glob (X := X.suite a ((a, oe3) :: (X.pn ++ pins))) S3 hg hm q hdbg
          · exact ld_blt (X := X.suite a ((a, oe3) :: (X.pn ++ pins))) S3 hg hm hv q hnn hdbg
        refine test (LM.here ?_)
        cases b with
        | true =>
          refine codeAny_handlers_suite_as ?_
          refine HandSPX.lands_againZ fl3 fun h4 fl4 up4 => ?_
          have J4 : Inv X pins σ' H' { s' with heap := h4 } := J.landed nb fl4.1 ((up.trans up3).trans up4) os ag
          obtain ⟨oe4, vs4, he4, hz4, hd4⟩ := fl4.there
          have S4 := J4.suite he4 hd4 na nL nF
          refine store_ok (X := X.suite a ((a, oe4) :: (X.pn ++ pins))) (v := .ref a) S4 hN hi hloc rfl (fun s5 S5 => ?_) (.inr hln)
          refine wpAny_mono ((hsu a oe4 cls d (X.pn ++ pins) hz4 ⟨_, hd4⟩).run [] s5 _ H' _ S5 (hyes rfl J.len a na)) (fun f s6 hsp => ?_) (fun _ _ z => False.elim z)
          have end_ : ∀ {σ6 : St} {H6 : Hp} {Q : Shared → Prop}, Inv (X.suite a ((a, oe4) :: (X.pn ++ pins))) [] σ6 H6 s6 → (∀ s7, Inv X pins (σ6.set i none) H6 s7 → Q s7) →
              wpAny (model X.prog X.w) X.A (do bindName X.env n .none; unbindBehindTheSuite X.env n pos') (fun _ s7 => Q s7) X.xe s6 := fun {σ6 H6 Q} S6 hq => gone_ok (S6.unsuite ok) hN hi hln hq
          cases f with
          | next =>
            obtain ⟨σ6, H6, S6, q6⟩ := hsp
            exact end_ S6 fun s7 J7 => ⟨_, _, J7, q6⟩
          | brk =>
            obtain ⟨σ6, H6, S6, q6⟩ := hsp
            exact end_ S6 fun s7 J7 => ⟨_, _, J7, q6⟩
          | cont =>
            obtain ⟨σ6, H6, S6, q6⟩ := hsp
            exact end_ S6 fun s7 J7 => ⟨_, _, J7, q6⟩
          | ret u =>
            obtain ⟨v6, σ6, H6, S6, r6, q6⟩ := hsp
            exact end_ S6 fun s7 J7 => ⟨_, _, _, J7, r6, q6⟩
        | false =>
          show wpAny _ X.A (handleBy (.ref a) X.env hds2) _ _ _
          exact ih (hno rfl)
    exact go hh w
  · cases f with
    | next =>
      obtain ⟨σ', H', J', q⟩ := hsp
      exact wpAny_execs_nil ⟨σ', H', J'.ofTry ok, q⟩
    | brk =>
      obtain ⟨σ', H', J', q⟩ := hsp
      exact ⟨σ', H', J'.ofTry ok, q⟩
    | cont =>
      obtain ⟨σ', H', J', q⟩ := hsp
      exact ⟨σ', H', J'.ofTry ok, q⟩
    | ret u =>
      obtain ⟨v, σ', H', J', r, q⟩ := hsp
      exact ⟨v, σ', H', J'.ofTry ok, r, q⟩
end
end L2

set_option Elab.async false
set_option linter.all false
set_option maxRecDepth 100000
set_option maxHeartbeats 4000000
/-! the data layer: the draws -/
namespace DL
open PySem PySem.Spec PyProof.Rows L2
section
variable {P : Program} {w : World} {K : PySem.W.Frag} {mg : Str → Option Value} {base : Heap} {C : DC}
theorem FunC.fn {CX : CXT} {x qual : Str} {st : Stmt} {f cda : Addr} {fd : FuncData} {N ps : List Str} {k : Nat} {sp : Sp} (Fn : FunC K x qual st f fd cda) (S : FnScope N ps (defScope st)) (len : ∀ vs H Q E, sp vs H Q E → vs.length = ps.length)
    (hbody : ∀ (A : Around) (outer : List Env) (s : Shared) (H : Hp) (vs : List V) (Q : VK) (E : XK), Room k (A.deeper (envOfC qual (defScope st) s.heap.objs.size f (.ref cda))) → sp vs H Q E →
      ∃ t, PSs (cxOf CX P w K mg base N qual (defScope st) f (.ref cda) A outer s H E) (defBody st) t ∧ t { nx := fun _ H' => Q .non H', rt := Q } (L2.start N vs) H) : FnOk P w K mg base CX (k + 1) f fd ps sp := by
  obtain ⟨oc, od, kV, doc, pm, an, ct, osl, rfl, lk⟩ := Fn.ex
  exact fn_of lk Fn.cod S len hbody
theorem takenM_run {n : Int} {P : PyData → Prop} {R : Er → Prop} (h : (takenM [.int n]).fin.run P R) : 0 < n ∧ n < 1000000 ∧ ∀ k : Int, 0 ≤ k → k < n → P (.int k) := by
  unfold M.fin at h
  rw [M.bind_run] at h
  unfold takenM at h
  obtain ⟨h1, h2⟩ := guard_run h
  rw [Bool.and_eq_true] at h1
  refine ⟨of_decide_eq_true h1.1, of_decide_eq_true h1.2, fun k a b => ?_⟩
  exact (show ∀ d, (∃ k : Int, 0 ≤ k ∧ k < n ∧ d = PyData.int k) → P d from h2) (.int k) ⟨k, a, b, rfl⟩
/-- the draws' list -/
abbrev dls (sv : V) (i j r : Int) : HO := .lst [sv, .int i, .int j, .int r]
theorem ext_drw {W : Addr → Prop} {F H : Hp} {a : Addr} {sv : V} {ns : List Int} {i j r i' j' r' : Int} (g : GS C F H) (w : W a) (hF : F a = none) (hH : H a = some (dls sv i j r)) (hs : Dp K F sv (.list (ns.map PyData.int))) (h : 0 ≤ i' ∧ 0 ≤ j' ∧ j' < 2147483647 ∧ 0 ≤ r') :
    Ext C K W F H F (upd H a (dls sv i' j' r')) := by
  refine ⟨fun b o e n z => ?_, fun b e => ?_, fun _ _ => rfl, gs_at g hF hH, fun b z d => ?_⟩
  · rw [upd_ne (fun q => z (by rw [q]; exact w))]
    exact e
  · by_cases q : b = a
    · rw [q, upd_same]; simp
    · rw [upd_ne q]; exact e
  · by_cases q : b = a
    · subst q
      exact ⟨sv, ns, i', j', r', upd_same, hF, hs, h⟩
    · exact drw_same (F := F) (H := H) (fun o e _ => by rw [upd_ne q]; exact e) rfl (fun _ _ h => h) d
end
end DL

set_option Elab.async false
set_option linter.all false
set_option maxRecDepth 100000
set_option maxHeartbeats 4000000
/-! x(lambda: e), all but the one table kept (turned from the kit's rule) -/
namespace LamX
open PySem PySem.Spec PyProof.Rows L2
section
variable {X : Cx} {pins : List (Addr × Obj)} {σ : L2.St} {H HZ : Hp} {s s1 : Shared}
/-- the lambda is made: its code object is new, or found in the table -/
theorem lam_make3 {T : List (Addr × Str)} {c P : Addr} {params : Arguments} {body : Expr} {scope : Scope} {pos : Pos} {E : Value → Shared → Prop} {Q : Value → Shared → Prop} (I : Inv X pins σ H s) (TB : TabB X.base X.mg c P) (hcode : X.env.code = .ref c)
    (hm : (P, X.env.qual ++ "<lambda>") ∈ T) (hu : ∀ p ∈ T, p.1 = P → p.2 = X.env.qual ++ "<lambda>") (hT : Tabs T H) (hdef : defaultsOf params X.env = ([], [])) (hfree : ∀ y ∈ scope.names, y.2 = .free → ∃ c, X.env.cells.lookup y.1 = some c)
    (h : ∀ (f c' : Addr) (pm ctv : Value) (H1 : Hp) (s' : Shared), Inv X pins σ H1 s' → (∀ b u, H b = some u → b ≠ P → H1 b = some u) → (∃ ps, H1 P = some (.tbl ps)) → Tabs T H1 →
      s'.heap.get? f = some (PySem.W.kla_obj "<lambda>" (X.env.qual ++ "<lambda>") params body scope (cloFrom X.env.cells scope.names []) pm c' ctv) → H1 f = none → f ∉ frs X.stack → H1 c' = some (CodeO c' (X.env.qual ++ "<lambda>")) → Q (.ref f) s') :
    wpAny (model X.prog X.w) X.A (eval (.Lambda params body scope pos) X.env) Q E s := by
  obtain ⟨ps, hP, ht, ha⟩ := hT _ hm
  refine PySem.W.kla_eval hdef ?_
  have bP : s.heap.BuiltinsAt X.mg P := TB.bm.keeps I.bk
  have hP' : s.heap.get? P = some { cls := .none, data := .fields ps } := I.hok P _ hP
  have nofr : ∀ f, s.heap.objs.size ≤ f → f ∉ frs X.stack := fun f hf z => by
    rcases List.mem_cons.mp (I.stkSub _ z) with e | e
    · have h1 := I.lt
      rw [← e] at h1
      exact Nat.lt_irrefl _ (Nat.lt_of_lt_of_le h1 hf)
    · exact I.nofs hf e
  cases hc : codeAmong pos ps.toList with
  | none =>
    refine PySem.W.kla_makeFunction (mg := X.mg) (c := c) (P := P) (ps := ps) (closure_ok hfree) I.ok.glob (I.mod.glob.keeps I.bk) hcode (TB.code.keeps I.bk) hP' ht hc TB.gP bP fun c' ctv h' tk hx hge hlt hrec htb => ?_
    obtain ⟨c2, oc, vs, t, e2, hoc, hd, hv⟩ := hrec
    cases e2
    have hsz : s.heap.objs.size ≤ h'.objs.size := Nat.le_trans hge (Nat.le_of_lt hlt)
    have nC : H c' = none := I.hok.fresh hge
    have I1 := inv_table (t' := tk) (more := #[rawInt pos.line, rawInt pos.col, .ref c']) (h' := h'.push (PySem.W.kla_obj "<lambda>" (X.env.qual ++ "<lambda>") params body scope (cloFrom X.env.cells scope.names []) ((X.mg "__name__").getD .none) c' ctv)) I hP
      (fun b o hb e => Heap.get?_push_of_some _ (hx b o hb e)) (Heap.get?_push_of_some _ htb) hge ⟨oc, vs, t, Heap.get?_push_of_some _ hoc, hd, hv⟩
    have hE : ExtN H (upd (upd H P (.tbl (ps ++ #[rawInt pos.line, rawInt pos.col, .ref c']))) c' (CodeO c' (X.env.qual ++ "<lambda>"))) := fun b o e n => by
      rw [upd_ne (ne_of_none e nC), upd_ne (fun z => n ps (Option.some.inj (e.symm.trans (by rw [z]; exact hP))))]
      exact e
    have eL : (ps ++ #[rawInt pos.line, rawInt pos.col, .ref c']).toList = ps.toList ++ [rawInt pos.line, rawInt pos.col, .ref c'] := by simp
    refine h h'.objs.size c' ((X.mg "__name__").getD .none) ctv _ _ I1 (fun b u e n => by rw [upd_ne (ne_of_none e nC), upd_ne n]; exact e) ⟨_, by rw [upd_ne (ne_of_none hP nC), upd_same]⟩ (fun p hp => ?_) (Heap.get?_push_size _ rfl) ?_ (nofr _ hsz) upd_same
    · by_cases hb : p.1 = P
      · rw [hu p hp hb, hb]
        refine ⟨_, by rw [upd_ne (ne_of_none hP nC), upd_same], by rw [eL]; exact PySem.TriplesOk_snoc _ _ _ _ ht, fun p' cv hcv => ?_⟩
        rw [eL] at hcv
        rcases among_app _ ht hcv with z | z
        · obtain ⟨c0, e1, e2⟩ := ha p' cv z
          exact ⟨c0, e1, hE _ _ e2 codeO_ne⟩
        · exact ⟨c', z, upd_same⟩
      · obtain ⟨ps', a1, a2, a3⟩ := hT p hp
        refine ⟨ps', by rw [upd_ne (ne_of_none a1 nC), upd_ne hb]; exact a1, a2, fun p' cv hcv => ?_⟩
        obtain ⟨c0, e1, e2⟩ := a3 p' cv hcv
        exact ⟨c0, e1, hE _ _ e2 codeO_ne⟩
    · have n1 : h'.objs.size ≠ c' := Nat.ne_of_gt hlt
      have n2 : h'.objs.size ≠ P := Nat.ne_of_gt (Nat.lt_of_lt_of_le (Heap.lt_size hP') hsz)
      rw [upd_ne n1, upd_ne n2]
      exact I.hok.fresh hsz
  | some cv =>
    obtain ⟨c', e, hco⟩ := ha pos cv hc
    subst e
    refine PySem.W.kla_makeFunctionHit (mg := X.mg) (c := c) (P := P) (ps := ps) (closure_ok hfree) I.ok.glob (I.mod.glob.keeps I.bk) hcode (TB.code.keeps I.bk) hP' ht hc bP fun ctv h' tk hx hsz => ?_
    have I1 : Inv X pins σ H { s with heap := h'.push (PySem.W.kla_obj "<lambda>" (X.env.qual ++ "<lambda>") params body scope (cloFrom X.env.cells scope.names []) ((X.mg "__name__").getD .none) c' ctv), toks := tk } := I.kept fun b o e => Heap.get?_push_of_some _ (hx b o e)
    exact h h'.objs.size c' ((X.mg "__name__").getD .none) ctv H _ I1 (fun b u e _ => e) ⟨_, hP⟩ hT (Heap.get?_push_size _ rfl) (I.hok.fresh hsz) (nofr _ hsz) hco
end
def tLam3 (P : Addr) (T : List (Addr × Str)) (TT : (XK → Hp → VK → Prop) → Hp → VK → Prop) (t : XK → TE) : TE := fun σ H Q => Tabs T H ∧ ∀ H1, (∀ b u, H b = some u → b ≠ P → H1 b = some u) → (∃ ps, H1 P = some (.tbl ps)) → Tabs T H1 → TT (fun E H' Q' => t E σ H' Q') H1 Q
section
variable {X : Cx}
/-- x(lambda: body) -/
theorem pe_lamcall3 {T : List (Addr × Str)} {TT : (XK → Hp → VK → Prop) → Hp → VK → Prop} {x a : Str} {g c P : Addr} {k : Nat} {pg : Arguments} {bg : List Stmt} {sg : Scope} {dV kV doc pm cdv ct oc : Value} {an od : Option Addr} {osl : Array (Option Value)} {Ng : List Str}
    {params : Arguments} {body : Expr} {scope : Scope} {t : XK → TE} {p lpos pos : Pos} (hg : Gl X x) (hm : X.mg x = some (.ref g)) (hk : PySem.W.keepIn X.K (.ref g) = true)
    (lk : X.K.lookup g = some ⟨oc, od, .func (PySem.W.fnOf x x pg bg sg dV kV doc pm an cdv ct), osl⟩) (hcg : PySem.W.codeIn X.K cdv x = true) (hb : L2.Binds X.K (PySem.W.fnOf x x pg bg sg dV kV doc pm an cdv ct) [a] []) (Sg : FnScope Ng [a] sg) (hNg : Ng[0]? = some a) (hva : Vis sg a)
    (hG : GivesTo X Ng x sg g cdv bg a (X.env.qual ++ "<lambda>") TT)
    (TB : TabB X.base X.mg c P) (hcode : X.env.code = .ref c) (hmT : (P, X.env.qual ++ "<lambda>") ∈ T) (hu : ∀ p ∈ T, p.1 = P → p.2 = X.env.qual ++ "<lambda>") (hr : Room (k + 2) X.A) (L : LamS X.env.scope scope) (hdef : defaultsOf params X.env = ([], []))
    (hbind : ∀ (q : Str) (cl : List (Str × Addr)) (pm cv ctv : Value), bindArgs (PySem.W.kla_fn "<lambda>" q params body scope cl pm cv ctv) ⟨[], []⟩ = pure [])
    (hbody : ∀ (A : Around) (outer : List Env) (s : Shared) (H : Hp) (E : XK) (f c' : Addr), Room k (A.deeper (lamEnv X scope s.heap.objs.size f c')) → PE (lamCx X A outer s H E scope f c') body (t E))
    (hdb : (x == ("__debug__" : Str)) = false := by decide) (hd : (a == ("__debug__" : Str)) = false := by decide) (hcd : (a == ("__classdict__" : Str)) = false := by decide) :
    PE X (.Call (.Name x p) [.Lambda params body scope lpos] [] pos) (tLam3 P T TT t) := by
  refine ⟨fun pins s σ H Q I h => ?_⟩
  obtain ⟨hT, h⟩ := h
  refine wpAny_Call_Name_kw (ld_glob I hg hm ?_ hdb)
  refine PySem.W.callWith_K (h₀ := X.base) I.ok.mod.kin hk ?_ (by rfl) (by rfl)
  show wpAny _ _ (spliced ((false, eval (.Lambda params body scope lpos) X.env) :: backTo pos (starEach [] X.env))) _ _ s
  refine Calls.spliced_cons (lam_make3 I TB hcode hmT hu hT hdef (L.has I.ok) fun f c' pm' ctv H1 s' I1 eN eP T1 hf hfn hfr hco => ?_)
  refine Calls.spliced_nil ⟨I1.kIn, ?_⟩
  have rc : codeAny (model X.prog X.w) X.A (.call (.ref g) ⟨[.ref f], []⟩) (CR C8.CX0 X.stack X.prog X.w H1 s' Q C8.E0) s' := by
    refine run_ofS (N := Ng) (ps := [a]) (us := [.ref f]) (vs := [.ref f]) lk hcg Sg hr I1.env0 (hb s' [.ref f] I1.kIn rfl) (.cons rfl .nil) rfl fun hr' => ?_
    obtain ⟨t', ht', hq'⟩ := hG f c' s' H1 Q (fun E H' Q' => t E σ H' Q') (fun W pn xe E p1 p2 tk hW => pe_act (i := 0) I1 L hf hfn hfr (hbind _ _ _ _ _) tk hW hr' (fun A outer s H hr2 => hbody A outer s H E f c' hr2) hNg hva hd hcd) hco (h H1 eN eP T1)
    exact ⟨t', ht'.nox, hq'⟩
  refine wpAny_call (codeAny_mono rc fun r s2 hq => ?_)
  cases r with
  | error e => exact (show False from hq).elim
  | ok fl =>
    cases fl with
    | ret u => exact I1.after hq
    | next => exact False.elim hq
    | brk => exact False.elim hq
    | cont => exact False.elim hq
end
end LamX

set_option Elab.async false
set_option linter.all false
set_option maxRecDepth 100000
set_option maxHeartbeats 4000000
/-! the data layer: what a lambda's run is heard as -/
namespace DL
open PySem PySem.Spec PyProof.Rows L2
theorem bt_ValueError : bootBuiltins ("ValueError" : Str) = some (.type "ValueError") := by decide +kernel
/-- what is heard of an error -/
def erD : Er → PyData
  | .bad n => .tuple [.str "bad", n, .bool true]
  | .unlaid b => .tuple [.str "unlaid", b, .bool true]
  | .refused y => .tuple [.str "refused", y, .bool true]
  | .unread l y => .tuple [.str "unread", l, y, .bool true]
def heardM (m : M PyData) : M PyData := ⟨fun P _ => m.run (fun _ => P (.tuple [])) (fun er => P (erD er)), fun h _ x => m.mono (fun _ z => h _ z) (fun _ z => h _ z) x⟩
/-- what the error classes say -/
structure HrdF (K : PySem.W.Frag) (mg : Str → Option Value) (C : DC) (bone : Addr) : Prop where
  mBone : mg "BoneError" = some (.ref bone)
  mVE : mg "ValueError" = none
  mIsi : mg "isinstance" = none
  mBad : mg "BadArgument" = some (.ref C.cBad)
  mUnl : mg "Unlaid" = some (.ref C.cUnl)
  mRef : mg "Refused" = some (.ref C.cRef)
  mUnr : mg "Unread" = some (.ref C.cUnr)
  xf : ∀ c, (c = C.cBad ∨ c = C.cUnl ∨ c = C.cRef ∨ c = C.cUnr) → XfC K c ∧ ExcC K c ∧ PySem.W.kitOne K (.ref c) (.ref bone) = some true ∧ PySem.W.kitOne K (.ref c) (.type "ValueError") = some true
  nBad : PySem.W.findIn K (.ref C.cBad) "name" = some none
  nUnl : PySem.W.findIn K (.ref C.cUnl) "bar" = some none
  nRef : PySem.W.findIn K (.ref C.cRef) "why" = some none
  nUnr : PySem.W.findIn K (.ref C.cUnr) "line" = some none
  nUnr2 : PySem.W.findIn K (.ref C.cUnr) "why" = some none
  e11 : PySem.W.exmOne K (.ref C.cBad) (.ref C.cBad) = some true
  e21 : PySem.W.exmOne K (.ref C.cUnl) (.ref C.cBad) = some false
  e22 : PySem.W.exmOne K (.ref C.cUnl) (.ref C.cUnl) = some true
  e31 : PySem.W.exmOne K (.ref C.cRef) (.ref C.cBad) = some false
  e32 : PySem.W.exmOne K (.ref C.cRef) (.ref C.cUnl) = some false
  e33 : PySem.W.exmOne K (.ref C.cRef) (.ref C.cRef) = some true
  e41 : PySem.W.exmOne K (.ref C.cUnr) (.ref C.cBad) = some false
  e42 : PySem.W.exmOne K (.ref C.cUnr) (.ref C.cUnl) = some false
  e43 : PySem.W.exmOne K (.ref C.cUnr) (.ref C.cRef) = some false
  e44 : PySem.W.exmOne K (.ref C.cUnr) (.ref C.cUnr) = some true
def Wish1 (c : Addr) (fld tag : Str) (Q : VK) : XK := fun cls d H' => cls = .ref c ∧ ∃ (x : Addr) (y : V), d = some x ∧ H' x = some (.xd [(fld, y)]) ∧ ∀ p o, H' p = none → o.dict = none → Q (.ref p) (upd H' p (frT o [.str tag, y, .bl true]))
def Wish2 (c : Addr) (Q : VK) : XK := fun cls d H' => cls = .ref c ∧ ∃ (x : Addr) (y z : V), d = some x ∧ H' x = some (.xd [("why", z), ("line", y)]) ∧ ∀ p o, H' p = none → o.dict = none → Q (.ref p) (upd H' p (frT o [.str "unread", y, z, .bl true]))
def Wish (C : DC) (Q : VK) : XK := fun cls d H' => Wish1 C.cBad "name" "bad" Q cls d H' ∨ Wish1 C.cUnl "bar" "unlaid" Q cls d H' ∨ Wish1 C.cRef "why" "refused" Q cls d H' ∨ Wish2 C.cUnr Q cls d H'
def TTheard (C : DC) : (XK → Hp → VK → Prop) → Hp → VK → Prop := fun tl H Q => tl (Wish C Q) H fun _ H' => ([] : List V).length ≤ sizeLine ∧ ∀ p o, H' p = none → o.dict = none → Q (.ref p) (upd H' p (frT o []))
section
variable {K : PySem.W.Frag} {C : DC} {W : Addr → Prop} {F H : Hp}
theorem ext_lam {H1 : Hp} {P : Addr} {q : Str} (g : GS C F H) (hP : (P, q) ∈ C.TL) (hL : ∀ p ∈ C.TL, p.1 ∉ C.TS) (k : ∀ b u, H b = some u → b ≠ P → H1 b = some u) (t : ∃ ps, H1 P = some (.tbl ps)) (tb : LamX.Tabs C.TL H1) : Ext C K W F H F H1 := by
  obtain ⟨ps, hp, _⟩ := g.lams _ hP
  have ne : ∀ a o, H a = some o → (∀ ps, o ≠ .tbl ps) → a ≠ P := fun a o h n z => by
    rw [z, hp] at h
    cases h
    exact n ps rfl
  have nf : ∀ a o, F a = some o → a ≠ P := fun a o h z => by
    have := g.sub a o h
    rw [z, hp] at this
    cases this
    exact g.nt a ps h
  refine ⟨fun a o h n _ => k a o h (ne a o h n), fun a h => ?_, fun _ _ => rfl, ⟨fun a o h => k a o (g.sub a o h) (nf a o h), g.nt, fun P' hP' => ?_, tb⟩, fun a _ d => ?_⟩
  · by_cases z : a = P
    · obtain ⟨ps', h'⟩ := t
      rw [z, h']
      simp
    · cases q : H a with
      | none => exact absurd q h
      | some u => rw [k a u q z]; simp
  · obtain ⟨ps', h1, h2⟩ := g.tabs P' hP'
    exact ⟨ps', k _ _ h1 (fun z => hL _ hP (by rw [← z]; exact hP')), h2⟩
  · exact drw_same (fun o h n => k a o h (ne a o h n)) rfl (fun _ _ h => h) d
theorem wish_of {Q : VK} {F0 H0 : Hp} {P : PyData → Prop} {er : Er} (hP : P (erD er)) (hQ : ∀ d, P d → ∀ v F' H', Ext C K W F0 H0 F' H' → Dp K F' v d → Q v H') : RE C K (Wish C Q) W F0 H0 er := by
  intro cls dd F' H' x h
  have lay : ∀ (p : Addr) (o : Obj) (vs : List V) (ds : List PyData), H' p = none → o.dict = none → DpAll K F' vs ds → P (.tuple ds) → Q (.ref p) (upd H' p (frT o vs)) := fun p o vs ds hp ho hd hP => by
    obtain ⟨x2, fs⟩ := ext_newF (K := K) (W := W) (o := frT o vs) x.gs hp (fun ps e => by cases e)
    exact hQ _ hP _ _ _ (x.trans x2) (.tup (.inl ⟨_, upd_same, ho⟩) (dpAll_mono fs _ _ hd))
  cases er with
  | bad n =>
    obtain ⟨h1, a, y, h2, h3, h4⟩ := h
    exact .inl ⟨h1, a, y, h2, h3, fun p o hp ho => lay p o _ _ hp ho (.cons (.str _) (.cons h4 (.cons (.bl true) .nil))) hP⟩
  | unlaid n =>
    obtain ⟨h1, a, y, h2, h3, h4⟩ := h
    exact .inr (.inl ⟨h1, a, y, h2, h3, fun p o hp ho => lay p o _ _ hp ho (.cons (.str _) (.cons h4 (.cons (.bl true) .nil))) hP⟩)
  | refused n =>
    obtain ⟨h1, a, y, h2, h3, h4⟩ := h
    exact .inr (.inr (.inl ⟨h1, a, y, h2, h3, fun p o hp ho => lay p o _ _ hp ho (.cons (.str _) (.cons h4 (.cons (.bl true) .nil))) hP⟩))
  | unread l n =>
    obtain ⟨h1, a, y, z, h2, h3, h4, h5⟩ := h
    exact .inr (.inr (.inr ⟨h1, a, y, z, h2, h3, fun p o hp ho => lay p o _ _ hp ho (.cons (.str _) (.cons h4 (.cons h5 (.cons (.bl true) .nil)))) hP⟩))
end
/-- x(lambda: e): what is heard -/
theorem de_heard {X : Cx} {C : DC} {E : XK} {ρ : REnv} {x a : Str} {g c P : Addr} {k : Nat} {fd : FuncData} {cda : Addr} {st : Stmt} {Ng : List Str} {params : Arguments} {body : Expr} {scope : Scope} {p lpos pos : Pos} {m : M PyData} (hg : Gl X x) (hm : X.mg x = some (.ref g)) (Fn : FunC X.K x x st g fd cda) (hb : L2.Binds X.K fd [a] [])
    (Sg : FnScope Ng [a] (defScope st)) (hNg : Ng[0]? = some a) (hva : Vis (defScope st) a) (hG : ∀ cdv, LamX.GivesTo X Ng x (defScope st) g cdv (defBody st) a (X.env.qual ++ "<lambda>") (TTheard C))
    (TB : LamX.TabB X.base X.mg c P) (hcode : X.env.code = .ref c) (hmT : (P, X.env.qual ++ "<lambda>") ∈ C.TL) (hu : ∀ p ∈ C.TL, p.1 = P → p.2 = X.env.qual ++ "<lambda>") (hL : ∀ p ∈ C.TL, p.1 ∉ C.TS) (hr : Room (k + 2) X.A) (L : LamX.LamS X.env.scope scope) (hdef : defaultsOf params X.env = ([], []))
    (hbind : ∀ (q : Str) (cl : List (Str × Addr)) (pm cv ctv : Value), bindArgs (PySem.W.kla_fn "<lambda>" q params body scope cl pm cv ctv) ⟨[], []⟩ = pure [])
    (hbody : ∀ (A : Around) (outer : List Env) (s : Shared) (H : Hp) (E : XK) (f c' : Addr), Room k (A.deeper (LamX.lamEnv X scope s.heap.objs.size f c')) → DE (LamX.lamCx X A outer s H E scope f c') C E ρ body m)
    (hdb : (x == ("__debug__" : Str)) = false := by decide) (hd : (a == ("__debug__" : Str)) = false := by decide) (hcd : (a == ("__classdict__" : Str)) = false := by decide) :
    DE X C E ρ (.Call (.Name x p) [.Lambda params body scope lpos] [] pos) (heardM m) := by
  obtain ⟨oc, od, kV, doc, pm, an, ct, osl, rfl, lk⟩ := Fn.ex
  refine ⟨_, LamX.pe_lamcall3 (t := fun E => tDE C X.K E ρ m) hg hm Fn.kp lk Fn.cod hb Sg hNg hva (hG _) TB hcode hmT hu hr L hdef hbind (fun A outer s H E f c' r => (hbody A outer s H E f c' r).pe) hdb hd hcd, fun σ F H Q k0 hq => ⟨k0.gs.lams, fun H1 hk hP hT => ?_⟩⟩
  have x1 : Ext C X.K (drA ρ σ) F H F H1 := ext_lam k0.gs hmT hL hk hP hT
  refine ⟨F, k0.ext x1, m.mono (fun d q v F' H' x hv => ⟨by show 0 ≤ sizeLine; exact Nat.zero_le _, fun p o hp ho => ?_⟩) (fun er q => wish_of (P := fun d => ∀ v F' H', Ext C X.K (drA ρ σ) F H F' H' → Dp X.K F' v d → Q v H') q fun d hd v F' H' x hv => hd v F' H' (x1.trans x) hv) (show m.run _ _ from hq)⟩
  obtain ⟨x2, fs⟩ := ext_newF (K := X.K) (W := drA ρ σ) (o := frT o []) x.gs hp (fun ps e => by cases e)
  exact (show ∀ v F' H', Ext C X.K (drA ρ σ) F H F' H' → Dp X.K F' v (.tuple []) → Q v H' from q) _ _ _ ((x1.trans x).trans x2) (.tup (.inl ⟨_, upd_same, ho⟩) .nil)
end DL
namespace DL
open PySem PySem.Spec PyProof.Rows L2
theorem dss_stuck {X : Cx} {C : DC} {E : XK} {ρ : REnv} {ss : List Stmt} {γ : Type} {ρ' : γ → REnv} : DSs X C E ρ ss ρ' .stuck := ⟨_, pss_never, fun W F0 H0 σ F H D j hm => hm.elim⟩
end DL
namespace DL
open PySem PySem.Spec PyProof.Rows L2
section
variable {C : DC} {K : PySem.W.Frag} {W : Addr → Prop} {F0 H0 : Hp} {ρ : REnv} {σ : L2.St} {F H : Hp}
/-- the draws are laid -/
theorem Jd.putD {i : Nat} {p : Addr} {sv : V} {ns : List Int} {c j r : Int} (jd : Jd C K W F0 H0 ρ σ F H) (hp : H p = none) (hw : W p) (hsv : Dp K F sv (.list (ns.map PyData.int))) (h : 0 ≤ c ∧ 0 ≤ j ∧ j < 2147483647 ∧ 0 ≤ r) (hs : ρ[i]? = some none) :
    Jd C K W F0 H0 (ρ.set i (some .drw)) (σ.set i (some (.ref p))) F (upd H p (dls sv c j r)) := by
  have hi : i < ρ.length := (List.getElem?_eq_some_iff.mp hs).1
  have hσ : i < σ.length := by rw [jd.ok.len]; exact hi
  have x : Ext C K (drA ρ σ) F H F (upd H p (dls sv c j r)) := ext_new jd.ok.gs hp
  have j1 := jd.step x
  have hF : F p = none := by
    cases z : F p with
    | none => rfl
    | some u => rw [jd.ok.gs.sub _ _ z] at hp; cases hp
  have key : ∀ (l : Nat) t, (ρ.set i (some .drw))[l]? = some (some t) → (l = i ∧ t = .drw) ∨ (l ≠ i ∧ ρ[l]? = some (some t)) := fun l t e => by
    by_cases z : i = l
    · subst z
      rw [List.getElem?_set_self hi] at e
      cases e
      exact .inl ⟨rfl, rfl⟩
    · rw [List.getElem?_set_ne z] at e
      exact .inr ⟨Ne.symm z, e⟩
  have sel : (σ.set i (some (V.ref p)))[i]? = some (some (V.ref p)) := List.getElem?_set_self hσ
  have oth : ∀ l, l ≠ i → (σ.set i (some (V.ref p)))[l]? = σ[l]? := fun l z => List.getElem?_set_ne (Ne.symm z)
  have fr : ∀ (l : Nat) t, ρ[l]? = some (some t) → t.mut = true → σ[l]? ≠ some (some (V.ref p)) := fun l t e m z => slot_there jd.ok e m z hp
  refine ⟨⟨j1.ok.gs, by rw [List.length_set, List.length_set]; exact j1.ok.len, fun l t e => ?_, fun l m t u b hlm e1 e2 m1 m2 e3 e4 => ?_⟩, j1.ext, fun l es b e1 e2 => ?_, fun b ⟨l, e1, e2⟩ => ?_⟩
  · rcases key l t e with ⟨y1, y2⟩ | ⟨z, e⟩
    · subst y1 y2
      exact ⟨_, sel, p, rfl, sv, ns, c, j, r, upd_same, hF, hsv, h⟩
    · rw [oth l z]
      exact j1.ok.sl l t e
  · rcases key l t e1 with ⟨y1, y2⟩ | ⟨z1, e1'⟩
    · rw [y1, sel] at e3
      cases e3
      rcases key m u e2 with ⟨y3, _⟩ | ⟨z2, e2'⟩
      · exact hlm (y1.trans y3.symm)
      · rw [oth m z2] at e4
        exact fr m u e2' m2 e4
    · rw [oth l z1] at e3
      rcases key m u e2 with ⟨y3, _⟩ | ⟨z2, e2'⟩
      · rw [y3, sel] at e4
        cases e4
        exact fr l t e1' m1 e3
      · rw [oth m z2] at e4
        exact j1.ok.dj l m t u b hlm e1' e2' m1 m2 e3 e4
  · rcases key l _ e1 with ⟨y1, y2⟩ | ⟨z, e1'⟩
    · cases y2
    · rw [oth l z] at e2
      exact j1.own l es b e1' e2
  · rcases key l _ e1 with ⟨y1, y2⟩ | ⟨z, e1'⟩
    · rw [y1, sel] at e2
      cases e2
      exact hw
    · rw [oth l z] at e2
      exact j1.drw b ⟨l, e1', e2⟩
end
/-- the law's promise -/
def spLaw (C : DC) (K : PySem.W.Frag) : Sp := fun vs H Q _ => ∃ (F : Hp) (a : Addr) (ns : List Int), vs = [.ref a] ∧ GS C F H ∧ Dp K F (.ref a) (.list (ns.map PyData.int)) ∧ ns.length ≤ 63 ∧ ∀ H', Q (.bl true) H'
end DL

set_option Elab.async false
set_option linter.all false
set_option maxRecDepth 100000
set_option maxHeartbeats 4000000
/-! dicts of one's own, whose keys are tuples of any data: the object as it stands -/
namespace DL
open PySem PySem.Spec PyProof.Rows L2
/-! ### keys -/
mutual
/-- the key that a datum is -/
def keyN : PyData → Option NestedKey
  | .none => some .none
  | .bool b => some (.num (if b = true then 1 else 0))
  | .int i => some (.num i)
  | .str x => some (.text x)
  | .tuple ds => (keyNs ds).map .tup
  | _ => none
def keyNs : List PyData → Option (List NestedKey)
  | [] => some []
  | d :: ds => match keyN d, keyNs ds with
    | some k, some ks => some (k :: ks)
    | _, _ => none
end
/-- a tuple that can be a key -/
def keyOk (d : PyData) : Bool := match d, keyN d with
  | .tuple _, some k => decide (k.depth ≤ 8)
  | _, _ => false
section
variable {X : Cx} {pins : List (Addr × Obj)} {σ : L2.St} {H : Hp} {s : Shared}
mutual
theorem nested_of (I : Inv X pins σ H s) : ∀ (d : PyData) (v : V) (u : Value) (k : NestedKey), Dp X.K H v d → RelV v u → keyN d = some k → NestedIs s.heap k u
  | .none, _, _, _, h, r, e => by cases h; cases r; cases e; exact .none
  | .bool b, _, _, _, h, r, e => by cases h; cases r; cases e; exact .bool rfl
  | .int i, _, _, _, h, r, e => by cases h; obtain ⟨t, rfl⟩ := r; cases e; exact .int i t
  | .str x, _, _, _, h, r, e => by cases h; obtain ⟨t, rfl⟩ := r; cases e; exact .text x t
  | .tuple ds, _, _, k, h, r, e => by
    cases h with
    | tup hs hd =>
      cases r
      obtain ⟨its, rv, ⟨o, ho, hc, n, hdat⟩, _⟩ := I.tuple hs.sq
      have e : (keyNs ds).map NestedKey.tup = some k := e
      obtain ⟨ks, e1, rfl⟩ := Option.map_eq_some_iff.mp e
      exact .tup ho hc hdat (by simpa using nested_all I ds _ its ks hd rv e1)
  | .list _, _, _, _, _, _, e => by cases e
  | .dict _, _, _, _, _, _, e => by cases e
theorem nested_all (I : Inv X pins σ H s) : ∀ (ds : List PyData) (vs : List V) (us : List Value) (ks : List NestedKey), DpAll X.K H vs ds → Vals vs us → keyNs ds = some ks → NestedAll s.heap ks us
  | [], _, _, _, h, r, e => by cases h; cases r; cases e; exact .nil
  | d :: ds, _, _, ks, h, r, e => by
    cases h with
    | cons h1 h2 =>
      cases r with
      | cons r1 r2 =>
        unfold keyNs at e
        split at e
        · rename_i k ks' e1 e2
          cases e
          exact .cons (nested_of I d _ _ _ h1 r1 e1) (nested_all I ds _ _ _ h2 r2 e2)
        · cases e
end
/-- a tuple's address -/
theorem key_ref {K : PySem.W.Frag} {F : Hp} {v : V} {d : PyData} (h : Dp K F v d) (hk : keyOk d = true) : ∃ b k, v = .ref b ∧ keyN d = some k ∧ k.depth ≤ 8 := by
  unfold keyOk at hk
  split at hk
  · rename_i ds k e
    cases h with
    | tup _ _ => exact ⟨_, k, rfl, e, of_decide_eq_true hk⟩
  · cases hk
end
/-! ### the object -/
abbrev EN := NestedKey × Addr × Value
/-- the object at a, as it stands -/
def exO (a : Addr) (ob : Obj) : HO := .ext fun h => h.get? a = some ob
structure DOb (P : Program) (w : World) (a : Addr) (ob : Obj) (xs : List EN) : Prop where
  lo : (a == sysModules) = false
  ex : ob.ExactDict
  len : xs.length ≤ sizeLine
  es : ∃ es ep, ob.data = .dict es ep ∧ es.toList = xs.map (entryOfKey (nestedKind P w))
  nd : (xs.map (·.1)).Nodup
def KyR (K : PySem.W.Frag) (F : Hp) : List (PyData × PyData) → List EN → Prop :=
  Paired fun p q => keyN p.1 = some q.1 ∧ q.1.depth ≤ 8 ∧ Dp K F (.ref q.2.1) p.1 ∧ ∃ y, RelV y q.2.2 ∧ Dp K F y p.2
theorem KyR.mono {K : PySem.W.Frag} {F F' : Hp} {kvs : List (PyData × PyData)} {xs : List EN} (h : ∀ a u, F a = some u → F' a = some u) (r : KyR K F kvs xs) : KyR K F' kvs xs :=
  Paired.mapP r fun p q ⟨h1, h2, h3, y, h4, h5⟩ => ⟨h1, h2, dp_mono h _ _ h3, y, h4, dp_mono h _ _ h5⟩
theorem exO_code {a : Addr} {ob : Obj} {es : Array DictEntry} {ep : Nat} (hd : ob.data = .dict es ep) (c : Addr) (q : Str) : exO a ob ≠ LamX.CodeO c q := fun z => by
  have e : (fun h : Heap => h.get? a = some ob) = fun h => ∃ (oc : Obj) (vs : Array Value) (t : Tok), h.get? c = some oc ∧ oc.data = .fields vs ∧ vs[1]? = some (.str q t) := HO.ext.inj z
  obtain ⟨cl, dd, dat, sl⟩ := ob
  have hd : dat = .dict es ep := hd
  subst hd
  obtain ⟨N, na, nc⟩ : ∃ N : Nat, a < N ∧ c < N := ⟨a + c + 1, Nat.lt_succ_of_le (Nat.le_add_right _ _), Nat.lt_succ_of_le (Nat.le_add_left _ _)⟩
  have g : ∀ b : Nat, b < N → (⟨Array.replicate N ⟨cl, dd, .dict es ep, sl⟩, {}⟩ : Heap).get? b = some ⟨cl, dd, .dict es ep, sl⟩ := fun b hb => by
    unfold Heap.get?
    have : (Array.replicate N (⟨cl, dd, .dict es ep, sl⟩ : Obj))[b]? = some ⟨cl, dd, .dict es ep, sl⟩ := by
      rw [Array.getElem?_replicate, if_pos hb]
    simp only [this]
  have h1 := (congrFun e (⟨Array.replicate N ⟨cl, dd, .dict es ep, sl⟩, {}⟩ : Heap)).mp (g a na)
  obtain ⟨oc, vs, t, h2, h3, _⟩ := h1
  rw [g c nc] at h2
  cases h2
  cases h3
def dctR (P : Program) (w : World) (kvs : List (PyData × PyData)) : OR where
  R := fun K F a o => ∃ ob xs, o = exO a ob ∧ DOb P w a ob xs ∧ KyR K F kvs xs
  mono := fun h ⟨ob, xs, e, d, r⟩ => ⟨ob, xs, e, d, r.mono h⟩
  nt := fun ps ⟨ob, xs, e, d, r⟩ z => by rw [e] at z; cases z
  nc := fun c q ⟨ob, xs, e, d, r⟩ z => by
    obtain ⟨es, ep, hd, _⟩ := d.es
    rw [e] at z
    exact exO_code hd c q z
/-! ### what a dict gives, how it is changed -/
def dGet (kvs : List (PyData × PyData)) (k : PyData) : Option PyData := (kvs.find? fun p => decide (keyN p.1 = keyN k)).map (·.2)
def dPut (kvs : List (PyData × PyData)) (k d : PyData) : List (PyData × PyData) :=
  if (dGet kvs k).isSome then kvs.map fun p => if keyN p.1 = keyN k then (p.1, d) else p else kvs ++ [(k, d)]
section
variable {K : PySem.W.Frag} {F : Hp}
theorem KyR.get {kvs : List (PyData × PyData)} {xs : List EN} (r : KyR K F kvs xs) {k : PyData} {nk : NestedKey} (hk : keyN k = some nk) :
    match dGet kvs k with
    | some d => ∃ p, atKey xs nk = some p ∧ ∃ y, RelV y p.2 ∧ Dp K F y d
    | none => atKey xs nk = none := by
  induction r with
  | nil => rfl
  | @cons p q ps qs h t ih =>
    obtain ⟨h1, h2, h3, y, h4, h5⟩ := h
    by_cases e : q.1 = nk
    · have e1 : dGet (p :: ps) k = some p.2 := by
        unfold dGet
        rw [List.find?_cons_of_pos (by rw [h1, hk, e]; exact decide_eq_true rfl)]
        rfl
      have e2 : atKey (q :: qs) nk = some q.2 := by
        unfold atKey
        rw [List.find?_cons_of_pos (by exact decide_eq_true e)]
        rfl
      rw [e1]
      exact ⟨q.2, e2, y, h4, h5⟩
    · have ne : ¬ keyN p.1 = keyN k := fun z => e (by rw [h1, hk] at z; exact Option.some.inj z)
      have e1 : dGet (p :: ps) k = dGet ps k := by
        unfold dGet
        rw [List.find?_cons_of_neg (by simpa using ne)]
      have e2 : atKey (q :: qs) nk = atKey qs nk := by
        unfold atKey
        rw [List.find?_cons_of_neg (by simpa using e)]
      rw [e1, e2]
      exact ih
theorem KyR.isSome {kvs : List (PyData × PyData)} {xs : List EN} (r : KyR K F kvs xs) {k : PyData} {nk : NestedKey} (hk : keyN k = some nk) : (atKey xs nk).isSome = (dGet kvs k).isSome := by
  have := r.get hk
  cases e : dGet kvs k with
  | none => rw [e] at this; rw [this]; rfl
  | some d => rw [e] at this; obtain ⟨p, h, _⟩ := this; rw [h]; rfl
theorem KyR.put {kvs : List (PyData × PyData)} {xs : List EN} (r : KyR K F kvs xs) {k d : PyData} {nk : NestedKey} (hk : keyN k = some nk) (h8 : nk.depth ≤ 8) {b : Addr} (hb : Dp K F (.ref b) k) {y : V} {u : Value} (ry : RelV y u) (hy : Dp K F y d) :
    KyR K F (dPut kvs k d) (storedH xs nk b u) := by
  unfold dPut storedH
  rw [r.isSome hk]
  split
  · rename_i hsome
    clear hsome hb
    unfold KyR at r ⊢
    induction r with
    | nil => exact .nil
    | @cons p q ps qs h t ih =>
      rw [List.map_cons, List.map_cons]
      refine .cons ?_ ih
      obtain ⟨h1, h2, h3, h4⟩ := h
      unfold putAt
      by_cases e : q.1 = nk
      · rw [if_pos (by rw [h1, hk, e]), if_pos e]
        exact ⟨h1, h2, h3, y, ry, hy⟩
      · rw [if_neg (fun z => e (by rw [h1, hk] at z; exact Option.some.inj z)), if_neg e]
        exact ⟨h1, h2, h3, h4⟩
  · exact Paired.snoc r ⟨hk, h8, hb, y, ry, hy⟩
theorem KyR.length {kvs : List (PyData × PyData)} {xs : List EN} (r : KyR K F kvs xs) : kvs.length = xs.length := Paired.length r
end
section
variable {X : Cx} {pins : List (Addr × Obj)} {σ : L2.St} {H : Hp} {s : Shared} {a : Addr} {ob : Obj} {xs : List EN} {kvs : List (PyData × PyData)}
/-- as the library says it -/
theorem dictH (I : Inv X pins σ H s) (h : H a = some (exO a ob)) (d : DOb X.prog X.w a ob xs) (r : KyR X.K H kvs xs) : s.heap.DictOfH (nestedKind X.prog X.w) a xs := by
  obtain ⟨ho, _, _⟩ := (show ObjOk X.prog X.w H s.heap a (exO a ob) from I.hok a _ h)
  obtain ⟨es, ep, h1, h2⟩ := d.es
  refine ⟨ob, es, ep, ho, d.ex, h1, h2, ?_, d.nd⟩
  have : ∀ {kvs : List (PyData × PyData)} {xs : List EN}, KyR X.K H kvs xs → ∀ x ∈ xs, (nestedKind X.prog X.w).is s.heap x.1 x.2.1 := by
    intro kvs xs r
    unfold KyR at r
    induction r with
    | nil => intro x hx; cases hx
    | @cons p q ps qs h t ih =>
      intro x hx
      rcases List.mem_cons.mp hx with e | hx
      · subst e
        exact ⟨nested_of I _ _ _ _ h.2.2.1 rfl h.1, h.2.1⟩
      · exact ih x hx
  exact this r
theorem dict_at (I : Inv X pins σ H s) (h : H a = some (exO a ob)) : s.heap.get? a = some ob := (show ObjOk X.prog X.w H s.heap a (exO a ob) from I.hok a _ h).1
theorem exO_ok {P : Program} {w : World} {H' : Hp} {h' : Heap} (ho : h'.get? a = some ob) : ObjOk P w H' h' a (exO a ob) := ⟨ho, ⟨_, ho⟩, fun _ _ e k => k _ e⟩
theorem dict_ty (I : Inv X pins σ H s) (h : H a = some (exO a ob)) (d : DOb X.prog X.w a ob xs) : s.TypeIs (.ref a) "dict" := ⟨ob, dict_at I h, d.ex.1⟩
end
theorem room9 {A : Around} (hu : A.units + 65 < cLine) : A.in1.units + 8 < cLine := by
  have : A.in1.units ≤ A.units + 1 := by first | exact Nat.le_refl _ | (unfold Around.in1; simp; omega)
  omega
end DL

set_option Elab.async false
set_option linter.all false
set_option maxRecDepth 100000
set_option maxHeartbeats 4000000
/-! set(xs) of nested keys, as a rule of calls -/
namespace NS
open PySem PySem.Spec PyProof.Rows L2 DL
/-- the set object, its members' own objects left out -/
def SetN0 (P : Program) (w : World) (h : Heap) (a : Addr) (L : List (Addr × NestedKey)) : Prop := ∃ (es : Array (Int × Value)) (ep : Nat) (t : SetTable), (∃ o, h.get? a = some o ∧ o.ExactSet ∧ o.data = .set es ep t) ∧ ∀ h2, (∃ o, h2.get? a = some o ∧ o.ExactSet ∧ o.data = .set es ep t) → (∀ p ∈ L, IsN h2 p.2 p.1) → SetN P w h2 a L es ep t
def SetNO (P : Program) (w : World) (a : Addr) (L : List (Addr × NestedKey)) : HO := .ext fun h => SetN0 P w h a L
theorem SetN.bare {P : Program} {w : World} {h : Heap} {a : Addr} {L : List (Addr × NestedKey)} {es : Array (Int × Value)} {ep : Nat} {t : SetTable} (R : SetN P w h a L es ep t) : SetN0 P w h a L := ⟨es, ep, t, R.ob, fun _ ho hk => ⟨ho, R.rows, R.tab, R.nd, hk, R.plain, R.led, R.room, R.msk⟩⟩
theorem setNO_new {P : Program} {w : World} {H : Hp} {h : Heap} {a : Addr} {L : List (Addr × NestedKey)} (R : SetN0 P w h a L) : ObjOk P w H h a (SetNO P w a L) := by
  obtain ⟨es, ep, t, ⟨o, ho, r⟩, q⟩ := id R
  refine ⟨R, ⟨o, ho⟩, fun h1 h2 p k => ?_⟩
  obtain ⟨es2, ep2, t2, ⟨o2, ho2, r2⟩, q2⟩ := (show SetN0 P w h1 a L from p)
  exact ⟨es2, ep2, t2, ⟨o2, k o2 ho2, r2⟩, q2⟩
/-- a place that holds a small key without texts -/
structure KeyAt (K : PySem.W.Frag) (H : Hp) (p : Addr × NestedKey) : Prop where
  data : ∃ d, DL.Dp K H (.ref p.1) d ∧ keyN d = some p.2
  deep : p.2.depth ≤ 8
  plain : plainK p.2 = true
section
variable {X : Cx}
theorem KeyAt.isN {pins : List (Addr × Obj)} {σ : L2.St} {H : Hp} {s : Shared} (I : Inv X pins σ H s) {p : Addr × NestedKey} (k : KeyAt X.K H p) : IsN s.heap p.2 p.1 := by
  obtain ⟨d, hd, hk⟩ := k.data
  exact ⟨nested_of I d _ _ _ hd rfl hk, k.deep, k.plain⟩
theorem refs_nested : ∀ {ks : List (Addr × NestedKey)} {us : List Value}, Vals (ks.map fun p => V.ref p.1) us → us = ks.map fun p => Value.ref p.1
  | [], _, .nil => rfl
  | p :: ks, _, .cons r t => by
    cases r
    rw [refs_nested t]
    rfl
def rSetN (K : PySem.W.Frag) (P : Program) (w : World) : List V → Hp → VK → Prop := fun xs H Q => ∃ (l : Addr) (ks : List (Addr × NestedKey)), xs = [V.ref l] ∧ SqL K H l (ks.map fun p => V.ref p.1) ∧ (∀ p ∈ ks, KeyAt K H p) ∧ ks.length ≤ 300 ∧
  ∀ a L, H a = none → (∀ p ∈ L, p ∈ ks) → (∀ p ∈ ks, p.2 ∈ L.map (·.2)) → (L.map (·.2)).Nodup → L.length ≤ ks.length → Q (.ref a) (upd H a (SetNO P w a L))
theorem cr_setN (hc : X.calm = true) (hu : X.A.units + 64 < cLine) : CallR X (.type "set") (rSetN X.K X.prog X.w) := by
  intro pins s σ H xs us Q I r h
  obtain ⟨l, ks, rfl, hl, hk, hf, q⟩ := h
  rw [Vals.ref1 r]
  obtain ⟨its, rv, pl, hz⟩ := I.list hl
  have fresh : H s.heap.objs.size = none := I.hok.fresh (Nat.le_refl _)
  refine call_setN (P := X.prog) (w := X.w) ks (I.ok.hd hc) pl.isList (by simpa using refs_nested rv) (fun p hp => (hk p hp).isN I) hf (by omega) fun h' tk L es ep t R g k => ?_
  exact ⟨.ref s.heap.objs.size, upd H s.heap.objs.size (SetNO X.prog X.w s.heap.objs.size L), I.laid (t' := tk) k (Nat.le_refl _) (setNO_new R.bare), rfl, q _ L fresh (fun p hp => List.mem_of_mem_take (g.of p hp)) (fun p hp => g.got p (by rw [List.take_length]; exact hp)) R.nd g.few⟩
end
end NS

set_option Elab.async false
set_option linter.all false
set_option maxRecDepth 100000
set_option maxHeartbeats 4000000
/-! dicts of one's own: rules -/
namespace DL
open PySem PySem.Spec PyProof.Rows L2
structure XG (K : PySem.W.Frag) (P : Program) (w : World) (F H : Hp) (a : Addr) (kvs : List (PyData × PyData)) : Prop where
  sub : ∀ b o, F b = some o → H b = some o
  ex : ∃ ob xs, H a = some (exO a ob) ∧ DOb P w a ob xs ∧ KyR K F kvs xs
structure XKy (K : PySem.W.Frag) (F : Hp) (y : V) (k : PyData) : Prop where
  key : ∃ b nk, y = .ref b ∧ Dp K F y k ∧ keyN k = some nk ∧ nk.depth ≤ 8
section
variable {X : Cx} {pins : List (Addr × Obj)} {σ : L2.St} {F H : Hp} {s : Shared} {a : Addr} {y v : V} {u r : Value} {kvs : List (PyData × PyData)} {k d : PyData} {A : Around} {E : Value → Shared → Prop}
theorem x_get {Q : Value → Shared → Prop} (hu : A.units + 65 < cLine) (I : Inv X pins σ H s) (g : XG X.K X.prog X.w F H a kvs) (gk : XKy X.K F y k) (ry : RelV y u) (hd : dGet kvs k = some d)
    (h : ∀ v u' s', Inv X pins σ H s' → RelV v u' → Dp X.K F v d → Q u' s') : wpAny (model X.prog X.w) A (getItem (.ref a) u) Q E s := by
  obtain ⟨ob, xs, ha, hD, hr⟩ := g.ex
  obtain ⟨b, nk, rfl, hb, hk, h8⟩ := gk.key
  cases ry
  have q := hr.get hk
  rw [hd] at q
  obtain ⟨p, hp, y, hy, dy⟩ := q
  exact wpAny_getItem_heap (knd := nestedKind X.prog X.w) (room9 hu) ⟨nested_of I _ _ _ _ (dp_mono g.sub _ _ hb) rfl hk, h8⟩ (dictH I ha hD (hr.mono g.sub)) hp (h y p.2 _ (I.tok _) hy dy)
theorem x_in {Q : Value → Shared → Prop} (hu : A.units + 65 < cLine) (I : Inv X pins σ H s) (g : XG X.K X.prog X.w F H a kvs) (gk : XKy X.K F y k) (ry : RelV y u)
    (h : ∀ s', Inv X pins σ H s' → Q (.bool (dGet kvs k).isSome) s') : wpAny (model X.prog X.w) A (compareOp .In u (.ref a)) Q E s := by
  obtain ⟨ob, xs, ha, hD, hr⟩ := g.ex
  obtain ⟨b, nk, rfl, hb, hk, h8⟩ := gk.key
  cases ry
  refine wpAny_in_heap (knd := nestedKind X.prog X.w) (room9 hu) ⟨nested_of I _ _ _ _ (dp_mono g.sub _ _ hb) rfl hk, h8⟩ hD.lo (dictH I ha hD (hr.mono g.sub)) ?_
  rw [hr.isSome hk]
  exact h _ (I.tok _)
theorem x_notin {Q : Value → Shared → Prop} (hu : A.units + 65 < cLine) (I : Inv X pins σ H s) (g : XG X.K X.prog X.w F H a kvs) (gk : XKy X.K F y k) (ry : RelV y u)
    (h : ∀ s', Inv X pins σ H s' → Q (.bool (!(dGet kvs k).isSome)) s') : wpAny (model X.prog X.w) A (compareOp .NotIn u (.ref a)) Q E s := by
  obtain ⟨ob, xs, ha, hD, hr⟩ := g.ex
  obtain ⟨b, nk, rfl, hb, hk, h8⟩ := gk.key
  cases ry
  refine wpAny_notIn_heap (knd := nestedKind X.prog X.w) (room9 hu) ⟨nested_of I _ _ _ _ (dp_mono g.sub _ _ hb) rfl hk, h8⟩ hD.lo (dictH I ha hD (hr.mono g.sub)) ?_
  rw [hr.isSome hk]
  exact h _ (I.tok _)
theorem dPut_len (kvs : List (PyData × PyData)) (k d : PyData) : (dPut kvs k d).length ≤ kvs.length + 1 := by
  unfold dPut
  split <;> simp
theorem x_set {Q : Unit → Shared → Prop} (hu : A.units + 65 < cLine) (I : Inv X pins σ H s) (g : XG X.K X.prog X.w F H a kvs) (gk : XKy X.K F y k) (ry : RelV y u) (rv : RelV v r) (hv : Dp X.K F v d) (hl : kvs.length < sizeLine)
    (h : ∀ o' s', (dctR X.prog X.w (dPut kvs k d)).R X.K F a o' → Inv X pins σ (upd H a o') s' → Q () s') : wpAny (model X.prog X.w) A (setItem (.ref a) u r) Q E s := by
  obtain ⟨ob, xs, ha, hD, hr⟩ := g.ex
  obtain ⟨b, nk, rfl, hb, hk, h8⟩ := gk.key
  cases ry
  have el := hr.length
  refine wpAny_setItem_heap (hsz := hD.len) (knd := nestedKind X.prog X.w) (room9 hu) ⟨nested_of I _ _ _ _ (dp_mono g.sub _ _ hb) rfl hk, h8⟩ (dictH I ha hD (hr.mono g.sub)) fun h' dd' hs => ?_
  obtain ⟨q, es, ep, hq, h2, h3, h4, _, h5⟩ := dd'
  refine h (exO a q) _ ⟨q, _, rfl, ⟨hD.lo, h2, ?_, ⟨es, ep, h3, h4⟩, h5⟩, hr.put hk h8 hb rv hv⟩ (d_write I (by rw [ha]; exact True.intro) hs ⟨q, hq⟩ (exO_ok hq))
  have := (hr.put hk h8 hb rv hv).length
  have := dPut_len kvs k d
  omega
end
/-! ### expressions, statements -/
def tXGet (K : PySem.W.Frag) (P : Program) (w : World) (td ty : TE) : TE := fun σ H Q => td σ H fun x H1 => ty σ H1 fun y H2 => ∃ F a kvs k d, x = .ref a ∧ XG K P w F H2 a kvs ∧ XKy K F y k ∧ dGet kvs k = some d ∧ ∀ v, Dp K F v d → Q v H2
def tXIn (K : PySem.W.Frag) (P : Program) (w : World) (neg : Bool) (ty td : TE) : TE := fun σ H Q => ty σ H fun y H1 => td σ H1 fun x H2 => ∃ F a kvs k, x = .ref a ∧ XG K P w F H2 a kvs ∧ XKy K F y k ∧ Q (.bl (neg != (dGet kvs k).isSome)) H2
def sXPut (K : PySem.W.Frag) (P : Program) (w : World) (td ty tv : TE) : TS := fun D σ H => tv σ H fun v H1 => td σ H1 fun x H2 => ty σ H2 fun y H3 => ∃ F a kvs k d, x = .ref a ∧ XG K P w F H3 a kvs ∧ XKy K F y k ∧ Dp K F v d ∧ kvs.length < sizeLine ∧
  ∀ o', (dctR P w (dPut kvs k d)).R K F a o' → D.nx σ (upd H3 a o')
theorem xg_ty {X : Cx} {pins : List (Addr × Obj)} {σ : L2.St} {F H : Hp} {s : Shared} {a : Addr} {kvs : List (PyData × PyData)} (I : Inv X pins σ H s) (g : XG X.K X.prog X.w F H a kvs) : s.TypeIs (.ref a) "dict" := by
  obtain ⟨ob, xs, ha, hD, hr⟩ := g.ex
  exact dict_ty I ha hD
section
variable {X : Cx} {o i value : Expr} {pos pos' : Pos} {td ty tv : TE}
theorem pe_xget (hu : X.A.units + 65 < cLine) (ho : PE X o td) (hi : PE X i ty) (hs : NoSl i) : PE X (.Subscript o i pos) (tXGet X.K X.prog X.w td ty) := by
  refine ⟨fun pins s σ H Q I h => ?_⟩
  refine subD_of PySem.F.slot_dict_getitem.lookup hs (thn (ho.run pins s σ H _ I h) fun u s1 ⟨x, H1, I1, rx, q1⟩ => thn (hi.run pins s1 σ H1 _ I1 q1) fun iv s2 ⟨y, H2, I2, ry, F, a, kvs, k, d, ex, g, gk, hd, q2⟩ => ?_)
  subst ex
  obtain rfl : u = Value.ref a := rx
  exact ⟨xg_ty I2 g, x_get hu I2 g gk ry hd fun v u' s3 I3 rv dv => ⟨v, H2, I3, rv, q2 v dv⟩⟩
theorem pc_xin (hu : X.A.units + 65 < cLine) (hi : PE X i ty) (ho : PE X o td) : PC X .In i o (tXIn X.K X.prog X.w false ty td) := by
  refine ⟨fun pins s σ H Q I h => ?_⟩
  refine thn (hi.run pins s σ H _ I h) fun iv s1 ⟨y, H1, I1, ry, q1⟩ => thn (ho.run pins s1 σ H1 _ I1 q1) fun u s2 ⟨x, H2, I2, rx, F, a, kvs, k, ex, g, gk, q2⟩ => ?_
  subst ex
  obtain rfl : u = Value.ref a := rx
  rw [show (false != (dGet kvs k).isSome) = (dGet kvs k).isSome from by cases (dGet kvs k).isSome <;> rfl] at q2
  exact x_in hu I2 g gk ry fun s3 I3 => ⟨.bl _, H2, I3, rfl, q2⟩
theorem pc_xnotin (hu : X.A.units + 65 < cLine) (hi : PE X i ty) (ho : PE X o td) : PC X .NotIn i o (tXIn X.K X.prog X.w true ty td) := by
  refine ⟨fun pins s σ H Q I h => ?_⟩
  refine thn (hi.run pins s σ H _ I h) fun iv s1 ⟨y, H1, I1, ry, q1⟩ => thn (ho.run pins s1 σ H1 _ I1 q1) fun u s2 ⟨x, H2, I2, rx, F, a, kvs, k, ex, g, gk, q2⟩ => ?_
  subst ex
  obtain rfl : u = Value.ref a := rx
  rw [show (true != (dGet kvs k).isSome) = !(dGet kvs k).isSome from by cases (dGet kvs k).isSome <;> rfl] at q2
  exact x_notin hu I2 g gk ry fun s3 I3 => ⟨.bl _, H2, I3, rfl, q2⟩
theorem ps_xput (hu : X.A.units + 65 < cLine) (ho : PE X o td) (hi : PE X i ty) (hv : PE X value tv) (hs : swapsWith value (some (.Subscript o i pos')) pos.line X.env = pure false) :
    PS X (.Assign [.Subscript o i pos'] value pos) (sXPut X.K X.prog X.w td ty tv) := by
  refine ⟨fun pins s σ H D I h => ?_⟩
  refine wpAny_Assign_Subscript (thn (hv.run pins s σ H _ I h) fun r s1 ⟨v, H1, I1, rv, q1⟩ => thn (ho.run pins s1 σ H1 _ I1 q1) fun u s2 ⟨x, H2, I2, rx, q2⟩ => thn (hi.run pins s2 σ H2 _ I2 q2) fun iv s3 ⟨y, H3, I3, ry, F, a, kvs, k, d, ex, g, gk, hvd, hl, q3⟩ => ?_) hs
  subst ex
  obtain rfl : u = Value.ref a := rx
  exact x_set hu I3 g gk ry rv hvd hl fun o' s4 hR I4 => ⟨σ, upd H3 a o', I4, q3 o' hR⟩
/-! {}, {k: v} -/
theorem new_dob {P : Program} {w : World} {s : Shared} (hb : sysModules < s.heap.objs.size) : DOb P w s.heap.objs.size { cls := .type "dict", data := .dict #[] } [] :=
  ⟨beq_eq_false_iff_ne.mpr (Ne.symm (Nat.ne_of_lt hb)), ⟨rfl, rfl, rfl⟩, Nat.zero_le _, ⟨#[], 0, rfl, rfl⟩, List.nodup_nil⟩
theorem pe_xnew : PE X (.Dict [] [] pos) (fun _ H Q => ∀ p o, H p = none → (∀ F, (dctR X.prog X.w []).R X.K F p o) → Q (.ref p) (upd H p o)) := ⟨fun pins s σ H Q I h =>
  wpAny_Dict_empty ⟨.ref s.heap.objs.size, _, I.laid (a := s.heap.objs.size) (o := exO s.heap.objs.size { cls := .type "dict", data := .dict #[] }) (t' := s.toks) (fun _ _ q => Heap.get?_push_of_some _ q) (Nat.le_refl _) (exO_ok (Heap.get?_push_size _ rfl)), rfl,
    h _ _ (I.hok.fresh (Nat.le_refl _)) fun F => ⟨_, [], rfl, new_dob I.big, .nil⟩⟩⟩
/-- the new dict stands empty while the pair is made -/
def tXDisp (K : PySem.W.Frag) (P : Program) (w : World) (tk tv : TE) : TE := fun σ H Q => ∀ p o, H p = none → (∀ F, (dctR P w []).R K F p o) → tk σ (upd H p o) fun y H1 => tv σ H1 fun v H2 => ∃ F k d, (∀ b u, F b = some u → H2 b = some u) ∧ H2 p = some o ∧ XKy K F y k ∧ Dp K F v d ∧
  ∀ o', (dctR P w [(k, d)]).R K F p o' → Q (.ref p) (upd H2 p o')
theorem pe_xdisp {k v : Expr} {tk tv : TE} (hu : X.A.units + 65 < cLine) (hk : PE X k tk) (hv : PE X v tv) : PE X (.Dict [some k] [v] pos) (tXDisp X.K X.prog X.w tk tv) := by
  refine ⟨fun pins s σ H Q I q => ?_⟩
  have hn := I.hok.fresh (Nat.le_refl s.heap.objs.size)
  have I1 := I.laid (a := s.heap.objs.size) (o := exO s.heap.objs.size { cls := .type "dict", data := .dict #[] }) (h' := s.heap.push { cls := .type "dict", data := .dict #[] }) (t' := s.toks) (fun _ _ q => Heap.get?_push_of_some _ q) (Nat.le_refl _) (exO_ok (Heap.get?_push_size _ rfl))
  have q1 := q _ _ hn fun F => ⟨_, [], rfl, new_dob I.big, .nil⟩
  have hshape := zip_pairTrees [some k] [v] X.env pos rfl rfl
  rw [arm_eval_Dict, hshape, dictDisplay_pairs _ (by intro z; cases z) (by show 1 < 17; decide)]
  refine wpAny_bind (wpAny_standAt (wpAny_bind (wpAny_subDictH (knd := nestedKind X.prog X.w) (by show X.A.units + 8 < cLine; omega) (by show 1 ≤ 15; decide) ?_)))
  refine pairTrees_cons_walk (thn (hk.run pins _ σ _ _ I1 q1) fun u s1 ⟨y, H1, I1, ry, q1⟩ => thn (hv.run pins s1 σ H1 _ I1 q1) fun r s2 ⟨x, H2, I2, rx, F, kd, d, sub, ho, gk, hd, q2⟩ => pairTrees_nil_walk ?_)
  obtain ⟨b, nk, rfl, hb, hkn, h8⟩ := gk.key
  cases ry
  refine ⟨[(nk, b, r)], ⟨rfl, rfl, ⟨nested_of I2 _ _ _ _ (dp_mono sub _ _ hb) rfl hkn, h8⟩, trivial⟩, dictH (kvs := []) I2 ho (new_dob I.big) .nil, fun h' tk dd' hs => wpAny_pure ?_⟩
  obtain ⟨ob, es, ep, hq, h2, h3, h4, _, h5⟩ := dd'
  exact ⟨.ref s.heap.objs.size, upd H2 s.heap.objs.size (exO s.heap.objs.size ob), d_write I2 (by rw [ho]; exact True.intro) hs ⟨ob, hq⟩ (exO_ok hq), rfl,
    q2 _ ⟨ob, _, rfl, ⟨(new_dob (P := X.prog) (w := X.w) (s := s) I.big).lo, h2, by show 1 ≤ sizeLine; decide, ⟨es, ep, h3, h4⟩, h5⟩, .cons ⟨hkn, h8, hb, x, rx, hd⟩ .nil⟩⟩
end
end DL

set_option Elab.async false
set_option linter.all false
set_option maxRecDepth 100000
set_option maxHeartbeats 4000000
/-! dicts of one's own: sorted(d), list(d), a walk over d -/
namespace DL
open PySem PySem.Spec PyProof.Rows L2
section
variable {X : Cx} {pins : List (Addr × Obj)} {σ : L2.St} {H : Hp} {s : Shared}
/-- the keys' own tuples -/
theorem keys_dp {K : PySem.W.Frag} {F : Hp} : ∀ {kvs : List (PyData × PyData)} {xs : List EN}, KyR K F kvs xs → DpAll K F (xs.map fun x => V.ref x.2.1) (kvs.map (·.1))
  | _, _, .nil => .nil
  | _, _, .cons h t => .cons h.2.2.1 (keys_dp t)
def rXKeys (K : PySem.W.Frag) (P : Program) (w : World) (G : List PyData → Bool) (f : List PyData → List PyData) : List V → Hp → VK → Prop := fun vs H Q => ∃ F a kvs, vs = [V.ref a] ∧ XG K P w F H a kvs ∧ G (kvs.map (·.1)) = true ∧
  ∀ ws p, DpAll K F ws (f (kvs.map (·.1))) → H p = none → Q (.ref p) (upd H p (.lst ws))
theorem cr_listX (hc : X.calm = true) : CallR X (.type "list") (rXKeys X.K X.prog X.w (fun _ => true) fun ds => ds) := by
  intro pins s σ H xs us Q I r h
  obtain ⟨F, d, kvs, rfl, g, _, q⟩ := h
  obtain ⟨ob, ks, ha, hD, pr⟩ := g.ex
  obtain ⟨u, rfl, rx⟩ := r.one
  cases rx
  obtain ⟨es, ep, hdt, he⟩ := hD.es
  have l1 : es.size = ks.length := size_of_entries he
  refine PySem.W.kdl_call (kdl_raw hD.lo hD.ex hdt) (I.ok.hd hc) (dict_at I ha) (by rw [l1]; exact hD.len) fun h' tk acc' c' kp e it => ?_
  have ea : acc'.toList = ks.map fun x => Value.ref x.2.1 := by
    have hl : acc'.toList.length = ks.length := by rw [Array.length_toList, it.1]; exact l1
    apply List.ext_getElem?
    intro j
    rw [List.getElem?_map]
    cases hj : acc'.toList[j]? with
    | none =>
      have h1 := List.getElem?_eq_none_iff.mp hj
      rw [List.getElem?_eq_none (by omega)]
      rfl
    | some v =>
      obtain ⟨en, hen, hv⟩ := it.2 j v (by rw [← Array.getElem?_toList]; exact hj)
      have qe := entry_at he j
      rw [hen] at qe
      cases hb : ks[j]? with
      | none => rw [hb] at qe; exact nomatch (show some en = none from qe)
      | some b =>
        rw [hb] at qe
        have e2 : en = entryOfKey (nestedKind X.prog X.w) b := Option.some.inj qe
        rw [hv, e2]
        rfl
  have eb : acc'.toList = (ks.map fun x => x.2.1).map Value.ref := by rw [ea, List.map_map]; rfl
  have rv : Vals (ks.map fun x => V.ref x.2.1) acc'.toList := by
    rw [eb, show (ks.map fun x => V.ref x.2.1) = (ks.map fun x => x.2.1).map V.ref by rw [List.map_map]; rfl]
    exact vals_refs _
  have hz : (ks.map fun x => V.ref x.2.1).length ≤ sizeLine := by rw [List.length_map]; exact hD.len
  exact ⟨.ref s.heap.objs.size, _, I.laid (t' := tk) (o := .lst (ks.map fun x => V.ref x.2.1)) kp (Nat.le_refl _) ⟨hz, acc'.toList, c', rv, by rw [Array.toArray_toList]; exact e⟩, rfl, q _ _ (keys_dp pr) (I.hok.fresh (Nat.le_refl _))⟩
theorem cr_sortedX (hc : X.calm = true) (hu : X.A.units + 65 < cLine) : CallR X (.builtin "sorted") (rXKeys X.K X.prog X.w sortable sortD) := by
  intro pins s σ H xs us Q I r h
  obtain ⟨F, d, kvs, rfl, g, hk, q⟩ := h
  obtain ⟨ob, ks, ha, hD, pr⟩ := g.ex
  obtain ⟨u, rfl, rx⟩ := r.one
  cases rx
  obtain ⟨es, ep, hdt, he⟩ := hD.es
  have l1 : es.size = ks.length := size_of_entries he
  obtain ⟨k1, k2, k3, k4⟩ := sortable_iff hk
  have l2 : (kvs.map (·.1)).length = ks.length := by rw [List.length_map]; exact pr.length
  refine Calls.call_function_entry PyProof.Rows.kind_sorted PyProof.Rows.plain_sorted PyProof.Rows.entry_sorted (PyProof.Rows.args_sorted1 _) ?_
  unfold Builtin.«sorted»
  refine wpAny_bind (m := checkCount "sorted" 1 1 _) (wpAny_pure ?_)
  refine wpAny_bind (PySem.W.kdu_collect (A := X.A.in1) (kdl_raw hD.lo hD.ex hdt) (I.ok.hd hc) (dict_at I ha) (by rw [l1]; exact hD.len) fun h' tk acc' kp it => ?_)
  have ea : acc'.toList = ks.map fun x => Value.ref x.2.1 := by
    have hl : acc'.toList.length = ks.length := by rw [Array.length_toList, it.1]; exact l1
    apply List.ext_getElem?
    intro j
    rw [List.getElem?_map]
    cases hj : acc'.toList[j]? with
    | none =>
      have h1 := List.getElem?_eq_none_iff.mp hj
      rw [List.getElem?_eq_none (by omega)]
      rfl
    | some v =>
      obtain ⟨en, hen, hv⟩ := it.2 j v (by rw [← Array.getElem?_toList]; exact hj)
      have qe := entry_at he j
      rw [hen] at qe
      cases hb : ks[j]? with
      | none => rw [hb] at qe; exact nomatch (show some en = none from qe)
      | some b =>
        rw [hb] at qe
        have e2 : en = entryOfKey (nestedKind X.prog X.w) b := Option.some.inj qe
        rw [hv, e2]
        rfl
  have eb : acc'.toList = (ks.map fun x => x.2.1).map Value.ref := by rw [ea, List.map_map]; rfl
  have rv : Vals (ks.map fun x => V.ref x.2.1) acc'.toList := by
    rw [eb, show (ks.map fun x => V.ref x.2.1) = (ks.map fun x => x.2.1).map V.ref by rw [List.map_map]; rfl]
    exact vals_refs _
  have hal : acc'.toList.length = ks.length := by rw [ea, List.length_map]
  have I1 : Inv X pins σ H { s with heap := h', toks := tk } := I.kept kp
  refine wpAny_bind (wpAny_newList ?_ (by rw [hal]; exact hD.len))
  have hoL : (h'.push (seqObj "list" acc'.toList.toArray 0)).get? h'.objs.size = some (seqObj "list" acc'.toList.toArray 0) := Heap.get?_push_size _ rfl
  show wpAny _ _ _ _ _ { s with heap := h'.push (seqObj "list" acc'.toList.toArray 0), toks := tk }
  have er : PySem.W.EachIs (RV (Dp X.K F)) acc'.toList (kvs.map (·.1)) := each_of rv (dpAll_paired (keys_dp pr))
  have er1 := each_reads I1 (P := Dp X.K F) (fun x d z => (dp_mono g.sub _ _ z).low) er
  have mp : (kvs.map (·.1)).map (fun d : PyData => d) = kvs.map (·.1) := List.map_id _
  refine wpAny_bind (wpAny_holding (list_sort_dataX (s := { s with heap := h'.push (seqObj "list" acc'.toList.toArray 0), toks := tk }) (enc := fun d => d) hoL er
    (er1.mono fun v d ⟨as, z⟩ => ⟨as, PyProof.Rows.Reads.keeps (fun b o e => Heap.get?_push_of_some _ e) z, fun hm => ?_⟩) (by rw [mp]; exact k1) (by rw [mp]; exact k2) k4 (fun b hb => by have := k3 b hb; show X.A.in1.units + 1 + b.depth < cLine; have h2 := room9 hu; have : X.A.in1.units ≤ X.A.units + 1 := (by first | exact Nat.le_refl _ | (unfold Around.in1; simp; omega)); omega) fun out hlen eo => ?_))
  · obtain ⟨ws, r2, p2⟩ := each_back eo
    obtain ⟨e', he'⟩ := PyProof.Rows.sortedHeap_at (vs := acc'.toList) (out := out.toArray) hoL
    have hsz : ws.length ≤ sizeLine := by rw [r2.length, hlen, l2]; exact hD.len
    refine wpAny_pure ⟨_, rfl, .ref h'.objs.size, upd H h'.objs.size (.lst ws), I1.laid (t' := tk) (fun b u e => ?_) (Nat.le_refl _) ⟨hsz, out, e', r2, he'⟩, rfl, q ws _ (paired_dpAll p2) (I1.hok.fresh (Nat.le_refl _))⟩
    have hb : b < h'.objs.size := Heap.lt_size e
    rw [PyProof.Rows.sortedHeap_old (Nat.ne_of_lt hb) (by rw [size_push']; exact Nat.lt_succ_of_lt hb)]
    exact Heap.get?_push_of_some _ e
  · obtain ⟨o, ho⟩ := PyProof.On.reads_mem_get z _ hm
    exact absurd (Heap.lt_size ho) (Nat.lt_irrefl _)
end
/-! ### a walk over the keys -/
def Itx (d : Addr) (ob : Obj) (bs : List Addr) : It :=
  ⟨fun i H => H d = some (exO d ob) ∧ i < bs.length, fun i H x H' => H' = H ∧ ∃ q, bs[i]? = some q ∧ x = .ref q, fun i H => H d = some (exO d ob) ∧ bs.length ≤ i⟩
theorem turn_x {P : Program} {w : World} {K : PySem.W.Frag} {tg : Expr} {d : Addr} {ob : Obj} {xs : List EN} {es : Array DictEntry} {ep : Nat} (D : DOb P w d ob xs) (hdt : ob.data = .dict es ep) (he : es.toList = xs.map (entryOfKey (nestedKind P w))) (it : Addr) :
    Turn P w K tg (Itx d ob (xs.map fun x => x.2.1)) [it] it (fun i h => h.IsKeyIter it d i es.size ep) where
  mem := by simp
  obj := fun i h st b hb => by
    have e : b = it := by simpa using hb
    subst e
    obtain ⟨oi, e, c, dd⟩ := st
    exact ⟨oi, e, fun v z => by rw [dd] at z; cases z⟩
  keep := fun i h h' st k => st.at fun oi e => k it (by simp) oi e
  item := by
    intro X hP hw hK hc i pins s σ H E I hf st hg
    subst hP hw hK
    obtain ⟨hd, hi⟩ := hg
    obtain ⟨f0, f1, f2, f3, f4, f5⟩ := hf it (by simp)
    rw [List.length_map] at hi
    have hx : xs[i]? = some xs[i] := List.getElem?_eq_getElem hi
    have qe := entry_at he i
    rw [hx] at qe
    refine next_key_item st (dict_at I hd) hdt rfl qe fun h' st' sb => ?_
    have I1 : Inv X pins σ H { s with heap := h' } := I.turned (t' := s.toks) (fun b ob hb e => (sb.2 b hb).trans e) f0 f1 f3 f4 f5
    obtain ⟨oi, e, c, dd⟩ := id st'
    exact ⟨_, rfl, go_of (s := { s with heap := h' }) e c dd (by decide) ⟨.ref xs[i].2.1, H, I1, rfl, ⟨rfl, _, by rw [List.getElem?_map, hx]; rfl, rfl⟩, st', fun b hb => (hf b hb).1⟩⟩
  done := by
    intro X hP hw hK hc i pins s σ H E I hf st hg
    subst hP hw hK
    obtain ⟨hd, hi⟩ := hg
    obtain ⟨f0, f1, f2, f3, f4, f5⟩ := hf it (by simp)
    rw [List.length_map] at hi
    exact next_key_end (I.ok.hd hc) st (dict_at I hd) hdt rfl (by rw [size_of_entries he]; exact hi) fun h' eb => ⟨rfl, I.turned (t' := s.toks) (fun b ob hb e => eb b ob hb e) f0 f1 f3 f4 f5⟩
  self := fun A i s Q E st h => by
    refine wpAny_pyIter_slot st.typeIs F.slot_dict_keyiterator_iter (wpAny_call_entry F.slot_dict_keyiterator_iter st.typeIs F.entry_dict_keyiterator_iter ?_ (F.args_dict_keyiterator_iter_1 _))
    show wpAny _ _ (ret (.ref it)) _ _ s
    exact wpAny_pure ⟨_, rfl, "dict_keyiterator", _, st.typeIs, F.slot_dict_keyiterator_next.lookup, h⟩
def iXKeys (K : PySem.W.Frag) (P : Program) (w : World) (td : TE) : TI := fun σ H R => td σ H fun x H1 => ∃ d ob xs, x = .ref d ∧ H1 d = some (exO d ob) ∧ DOb P w d ob xs ∧ R (Itx d ob (xs.map fun x => x.2.1)) H1
theorem pi_x {X : Cx} {tg e : Expr} {td : TE} (he : PE X e td) : PI X tg e (iXKeys X.K X.prog X.w td) := by
  refine ⟨fun pins s σ H R I h => ?_⟩
  refine thn (he.run pins s σ H _ I h) fun u s1 ⟨x, H1, I1, rx, d, ob, xs, ex, hd, hD, q⟩ => ?_
  subst ex
  obtain rfl : u = Value.ref d := rx
  obtain ⟨es, ep, hdt, hes⟩ := hD.es
  exact iter_keys hD.lo (dict_at I1 hd) hD.ex hdt (pi_one (tk := s1.toks) I1 _ (turn_x hD hdt hes _) ⟨_, Heap.get?_push_size _ rfl, rfl, rfl⟩ q)
end DL

set_option Elab.async false
set_option linter.all false
set_option maxRecDepth 100000
set_option maxHeartbeats 4000000
/-! sorted(a set of nested keys) -/
namespace NS
open PySem PySem.Spec PyProof.Rows L2 DL
theorem perm_back {α β : Type} {f : α → β} {m n : List β} (h : m.Perm n) : ∀ {L : List α}, n = L.map f → ∃ L1 : List α, L1.Perm L ∧ m = L1.map f := by
  induction h with
  | nil => intro L e; exact ⟨L, .refl L, e⟩
  | cons x _ ih =>
    intro L e
    cases L with
    | nil => exact nomatch e
    | cons y L =>
      injection e with e1 e2
      obtain ⟨L1, p, q⟩ := ih e2
      exact ⟨y :: L1, p.cons y, by rw [List.map_cons, e1, q]⟩
  | swap x y l =>
    intro L e
    match L, e with
    | a :: b :: L, e =>
      injection e with e1 e2
      injection e2 with e2 e3
      exact ⟨b :: a :: L, .swap a b L, by rw [List.map_cons, List.map_cons, e1, e2, e3]⟩
  | trans _ _ ih1 ih2 =>
    intro L e
    obtain ⟨L2, p2, q2⟩ := ih2 e
    obtain ⟨L1, p1, q1⟩ := ih1 q2
    exact ⟨L1, p1.trans p2, q1⟩
section
variable {X : Cx}
def rSortN (K : PySem.W.Frag) (P : Program) (w : World) : List V → Hp → VK → Prop := fun vs H Q => ∃ (a : Addr) (L : List (Addr × NestedKey)) (F : Hp) (f : Addr × NestedKey → PyData), vs = [V.ref a] ∧ H a = some (SetNO P w a L) ∧ (∀ p ∈ L, KeyAt K H p) ∧ L.length ≤ 300 ∧
  (∀ b o, F b = some o → H b = some o) ∧ (∀ p ∈ L, DL.Dp K F (.ref p.1) (f p)) ∧ (∀ L1 : List (Addr × NestedKey), L1.Perm L → sortable (L1.map f) = true) ∧
  ∀ (L1 : List (Addr × NestedKey)) (ws : List V) (p : Addr), L1.Perm L → DL.DpAll K F ws (sortD (L1.map f)) → H p = none → Q (.ref p) (upd H p (.lst ws))
theorem cr_sortedN (hc : X.calm = true) (hu : X.A.units + 65 < cLine) : CallR X (.builtin "sorted") (rSortN X.K X.prog X.w) := by
  intro pins s σ H vs us Q I r h
  obtain ⟨a, L, F, f, rfl, ha, hk, few, sub, hd, hs, q⟩ := h
  obtain ⟨es, ep, t, ob, full⟩ := (show SetN0 X.prog X.w s.heap a L from (I.hok a _ ha).1)
  have R := full s.heap ob fun p hp => (hk p hp).isN I
  obtain ⟨o, ho, hex, hdt⟩ := ob
  rw [Vals.ref1 r]
  refine Calls.call_function_entry PyProof.Rows.kind_sorted PyProof.Rows.plain_sorted PyProof.Rows.entry_sorted (PyProof.Rows.args_sorted1 _) ?_
  unfold Builtin.«sorted»
  refine wpAny_bind (m := checkCount "sorted" 1 1 _) (wpAny_pure ?_)
  refine wpAny_bind (collect_set (A := X.A.in1) (I.ok.hd hc) ⟨o, ho, hex.1, hdt⟩ R.fits (by rw [rowsN_len R.rows]; unfold scanBound; omega) R.tab.up R.led fun s1 out k1 hz g1 o1 pm => ?_)
  rw [show es.toList.map (·.2) = L.map fun p => Value.ref p.1 by rw [R.rows, rowsN, List.map_map]; rfl] at pm
  obtain ⟨L1, p1, rfl⟩ := perm_back pm rfl
  obtain ⟨c1, c2, c3, c4⟩ := sortable_iff (hs L1 p1)
  have len : (L1.map fun p => Value.ref p.1).length = (L1.map f).length := by rw [List.length_map, List.length_map]
  have er : PySem.W.EachIs (RV (DL.Dp X.K F)) (L1.map fun p => Value.ref p.1) (L1.map f) := by
    have key : ∀ M : List (Addr × NestedKey), (∀ p ∈ M, p ∈ L) → PySem.W.EachIs (RV (DL.Dp X.K F)) (M.map fun p => Value.ref p.1) (M.map f) := by
      intro M
      induction M with
      | nil => intro _; exact .nil
      | cons p M ih =>
        intro hM
        exact .cons ⟨.ref p.1, rfl, hd p (hM p List.mem_cons_self)⟩ (ih fun z hz => hM z (.tail _ hz))
    exact key L1 fun p hp => p1.mem_iff.mp hp
  have er1 := each_reads I (P := DL.Dp X.K F) (fun x d z => (dp_mono sub _ _ z).low) er
  refine wpAny_bind (wpAny_newList ?_ (by rw [len]; exact c4))
  have hoL : (s1.heap.push (seqObj "list" (L1.map fun p => Value.ref p.1).toArray 0)).get? s1.heap.objs.size = some (seqObj "list" (L1.map fun p => Value.ref p.1).toArray 0) := Heap.get?_push_size _ rfl
  have mp : (L1.map f).map (fun d : PyData => d) = L1.map f := List.map_id _
  refine wpAny_bind (wpAny_holding (list_sort_dataX (s := { s1 with heap := s1.heap.push (seqObj "list" (L1.map fun p => Value.ref p.1).toArray 0) }) (enc := fun d => d) hoL er
    (er1.mono fun v d ⟨as, z⟩ => ⟨as, PyProof.Rows.Reads.keeps (fun b o e => Heap.get?_push_of_some _ (k1 b o e)) z, fun hm => ?_⟩) (by rw [mp]; exact c1) (by rw [mp]; exact c2) c4 (fun b hb => by have := c3 b hb; show X.A.in1.units + 1 + b.depth < cLine; have : X.A.in1.units ≤ X.A.units + 1 := (by first | exact Nat.le_refl _ | (unfold Around.in1; simp; omega)); omega) fun out hlen eo => ?_))
  · obtain ⟨ws, r2, p2⟩ := each_back eo
    obtain ⟨e', he'⟩ := PyProof.Rows.sortedHeap_at (vs := L1.map fun p => Value.ref p.1) (out := out.toArray) hoL
    have hsz : ws.length ≤ sizeLine := by rw [r2.length, hlen]; exact c4
    have hn : H s1.heap.objs.size = none := I.hok.fresh hz
    have kept : ∀ b u, s.heap.get? b = some u → (sortedHeap (s1.heap.push (seqObj "list" (L1.map fun p => Value.ref p.1).toArray 0)) s1.heap.objs.size (L1.map fun p => Value.ref p.1) out.toArray).get? b = some u := fun b u e => by
      have e1 := k1 b u e
      have hb := Heap.lt_size e1
      rw [PyProof.Rows.sortedHeap_old (Nat.ne_of_lt hb) (by rw [size_push']; exact Nat.lt_succ_of_lt hb)]
      exact Heap.get?_push_of_some _ e1
    have J : Inv X pins σ (upd H s1.heap.objs.size (.lst ws)) { s with heap := sortedHeap (s1.heap.push (seqObj "list" (L1.map fun p => Value.ref p.1).toArray 0)) s1.heap.objs.size (L1.map fun p => Value.ref p.1) out.toArray, gens := s1.gens, drawn := s1.drawn, toks := s1.toks } :=
      I.call (ch := []) (Un.laid kept hz hn) (I.hok.laid kept hz ⟨hsz, out, e', r2, he'⟩) (by rw [g1]; exact I.bare) (fun _ z => nomatch z)
    refine wpAny_pure ⟨_, rfl, .ref s1.heap.objs.size, upd H s1.heap.objs.size (.lst ws), ?_, rfl, q L1 ws _ p1 (paired_dpAll p2) hn⟩
    rw [show s1.os = s.os from o1] <;> exact J
  · obtain ⟨o, ho⟩ := PyProof.On.reads_mem_get z _ hm
    exact absurd (Nat.lt_of_lt_of_le (Heap.lt_size ho) hz) (Nat.lt_irrefl _)
end
end NS

set_option Elab.async false
set_option linter.all false
set_option maxRecDepth 100000
set_option maxHeartbeats 4000000
/-! sorted(set(xs)) of nested keys, as a rule of data -/
namespace NS
open PySem PySem.Spec PyProof.Rows L2 DL
/-- ys: the members of xs, each once, sorted -/
def Once (xs ys : List PyData) : Prop := ∃ zs : List PyData, (∀ z ∈ zs, z ∈ xs) ∧ (zs.map keyN).Nodup ∧ (∀ x ∈ xs, ∃ z ∈ zs, keyN z = keyN x) ∧ ys = sortD zs
def memOk : PyData → Bool
  | .tuple ds => match keyN (.tuple ds) with
    | some k => decide (k.depth ≤ 8) && plainK k
    | none => false
  | _ => false
def setSortN : PyData → M (List PyData)
  | .list xs => .guard (decide (xs.length ≤ 300) && (xs.all memOk && sortable xs)) (M.any (Once xs))
  | _ => .stuck
theorem sortable_sub {xs zs : List PyData} (h : sortable xs = true) (sub : ∀ z ∈ zs, z ∈ xs) (len : zs.length ≤ xs.length) : sortable zs = true := by
  unfold sortable at h ⊢
  simp only [Bool.and_eq_true, Bool.or_eq_true, List.all_eq_true, decide_eq_true_eq] at h ⊢
  obtain ⟨⟨⟨h1, h2⟩, h3⟩, h4⟩ := h
  refine ⟨⟨⟨fun d hd e he => h1 d (sub d hd) e (sub e he), ?_⟩, fun d hd => h3 d (sub d hd)⟩, Nat.le_trans len h4⟩
  rcases h2 with h2 | h2 | ⟨h2, h5⟩
  · exact .inl fun d hd => h2 d (sub d hd)
  · exact .inr (.inl fun d hd => h2 d (sub d hd))
  · exact .inr (.inr ⟨Nat.le_trans len h2, fun d hd => h5 d (sub d hd)⟩)
theorem members {K : PySem.W.Frag} {F : Hp} : ∀ {xs : List PyData} {ws : List V}, DL.DpAll K F ws xs → xs.all memOk = true → ∃ ks : List (Addr × NestedKey), ws = ks.map (fun p => V.ref p.1) ∧ ks.length = xs.length ∧
    (∀ p ∈ ks, ∃ d, d ∈ xs ∧ DL.Dp K F (.ref p.1) d ∧ keyN d = some p.2 ∧ p.2.depth ≤ 8 ∧ plainK p.2 = true) ∧ ∀ x ∈ xs, ∃ p ∈ ks, keyN x = some p.2
  | _, _, .nil, _ => ⟨[], rfl, rfl, nofun, nofun⟩
  | _, _, .cons (d := d) (v := v) hd t, h => by
    rw [List.all_cons, Bool.and_eq_true] at h
    obtain ⟨ks, e1, e2, e3, e4⟩ := members t h.2
    obtain ⟨ds, k, rfl, hk, h8, hp⟩ : ∃ ds k, d = .tuple ds ∧ keyN d = some k ∧ k.depth ≤ 8 ∧ plainK k = true := by
      have h1 := h.1
      unfold memOk at h1
      split at h1
      · split at h1
        · rename_i e
          rw [Bool.and_eq_true, decide_eq_true_eq] at h1
          exact ⟨_, _, rfl, e, h1.1, h1.2⟩
        · exact nomatch h1
      · exact nomatch h1
    obtain ⟨b, rfl⟩ : ∃ b, v = .ref b := by
      cases hd
      exact ⟨_, rfl⟩
    refine ⟨(b, k) :: ks, by rw [e1]; rfl, by rw [List.length_cons, List.length_cons, e2], fun p hp2 => ?_, fun x hx => ?_⟩
    · rcases List.mem_cons.mp hp2 with rfl | hp2
      · exact ⟨_, List.mem_cons_self, hd, hk, h8, hp⟩
      · obtain ⟨d', m, r⟩ := e3 p hp2
        exact ⟨d', .tail _ m, r⟩
    · rcases List.mem_cons.mp hx with rfl | hx
      · exact ⟨(b, k), List.mem_cons_self, hk⟩
      · obtain ⟨p, m, r⟩ := e4 x hx
        exact ⟨p, .tail _ m, r⟩
section
variable {X : Cx} {C : DC} {E : XK} {ρ : REnv}
theorem dl_sortsetN {e : Expr} {m : M PyData} {x y : Str} {p p2 pos pos2 : Pos} (hc : X.calm = true) (hu : X.A.units + 65 < cLine) (hx : x = "sorted") (hy : y = "set") (hg : Gl X x) (hm : X.mg x = none) (hv : bootBuiltins x = some (.builtin "sorted")) (hg2 : Gl X y) (hm2 : X.mg y = none) (hv2 : bootBuiltins y = some (.type "set")) (ha : DR X C E ρ e m)
    (hs : starEach [e] X.env = [(false, eval e X.env)] := by rfl) (hs2 : starEach [Expr.Call (.Name y p2) [e] [] pos2] X.env = [(false, eval (.Call (.Name y p2) [e] [] pos2) X.env)] := by rfl) :
    DL X C E ρ (.Call (.Name x p) [.Call (.Name y p2) [e] [] pos2] [] pos) (m >>= setSortN) := by
  obtain ⟨t, h1, h2⟩ := ha
  have pe1 : PE X (.Call (.Name y p2) [e] [] pos2) _ := pe_callTy (cr_setN hc (by omega)) hg2 hm2 hv2 (pa_cons h1 pa_nil hs) (by rw [hy]; decide) (by rw [hy]; decide) hs rfl
  refine ⟨_, pe_callB (cr_sortedN hc hu) hg hm hv (pa_cons pe1 pa_nil hs2) (by rw [hx]; decide) (by rw [hx]; decide) hs2 rfl, fun σ F H Q k hm => h2 σ F H _ k (m.mono (fun d q v F' H' x r => ?_) (fun _ r => r) hm)⟩
  cases d with
  | list xs =>
    dsimp only [setSortN] at q
    obtain ⟨a, ws, rfl, ha, da⟩ := r.list x.gs
    obtain ⟨hb, q⟩ := guard_run q
    rw [Bool.and_eq_true, Bool.and_eq_true, decide_eq_true_eq] at hb
    obtain ⟨b1, b2, b3⟩ := hb
    obtain ⟨ks, rfl, e2, e3, e4⟩ := members da b2
    have kat : ∀ {H2 : Hp}, (∀ b o, F' b = some o → H2 b = some o) → ∀ p ∈ ks, KeyAt X.K H2 p := fun sub p hp => by
      obtain ⟨d, _, f1, f2, f3, f4⟩ := e3 p hp
      exact ⟨⟨d, dp_mono sub _ _ f1, f2⟩, f3, f4⟩
    refine ⟨a, ks, rfl, ha, kat x.gs.sub, by omega, fun p2 L hp2 hsub hall hnd hlen => ?_⟩
    have x2 := x.trans (ext_new (o := SetNO X.prog X.w p2 L) x.gs hp2)
    obtain ⟨f, ff⟩ : ∃ f : Addr × NestedKey → PyData, ∀ p ∈ ks, f p ∈ xs ∧ DL.Dp X.K F' (.ref p.1) (f p) ∧ keyN (f p) = some p.2 := by
      have ex : ∀ p : Addr × NestedKey, ∃ d : PyData, p ∈ ks → d ∈ xs ∧ DL.Dp X.K F' (.ref p.1) d ∧ keyN d = some p.2 := fun p => by
        by_cases c : p ∈ ks
        · obtain ⟨d, m, f1, f2, _⟩ := e3 p c
          exact ⟨d, fun _ => ⟨m, f1, f2⟩⟩
        · exact ⟨.none, fun z => absurd z c⟩
      exact ⟨fun p => Classical.choose (ex p), fun p hp => Classical.choose_spec (ex p) hp⟩
    refine ⟨p2, L, F', f, rfl, upd_same, fun p hp => kat x2.gs.sub p (hsub p hp), by omega, x2.gs.sub, fun p hp => (ff p (hsub p hp)).2.1, fun L1 pm => sortable_sub b3 (fun z hz => ?_) (by rw [List.length_map, pm.length_eq]; omega), fun L1 us p pm da2 hp => ?_⟩
    · obtain ⟨p, hp, rfl⟩ := List.mem_map.mp hz
      exact (ff p (hsub p (pm.mem_iff.mp hp))).1
    · have x3 := x2.trans (ext_new (o := .lst us) x2.gs hp)
      have hb := none_back x2 hp
      refine q _ ⟨L1.map f, fun z hz => ?_, ?_, fun z hz => ?_, rfl⟩ p us F' _ x3 hb.1 hb.2 upd_same da2
      · obtain ⟨p, hp, rfl⟩ := List.mem_map.mp hz
        exact (ff p (hsub p (pm.mem_iff.mp hp))).1
      · have e : (L1.map f).map keyN = (L1.map (·.2)).map some := by
          rw [List.map_map, List.map_map]
          exact List.map_congr_left fun p hp => (ff p (hsub p (pm.mem_iff.mp hp))).2.2
        rw [e]
        have nd := (pm.map (·.2)).nodup_iff.mpr hnd
        rw [List.nodup_iff_pairwise_ne] at nd ⊢
        rw [List.pairwise_map]
        exact nd.imp fun ne z => ne (Option.some.inj z)
      · obtain ⟨p, hp, r⟩ := e4 z hz
        obtain ⟨q, hq, r2⟩ := List.mem_map.mp (hall p hp)
        refine ⟨f q, List.mem_map.mpr ⟨q, pm.mem_iff.mpr hq, rfl⟩, ?_⟩
        rw [(ff q (hsub q hq)).2.2, r2, r]
  | _ => exact q.elim
end
end NS

set_option Elab.async false
set_option linter.all false
set_option maxRecDepth 100000
set_option maxHeartbeats 4000000
/-! the data layer: dicts of one's own -/
namespace DL
open PySem PySem.Spec PyProof.Rows L2
/-- a slot that holds a dict -/
def DctS (P : Program) (w : World) (kvs : List (PyData × PyData)) (s : Sl) : Prop := s = .obj (dctR P w kvs) ∨ s = .fob (dctR P w kvs)
section
variable {X : Cx} {C : DC} {E : XK} {ρ : REnv} {e a b : Expr} {mk mv : M PyData} {p p2 pos : Pos} {i : Nat} {x y : Str} {kvs : List (PyData × PyData)} {s : Sl}
theorem slot_dct {σ : L2.St} {F H : Hp} (k : Ok C X.K ρ σ F H) (hρ : ρ[i]? = some (some s)) (hs : DctS X.prog X.w kvs s) : ∃ a, σ[i]? = some (some (V.ref a)) ∧ XG X.K X.prog X.w F H a kvs := by
  obtain ⟨v, h1, h2⟩ := k.sl i _ hρ
  rcases hs with rfl | rfl
  · obtain ⟨a, o, rfl, _, h4, ob, xs, e, d, r⟩ := h2
    exact ⟨a, h1, k.gs.sub, ob, xs, by rw [h4, e], d, r⟩
  · obtain ⟨a, o, rfl, h4, ob, xs, e, d, r⟩ := h2
    exact ⟨a, h1, k.gs.sub, ob, xs, by rw [k.gs.sub _ _ h4, e], d, r⟩
theorem xk_of {K : PySem.W.Frag} {F : Hp} {v : V} {d : PyData} (h : Dp K F v d) (hk : keyOk d = true) : XKy K F v d := by
  obtain ⟨b, k, e, h1, h2⟩ := key_ref h hk
  exact ⟨b, k, e, h, h1, h2⟩
theorem XKy.fsub {K : PySem.W.Frag} {F F' : Hp} {v : V} {d : PyData} (h : XKy K F v d) (fs : ∀ a o, F a = some o → F' a = some o) : XKy K F' v d := by
  obtain ⟨b, k, e, h0, h1, h2⟩ := h.key
  exact ⟨b, k, e, dp_mono fs _ _ h0, h1, h2⟩
/-- {} -/
theorem dv_xnew : DV X C E ρ (.Dict [] [] pos) (fun kvs => .obj (dctR X.prog X.w kvs)) (pure []) := by
  refine ⟨_, pe_xnew, fun σ F H Q k hm q o hq ho => hm _ F _ (ext_new k.gs hq) ⟨q, o, rfl, hq, ?_, upd_same, ho F⟩⟩
  cases z : F q with
  | none => rfl
  | some u => rw [k.gs.sub _ _ z] at hq; cases hq
/-- {k: v} -/
theorem dv_xdisp (hu : X.A.units + 65 < cLine) (hk : DE X C E ρ a mk) (hv : DE X C E ρ b mv) : DV X C E ρ (.Dict [some a] [b] pos) (fun kvs => .obj (dctR X.prog X.w kvs)) (mk >>= fun k => mv >>= fun v => M.guard (keyOk k) (pure [(k, v)])) := by
  obtain ⟨tk, k1, k2⟩ := hk
  obtain ⟨tv, v1, v2⟩ := hv
  refine ⟨_, pe_xdisp hu k1 v1, fun σ F H Q k hm q o hq ho => ?_⟩
  have x0 : Ext C X.K (drA ρ σ) F H F (upd H q o) := ext_new k.gs hq
  have hF : F q = none := by
    cases z : F q with
    | none => rfl
    | some u => rw [k.gs.sub _ _ z] at hq; cases hq
  refine k2 σ F _ _ (k.ext x0) (mk.mono (fun d q1 w F1 H1 x1 r1 => ?_) (fun er r => RE.later x0 er r) hm)
  refine v2 σ F1 H1 _ ((k.ext x0).ext x1) (mv.mono (fun d2 q2 w2 F2 H2 x2 r2 => ?_) (fun er r => RE.later (x0.trans x1) er r) q1)
  obtain ⟨hk, q2⟩ := guard_run q2
  have x02 := (x0.trans x1).trans x2
  have x12 := x1.trans x2
  obtain ⟨ob, xs, eo, hD, _⟩ := ho F
  have hH2 : H2 q = some o := x12.same q o upd_same (fun ps z => by rw [eo] at z; cases z) fun wz => drw_has k wz hq
  refine ⟨F2, d, d2, x2.gs.sub, hH2, (xk_of r1 hk).fsub (x2.fsub x1.gs), r2, fun o' hR => ?_⟩
  have hF2 : F2 q = none := x12.fnone (by rw [upd_same]; simp) hF
  have x3 : Ext C X.K (drA ρ σ) F H F2 (upd H2 q o') := ext_atO x02 hq hF2 hH2 (fun ps z => by rw [eo] at z; cases z) (fun c s z => (dctR X.prog X.w []).nc (K := X.K) c s (ho F) z)
  exact q2 _ F2 _ x3 ⟨q, o', rfl, hq, hF2, upd_same, hR⟩
theorem db_xin {neg : Bool} (hu : X.A.units + 65 < cLine) (hρ : ρ[i]? = some (some s)) (hs : DctS X.prog X.w kvs s) (hp : PE X (.Name x p) (tVar i)) (hk : DE X C E ρ a mk)
    (hb : behindInMarks .In (.Name x p) = false := by first | exact nobehind _ (by decide) (by decide) | rfl) : DB X C E ρ (.Compare a [.In] [.Name x p] pos) (mk >>= fun k => M.guard (keyOk k) (pure (dGet kvs k).isSome)) := by
  obtain ⟨tk, k1, k2⟩ := hk
  refine ⟨_, pe_cmp (pc_xin hu k1 hp) hb, fun σ F H Q k hm => k2 σ F H _ k (mk.mono (fun d q w F1 H1 x1 r1 => ?_) (fun er r => r) hm)⟩
  obtain ⟨hk, q⟩ := guard_run q
  obtain ⟨c, h1, g⟩ := slot_dct (k.ext x1) hρ hs
  refine ⟨_, h1, F1, c, kvs, d, rfl, g, xk_of r1 hk, ?_⟩
  rw [show (false != (dGet kvs d).isSome) = (dGet kvs d).isSome from by cases (dGet kvs d).isSome <;> rfl]
  exact q F1 H1 x1
theorem db_xnin (hu : X.A.units + 65 < cLine) (hρ : ρ[i]? = some (some s)) (hs : DctS X.prog X.w kvs s) (hp : PE X (.Name x p) (tVar i)) (hk : DE X C E ρ a mk)
    (hb : behindInMarks .NotIn (.Name x p) = false := by first | exact nobehind _ (by decide) (by decide) | rfl) : DB X C E ρ (.Compare a [.NotIn] [.Name x p] pos) (mk >>= fun k => M.guard (keyOk k) (pure (!(dGet kvs k).isSome))) := by
  obtain ⟨tk, k1, k2⟩ := hk
  refine ⟨_, pe_cmp (pc_xnotin hu k1 hp) hb, fun σ F H Q k hm => k2 σ F H _ k (mk.mono (fun d q w F1 H1 x1 r1 => ?_) (fun er r => r) hm)⟩
  obtain ⟨hk, q⟩ := guard_run q
  obtain ⟨c, h1, g⟩ := slot_dct (k.ext x1) hρ hs
  refine ⟨_, h1, F1, c, kvs, d, rfl, g, xk_of r1 hk, ?_⟩
  rw [show (true != (dGet kvs d).isSome) = !(dGet kvs d).isSome from by cases (dGet kvs d).isSome <;> rfl]
  exact q F1 H1 x1
theorem dt_xin (hu : X.A.units + 65 < cLine) (hρ : ρ[i]? = some (some s)) (hs : DctS X.prog X.w kvs s) (hp : PE X (.Name x p) (tVar i)) (hk : DE X C E ρ a mk)
    (hb : behindInMarks .In (.Name x p) = false := by first | exact nobehind _ (by decide) (by decide) | rfl) : DT X C E ρ (.Compare a [.In] [.Name x p] pos) (mk >>= fun k => M.guard (keyOk k) (pure (dGet kvs k).isSome)) := by
  obtain ⟨tk, k1, k2⟩ := hk
  refine ⟨_, pt_cmp (pc_xin hu k1 hp) hb, fun σ F H Q k hm => k2 σ F H _ k (mk.mono (fun d q w F1 H1 x1 r1 => ?_) (fun er r => r) hm)⟩
  obtain ⟨hk, q⟩ := guard_run q
  obtain ⟨c, h1, g⟩ := slot_dct (k.ext x1) hρ hs
  refine ⟨_, h1, F1, c, kvs, d, rfl, g, xk_of r1 hk, _, rfl, ?_⟩
  rw [show (false != (dGet kvs d).isSome) = (dGet kvs d).isSome from by cases (dGet kvs d).isSome <;> rfl]
  exact q F1 H1 x1
theorem dt_xnin (hu : X.A.units + 65 < cLine) (hρ : ρ[i]? = some (some s)) (hs : DctS X.prog X.w kvs s) (hp : PE X (.Name x p) (tVar i)) (hk : DE X C E ρ a mk)
    (hb : behindInMarks .NotIn (.Name x p) = false := by first | exact nobehind _ (by decide) (by decide) | rfl) : DT X C E ρ (.Compare a [.NotIn] [.Name x p] pos) (mk >>= fun k => M.guard (keyOk k) (pure (!(dGet kvs k).isSome))) := by
  obtain ⟨tk, k1, k2⟩ := hk
  refine ⟨_, pt_cmp (pc_xnotin hu k1 hp) hb, fun σ F H Q k hm => k2 σ F H _ k (mk.mono (fun d q w F1 H1 x1 r1 => ?_) (fun er r => r) hm)⟩
  obtain ⟨hk, q⟩ := guard_run q
  obtain ⟨c, h1, g⟩ := slot_dct (k.ext x1) hρ hs
  refine ⟨_, h1, F1, c, kvs, d, rfl, g, xk_of r1 hk, _, rfl, ?_⟩
  rw [show (true != (dGet kvs d).isSome) = !(dGet kvs d).isSome from by cases (dGet kvs d).isSome <;> rfl]
  exact q F1 H1 x1
/-- d[k] -/
def dgetM (kvs : List (PyData × PyData)) (k : PyData) : M PyData := M.guard (keyOk k) (match dGet kvs k with
  | some d => pure d
  | none => .stuck)
theorem de_xget (hu : X.A.units + 65 < cLine) (hρ : ρ[i]? = some (some s)) (hs : DctS X.prog X.w kvs s) (hp : PE X (.Name x p) (tVar i)) (hk : DE X C E ρ a mk) (hn : NoSl a := by exact fun _ _ => rfl) :
    DE X C E ρ (.Subscript (.Name x p) a pos) (mk >>= fun k => dgetM kvs k) := by
  obtain ⟨tk, k1, k2⟩ := hk
  refine ⟨_, pe_xget hu hp k1 hn, fun σ F H Q k hm => ?_⟩
  obtain ⟨c, h1, g⟩ := slot_dct k hρ hs
  refine ⟨_, h1, k2 σ F H _ k (mk.mono (fun d q w F1 H1 x1 r1 => ?_) (fun er r => r) hm)⟩
  obtain ⟨hk, q⟩ := guard_run q
  obtain ⟨c', h1', g'⟩ := slot_dct (k.ext x1) hρ hs
  rw [h1] at h1'
  cases h1'
  cases ed : dGet kvs d with
  | none => rw [ed] at q; exact q.elim
  | some r =>
    rw [ed] at q
    exact ⟨F1, c, kvs, d, r, rfl, g', xk_of r1 hk, ed, fun v hv => q v F1 H1 x1 hv⟩
/-- sorted(d), list(d) -/
theorem dl_xsorted {f : Str} (hc : X.calm = true) (hu : X.A.units + 65 < cLine) (hg : Gl X f) (hm : X.mg f = none) (hv : bootBuiltins f = some (.builtin "sorted")) (hρ : ρ[i]? = some (some s)) (hs : DctS X.prog X.w kvs s) (hp : PE X (.Name x p) (tVar i))
    (hn : f ≠ "__name__" := by decide) (hdb : (f == ("__debug__" : Str)) = false := by decide) (he : starEach [.Name x p] X.env = (false, eval (.Name x p) X.env) :: starEach [] X.env := by rfl) (hpl : (backTo pos (starEach [] X.env)).any (·.1) = false := by rfl) :
    DL X C E ρ (.Call (.Name f p2) [.Name x p] [] pos) (M.guard (sortable (kvs.map (·.1))) (pure (sortD (kvs.map (·.1))))) := by
  refine ⟨_, pe_callB (cr_sortedX hc hu) hg hm hv (pa_cons hp pa_nil he) hn hdb he hpl, fun σ F H Q k q => ?_⟩
  obtain ⟨hk, q⟩ := guard_run q
  obtain ⟨c, h1, g⟩ := slot_dct k hρ hs
  refine ⟨_, h1, F, c, kvs, rfl, g, hk, fun ws r hw hr => ?_⟩
  refine q r ws F _ (ext_new k.gs hr) hr ?_ upd_same hw
  cases z : F r with
  | none => rfl
  | some u => rw [k.gs.sub _ _ z] at hr; cases hr
theorem dl_xlist {f : Str} (hc : X.calm = true) (hg : Gl X f) (hm : X.mg f = none) (hv : bootBuiltins f = some (.type "list")) (hρ : ρ[i]? = some (some s)) (hs : DctS X.prog X.w kvs s) (hp : PE X (.Name x p) (tVar i))
    (hn : f ≠ "__name__" := by decide) (hdb : (f == ("__debug__" : Str)) = false := by decide) (he : starEach [.Name x p] X.env = (false, eval (.Name x p) X.env) :: starEach [] X.env := by rfl) (hpl : (backTo pos (starEach [] X.env)).any (·.1) = false := by rfl) :
    DL X C E ρ (.Call (.Name f p2) [.Name x p] [] pos) (pure (kvs.map (·.1))) := by
  refine ⟨_, pe_callTy (cr_listX hc) hg hm hv (pa_cons hp pa_nil he) hn hdb he hpl, fun σ F H Q k q => ?_⟩
  obtain ⟨c, h1, g⟩ := slot_dct k hρ hs
  refine ⟨_, h1, F, c, kvs, rfl, g, rfl, fun ws r hw hr => ?_⟩
  refine q r ws F _ (ext_new k.gs hr) hr ?_ upd_same hw
  cases z : F r with
  | none => rfl
  | some u => rw [k.gs.sub _ _ z] at hr; cases hr
/-- for k in d, once it is let go -/
theorem df_x {tg : Expr} (hρ : ρ[i]? = some (some (.fob (dctR X.prog X.w kvs)))) (hp : PE X (.Name x p) (tVar i)) : DF X C E ρ false tg (.Name x p) (pure (kvs.map (·.1))) := by
  refine ⟨_, pi_x hp, fun σ F H R k q => ?_⟩
  obtain ⟨v, h1, c, o, rfl, h4, ob, xs, e, d, r⟩ := k.sl i _ hρ
  refine ⟨_, h1, c, ob, xs, rfl, by rw [k.gs.sub _ _ h4, e], d, q _ F H (.refl k.gs) fun F2 H2 j g fs => ?_⟩
  have hH : H2 c = some (exO c ob) := by rw [g.sub _ _ (fs _ _ h4), e]
  have hl : (kvs.map (·.1)).length = (xs.map fun x => x.2.1).length := by rw [List.length_map, List.length_map]; exact r.length
  refine ⟨fun hj => ⟨hH, by rw [← hl]; exact hj⟩, fun z hz => ?_⟩
  have hj : j < (xs.map fun x => x.2.1).length := by rw [← hl]; exact (List.getElem?_eq_some_iff.mp hz).1
  refine ⟨⟨hH, hj⟩, fun u H3 hu => ?_⟩
  obtain ⟨rfl, a, ha, rfl⟩ := hu
  refine ⟨F2, fun W => .refl g, ?_⟩
  obtain ⟨v, hv, dv⟩ := DpAll.get (keys_dp (r.mono fs)) hz
  rw [List.getElem?_map] at hv ha
  cases q : xs[j]? with
  | none => rw [q] at hv; cases hv
  | some y =>
    rw [q] at hv ha
    cases hv
    cases ha
    exact .inl dv
end
section
variable {X : Cx} {C : DC} {E : XK} {ρ : REnv} {e a b : Expr} {mk mv : M PyData} {p p2 pos : Pos} {i j : Nat} {x y : Str} {kvs : List (PyData × PyData)} {γ : Type} {ρ' : γ → REnv} {rest : List Stmt}
/-- d[k] = v -/
theorem dss_xput {g : PyData → PyData → M (Fl γ)} (hu : X.A.units + 65 < cLine) (hρ : ρ[i]? = some (some (.obj (dctR X.prog X.w kvs)))) (hp : PE X (.Name x p) (tVar i)) (hk : DE X C E ρ a mk) (hv : DE X C E ρ b mv)
    (hr : ∀ k v, DSs X C E (ρ.set i (some (.obj (dctR X.prog X.w (dPut kvs k v))))) rest ρ' (g k v)) (hsw : swapsWith b (some (.Subscript (.Name x p) a p2)) pos.line X.env = pure false := by rfl) :
    DSs X C E ρ (.Assign [.Subscript (.Name x p) a p2] b pos :: rest) ρ' (mv >>= fun v => mk >>= fun k => M.guard (keyOk k && decide (kvs.length < sizeLine)) (g k v)) := by
  obtain ⟨tk, k1, k2⟩ := hk
  obtain ⟨tv, v1, v2⟩ := hv
  refine ⟨_, pss_cons (ps_xput hu hp k1 v1 hsw) (DSs.pss (α := PyData × PyData) (ρa := fun c => ρ.set i (some (.obj (dctR X.prog X.w (dPut kvs c.1 c.2))))) (f := fun c => g c.1 c.2) fun c => hr c.1 c.2), fun W F0 H0 σ F H D j hm => ?_⟩
  refine v2 σ F H _ j.ok (mv.mono (fun v q1 w F1 H1 x1 r1 => ?_) (fun er r => j.re r) hm)
  have j1 := j.step x1
  obtain ⟨c, h1, g1⟩ := slot_dct j1.ok hρ (.inl rfl)
  refine ⟨_, h1, k2 σ F1 H1 _ j1.ok (mk.mono (fun k q2 w2 F2 H2 x2 r2 => ?_) (fun er r => j1.re r) q1)⟩
  obtain ⟨hk, q2⟩ := guard_run q2
  obtain ⟨hk, hl⟩ := Bool.and_eq_true_iff.mp hk
  have j2 := j1.step x2
  obtain ⟨c', h1', g2⟩ := slot_dct j2.ok hρ (.inl rfl)
  rw [h1] at h1'
  cases h1'
  refine ⟨F2, c, kvs, k, v, rfl, g2, xk_of r2 hk, dp_mono (x2.fsub x1.gs) _ _ r1, of_decide_eq_true hl, fun o' hR => ?_⟩
  exact tSS.mk (k, v) (j2.wrO hρ h1 hR) (FSub.trans (x1.fsub j.ok.gs) (x2.fsub x1.gs)) q2
/-- x = y, y a frozen object -/
theorem dv_fob {r : OR} (hρ : ρ[j]? = some (some (.fob r))) (hp : PE X (.Name y p) (tVar j)) : DV X C E ρ (.Name y p) (fun _ : Unit => .fob r) (pure ()) := by
  refine ⟨_, hp, fun σ F H Q k hm => ?_⟩
  obtain ⟨v, h1, h2⟩ := k.sl j _ hρ
  exact ⟨_, h1, hm v F H (.refl k.gs) h2⟩
end
end DL

set_option Elab.async false
set_option linter.all false
set_option maxRecDepth 100000
set_option maxHeartbeats 4000000
/-! the data layer: x[::-1], .index, .count -/
namespace DL
open PySem PySem.Spec PyProof.Rows L2
section
variable {prog : Program} {w : World} {A : Around} {E : Value → Shared → Prop} {s : Shared}
theorem rev_places (n : Nat) : Builtin.Slice.sliceAdjust none none (-1) (n : Int) = ((n : Int) - 1, -1) ∧ Builtin.Slice.slicePlaces ((n : Int) - 1) (-1) (-1) = n := by
  refine ⟨rfl, ?_⟩
  unfold Builtin.Slice.slicePlaces
  rw [if_neg (by decide)]
  have e : ((n : Int) - 1 - -1 - 1) / -(-1 : Int) = (n : Int) - 1 := by
    rw [show -(-1 : Int) = 1 from rfl, Int.ediv_one]
    omega
  rw [e]
  split <;> omega
theorem rev_pick (xs : Array Value) : ((List.range xs.size).filterMap fun (k : Nat) => xs[(((xs.size : Nat) : Int) - 1 + (k : Int) * (-1)).toNat]?) = xs.toList.reverse := by
  rw [← PySem.W.krv_all xs, ← List.filterMap_reverse, ← PySem.W.krv_range, List.filterMap_map]
  have key : ∀ l : List Nat, (∀ k ∈ l, k < xs.size) → l.filterMap (fun (k : Nat) => xs[(((xs.size : Nat) : Int) - 1 + (k : Int) * (-1)).toNat]?) = l.filterMap ((fun k => xs[k]?) ∘ fun k => xs.size - 1 - k) := by
    intro l
    induction l with
    | nil => intro _; rfl
    | cons k l ih =>
      intro h
      have hk := h k List.mem_cons_self
      rw [List.filterMap_cons, List.filterMap_cons, ih fun j hj => h j (.tail _ hj)]
      have e : xs[(((xs.size : Nat) : Int) - 1 + (k : Int) * (-1)).toNat]? = ((fun k => xs[k]?) ∘ fun k => xs.size - 1 - k) k := by
        show _ = xs[xs.size - 1 - k]?
        rw [show (((xs.size : Nat) : Int) - 1 + (k : Int) * (-1)).toNat = xs.size - 1 - k by omega]
      rw [e]
  exact key _ fun k hk => List.mem_range.mp hk
/-- t[::-1] -/
theorem getItem_tuple_rev {t sl : Addr} {items : Array Value} {vl vu vs : Value} {Q : Value → Shared → Prop} (ht : IsTup s.heap t items) (hs : s.heap.IsSliceOf sl vl vu vs) (pl : IsPart vl none) (pu : IsPart vu none) (ps : IsPart vs (some (-1)))
    (h : Q (.ref s.heap.objs.size) { s with heap := s.heap.push { cls := .type "tuple", data := .seq items.toList.reverse.toArray } })
    (hsz : items.size ≤ sizeLine) : wpAny (model prog w) A (getItem (.ref t) (.ref sl)) Q E s := by
  have htake : sizeOk (.seq items.toList.reverse.toArray) := by
    show items.toList.reverse.toArray.size ≤ sizeLine
    rw [List.size_toArray, List.length_reverse, Array.length_toList]
    exact hsz
  obtain ⟨os, hos, hcs, hds⟩ := id hs
  have hTs : s.TypeIs (.ref sl) "slice" := ⟨os, hos, hcs⟩
  unfold getItem
  try with_reducible refine wpAny_holding ?_
  first | refine wpAny_bind (wpAny_pure ?_) | skip
  refine wpAny_bind (wpAny_sequenceKey ht.typeIs (by decide) ?_)
  refine wpAny_bind (wpAny_callSpecial?_slot (name := Str.ofString "__getitem__") ht.typeIs PyProof.Rows.slot_tuple_getitem
    (wpAny_call_entry PyProof.Rows.slot_tuple_getitem ht.typeIs PyProof.Rows.entry_tuple_getitem ?_ (PyProof.Rows.args_tuple_getitem _ _)))
  show wpAny _ _ (Builtin.Tuple.tupleItemsOf (.ref t) >>= _) _ _ s
  refine wpAny_bind (tupleItemsOf_ ht ?_)
  refine wpAny_bind (wpAny_typeOf hTs ?_)
  rw [if_pos (by decide)]
  have ap : ∀ {R : Int × Int × Nat → Shared → Prop}, R (((items.size : Nat) : Int) - 1, -1, items.size) s → wpAny (model prog w) A.in1 (Builtin.Slice.sliceApplied (.ref sl) (pure ((items.size : Nat) : Int))) R E s := fun {R} hR => by
    unfold Builtin.Slice.sliceApplied Builtin.Slice.sliceFields
    refine wpAny_bind (wpAny_bind (wpAny_field hos hds (x := vl) rfl (wpAny_bind (wpAny_field hos hds (x := vu) rfl (wpAny_bind (wpAny_field hos hds (x := vs) rfl (wpAny_pure ?_)))))))
    refine wpAny_bind (HT.slicePart_ ps ?_)
    show wpAny _ _ (if ((-1 : Int) == 0) = true then _ else _) _ _ s
    rw [if_neg (by decide)]
    refine wpAny_bind (HT.slicePart_ pl (wpAny_bind (HT.slicePart_ pu (wpAny_bind (wpAny_pure ?_)))))
    show wpAny _ _ (match Builtin.Slice.sliceAdjust none none (-1) ((items.size : Nat) : Int) with | (lo, hi) => pure (lo, (-1 : Int), Builtin.Slice.slicePlaces lo hi (-1))) _ _ s
    rw [(rev_places items.size).1]
    show wpAny _ _ (pure (((items.size : Nat) : Int) - 1, (-1 : Int), Builtin.Slice.slicePlaces (((items.size : Nat) : Int) - 1) (-1) (-1))) _ _ s
    rw [(rev_places items.size).2]
    exact wpAny_pure hR
  refine wpAny_bind (ap ?_)
  show wpAny _ _ (if ((((items.size : Nat) : Int) - 1) == 0 && (-1 : Int) == 1 && items.size == items.size) = true then _ else _) _ _ s
  rw [if_neg (by rw [show ((-1 : Int) == 1) = false from rfl, Bool.and_false, Bool.false_and]; decide), rev_pick]
  first
    | exact wpAny_bind (m := Builtin.Tuple.tupleExact _) (wpAny_newObj_type (wpAny_pure ⟨_, rfl, wpAny_pure h⟩) htake)
    | exact wpAny_bind (m := Builtin.Tuple.tupleExact _) (wpAny_newObj_type (wpAny_bind (wpAny_pure (wpAny_pure ⟨_, rfl, wpAny_pure h⟩))) htake)
    | exact wpAny_bind (wpAny_bind (m := Builtin.Tuple.tupleExact _) (wpAny_newObj_type (wpAny_pure (wpAny_pure ⟨_, rfl, wpAny_pure h⟩)) htake))
    | exact wpAny_bind (wpAny_bind (m := Builtin.Tuple.tupleExact _) (wpAny_newObj_type (wpAny_pure ⟨_, rfl, wpAny_pure h⟩) htake))
end
section
variable {X : Cx} {C : DC} {E : XK} {ρ : REnv} {e a b : Expr} {m mk : M PyData} {p p1 p2 p3 p4 pos : Pos} {i kk : Nat} {x y : Str}
/-- a text turned -/
def revS (z : Str) : Str := ⟨((Builtin.Str.strSliceIndices none none (-1) z.length).filterMap (z.cps[·]?)).toArray⟩
def tRevA (K : PySem.W.Frag) (te : TE) : TE := fun σ H Q => te σ H fun x H1 => (∃ z, x = .str z ∧ (revS z).length ≤ sizeLine ∧ Q (.str (revS z)) H1) ∨ ∃ a xs, x = .ref a ∧ ((SqL K H1 a xs ∧ ∀ p, H1 p = none → Q (.ref p) (upd H1 p (.lst xs.reverse))) ∨ (SqT K H1 a xs ∧ ∀ p o, H1 p = none → o.dict = none → Q (.ref p) (upd H1 p (frT o xs.reverse))))
theorem pe_revA {te : TE} (he : PE X e te) : PE X (.Subscript e (.Slice none none (some (.UnaryOp .USub (.Constant (.int 1) kk p1) p2)) p3) pos) (tRevA X.K te) := by
  refine ⟨fun pins s σ H Q I h => ?_⟩
  refine Subscript_ (thn (he.run pins s σ H _ I h) fun v s1 ⟨x, H1, I1, r1, q1⟩ => ?_)
  have hst : PO X (some (.UnaryOp .USub (.Constant (.int 1) kk p1) p2)) (tPart (tUn (rU fun i => .int (-i)) (tC (.int 1)))) := po_some (pe_un un_neg pe_int)
  refine wpAny_Slice (thn (po_none.run pins s1 σ H1 (fun o H2 => o = none ∧ H2 = H1) I1 ⟨rfl, rfl⟩) fun vl s2 ⟨l, H2, I2, pl, el, e2⟩ => ?_)
  subst el e2
  refine thn (po_none.run pins s2 σ H2 (fun o H3 => o = none ∧ H3 = H2) I2 ⟨rfl, rfl⟩) fun vu s3 ⟨u, H3, I3, pu, eu, e3⟩ => ?_
  subst eu e3
  refine thn (hst.run pins s3 σ H3 (fun o H4 => o = some (-1) ∧ H4 = H3) I3 ⟨1, rfl, -1, rfl, rfl, rfl⟩) fun vs s4 ⟨o, H4, I4, ps, eo, e4⟩ => ?_
  subst eo e4
  rcases q1 with ⟨z, ex, hz, q⟩ | ⟨a, xs, ex, q⟩
  · subst ex
    obtain ⟨t, rfl⟩ := r1
    have I5 : Inv X pins σ H4 { s4 with heap := s4.heap.push { cls := .type "slice", data := .fields #[vl, vu, vs] } } := I4.kept (t' := s4.toks) fun b ob q => Heap.get?_push_of_some _ q
    show wpAny (model X.prog X.w) X.A (subscriptTail e (.Slice none none (some (.UnaryOp .USub (.Constant (.int 1) kk p1) p2)) p3) (.str z t) (.ref s4.heap.objs.size)) (EP X pins σ Q) X.xe { s4 with heap := s4.heap.push { cls := .type "slice", data := .fields #[vl, vu, vs] } }
    refine tail_any (ops := [.str z t, .ref s4.heap.objs.size]) (typeIs_str _ _ _) (F.slot_str_getitem.lookup) ?_ (by with_unfolding_all rfl)
    obtain ⟨l, rfl, el⟩ := IsPart.raw pl
    obtain ⟨u, rfl, eu⟩ := IsPart.raw pu
    obtain ⟨st, rfl, es⟩ := IsPart.raw ps
    refine wpAny_getItem_str_slice (l := l) (u := u) (st := st) ⟨_, Heap.get?_push_size _ rfl, rfl, rfl⟩ (by rw [es]; rfl) ?_
    have e1 : sliceMade z t l u st = Made.str (revS z) := by
      unfold sliceMade
      rw [es]
      show Made.str ⟨((slicePicked z l u st).filterMap (z.cps[·]?)).toArray⟩ = _
      unfold slicePicked revS
      rw [el, eu, es]
      rfl
    rw [e1]
    exact ⟨hz, .str _, H4, I5.tok _, ⟨_, rfl⟩, q⟩
  subst ex
  cases r1
  have I5 : Inv X pins σ H4 { s4 with heap := s4.heap.push { cls := .type "slice", data := .fields #[vl, vu, vs] } } := I4.kept (t' := s4.toks) fun b ob q => Heap.get?_push_of_some _ q
  show wpAny (model X.prog X.w) X.A (subscriptTail e (.Slice none none (some (.UnaryOp .USub (.Constant (.int 1) kk p1) p2)) p3) (.ref a) (.ref s4.heap.objs.size)) (EP X pins σ Q) X.xe { s4 with heap := s4.heap.push { cls := .type "slice", data := .fields #[vl, vu, vs] } }
  rcases q with ⟨hx, q⟩ | ⟨hx, q⟩
  · obtain ⟨its, r, ht, hz⟩ := I5.list hx
    have hlen := r.length
    refine tail_any (ops := [.ref a, .ref s4.heap.objs.size]) ht.isList.typeIs (PySem.slot_list_getitem.lookup) ?_ (by with_unfolding_all rfl)
    refine wpAny_getItem_list_slice ht.isList (Heap.IsSliceOf.new _ vl vu vs) pl pu ps (by decide) ?_ (by rw [List.size_toArray]; omega)
    rw [PySem.W.krv_pick]
    refine ⟨.ref _, _, I5.laid (t' := s4.toks) (o := .lst xs.reverse) (fun b ob q => Heap.get?_push_of_some _ q) (Nat.le_refl _) ?_, rfl, q _ (I5.hok.fresh (Nat.le_refl _))⟩
    exact ⟨by rw [List.length_reverse]; exact hz, _, 0, r.reverse, Heap.get?_push_size _ rfl⟩
  · obtain ⟨its, r, ht, hz⟩ := I5.tuple hx
    have hlen := r.length
    refine tail_any (ops := [.ref a, .ref s4.heap.objs.size]) ht.typeIs (PyProof.Rows.slot_tuple_getitem.lookup) ?_ (by with_unfolding_all rfl)
    refine getItem_tuple_rev ht (Heap.IsSliceOf.new _ vl vu vs) pl pu ps ?_ (by rw [List.size_toArray]; omega)
    exact ⟨.ref _, _, I5.laid (t' := s4.toks) (o := frT _ xs.reverse) (fun b ob q => Heap.get?_push_of_some _ q) (Nat.le_refl _) (frT_ok (its := its.reverse) (Heap.get?_push_size _ rfl) (by rw [List.length_reverse]; exact hz) r.reverse rfl rfl), rfl, q _ _ (I5.hok.fresh (Nat.le_refl _)) rfl⟩
/-- d[::-1] -/
def revD : PyData → M PyData
  | .list ds => pure (.list ds.reverse)
  | .tuple ds => pure (.tuple ds.reverse)
  | .str z => .guard (decide ((revS z).length ≤ sizeLine)) (pure (.str (revS z)))
  | _ => .stuck
theorem de_rev (ha : DR X C E ρ e m) : DE X C E ρ (.Subscript e (.Slice none none (some (.UnaryOp .USub (.Constant (.int 1) kk p1) p2)) p3) pos) (m >>= revD) := by
  obtain ⟨t, h1, h2⟩ := ha
  refine ⟨_, pe_revA h1, fun σ F H Q k hm => h2 σ F H _ k (m.mono (fun d q v F' H' x r => ?_) (fun _ r => r) hm)⟩
  cases d with
  | list ds =>
    obtain ⟨a, vs, rfl, hs, hd⟩ := r.list x.gs
    refine .inr ⟨a, vs, rfl, .inl ⟨hs, fun p hp => ?_⟩⟩
    obtain ⟨y, fs⟩ := ext_newF (K := X.K) (W := drA ρ σ) (o := .lst vs.reverse) x.gs hp (fun ps z => nomatch z)
    exact q (.ref p) _ _ (x.trans y) (.lst (.inl (.inl upd_same)) (dpAll_mono fs _ _ (DpAll.reverse hd)))
  | tuple ds =>
    obtain ⟨a, vs, rfl, hs, hd⟩ := r.tuple x.gs
    refine .inr ⟨a, vs, rfl, .inr ⟨hs, fun p o hp ho => ?_⟩⟩
    obtain ⟨y, fs⟩ := ext_newF (K := X.K) (W := drA ρ σ) (o := frT o vs.reverse) x.gs hp (fun ps z => nomatch z)
    exact q (.ref p) _ _ (x.trans y) (.tup (.inl ⟨_, upd_same, ho⟩) (dpAll_mono fs _ _ (DpAll.reverse hd)))
  | str z =>
    obtain ⟨hz, q⟩ := guard_run (show (M.guard (decide ((revS z).length ≤ sizeLine)) (pure (PyData.str (revS z)))).run _ _ from q)
    rw [r.str]
    exact .inl ⟨z, rfl, of_decide_eq_true hz, q _ F' H' x (.str _)⟩
  | _ => exact q.elim
/-! ### index, count -/
/-- the place of a datum, which is there -/
def idxM : PyData → PyData → M PyData := fun d k => match itemsOf d with
  | some ds => match keyNs ds, keyN k with
    | some ks, some nk => .guard (decide (nk ∈ ks) && decide (nk.depth ≤ 60) && decide (ds.length ≤ sizeLine)) (pure (.int (ks.idxOf nk : Nat)))
    | _, _ => .stuck
  | none => .stuck
def rIxL (K : PySem.W.Frag) : V → List V → Hp → VK → Prop := fun x xs H Q => ∃ (a : Addr) (y : V) (k : PyData) (vs : List V) (ds : List PyData) (ks : List NestedKey) (nk : NestedKey), x = .ref a ∧ xs = [y] ∧ SqL K H a vs ∧ DpAll K H vs ds ∧ Dp K H y k ∧
  keyNs ds = some ks ∧ keyN k = some nk ∧ nk ∈ ks ∧ nk.depth ≤ 60 ∧ ds.length ≤ sizeLine ∧ Q (.int (ks.idxOf nk : Nat)) H
def rIxT (K : PySem.W.Frag) : V → List V → Hp → VK → Prop := fun x xs H Q => ∃ (a : Addr) (y : V) (k : PyData) (vs : List V) (ds : List PyData) (ks : List NestedKey) (nk : NestedKey), x = .ref a ∧ xs = [y] ∧ SqT K H a vs ∧ DpAll K H vs ds ∧ Dp K H y k ∧
  keyNs ds = some ks ∧ keyN k = some nk ∧ nk ∈ ks ∧ nk.depth ≤ 60 ∧ Q (.int (ks.idxOf nk : Nat)) H
theorem keyNs_len : ∀ {ds : List PyData} {ks : List NestedKey}, keyNs ds = some ks → ds.length = ks.length
  | [], _, e => by cases e; rfl
  | d :: ds, _, e => by
    unfold keyNs at e
    split at e
    · rename_i k ks' e1 e2
      cases e
      rw [List.length_cons, List.length_cons, keyNs_len e2]
    · cases e
theorem mt_ixL (hu : X.A.units + 65 < cLine) : MtR X "list.index" (rIxL X.K) := by
  intro pins s σ H x xs v us Q I rx rxs h
  obtain ⟨a, y, k, vs, ds, ks, nk, rfl, rfl, hl, hd, hy, h1, h2, h3, h4, h5, q⟩ := h
  cases rx
  obtain ⟨u, rfl, ry⟩ := rxs.one
  obtain ⟨its, rv, pl, hz⟩ := I.list hl
  have hn := nested_all I ds vs its ks hd rv h1
  exact PySem.SeqAt.call_list_index (vs := its) pl.isList (.nested hn (nested_of I k y u nk hy ry h2) (by show X.A.in1.units + nk.depth < cLine; have : X.A.in1.units ≤ X.A.units + 1 := (by first | exact Nat.le_refl _ | (unfold Around.in1; simp; omega)); omega)) (by rw [← keyNs_len h1]; exact h5) h3 ⟨.int _, H, I.tok _, ⟨_, rfl⟩, q⟩
theorem mt_ixT (hu : X.A.units + 65 < cLine) : MtR X "tuple.index" (rIxT X.K) := by
  intro pins s σ H x xs v us Q I rx rxs h
  obtain ⟨a, y, k, vs, ds, ks, nk, rfl, rfl, hl, hd, hy, h1, h2, h3, h4, q⟩ := h
  cases rx
  obtain ⟨u, rfl, ry⟩ := rxs.one
  obtain ⟨its, rv, pl, hz⟩ := I.tuple hl
  have hn := nested_all I ds vs its ks hd rv h1
  exact PySem.SeqAt.call_tuple_index (vs := its) (show s.heap.IsTuple a its.toArray from pl) (.nested hn (nested_of I k y u nk hy ry h2) (by show X.A.in1.units + nk.depth < cLine; have : X.A.in1.units ≤ X.A.units + 1 := (by first | exact Nat.le_refl _ | (unfold Around.in1; simp; omega)); omega)) h3 ⟨.int _, H, I.tok _, ⟨_, rfl⟩, q⟩
end
end DL


set_option Elab.async false
set_option linter.all false
set_option maxRecDepth 100000
set_option maxHeartbeats 4000000
/-! the data layer: methods of lists and tuples; sorted(set(..)) of pairs -/
namespace DL
open PySem PySem.Spec PyProof.Rows L2
section
variable {X : Cx} {C : DC} {E : XK} {ρ : REnv} {o e : Expr} {es : List Expr} {to : TE} {t : TA} {name : Str} {apos cpos : Pos} {T id T2 id2 : String} {r r2 : V → List V → Hp → VK → Prop}
theorem exT_is {X : Cx} {pins : List (Addr × Obj)} {σ : L2.St} {H : Hp} {s : Shared} {a : Addr} {xs : List V} (I : Inv X pins σ H s) (h : exT X.K H a xs) : s.TypeIs (.ref a) "tuple" ∧ ∀ b, Value.ref a = .ref b → ∃ ob, s.heap.get? b = some ob ∧ ob.dict = none := by
  rcases h with ⟨o, h, hd⟩ | ⟨o, its, n, h1, h2, _, _, _, hd⟩
  · obtain ⟨ho, _, its, _, o', ho', hc, _⟩ := I.hok a _ h
    have e : some o = some o' := ho.symm.trans ho'
    cases e
    exact ⟨⟨o, ho, hc⟩, fun b e => by cases e; exact ⟨o, ho, hd⟩⟩
  · exact ⟨⟨o, I.kIn a o h1, h2⟩, fun b e => by cases e; exact ⟨o, I.kIn a o h1, hd⟩⟩
def tBM2 (K : PySem.W.Frag) (r r2 : V → List V → Hp → VK → Prop) (to : TE) (t : TA) : TE := fun σ H Q => to σ H fun x H1 => (tyV K "list" x H1 ∧ t σ H1 fun xs H2 => r x xs H2 Q) ∨ ((∃ a xs, x = .ref a ∧ exT K H1 a xs) ∧ t σ H1 fun xs H2 => r2 x xs H2 Q)
/-- o.m(..), o a list or a tuple -/
theorem pe_bm2 (pa : PlainAttrs "list") (slot : Slot "list" name id) (hty : typeOf (.builtin id) = pure (.type "method_descriptor")) (hm : MtR X id r) (pa2 : PlainAttrs "tuple") (slot2 : Slot "tuple" name id2) (hty2 : typeOf (.builtin id2) = pure (.type "method_descriptor")) (hm2 : MtR X id2 r2) (ho : PE X o to) (ha : PA X (e :: es) t)
    (hbase : attributeBase o name X.env (eval o X.env) = eval o X.env := by rfl)
    (hfew : ((backTo cpos (starEach (e :: es) X.env)).all (fun x => !x.1) && (backToKw cpos (keywordEach [] X.env)).all (fun x => x.1.isSome)
      && decide ((e :: es).length + ([] : List Keyword).length + (if ([] : List Keyword).isEmpty then 0 else 1) < 30)) = true := by rfl)
    (hline : (apos.endLine == cpos.line) = true := by rfl) (hs : starEach (e :: es) X.env = (false, eval e X.env) :: starEach es X.env := by rfl) (hplain : (backTo cpos (starEach es X.env)).any (·.1) = false := by rfl) :
    PE X (.Call (.Attribute o name apos) (e :: es) [] cpos) (tBM2 X.K r r2 to t) := by
  refine ⟨fun pins s σ H Q I h => ?_⟩
  refine wpAny_Call_method_late hbase hfew hline rfl (thn (ho.run pins s σ H _ I h) fun v s1 ⟨x, H1, I1, r1, q⟩ => ?_)
  rcases q with ⟨ty, q1⟩ | ⟨⟨a, xs, ex, ty⟩, q1⟩
  · obtain ⟨h1, h2⟩ := tyV_is I1 r1 ty
    refine ⟨"list", id, pa, slot, hty, h1, h2, ?_⟩
    have hA := ha.run cpos pins s1 σ H1 _ I1 q1
    rw [hs] at hA ⊢
    refine Calls.callWith_builtin (by show (false || (backTo cpos (starEach es X.env)).any (·.1)) = false; rw [hplain] <;> rfl) (Calls.evalArgs_plain ?_)
    exact thn hA fun us s2 ⟨vs, H2, I2, r2', q2⟩ => hm pins s2 σ H2 x vs v us Q I2 r1 r2' q2
  · subst ex
    have ev : v = .ref a := r1
    obtain ⟨h1, h2⟩ := exT_is I1 ty
    rw [← ev] at h1 h2
    refine ⟨"tuple", id2, pa2, slot2, hty2, h1, h2, ?_⟩
    have hA := ha.run cpos pins s1 σ H1 _ I1 q1
    rw [hs] at hA ⊢
    refine Calls.callWith_builtin (by show (false || (backTo cpos (starEach es X.env)).any (·.1)) = false; rw [hplain] <;> rfl) (Calls.evalArgs_plain ?_)
    exact thn hA fun us s2 ⟨vs, H2, I2, r2', q2⟩ => hm2 pins s2 σ H2 (.ref a) vs v us Q I2 r1 r2' q2
def isSeq (d : PyData) : Bool := match d with | .list _ => true | .tuple _ => true | _ => false
/-- x.index(y) -/
theorem de_idx {m mk : M PyData} (hn : name = "index") (hu : X.A.units + 65 < cLine) (ho : DR X C E ρ o m) (hk : DE X C E ρ e mk)
    (hbase : attributeBase o name X.env (eval o X.env) = eval o X.env := by rfl)
    (hfew : ((backTo cpos (starEach [e] X.env)).all (fun x => !x.1) && (backToKw cpos (keywordEach [] X.env)).all (fun x => x.1.isSome)
      && decide ([e].length + ([] : List Keyword).length + (if ([] : List Keyword).isEmpty then 0 else 1) < 30)) = true := by rfl)
    (hline : (apos.endLine == cpos.line) = true := by rfl) (hs : starEach [e] X.env = (false, eval e X.env) :: starEach [] X.env := by rfl) (hplain : (backTo cpos (starEach [] X.env)).any (·.1) = false := by rfl) :
    DE X C E ρ (.Call (.Attribute o name apos) [e] [] cpos) (m >>= fun d => M.guard (isSeq d) (mk >>= fun k => idxM d k)) := by
  subst hn
  obtain ⟨t, h1, h2⟩ := ho
  obtain ⟨tk, k1, k2⟩ := hk
  refine ⟨_, pe_bm2 PySem.F.plainAttrs_list PySem.F.slot_list_index PySem.F.type_list_index (mt_ixL hu) PySem.F.plainAttrs_tuple PySem.F.slot_tuple_index PySem.F.type_tuple_index (mt_ixT hu) h1 (pa_cons k1 pa_nil hs) hbase hfew hline hs hplain, fun σ F H Q k hm => h2 σ F H _ k (m.mono (fun d q v F1 H1 x1 r1 => ?_) (fun er r => r) hm)⟩
  obtain ⟨hsq, q⟩ := guard_run q
  have low : ∀ {d k : PyData} {P : PyData → Prop} {R : Er → Prop}, (idxM d k).run P R → ∃ ds ks nk, itemsOf d = some ds ∧ keyNs ds = some ks ∧ keyN k = some nk ∧ nk ∈ ks ∧ nk.depth ≤ 60 ∧ ds.length ≤ sizeLine ∧ P (.int (ks.idxOf nk : Nat)) := by
    intro d k P R h
    unfold idxM at h
    split at h
    · rename_i ds e1
      split at h
      · rename_i ks nk e2 e3
        obtain ⟨g, h⟩ := guard_run h
        simp only [Bool.and_eq_true, decide_eq_true_eq] at g
        exact ⟨ds, ks, nk, e1, e2, e3, g.1.1, g.1.2, g.2, h⟩
      · exact h.elim
    · exact h.elim
  cases d with
  | list ds =>
    obtain ⟨a, vs, e1, hs1, hd1⟩ := r1.list x1.gs
    subst e1
    refine .inl ⟨.inl ⟨rfl, _, hs1⟩, k2 σ F1 H1 _ (k.ext x1) (mk.mono (fun kd q v F2 H2 x2 r2 => ?_) (fun er r => RE.later x1 er r) q)⟩
    obtain ⟨ds', ks, nk, e1, e2, e3, g1, g2, g3, q⟩ := low q
    cases e1
    obtain ⟨a', vs', e', hs', hd'⟩ := (r1.ext x2 x1.gs).list x2.gs
    cases e'
    exact ⟨a, v, kd, vs', ds, ks, nk, rfl, rfl, hs', dpAll_mono x2.gs.sub _ _ hd', dp_mono x2.gs.sub _ _ r2, e2, e3, g1, g2, g3, q _ F2 H2 (x1.trans x2) (.int _)⟩
  | tuple ds =>
    obtain ⟨a, vs, e1, hs1, hd1⟩ := r1.tupX
    subst e1
    refine .inr ⟨⟨_, _, rfl, exT_mono x1.gs.sub hs1⟩, k2 σ F1 H1 _ (k.ext x1) (mk.mono (fun kd q v F2 H2 x2 r2 => ?_) (fun er r => RE.later x1 er r) q)⟩
    obtain ⟨ds', ks, nk, e1, e2, e3, g1, g2, g3, q⟩ := low q
    cases e1
    obtain ⟨a', vs', e', hs', hd'⟩ := (r1.ext x2 x1.gs).tupX
    cases e'
    exact ⟨a, v, kd, vs', ds, ks, nk, rfl, rfl, (exT_mono x2.gs.sub hs').sq, dpAll_mono x2.gs.sub _ _ hd', dp_mono x2.gs.sub _ _ r2, e2, e3, g1, g2, q _ F2 H2 (x1.trans x2) (.int _)⟩
  | _ => cases hsq
end
end DL

set_option Elab.async false
set_option linter.all false
set_option maxRecDepth 100000
set_option maxHeartbeats 4000000
/-! the data layer: texts; enumerate; x, y = e -/
namespace DL
open PySem PySem.Spec PyProof.Rows L2
def isStr (d : PyData) : Bool := match d with | .str _ => true | _ => false
def strsOf : List PyData → Option (List Str)
  | [] => some []
  | .str x :: r => (strsOf r).map (x :: ·)
  | _ :: _ => none
theorem strsOf_some : ∀ {ds : List PyData} {ys : List Str}, strsOf ds = some ys → ds = ys.map PyData.str
  | [], ys, h => by cases h; rfl
  | .str x :: r, ys, h => by
    rw [strsOf] at h
    obtain ⟨zs, e1, rfl⟩ := Option.map_eq_some_iff.mp h
    rw [List.map_cons, strsOf_some e1]
theorem strs_map : ∀ ys : List Str, strsOf (ys.map PyData.str) = some ys
  | [] => rfl
  | y :: r => by rw [List.map_cons, strsOf, strs_map r]; rfl
theorem dpAll_strs {K : PySem.W.Frag} {F : Hp} : ∀ {ys : List Str} {vs : List V}, DpAll K F vs (ys.map PyData.str) → vs = ys.map V.str
  | [], _, h => by cases h; rfl
  | y :: ys, _, h => by
    cases h with
    | cons h r =>
      cases h
      rw [List.map_cons, dpAll_strs r]
theorem strs_dpAll {K : PySem.W.Frag} {F : Hp} : ∀ ys : List Str, DpAll K F (ys.map V.str) (ys.map PyData.str)
  | [] => .nil
  | y :: ys => .cons (.str y) (strs_dpAll ys)
section
variable {X : Cx} {C : DC} {E : XK} {ρ : REnv} {o e : Expr} {es : List Expr} {m me : M PyData} {p apos cpos pos : Pos} {name x : Str}
/-- sep.join(e) -/
def joinD : PyData → PyData → M PyData
  | .str a, .list ds => match strsOf ds with
    | some ys => .guard (decide ((ys.map (·.length)).sum + ys.length * a.length ≤ 16777216)) (pure (.str (Txt.join a ys)))
    | none => .stuck
  | .str a, .tuple ds => match strsOf ds with
    | some ys => .guard (decide ((ys.map (·.length)).sum + ys.length * a.length ≤ 16777216)) (pure (.str (Txt.join a ys)))
    | none => .stuck
  | _, _ => .stuck
theorem de_join (hn : name = "join") (ho : DR X C E ρ o m) (he : DR X C E ρ e me) (hs : starEach [e] X.env = [(false, eval e X.env)] := by rfl) (hbase : attributeBase o name X.env (eval o X.env) = eval o X.env := by rfl) (hline : (apos.endLine == cpos.line) = true := by rfl) :
    DE X C E ρ (.Call (.Attribute o name apos) [e] [] cpos) (m >>= fun d => M.guard (isStr d) (me >>= fun l => joinD d l)) := by
  subst hn
  obtain ⟨t, h1, h2⟩ := ho
  obtain ⟨te, e1, e2⟩ := he
  refine ⟨_, pe_join h1 e1 hs hbase hline, fun σ F H Q k hm => h2 σ F H _ k (m.mono (fun d q v F1 H1 x1 r1 => ?_) (fun er r => r) hm)⟩
  obtain ⟨hsd, q⟩ := guard_run q
  cases d with
  | str a =>
    rw [r1.str]
    refine ⟨⟨a, rfl⟩, e2 σ F1 H1 _ (k.ext x1) (me.mono (fun l q v F2 H2 x2 r2 => ?_) (fun er r => RE.later x1 er r) q)⟩
    cases l with
    | list ds =>
      unfold joinD at q
      dsimp only at q
      cases hd : strsOf ds with
      | none => rw [hd] at q; exact q.elim
      | some ys =>
        rw [hd] at q
        obtain ⟨hz, q⟩ := guard_run q
        obtain ⟨c, vs, rfl, hc, dc⟩ := r2.list x2.gs
        rw [strsOf_some hd] at dc
        rw [dpAll_strs dc] at hc
        exact ⟨a, c, ys, rfl, rfl, .inl hc, of_decide_eq_true hz, q _ F2 H2 (x1.trans x2) (.str _)⟩
    | tuple ds =>
      unfold joinD at q
      dsimp only at q
      cases hd : strsOf ds with
      | none => rw [hd] at q; exact q.elim
      | some ys =>
        rw [hd] at q
        obtain ⟨hz, q⟩ := guard_run q
        obtain ⟨c, vs, rfl, hc, dc⟩ := r2.tuple x2.gs
        rw [strsOf_some hd] at dc
        rw [dpAll_strs dc] at hc
        exact ⟨a, c, ys, rfl, rfl, .inr hc, of_decide_eq_true hz, q _ F2 H2 (x1.trans x2) (.str _)⟩
    | _ => exact q.elim
  | _ => cases hsd
/-- text.split(sep) -/
def splitD : PyData → PyData → M (List PyData)
  | .str a, .str b => .guard (!(b.length == 0) && decide (a.length + 2 ≤ sizeLine)) (pure ((Txt.split a b).map PyData.str))
  | _, _ => .stuck
theorem dl_split (hn : name = "split") (ho : DR X C E ρ o m) (he : DR X C E ρ e me) (hs : starEach [e] X.env = [(false, eval e X.env)] := by rfl) (hbase : attributeBase o name X.env (eval o X.env) = eval o X.env := by rfl) (hline : (apos.endLine == cpos.line) = true := by rfl) :
    DL X C E ρ (.Call (.Attribute o name apos) [e] [] cpos) (m >>= fun d => M.guard (isStr d) (me >>= fun l => splitD d l)) := by
  subst hn
  obtain ⟨t, h1, h2⟩ := ho
  obtain ⟨te, e1, e2⟩ := he
  refine ⟨_, pe_split h1 e1 hs hbase hline, fun σ F H Q k hm => h2 σ F H _ k (m.mono (fun d q v F1 H1 x1 r1 => ?_) (fun er r => r) hm)⟩
  obtain ⟨hsd, q⟩ := guard_run q
  cases d with
  | str a =>
    rw [r1.str]
    refine ⟨⟨a, rfl⟩, e2 σ F1 H1 _ (k.ext x1) (me.mono (fun l q v F2 H2 x2 r2 => ?_) (fun er r => RE.later x1 er r) q)⟩
    cases l with
    | str b =>
      obtain ⟨hz, q⟩ := guard_run (show (M.guard (!(b.length == 0) && decide (a.length + 2 ≤ sizeLine)) (pure ((Txt.split a b).map PyData.str))).run _ _ from q)
      rw [Bool.and_eq_true, Bool.not_eq_true'] at hz
      rw [r2.str]
      refine ⟨a, b, rfl, rfl, hz.1, of_decide_eq_true hz.2, fun p hp => ?_⟩
      have x02 := x1.trans x2
      have hb := none_back x02 hp
      exact q p _ F2 _ (x02.trans (ext_new x02.gs hp)) hb.1 hb.2 upd_same (strs_dpAll _)
    | _ => exact q.elim
  | _ => cases hsd
/-- str(x) -/
def strC : List PyData → M PyData
  | [.int i] => .guard (decide (i.natAbs.log2 < 1920)) (pure (.str (toString i)))
  | [.str a] => pure (.str a)
  | _ => .stuck
theorem call_strX : CallR X (.type "str") (fun xs H Q => (∃ i, xs = [.int i] ∧ i.natAbs.log2 < 1920 ∧ Q (.str (toString i)) H) ∨ ∃ a, xs = [.str a] ∧ Q (.str a) H) := call_str_int.or SkE.call_str_str
theorem str_ok {K : PySem.W.Frag} : CallOk K C (fun xs H Q => (∃ i, xs = [.int i] ∧ i.natAbs.log2 < 1920 ∧ Q (.str (toString i)) H) ∨ ∃ a, xs = [.str a] ∧ Q (.str a) H) strC := by
  intro W F H vs ds Q R g rv h
  match ds, h with
  | [.int i], h =>
    obtain ⟨v, rfl, r⟩ := paired1 rv
    rw [r.int]
    obtain ⟨hl, h⟩ := guard_run h
    exact .inl ⟨i, rfl, of_decide_eq_true hl, h _ F H (.refl g) (.str _)⟩
  | [.str a], h =>
    obtain ⟨v, rfl, r⟩ := paired1 rv
    rw [r.str]
    exact .inr ⟨a, rfl, h _ F H (.refl g) (.str _)⟩
/-! ### f-strings -/
def DJ (X : Cx) (C : DC) (E : XK) (ρ : REnv) (es : List Expr) (f : Str → M Str) : Prop := ∃ ts, PJ X es ts ∧ ∀ acc σ F H (Q : Str → Hp → Prop), Ok C X.K ρ σ F H →
  (f acc).run (fun y => ∀ F' H', Ext C X.K (drA ρ σ) F H F' H' → Q y H') (RE C X.K E (drA ρ σ) F H) → tJs ts acc σ H Q
def fmtM : PyData → M Str
  | .str y => .guard (decide (y.length ≤ sizeLine)) (pure y)
  | .int i => .guard (decide (i.natAbs.log2 < 1920)) (pure (toString i))
  | _ => .stuck
theorem dj_nil : DJ X C E ρ [] (fun acc => pure acc) := ⟨[], .nil, fun acc σ F H Q k hm => hm F H (.refl k.gs)⟩
theorem dj_str {s : Str} {f : Str → M Str} {kk : Nat} (h : DJ X C E ρ es f) : DJ X C E ρ (.Constant (.str s) kk p :: es) (fun acc => M.guard (decide ((acc ++ s).length ≤ sizeLine)) (f (acc ++ s))) := by
  obtain ⟨ts, h1, h2⟩ := h
  refine ⟨_, .cons pe_str h1, fun acc σ F H Q k hm => ?_⟩
  obtain ⟨hz, hm⟩ := guard_run hm
  exact ⟨s, rfl, of_decide_eq_true hz, h2 _ σ F H Q k hm⟩
theorem dj_fmt {f : Str → M Str} (he : DR X C E ρ e me) (h : DJ X C E ρ es f) : DJ X C E ρ (.FormattedValue e (-1) none p :: es) (fun acc => me >>= fun d => fmtM d >>= fun y => M.guard (decide ((acc ++ y).length ≤ sizeLine)) (f (acc ++ y))) := by
  obtain ⟨ts, h1, h2⟩ := h
  obtain ⟨te, e1, e2⟩ := he
  refine ⟨_, .cons (pe_fmt e1) h1, fun acc σ F H Q k hm => e2 σ F H _ k (me.mono (fun d q v F1 H1 x1 r1 => ?_) (fun er r => r) hm)⟩
  cases d with
  | str y =>
    rw [r1.str]
    obtain ⟨hz, q⟩ := guard_run (show (M.guard (decide (y.length ≤ sizeLine)) (pure y)).run _ _ from q)
    obtain ⟨hz2, q⟩ := guard_run q
    exact .inl ⟨y, rfl, of_decide_eq_true hz, y, rfl, of_decide_eq_true hz2, h2 _ σ F1 H1 Q (k.ext x1) ((f (acc ++ y)).mono (fun out q F2 H2 x2 => q F2 H2 (x1.trans x2)) (fun er r => RE.later x1 er r) q)⟩
  | int i =>
    rw [r1.int]
    obtain ⟨hz, q⟩ := guard_run (show (M.guard (decide (i.natAbs.log2 < 1920)) (pure (toString i : Str))).run _ _ from q)
    obtain ⟨hz2, q⟩ := guard_run q
    exact .inr ⟨i, rfl, of_decide_eq_true hz, _, rfl, of_decide_eq_true hz2, h2 _ σ F1 H1 Q (k.ext x1) ((f _).mono (fun out q F2 H2 x2 => q F2 H2 (x1.trans x2)) (fun er r => RE.later x1 er r) q)⟩
  | _ => exact q.elim
theorem de_joined {v1 v2 : Expr} {rest : List Expr} {f : Str → M Str} (h : DJ X C E ρ (v1 :: v2 :: rest) f) : DE X C E ρ (.JoinedStr (v1 :: v2 :: rest) pos) (f Str.empty >>= fun y => pure (.str y)) := by
  obtain ⟨ts, h1, h2⟩ := h
  exact ⟨_, pe_joined h1, fun σ F H Q k hm => h2 _ σ F H _ k ((f Str.empty).mono (fun y q F' H' x => q _ F' H' x (.str y)) (fun _ r => r) hm)⟩
theorem de_joined1 (he : DR X C E ρ e me) : DE X C E ρ (.JoinedStr [.FormattedValue e (-1) none p] pos) (me >>= fun d => fmtM d >>= fun y => pure (.str y)) := by
  obtain ⟨te, e1, e2⟩ := he
  refine ⟨_, pe_joined1 (pe_fmt e1), fun σ F H Q k hm => e2 σ F H _ k (me.mono (fun d q v F1 H1 x1 r1 => ?_) (fun er r => r) hm)⟩
  cases d with
  | str y =>
    rw [r1.str]
    obtain ⟨hz, q⟩ := guard_run (show (M.guard (decide (y.length ≤ sizeLine)) (pure y)).run _ _ from q)
    exact .inl ⟨y, rfl, of_decide_eq_true hz, q _ F1 H1 x1 (.str _)⟩
  | int i =>
    rw [r1.int]
    obtain ⟨hz, q⟩ := guard_run (show (M.guard (decide (i.natAbs.log2 < 1920)) (pure (toString i : Str))).run _ _ from q)
    exact .inr ⟨i, rfl, of_decide_eq_true hz, q _ F1 H1 x1 (.str _)⟩
  | _ => exact q.elim
/-! ### enumerate(list) -/
def enumL (ds : List PyData) : List PyData := (List.range ds.length).zipWith (fun i d => PyData.tuple [.int (i : Nat), d]) ds
def enumM : List PyData → M (List PyData)
  | [.list xs] => pure (enumL xs)
  | _ => .stuck
theorem enumL_get {ds : List PyData} {i : Nat} {d : PyData} (h : (enumL ds)[i]? = some d) : ∃ c, ds[i]? = some c ∧ d = .tuple [.int (i : Nat), c] := by
  unfold enumL at h
  rw [List.getElem?_zipWith] at h
  cases h1 : (List.range ds.length)[i]? with
  | none => rw [h1] at h; cases h
  | some j =>
    cases h2 : ds[i]? with
    | none => rw [h1, h2] at h; cases h
    | some c =>
      rw [h1, h2] at h
      obtain ⟨hl, e⟩ := List.getElem?_eq_some_iff.mp h1
      rw [List.getElem_range] at e
      subst e
      cases h
      exact ⟨c, rfl, rfl⟩
theorem wkE {K : PySem.W.Frag} {F : Hp} {a : Addr} {xs : List V} {ds : List PyData} (hx : SqL K F a xs) (dx : DpAll K F xs ds) : WkF true C K F (Ite K a) (enumL ds) := by
  intro F2 H2 i g2 sb
  have hx2 := sql_mono g2.sub (sql_mono sb hx)
  have dx2 := dpAll_mono sb _ _ dx
  refine ⟨fun hi => ⟨xs, hx2, ?_⟩, fun d hd => ?_⟩
  · rw [DpAll.length dx]
    have : (enumL ds).length = ds.length := by simp [enumL]
    omega
  · obtain ⟨c, h1, rfl⟩ := enumL_get hd
    obtain ⟨v, hv, dv⟩ := DpAll.get dx2 h1
    refine ⟨⟨xs, v, hx2, hv⟩, fun x H3 ⟨T, x1, e, hT, e3, q1⟩ => ?_⟩
    have z1 := q1 xs hx2
    rw [hv] at z1
    cases z1
    subst e e3
    exact pair_new g2 hT (.int _) dv
theorem df_enum {elts : List Expr} {kk : Nat} {tpos : Pos} {ms : M (List PyData)} (hg : Gl X "enumerate") (hm : X.mg "enumerate" = none) (ha : DA X C E ρ [e] ms) (hs : starEach [e] X.env = [(false, eval e X.env)] := by rfl) :
    DF X C E ρ true (.Tuple elts kk tpos) (.Call (.Name "enumerate" p) [e] [] pos) (ms >>= enumM) := by
  obtain ⟨t, h1, h2⟩ := ha
  refine ⟨_, pi_enum hg hm h1 hs, fun σ F H R k hm => h2 σ F H _ k (ms.mono (fun ds q vs F' H' x r => ?_) (fun _ r => r) hm)⟩
  match ds, q with
  | [.list xs], q =>
    cases r with
    | cons r1 r =>
      cases r
      cases r1 with
      | lst hs hd => exact ⟨_, _, rfl, sql_mono x.gs.sub hs, q _ F' H' x (wkE hs hd)⟩
end
/-! ### x, y = e -/
def pat2l : PyData → M (PyData × PyData)
  | .list [a, b] => pure (a, b)
  | _ => .stuck
section
variable {X : Cx} {C : DC} {E : XK} {ρ : REnv} {p p2 pos : Pos} {i j : Nat} {x y : Str}
theorem dgs_2l {k : Nat} {K : PySem.W.Frag} (hK : X.K = K) (hc : X.calm = true) (hN : X.N.Nodup) (hi : X.N[i]? = some x) (hx : Loc X.env.scope x) (hj : X.N[j]? = some y) (hy : Loc X.env.scope y) (hs : slotFree ρ i = true) (hs2 : ∀ d, slotFree (ρ.set i (some (.val d))) j = true)
    (hf : X.fn x = true ∨ X.env.scope.names.lookup x = some .local := by first | exact .inl rfl | exact .inr rfl) (hf2 : X.fn y = true ∨ X.env.scope.names.lookup y = some .local := by first | exact .inl rfl | exact .inr rfl)
    (hn : (assignEach [.Name x p, .Name y p2] X.env).length = 2 := by rfl) (hst : (assignEach [.Name x p, .Name y p2] X.env).findIdx? (·.1) = none := by rfl) :
    DGs X C false ρ (.Tuple [.Name x p, .Name y p2] k pos) pat2l (fun c => (ρ.set i (some (.val c.1))).set j (some (.val c.2))) (gUnl K 2 (gCons (gName i) (gCons (gName j) gNil))) := by
  subst hK
  have hpg : PGs X [.Name x p, .Name y p2] (gCons (gName i) (gCons (gName j) gNil)) := pgs_cons (pg_name hN hi hx hf) (pgs_cons (pg_name hN hj hy hf2) pgs_nil)
  refine ⟨pg_unl hc hpg hn hst, fun W F0 H0 σ F H Q R v d jd h q => ?_⟩
  match d, q with
  | .list [a, b], q =>
    cases h.strict with
    | lst hs1 hd =>
      obtain ⟨v1, v2, rfl, d1, d2⟩ := dpAll2 hd
      exact ⟨_, _, rfl, sql_mono jd.ok.gs.sub hs1, rfl, v1, [v2], rfl, v2, [], rfl, rfl, q _ ((jd.putV d1 hs).putV d2 (hs2 a))⟩
end
section
variable {X : Cx} {C : DC} {E : XK} {ρ : REnv} {e tg : Expr} {γ δ : Type} {ρ' : γ → REnv} {rest : List Stmt} {pos : Pos}
theorem dss_asg {m : M PyData} {pat : PyData → M δ} {ρ2 : δ → REnv} {g : TG} {f : δ → M (Fl γ)} (he : DE X C E ρ e m) (hg : DGs X C false ρ tg pat ρ2 g) (hr : ∀ c, DSs X C E (ρ2 c) rest ρ' (f c))
    (hsw : swapsWithSole [tg] e pos.line X.env = pure false := by rfl) (hw : swappedStores [tg] e X.env = pure none := by rfl) (h1 : (assignEach [tg] X.env).map (·.2) = [assign tg X.env] := by rfl) :
    DSs X C E ρ (.Assign [tg] e pos :: rest) ρ' (m >>= fun d => pat d >>= f) := by
  obtain ⟨t, e1, e2⟩ := he
  refine ⟨_, pss_cons (ps_asg e1 hg.pg hsw hw h1) (DSs.pss hr), fun W F0 H0 σ F H D jd hm => e2 σ F H _ jd.ok (m.mono (fun d q v F1 H1 x1 hv => ?_) (fun er r => jd.re r) hm)⟩
  have j1 := jd.step x1
  exact hg.ok W F0 H0 σ F1 H1 _ _ v d j1 (.inl hv) ((pat d).mono (fun c q σ' j' => tSS.mk c j' (x1.fsub jd.ok.gs) q) (fun _ r => r) q)
end
end DL

set_option Elab.async false
set_option linter.all false
set_option maxRecDepth 100000
set_option maxHeartbeats 4000000
/-! the data layer: errors of two fields -/
namespace DL
open PySem PySem.Spec PyProof.Rows L2
def spIni2 (K : PySem.W.Frag) (C : Addr) (f1 f2 : Str) : Sp := fun vs H Q _ => ∃ (a : Addr) (v w : V), vs = [.ref a, v, w] ∧ H a = some (exo a C none) ∧ Shows K H v ∧ Shows K H w ∧
  ∀ dx, H dx = none → dx ≠ a → Q .non (upd (upd (upd H dx (exd dx [(f1, v)])) a (exo a C (some dx))) dx (exd dx [(f2, w), (f1, v)]))
section
variable {P : Program} {w : World} {K : PySem.W.Frag} {mg : Str → Option Value} {base : Heap}
theorem ini2 {CX : CXT} {qual f1 f2 txt mid : Str} {N : List Str} {fI C cda cc : Addr} {k : Nat} {pl : Env → Sem Bool} {st : Stmt} {fd : FuncData} {p0 p1 p2 p4 p5 p6 p7 p8 p9 p10 p11 p12 q0 q1 q2 q3 u0 u1 u2 u3 : Pos} {jj j2 : Nat}
    (F : SupF P K C fI qual st fd cda cc) (hN : N = [("self" : Str), f1, f2]) (S : SupS N N (defScope st)) (hf : PySem.W.findIn K (.ref C) f1 = some none) (hf2 : PySem.W.findIn K (.ref C) f2 = some none)
    (hbody : defBody st = [.Expr (.Call (.Attribute (.Call (.Name "super" p0) [] [] p1) "__init__" p2) [.JoinedStr [.Constant (.str txt) jj p6, .FormattedValue (.Name f1 p7) (-1) none p8, .Constant (.str mid) j2 p10, .FormattedValue (.Name f2 p11) (-1) none p12] p9] [] p4) p5, .Assign [.Attribute (.Name "self" q0) f1 q1] (.Name f1 q2) q3, .Assign [.Attribute (.Name "self" u0) f2 u1] (.Name f2 u2) u3])
    (hfl : (defScope st).names.lookup f1 = some .local) (hfl2 : (defScope st).names.lookup f2 = some .local) (hsl : (defScope st).names.lookup ("self" : Str) = some .local) (hd : (f1 == ("__debug__" : Str)) = false) (hcd : (f1 == ("__classdict__" : Str)) = false) (hd2 : (f2 == ("__debug__" : Str)) = false) (hcd2 : (f2 == ("__classdict__" : Str)) = false) (htx : txt.length ≤ 1000) (hmi : mid.length ≤ 1000)
    (hpar : ((defArgs st).posonlyargs ++ (defArgs st).args).head?.map (·.arg) = some ("self" : Str))
    (htop : (P.main.scope.names.lookup ("super" : Str)).isSome = false) (hms : mg "super" = none)
    (hst : ∀ X : Cx, starEach [.JoinedStr [.Constant (.str txt) jj p6, .FormattedValue (.Name f1 p7) (-1) none p8, .Constant (.str mid) j2 p10, .FormattedValue (.Name f2 p11) (-1) none p12] p9] X.env = (false, eval (.JoinedStr [.Constant (.str txt) jj p6, .FormattedValue (.Name f1 p7) (-1) none p8, .Constant (.str mid) j2 p10, .FormattedValue (.Name f2 p11) (-1) none p12] p9) X.env) :: starEach [] X.env)
    (hsw : ∀ X : Cx, swapsWith (.Name f1 q2) (some (.Attribute (.Name "self" q0) f1 q1)) q3.line X.env = pure false) (hsw2 : ∀ X : Cx, swapsWith (.Name f2 u2) (some (.Attribute (.Name "self" u0) f2 u1)) u3.line X.env = pure false)
    (he : ∀ env : Env, eval (.Call (.Attribute (.Call (.Name "super" p0) [] [] p1) "__init__" p2) [.JoinedStr [.Constant (.str txt) jj p6, .FormattedValue (.Name f1 p7) (-1) none p8, .Constant (.str mid) j2 p10, .FormattedValue (.Name f2 p11) (-1) none p12] p9] [] p4) env = (do
        let ov ← attributeBase (.Call (.Name "super" p0) [] [] p1) "__init__" env (eval (.Call (.Name "super" p0) [] [] p1) env)
        standAt p2.atName
        let (f, first) ← holding [ov] (getMethod ov "__init__" (pl env))
        callWith p4 f first (backTo p4 (starEach [.JoinedStr [.Constant (.str txt) jj p6, .FormattedValue (.Name f1 p7) (-1) none p8, .Constant (.str mid) j2 p10, .FormattedValue (.Name f2 p11) (-1) none p12] p9] env)) [])) :
    FnOk P w K mg base CX (k + 1) fI fd N (spIni2 K C f1 f2) := by
  refine ini_of F S hbody (by rw [hN]; rfl) hpar htop hms (fun vs H Q E ⟨a, v, w2, e, _⟩ => by rw [e, hN]; rfl) (fun A outer s H vs Q E hr ⟨a, v, w2, e, ha, hsh, hsh2, q⟩ => ?_) hst he
  subst e
  subst hN
  have pF : ∀ p, PE (iniCx CX P w K mg base [("self" : Str), f1, f2] qual (defScope st) fI (.ref cda) cc A outer s H E) (.Name f1 p) (tVar 1) := fun p => pe_var (i := 1) rfl (.inl hfl) hd hcd
  have pG : ∀ p, PE (iniCx CX P w K mg base [("self" : Str), f1, f2] qual (defScope st) fI (.ref cda) cc A outer s H E) (.Name f2 p) (tVar 2) := fun p => pe_var (i := 2) rfl (.inl hfl2) hd2 hcd2
  have pS : ∀ p, PE (iniCx CX P w K mg base [("self" : Str), f1, f2] qual (defScope st) fI (.ref cda) cc A outer s H E) (.Name "self" p) (tVar 0) := fun p => pe_var (i := 0) rfl (.inl hsl) (by decide)
  refine ⟨a, [v, w2], _, _, rfl, ha, pe_joined (.cons pe_str (.cons (pe_fmtD hr (pF _)) (.cons pe_str (.cons (pe_fmtD hr (pG _)) .nil)))), pss_cons (ps_ost (pS _) (pF _) (hsw _)) (pss_one (ps_ost (pS _) (pG _) (hsw2 _))), ?_⟩
  have l0 : Str.empty.length = 0 := rfl
  refine ⟨txt, rfl, ?_, v, rfl, hsh, fun m hm => ⟨m, rfl, ?_, mid, rfl, ?_, w2, rfl, hsh2, fun m2 hm2 => ⟨m2, rfl, ?_, ?_⟩⟩⟩
  · show (Str.empty ++ txt).length ≤ sizeLine
    rw [Str.length_append, sizeLine_eq]
    omega
  · show (Str.empty ++ txt ++ m).length ≤ sizeLine
    rw [Str.length_append, Str.length_append, sizeLine_eq]
    omega
  · show (Str.empty ++ txt ++ m ++ mid).length ≤ sizeLine
    rw [Str.length_append, Str.length_append, Str.length_append, sizeLine_eq]
    omega
  · show (Str.empty ++ txt ++ m ++ mid ++ m2).length ≤ sizeLine
    rw [Str.length_append, Str.length_append, Str.length_append, Str.length_append, sizeLine_eq]
    omega
  · refine ⟨⟨_, rfl⟩, ha, v, rfl, .ref a, rfl, a, C, rfl, F.T, hf, .inl ⟨ha, fun dx hdx hne => ?_⟩⟩
    refine ⟨w2, rfl, .ref a, rfl, a, C, rfl, F.T, hf2, .inr ⟨dx, [(f1, v)], upd_same, ?_, by show 1 ≤ 900; decide, q dx hdx hne⟩⟩
    rw [upd_ne hne, upd_same]
end
/-! ### raise, two fields -/
section
variable {X : Cx} {C : DC} {E : XK} {ρ : REnv} {e e2 : Expr} {γ : Type} {ρ' : γ → REnv} {rest : List Stmt} {p p2 pos : Pos} {x : Str} {K : PySem.W.Frag}
def raise2 (mk : PyData → PyData → Er) (d d2 : PyData) {β : Type} : M β := M.guard (showsD d && showsD d2) (M.err (mk d d2))
theorem shows_up {H : Hp} {K : PySem.W.Frag} {v : V} {o : Addr} {u : HO} (ho : H o = none) (h : Shows K H v) : Shows K (upd H o u) v := by
  rcases h with h | ⟨ta, vs, rfl, ht, hl⟩
  · exact .inl h
  · refine .inr ⟨ta, vs, rfl, sqt_mono (fun b z h => ?_) ht, hl⟩
    rw [upd_ne (fun z => by rw [z, ho] at h; cases h)]
    exact h
theorem dss_raise2 {m m2 : M PyData} {A fI : Addr} {f1 f2 : Str} {k : Nat} {fd : FuncData} {ps : List Str} (mk : PyData → PyData → Er) (hmk : ∀ n l F H dd y, dd = some y → (∃ z u, H y = some (.xd [(f2, u), (f1, z)]) ∧ Dp X.K F z n ∧ Dp X.K F u l) → ErRep C X.K F H (mk n l) (.ref A) dd)
    (hc : X.calm = true) (tk : Takes X (fun cls d _ H => E cls d H)) (T : OexC X.K A) (iC : PySem.W.findIn X.K (.ref A) "__init__" = some (some (.ref fI))) (tI : PySem.W.typeIn X.K (.ref fI) = some (.type "function"))
    (F1 : FnOk X.prog X.w X.K X.mg X.base (L2.CX X.prog X.w) k fI fd ps (spIni2 X.K A f1 f2)) (hr : Room (k + 1) X.A) (hb : Binds X.K fd ps []) (hg : Gl X x) (hm : X.mg x = some (.ref A)) (he : DE X C E ρ e m) (he2 : DE X C E ρ e2 m2)
    (hdb : (x == ("__debug__" : Str)) = false := by decide) (hst : starEach [e, e2] X.env = (false, eval e X.env) :: starEach [e2] X.env := by rfl) (hst2 : starEach [e2] X.env = (false, eval e2 X.env) :: starEach [] X.env := by rfl) (hpl : (backTo p2 (starEach [e2] X.env)).any (·.1) = false := by rfl) :
    DSs X C E ρ (.Raise (some (.Call (.Name x p) [e, e2] [] p2)) none pos :: rest) ρ' (m >>= fun d => m2 >>= fun d2 => raise2 mk d d2) := by
  obtain ⟨t, h1, h2⟩ := he
  obtain ⟨t2, h3, h4⟩ := he2
  have hx : Passes (L2.CX X.prog X.w) X (fun _ _ _ => False) := fun _ _ _ _ _ _ _ ⟨_, _, _, _, _, _, _, _, _, _, _, _, z⟩ => z.elim
  refine ⟨_, pss_cons (ps_raise hc tk (pmk_oex T iC tI F1 hr hb .nil hx hg hm (pa_cons h1 (pa_cons h3 pa_nil hst2) hst) hdb hst hpl)) pss_never, fun W F0 H0 σ F H D jd hq => h2 σ F H _ jd.ok (m.mono (fun d q v F1 H1 x1 hv1 => ?_) (fun er r => jd.re r) hq)⟩
  have j1 := jd.step x1
  refine h4 σ F1 H1 _ j1.ok (m2.mono (fun d2 q w F2 H2 x2 hw => ?_) (fun er r => j1.re r) q)
  obtain ⟨hs, q⟩ := guard_run q
  rw [Bool.and_eq_true] at hs
  have q : RE C X.K E W F0 H0 (mk d d2) := q
  have hv : Dp X.K F2 v d := dp_mono (x2.fsub x1.gs) _ _ hv1
  have j2 := j1.step x2
  refine ⟨by show 2 ≤ 1000; decide, fun o ho => ⟨o, v, w, rfl, upd_same, shows_up ho (shows_dp j2.ok.gs hv hs.1), shows_up ho (shows_dp j2.ok.gs hw hs.2), fun dx hdx hne => ⟨rfl, dx, [(f2, w), (f1, v)], ?_, upd_same, ?_, ?_⟩⟩⟩
  · rw [upd_ne (Ne.symm hne), upd_same]
  · rw [upd_ne hne] at hdx
    exact hdx
  · have hdx2 : H2 dx = none := by rw [upd_ne hne] at hdx; exact hdx
    have k : ∀ b u, H2 b = some u → upd (del (upd (upd (upd (upd H2 o (exo o A none)) dx (exd dx [(f1, v)])) o (exo o A (some dx))) dx (exd dx [(f2, w), (f1, v)])) o) dx (.xd [(f2, w), (f1, v)]) b = some u := fun b u h => by
      have hb : b ≠ dx := fun z => by rw [z, hdx2] at h; cases h
      have hb2 : b ≠ o := fun z => by rw [z, ho] at h; cases h
      rw [upd_ne hb, del_ne hb2, upd_ne hb, upd_ne hb2, upd_ne hb, upd_ne hb2]
      exact h
    exact q _ _ F2 _ (j2.ext.trans (ext_grow j2.ok.gs k)) (hmk d d2 F2 _ _ dx rfl ⟨v, w, upd_same, hv, hw⟩)
theorem er_unread : ∀ n l F H dd y, dd = some y → (∃ z u, H y = some (.xd [("why", u), ("line", z)]) ∧ Dp K F z n ∧ Dp K F u l) → ErRep C K F H (Er.unread n l) (.ref C.cUnr) dd := fun n l F H dd y e ⟨z, u, h1, h2, h3⟩ => ⟨rfl, y, z, u, e, h1, h2, h3⟩
end
end DL

set_option Elab.async false
set_option linter.all false
set_option maxRecDepth 100000
set_option maxHeartbeats 2000000
/-! what mirrors return: equations and invariants, with no program in sight -/
namespace DL
open PySem PySem.Spec PyProof.Rows L2
/-! ### the monad -/
section
variable {α β γ δ σ : Type}
theorem M.guard_of {b : Bool} {m : M α} (h : b = true) : M.guard b m = m := by rw [h]; rfl
theorem M.noe_pure (a : α) : M.noe (pure a : M α) = pure a := rfl
theorem M.if_true {m m' : M α} : (if true = true then m else m') = m := if_pos rfl
theorem M.if_false {m m' : M α} : (if false = true then m else m') = m' := if_neg (by decide)
theorem thn_nx (c : α) (f : α → M (Fl γ)) : M.thn (pure (Fl.nx c)) f = f c := rfl
theorem thn_rt (d : PyData) (f : α → M (Fl γ)) : M.thn (pure (Fl.rt d)) f = pure (.rt d) := rfl
theorem fin_nx (c : α) : M.fin (pure (Fl.nx c)) = pure PyData.none := rfl
theorem fin_rt (d : PyData) : M.fin (pure (Fl.rt d) : M (Fl γ)) = pure d := rfl
theorem compM_eq {pat : PyData → M γ} {t : γ → M Bool} {f : γ → M PyData} {enc : α → PyData} {c : α → γ} {tb : α → Bool} {g : α → PyData} : ∀ {xs : List α},
    (∀ x ∈ xs, pat (enc x) = pure (c x)) → (∀ x ∈ xs, t (c x) = pure (tb x)) → (∀ x ∈ xs, tb x = true → f (c x) = pure (g x)) → compM pat t f (xs.map enc) = pure ((xs.filter tb).map g)
  | [], _, _, _ => rfl
  | x :: r, hp, ht, hf => by
    have ih := compM_eq (xs := r) (fun y h => hp y (.tail _ h)) (fun y h => ht y (.tail _ h)) (fun y h => hf y (.tail _ h))
    rw [List.map_cons, compM, hp x List.mem_cons_self, M.pure_bind', ht x List.mem_cons_self, M.pure_bind', ih]
    cases e : tb x with
    | true => rw [M.if_true, hf x List.mem_cons_self e, M.pure_bind', M.noe_pure, M.pure_bind', M.pure_bind', List.filter_cons_of_pos e]; rfl
    | false => rw [M.if_false, M.noe_pure, M.pure_bind', M.pure_bind', List.filter_cons_of_neg (by rw [e]; decide)]
theorem compM_all {pat : PyData → M γ} {f : γ → M PyData} {enc : α → PyData} {c : α → γ} {g : α → PyData} {xs : List α} (hp : ∀ x ∈ xs, pat (enc x) = pure (c x)) (hf : ∀ x ∈ xs, f (c x) = pure (g x)) :
    compM pat (fun _ => pure true) f (xs.map enc) = pure (xs.map g) := by
  rw [compM_eq (tb := fun _ => true) hp (fun _ _ => rfl) fun x h _ => hf x h]
  congr 2
  exact List.filter_eq_self.mpr fun _ _ => rfl
theorem gxM_all {pat : PyData → M γ} {f : γ → M Bool} {enc : α → PyData} {c : α → γ} {p : α → Bool} : ∀ {xs : List α}, (∀ x ∈ xs, pat (enc x) = pure (c x)) → (∀ x ∈ xs, f (c x) = pure (p x)) → gxM false pat f (xs.map enc) = pure (xs.all p)
  | [], _, _ => rfl
  | x :: r, hp, hf => by
    have ih := gxM_all (xs := r) (fun y h => hp y (.tail _ h)) (fun y h => hf y (.tail _ h))
    rw [List.map_cons, gxM, hp x List.mem_cons_self, M.pure_bind', hf x List.mem_cons_self, M.noe_pure, M.pure_bind', ih]
    cases e : p x <;> simp [e]
theorem gxM_any {pat : PyData → M γ} {f : γ → M Bool} {enc : α → PyData} {c : α → γ} {p : α → Bool} : ∀ {xs : List α}, (∀ x ∈ xs, pat (enc x) = pure (c x)) → (∀ x ∈ xs, f (c x) = pure (p x)) → gxM true pat f (xs.map enc) = pure (xs.any p)
  | [], _, _ => rfl
  | x :: r, hp, hf => by
    have ih := gxM_any (xs := r) (fun y h => hp y (.tail _ h)) (fun y h => hf y (.tail _ h))
    rw [List.map_cons, gxM, hp x List.mem_cons_self, M.pure_bind', hf x List.mem_cons_self, M.noe_pure, M.pure_bind', ih]
    cases e : p x <;> simp [e]
/-- a for by what holds behind each turn -/
theorem forM_inv {pat : PyData → M δ} {body : γ → δ → M (Fl γ)} {enc : α → PyData} {ec : σ → γ} {xs : List α} (I : List α → σ → Prop)
    (hb : ∀ pre x, (∃ post, xs = pre ++ x :: post) → ∀ c, I pre c → ∃ c', (pat (enc x) >>= fun p => body (ec c) p) = pure (.nx (ec c')) ∧ I (pre ++ [x]) c') (c : σ) (h0 : I [] c) : ∃ c', forM pat body (xs.map enc) (ec c) = pure (.nx (ec c')) ∧ I xs c' := by
  have key : ∀ (post pre : List α) (c : σ), xs = pre ++ post → I pre c → ∃ c', forM pat body (post.map enc) (ec c) = pure (.nx (ec c')) ∧ I xs c' := by
    intro post
    induction post with
    | nil =>
      intro pre c e h
      exact ⟨c, rfl, by rw [e, List.append_nil]; exact h⟩
    | cons x r ih =>
      intro pre c e h
      obtain ⟨c1, h1, h2⟩ := hb pre x ⟨r, e⟩ c h
      obtain ⟨c2, h3, h4⟩ := ih (pre ++ [x]) c1 (by rw [e]; simp) h2
      refine ⟨c2, ?_, h4⟩
      rw [List.map_cons, forM, h1, thn_nx]
      exact h3
  exact key xs [] c rfl h0
/-- a while by what holds and what falls -/
theorem whileM_inv {test : γ → M Bool} {body : γ → M (Fl γ)} {ec : σ → γ} (I : σ → Prop) (tb : σ → Bool) (mu : σ → Nat) (ht : ∀ s, I s → test (ec s) = pure (tb s))
    (hb : ∀ s, I s → tb s = true → ∃ s', body (ec s) = pure (.nx (ec s')) ∧ I s' ∧ mu s' < mu s) : ∀ (n : Nat) (s : σ), I s → mu s < n → ∃ s', whileM test body n (ec s) = pure (.nx (ec s')) ∧ I s' ∧ tb s' = false
  | 0, _, _, h => absurd h (by omega)
  | n + 1, s, h, hn => by
    rw [whileM, ht s h, M.pure_bind']
    cases e : tb s with
    | false => exact ⟨s, by rw [M.if_false], h, e⟩
    | true =>
      obtain ⟨s1, h1, h2, h3⟩ := hb s h e
      obtain ⟨s2, h4, h5⟩ := whileM_inv I tb mu ht hb n s1 h2 (by omega)
      exact ⟨s2, by rw [M.if_true, h1, thn_nx]; exact h4, h5⟩
/-- a for that may end the def -/
theorem forM_find {pat : PyData → M δ} {body : Unit → δ → M (Fl Unit)} {enc : α → PyData} {p : α → Bool} {g : α → PyData} : ∀ {xs : List α},
    (∀ x ∈ xs, (pat (enc x) >>= fun q => body () q) = if p x = true then pure (.rt (g x)) else pure (.nx ())) → forM pat body (xs.map enc) () = match xs.find? p with
      | some x => pure (.rt (g x))
      | none => pure (.nx ())
  | [], _ => rfl
  | x :: r, h => by
    rw [List.map_cons, forM, h x List.mem_cons_self]
    cases e : p x with
    | true => rw [M.if_true, thn_rt, List.find?_cons_of_pos e]
    | false => rw [M.if_false, thn_nx, List.find?_cons_of_neg (by rw [e]; decide)]; exact forM_find fun y hy => h y (.tail _ hy)
end
/-! ### numbers, comparisons -/
theorem szb {n : Nat} (h : n ≤ 100000) : decide (n ≤ sizeLine) = true := decide_eq_true (by rw [sizeLine_eq]; omega)
theorem szl {n : Nat} (h : n ≤ 1000) : decide (n ≤ sizeLine) = true := decide_eq_true (by rw [sizeLine_eq]; omega)
theorem szlt {n : Nat} (h : n ≤ 1000) : decide (n < sizeLine) = true := decide_eq_true (by rw [sizeLine_eq]; omega)
theorem eqM_int (i j : Int) : eqM (.int i) (.int j) = pure (i == j) := rfl
theorem neM_int (i j : Int) : neM (.int i) (.int j) = pure (!(i == j)) := rfl
theorem ord_lt (i j : Int) : ordM .lt (.int i) (.int j) = pure (decide (i < j)) := by
  unfold ordM
  rw [M.guard_of]
  · show pure (PySem.W.dataLt _ _) = _
    rw [PySem.W.dataLt_int]
  · rfl
theorem ord_gt (i j : Int) : ordM .gt (.int i) (.int j) = pure (decide (j < i)) := by
  unfold ordM
  rw [M.guard_of]
  · show pure (PySem.W.dataLt _ _) = _
    rw [PySem.W.dataLt_int]
  · rfl
theorem ord_le (i j : Int) : ordM .le (.int i) (.int j) = pure (decide (i ≤ j)) := by
  unfold ordM
  rw [M.guard_of]
  · show pure (!PySem.W.dataLt _ _) = _
    rw [PySem.W.dataLt_int, PySem.W.not_lt_int]
  · rfl
theorem ord_ge (i j : Int) : ordM .ge (.int i) (.int j) = pure (decide (j ≤ i)) := by
  unfold ordM
  rw [M.guard_of]
  · show pure (!PySem.W.dataLt _ _) = _
    rw [PySem.W.dataLt_int, PySem.W.not_lt_int]
  · rfl
/-- a pair of numbers, a row of numbers -/
def eP (p : Int × Int) : PyData := .tuple [.int p.1, .int p.2]
def eT (g : List Int) : PyData := .tuple (g.map .int)
def eR (g : List Int) : PyData := .list (g.map .int)
def le2 (p q : Int × Int) : Bool := decide (p.1 < q.1 ∨ (p.1 = q.1 ∧ p.2 ≤ q.2))
theorem ord_pair (p q : Int × Int) : ordM .le (eP p) (eP q) = pure (le2 p q) := by
  unfold ordM
  rw [M.guard_of]
  · exact congrArg pure (congrFun (congrFun (PySem.W.dataLe_ii (β := Int × Int) (fun b => b.1) fun b => b.2) p) q)
  · rfl
/-! ### places -/
theorem atD_list {xs : List PyData} {i : Nat} {d : PyData} (h : xs[i]? = some d) : atD (.list xs) (.int i) = pure d := by
  have hl := (List.getElem?_eq_some_iff.mp h).1
  have e : atI xs (i : Int) = some d := by
    unfold atI
    rw [show ixN xs.length (i : Int) = some i by unfold ixN; rw [if_pos (by omega), if_pos (by omega)]; simp]
    exact h
  rw [atD, e]
theorem atD_tuple {xs : List PyData} {i : Nat} {d : PyData} (h : xs[i]? = some d) : atD (.tuple xs) (.int i) = pure d := by
  have hl := (List.getElem?_eq_some_iff.mp h).1
  have e : atI xs (i : Int) = some d := by
    unfold atI
    rw [show ixN xs.length (i : Int) = some i by unfold ixN; rw [if_pos (by omega), if_pos (by omega)]; simp]
    exact h
  rw [atD, e]
end DL
namespace DL
open PySem PySem.Spec PyProof.Rows L2
/-! ### data of numbers: laying, depth, equality, places in -/
theorem lay_ints : ∀ g : List Int, PyData.canLayAll0 (g.map .int) = true
  | [] => rfl
  | _ :: r => by
    rw [List.map_cons, PyData.canLayAll0, lay_ints r]
    rfl
theorem lay_all {ds : List PyData} (h : ∀ d ∈ ds, d.canLay0 = true) : PyData.canLayAll0 ds = true := by
  induction ds with
  | nil => rfl
  | cons d r ih => rw [PyData.canLayAll0, h d List.mem_cons_self, ih fun e he => h e (.tail _ he)]; rfl
theorem depth_all {ds : List PyData} {n : Nat} (h : ∀ d ∈ ds, d.depth ≤ n) : PyData.depthAll ds ≤ n := by
  induction ds with
  | nil => exact Nat.zero_le _
  | cons d r ih =>
    rw [PyData.depthAll]
    exact Nat.max_le.mpr ⟨h d List.mem_cons_self, ih fun e he => h e (.tail _ he)⟩
theorem shaped_int (i : Int) : SeqAt.shaped (.int i) = true := rfl
theorem shaped_eR (g : List Int) : SeqAt.shaped (eR g) = true := by
  unfold SeqAt.shaped eR
  rw [PyData.canLay0, lay_ints, PyData.depth, PySem.W.depth_ints]
  rfl
theorem shaped_eT (g : List Int) : SeqAt.shaped (eT g) = true := by
  unfold SeqAt.shaped eT
  rw [PyData.canLay0, lay_ints, PyData.depth, PySem.W.depth_ints]
  rfl
theorem shaped_list {ds : List PyData} (h : ∀ d ∈ ds, d.canLay0 = true ∧ d.depth ≤ 60) : SeqAt.shaped (.list ds) = true := by
  unfold SeqAt.shaped
  have h2 := depth_all (n := 60) fun d hd => (h d hd).2
  rw [PyData.canLay0, lay_all fun d hd => (h d hd).1, PyData.depth]
  simp
  omega
theorem shaped_tuple {ds : List PyData} (h : ∀ d ∈ ds, d.canLay0 = true ∧ d.depth ≤ 60) : SeqAt.shaped (.tuple ds) = true := by
  unfold SeqAt.shaped
  have h2 := depth_all (n := 60) fun d hd => (h d hd).2
  rw [PyData.canLay0, lay_all fun d hd => (h d hd).1, PyData.depth]
  simp
  omega
theorem any_ints (g : List Int) (x : Int) : ((g.map PyData.int).any fun z => PyData.eqv z (.int x)) = decide (x ∈ g) := by
  rw [List.any_map]
  have : ∀ z : Int, ((fun z => PyData.eqv z (.int x)) ∘ PyData.int) z = (z == x) := fun z => by
    show PyData.eqv (.int z) (.int x) = _
    rw [PyData.eqv]
  rw [show ((fun z => PyData.eqv z (PyData.int x)) ∘ PyData.int) = fun z => z == x from funext this]
  rw [Bool.eq_iff_iff]
  simp
theorem in_eR (g : List Int) (x : Int) : inM (.int x) (eR g) = pure (decide (x ∈ g)) := by
  show M.guard _ (pure ((g.map PyData.int).any fun z => PyData.eqv z (.int x))) = _
  rw [M.guard_of, any_ints]
  rw [shaped_eR]; rfl
theorem nin_eR (g : List Int) (x : Int) : ninM (.int x) (eR g) = pure (!decide (x ∈ g)) := by
  show M.guard _ (pure (!(g.map PyData.int).any fun z => PyData.eqv z (.int x))) = _
  rw [M.guard_of, any_ints]
  rw [shaped_eR]; rfl
theorem in_eT (g : List Int) (x : Int) : inM (.int x) (eT g) = pure (decide (x ∈ g)) := by
  show M.guard _ (pure ((g.map PyData.int).any fun z => PyData.eqv z (.int x))) = _
  rw [M.guard_of, any_ints]
  rw [shaped_eT]; rfl
theorem in_eP (p : Int × Int) (x : Int) : inM (.int x) (eP p) = pure (decide (x = p.1 ∨ x = p.2)) := by
  have e : eP p = eT [p.1, p.2] := rfl
  rw [e, in_eT]
  congr 2
  simp
theorem eqv_ints : ∀ g g' : List Int, PyData.eqvAll (g.map .int) (g'.map .int) = decide (g = g')
  | [], [] => rfl
  | [], _ :: _ => rfl
  | _ :: _, [] => rfl
  | a :: r, b :: r' => by
    rw [List.map_cons, List.map_cons, PyData.eqvAll, eqv_ints r r', PyData.eqv, Bool.eq_iff_iff]
    simp
theorem eqv_eR (g g' : List Int) : PyData.eqv (eR g) (eR g') = decide (g = g') := by
  unfold eR
  rw [PyData.eqv, eqv_ints]
theorem eqv_eT (g g' : List Int) : PyData.eqv (eT g) (eT g') = decide (g = g') := by
  unfold eT
  rw [PyData.eqv, eqv_ints]
theorem shaped_rows (gs : List (List Int)) : SeqAt.shaped (.list (gs.map eR)) = true := shaped_list fun d hd => by
  obtain ⟨g, _, rfl⟩ := List.mem_map.mp hd
  unfold eR
  rw [PyData.canLay0, lay_ints, PyData.depth, PySem.W.depth_ints]
  exact ⟨rfl, by decide⟩
theorem nin_rows (gs : List (List Int)) (g : List Int) : ninM (eR g) (.list (gs.map eR)) = pure (!decide (g ∈ gs)) := by
  show M.guard _ (pure (!(gs.map eR).any fun z => PyData.eqv z (eR g))) = _
  rw [M.guard_of]
  · congr 2
    rw [List.any_map, Bool.eq_iff_iff]
    simp only [List.any_eq_true, Function.comp, eqv_eR, decide_eq_true_eq]
    exact ⟨fun ⟨x, h1, h2⟩ => h2 ▸ h1, fun h => ⟨g, h, rfl⟩⟩
  · rw [shaped_eR, shaped_rows]; rfl
end DL
namespace DL
open PySem PySem.Spec PyProof.Rows L2
section
variable {α γ δ σ ζ : Type}
/-- a for, then the rest -/
theorem forM_thn {pat : PyData → M δ} {body : γ → δ → M (Fl γ)} {k : γ → M (Fl ζ)} {R : M (Fl ζ) → Prop} (enc : α → PyData) (ec : σ → γ) (xs : List α) (c : σ) (I : List α → σ → Prop)
    (hb : ∀ pre x, (∃ post, xs = pre ++ x :: post) → ∀ c, I pre c → ∃ c', (pat (enc x) >>= fun p => body (ec c) p) = pure (.nx (ec c')) ∧ I (pre ++ [x]) c') (h0 : I [] c) (hk : ∀ c', I xs c' → R (k (ec c'))) :
    R (M.thn (forM pat body (xs.map enc) (ec c)) k) := by
  obtain ⟨c', e, h⟩ := forM_inv I hb c h0
  rw [e, thn_nx]
  exact hk c' h
theorem whileM_thn {test : γ → M Bool} {body : γ → M (Fl γ)} {k : γ → M (Fl ζ)} {R : M (Fl ζ) → Prop} {n : Nat} (ec : σ → γ) (s : σ) (I : σ → Prop) (tb : σ → Bool) (mu : σ → Nat) (ht : ∀ s, I s → test (ec s) = pure (tb s))
    (hb : ∀ s, I s → tb s = true → ∃ s', body (ec s) = pure (.nx (ec s')) ∧ I s' ∧ mu s' < mu s) (h0 : I s) (hn : mu s < n) (hk : ∀ s', I s' → tb s' = false → R (k (ec s'))) :
    R (M.thn (whileM test body n (ec s)) k) := by
  obtain ⟨s', e, h1, h2⟩ := whileM_inv I tb mu ht hb n s h0 hn
  rw [e, thn_nx]
  exact hk s' h1 h2
end
theorem insU_len (k : Int) : ∀ l : List Int, (insU k l).length ≤ l.length + 1
  | [] => by simp [insU]
  | j :: l => by
    unfold insU
    split
    · simp
    · split
      · simp
      · have := insU_len k l
        simp
        omega
theorem sortU_len : ∀ l : List Int, (sortU l).length ≤ l.length
  | [] => Nat.le_refl _
  | k :: l => by
    have h1 := sortU_len l
    have h2 := insU_len k (sortU l)
    show (insU k (sortU l)).length ≤ _
    rw [List.length_cons]
    omega
theorem setSort_eR {g : List Int} (h : g.length < 64) : setSortC (eR g) = pure ((sortU g).map .int) := by
  unfold setSortC eR
  dsimp only
  rw [intsOf_map]
  dsimp only
  rw [M.guard_of (decide_eq_true h)]
theorem add_list {xs ys : List PyData} (h : xs.length + ys.length ≤ 1000) : addD (.list xs) (.list ys) = pure (.list (xs ++ ys)) := by
  unfold addD
  dsimp only
  rw [M.guard_of (szl h)]
theorem add_tuple {xs ys : List PyData} (h : xs.length + ys.length ≤ 1000) : addD (.tuple xs) (.tuple ys) = pure (.tuple (xs ++ ys)) := by
  unfold addD
  dsimp only
  rw [M.guard_of (szl h)]
theorem sort_rows {gs : List (List Int)} (h : gs.length ≤ 1000) : ∃ gs', sortC [.list (gs.map eR)] = pure (gs'.map eR) ∧ gs.Perm gs' ∧ gs'.Pairwise (· ≤ ·) := by
  have sb : sortable (gs.map eR) = true := by
    unfold sortable
    simp only [Bool.and_eq_true, Bool.or_eq_true, List.all_eq_true, decide_eq_true_eq]
    refine ⟨⟨⟨fun d hd e he => ?_, .inr (.inl fun d hd => ?_)⟩, fun d hd => ?_⟩, ?_⟩
    · obtain ⟨g, _, rfl⟩ := List.mem_map.mp hd
      obtain ⟨g', _, rfl⟩ := List.mem_map.mp he
      unfold eR
      rw [PySem.W.alike, PySem.W.alike_ints]
    · obtain ⟨g, _, rfl⟩ := List.mem_map.mp hd
      rfl
    · obtain ⟨g, _, rfl⟩ := List.mem_map.mp hd
      unfold eR
      rw [PyData.depth, PySem.W.depth_ints]
      decide
    · rw [List.length_map, sizeLine_eq]
      omega
  have e1 := List.map_mergeSort (r := fun p q : List Int => decide (p ≤ q)) (s := PySem.W.dataLe false fun d => d) (f := eR) (l := gs) (fun a _ b _ => by
    have := congrFun (congrFun (PySem.W.dataLe_rows (β := List Int) fun x => x) a) b
    exact this.symm)
  refine ⟨gs.mergeSort fun p q => decide (p ≤ q), ?_, (List.mergeSort_perm _ _).symm, ?_⟩
  · unfold sortC
    dsimp only
    rw [M.guard_of sb, e1]
  · have := List.pairwise_mergeSort (le := fun p q : List Int => decide (p ≤ q)) (fun a b c h1 h2 => by simp at *; exact List.le_trans h1 h2) (fun a b => by simp; exact List.le_total a b) gs
    exact this.imp fun h => of_decide_eq_true h
theorem sort_pairs {L : List (Int × Int)} (h : L.length ≤ 1000) : ∃ L', sortC [.list (L.map eP)] = pure (L'.map eP) ∧ L.Perm L' ∧ L'.Pairwise fun p q => le2 p q = true := by
  have sb : sortable (L.map eP) = true := by
    unfold sortable
    simp only [Bool.and_eq_true, Bool.or_eq_true, List.all_eq_true, decide_eq_true_eq]
    refine ⟨⟨⟨fun d hd e he => ?_, .inl fun d hd => ?_⟩, fun d hd => ?_⟩, ?_⟩
    · obtain ⟨g, _, rfl⟩ := List.mem_map.mp hd
      obtain ⟨g', _, rfl⟩ := List.mem_map.mp he
      rfl
    · obtain ⟨g, _, rfl⟩ := List.mem_map.mp hd
      rfl
    · obtain ⟨g, _, rfl⟩ := List.mem_map.mp hd
      show PyData.depth (.tuple ([g.1, g.2].map .int)) ≤ 60
      rw [PyData.depth, PySem.W.depth_ints]
      decide
    · rw [List.length_map, sizeLine_eq]
      omega
  have e1 := List.map_mergeSort (r := le2) (s := PySem.W.dataLe false fun d => d) (f := eP) (l := L) (fun a _ b _ => by
    have := congrFun (congrFun (PySem.W.dataLe_ii (β := Int × Int) (fun b => b.1) fun b => b.2) a) b
    exact this.symm)
  refine ⟨L.mergeSort le2, ?_, (List.mergeSort_perm _ _).symm, ?_⟩
  · unfold sortC
    dsimp only
    rw [M.guard_of sb, e1]
  · exact List.pairwise_mergeSort (le := le2) (fun a b c h1 h2 => by simp [le2] at *; omega) (fun a b => by simp [le2]; omega) L
end DL

set_option Elab.async false
set_option linter.all false
set_option maxRecDepth 100000
set_option maxHeartbeats 2000000
/-! more tools for mirrors -/
namespace DL
open PySem PySem.Spec PyProof.Rows L2
theorem run_bind {α β : Type} {m : M α} {f : α → M β} {P : β → Prop} {R : Er → Prop} (h : m.run (fun a => (f a).run P R) R) : (m >>= f).run P R := h
section
variable {α β γ δ σ ζ : Type}
theorem forM_flat {pat : PyData → M δ} {body : PyData → δ → M (Fl PyData)} {enc : α → PyData} {eb : β → PyData} (f : α → List β) (N : Nat) : ∀ (xs : List α) (c0 : List β), (c0 ++ xs.flatMap f).length ≤ N →
    (∀ x ∈ xs, ∀ c : List β, c.length + (f x).length ≤ N → (pat (enc x) >>= fun p => body (.list (c.map eb)) p) = pure (.nx (.list ((c ++ f x).map eb)))) → forM pat body (xs.map enc) (.list (c0.map eb)) = pure (.nx (.list ((c0 ++ xs.flatMap f).map eb)))
  | [], c0, _, _ => by rw [List.flatMap_nil, List.append_nil]; rfl
  | x :: r, c0, h, hb => by
    rw [List.flatMap_cons, ← List.append_assoc] at h ⊢
    have h1 : c0.length + (f x).length ≤ N := by
      rw [List.length_append, List.length_append] at h
      omega
    rw [List.map_cons, forM, hb x List.mem_cons_self c0 h1, thn_nx]
    exact forM_flat f N r (c0 ++ f x) h fun y hy => hb y (.tail _ hy)
theorem flat_len (f : α → List β) (k : Nat) : ∀ xs : List α, (∀ x ∈ xs, (f x).length ≤ k) → (xs.flatMap f).length ≤ xs.length * k
  | [], _ => by simp
  | x :: r, h => by
    have h1 := h x List.mem_cons_self
    have h2 := flat_len f k r fun y hy => h y (.tail _ hy)
    rw [List.flatMap_cons, List.length_append, List.length_cons, Nat.succ_mul]
    omega
theorem thn_of {m : M (Fl γ)} {f : γ → M (Fl ζ)} {P : Fl ζ → Prop} {R : Er → Prop} (I : γ → Prop) (h : m.run (fun fl => ∃ c', fl = .nx c' ∧ I c') R) (q : ∀ c, I c → (f c).run P R) : (M.thn m f).run P R := by
  refine run_bind (M.mono _ (fun fl z => ?_) (fun _ z => z) h)
  obtain ⟨c, rfl, hc⟩ := z
  exact q c hc
/-- a for whose turns are free, then the rest -/
theorem forM_run {pat : PyData → M δ} {body : γ → δ → M (Fl γ)} {k : γ → M (Fl ζ)} {P : Fl ζ → Prop} {R : Er → Prop} (enc : α → PyData) (xs : List α) (c : γ) (I : List α → γ → Prop)
    (hb : ∀ pre x, (∃ post, xs = pre ++ x :: post) → ∀ c, I pre c → (pat (enc x) >>= fun p => body c p).run (fun fl => ∃ c', fl = .nx c' ∧ I (pre ++ [x]) c') R) (h0 : I [] c) (hk : ∀ c', I xs c' → (k c').run P R) :
    (M.thn (forM pat body (xs.map enc) c) k).run P R := by
  have key : ∀ (post pre : List α) (c : γ), xs = pre ++ post → I pre c → (forM pat body (post.map enc) c).run (fun fl => ∃ c', fl = .nx c' ∧ I xs c') R := by
    intro post
    induction post with
    | nil =>
      intro pre c e h
      exact ⟨c, rfl, by rw [e, List.append_nil]; exact h⟩
    | cons x r ih =>
      intro pre c e h
      rw [List.map_cons, forM]
      exact thn_of _ (hb pre x ⟨r, e⟩ c h) fun c1 h2 => ih (pre ++ [x]) c1 (by rw [e]; simp) h2
  exact thn_of _ (key xs [] c rfl h0) hk
end
theorem tk_run {n : Int} (h : 0 < n ∧ n < 1000000) {P : PyData → Prop} {R : Er → Prop} (q : ∀ k : Int, 0 ≤ k → k < n → P (.int k)) : ((takenM [.int n]).fin).run P R := by
  unfold takenM
  dsimp only
  rw [M.guard_of (by simp [h])]
  rintro d ⟨k, h1, h2, rfl⟩
  exact q k h1 h2
theorem lay_str {x : Str} (hx : (PyData.str x).canLay0 = true) : SeqAt.shaped (.str x) = true := by
  unfold SeqAt.shaped
  rw [hx, PyData.depth]
  rfl
theorem eqM_str {x y : Str} (hx : (PyData.str x).canLay0 = true) (hy : (PyData.str y).canLay0 = true) : eqM (.str x) (.str y) = pure (x == y) := by
  unfold eqM
  rw [lay_str hx, lay_str hy]
  show pure ((PyData.str x).eqv (.str y)) = _
  rw [PyData.eqv]
theorem neM_str {x y : Str} (hx : (PyData.str x).canLay0 = true) (hy : (PyData.str y).canLay0 = true) : neM (.str x) (.str y) = pure (!(x == y)) := by
  unfold neM
  rw [lay_str hx, lay_str hy]
  show pure (!(PyData.str x).eqv (.str y)) = _
  rw [PyData.eqv]
end DL

set_option Elab.async false
set_option linter.all false
set_option maxHeartbeats 1000000
/-! pieces of a lot: which pips hang together -/
namespace Gr
abbrev Ar : Type := List (Int × Int)
inductive Cn (l : Ar) : Int → Int → Prop
  | refl (a : Int) : Cn l a a
  | out {a b c : Int} : (a, b) ∈ l → Cn l b c → Cn l a c
  | inn {a b c : Int} : (b, a) ∈ l → Cn l b c → Cn l a c
def touch (l : Ar) (a : Int) : Prop := ∃ p ∈ l, p.1 = a ∨ p.2 = a
section
variable {l l' : Ar} {a b c x y : Int}
theorem Cn.trans (h : Cn l a b) (k : Cn l b c) : Cn l a c := by
  induction h with
  | refl => exact k
  | out e _ ih => exact .out e (ih k)
  | inn e _ ih => exact .inn e (ih k)
theorem Cn.symm (h : Cn l a b) : Cn l b a := by
  induction h with
  | refl => exact .refl _
  | out e _ ih => exact ih.trans (.inn e (.refl _))
  | inn e _ ih => exact ih.trans (.out e (.refl _))
theorem Cn.mono (k : ∀ p, p ∈ l → p ∈ l') (h : Cn l a b) : Cn l' a b := by
  induction h with
  | refl => exact .refl _
  | out e _ ih => exact .out (k _ e) ih
  | inn e _ ih => exact .inn (k _ e) ih
/-- the same lines, each one perhaps turned round -/
theorem Cn.turn (k : ∀ p ∈ l, p ∈ l' ∨ (p.2, p.1) ∈ l') (h : Cn l a b) : Cn l' a b := by
  induction h with
  | refl => exact .refl _
  | out e _ ih =>
    rcases k _ e with q | q
    · exact .out q ih
    · exact .inn q ih
  | inn e _ ih =>
    rcases k _ e with q | q
    · exact .inn q ih
    · exact .out q ih
theorem Cn.touch (h : Cn l a b) (n : ¬ touch l a) : a = b := by
  cases h with
  | refl => rfl
  | out e _ => exact absurd ⟨_, e, .inl rfl⟩ n
  | inn e _ => exact absurd ⟨_, e, .inr rfl⟩ n
theorem Cn.touch2 (h : Cn l a b) (t : Gr.touch l a) : Gr.touch l b := by
  induction h with
  | refl => exact t
  | out e _ ih => exact ih ⟨_, e, .inr rfl⟩
  | inn e _ ih => exact ih ⟨_, e, .inl rfl⟩
theorem Cn.add (h : Cn (l ++ [(a, b)]) x y) : Cn l x y ∨ ((Cn l x a ∨ Cn l x b) ∧ (Cn l a y ∨ Cn l b y)) := by
  have mem : ∀ p, p ∈ l ++ [(a, b)] → p ∈ l ∨ p = (a, b) := fun p hp => by simpa using hp
  induction h with
  | refl => exact .inl (.refl _)
  | out e _ ih =>
    rcases mem _ e with q | q
    · rcases ih with ih | ⟨h1, h2⟩
      · exact .inl (.out q ih)
      · exact .inr ⟨h1.imp (.out q) (.out q), h2⟩
    · cases q
      rcases ih with ih | ⟨h1, h2⟩
      · exact .inr ⟨.inl (.refl _), .inr ih⟩
      · exact .inr ⟨.inl (.refl _), h2⟩
  | inn e _ ih =>
    rcases mem _ e with q | q
    · rcases ih with ih | ⟨h1, h2⟩
      · exact .inl (.inn q ih)
      · exact .inr ⟨h1.imp (.inn q) (.inn q), h2⟩
    · cases q
      rcases ih with ih | ⟨h1, h2⟩
      · exact .inr ⟨.inr (.refl _), .inl ih⟩
      · exact .inr ⟨.inr (.refl _), h2⟩
end
structure Pcs (l : Ar) (gs : List (List Int)) : Prop where
  srt : ∀ g ∈ gs, g.Pairwise (· < ·)
  ne : ∀ g ∈ gs, g ≠ []
  mem : ∀ g ∈ gs, ∀ a ∈ g, touch l a ∧ ∀ b, b ∈ g ↔ Cn l a b
  cov : ∀ a, touch l a → ∃ g ∈ gs, a ∈ g
  nd : gs.Nodup
theorem srt_eq {g g' : List Int} (h : g.Pairwise (· < ·)) (h' : g'.Pairwise (· < ·)) (e : ∀ b, b ∈ g ↔ b ∈ g') : g = g' := by
  refine List.Perm.eq_of_pairwise (le := (· < ·)) (fun a b _ _ h1 h2 => by omega) h h' ?_
  refine (List.perm_ext_iff_of_nodup (h.imp fun q => Int.ne_of_lt q) (h'.imp fun q => Int.ne_of_lt q)).mpr e
theorem Pcs.eq_of_mem {l : Ar} {gs gs' : List (List Int)} (h : Pcs l gs) (h' : Pcs l gs') {g g' : List Int} {a : Int} (hg : g ∈ gs) (hg' : g' ∈ gs') (h1 : a ∈ g) (h2 : a ∈ g') : g = g' :=
  srt_eq (h.srt g hg) (h'.srt g' hg') fun b => ((h.mem g hg a h1).2 b).trans ((h'.mem g' hg' a h2).2 b).symm
theorem Pcs.perm {l : Ar} {gs gs' : List (List Int)} (h : Pcs l gs) (h' : Pcs l gs') : gs.Perm gs' := by
  have key : ∀ {gs gs' : List (List Int)}, Pcs l gs → Pcs l gs' → ∀ g ∈ gs, g ∈ gs' := by
    intro gs gs' h h' g hg
    obtain ⟨a, r, e⟩ := List.exists_cons_of_ne_nil (h.ne g hg)
    have ha : a ∈ g := by rw [e]; exact List.mem_cons_self
    obtain ⟨g', hg', ha'⟩ := h'.cov a (h.mem g hg a ha).1
    rw [h.eq_of_mem h' hg hg' ha ha']
    exact hg'
  exact (List.perm_ext_iff_of_nodup h.nd h'.nd).mpr fun g => ⟨key h h' g, key h' h g⟩
theorem Pcs.perm_of {l : Ar} {gs gs' : List (List Int)} (h : Pcs l gs) (p : gs.Perm gs') : Pcs l gs' :=
  ⟨fun g hg => h.srt g (p.mem_iff.mpr hg), fun g hg => h.ne g (p.mem_iff.mpr hg), fun g hg => h.mem g (p.mem_iff.mpr hg), fun a t => by
    obtain ⟨g, h1, h2⟩ := h.cov a t
    exact ⟨g, p.mem_iff.mp h1, h2⟩, p.nodup_iff.mp h.nd⟩
theorem Pcs.turn {l l' : Ar} {gs : List (List Int)} (h : Pcs l gs) (k : ∀ p ∈ l, p ∈ l' ∨ (p.2, p.1) ∈ l') (k' : ∀ p ∈ l', p ∈ l ∨ (p.2, p.1) ∈ l) : Pcs l' gs := by
  have t : ∀ {l l' : Ar} {a : Int}, (∀ p ∈ l, p ∈ l' ∨ (p.2, p.1) ∈ l') → touch l a → touch l' a := by
    intro l l' a k ⟨p, hp, e⟩
    rcases k p hp with q | q
    · exact ⟨p, q, e⟩
    · exact ⟨_, q, e.symm⟩
  exact ⟨h.srt, h.ne, fun g hg a ha => ⟨t k (h.mem g hg a ha).1, fun b => ((h.mem g hg a ha).2 b).trans ⟨.turn k, .turn k'⟩⟩, fun a q => h.cov a (t k' q), h.nd⟩
theorem Pcs.nil : Pcs [] [] := ⟨nofun, nofun, nofun, fun a ⟨p, hp, _⟩ => (nomatch hp), .nil⟩
/-- one more line -/
theorem Pcs.add {l : Ar} {gs : List (List Int)} {a b : Int} {J : List Int} (h : Pcs l gs) (hJ : J.Pairwise (· < ·)) (mJ : ∀ y, y ∈ J ↔ y = a ∨ y = b ∨ ∃ g ∈ gs, (a ∈ g ∨ b ∈ g) ∧ y ∈ g) :
    Pcs (l ++ [(a, b)]) (gs.filter (fun g => !(decide (a ∈ g) || decide (b ∈ g))) ++ [J]) := by
  have up : ∀ {x y}, Cn l x y → Cn (l ++ [(a, b)]) x y := fun h => h.mono fun p hp => List.mem_append_left _ hp
  have ab : Cn (l ++ [(a, b)]) a b := .out (by simp) (.refl _)
  have cls : ∀ {c y}, (c = a ∨ c = b) → ((∃ g ∈ gs, c ∈ g ∧ y ∈ g) ∨ y = c ↔ Cn l c y) := by
    intro c y hc
    constructor
    · rintro (⟨g, hg, h1, h2⟩ | rfl)
      · exact ((h.mem g hg c h1).2 y).mp h2
      · exact .refl _
    · intro k
      by_cases t : touch l c
      · obtain ⟨g, hg, h1⟩ := h.cov c t
        exact .inl ⟨g, hg, h1, ((h.mem g hg c h1).2 y).mpr k⟩
      · exact .inr (k.touch t).symm
  have mS : ∀ y, y ∈ J ↔ Cn l a y ∨ Cn l b y := by
    intro y
    rw [mJ, ← cls (.inl rfl), ← cls (.inr rfl)]
    constructor
    · rintro (rfl | rfl | ⟨g, hg, h1 | h1, h2⟩)
      · exact .inl (.inr rfl)
      · exact .inr (.inr rfl)
      · exact .inl (.inl ⟨g, hg, h1, h2⟩)
      · exact .inr (.inl ⟨g, hg, h1, h2⟩)
    · rintro ((⟨g, hg, h1, h2⟩ | rfl) | (⟨g, hg, h1, h2⟩ | rfl))
      · exact .inr (.inr ⟨g, hg, .inl h1, h2⟩)
      · exact .inl rfl
      · exact .inr (.inr ⟨g, hg, .inr h1, h2⟩)
      · exact .inr (.inl rfl)
  have mC : ∀ y, y ∈ J ↔ Cn (l ++ [(a, b)]) a y := by
    intro y
    rw [mS]
    constructor
    · rintro (k | k)
      · exact up k
      · exact ab.trans (up k)
    · intro k
      rcases k.add with k | ⟨_, k⟩
      · exact .inl k
      · exact k
  have inF : ∀ g, g ∈ gs.filter (fun g => !(decide (a ∈ g) || decide (b ∈ g))) ↔ g ∈ gs ∧ a ∉ g ∧ b ∉ g := fun g => by
    rw [List.mem_filter]
    simp
  have aJ : a ∈ J := (mJ a).mpr (.inl rfl)
  have bJ : b ∈ J := (mJ b).mpr (.inr (.inl rfl))
  refine ⟨fun g hg => ?_, fun g hg => ?_, fun g hg x hx => ?_, fun x t => ?_, ?_⟩
  · rcases List.mem_append.mp hg with q | q
    · exact h.srt g ((inF g).mp q).1
    · cases List.mem_singleton.mp q
      exact hJ
  · rcases List.mem_append.mp hg with q | q
    · exact h.ne g ((inF g).mp q).1
    · cases List.mem_singleton.mp q
      exact List.ne_nil_of_mem aJ
  · rcases List.mem_append.mp hg with q | q
    · obtain ⟨q1, q2, q3⟩ := (inF g).mp q
      obtain ⟨⟨p, hp, e⟩, m⟩ := h.mem g q1 x hx
      refine ⟨⟨p, List.mem_append_left _ hp, e⟩, fun y => (m y).trans ⟨up, fun k => ?_⟩⟩
      rcases k.add with k | ⟨k | k, _⟩
      · exact k
      · exact absurd ((m a).mpr k) q2
      · exact absurd ((m b).mpr k) q3
    · cases List.mem_singleton.mp q
      have ax := (mC x).mp hx
      exact ⟨ax.touch2 ⟨(a, b), by simp, .inl rfl⟩, fun y => (mC y).trans ⟨fun k => ax.symm.trans k, fun k => ax.trans k⟩⟩
  · obtain ⟨p, hp, e⟩ := t
    rcases List.mem_append.mp hp with q | q
    · obtain ⟨g, hg, hx⟩ := h.cov x ⟨p, q, e⟩
      by_cases n : a ∈ g ∨ b ∈ g
      · exact ⟨J, by simp, (mJ x).mpr (.inr (.inr ⟨g, hg, n, hx⟩))⟩
      · exact ⟨g, List.mem_append_left _ ((inF g).mpr ⟨hg, fun z => n (.inl z), fun z => n (.inr z)⟩), hx⟩
    · cases List.mem_singleton.mp q
      rcases e with rfl | rfl
      · exact ⟨J, by simp, aJ⟩
      · exact ⟨J, by simp, bJ⟩
  · rw [List.nodup_append]
    refine ⟨h.nd.filter _, by simp, fun g hg g' hg' e => ?_⟩
    cases List.mem_singleton.mp hg'
    rw [e] at hg
    exact ((inF J).mp hg).2.1 aJ
end Gr

set_option Elab.async false
set_option linter.all false
set_option maxHeartbeats 1000000
/-! rows of arrows: walks, leanings, rings (Euler, arrows one way) -/
namespace Eu
open Gr
/-- what leans out of v -/
def df : Ar → Int → Int
  | [], _ => 0
  | p :: r, v => ((if p.1 = v then 1 else 0) - (if p.2 = v then 1 else 0)) + df r v
/-- r walks from a to b -/
def Wk : Int → Ar → Int → Prop
  | a, [], b => a = b
  | a, p :: r, b => p.1 = a ∧ Wk p.2 r b
theorem df_app (v : Int) : ∀ r s : Ar, df (r ++ s) v = df r v + df s v
  | [], s => by simp [df]
  | p :: r, s => by
    rw [List.cons_append, df, df, df_app v r s]
    omega
theorem df_perm {r s : Ar} (h : r.Perm s) (v : Int) : df r v = df s v := by
  induction h with
  | nil => rfl
  | cons x _ ih => rw [df, df, ih]
  | swap x y l => rw [df, df, df, df]; omega
  | trans _ _ i1 i2 => rw [i1, i2]
theorem wk_app {b : Int} : ∀ {a : Int} {r s : Ar}, Wk a (r ++ s) b ↔ ∃ c, Wk a r c ∧ Wk c s b
  | a, [], s => ⟨fun h => ⟨a, rfl, h⟩, fun ⟨c, h1, h2⟩ => by cases h1; exact h2⟩
  | a, p :: r, s => by
    rw [List.cons_append, Wk, wk_app]
    constructor
    · rintro ⟨h, c, h1, h2⟩
      exact ⟨c, ⟨h, h1⟩, h2⟩
    · rintro ⟨c, ⟨h, h1⟩, h2⟩
      exact ⟨h, c, h1, h2⟩
theorem wk_df {v b : Int} : ∀ {a : Int} {r : Ar}, Wk a r b → df r v = (if a = v then 1 else 0) - (if b = v then 1 else 0)
  | a, [], h => by
    cases h
    rw [df]
    omega
  | a, p :: r, h => by
    obtain ⟨h1, h2⟩ := h
    rw [df, wk_df h2, h1]
    omega
theorem wk_turn {a : Int} {r s : Ar} (h : Wk a (r ++ s) a) : ∃ c, Wk a r c ∧ Wk c (s ++ r) c := by
  obtain ⟨c, h1, h2⟩ := wk_app.mp h
  exact ⟨c, h1, wk_app.mpr ⟨a, h2, h1⟩⟩
/-- v is met by a ring: the ring from there -/
theorem ring_at {c v : Int} {r : Ar} (h : Wk c r c) (t : touch r v) : ∃ r', r'.Perm r ∧ Wk v r' v := by
  obtain ⟨p, hp, e⟩ := t
  obtain ⟨s, t, rfl⟩ := List.append_of_mem hp
  rcases e with e | e
  · obtain ⟨d, h1, h2⟩ := wk_turn (r := s) (s := p :: t) h
    rw [List.cons_append] at h2
    have ed : d = v := by rw [← h2.1]; exact e
    rw [ed] at h2
    exact ⟨p :: (t ++ s), List.perm_append_comm (l₁ := p :: t) (l₂ := s), h2⟩
  · have h' : Wk c ((s ++ [p]) ++ t) c := by rw [List.append_assoc]; exact h
    obtain ⟨d, h1, h2⟩ := wk_turn h'
    obtain ⟨d2, _, h4⟩ := wk_app.mp h1
    have ed : d = v := by
      rw [← e]
      exact h4.2.symm
    rw [ed] at h2
    refine ⟨t ++ (s ++ [p]), ?_, h2⟩
    have := List.perm_append_comm (l₁ := t) (l₂ := s ++ [p])
    rw [List.append_assoc] at this
    exact this
theorem out_of {v : Int} : ∀ {r : Ar}, (df r v > 0 ∨ (df r v = 0 ∧ touch r v)) → ∃ p ∈ r, p.1 = v
  | [], h => by
    rcases h with h | ⟨_, p, hp, _⟩
    · simp [df] at h
    · cases hp
  | p :: r, h => by
    by_cases e : p.1 = v
    · exact ⟨p, List.mem_cons_self, e⟩
    · have key : df r v > 0 ∨ (df r v = 0 ∧ touch r v) := by
        rw [df, if_neg e] at h
        by_cases e2 : p.2 = v
        · rw [if_pos e2] at h
          rcases h with h | ⟨h, _⟩
          · exact .inl (by omega)
          · exact .inl (by omega)
        · rw [if_neg e2] at h
          rcases h with h | ⟨h, q, hq, hqv⟩
          · exact .inl (by omega)
          · refine .inr ⟨by omega, q, ?_, hqv⟩
            rcases List.mem_cons.mp hq with rfl | hq
            · rcases hqv with z | z
              · exact absurd z e
              · exact absurd z e2
            · exact hq
      obtain ⟨q, hq, e3⟩ := out_of key
      exact ⟨q, .tail _ hq, e3⟩
/-- walking on till back -/
theorem greedy {v : Int} {R : Ar} (hb : ∀ w, df R w = 0) : ∀ (n : Nat) (u : Int) (C R' : Ar), R'.length = n → C ≠ [] → Wk v C u → (C ++ R').Perm R → ∃ C' R'', C' ≠ [] ∧ Wk v C' v ∧ (C' ++ R'').Perm R
  | n, u, C, R', hn, hC, hw, hp => by
    by_cases e : u = v
    · subst e
      exact ⟨C, R', hC, hw, hp⟩
    · have h1 : df C u + df R' u = 0 := by rw [← df_app, df_perm hp, hb]
      rw [wk_df hw, if_neg (fun z => e z.symm), if_pos rfl] at h1
      obtain ⟨p, hp1, hp2⟩ := out_of (r := R') (v := u) (.inl (by omega))
      obtain ⟨s, t, rfl⟩ := List.append_of_mem hp1
      cases n with
      | zero => simp at hn
      | succ n =>
        refine greedy hb n p.2 (C ++ [p]) (s ++ t) (by simp at hn ⊢; omega) (by simp) (wk_app.mpr ⟨u, hw, hp2, rfl⟩) ?_
        refine List.Perm.trans ?_ hp
        rw [List.append_assoc]
        exact List.Perm.append_left C (by simpa using List.perm_middle.symm)
/-- all in one piece -/
def Conn (l : Ar) : Prop := ∀ a b, touch l a → touch l b → Cn l a b
theorem touch_perm {r s : Ar} (h : r.Perm s) {v : Int} (t : touch r v) : touch s v := by
  obtain ⟨p, hp, e⟩ := t
  exact ⟨p, h.mem_iff.mp hp, e⟩
theorem wk_first {c : Int} {T : Ar} (hT : T ≠ []) (h : Wk c T c) : touch T c := by
  cases T with
  | nil => exact absurd rfl hT
  | cons p r => exact ⟨p, List.mem_cons_self, .inl h.1⟩
theorem all_of {l : Ar} (hb : ∀ w, df l w = 0) (hc : Conn l) : ∀ (n : Nat) (c : Int) (T R : Ar), R.length ≤ n → T ≠ [] → Wk c T c → (T ++ R).Perm l → ∃ r d, r.Perm l ∧ Wk d r d
  | n, c, T, [], hn, hT, hw, hp => ⟨T, c, by simpa using hp, hw⟩
  | 0, c, T, p :: R, hn, hT, hw, hp => by simp at hn
  | n + 1, c, T, p0 :: R, hn, hT, hw, hp => by
    have near : ∃ v, touch T v ∧ touch (p0 :: R) v := by
      refine Classical.byContradiction fun no => ?_
      have key : ∀ {a b : Int}, Cn l a b → touch T a → touch T b := by
        intro a b h
        induction h with
        | refl => exact id
        | out e _ ih =>
          intro t
          refine ih ?_
          rcases List.mem_append.mp (hp.mem_iff.mpr e) with m | m
          · exact ⟨_, m, .inr rfl⟩
          · exact absurd ⟨_, t, _, m, .inl rfl⟩ no
        | inn e _ ih =>
          intro t
          refine ih ?_
          rcases List.mem_append.mp (hp.mem_iff.mpr e) with m | m
          · exact ⟨_, m, .inl rfl⟩
          · exact absurd ⟨_, t, _, m, .inr rfl⟩ no
      have tc := wk_first hT hw
      have tp : touch (p0 :: R) p0.1 := ⟨p0, List.mem_cons_self, .inl rfl⟩
      have up : ∀ {v}, touch T v → touch l v := fun t => touch_perm hp (by
        obtain ⟨q, hq, e⟩ := t
        exact ⟨q, List.mem_append_left _ hq, e⟩)
      have up2 : touch l p0.1 := touch_perm hp ⟨p0, List.mem_append_right _ List.mem_cons_self, .inl rfl⟩
      exact no ⟨p0.1, key (hc c p0.1 (up tc) up2) tc, tp⟩
    obtain ⟨v, tv, tr⟩ := near
    have bT : ∀ w, df T w = 0 := fun w => by
      rw [wk_df hw]
      omega
    have bR : ∀ w, df (p0 :: R) w = 0 := fun w => by
      have := hb w
      rw [← df_perm hp, df_app, bT] at this
      omega
    obtain ⟨q, hq, eq⟩ := out_of (r := p0 :: R) (v := v) (.inr ⟨bR v, tr⟩)
    obtain ⟨s, t, e⟩ := List.append_of_mem hq
    obtain ⟨C, R', hC, hwC, hpC⟩ := greedy bR _ q.2 [q] (s ++ t) rfl (by simp) ⟨eq, rfl⟩ (by
      rw [e]
      exact (List.perm_middle (a := q) (l₁ := s) (l₂ := t)).symm)
    obtain ⟨T', hT', hwT'⟩ := ring_at hw tv
    have len : C.length + R'.length = R.length + 1 := by
      have := hpC.length_eq
      simpa using this
    have c1 : 0 < C.length := List.length_pos_iff.mpr hC
    refine all_of hb hc n v (T' ++ C) R' (by simp at hn; omega) (by simp [hC]) (wk_app.mpr ⟨v, hwT', hwC⟩) ?_
    refine List.Perm.trans ?_ hp
    rw [List.append_assoc]
    exact (hT'.append_right _).trans (hpC.append_left T)
/-- one piece, nothing leans: a ring from any pip -/
theorem ring {l : Ar} {a : Int} (hb : ∀ w, df l w = 0) (hc : Conn l) (ha : touch l a) : ∃ r, r.Perm l ∧ Wk a r a := by
  obtain ⟨q, hq, eq⟩ := out_of (r := l) (v := a) (.inr ⟨hb a, ha⟩)
  obtain ⟨s, t, e⟩ := List.append_of_mem hq
  obtain ⟨C, R', hC, hwC, hpC⟩ := greedy hb _ q.2 [q] (s ++ t) rfl (by simp) ⟨eq, rfl⟩ (by
    rw [e]
    exact (List.perm_middle (a := q) (l₁ := s) (l₂ := t)).symm)
  obtain ⟨r, d, hr, hw⟩ := all_of hb hc R'.length a C R' (Nat.le_refl _) hC hwC hpC
  obtain ⟨r', h1, h2⟩ := ring_at hw (touch_perm hr.symm ha)
  exact ⟨r', h1.trans hr, h2⟩
theorem Cn.one {l : Ar} {a b : Int} {x : Int × Int} (h : Cn l a b) : Cn (x :: l) a b := h.mono fun p hp => .tail _ hp
/-- one piece, it leans by one out of a and by one into b -/
theorem row {l : Ar} {a b : Int} (hne : a ≠ b) (hd : ∀ w, df l w = (if w = a then 1 else 0) - (if w = b then 1 else 0)) (hc : Conn l) : ∃ r, r.Perm l ∧ Wk a r b := by
  have ta : touch l a := by
    obtain ⟨p, hp, e⟩ := out_of (r := l) (v := a) (.inl (by rw [hd, if_pos rfl, if_neg hne]; decide))
    exact ⟨p, hp, .inl e⟩
  have tb : touch l b := by
    have h := hd b
    rw [if_neg (Ne.symm hne), if_pos rfl] at h
    refine Classical.byContradiction fun no => ?_
    have key : ∀ r : Ar, ¬ touch r b → df r b = 0 := by
      intro r
      induction r with
      | nil => intro _; rfl
      | cons p r ih =>
        intro nt
        rw [df, if_neg fun e => nt ⟨p, List.mem_cons_self, .inl e⟩, if_neg fun e => nt ⟨p, List.mem_cons_self, .inr e⟩, ih fun ⟨q, hq, e⟩ => nt ⟨q, .tail _ hq, e⟩]
        rfl
    rw [key l no] at h
    omega
  have lift : ∀ v, touch ((b, a) :: l) v → touch l v := fun v ⟨p, hp, e⟩ => by
    rcases List.mem_cons.mp hp with rfl | hp
    · rcases e with e | e
      · rw [← e]; exact tb
      · rw [← e]; exact ta
    · exact ⟨p, hp, e⟩
  obtain ⟨r, hr, hw⟩ := ring (l := (b, a) :: l) (a := a) (fun w => by
    rw [df, hd]
    have c1 : (b = w) = (w = b) := propext ⟨Eq.symm, Eq.symm⟩
    have c2 : (a = w) = (w = a) := propext ⟨Eq.symm, Eq.symm⟩
    simp only [c1, c2]
    omega) (fun x y tx ty => Cn.one (hc x y (lift x tx) (lift y ty))) ⟨(b, a), List.mem_cons_self, .inr rfl⟩
  have hm : (b, a) ∈ r := hr.mem_iff.mpr List.mem_cons_self
  obtain ⟨s, t, rfl⟩ := List.append_of_mem hm
  obtain ⟨d, h1, h2⟩ := wk_app.mp hw
  obtain ⟨e1, h3⟩ := h2
  have e1 : b = d := e1
  subst e1
  refine ⟨t ++ s, ?_, wk_app.mpr ⟨a, h3, h1⟩⟩
  have h4 : (b, a) :: (s ++ t) |>.Perm ((b, a) :: l) := List.perm_middle.symm.trans hr
  exact List.perm_append_comm.trans (List.Perm.cons_inv h4)
/-- what a row tells of its arrows -/
theorem conn_wk {a b : Int} : ∀ {r : Ar}, Wk a r b → ∀ v, touch r v → Cn r a v
  | [], h, v, ⟨p, hp, _⟩ => nomatch hp
  | p :: r, h, v, ⟨q, hq, e⟩ => by
    obtain ⟨h1, h2⟩ := h
    subst h1
    rcases List.mem_cons.mp hq with rfl | hq
    · rcases e with e | e
      · rw [← e]; exact .refl _
      · rw [← e]; exact .out List.mem_cons_self (.refl _)
    · have := conn_wk h2 v ⟨q, hq, e⟩
      exact .out List.mem_cons_self (Cn.one this)
theorem conn_of {a b : Int} {r : Ar} (h : Wk a r b) : Conn r := fun x y tx ty => (conn_wk h x tx).symm.trans (conn_wk h y ty)
theorem conn_perm {r s : Ar} (h : r.Perm s) (c : Conn r) : Conn s := fun a b ta tb => (c a b (touch_perm h.symm ta) (touch_perm h.symm tb)).mono fun p hp => h.mem_iff.mp hp
end Eu

set_option Elab.async false
set_option linter.all false
set_option maxHeartbeats 1000000
/-! lines without a way: what they can be turned to (Euler, both ways) -/
namespace Eu
open Gr
def sw (p : Int × Int) : Int × Int := (p.2, p.1)
theorem sw_sw (p : Int × Int) : sw (sw p) = p := rfl
/-- each line of the one, perhaps turned round, is the line of the other one in its place -/
inductive Tn : Ar → Ar → Prop
  | nil : Tn [] []
  | keep {p : Int × Int} {l m : Ar} : Tn l m → Tn (p :: l) (p :: m)
  | turn {p : Int × Int} {l m : Ar} : Tn l m → Tn (p :: l) (sw p :: m)
theorem Tn.refl : ∀ l : Ar, Tn l l
  | [] => .nil
  | _ :: l => .keep (Tn.refl l)
theorem Tn.symm {l m : Ar} (h : Tn l m) : Tn m l := by
  induction h with
  | nil => exact .nil
  | keep _ ih => exact .keep ih
  | turn _ ih => exact .turn ih
theorem Tn.all : ∀ l : Ar, Tn l (l.map sw)
  | [] => .nil
  | _ :: l => .turn (Tn.all l)
theorem Tn.trans {l m k : Ar} (h : Tn l m) (q : Tn m k) : Tn l k := by
  induction h generalizing k with
  | nil => exact q
  | keep _ ih =>
    cases q with
    | keep q => exact .keep (ih q)
    | turn q => exact .turn (ih q)
  | turn _ ih =>
    cases q with
    | keep q => exact .turn (ih q)
    | turn q => exact .keep (ih q)
theorem Tn.app {l m l' m' : Ar} (h : Tn l m) (q : Tn l' m') : Tn (l ++ l') (m ++ m') := by
  induction h with
  | nil => exact q
  | keep _ ih => exact .keep ih
  | turn _ ih => exact .turn ih
theorem Tn.len {l m : Ar} (h : Tn l m) : l.length = m.length := by
  induction h with
  | nil => rfl
  | keep _ ih => simp [ih]
  | turn _ ih => simp [ih]
theorem Tn.perm {l l' : Ar} (q : l.Perm l') : ∀ {m : Ar}, Tn l m → ∃ m', Tn l' m' ∧ m.Perm m' := by
  induction q with
  | nil => intro m h; exact ⟨m, h, .refl _⟩
  | cons x _ ih =>
    intro m h
    cases h with
    | keep h =>
      obtain ⟨m', a, b⟩ := ih h
      exact ⟨_, .keep a, b.cons _⟩
    | turn h =>
      obtain ⟨m', a, b⟩ := ih h
      exact ⟨_, .turn a, b.cons _⟩
  | swap x y l =>
    intro m h
    cases h with
    | keep h =>
      cases h with
      | keep h => exact ⟨_, .keep (.keep h), .swap _ _ _⟩
      | turn h => exact ⟨_, .turn (.keep h), .swap _ _ _⟩
    | turn h =>
      cases h with
      | keep h => exact ⟨_, .keep (.turn h), .swap _ _ _⟩
      | turn h => exact ⟨_, .turn (.turn h), .swap _ _ _⟩
  | trans _ _ i1 i2 =>
    intro m h
    obtain ⟨m1, a, b⟩ := i1 h
    obtain ⟨m2, c, d⟩ := i2 a
    exact ⟨m2, c, b.trans d⟩
theorem Tn.mem {l m : Ar} (h : Tn l m) : ∀ p ∈ l, p ∈ m ∨ (p.2, p.1) ∈ m := by
  induction h with
  | nil => exact nofun
  | keep _ ih =>
    intro q hq
    rcases List.mem_cons.mp hq with rfl | hq
    · exact .inl List.mem_cons_self
    · exact (ih q hq).imp (.tail _) (.tail _)
  | turn _ ih =>
    intro q hq
    rcases List.mem_cons.mp hq with rfl | hq
    · exact .inr List.mem_cons_self
    · exact (ih q hq).imp (.tail _) (.tail _)
theorem Tn.touch {l m : Ar} (h : Tn l m) {v : Int} (t : touch l v) : touch m v := by
  obtain ⟨p, hp, e⟩ := t
  rcases h.mem p hp with q | q
  · exact ⟨p, q, e⟩
  · exact ⟨_, q, e.symm⟩
theorem Tn.conn {l m : Ar} (h : Tn l m) (c : Conn l) : Conn m := fun a b ta tb =>
  (c a b (h.symm.touch ta) (h.symm.touch tb)).turn h.mem
/-! ### how many ends -/
def dg : Ar → Int → Int
  | [], _ => 0
  | p :: r, v => ((if p.1 = v then 1 else 0) + (if p.2 = v then 1 else 0)) + dg r v
theorem dg_nn (v : Int) : ∀ l : Ar, 0 ≤ dg l v
  | [] => Int.le_refl _
  | p :: r => by
    have := dg_nn v r
    rw [dg]
    split <;> split <;> omega
theorem dg_app (v : Int) : ∀ r s : Ar, dg (r ++ s) v = dg r v + dg s v
  | [], s => by simp [dg]
  | p :: r, s => by
    rw [List.cons_append, dg, dg, dg_app v r s]
    omega
theorem dg_perm {r s : Ar} (h : r.Perm s) (v : Int) : dg r v = dg s v := by
  induction h with
  | nil => rfl
  | cons x _ ih => rw [dg, dg, ih]
  | swap x y l => rw [dg, dg, dg, dg]; omega
  | trans _ _ i1 i2 => rw [i1, i2]
theorem Tn.dg {l m : Ar} (h : Tn l m) (v : Int) : Eu.dg l v = Eu.dg m v := by
  induction h with
  | nil => rfl
  | keep _ ih => rw [Eu.dg, Eu.dg, ih]
  | turn _ ih => rw [Eu.dg, Eu.dg, ih]; unfold sw; dsimp only; omega
theorem dg_df (v : Int) : ∀ l : Ar, ∃ k : Int, dg l v = df l v + 2 * k
  | [] => ⟨0, rfl⟩
  | p :: r => by
    obtain ⟨k, h⟩ := dg_df v r
    refine ⟨k + (if p.2 = v then 1 else 0), ?_⟩
    rw [dg, df, h]
    split <;> split <;> omega
theorem dg_zero {l : Ar} {v : Int} (h : dg l v = 0) : ¬ touch l v := by
  induction l with
  | nil => rintro ⟨p, hp, _⟩; cases hp
  | cons p r ih =>
    rintro ⟨q, hq, e⟩
    have n := dg_nn v r
    rw [dg] at h
    rcases List.mem_cons.mp hq with rfl | hq
    · rcases e with e | e
      · rw [if_pos e] at h
        split at h <;> omega
      · rw [if_pos e] at h
        split at h <;> omega
    · refine ih ?_ ⟨q, hq, e⟩
      split at h <;> split at h <;> omega
theorem df_sw (v : Int) : ∀ l : Ar, df (l.map sw) v = - df l v
  | [] => rfl
  | p :: r => by
    rw [List.map_cons, df, df, df_sw v r]
    unfold sw
    dsimp only
    omega
/-! ### a way for each line -/
def Bal (l : Ar) : Prop := ∃ m, Tn l m ∧ ∀ v, -1 ≤ df m v ∧ df m v ≤ 1
theorem Bal.perm {l l' : Ar} (h : Bal l) (q : l.Perm l') : Bal l' := by
  obtain ⟨m, a, b⟩ := h
  obtain ⟨m', c, d⟩ := a.perm q
  exact ⟨m', c, fun v => by rw [← df_perm d]; exact b v⟩
theorem Bal.tn {l l' : Ar} (h : Bal l) (q : Tn l l') : Bal l' := by
  obtain ⟨m, a, b⟩ := h
  exact ⟨m, q.symm.trans a, b⟩
/-- lines at v that are all from v to v -/
theorem df_round {l : Ar} {v : Int} (h : ∀ p ∈ l, p.1 = v ∨ p.2 = v → p.1 = p.2) : df l v = 0 := by
  induction l with
  | nil => rfl
  | cons p r ih =>
    rw [df, ih fun q hq => h q (.tail _ hq)]
    have := h p List.mem_cons_self
    by_cases e1 : p.1 = v
    · have e := this (.inl e1)
      rw [if_pos e1, if_pos (by rw [← e]; exact e1)]
      rfl
    · by_cases e2 : p.2 = v
      · exact absurd (by rw [this (.inr e2)]; exact e2) e1
      · rw [if_neg e1, if_neg e2]
        rfl
theorem Tn.round {l m : Ar} (h : Tn l m) {v : Int} (k : ∀ p ∈ l, p.1 = v ∨ p.2 = v → p.1 = p.2) : ∀ p ∈ m, p.1 = v ∨ p.2 = v → p.1 = p.2 := by
  intro p hp e
  rcases h.symm.mem p hp with q | q
  · exact k p q e
  · exact (k _ q e.symm).symm
theorem bal : ∀ (n : Nat) (l : Ar), l.length ≤ n → Bal l
  | _, [], _ => ⟨[], .nil, fun v => by rw [df]; omega⟩
  | 0, _ :: _, h => absurd h (by simp)
  | n + 1, e :: r, h => by
    have hr : r.length ≤ n := by simpa using h
    by_cases el : e.1 = e.2
    · obtain ⟨m, a, b⟩ := bal n r hr
      refine ⟨e :: m, .keep a, fun v => ?_⟩
      have := b v
      rw [df, el]
      omega
    · by_cases sh : ∃ f ∈ r, f.1 ≠ f.2 ∧ (f.1 = e.1 ∨ f.1 = e.2 ∨ f.2 = e.1 ∨ f.2 = e.2)
      · obtain ⟨f, hf, fl, ht⟩ := sh
        obtain ⟨s, t, rfl⟩ := List.append_of_mem hf
        have pm : (e :: f :: (s ++ t)).Perm (e :: (s ++ f :: t)) := .cons _ List.perm_middle.symm
        refine Bal.perm ?_ pm
        -- through v
        have key : ∀ x v y : Int, Bal ((x, v) :: (v, y) :: (s ++ t)) := by
          intro x v y
          obtain ⟨m, a, b⟩ := bal n ((x, y) :: (s ++ t)) (by simp at hr ⊢; omega)
          cases a with
          | keep a =>
            refine ⟨_, .keep (.keep a), fun w => ?_⟩
            have := b w
            rw [df] at this
            rw [df, df]
            dsimp only at this ⊢
            omega
          | turn a =>
            refine ⟨_, .turn (.turn a), fun w => ?_⟩
            have := b w
            rw [df] at this
            rw [df, df]
            unfold sw at this ⊢
            dsimp only at this ⊢
            omega
        obtain ⟨e1, e2⟩ := e
        obtain ⟨f1, f2⟩ := f
        dsimp only at ht el fl
        rcases ht with k | k | k | k
        · subst k
          exact (key e2 f1 f2).tn (.turn (.keep (.refl _)))
        · subst k
          exact (key e1 f1 f2).tn (.keep (.keep (.refl _)))
        · subst k
          exact (key e2 f2 f1).tn (.turn (.turn (.refl _)))
        · subst k
          exact (key e1 f2 f1).tn (.keep (.turn (.refl _)))
      · obtain ⟨m, a, b⟩ := bal n r hr
        have no : ∀ f ∈ r, f.1 = e.1 ∨ f.1 = e.2 ∨ f.2 = e.1 ∨ f.2 = e.2 → f.1 = f.2 := fun f hf k => Classical.byContradiction fun z => sh ⟨f, hf, z, k⟩
        have z1 := df_round (a.round (v := e.1) fun p hp q => no p hp (q.elim .inl fun q => .inr (.inr (.inl q))))
        have z2 := df_round (a.round (v := e.2) fun p hp q => no p hp (q.elim (fun q => .inr (.inl q)) fun q => .inr (.inr (.inr q))))
        refine ⟨e :: m, .keep a, fun v => ?_⟩
        have := b v
        rw [df]
        by_cases e1 : e.1 = v
        · subst e1
          rw [if_pos rfl, if_neg (Ne.symm el), z1]
          omega
        · by_cases e2 : e.2 = v
          · subst e2
            rw [if_neg e1, if_pos rfl, z2]
            omega
          · rw [if_neg e1, if_neg e2]
            omega
/-- lines that can be laid as a row from a -/
def URow (l : Ar) (a : Int) : Prop := ∃ r b, Wk a r b ∧ ∃ m, Tn l m ∧ r.Perm m
/-- what a row tells of its lines -/
theorem URow.conn {l : Ar} {a : Int} (h : URow l a) : Conn l := by
  obtain ⟨r, b, w, m, t, p⟩ := h
  exact t.symm.conn (conn_perm p (conn_of w))
theorem URow.first {l : Ar} {a : Int} (h : URow l a) (ne : l ≠ []) : touch l a := by
  obtain ⟨r, b, w, m, t, p⟩ := h
  refine t.symm.touch (touch_perm p ?_)
  cases r with
  | nil =>
    have := p.length_eq
    rw [← t.len] at this
    exact absurd (List.length_eq_zero_iff.mp this.symm) ne
  | cons q s => exact ⟨q, List.mem_cons_self, .inl w.1⟩
/-- the odd pips of a row: none, or its ends -/
theorem URow.odd {l : Ar} {a : Int} (h : URow l a) : ∃ b, ∀ v, dg l v % 2 = if a = b then 0 else if v = a ∨ v = b then 1 else 0 := by
  obtain ⟨r, b, w, m, t, p⟩ := h
  refine ⟨b, fun v => ?_⟩
  obtain ⟨k, hk⟩ := dg_df v m
  rw [t.dg, hk, ← df_perm p, wk_df w]
  by_cases e : a = b
  · subst e
    rw [if_pos rfl]
    omega
  · rw [if_neg e]
    by_cases e1 : v = a
    · subst e1
      rw [if_pos rfl, if_neg (Ne.symm e), if_pos (.inl rfl)]
      omega
    · by_cases e2 : v = b
      · subst e2
        rw [if_neg e, if_pos rfl, if_pos (.inr rfl)]
        omega
      · rw [if_neg (Ne.symm e1), if_neg (Ne.symm e2), if_neg (by rintro (z | z); exact e1 z; exact e2 z)]
        omega
theorem urow_even {l : Ar} {a : Int} (hc : Conn l) (ha : touch l a) (he : ∀ v, dg l v % 2 = 0) : URow l a := by
  obtain ⟨m, t, b⟩ := bal _ l (Nat.le_refl _)
  have z : ∀ v, df m v = 0 := fun v => by
    obtain ⟨k, hk⟩ := dg_df v m
    have h1 := he v
    rw [t.dg, hk] at h1
    have := b v
    omega
  obtain ⟨r, hr, hw⟩ := ring z (t.conn hc) (t.touch ha)
  exact ⟨r, a, hw, m, t, hr⟩
theorem urow_odd {l : Ar} {a b : Int} (hne : a ≠ b) (hc : Conn l) (ho : ∀ v, dg l v % 2 = if v = a ∨ v = b then 1 else 0) (hs : ∀ m : Ar, Tn l m → (∀ v, v ≠ a → v ≠ b → df m v = 0) → df m a + df m b = 0) : URow l a := by
  obtain ⟨m, t, bd⟩ := bal _ l (Nat.le_refl _)
  have z : ∀ v, v ≠ a → v ≠ b → df m v = 0 := fun v h1 h2 => by
    obtain ⟨k, hk⟩ := dg_df v m
    have h3 := ho v
    rw [if_neg (by rintro (z | z); exact h1 z; exact h2 z), t.dg, hk] at h3
    have := bd v
    omega
  have oa : df m a = 1 ∨ df m a = -1 := by
    obtain ⟨k, hk⟩ := dg_df a m
    have h3 := ho a
    rw [if_pos (.inl rfl), t.dg, hk] at h3
    have := bd a
    omega
  have ab := hs m t z
  rcases oa with oa | oa
  · obtain ⟨r, hr, hw⟩ := row (l := m) hne (fun w => by
      by_cases e1 : w = a
      · subst e1
        rw [if_pos rfl, if_neg hne, oa]
        rfl
      · rw [if_neg e1]
        by_cases e2 : w = b
        · subst e2
          rw [if_pos rfl]
          omega
        · rw [if_neg e2, z w e1 e2]
          rfl) (t.conn hc)
    exact ⟨r, b, hw, m, t, hr⟩
  · have t2 : Tn l (m.map sw) := t.trans (Tn.all m)
    obtain ⟨r, hr, hw⟩ := row (l := m.map sw) hne (fun w => by
      rw [df_sw]
      by_cases e1 : w = a
      · subst e1
        rw [if_pos rfl, if_neg hne, oa]
        rfl
      · rw [if_neg e1]
        by_cases e2 : w = b
        · subst e2
          rw [if_pos rfl]
          omega
        · rw [if_neg e2, z w e1 e2]
          rfl) (t2.conn hc)
    exact ⟨r, b, hw, _, t2, hr⟩
end Eu

set_option Elab.async false
set_option linter.all false
set_option maxRecDepth 100000
set_option maxHeartbeats 2000000
/-! rows of arrows in order; lists of rows -/
namespace DL
open PySem PySem.Spec PyProof.Rows L2
theorem sort_by {α : Type} (enc : α → PyData) {gs : List α} (hs : sortable (gs.map enc) = true) : ∃ gs', sortC [.list (gs.map enc)] = pure (gs'.map enc) ∧ sortC [.tuple (gs.map enc)] = pure (gs'.map enc) ∧ gs.Perm gs' ∧ gs'.Pairwise (fun a b => PySem.W.dataLt (enc b) (enc a) = false) := by
  have e1 := List.map_mergeSort (r := PySem.W.dataLe false enc) (s := PySem.W.dataLe false fun d => d) (f := enc) (l := gs) (fun a _ b _ => rfl)
  refine ⟨gs.mergeSort (PySem.W.dataLe false enc), ?_, ?_, (List.mergeSort_perm _ _).symm, ?_⟩
  · show M.guard (sortable (gs.map enc)) _ = _
    rw [M.guard_of hs, e1]
  · show M.guard (sortable (gs.map enc)) _ = _
    rw [M.guard_of hs, e1]
  · have t : PySem.W.TotalLe (PySem.W.dataLe false enc) := by
      unfold PySem.W.dataLe
      exact PySem.W.sortLe_total _ false _
    refine (PySem.W.sort_pairwise t gs).imp fun {a b} h => ?_
    have h : (!PySem.W.dataLt (enc b) (enc a)) = true := h
    simpa using h
end DL
namespace Eu
open Gr PySem DL
/-! ### the order -/
def lt2 (p q : Int × Int) : Prop := p.1 < q.1 ∨ (p.1 = q.1 ∧ p.2 < q.2)
instance (p q : Int × Int) : Decidable (lt2 p q) := by unfold lt2; infer_instance
/-- at the first place where they differ the first has the less -/
def D : Ar → Ar → Prop
  | x :: s, y :: t => lt2 x y ∨ (x = y ∧ D s t)
  | _, _ => False
theorem lt2_irrefl {p : Int × Int} (h : lt2 p p) : False := by unfold lt2 at h; omega
theorem lt2_trans {p q r : Int × Int} (h : lt2 p q) (k : lt2 q r) : lt2 p r := by unfold lt2 at *; omega
theorem lt2_tri (p q : Int × Int) : p = q ∨ lt2 p q ∨ lt2 q p := by
  by_cases h : p = q
  · exact .inl h
  · refine .inr ?_
    unfold lt2
    have : ¬ (p.1 = q.1 ∧ p.2 = q.2) := fun ⟨a, b⟩ => h (Prod.ext a b)
    omega
theorem D_irrefl : ∀ {a : Ar}, D a a → False
  | [], h => h
  | x :: s, h => by
    rcases h with h | ⟨_, h⟩
    · exact lt2_irrefl h
    · exact D_irrefl h
theorem D_asymm : ∀ {a b : Ar}, D a b → D b a → False
  | x :: s, y :: t, h, k => by
    rcases h with h | ⟨e, h⟩ <;> rcases k with k | ⟨e', k⟩
    · exact lt2_irrefl (lt2_trans h k)
    · rw [e'] at h; exact lt2_irrefl h
    · rw [e] at k; exact lt2_irrefl k
    · exact D_asymm h k
theorem D_tri : ∀ {a b : Ar}, a.length = b.length → a = b ∨ D a b ∨ D b a
  | [], [], _ => .inl rfl
  | x :: s, y :: t, h => by
    rcases lt2_tri x y with e | e | e
    · subst e
      rcases D_tri (a := s) (b := t) (by simpa using h) with k | k | k
      · exact .inl (by rw [k])
      · exact .inr (.inl (.inr ⟨rfl, k⟩))
      · exact .inr (.inr (.inr ⟨rfl, k⟩))
    · exact .inr (.inl (.inl e))
    · exact .inr (.inr (.inl e))
theorem D_uniq {l m : List Ar} (hl : l.Pairwise D) (hm : m.Pairwise D) (h : ∀ r, r ∈ l ↔ r ∈ m) : l = m := by
  refine List.Perm.eq_of_pairwise (le := D) (fun a b _ _ h1 h2 => (D_asymm h1 h2).elim) hl hm ?_
  refine (List.perm_ext_iff_of_nodup (hl.imp fun {a b} q e => ?_) (hm.imp fun {a b} q e => ?_)).mpr h
  · rw [e] at q; exact D_irrefl q
  · rw [e] at q; exact D_irrefl q
theorem eqv_eP (p q : Int × Int) : PyData.eqv (eP p) (eP q) = decide (p = q) := by
  have h := eqv_eT [p.1, p.2] [q.1, q.2]
  have e : ([p.1, p.2] = [q.1, q.2]) = (p = q) := by
    simp only [List.cons.injEq, and_true, eq_iff_iff]
    exact ⟨fun ⟨a, b⟩ => Prod.ext a b, fun h => by rw [h]; exact ⟨rfl, rfl⟩⟩
  rw [show PyData.eqv (eP p) (eP q) = PyData.eqv (eT [p.1, p.2]) (eT [q.1, q.2]) from rfl, h]
  simp only [e]
theorem rowLt_D : ∀ a b : Ar, a.length = b.length → (PySem.W.rowLt (a.map eP) (b.map eP) = true ↔ D a b)
  | [], [], _ => by
    constructor
    · intro h
      have e : PySem.W.rowLt [] [] = false := by
        unfold PySem.W.rowLt
        exact PyProof.Rows.lex_irrefl _
      rw [show PySem.W.rowLt (([] : Ar).map eP) (([] : Ar).map eP) = PySem.W.rowLt [] [] from rfl, e] at h
      cases h
    · exact fun h => h.elim
  | x :: s, y :: t, h => by
    have ih := rowLt_D s t (by simpa using h)
    have e1 : PySem.W.rowLt ((x :: s).map eP) ((y :: t).map eP) = if PyData.eqv (eP x) (eP y) = true then PySem.W.rowLt (s.map eP) (t.map eP) else PySem.W.dataLt (eP x) (eP y) := PySem.W.dataLt_cons rfl _ _
    have e2 : PySem.W.dataLt (eP x) (eP y) = decide (x.1 < y.1 ∨ (x.1 = y.1 ∧ x.2 < y.2)) := PySem.W.dataLt_ii _ _ _ _
    rw [e1, eqv_eP]
    by_cases hxy : x = y
    · rw [if_pos (by simpa using hxy), ih]
      subst hxy
      exact ⟨fun h => .inr ⟨rfl, h⟩, fun h => h.elim (fun h => (lt2_irrefl h).elim) fun h => h.2⟩
    · rw [if_neg (by simpa using hxy), e2, decide_eq_true_eq]
      exact ⟨fun h => .inl h, fun h => h.elim id fun h => absurd h.1 hxy⟩
abbrev eW (r : Ar) : PyData := .tuple (r.map eP)
theorem depth_eP (p : Int × Int) : (eP p).depth ≤ 2 := by
  show PyData.depth (.tuple ([p.1, p.2].map .int)) ≤ 2
  rw [PyData.depth, PySem.W.depth_ints]
  decide
theorem depth_eW (r : Ar) : (eW r).depth ≤ 3 := by
  show PyData.depth (.tuple (r.map eP)) ≤ 3
  rw [PyData.depth]
  have := depth_all (ds := r.map eP) (n := 2) (fun d hd => by
    obtain ⟨p, _, rfl⟩ := List.mem_map.mp hd
    exact depth_eP p)
  omega
theorem alike_eP (p q : Int × Int) : PySem.W.alike (eP p) (eP q) = true := rfl
theorem alikeAll_eP : ∀ a b : Ar, PySem.W.alikeAll (a.map eP) (b.map eP) = true
  | [], [] => rfl
  | [], _ :: _ => rfl
  | _ :: _, [] => rfl
  | x :: s, y :: t => by
    rw [List.map_cons, List.map_cons, PySem.W.alikeAll, alike_eP, alikeAll_eP s t]
    rfl
/-- rows of one length, sorted -/
theorem sort_ws {n : Nat} {gs : List Ar} (hn : ∀ r ∈ gs, r.length = n) (h1 : n = 0 → gs.length ≤ 1) (h : gs.length ≤ 100000) (nd : gs.Nodup) : ∃ gs', sortC [.list (gs.map eW)] = pure (gs'.map eW) ∧ gs.Perm gs' ∧ gs'.Pairwise D := by
  have sb : sortable (gs.map eW) = true := by
    unfold sortable
    simp only [Bool.and_eq_true, Bool.or_eq_true, List.all_eq_true, decide_eq_true_eq]
    refine ⟨⟨⟨fun d hd e he => ?_, ?_⟩, fun d hd => ?_⟩, ?_⟩
    · obtain ⟨g, _, rfl⟩ := List.mem_map.mp hd
      obtain ⟨g', _, rfl⟩ := List.mem_map.mp he
      show PySem.W.alike (.tuple (g.map eP)) (.tuple (g'.map eP)) = true
      rw [PySem.W.alike]
      exact alikeAll_eP g g'
    · by_cases hz : n = 0
      · refine .inr (.inr ⟨by rw [List.length_map]; exact h1 hz, fun d hd => ?_⟩)
        obtain ⟨g, _, rfl⟩ := List.mem_map.mp hd
        rfl
      · refine .inl fun d hd => ?_
        obtain ⟨g, hg, rfl⟩ := List.mem_map.mp hd
        cases g with
        | nil => exact absurd (hn _ hg).symm hz
        | cons a b => rfl
    · obtain ⟨g, _, rfl⟩ := List.mem_map.mp hd
      have := depth_eW g
      omega
    · rw [List.length_map, sizeLine_eq]
      omega
  obtain ⟨gs', e, _, pm, pw⟩ := sort_by eW sb
  refine ⟨gs', e, pm, ?_⟩
  have nd' : gs'.Nodup := pm.nodup_iff.mp nd
  refine List.Pairwise.imp_of_mem (fun {a b} ha hb hh => ?_) (pw.and nd')
  obtain ⟨hlt, hne⟩ := hh
  have la := hn a (pm.mem_iff.mpr ha)
  have lb := hn b (pm.mem_iff.mpr hb)
  rcases D_tri (la.trans lb.symm) with k | k | k
  · exact absurd k hne
  · exact k
  · have : PySem.W.dataLt (eW b) (eW a) = true := by
      show PySem.W.dataLt (.tuple (b.map eP)) (.tuple (a.map eP)) = true
      rw [PySem.W.dataLt_tuple]
      exact (rowLt_D b a (lb.trans la.symm)).mpr k
    rw [this] at hlt
    cases hlt
end Eu

set_option Elab.async false
set_option linter.all false
set_option maxRecDepth 100000
set_option maxHeartbeats 2000000
/-! the head's facts: the defs, their code objects and tables, the errors' classes -/
namespace Hk
open PySem PySem.Spec PyProof.Rows L2 DL
/-- what one object leads to: a dict's values, a def's code and cells, a class's names and bases -/
def refsL (o : Obj) : List Addr := match o.data with
  | .dict es _ => es.toList.flatMap fun e => He.refV e.val
  | .func fd => He.refV fd.code ++ fd.closure.map (·.2)
  | .cls cd => cd.ns :: cd.mro.flatMap He.refV
  | _ => []
def asL (g : Addr → Option Obj) : Nat → List Addr
  | 0 => [mainGlobals]
  | n + 1 => (asL g n ++ (asL g n).flatMap fun a => match g a with
    | some o => refsL o
    | none => []).eraseDups
def KL (g : Addr → Option Obj) : PySem.W.Frag := He.frG g (cStatics :: asL g 4)
/-- one def of the top, or of a class -/
structure DefL where
  at_ : Str × Option Str
  name : Str
  qual : Str
  st : Stmt
abbrev FnZ : Type := Option (Str × Str × Arguments × FuncBody × Scope × Addr × Addr)
def fobs (K : PySem.W.Frag) (p : Str × Option Str) : FnZ := match K.lookup (He.fAd K p) with
  | some ⟨_, _, .func fd, _⟩ => some (fd.name, fd.qualname, fd.params, fd.body, fd.scope, fd.globals, fd.builtins)
  | _ => none
def DefL.val (d : DefL) : FnZ := some (d.name, d.qual, defArgs d.st, .stmts (defBody d.st), defScope d.st, mainGlobals, builtinsNs)
def isNon : Value → Bool
  | .none => true
  | _ => false
def isRef : Value → Bool
  | .ref _ => true
  | _ => false
/-- a def of the top: no cells, no defaults, its code object known -/
def fokB (K : PySem.W.Frag) (p : Str × Option Str) (q : Str) : Bool := match K.lookup (He.fAd K p) with
  | some ⟨_, _, .func fd, _⟩ => fd.closure.isEmpty && (isNon fd.defaults && (isRef fd.code && (PySem.W.codeIn K fd.code q && PySem.W.keepIn K (.ref (He.fAd K p)))))
  | _ => false
def codeA (K : PySem.W.Frag) (p : Str × Option Str) : Addr := match K.lookup (He.fAd K p) with
  | some ⟨_, _, .func fd, _⟩ => (match fd.code with
    | .ref c => c
    | _ => 0)
  | _ => 0
def cellA (K : PySem.W.Frag) (p : Str × Option Str) : Addr := match K.lookup (He.fAd K p) with
  | some ⟨_, _, .func fd, _⟩ => (match fd.closure with
    | [(_, c)] => c
    | _ => 0)
  | _ => 0
def tabA (K : PySem.W.Frag) (p : Str × Option Str) : Addr := match K.lookup (codeA K p) with
  | some ⟨_, _, .fields vs, _⟩ => (match (vs[11]? : Option Value) with
    | some (Value.ref P) => P
    | _ => 0)
  | _ => 0
def fdA (K : PySem.W.Frag) (p : Str × Option Str) : FuncData := match K.lookup (He.fAd K p) with
  | some ⟨_, _, .func fd, _⟩ => fd
  | _ => default
theorem fn_of {K : PySem.W.Frag} {d : DefL} (e : fobs K d.at_ = d.val) (c : fokB K d.at_ d.qual = true) : FunC K d.name d.qual d.st (He.fAd K d.at_) (fdA K d.at_) (codeA K d.at_) := by
  unfold fobs at e
  unfold fokB at c
  unfold codeA fdA
  cases q : K.lookup (He.fAd K d.at_) with
  | none =>
    rw [q] at c
    cases c
  | some o =>
    obtain ⟨oc, od, dt, osl⟩ := o
    rw [q] at c e
    cases dt with
    | func fd =>
      obtain ⟨n1, n2, n3, n4, n5, n6, n7, n8, n9, n10, n11, n12, n13, n14, n15⟩ := fd
      have e2 : (some (n1, n2, n3, n4, n5, n6, n15) : FnZ) = some (d.name, d.qual, defArgs d.st, .stmts (defBody d.st), defScope d.st, mainGlobals, builtinsNs) := e
      simp only [Option.some.injEq, Prod.mk.injEq] at e2
      obtain ⟨h1, h2, h3, h4, h5, h6, h8⟩ := e2
      subst h1 h2 h3 h4 h5 h6 h8
      have c2 : (n7.isEmpty && (isNon n8 && (isRef n13 && (PySem.W.codeIn K n13 d.qual && PySem.W.keepIn K (.ref (He.fAd K d.at_)))))) = true := c
      obtain ⟨c3, c2⟩ := He.ba c2
      obtain ⟨c4, c2⟩ := He.ba c2
      obtain ⟨c5, c2⟩ := He.ba c2
      obtain ⟨c6, c7⟩ := He.ba c2
      have e7 := List.isEmpty_iff.mp c3
      subst e7
      cases n8 <;> cases c4
      cases n13 <;> cases c5
      exact ⟨⟨oc, od, n9, n10, n11, n12, n14, osl, rfl, q⟩, c6, c7⟩
    | _ => cases c
/-! ### the code's table -/
def isStr : Value → Bool
  | .str _ _ => true
  | _ => false
def isInt : Value → Bool
  | .int _ _ => true
  | _ => false
def isBl : Value → Bool
  | .bool _ => true
  | _ => false
def hdB (K : PySem.W.Frag) (c P : Addr) : Bool := match K.lookup c with
  | some ⟨cl, _, .fields vs, _⟩ => decide (cl = .type "code") && (decide (vs[11]? = some (.ref P)) && (isStr (vs.getD 18 .none) && (isInt (vs.getD 7 .none) && (isBl (vs.getD 9 .none) && (isInt (vs.getD 10 .none) && !(c == P))))))
  | _ => false
theorem hd_of {K : PySem.W.Frag} {h : Heap} {c P : Addr} (X : K.In h) (e : hdB K c P = true) : PySem.W.CodeHd h c P := by
  unfold hdB at e
  cases q : K.lookup c with
  | none =>
    rw [q] at e
    cases e
  | some o =>
    obtain ⟨oc, od, dt, osl⟩ := o
    rw [q] at e
    cases dt with
    | fields vs =>
      have e1 : (decide (oc = .type "code") && (decide (vs[11]? = some (.ref P)) && (isStr (vs.getD 18 .none) && (isInt (vs.getD 7 .none) && (isBl (vs.getD 9 .none) && (isInt (vs.getD 10 .none) && !(c == P))))))) = true := e
      obtain ⟨a1, e1⟩ := He.ba e1
      obtain ⟨a2, e1⟩ := He.ba e1
      obtain ⟨a3, e1⟩ := He.ba e1
      obtain ⟨a4, e1⟩ := He.ba e1
      obtain ⟨a5, e1⟩ := He.ba e1
      obtain ⟨a6, a7⟩ := He.ba e1
      have b2 := of_decide_eq_true a2
      have b2' : vs.getD 11 .none = .ref P := by
        rw [Array.getD_eq_getD_getElem?, b2]
        rfl
      obtain ⟨f, tf, b3⟩ : ∃ f tf, vs.getD 18 .none = .str f tf := by
        generalize vs.getD 18 .none = z at a3
        cases z <;> cases a3
        exact ⟨_, _, rfl⟩
      obtain ⟨fl, tg, b4⟩ : ∃ f tf, vs.getD 7 .none = .int f tf := by
        generalize vs.getD 7 .none = z at a4
        cases z <;> cases a4
        exact ⟨_, _, rfl⟩
      obtain ⟨bl, b5⟩ : ∃ f, vs.getD 9 .none = .bool f := by
        generalize vs.getD 9 .none = z at a5
        cases z <;> cases a5
        exact ⟨_, rfl⟩
      obtain ⟨tx, tt, b6⟩ : ∃ f tf, vs.getD 10 .none = .int f tf := by
        generalize vs.getD 10 .none = z at a6
        cases z <;> cases a6
        exact ⟨_, _, rfl⟩
      have b7 : c ≠ P := fun z => by
        rw [z] at a7
        simp at a7
      exact ⟨_, vs, f, tf, fl, tg, bl, tx, tt, X _ _ q, of_decide_eq_true a1, rfl, b2, b2', b3, b4, b5, b6, b7⟩
    | _ => cases e
def emB (g : Addr → Option Obj) (P : Addr) : Bool := match g P with
  | some ⟨cl, none, .fields vs, sl⟩ => isNon cl && (vs.isEmpty && sl.isEmpty)
  | _ => false
theorem em_of {g : Addr → Option Obj} {P : Addr} (e : emB g P = true) : g P = some { cls := .none, data := .fields #[] } := by
  unfold emB at e
  cases q : g P with
  | none =>
    rw [q] at e
    cases e
  | some o =>
    obtain ⟨oc, od, dt, osl⟩ := o
    rw [q] at e
    cases od with
    | none =>
      cases dt with
      | fields vs =>
        have e1 : (isNon oc && (vs.isEmpty && osl.isEmpty)) = true := e
        obtain ⟨a1, e1⟩ := He.ba e1
        obtain ⟨a2, a3⟩ := He.ba e1
        have b2 := Array.isEmpty_iff.mp a2
        have b3 := Array.isEmpty_iff.mp a3
        subst b2 b3
        cases oc <;> cases a1
        rfl
      | _ => cases e
    | some d => cases dt <;> cases e
/-! ### a tuple of numbers -/
def tupN (K : PySem.W.Frag) (x : Str) (vs : List He.Dv) : Bool := He.tupB K x vs && (match K.lookup (He.ga K x) with | some o => o.dict.isNone | none => false)
theorem gtup_of {K : PySem.W.Frag} {mg : Str → Option Value} {x : Str} {ns : List Int} (hm : mg x = some (.ref (He.ga K x))) (h : tupN K x (ns.map He.Dv.int) = true) : GTup K mg x ns := by
  unfold tupN at h
  obtain ⟨h, hn⟩ := He.ba h
  unfold He.tupB at h
  cases q : K.lookup (He.ga K x) with
  | none =>
    rw [q] at h
    cases h
  | some o =>
    obtain ⟨oc, od, dt, osl⟩ := o
    rw [q] at h hn
    cases oc with
    | type c =>
      cases dt with
      | seq its n =>
        obtain ⟨h1, h2⟩ := He.ba (show (decide (c = "tuple") && (decide (its.size ≤ sizeLine) && He.relAll ((ns.map He.Dv.int).map (He.Dv.v K)) its.toList)) = true from h)
        obtain ⟨h3, h4⟩ := He.ba h2
        have h5 := He.relAll_ok h4
        rw [List.map_map] at h5
        exact ⟨_, _, its, n, hm, q, congrArg Value.type (of_decide_eq_true h1), rfl, of_decide_eq_true h3, h5, Option.isNone_iff_eq_none.mp hn⟩
      | _ => cases h
    | _ => cases dt <;> cases h
/-! ### the errors' classes -/
def eqB (a b : Option Bool) : Bool := decide (a = b)
def excB (K : PySem.W.Frag) (D : Addr) : Bool := He.eqO (PySem.W.findIn K (.ref D) "__getattribute__") (some (some (.builtin "BaseException.__getattribute__"))) && (He.eqO (PySem.W.findIn K (.ref D) "__getattr__") (some none) &&
  (eqB (PySem.W.subIn K (.ref D) (.type "BaseException")) (some true) && (PySem.W.hasDictIn K D && (He.eqO (PySem.W.findIn K (.ref D) "__class__") (some (some (.builtin "object.__class__"))) &&
  (He.eqO (PySem.W.specialIn K (.builtin "object.__class__") "__get__") (some (some (.builtin "getset_descriptor.__get__"))) && (eqB (PySem.W.takesIn K (.builtin "object.__class__")) (some true) && eqB (PySem.W.mroIn K D (.type "object")) (some true)))))))
theorem exc_of {K : PySem.W.Frag} {D : Addr} (h : excB K D = true) : XfC K D ∧ ExcC K D := by
  obtain ⟨h1, h⟩ := He.ba h
  obtain ⟨h2, h⟩ := He.ba h
  obtain ⟨h3, h⟩ := He.ba h
  obtain ⟨h4, h⟩ := He.ba h
  obtain ⟨h5, h⟩ := He.ba h
  obtain ⟨h6, h⟩ := He.ba h
  obtain ⟨h7, h8⟩ := He.ba h
  exact ⟨⟨He.eqO_ok h1, He.eqO_ok h2, of_decide_eq_true h3, h4⟩, ⟨He.eqO_ok h1, He.eqO_ok h2, of_decide_eq_true h3, h4, He.eqO_ok h5, He.eqO_ok h6, of_decide_eq_true h7, of_decide_eq_true h8⟩⟩
def mroB (C : Addr) : List Value → Bool
  | .ref C' :: bm => C' == C && PySem.HandSPX.refsVE bm
  | _ => false
def newB : List (Option Value) → Bool
  | [_, _, _, _, some (.builtin n), _] => decide (n = "ValueError.__new__")
  | _ => false
def clB (C : Addr) : Option Obj → Bool
  | some ⟨cl, _, .cls cd, sl⟩ => decide (cl = .type "type") && (mroB C cd.mro && (newB sl.toList && (cd.hasDict && !cd.hasDel)))
  | _ => false
def oexB (K : PySem.W.Frag) (C : Addr) : Bool := clB C (K.lookup C) && (He.eqO (PySem.W.findIn K (.ref C) "__setattr__") (some (some (.builtin "object.__setattr__"))) && (eqB (PySem.W.subIn K (.ref C) (.type "BaseException")) (some true) && (decide (PySem.W.typeIn K (.ref C) = some (.type "type")) && PySem.W.keepIn K (.ref C))))
theorem oex_of {K : PySem.W.Frag} {C : Addr} (h : oexB K C = true) : OexC K C := by
  obtain ⟨h1, h⟩ := He.ba h
  obtain ⟨h2, h⟩ := He.ba h
  obtain ⟨h3, h⟩ := He.ba h
  obtain ⟨h4, h5⟩ := He.ba h
  refine ⟨?_, He.eqO_ok h2, of_decide_eq_true h3, of_decide_eq_true h4, h5⟩
  cases q : K.lookup C with
  | none =>
    rw [q] at h1
    cases h1
  | some o =>
    obtain ⟨oc, od, dt, osl⟩ := o
    rw [q] at h1
    cases dt with
    | cls cd =>
      obtain ⟨n1, n2, n3, n4, n5, n6, n7, n8, n9, n10, n11⟩ := cd
      obtain ⟨g1, g⟩ := He.ba (show (decide (oc = .type "type") && (mroB C n3 && (newB osl.toList && (n6 && !n11)))) = true from h1)
      obtain ⟨g2, g⟩ := He.ba g
      obtain ⟨g3, g⟩ := He.ba g
      obtain ⟨g4, g5⟩ := He.ba g
      have e1 := of_decide_eq_true g1
      have e4 : n6 = true := g4
      have e5 : n11 = false := by
        cases n11 with
        | false => rfl
        | true => cases g5
      subst e1 e4 e5
      cases n3 with
      | nil => cases g2
      | cons v bm =>
        cases v with
        | ref C' =>
          obtain ⟨g6, g7⟩ := He.ba g2
          have e6 : C' = C := beq_iff_eq.mp g6
          subst e6
          unfold newB at g3
          split at g3
          · rename_i k0 k1 k2 k3 n k5 e7
            have e8 := of_decide_eq_true g3
            subst e8
            have e9 : osl = #[k0, k1, k2, k3, some (.builtin "ValueError.__new__"), k5] := by
              apply Array.toList_inj.mp
              rw [e7]
            subst e9
            exact ⟨n1, n5, n4, n2, bm, n7, n8, n9, n10, od, k0, k1, k2, k3, k5, rfl, g7⟩
          · cases g3
        | _ => cases g2
    | _ => cases h1
def cloB : List (Str × Addr) → Bool
  | [(y, _)] => decide (y = "__class__")
  | _ => false
def iniB : Option Obj → Bool
  | some ⟨_, _, .func fd, _⟩ => cloB fd.closure && (isNon fd.defaults && isRef fd.code)
  | _ => false
/-- what one's own error class and its maker must be -/
def supB (file : Str) (K : PySem.W.Frag) (x q : Str) : Bool := oexB K (He.ga K x) && (He.eqO (PySem.W.findIn K (.ref (He.ga K x)) "__init__") (some (some (.ref (He.ma K (He.ga K x) "__init__")))) && (decide (PySem.W.typeIn K (.ref (He.ma K (He.ga K x) "__init__")) = some (.type "function")) &&
  (iniB (K.lookup (He.ma K (He.ga K x) "__init__")) && (PySem.W.codeIn K (.ref (codeA K (x, some "__init__"))) q && ((match K.lookup (codeA K (x, some "__init__")) with
    | some ⟨_, _, .fields vs, _⟩ => (match (vs[2]? : Option Value) with
      | some (Value.str fl _) => file == fl
      | _ => false)
    | _ => false) && ((match K.lookup (cellA K (x, some "__init__")) with
    | some ⟨_, _, .cell (some (.ref D)), _⟩ => D == He.ga K x
    | _ => false) && ((PySem.W.clsIn K (He.ga K x)).isSome && (eqB (PySem.W.mroIn K (He.ga K x) (.ref (He.ga K x))) (some true) && (He.eqO (PySem.W.ks_superIn K (He.ga K x) (He.ga K x) "__init__") (some (some (.builtin "ValueError.__init__"))) &&
    (eqB (PySem.W.subIn K (.ref (He.ga K x)) (.type "ValueError")) (some true) && He.eqO (PySem.W.nsIn K cStatics "thirdparty.any") (some none)))))))))))
theorem sup_of {P : Program} {K : PySem.W.Frag} {x q : Str} {st : Stmt} (e : fobs K (x, some "__init__") = (⟨(x, some "__init__"), "__init__", q, st⟩ : DefL).val) (h : supB P.main.file K x q = true) :
    SupF P K (He.ga K x) (He.ma K (He.ga K x) "__init__") q st (fdA K (x, some "__init__")) (codeA K (x, some "__init__")) (cellA K (x, some "__init__")) := by
  obtain ⟨h1, h⟩ := He.ba h
  obtain ⟨h2, h⟩ := He.ba h
  obtain ⟨h3, h⟩ := He.ba h
  obtain ⟨h4, h⟩ := He.ba h
  obtain ⟨h5, h⟩ := He.ba h
  obtain ⟨h6, h⟩ := He.ba h
  obtain ⟨h7, h⟩ := He.ba h
  obtain ⟨h8, h⟩ := He.ba h
  obtain ⟨h9, h⟩ := He.ba h
  obtain ⟨h10, h⟩ := He.ba h
  obtain ⟨h11, h12⟩ := He.ba h
  refine ⟨oex_of h1, He.eqO_ok h2, of_decide_eq_true h3, ?_, h5, ?_, ?_, ?_, of_decide_eq_true h9, He.eqO_ok h10, of_decide_eq_true h11, He.eqO_ok h12⟩
  · unfold fobs at e
    have z : He.fAd K (x, some "__init__") = He.ma K (He.ga K x) "__init__" := rfl
    unfold fdA codeA cellA
    rw [z] at e ⊢
    cases qq : K.lookup (He.ma K (He.ga K x) "__init__") with
    | none =>
      rw [qq] at h4
      cases h4
    | some o =>
      obtain ⟨oc, od, dt, osl⟩ := o
      rw [qq] at h4 e
      cases dt with
      | func fd =>
        obtain ⟨n1, n2, n3, n4, n5, n6, n7, n8, n9, n10, n11, n12, n13, n14, n15⟩ := fd
        have e2 : (some (n1, n2, n3, n4, n5, n6, n15) : FnZ) = some (("__init__" : Str), q, defArgs st, FuncBody.stmts (defBody st), defScope st, mainGlobals, builtinsNs) := e
        simp only [Option.some.injEq, Prod.mk.injEq] at e2
        obtain ⟨g1, g2, g3, g4, g5, g6, g8⟩ := e2
        subst g1 g2 g3 g4 g5 g6 g8
        obtain ⟨c1, c2⟩ := He.ba (show (cloB n7 && (isNon n8 && isRef n13)) = true from h4)
        obtain ⟨c3, c4⟩ := He.ba c2
        cases n8 <;> cases c3
        cases n13 <;> cases c4
        unfold cloB at c1
        split at c1
        · rename_i y cc
          have ey := of_decide_eq_true c1
          subst ey
          exact ⟨oc, od, osl, n9, n10, n11, n12, n14, rfl, rfl⟩
        · cases c1
      | _ => cases h4
  · cases qq : K.lookup (codeA K (x, some "__init__")) with
    | none =>
      rw [qq] at h6
      cases h6
    | some o =>
      obtain ⟨oc, od, dt, osl⟩ := o
      rw [qq] at h6
      cases dt with
      | fields vs =>
        have h6' : (match (vs[2]? : Option Value) with
          | some (Value.str fl _) => P.main.file == fl
          | _ => false) = true := h6
        split at h6'
        · rename_i fl tf ev
          exact ⟨oc, od, vs, osl, fl, tf, rfl, ev, h6'⟩
        · cases h6'
      | _ => cases h6
  · cases qq : K.lookup (cellA K (x, some "__init__")) with
    | none =>
      rw [qq] at h7
      cases h7
    | some o =>
      obtain ⟨oc, od, dt, osl⟩ := o
      rw [qq] at h7
      cases dt with
      | cell v =>
        cases v with
        | none => cases h7
        | some u =>
          cases u with
          | ref D =>
            have eD : D = He.ga K x := beq_iff_eq.mp h7
            subst eD
            exact ⟨oc, od, osl, rfl⟩
          | _ => cases h7
      | _ => cases h7
  · exact Option.isSome_iff_exists.mp h8
/-! ### the Hook -/
abbrev AlL : Type := List FnZ × Bool
section
variable (fn : List DefL) (own : List (Str × Option Str)) (tabs : List Str) (ff : PySem.W.Frag → List Bool)
def factsB (K : PySem.W.Frag) : Bool := (fn.all fun d => (own.contains d.at_) || fokB K d.at_ d.qual) && (tabs.all (fun x => hdB K (codeA K (x, none)) (tabA K (x, none)) && (K.lookup (tabA K (x, none))).isNone) && (ff K).all id)
def obsL (g : Addr → Option Obj) : AlL := (fn.map fun d => fobs (KL g) d.at_, tabs.all (fun x => emB g (tabA (KL g) (x, none))) && factsB fn own tabs ff (KL g))
structure Says (K : PySem.W.Frag) (h : Heap) : Prop where
  kin : K.In h
  fns : fn.map (fun d => fobs K d.at_) = fn.map DefL.val
  tab : ∀ x ∈ tabs, h.get? (tabA K (x, none)) = some { cls := .none, data := .fields #[] }
  ok : factsB fn own tabs ff K = true
def hookL : PySem.W.Hook where
  α := AlL
  obs := fun s => obsL fn own tabs ff s.heap.get?
  val := fun _ => (fn.map DefL.val, true)
  says := fun _ h => ∃ K : PySem.W.Frag, Says fn own tabs ff K h
  of := fun _ s e => by
    have e1 : fn.map (fun d => fobs (KL s.heap.get?) d.at_) = fn.map DefL.val := congrArg (fun z : AlL => z.1) e
    obtain ⟨e2, e3⟩ := He.ba (show (tabs.all (fun x => emB s.heap.get? (tabA (KL s.heap.get?) (x, none))) && factsB fn own tabs ff (KL s.heap.get?)) = true from congrArg (fun z : AlL => z.2) e)
    exact ⟨_, He.frG_in, e1, fun x hx => em_of (List.all_eq_true.mp e2 x hx), e3⟩
  keeps := fun _ _ _ ⟨K, hK, c, t, o⟩ k => ⟨K, PySem.W.Frag.In.keeps hK k, c, fun x hx => k _ _ (t x hx), o⟩
theorem obsL_eq {g : Addr → Option Obj} {s : Shared} (h : ∀ a, g a = s.heap.get? a) : obsL fn own tabs ff g = (hookL fn own tabs ff).obs s := by
  have e : g = s.heap.get? := funext h
  rw [e] <;> rfl
end
section
variable {fns : List DefL} {own : List (Str × Option Str)} {tabs : List Str} {ffs : PySem.W.Frag → List Bool} {K : PySem.W.Frag} {h : Heap}
theorem Says.at (c : Says fns own tabs ffs K h) (i : Nat) {d : DefL} (e : fns[i]? = some d) : fobs K d.at_ = d.val := by
  have e2 : (fns.map fun d => fobs K d.at_)[i]? = (fns.map DefL.val)[i]? := by rw [c.fns]
  rw [List.getElem?_map, List.getElem?_map, e] at e2
  exact Option.some.inj e2
theorem Says.fn (c : Says fns own tabs ffs K h) (i : Nat) {d : DefL} (e : fns[i]? = some d) (ho : own.contains d.at_ = false := by rfl) : FunC K d.name d.qual d.st (He.fAd K d.at_) (fdA K d.at_) (codeA K d.at_) := by
  refine fn_of (c.at i e) ?_
  have c1 := (He.ba c.ok).1
  have c2 := List.all_eq_true.mp c1 d (List.mem_of_getElem? e)
  rw [ho] at c2
  exact c2
theorem Says.ff (c : Says fns own tabs ffs K h) (i : Nat) {b : Bool} (e : (ffs K)[i]? = some b) : b = true := by
  have c1 := (He.ba (He.ba c.ok).2).2
  exact List.all_eq_true.mp c1 b (List.mem_of_getElem? e)
theorem Says.hd (c : Says fns own tabs ffs K h) {x : Str} (hx : x ∈ tabs) : PySem.W.CodeHd h (codeA K (x, none)) (tabA K (x, none)) ∧ K.lookup (tabA K (x, none)) = none := by
  have c1 := (He.ba (He.ba c.ok).2).1
  obtain ⟨c2, c3⟩ := He.ba (List.all_eq_true.mp c1 x hx)
  exact ⟨hd_of c.kin c2, Option.isNone_iff_eq_none.mp c3⟩
end
end Hk

set_option Elab.async false
set_option linter.all false
set_option maxRecDepth 100000
set_option maxHeartbeats 4000000
/-! the defs of the text: mirrors, what the written part says of them, derivations (printed by gen.py) -/
namespace Lw
open PySem PySem.Spec PyProof.Rows L2 DL
def top (i : Nat) : Stmt := PySem.Challenge.pw_dominorows_k45_balanced_lays.main.body.getD i (.Pass ⟨0, 0, 0, 0⟩)
abbrev st__law_taken : Stmt := top 44
abbrev m__law_taken := takenM
abbrev st__law_heard : Stmt := top 54
/-! ### is_number -/
abbrev st_is_number : Stmt := top 8
abbrev N_is_number : List Str := ["value", "low", "high"]
theorem sc_is_number : FnScope N_is_number ["value", "low", "high"] (defScope st_is_number) := ⟨rfl, rfl, rfl, by decide +kernel, rfl, by decide +kernel, by decide +kernel⟩
def m_is_number : List PyData → M (Fl Empty)
  | [a_value, a_low, a_high] => (((((pure a_value) >>= fun d => pure (isTy "int" d)) >>= fun k => if k = true then ((((pure a_value) >>= fun d => pure (isTy "bool" d)) >>= fun c => pure (!c)) >>= fun k => if k = true then ((pure a_low) >>= fun x => (pure a_value) >>= fun y => ordM .le x y >>= fun k => if k = true then (pure a_high) >>= fun z => ordM .le y z else pure false) else pure false) else pure false) >>= fun c => pure (PyData.bool c)) >>= fun d => pure (.rt d))
  | _ => .stuck
/-! ### check -/
abbrev st_check : Stmt := top 9
abbrev N_check : List Str := ["is_right", "name"]
theorem sc_check : FnScope N_check ["is_right", "name"] (defScope st_check) := ⟨rfl, rfl, rfl, by decide +kernel, rfl, by decide +kernel, by decide +kernel⟩
def m_check : List PyData → M (Fl Unit)
  | [a_is_right, a_name] => ((((pure a_is_right) >>= truthM) >>= fun c => pure (!c)) >>= fun k => if k = true then M.thn (((pure a_name) >>= fun d => raise1 Er.bad d) : M (Fl Empty)) (fun z => z.elim) else (pure (.nx ())))
  | _ => .stuck
/-! ### is_pip -/
abbrev st_is_pip : Stmt := top 10
abbrev N_is_pip : List Str := ["value"]
theorem sc_is_pip : FnScope N_is_pip ["value"] (defScope st_is_pip) := ⟨rfl, rfl, rfl, by decide +kernel, rfl, by decide +kernel, by decide +kernel⟩
def m_is_pip : List PyData → M (Fl Empty)
  | [a_value] => ((((pure a_value) >>= fun x => ((pure (.int 0)) >>= fun x => ((pure (.int 6)) >>= fun x => (pure []) >>= fun xs => pure (x :: xs)) >>= fun xs => pure (x :: xs)) >>= fun xs => pure (x :: xs)) >>= fun ds => M.guard (decide (ds.length = 3)) ((m_is_number ds).fin)) >>= fun d => pure (.rt d))
  | _ => .stuck
/-! ### is_bone -/
abbrev st_is_bone : Stmt := top 14
abbrev N_is_bone : List Str := ["value", "own"]
theorem sc_is_bone : FnScope N_is_bone ["value"] (defScope st_is_bone) := ⟨rfl, rfl, rfl, by decide +kernel, rfl, by decide +kernel, by decide +kernel⟩
def m_is_bone : List PyData → M (Fl Empty)
  | [a_value] => (((((pure a_value) >>= fun d => pure (isTy "tuple" d)) >>= fun c => pure (!c)) >>= fun k => if k = true then pure true else (((((pure a_value) >>= fun x => (pure []) >>= fun xs => pure (x :: xs)) >>= lenD) >>= fun x => (pure (.int 2)) >>= fun y => neM x y) >>= fun k => if k = true then pure true else ((((pure a_value) >>= seqM) >>= gxM false patN (fun c1 => ((((pure c1) >>= fun x => (pure []) >>= fun xs => pure (x :: xs)) >>= fun ds => M.guard (decide (ds.length = 1)) ((m_is_pip ds).fin)) >>= boolM))) >>= fun c => pure (!c)))) >>= fun k => if k = true then M.thn ((((pure false) >>= fun c => pure (PyData.bool c)) >>= fun d => pure (.rt d)) : M (Fl Empty)) (fun z => z.elim) else (((((pure a_value) >>= fun x => (pure (.int 0)) >>= fun y => atD x y) >>= fun x => ((pure a_value) >>= fun x => (pure (.int 1)) >>= fun y => atD x y) >>= fun y => ordM .le x y) >>= fun c => pure (PyData.bool c)) >>= fun d => pure (.rt d)))
  | _ => .stuck
/-! ### is_lot -/
abbrev st_is_lot : Stmt := top 15
abbrev N_is_lot : List Str := ["value", "own", "one", "other"]
theorem sc_is_lot : FnScope N_is_lot ["value"] (defScope st_is_lot) := ⟨rfl, rfl, rfl, by decide +kernel, rfl, by decide +kernel, by decide +kernel⟩
def m_is_lot : List PyData → M (Fl Empty)
  | [a_value] => (((((pure a_value) >>= fun d => pure (isTy "tuple" d)) >>= fun c => pure (!c)) >>= fun k => if k = true then pure true else (((((pure a_value) >>= fun x => (pure []) >>= fun xs => pure (x :: xs)) >>= lenD) >>= fun x => (pure (.int 8)) >>= fun y => ordM .gt x y) >>= fun k => if k = true then pure true else ((((pure a_value) >>= seqM) >>= gxM false patN (fun c1 => ((((pure c1) >>= fun x => (pure []) >>= fun xs => pure (x :: xs)) >>= fun ds => M.guard (decide (ds.length = 1)) ((m_is_bone ds).fin)) >>= boolM))) >>= fun c => pure (!c)))) >>= fun k => if k = true then M.thn ((((pure false) >>= fun c => pure (PyData.bool c)) >>= fun d => pure (.rt d)) : M (Fl Empty)) (fun z => z.elim) else ((((((pure a_value) >>= fun x => (((pure a_value) >>= fun x => ((pure (.int 1)) >>= intM) >>= fun l => (pure none) >>= fun u => sliceD x l u) >>= fun x => (pure []) >>= fun xs => pure (x :: xs)) >>= fun xs => pure (x :: xs)) >>= zipM) >>= gxM false pat2 (fun c2 => ((pure c2.1) >>= fun x => (pure c2.2) >>= fun y => ordM .le x y))) >>= fun c => pure (PyData.bool c)) >>= fun d => pure (.rt d)))
  | _ => .stuck
/-! ### check_lot -/
abbrev st_check_lot : Stmt := top 16
abbrev N_check_lot : List Str := ["lot"]
theorem sc_check_lot : FnScope N_check_lot ["lot"] (defScope st_check_lot) := ⟨rfl, rfl, rfl, by decide +kernel, rfl, by decide +kernel, by decide +kernel⟩
def m_check_lot : List PyData → M (Fl Unit)
  | [a_lot] => ((((((pure a_lot) >>= fun x => (pure []) >>= fun xs => pure (x :: xs)) >>= fun ds => M.guard (decide (ds.length = 1)) ((m_is_lot ds).fin)) >>= fun x => ((pure (.str "lot")) >>= fun x => (pure []) >>= fun xs => pure (x :: xs)) >>= fun xs => pure (x :: xs)) >>= fun ds => M.guard (decide (ds.length = 2)) ((m_check ds).fin)) >>= fun _ => (pure (.nx ())))
  | _ => .stuck
/-! ### bone_of -/
abbrev st_bone_of : Stmt := top 17
abbrev N_bone_of : List Str := ["one", "other"]
theorem sc_bone_of : FnScope N_bone_of ["one", "other"] (defScope st_bone_of) := ⟨rfl, rfl, rfl, by decide +kernel, rfl, by decide +kernel, by decide +kernel⟩
def m_bone_of : List PyData → M (Fl Empty)
  | [a_one, a_other] => ((((pure a_one) >>= fun x => (pure a_other) >>= fun y => ordM .le x y) >>= fun k => if k = true then (((pure a_one) >>= fun x => ((pure a_other) >>= fun x => (pure []) >>= fun xs => pure (x :: xs)) >>= fun xs => pure (x :: xs)) >>= fun xs => M.guard (decide (xs.length ≤ sizeLine)) (pure (PyData.tuple xs))) else (((pure a_other) >>= fun x => ((pure a_one) >>= fun x => (pure []) >>= fun xs => pure (x :: xs)) >>= fun xs => pure (x :: xs)) >>= fun xs => M.guard (decide (xs.length ≤ sizeLine)) (pure (PyData.tuple xs)))) >>= fun d => pure (.rt d))
  | _ => .stuck
/-! ### ends_at -/
abbrev st_ends_at : Stmt := top 18
abbrev N_ends_at : List Str := ["lot", "pip", "one", "other"]
theorem sc_ends_at : FnScope N_ends_at ["lot", "pip"] (defScope st_ends_at) := ⟨rfl, rfl, rfl, by decide +kernel, rfl, by decide +kernel, by decide +kernel⟩
def m_ends_at : List PyData → M (Fl Empty)
  | [a_lot, a_pip] => (((((((pure a_lot) >>= seqM) >>= fun ds => M.guard (decide (ds.length ≤ sizeLine)) (compM pat2 (fun c1 => (pure true)) (fun c1 => ((((pure c1.1) >>= fun x => (pure a_pip) >>= fun y => eqM x y) >>= fun c => pure (PyData.bool c)) >>= fun x => (((pure c1.2) >>= fun x => (pure a_pip) >>= fun y => eqM x y) >>= fun c => pure (PyData.bool c)) >>= fun y => addD x y)) ds)) >>= fun ds => pure (PyData.list ds)) >>= fun x => (pure []) >>= fun xs => pure (x :: xs)) >>= sumD) >>= fun d => pure (.rt d))
  | _ => .stuck
/-! ### odd_in -/
abbrev st_odd_in : Stmt := top 19
abbrev N_odd_in : List Str := ["lot", "pip"]
theorem sc_odd_in : FnScope N_odd_in ["lot"] (defScope st_odd_in) := ⟨rfl, rfl, rfl, by decide +kernel, rfl, by decide +kernel, by decide +kernel⟩
def m_odd_in : List PyData → M (Fl Empty)
  | [a_lot] => (((((pure (.tuple ([0, 1, 2, 3, 4, 5, 6].map PyData.int))) >>= seqM) >>= fun ds => M.guard (decide (ds.length ≤ sizeLine)) (compM patN (fun c1 => (((((pure a_lot) >>= fun x => ((pure c1) >>= fun x => (pure []) >>= fun xs => pure (x :: xs)) >>= fun xs => pure (x :: xs)) >>= fun ds => M.guard (decide (ds.length = 2)) ((m_ends_at ds).fin)) >>= fun x => (pure (.int 2)) >>= fun y => modD x y) >>= fun x => (pure (.int 1)) >>= fun y => eqM x y)) (fun c1 => (pure c1)) ds)) >>= fun ds => pure (PyData.list ds)) >>= fun d => pure (.rt d))
  | _ => .stuck
/-! ### pieces_in -/
abbrev st_pieces_in : Stmt := top 20
abbrev N_pieces_in : List Str := ["lot", "left", "found", "pip", "group", "at", "bone", "own"]
theorem sc_pieces_in : FnScope N_pieces_in ["lot"] (defScope st_pieces_in) := ⟨rfl, rfl, rfl, by decide +kernel, rfl, by decide +kernel, by decide +kernel⟩
def m_pieces_in : List PyData → M (Fl Empty)
  | [a_lot] => (((((pure (.tuple ([0, 1, 2, 3, 4, 5, 6].map PyData.int))) >>= seqM) >>= fun ds => M.guard (decide (ds.length ≤ sizeLine)) (compM patN (fun c1 => ((((pure a_lot) >>= fun x => ((pure c1) >>= fun x => (pure []) >>= fun xs => pure (x :: xs)) >>= fun xs => pure (x :: xs)) >>= fun ds => M.guard (decide (ds.length = 2)) ((m_ends_at ds).fin)) >>= fun x => (pure (.int 0)) >>= fun y => ordM .gt x y)) (fun c1 => (pure c1)) ds)) >>= fun ds => pure (PyData.list ds)) >>= fun left2 => ((pure []) >>= fun xs => M.guard (decide (xs.length ≤ sizeLine)) (pure xs)) >>= fun found3 => (M.thn (whileM (fun (c4 : List PyData × PyData) => ((((pure c4.2) >>= fun x => (pure []) >>= fun xs => pure (x :: xs)) >>= lenD) >>= fun x => (pure (.int 0)) >>= fun y => ordM .gt x y)) (fun c4 => (((((pure c4.2) >>= fun x => (pure (.int 0)) >>= fun y => atD x y) >>= fun x => (pure []) >>= fun xs => pure (x :: xs)) >>= fun xs => M.guard (decide (xs.length ≤ sizeLine)) (pure xs)) >>= fun group5 => (pure (.int 0)) >>= fun at6 => (M.thn (whileM (fun (c7 : List PyData × PyData) => ((pure c7.2) >>= fun x => (((pure (.list c7.1)) >>= fun x => (pure []) >>= fun xs => pure (x :: xs)) >>= lenD) >>= fun y => ordM .lt x y)) (fun c7 => (((pure a_lot) >>= seqM) >>= fun ds => M.thn (forM patN (fun (c8 : List PyData) p9 => (M.thn ((((pure (.list c8)) >>= fun x => (pure c7.2) >>= fun y => atD x y) >>= fun x => (pure p9) >>= fun y => inM x y) >>= fun k => if k = true then (((((pure p9) >>= seqM) >>= fun ds => M.guard (decide (ds.length ≤ sizeLine)) (compM patN (fun c11 => ((pure c11) >>= fun x => (pure (.list c8)) >>= fun y => ninM x y)) (fun c11 => (pure c11)) ds)) >>= fun ds => pure (PyData.list ds)) >>= fun d => extM (fun es12 => M.guard (decide (c8.length + es12.length ≤ sizeLine)) (pure (.nx (c8 ++ es12)))) d) else (pure (.nx c8))) (fun (c10 : List PyData) => (pure (.nx c10))))) ds c7.1) (fun c8 => ((pure (.int 1)) >>= fun d => augM (fun i j => i + j) (fun at13 => (pure (.nx (c8, at13)))) c7.2 d)))) 1000 (group5, at6)) (fun c7 => ((((((pure (.list c7.1)) >>= setSortC) >>= fun ds => pure (PyData.list ds)) >>= fun x => (pure []) >>= fun xs => pure (x :: xs)) >>= tupleC) >>= fun d14 => M.guard (decide (c4.1.length < sizeLine)) ((((pure c4.2) >>= seqM) >>= fun ds => M.guard (decide (ds.length ≤ sizeLine)) (compM patN (fun c16 => ((pure c16) >>= fun x => (pure (.list c7.1)) >>= fun y => ninM x y)) (fun c16 => (pure c16)) ds)) >>= fun left15 => (pure (.nx ((c4.1 ++ [d14]), (PyData.list left15)))))))))) 1000 (found3, left2)) (fun c4 => ((pure (PyData.list c4.1)) >>= fun d => pure (.rt d)))))
  | _ => .stuck
/-! ### bones_of -/
abbrev st_bones_of : Stmt := top 21
abbrev N_bones_of : List Str := ["lot", "piece", "bone"]
theorem sc_bones_of : FnScope N_bones_of ["lot", "piece"] (defScope st_bones_of) := ⟨rfl, rfl, rfl, by decide +kernel, rfl, by decide +kernel, by decide +kernel⟩
def m_bones_of : List PyData → M (Fl Empty)
  | [a_lot, a_piece] => (((((((pure a_lot) >>= seqM) >>= fun ds => M.guard (decide (ds.length ≤ sizeLine)) (compM patN (fun c1 => (((pure c1) >>= fun x => (pure (.int 0)) >>= fun y => atD x y) >>= fun x => (pure a_piece) >>= fun y => inM x y)) (fun c1 => (pure c1)) ds)) >>= fun ds => pure (PyData.list ds)) >>= fun x => (pure []) >>= fun xs => pure (x :: xs)) >>= tupleC) >>= fun d => pure (.rt d))
  | _ => .stuck
/-! ### without_bone -/
abbrev st_without_bone : Stmt := top 22
abbrev N_without_bone : List Str := ["lot", "bone", "place"]
theorem sc_without_bone : FnScope N_without_bone ["lot", "bone"] (defScope st_without_bone) := ⟨rfl, rfl, rfl, by decide +kernel, rfl, by decide +kernel, by decide +kernel⟩
def m_without_bone : List PyData → M (Fl Empty)
  | [a_lot, a_bone] => (((pure a_lot) >>= fun d => M.guard (isSeq d) ((pure a_bone) >>= fun k => idxM d k)) >>= fun place1 => ((((pure a_lot) >>= fun x => (pure none) >>= fun l => ((pure place1) >>= intM) >>= fun u => sliceD x l u) >>= fun x => ((pure a_lot) >>= fun x => (((pure place1) >>= fun x => (pure (.int 1)) >>= fun y => addD x y) >>= intM) >>= fun l => (pure none) >>= fun u => sliceD x l u) >>= fun y => addD x y) >>= fun d => pure (.rt d)))
  | _ => .stuck
/-! ### is_arrow -/
abbrev st_is_arrow : Stmt := top 24
abbrev N_is_arrow : List Str := ["value", "own"]
theorem sc_is_arrow : FnScope N_is_arrow ["value"] (defScope st_is_arrow) := ⟨rfl, rfl, rfl, by decide +kernel, rfl, by decide +kernel, by decide +kernel⟩
def m_is_arrow : List PyData → M (Fl Empty)
  | [a_value] => (((((pure a_value) >>= fun d => pure (isTy "tuple" d)) >>= fun k => if k = true then (((((pure a_value) >>= fun x => (pure []) >>= fun xs => pure (x :: xs)) >>= lenD) >>= fun x => (pure (.int 2)) >>= fun y => eqM x y) >>= fun k => if k = true then (((pure a_value) >>= seqM) >>= gxM false patN (fun c1 => ((((pure c1) >>= fun x => (pure []) >>= fun xs => pure (x :: xs)) >>= fun ds => M.guard (decide (ds.length = 1)) ((m_is_pip ds).fin)) >>= boolM))) else pure false) else pure false) >>= fun c => pure (PyData.bool c)) >>= fun d => pure (.rt d))
  | _ => .stuck
/-! ### are_arrows -/
abbrev st_are_arrows : Stmt := top 25
abbrev N_are_arrows : List Str := ["value", "own", "one", "other"]
theorem sc_are_arrows : FnScope N_are_arrows ["value"] (defScope st_are_arrows) := ⟨rfl, rfl, rfl, by decide +kernel, rfl, by decide +kernel, by decide +kernel⟩
def m_are_arrows : List PyData → M (Fl Empty)
  | [a_value] => (((((pure a_value) >>= fun d => pure (isTy "tuple" d)) >>= fun c => pure (!c)) >>= fun k => if k = true then pure true else (((((pure a_value) >>= fun x => (pure []) >>= fun xs => pure (x :: xs)) >>= lenD) >>= fun x => (pure (.int 8)) >>= fun y => ordM .gt x y) >>= fun k => if k = true then pure true else ((((pure a_value) >>= seqM) >>= gxM false patN (fun c1 => ((((pure c1) >>= fun x => (pure []) >>= fun xs => pure (x :: xs)) >>= fun ds => M.guard (decide (ds.length = 1)) ((m_is_arrow ds).fin)) >>= boolM))) >>= fun c => pure (!c)))) >>= fun k => if k = true then M.thn ((((pure false) >>= fun c => pure (PyData.bool c)) >>= fun d => pure (.rt d)) : M (Fl Empty)) (fun z => z.elim) else ((((((pure a_value) >>= fun x => (((pure a_value) >>= fun x => ((pure (.int 1)) >>= intM) >>= fun l => (pure none) >>= fun u => sliceD x l u) >>= fun x => (pure []) >>= fun xs => pure (x :: xs)) >>= fun xs => pure (x :: xs)) >>= zipM) >>= gxM false pat2 (fun c2 => ((pure c2.1) >>= fun x => (pure c2.2) >>= fun y => ordM .le x y))) >>= fun c => pure (PyData.bool c)) >>= fun d => pure (.rt d)))
  | _ => .stuck
/-! ### away -/
abbrev st_away : Stmt := top 26
abbrev N_away : List Str := ["arrows", "pip", "own"]
theorem sc_away : FnScope N_away ["arrows", "pip"] (defScope st_away) := ⟨rfl, rfl, rfl, by decide +kernel, rfl, by decide +kernel, by decide +kernel⟩
def m_away : List PyData → M (Fl Empty)
  | [a_arrows, a_pip] => (((((((pure a_arrows) >>= seqM) >>= fun ds => M.guard (decide (ds.length ≤ sizeLine)) (compM patN (fun c1 => (((pure c1) >>= fun x => (pure (.int 0)) >>= fun y => atD x y) >>= fun x => (pure a_pip) >>= fun y => eqM x y)) (fun c1 => (pure c1)) ds)) >>= fun ds => pure (PyData.list ds)) >>= fun x => (pure []) >>= fun xs => pure (x :: xs)) >>= lenD) >>= fun d => pure (.rt d))
  | _ => .stuck
/-! ### toward -/
abbrev st_toward : Stmt := top 27
abbrev N_toward : List Str := ["arrows", "pip", "own"]
theorem sc_toward : FnScope N_toward ["arrows", "pip"] (defScope st_toward) := ⟨rfl, rfl, rfl, by decide +kernel, rfl, by decide +kernel, by decide +kernel⟩
def m_toward : List PyData → M (Fl Empty)
  | [a_arrows, a_pip] => (((((((pure a_arrows) >>= seqM) >>= fun ds => M.guard (decide (ds.length ≤ sizeLine)) (compM patN (fun c1 => (((pure c1) >>= fun x => (pure (.int 1)) >>= fun y => atD x y) >>= fun x => (pure a_pip) >>= fun y => eqM x y)) (fun c1 => (pure c1)) ds)) >>= fun ds => pure (PyData.list ds)) >>= fun x => (pure []) >>= fun xs => pure (x :: xs)) >>= lenD) >>= fun d => pure (.rt d))
  | _ => .stuck
/-! ### can_go_on -/
abbrev st_can_go_on : Stmt := top 29
abbrev N_can_go_on : List Str := ["left", "pip", "groups", "odd"]
theorem sc_can_go_on : FnScope N_can_go_on ["left", "pip"] (defScope st_can_go_on) := ⟨rfl, rfl, rfl, by decide +kernel, rfl, by decide +kernel, by decide +kernel⟩
def m_can_go_on : List PyData → M (Fl Empty)
  | [a_left, a_pip] => (((((pure a_left) >>= fun x => (pure []) >>= fun xs => pure (x :: xs)) >>= lenD) >>= fun x => (pure (.int 0)) >>= fun y => eqM x y) >>= fun k => if k = true then M.thn ((((pure true) >>= fun c => pure (PyData.bool c)) >>= fun d => pure (.rt d)) : M (Fl Empty)) (fun z => z.elim) else ((((pure a_left) >>= fun x => (pure []) >>= fun xs => pure (x :: xs)) >>= fun ds => M.guard (decide (ds.length = 1)) ((m_pieces_in ds).fin)) >>= fun groups1 => (((pure a_left) >>= fun x => (pure []) >>= fun xs => pure (x :: xs)) >>= fun ds => M.guard (decide (ds.length = 1)) ((m_odd_in ds).fin)) >>= fun odd2 => ((((((pure groups1) >>= fun x => (pure []) >>= fun xs => pure (x :: xs)) >>= lenD) >>= fun x => (pure (.int 1)) >>= fun y => ordM .gt x y) >>= fun k => if k = true then pure true else ((pure a_pip) >>= fun x => ((pure groups1) >>= fun x => (pure (.int 0)) >>= fun y => atD x y) >>= fun y => ninM x y)) >>= fun k => if k = true then M.thn ((((pure false) >>= fun c => pure (PyData.bool c)) >>= fun d => pure (.rt d)) : M (Fl Empty)) (fun z => z.elim) else (((((((pure odd2) >>= fun x => (pure []) >>= fun xs => pure (x :: xs)) >>= lenD) >>= fun x => (pure (.int 0)) >>= fun y => eqM x y) >>= fun k => if k = true then pure true else (((((pure odd2) >>= fun x => (pure []) >>= fun xs => pure (x :: xs)) >>= lenD) >>= fun x => (pure (.int 2)) >>= fun y => eqM x y) >>= fun k => if k = true then ((pure a_pip) >>= fun x => (pure odd2) >>= fun y => inM x y) else pure false)) >>= fun c => pure (PyData.bool c)) >>= fun d => pure (.rt d)))))
  | _ => .stuck
/-! ### laid_from -/
abbrev st_laid_from : Stmt := top 30
abbrev N_laid_from : List Str := ["left", "pip", "found", "one", "other"]
theorem sc_laid_from : FnScope N_laid_from ["left", "pip"] (defScope st_laid_from) := ⟨rfl, rfl, rfl, by decide +kernel, rfl, by decide +kernel, by decide +kernel⟩
def m_laid_from : List PyData → M (Fl Empty)
  | [a_left, a_pip] => ((pure []) >>= fun (found1 : List (PyData × PyData)) => (((pure a_left) >>= seqM) >>= fun ds => M.thn (forM pat2 (fun (c2 : List (PyData × PyData)) p3 => (M.thn (((pure p3.1) >>= fun x => (pure a_pip) >>= fun y => eqM x y) >>= fun k => if k = true then (((pure true) >>= fun c => pure (PyData.bool c)) >>= fun v6 => (((pure p3.1) >>= fun x => ((pure p3.2) >>= fun x => (pure []) >>= fun xs => pure (x :: xs)) >>= fun xs => pure (x :: xs)) >>= fun xs => M.guard (decide (xs.length ≤ sizeLine)) (pure (PyData.tuple xs))) >>= fun k5 => M.guard (keyOk k5 && decide (c2.length < sizeLine)) (pure (.nx (dPut c2 k5 v6)))) else (pure (.nx c2))) (fun (c4 : List (PyData × PyData)) => (M.thn (((pure p3.2) >>= fun x => (pure a_pip) >>= fun y => eqM x y) >>= fun k => if k = true then (((pure true) >>= fun c => pure (PyData.bool c)) >>= fun v9 => (((pure p3.2) >>= fun x => ((pure p3.1) >>= fun x => (pure []) >>= fun xs => pure (x :: xs)) >>= fun xs => pure (x :: xs)) >>= fun xs => M.guard (decide (xs.length ≤ sizeLine)) (pure (PyData.tuple xs))) >>= fun k8 => M.guard (keyOk k8 && decide (c4.length < sizeLine)) (pure (.nx (dPut c4 k8 v9)))) else (pure (.nx c4))) (fun (c7 : List (PyData × PyData)) => (pure (.nx c7))))))) ds found1) (fun c2 => (((M.guard (sortable (c2.map (·.1))) (pure (sortD (c2.map (·.1))))) >>= fun ds => pure (PyData.list ds)) >>= fun d => pure (.rt d)))))
  | _ => .stuck
/-! ### first_laid -/
abbrev st_first_laid : Stmt := top 31
abbrev N_first_laid : List Str := ["lot", "found", "one", "other"]
theorem sc_first_laid : FnScope N_first_laid ["lot"] (defScope st_first_laid) := ⟨rfl, rfl, rfl, by decide +kernel, rfl, by decide +kernel, by decide +kernel⟩
def m_first_laid : List PyData → M (Fl Empty)
  | [a_lot] => ((pure []) >>= fun (found1 : List (PyData × PyData)) => (((pure a_lot) >>= seqM) >>= fun ds => M.thn (forM pat2 (fun (c2 : List (PyData × PyData)) p3 => (((pure true) >>= fun c => pure (PyData.bool c)) >>= fun v5 => (((pure p3.1) >>= fun x => ((pure p3.2) >>= fun x => (pure []) >>= fun xs => pure (x :: xs)) >>= fun xs => pure (x :: xs)) >>= fun xs => M.guard (decide (xs.length ≤ sizeLine)) (pure (PyData.tuple xs))) >>= fun k4 => M.guard (keyOk k4 && decide (c2.length < sizeLine)) (((pure true) >>= fun c => pure (PyData.bool c)) >>= fun v7 => (((pure p3.2) >>= fun x => ((pure p3.1) >>= fun x => (pure []) >>= fun xs => pure (x :: xs)) >>= fun xs => pure (x :: xs)) >>= fun xs => M.guard (decide (xs.length ≤ sizeLine)) (pure (PyData.tuple xs))) >>= fun k6 => M.guard (keyOk k6 && decide ((dPut c2 k4 v5).length < sizeLine)) (pure (.nx (dPut (dPut c2 k4 v5) k6 v7)))))) ds found1) (fun c2 => (((M.guard (sortable (c2.map (·.1))) (pure (sortD (c2.map (·.1))))) >>= fun ds => pure (PyData.list ds)) >>= fun d => pure (.rt d)))))
  | _ => .stuck
/-! ### row_behind -/
abbrev st_row_behind : Stmt := top 32
abbrev N_row_behind : List Str := ["left", "pip", "found", "ways", "laid"]
theorem sc_row_behind : FnScope N_row_behind ["left", "pip"] (defScope st_row_behind) := ⟨rfl, rfl, rfl, by decide +kernel, rfl, by decide +kernel, by decide +kernel⟩
def m_row_behind : List PyData → M (Fl Empty)
  | [a_left, a_pip] => (((pure []) >>= fun xs => M.guard (decide (xs.length ≤ sizeLine)) (pure (PyData.tuple xs))) >>= fun found1 => (M.thn (whileM (fun (c2 : PyData × PyData × PyData) => ((((pure c2.2.1) >>= fun x => (pure []) >>= fun xs => pure (x :: xs)) >>= lenD) >>= fun x => (pure (.int 0)) >>= fun y => ordM .gt x y)) (fun c2 => (((pure []) >>= fun xs => M.guard (decide (xs.length ≤ sizeLine)) (pure xs)) >>= fun ways3 => (((((pure c2.2.1) >>= fun x => ((pure c2.2.2) >>= fun x => (pure []) >>= fun xs => pure (x :: xs)) >>= fun xs => pure (x :: xs)) >>= fun ds => M.guard (decide (ds.length = 2)) ((m_laid_from ds).fin)) >>= seqM) >>= fun ds => M.thn (forM patN (fun (c4 : List PyData) p5 => (M.thn (((((((pure c2.2.1) >>= fun x => (((((pure p5) >>= fun x => (pure (.int 0)) >>= fun y => atD x y) >>= fun x => (((pure p5) >>= fun x => (pure (.int 1)) >>= fun y => atD x y) >>= fun x => (pure []) >>= fun xs => pure (x :: xs)) >>= fun xs => pure (x :: xs)) >>= fun ds => M.guard (decide (ds.length = 2)) ((m_bone_of ds).fin)) >>= fun x => (pure []) >>= fun xs => pure (x :: xs)) >>= fun xs => pure (x :: xs)) >>= fun ds => M.guard (decide (ds.length = 2)) ((m_without_bone ds).fin)) >>= fun x => (((pure p5) >>= fun x => (pure (.int 1)) >>= fun y => atD x y) >>= fun x => (pure []) >>= fun xs => pure (x :: xs)) >>= fun xs => pure (x :: xs)) >>= fun ds => M.guard (decide (ds.length = 2)) ((m_can_go_on ds).fin)) >>= truthM) >>= fun k => if k = true then ((pure p5) >>= fun d7 => M.guard (decide (c4.length < sizeLine)) (pure (.nx (c4 ++ [d7])))) else (pure (.nx c4))) (fun (c6 : List PyData) => (pure (.nx c6))))) ds ways3) (fun c4 => (((((pure (.list c4)) >>= fun x => (pure []) >>= fun xs => pure (x :: xs)) >>= lenD) >>= fun x => (pure (.int 0)) >>= fun y => eqM x y) >>= fun k => if k = true then M.thn (((pure PyData.none) >>= fun d => pure (.rt d)) : M (Fl Empty)) (fun z => z.elim) else (((pure c2.1) >>= fun x => ((((pure (.list c4)) >>= fun x => (pure (.int 0)) >>= fun y => atD x y) >>= fun x => (pure []) >>= fun xs => pure (x :: xs)) >>= fun xs => M.guard (decide (xs.length ≤ sizeLine)) (pure (PyData.tuple xs))) >>= fun y => addD x y) >>= fun found8 => ((((pure c2.2.1) >>= fun x => ((((((pure (.list c4)) >>= fun x => (pure (.int 0)) >>= fun y => atD x y) >>= fun x => (pure (.int 0)) >>= fun y => atD x y) >>= fun x => ((((pure (.list c4)) >>= fun x => (pure (.int 0)) >>= fun y => atD x y) >>= fun x => (pure (.int 1)) >>= fun y => atD x y) >>= fun x => (pure []) >>= fun xs => pure (x :: xs)) >>= fun xs => pure (x :: xs)) >>= fun ds => M.guard (decide (ds.length = 2)) ((m_bone_of ds).fin)) >>= fun x => (pure []) >>= fun xs => pure (x :: xs)) >>= fun xs => pure (x :: xs)) >>= fun ds => M.guard (decide (ds.length = 2)) ((m_without_bone ds).fin)) >>= fun left9 => (((pure (.list c4)) >>= fun x => (pure (.int 0)) >>= fun y => atD x y) >>= fun x => (pure (.int 1)) >>= fun y => atD x y) >>= fun pip10 => (pure (.nx (found8, left9, pip10)))))))))) 1000 (found1, a_left, a_pip)) (fun c2 => ((pure c2.1) >>= fun d => pure (.rt d)))))
  | _ => .stuck
/-! ### first_row_in -/
abbrev st_first_row_in : Stmt := top 33
abbrev N_first_row_in : List Str := ["lot", "laid", "rest"]
theorem sc_first_row_in : FnScope N_first_row_in ["lot"] (defScope st_first_row_in) := ⟨rfl, rfl, rfl, by decide +kernel, rfl, by decide +kernel, by decide +kernel⟩
def m_first_row_in : List PyData → M (Fl Empty)
  | [a_lot] => (((((pure a_lot) >>= fun x => (pure []) >>= fun xs => pure (x :: xs)) >>= lenD) >>= fun x => (pure (.int 0)) >>= fun y => eqM x y) >>= fun k => if k = true then M.thn ((((pure []) >>= fun xs => M.guard (decide (xs.length ≤ sizeLine)) (pure (PyData.tuple xs))) >>= fun d => pure (.rt d)) : M (Fl Empty)) (fun z => z.elim) else (((((pure a_lot) >>= fun x => (pure []) >>= fun xs => pure (x :: xs)) >>= fun ds => M.guard (decide (ds.length = 1)) ((m_first_laid ds).fin)) >>= seqM) >>= fun ds => M.thn (forM patN (fun (c1 : Unit) p2 => ((((pure a_lot) >>= fun x => (((((pure p2) >>= fun x => (pure (.int 0)) >>= fun y => atD x y) >>= fun x => (((pure p2) >>= fun x => (pure (.int 1)) >>= fun y => atD x y) >>= fun x => (pure []) >>= fun xs => pure (x :: xs)) >>= fun xs => pure (x :: xs)) >>= fun ds => M.guard (decide (ds.length = 2)) ((m_bone_of ds).fin)) >>= fun x => (pure []) >>= fun xs => pure (x :: xs)) >>= fun xs => pure (x :: xs)) >>= fun ds => M.guard (decide (ds.length = 2)) ((m_without_bone ds).fin)) >>= fun rest3 => (((((pure rest3) >>= fun x => (((pure p2) >>= fun x => (pure (.int 1)) >>= fun y => atD x y) >>= fun x => (pure []) >>= fun xs => pure (x :: xs)) >>= fun xs => pure (x :: xs)) >>= fun ds => M.guard (decide (ds.length = 2)) ((m_can_go_on ds).fin)) >>= truthM) >>= fun k => if k = true then M.thn ((((((pure p2) >>= fun x => (pure []) >>= fun xs => pure (x :: xs)) >>= fun xs => M.guard (decide (xs.length ≤ sizeLine)) (pure (PyData.tuple xs))) >>= fun x => (((pure rest3) >>= fun x => (((pure p2) >>= fun x => (pure (.int 1)) >>= fun y => atD x y) >>= fun x => (pure []) >>= fun xs => pure (x :: xs)) >>= fun xs => pure (x :: xs)) >>= fun ds => M.guard (decide (ds.length = 2)) ((m_row_behind ds).fin)) >>= fun y => addD x y) >>= fun d => pure (.rt d)) : M (Fl Empty)) (fun z => z.elim) else (pure (.nx ()))))) ds ()) (fun c1 => ((pure PyData.none) >>= fun d => pure (.rt d)))))
  | _ => .stuck
/-! ### lays -/
abbrev st_lays : Stmt := top 35
abbrev N_lays : List Str := ["lot", "found", "one", "other", "later", "own"]
theorem sc_lays : FnScope N_lays ["lot"] (defScope st_lays) := ⟨rfl, rfl, rfl, by decide +kernel, rfl, by decide +kernel, by decide +kernel⟩
def m_lays : List PyData → M (Fl Empty)
  | [a_lot] => ((((pure []) >>= fun xs => M.guard (decide (xs.length ≤ sizeLine)) (pure (PyData.tuple xs))) >>= fun k => ((pure true) >>= fun c => pure (PyData.bool c)) >>= fun v => M.guard (keyOk k) (pure [(k, v)])) >>= fun (found1 : List (PyData × PyData)) => (((pure a_lot) >>= seqM) >>= fun ds => M.thn (forM pat2 (fun (c2 : List (PyData × PyData)) p3 => ((pure []) >>= fun (later4 : List (PyData × PyData)) => ((pure (c2.map (·.1))) >>= fun ds => M.thn (forM patN (fun (c5 : List (PyData × PyData)) p6 => (((pure true) >>= fun c => pure (PyData.bool c)) >>= fun v8 => (((((((pure p6) >>= fun x => (((((pure p3.1) >>= fun x => ((pure p3.2) >>= fun x => (pure []) >>= fun xs => pure (x :: xs)) >>= fun xs => pure (x :: xs)) >>= fun xs => M.guard (decide (xs.length ≤ sizeLine)) (pure (PyData.tuple xs))) >>= fun x => (pure []) >>= fun xs => pure (x :: xs)) >>= fun xs => M.guard (decide (xs.length ≤ sizeLine)) (pure (PyData.tuple xs))) >>= fun y => addD x y) >>= fun x => (pure []) >>= fun xs => pure (x :: xs)) >>= sortC) >>= fun ds => pure (PyData.list ds)) >>= fun x => (pure []) >>= fun xs => pure (x :: xs)) >>= tupleC) >>= fun k7 => M.guard (keyOk k7 && decide (c5.length < sizeLine)) (((pure true) >>= fun c => pure (PyData.bool c)) >>= fun v10 => (((((((pure p6) >>= fun x => (((((pure p3.2) >>= fun x => ((pure p3.1) >>= fun x => (pure []) >>= fun xs => pure (x :: xs)) >>= fun xs => pure (x :: xs)) >>= fun xs => M.guard (decide (xs.length ≤ sizeLine)) (pure (PyData.tuple xs))) >>= fun x => (pure []) >>= fun xs => pure (x :: xs)) >>= fun xs => M.guard (decide (xs.length ≤ sizeLine)) (pure (PyData.tuple xs))) >>= fun y => addD x y) >>= fun x => (pure []) >>= fun xs => pure (x :: xs)) >>= sortC) >>= fun ds => pure (PyData.list ds)) >>= fun x => (pure []) >>= fun xs => pure (x :: xs)) >>= tupleC) >>= fun k9 => M.guard (keyOk k9 && decide ((dPut c5 k7 v8).length < sizeLine)) (pure (.nx (dPut (dPut c5 k7 v8) k9 v10)))))) ds later4) (fun c5 => (pure () >>= fun _ => (pure (.nx c5))))))) ds found1) (fun c2 => (((M.guard (sortable (c2.map (·.1))) (pure (sortD (c2.map (·.1))))) >>= fun ds => pure (PyData.list ds)) >>= fun d => pure (.rt d)))))
  | _ => .stuck
/-! ### is_lay_of -/
abbrev st_is_lay_of : Stmt := top 36
abbrev N_is_lay_of : List Str := ["lot", "value", "one", "other"]
theorem sc_is_lay_of : FnScope N_is_lay_of ["lot", "value"] (defScope st_is_lay_of) := ⟨rfl, rfl, rfl, by decide +kernel, rfl, by decide +kernel, by decide +kernel⟩
def m_is_lay_of : List PyData → M (Fl Empty)
  | [a_lot, a_value] => (((((((pure a_value) >>= fun x => (pure []) >>= fun xs => pure (x :: xs)) >>= fun ds => M.guard (decide (ds.length = 1)) ((m_are_arrows ds).fin)) >>= boolM) >>= fun k => if k = true then ((((((((((pure a_value) >>= seqM) >>= fun ds => M.guard (decide (ds.length ≤ sizeLine)) (compM pat2 (fun c1 => (pure true)) (fun c1 => (((pure c1.1) >>= fun x => ((pure c1.2) >>= fun x => (pure []) >>= fun xs => pure (x :: xs)) >>= fun xs => pure (x :: xs)) >>= fun ds => M.guard (decide (ds.length = 2)) ((m_bone_of ds).fin))) ds)) >>= fun ds => pure (PyData.list ds)) >>= fun x => (pure []) >>= fun xs => pure (x :: xs)) >>= sortC) >>= fun ds => pure (PyData.list ds)) >>= fun x => (pure []) >>= fun xs => pure (x :: xs)) >>= tupleC) >>= fun x => (pure a_lot) >>= fun y => eqM x y) else pure false) >>= fun c => pure (PyData.bool c)) >>= fun d => pure (.rt d))
  | _ => .stuck
/-! ### is_lay -/
abbrev st_is_lay : Stmt := top 37
abbrev N_is_lay : List Str := ["lot", "value"]
theorem sc_is_lay : FnScope N_is_lay ["lot", "value"] (defScope st_is_lay) := ⟨rfl, rfl, rfl, by decide +kernel, rfl, by decide +kernel, by decide +kernel⟩
def m_is_lay : List PyData → M (Fl Empty)
  | [a_lot, a_value] => ((((pure a_lot) >>= fun x => (pure []) >>= fun xs => pure (x :: xs)) >>= fun ds => M.guard (decide (ds.length = 1)) ((m_check_lot ds).fin)) >>= fun _ => ((((pure a_lot) >>= fun x => ((pure a_value) >>= fun x => (pure []) >>= fun xs => pure (x :: xs)) >>= fun xs => pure (x :: xs)) >>= fun ds => M.guard (decide (ds.length = 2)) ((m_is_lay_of ds).fin)) >>= fun d => pure (.rt d)))
  | _ => .stuck
/-! ### is_balanced_of -/
abbrev st_is_balanced_of : Stmt := top 38
abbrev N_is_balanced_of : List Str := ["value", "pip"]
theorem sc_is_balanced_of : FnScope N_is_balanced_of ["value"] (defScope st_is_balanced_of) := ⟨rfl, rfl, rfl, by decide +kernel, rfl, by decide +kernel, by decide +kernel⟩
def m_is_balanced_of : List PyData → M (Fl Empty)
  | [a_value] => (((((pure (.tuple ([0, 1, 2, 3, 4, 5, 6].map PyData.int))) >>= seqM) >>= gxM false patN (fun c1 => ((((pure a_value) >>= fun x => ((pure c1) >>= fun x => (pure []) >>= fun xs => pure (x :: xs)) >>= fun xs => pure (x :: xs)) >>= fun ds => M.guard (decide (ds.length = 2)) ((m_away ds).fin)) >>= fun x => (((pure a_value) >>= fun x => ((pure c1) >>= fun x => (pure []) >>= fun xs => pure (x :: xs)) >>= fun xs => pure (x :: xs)) >>= fun ds => M.guard (decide (ds.length = 2)) ((m_toward ds).fin)) >>= fun y => eqM x y))) >>= fun c => pure (PyData.bool c)) >>= fun d => pure (.rt d))
  | _ => .stuck
/-! ### is_balanced -/
abbrev st_is_balanced : Stmt := top 39
abbrev N_is_balanced : List Str := ["lot", "value"]
theorem sc_is_balanced : FnScope N_is_balanced ["lot", "value"] (defScope st_is_balanced) := ⟨rfl, rfl, rfl, by decide +kernel, rfl, by decide +kernel, by decide +kernel⟩
def m_is_balanced : List PyData → M (Fl Empty)
  | [a_lot, a_value] => ((((pure a_lot) >>= fun x => (pure []) >>= fun xs => pure (x :: xs)) >>= fun ds => M.guard (decide (ds.length = 1)) ((m_check_lot ds).fin)) >>= fun _ => (((((((pure a_lot) >>= fun x => ((pure a_value) >>= fun x => (pure []) >>= fun xs => pure (x :: xs)) >>= fun xs => pure (x :: xs)) >>= fun ds => M.guard (decide (ds.length = 2)) ((m_is_lay_of ds).fin)) >>= boolM) >>= fun k => if k = true then ((((pure a_value) >>= fun x => (pure []) >>= fun xs => pure (x :: xs)) >>= fun ds => M.guard (decide (ds.length = 1)) ((m_is_balanced_of ds).fin)) >>= boolM) else pure false) >>= fun c => pure (PyData.bool c)) >>= fun d => pure (.rt d)))
  | _ => .stuck
/-! ### balanced -/
abbrev st_balanced : Stmt := top 40
abbrev N_balanced : List Str := ["lot", "found", "piece"]
theorem sc_balanced : FnScope N_balanced ["lot"] (defScope st_balanced) := ⟨rfl, rfl, rfl, by decide +kernel, rfl, by decide +kernel, by decide +kernel⟩
def m_balanced : List PyData → M (Fl Empty)
  | [a_lot] => ((((pure a_lot) >>= fun x => (pure []) >>= fun xs => pure (x :: xs)) >>= fun ds => M.guard (decide (ds.length = 1)) ((m_check_lot ds).fin)) >>= fun _ => (((((((pure a_lot) >>= fun x => (pure []) >>= fun xs => pure (x :: xs)) >>= fun ds => M.guard (decide (ds.length = 1)) ((m_odd_in ds).fin)) >>= fun x => (pure []) >>= fun xs => pure (x :: xs)) >>= lenD) >>= fun x => (pure (.int 0)) >>= fun y => ordM .gt x y) >>= fun k => if k = true then M.thn (((pure PyData.none) >>= fun d => pure (.rt d)) : M (Fl Empty)) (fun z => z.elim) else (((pure []) >>= fun xs => M.guard (decide (xs.length ≤ sizeLine)) (pure (PyData.tuple xs))) >>= fun found1 => (((((pure a_lot) >>= fun x => (pure []) >>= fun xs => pure (x :: xs)) >>= fun ds => M.guard (decide (ds.length = 1)) ((m_pieces_in ds).fin)) >>= seqM) >>= fun ds => M.thn (forM patN (fun (c2 : PyData) p3 => (((pure c2) >>= fun x => (((((pure a_lot) >>= fun x => ((pure p3) >>= fun x => (pure []) >>= fun xs => pure (x :: xs)) >>= fun xs => pure (x :: xs)) >>= fun ds => M.guard (decide (ds.length = 2)) ((m_bones_of ds).fin)) >>= fun x => (pure []) >>= fun xs => pure (x :: xs)) >>= fun ds => M.guard (decide (ds.length = 1)) ((m_first_row_in ds).fin)) >>= fun y => addD x y) >>= fun found4 => (pure (.nx found4)))) ds found1) (fun c2 => (((((((pure c2) >>= fun x => (pure []) >>= fun xs => pure (x :: xs)) >>= sortC) >>= fun ds => pure (PyData.list ds)) >>= fun x => (pure []) >>= fun xs => pure (x :: xs)) >>= tupleC) >>= fun d => pure (.rt d)))))))
  | _ => .stuck
/-! ### count_balanced -/
abbrev st_count_balanced : Stmt := top 41
abbrev N_count_balanced : List Str := ["lot", "own"]
theorem sc_count_balanced : FnScope N_count_balanced ["lot"] (defScope st_count_balanced) := ⟨rfl, rfl, rfl, by decide +kernel, rfl, by decide +kernel, by decide +kernel⟩
def m_count_balanced : List PyData → M (Fl Empty)
  | [a_lot] => ((((pure a_lot) >>= fun x => (pure []) >>= fun xs => pure (x :: xs)) >>= fun ds => M.guard (decide (ds.length = 1)) ((m_check_lot ds).fin)) >>= fun _ => (((((((((pure a_lot) >>= fun x => (pure []) >>= fun xs => pure (x :: xs)) >>= fun ds => M.guard (decide (ds.length = 1)) ((m_lays ds).fin)) >>= seqM) >>= fun ds => M.guard (decide (ds.length ≤ sizeLine)) (compM patN (fun c1 => ((((pure c1) >>= fun x => (pure []) >>= fun xs => pure (x :: xs)) >>= fun ds => M.guard (decide (ds.length = 1)) ((m_is_balanced_of ds).fin)) >>= truthM)) (fun c1 => (pure c1)) ds)) >>= fun ds => pure (PyData.list ds)) >>= fun x => (pure []) >>= fun xs => pure (x :: xs)) >>= lenD) >>= fun d => pure (.rt d)))
  | _ => .stuck
/-! ### leaning_pips -/
abbrev st_leaning_pips : Stmt := top 42
abbrev N_leaning_pips : List Str := ["lot", "value", "pip"]
theorem sc_leaning_pips : FnScope N_leaning_pips ["lot", "value"] (defScope st_leaning_pips) := ⟨rfl, rfl, rfl, by decide +kernel, rfl, by decide +kernel, by decide +kernel⟩
def m_leaning_pips : List PyData → M (Fl Empty)
  | [a_lot, a_value] => ((((((pure a_lot) >>= fun x => (pure []) >>= fun xs => pure (x :: xs)) >>= fun ds => M.guard (decide (ds.length = 1)) ((m_is_lot ds).fin)) >>= fun x => ((pure (.str "lot")) >>= fun x => (pure []) >>= fun xs => pure (x :: xs)) >>= fun xs => pure (x :: xs)) >>= fun ds => M.guard (decide (ds.length = 2)) ((m_check ds).fin)) >>= fun _ => ((((((pure a_lot) >>= fun x => ((pure a_value) >>= fun x => (pure []) >>= fun xs => pure (x :: xs)) >>= fun xs => pure (x :: xs)) >>= fun ds => M.guard (decide (ds.length = 2)) ((m_is_lay_of ds).fin)) >>= fun x => ((pure (.str "value")) >>= fun x => (pure []) >>= fun xs => pure (x :: xs)) >>= fun xs => pure (x :: xs)) >>= fun ds => M.guard (decide (ds.length = 2)) ((m_check ds).fin)) >>= fun _ => (((((((pure (.tuple ([0, 1, 2, 3, 4, 5, 6].map PyData.int))) >>= seqM) >>= fun ds => M.guard (decide (ds.length ≤ sizeLine)) (compM patN (fun c1 => ((((pure a_value) >>= fun x => ((pure c1) >>= fun x => (pure []) >>= fun xs => pure (x :: xs)) >>= fun xs => pure (x :: xs)) >>= fun ds => M.guard (decide (ds.length = 2)) ((m_away ds).fin)) >>= fun x => (((pure a_value) >>= fun x => ((pure c1) >>= fun x => (pure []) >>= fun xs => pure (x :: xs)) >>= fun xs => pure (x :: xs)) >>= fun ds => M.guard (decide (ds.length = 2)) ((m_toward ds).fin)) >>= fun y => neM x y)) (fun c1 => (pure c1)) ds)) >>= fun ds => pure (PyData.list ds)) >>= fun x => (pure []) >>= fun xs => pure (x :: xs)) >>= tupleC) >>= fun d => pure (.rt d))))
  | _ => .stuck
/-! ### _law_bone -/
abbrev st__law_bone : Stmt := top 45
abbrev N__law_bone : List Str := ["one", "other"]
theorem sc__law_bone : FnScope N__law_bone ["one", "other"] (defScope st__law_bone) := ⟨rfl, rfl, rfl, by decide +kernel, rfl, by decide +kernel, by decide +kernel⟩
def m__law_bone : List PyData → M (Fl Empty)
  | [a_one, a_other] => ((((((pure a_one) >>= fun x => ((pure a_other) >>= fun x => (pure []) >>= fun xs => pure (x :: xs)) >>= fun xs => pure (x :: xs)) >>= min2D) >>= fun x => ((((pure a_one) >>= fun x => ((pure a_other) >>= fun x => (pure []) >>= fun xs => pure (x :: xs)) >>= fun xs => pure (x :: xs)) >>= max2D) >>= fun x => (pure []) >>= fun xs => pure (x :: xs)) >>= fun xs => pure (x :: xs)) >>= fun xs => M.guard (decide (xs.length ≤ sizeLine)) (pure (PyData.tuple xs))) >>= fun d => pure (.rt d))
  | _ => .stuck
/-! ### _law_lot -/
abbrev st__law_lot : Stmt := top 46
abbrev N__law_lot : List Str := ["row", "most", "pips", "many", "end", "found", "loose", "turn", "one"]
theorem sc__law_lot : FnScope N__law_lot ["row", "most", "pips"] (defScope st__law_lot) := ⟨rfl, rfl, rfl, by decide +kernel, rfl, by decide +kernel, by decide +kernel⟩
def m__law_lot : List PyData → M (Fl Empty)
  | [a_most, a_pips] => (((((pure a_most) >>= fun x => (pure (.int 1)) >>= fun y => addD x y) >>= fun x => (pure []) >>= fun xs => pure (x :: xs)) >>= fun ds => M.guard (decide (ds.length + 1 = 2)) ((m__law_taken ds).fin)) >>= fun many1 => (((pure a_pips) >>= fun x => (pure []) >>= fun xs => pure (x :: xs)) >>= fun ds => M.guard (decide (ds.length + 1 = 2)) ((m__law_taken ds).fin)) >>= fun end2 => (((pure []) >>= fun xs => M.guard (decide (xs.length ≤ sizeLine)) (pure xs)) >>= fun ds => pure (PyData.list ds)) >>= fun found3 => ((((((pure (.int 3)) >>= fun x => (pure []) >>= fun xs => pure (x :: xs)) >>= fun ds => M.guard (decide (ds.length + 1 = 2)) ((m__law_taken ds).fin)) >>= fun x => (pure (.int 0)) >>= fun y => eqM x y) >>= fun c => pure (PyData.bool c)) >>= fun loose4 => ((((pure many1) >>= fun x => (pure []) >>= fun xs => pure (x :: xs)) >>= rng1M) >>= fun ds => M.thn (forM patN (fun (c5 : PyData × PyData) p6 => ((((pure loose4) >>= truthM) >>= fun k => if k = true then (((pure a_pips) >>= fun x => (pure []) >>= fun xs => pure (x :: xs)) >>= fun ds => M.guard (decide (ds.length + 1 = 2)) ((m__law_taken ds).fin)) else (pure c5.1)) >>= fun one7 => ((((pure a_pips) >>= fun x => (pure []) >>= fun xs => pure (x :: xs)) >>= fun ds => M.guard (decide (ds.length + 1 = 2)) ((m__law_taken ds).fin)) >>= fun end8 => (((pure c5.2) >>= fun x => ((((((pure one7) >>= fun x => ((pure end8) >>= fun x => (pure []) >>= fun xs => pure (x :: xs)) >>= fun xs => pure (x :: xs)) >>= fun ds => M.guard (decide (ds.length = 2)) ((m__law_bone ds).fin)) >>= fun x => (pure []) >>= fun xs => pure (x :: xs)) >>= fun xs => M.guard (decide (xs.length ≤ sizeLine)) (pure xs)) >>= fun ds => pure (PyData.list ds)) >>= fun y => addD x y) >>= fun found9 => (pure (.nx (end8, found9))))))) ds (end2, found3)) (fun c5 => (((((((pure c5.2) >>= fun x => (pure []) >>= fun xs => pure (x :: xs)) >>= sortC) >>= fun ds => pure (PyData.list ds)) >>= fun x => (pure []) >>= fun xs => pure (x :: xs)) >>= tupleC) >>= fun d => pure (.rt d))))))
  | _ => .stuck
/-! ### _law_pick -/
abbrev st__law_pick : Stmt := top 47
abbrev N__law_pick : List Str := ["row", "some"]
theorem sc__law_pick : FnScope N__law_pick ["row", "some"] (defScope st__law_pick) := ⟨rfl, rfl, rfl, by decide +kernel, rfl, by decide +kernel, by decide +kernel⟩
def m__law_pick : List PyData → M (Fl Empty)
  | [a_some] => (((pure a_some) >>= fun x => (((((pure a_some) >>= fun x => (pure []) >>= fun xs => pure (x :: xs)) >>= lenD) >>= fun x => (pure []) >>= fun xs => pure (x :: xs)) >>= fun ds => M.guard (decide (ds.length + 1 = 2)) ((m__law_taken ds).fin)) >>= fun y => atD x y) >>= fun d => pure (.rt d))
  | _ => .stuck
/-! ### _law_lays -/
abbrev st__law_lays : Stmt := top 48
abbrev N__law_lays : List Str := ["lot", "found", "bone", "own"]
theorem sc__law_lays : FnScope N__law_lays ["lot"] (defScope st__law_lays) := ⟨rfl, rfl, rfl, by decide +kernel, rfl, by decide +kernel, by decide +kernel⟩
def m__law_lays : List PyData → M (Fl Empty)
  | [a_lot] => ((((((pure []) >>= fun xs => M.guard (decide (xs.length ≤ sizeLine)) (pure (PyData.tuple xs))) >>= fun x => (pure []) >>= fun xs => pure (x :: xs)) >>= fun xs => M.guard (decide (xs.length ≤ sizeLine)) (pure xs)) >>= fun ds => pure (PyData.list ds)) >>= fun found1 => (((pure a_lot) >>= seqM) >>= fun ds => M.thn (forM patN (fun (c2 : PyData) p3 => ((((((pure c2) >>= seqM) >>= fun ds => M.guard (decide (ds.length ≤ sizeLine)) (compM patN (fun c5 => (pure true)) (fun c5 => ((pure c5) >>= fun x => (((pure p3) >>= fun x => (pure []) >>= fun xs => pure (x :: xs)) >>= fun xs => M.guard (decide (xs.length ≤ sizeLine)) (pure (PyData.tuple xs))) >>= fun y => addD x y)) ds)) >>= fun ds => pure (PyData.list ds)) >>= fun x => ((((pure c2) >>= seqM) >>= fun ds => M.guard (decide (ds.length ≤ sizeLine)) (compM patN (fun c6 => (pure true)) (fun c6 => ((pure c6) >>= fun x => ((((pure p3) >>= revD) >>= fun x => (pure []) >>= fun xs => pure (x :: xs)) >>= fun xs => M.guard (decide (xs.length ≤ sizeLine)) (pure (PyData.tuple xs))) >>= fun y => addD x y)) ds)) >>= fun ds => pure (PyData.list ds)) >>= fun y => addD x y) >>= fun found4 => (pure (.nx found4)))) ds found1) (fun c2 => (((((((pure c2) >>= seqM) >>= fun ds => M.guard (decide (ds.length ≤ sizeLine)) (compM patN (fun c7 => (pure true)) (fun c7 => ((((((pure c7) >>= fun x => (pure []) >>= fun xs => pure (x :: xs)) >>= sortC) >>= fun ds => pure (PyData.list ds)) >>= fun x => (pure []) >>= fun xs => pure (x :: xs)) >>= tupleC)) ds)) >>= fun ds => pure (PyData.list ds)) >>= NS.setSortN) >>= fun ds => pure (PyData.list ds)) >>= fun d => pure (.rt d)))))
  | _ => .stuck
/-! ### _law_lean -/
abbrev st__law_lean : Stmt := top 49
abbrev N__law_lean : List Str := ["arrows", "pairs", "pip", "own"]
theorem sc__law_lean : FnScope N__law_lean ["arrows"] (defScope st__law_lean) := ⟨rfl, rfl, rfl, by decide +kernel, rfl, by decide +kernel, by decide +kernel⟩
def m__law_lean : List PyData → M (Fl Empty)
  | [a_arrows] => (((((pure (.int 7)) >>= fun x => (pure []) >>= fun xs => pure (x :: xs)) >>= rng1M) >>= fun ds => M.guard (decide (ds.length ≤ sizeLine)) (compM patN (fun c2 => (pure true)) (fun c2 => (((pure c2) >>= fun x => ((((((((pure a_arrows) >>= seqM) >>= fun ds => M.guard (decide (ds.length ≤ sizeLine)) (compM patN (fun c3 => (((pure c3) >>= fun x => (pure (.int 0)) >>= fun y => atD x y) >>= fun x => (pure c2) >>= fun y => eqM x y)) (fun c3 => (pure c3)) ds)) >>= fun ds => pure (PyData.list ds)) >>= fun x => (pure []) >>= fun xs => pure (x :: xs)) >>= lenD) >>= fun x => ((((((pure a_arrows) >>= seqM) >>= fun ds => M.guard (decide (ds.length ≤ sizeLine)) (compM patN (fun c4 => (((pure c4) >>= fun x => (pure (.int 1)) >>= fun y => atD x y) >>= fun x => (pure c2) >>= fun y => eqM x y)) (fun c4 => (pure c4)) ds)) >>= fun ds => pure (PyData.list ds)) >>= fun x => (pure []) >>= fun xs => pure (x :: xs)) >>= lenD) >>= fun y => subD x y) >>= fun x => (pure []) >>= fun xs => pure (x :: xs)) >>= fun xs => pure (x :: xs)) >>= fun xs => M.guard (decide (xs.length ≤ sizeLine)) (pure (PyData.tuple xs)))) ds)) >>= fun pairs1 => (((((pure (PyData.list pairs1)) >>= seqM) >>= fun ds => M.guard (decide (ds.length ≤ sizeLine)) (compM patN (fun c5 => (((pure c5) >>= fun x => (pure (.int 1)) >>= fun y => atD x y) >>= fun x => (pure (.int 0)) >>= fun y => neM x y)) (fun c5 => (pure c5)) ds)) >>= fun ds => pure (PyData.list ds)) >>= fun d => pure (.rt d)))
  | _ => .stuck
/-! ### _law_count -/
abbrev st__law_count : Stmt := top 50
abbrev N__law_count : List Str := ["lot", "pip", "bone"]
theorem sc__law_count : FnScope N__law_count ["lot", "pip"] (defScope st__law_count) := ⟨rfl, rfl, rfl, by decide +kernel, rfl, by decide +kernel, by decide +kernel⟩
def m__law_count : List PyData → M (Fl Empty)
  | [a_lot, a_pip] => ((((((((pure a_lot) >>= seqM) >>= fun ds => M.guard (decide (ds.length ≤ sizeLine)) (compM patN (fun c1 => (((pure c1) >>= fun x => (pure (.int 0)) >>= fun y => atD x y) >>= fun x => (pure a_pip) >>= fun y => eqM x y)) (fun c1 => (pure c1)) ds)) >>= fun ds => pure (PyData.list ds)) >>= fun x => (pure []) >>= fun xs => pure (x :: xs)) >>= lenD) >>= fun x => ((((((pure a_lot) >>= seqM) >>= fun ds => M.guard (decide (ds.length ≤ sizeLine)) (compM patN (fun c2 => (((pure c2) >>= fun x => (pure (.int 1)) >>= fun y => atD x y) >>= fun x => (pure a_pip) >>= fun y => eqM x y)) (fun c2 => (pure c2)) ds)) >>= fun ds => pure (PyData.list ds)) >>= fun x => (pure []) >>= fun xs => pure (x :: xs)) >>= lenD) >>= fun y => addD x y) >>= fun d => pure (.rt d))
  | _ => .stuck
/-! ### _law_odd -/
abbrev st__law_odd : Stmt := top 51
abbrev N__law_odd : List Str := ["lot", "pip"]
theorem sc__law_odd : FnScope N__law_odd ["lot"] (defScope st__law_odd) := ⟨rfl, rfl, rfl, by decide +kernel, rfl, by decide +kernel, by decide +kernel⟩
def m__law_odd : List PyData → M (Fl Empty)
  | [a_lot] => ((((((pure (.int 7)) >>= fun x => (pure []) >>= fun xs => pure (x :: xs)) >>= rng1M) >>= fun ds => M.guard (decide (ds.length ≤ sizeLine)) (compM patN (fun c1 => (((((pure a_lot) >>= fun x => ((pure c1) >>= fun x => (pure []) >>= fun xs => pure (x :: xs)) >>= fun xs => pure (x :: xs)) >>= fun ds => M.guard (decide (ds.length = 2)) ((m__law_count ds).fin)) >>= fun x => (pure (.int 2)) >>= fun y => modD x y) >>= fun x => (pure (.int 1)) >>= fun y => eqM x y)) (fun c1 => (pure c1)) ds)) >>= fun ds => pure (PyData.list ds)) >>= fun d => pure (.rt d))
  | _ => .stuck
/-! ### _law_alike -/
abbrev st__law_alike : Stmt := top 52
abbrev N__law_alike : List Str := ["found", "due", "k", "key"]
theorem sc__law_alike : FnScope N__law_alike ["found", "due"] (defScope st__law_alike) := ⟨rfl, rfl, rfl, by decide +kernel, rfl, by decide +kernel, by decide +kernel⟩
def m__law_alike : Nat → List PyData → M (Fl Empty)
  | n + 1, [a_found, a_due] => (((pure a_due) >>= fun d => pure (isTy "tuple" d || isTy "list" d)) >>= fun k => if k = true then M.thn ((((((pure a_found) >>= fun d => pure (isTy "tuple" d || isTy "list" d)) >>= fun c => pure (!c)) >>= fun k => if k = true then pure true else ((((pure a_found) >>= fun d => pure (isTy "list" d)) >>= fun c => pure (PyData.bool c)) >>= fun x => (((pure a_due) >>= fun d => pure (isTy "list" d)) >>= fun c => pure (PyData.bool c)) >>= fun y => neM x y)) >>= fun k => if k = true then M.thn ((((pure false) >>= fun c => pure (PyData.bool c)) >>= fun d => pure (.rt d)) : M (Fl Empty)) (fun z => z.elim) else (((((pure a_found) >>= fun x => (pure []) >>= fun xs => pure (x :: xs)) >>= lenD) >>= fun x => (((pure a_due) >>= fun x => (pure []) >>= fun xs => pure (x :: xs)) >>= lenD) >>= fun y => neM x y) >>= fun k => if k = true then M.thn ((((pure false) >>= fun c => pure (PyData.bool c)) >>= fun d => pure (.rt d)) : M (Fl Empty)) (fun z => z.elim) else ((((((((((pure a_due) >>= fun x => (pure []) >>= fun xs => pure (x :: xs)) >>= lenD) >>= fun x => (pure []) >>= fun xs => pure (x :: xs)) >>= rng1M) >>= fun ds => M.guard (decide (ds.length ≤ sizeLine)) (compM patN (fun c1 => ((((((pure a_found) >>= fun x => (pure c1) >>= fun y => atD x y) >>= fun x => (((pure a_due) >>= fun x => (pure c1) >>= fun y => atD x y) >>= fun x => (pure []) >>= fun xs => pure (x :: xs)) >>= fun xs => pure (x :: xs)) >>= fun ds => M.guard (decide (ds.length = 2)) ((m__law_alike n ds).fin)) >>= truthM) >>= fun c => pure (!c))) (fun c1 => (pure c1)) ds)) >>= fun ds => pure (PyData.list ds)) >>= fun x => (((pure []) >>= fun xs => M.guard (decide (xs.length ≤ sizeLine)) (pure xs)) >>= fun ds => pure (PyData.list ds)) >>= fun y => eqM x y) >>= fun c => pure (PyData.bool c)) >>= fun d => pure (.rt d)))) : M (Fl Empty)) (fun z => z.elim) else (((pure a_due) >>= fun d => pure (isTy "dict" d)) >>= fun k => if k = true then M.thn (M.stuck : M (Fl Empty)) (fun z => z.elim) else ((((pure a_due) >>= fun x => (pure PyData.none) >>= fun y => isM x y) >>= fun k => if k = true then pure true else ((pure a_due) >>= fun d => pure (isTy "str" d))) >>= fun k => if k = true then M.thn ((((((pure a_found) >>= fun x => (pure a_due) >>= fun y => eqM x y) >>= fun k => if k = true then ((((pure a_found) >>= fun d => pure (isTy "str" d)) >>= fun c => pure (PyData.bool c)) >>= fun x => (((pure a_due) >>= fun d => pure (isTy "str" d)) >>= fun c => pure (PyData.bool c)) >>= fun y => eqM x y) else pure false) >>= fun c => pure (PyData.bool c)) >>= fun d => pure (.rt d)) : M (Fl Empty)) (fun z => z.elim) else (((((pure a_found) >>= fun d => pure (isTy "int" d)) >>= fun k => if k = true then (((((pure a_found) >>= fun d => pure (isTy "bool" d)) >>= fun c => pure (PyData.bool c)) >>= fun x => (((pure a_due) >>= fun d => pure (isTy "bool" d)) >>= fun c => pure (PyData.bool c)) >>= fun y => eqM x y) >>= fun k => if k = true then ((pure a_found) >>= fun x => (pure a_due) >>= fun y => eqM x y) else pure false) else pure false) >>= fun c => pure (PyData.bool c)) >>= fun d => pure (.rt d)))))
  | _, _ => .stuck
/-! ### _law_bad_lot -/
abbrev st__law_bad_lot : Stmt := top 53
abbrev N__law_bad_lot : List Str := ["row"]
theorem sc__law_bad_lot : FnScope N__law_bad_lot ["row"] (defScope st__law_bad_lot) := ⟨rfl, rfl, rfl, by decide +kernel, rfl, by decide +kernel, by decide +kernel⟩
def m__law_bad_lot : List PyData → M (Fl Empty)
  | [] => (((((((pure PyData.none) >>= fun x => (((((((pure (.int 0)) >>= fun x => ((pure (.int 1)) >>= fun x => (pure []) >>= fun xs => pure (x :: xs)) >>= fun xs => pure (x :: xs)) >>= fun xs => M.guard (decide (xs.length ≤ sizeLine)) (pure (PyData.tuple xs))) >>= fun x => (pure []) >>= fun xs => pure (x :: xs)) >>= fun xs => M.guard (decide (xs.length ≤ sizeLine)) (pure xs)) >>= fun ds => pure (PyData.list ds)) >>= fun x => ((((((pure (.int 1)) >>= fun x => ((pure (.int 0)) >>= fun x => (pure []) >>= fun xs => pure (x :: xs)) >>= fun xs => pure (x :: xs)) >>= fun xs => M.guard (decide (xs.length ≤ sizeLine)) (pure (PyData.tuple xs))) >>= fun x => (pure []) >>= fun xs => pure (x :: xs)) >>= fun xs => M.guard (decide (xs.length ≤ sizeLine)) (pure (PyData.tuple xs))) >>= fun x => ((((((pure (.int 0)) >>= fun x => ((pure (.int 7)) >>= fun x => (pure []) >>= fun xs => pure (x :: xs)) >>= fun xs => pure (x :: xs)) >>= fun xs => M.guard (decide (xs.length ≤ sizeLine)) (pure (PyData.tuple xs))) >>= fun x => (pure []) >>= fun xs => pure (x :: xs)) >>= fun xs => M.guard (decide (xs.length ≤ sizeLine)) (pure (PyData.tuple xs))) >>= fun x => ((((((pure (.int 0)) >>= fun x => ((pure (.int 1)) >>= fun x => (pure []) >>= fun xs => pure (x :: xs)) >>= fun xs => pure (x :: xs)) >>= fun xs => M.guard (decide (xs.length ≤ sizeLine)) (pure (PyData.tuple xs))) >>= fun x => ((((pure (.int 0)) >>= fun x => ((pure (.int 0)) >>= fun x => (pure []) >>= fun xs => pure (x :: xs)) >>= fun xs => pure (x :: xs)) >>= fun xs => M.guard (decide (xs.length ≤ sizeLine)) (pure (PyData.tuple xs))) >>= fun x => (pure []) >>= fun xs => pure (x :: xs)) >>= fun xs => pure (x :: xs)) >>= fun xs => M.guard (decide (xs.length ≤ sizeLine)) (pure (PyData.tuple xs))) >>= fun x => (((((((pure true) >>= fun c => pure (PyData.bool c)) >>= fun x => ((pure (.int 1)) >>= fun x => (pure []) >>= fun xs => pure (x :: xs)) >>= fun xs => pure (x :: xs)) >>= fun xs => M.guard (decide (xs.length ≤ sizeLine)) (pure (PyData.tuple xs))) >>= fun x => (pure []) >>= fun xs => pure (x :: xs)) >>= fun xs => M.guard (decide (xs.length ≤ sizeLine)) (pure (PyData.tuple xs))) >>= fun x => ((((((pure (.int 0)) >>= fun x => ((pure (.int 1)) >>= fun x => ((pure (.int 2)) >>= fun x => (pure []) >>= fun xs => pure (x :: xs)) >>= fun xs => pure (x :: xs)) >>= fun xs => pure (x :: xs)) >>= fun xs => M.guard (decide (xs.length ≤ sizeLine)) (pure (PyData.tuple xs))) >>= fun x => (pure []) >>= fun xs => pure (x :: xs)) >>= fun xs => M.guard (decide (xs.length ≤ sizeLine)) (pure (PyData.tuple xs))) >>= fun x => ((pure (.str "x")) >>= fun x => (((((((pure (.int 0)) >>= fun x => ((pure (.int 0)) >>= fun x => (pure []) >>= fun xs => pure (x :: xs)) >>= fun xs => pure (x :: xs)) >>= fun xs => M.guard (decide (xs.length ≤ sizeLine)) (pure (PyData.tuple xs))) >>= fun x => (pure []) >>= fun xs => pure (x :: xs)) >>= fun xs => M.guard (decide (xs.length ≤ sizeLine)) (pure (PyData.tuple xs))) >>= fun x => (pure (.int 9)) >>= fun y => mulA x y) >>= fun x => ((((pure (.int 5)) >>= fun x => (pure []) >>= fun xs => pure (x :: xs)) >>= fun xs => M.guard (decide (xs.length ≤ sizeLine)) (pure (PyData.tuple xs))) >>= fun x => (((((((pure (.int 1)) >>= negD) >>= fun x => ((pure (.int 0)) >>= fun x => (pure []) >>= fun xs => pure (x :: xs)) >>= fun xs => pure (x :: xs)) >>= fun xs => M.guard (decide (xs.length ≤ sizeLine)) (pure (PyData.tuple xs))) >>= fun x => (pure []) >>= fun xs => pure (x :: xs)) >>= fun xs => M.guard (decide (xs.length ≤ sizeLine)) (pure (PyData.tuple xs))) >>= fun x => (pure []) >>= fun xs => pure (x :: xs)) >>= fun xs => pure (x :: xs)) >>= fun xs => pure (x :: xs)) >>= fun xs => pure (x :: xs)) >>= fun xs => pure (x :: xs)) >>= fun xs => pure (x :: xs)) >>= fun xs => pure (x :: xs)) >>= fun xs => pure (x :: xs)) >>= fun xs => pure (x :: xs)) >>= fun xs => pure (x :: xs)) >>= fun xs => pure (x :: xs)) >>= fun xs => M.guard (decide (xs.length ≤ sizeLine)) (pure xs)) >>= fun ds => pure (PyData.list ds)) >>= fun x => (pure []) >>= fun xs => pure (x :: xs)) >>= fun ds => M.guard (decide (ds.length + 1 = 2)) ((m__law_pick ds).fin)) >>= fun d => pure (.rt d))
  | _ => .stuck
/-! ### _law_refused -/
abbrev st__law_refused : Stmt := top 55
abbrev N__law_refused : List Str := ["row", "lot", "bad", "heard", "own"]
theorem sc__law_refused : FnScope N__law_refused ["row", "lot"] (defScope st__law_refused) := ⟨rfl, rfl, rfl, by decide +kernel, rfl, by decide +kernel, by decide +kernel⟩
def m__law_refused : List PyData → M (Fl Empty)
  | [a_lot] => (((pure []) >>= fun ds => M.guard (decide (ds.length + 1 = 1)) ((m__law_bad_lot ds).fin)) >>= fun bad1 => (((((heardM (((pure bad1) >>= fun x => (pure []) >>= fun xs => pure (x :: xs)) >>= fun ds => M.guard (decide (ds.length = 1)) ((m_balanced ds).fin))) >>= fun x => ((heardM (((pure bad1) >>= fun x => (pure []) >>= fun xs => pure (x :: xs)) >>= fun ds => M.guard (decide (ds.length = 1)) ((m_count_balanced ds).fin))) >>= fun x => ((heardM (((pure bad1) >>= fun x => (((pure []) >>= fun xs => M.guard (decide (xs.length ≤ sizeLine)) (pure (PyData.tuple xs))) >>= fun x => (pure []) >>= fun xs => pure (x :: xs)) >>= fun xs => pure (x :: xs)) >>= fun ds => M.guard (decide (ds.length = 2)) ((m_is_lay ds).fin))) >>= fun x => ((heardM (((pure a_lot) >>= fun x => ((((((pure (.int 6)) >>= fun x => ((pure (.int 5)) >>= fun x => (pure []) >>= fun xs => pure (x :: xs)) >>= fun xs => pure (x :: xs)) >>= fun xs => M.guard (decide (xs.length ≤ sizeLine)) (pure (PyData.tuple xs))) >>= fun x => (pure []) >>= fun xs => pure (x :: xs)) >>= fun xs => M.guard (decide (xs.length ≤ sizeLine)) (pure (PyData.tuple xs))) >>= fun x => (pure []) >>= fun xs => pure (x :: xs)) >>= fun xs => pure (x :: xs)) >>= fun ds => M.guard (decide (ds.length = 2)) ((m_leaning_pips ds).fin))) >>= fun x => ((heardM (((pure bad1) >>= fun x => (((pure []) >>= fun xs => M.guard (decide (xs.length ≤ sizeLine)) (pure (PyData.tuple xs))) >>= fun x => (pure []) >>= fun xs => pure (x :: xs)) >>= fun xs => pure (x :: xs)) >>= fun ds => M.guard (decide (ds.length = 2)) ((m_leaning_pips ds).fin))) >>= fun x => (pure []) >>= fun xs => pure (x :: xs)) >>= fun xs => pure (x :: xs)) >>= fun xs => pure (x :: xs)) >>= fun xs => pure (x :: xs)) >>= fun xs => pure (x :: xs)) >>= fun xs => M.guard (decide (xs.length ≤ sizeLine)) (pure xs)) >>= fun ds => pure (PyData.list ds)) >>= fun heard2 => ((((pure heard2) >>= fun x => (((((((pure (.str "lot")) >>= fun x => ((pure (.str "lot")) >>= fun x => ((pure (.str "lot")) >>= fun x => ((pure (.str "value")) >>= fun x => ((pure (.str "lot")) >>= fun x => (pure []) >>= fun xs => pure (x :: xs)) >>= fun xs => pure (x :: xs)) >>= fun xs => pure (x :: xs)) >>= fun xs => pure (x :: xs)) >>= fun xs => pure (x :: xs)) >>= fun xs => M.guard (decide (xs.length ≤ sizeLine)) (pure (PyData.tuple xs))) >>= seqM) >>= fun ds => M.guard (decide (ds.length ≤ sizeLine)) (compM patN (fun c3 => (pure true)) (fun c3 => (((pure (.str "bad")) >>= fun x => ((pure c3) >>= fun x => (((pure true) >>= fun c => pure (PyData.bool c)) >>= fun x => (pure []) >>= fun xs => pure (x :: xs)) >>= fun xs => pure (x :: xs)) >>= fun xs => pure (x :: xs)) >>= fun xs => M.guard (decide (xs.length ≤ sizeLine)) (pure (PyData.tuple xs)))) ds)) >>= fun ds => pure (PyData.list ds)) >>= fun x => (pure []) >>= fun xs => pure (x :: xs)) >>= fun xs => pure (x :: xs)) >>= fun ds => M.guard (decide (ds.length = 2)) ((m__law_alike 7 ds).fin)) >>= fun d => pure (.rt d))))
  | _ => .stuck
/-! ### the law -/
abbrev st_law : Stmt := top 56
abbrev N_law : List Str := ["script", "row", "lot", "lays_v", "even", "own", "found", "turn", "bent", "due", "each", "pip", "many"]
theorem sc_law : FnScope N_law ["script"] (defScope st_law) := ⟨rfl, rfl, rfl, by decide +kernel, rfl, by decide +kernel, by decide +kernel⟩
def m_law (a_script : PyData) : M (Fl Empty) := ((((pure (.int 7)) >>= fun x => (((((((pure (.int 2)) >>= fun x => ((pure (.int 3)) >>= fun x => ((pure (.int 4)) >>= fun x => (pure []) >>= fun xs => pure (x :: xs)) >>= fun xs => pure (x :: xs)) >>= fun xs => pure (x :: xs)) >>= fun xs => M.guard (decide (xs.length ≤ sizeLine)) (pure xs)) >>= fun ds => pure (PyData.list ds)) >>= fun x => (pure []) >>= fun xs => pure (x :: xs)) >>= fun ds => M.guard (decide (ds.length + 1 = 2)) ((m__law_pick ds).fin)) >>= fun x => (pure []) >>= fun xs => pure (x :: xs)) >>= fun xs => pure (x :: xs)) >>= fun ds => M.guard (decide (ds.length + 1 = 3)) ((m__law_lot ds).fin)) >>= fun lot1 => ((((pure lot1) >>= fun x => (pure []) >>= fun xs => pure (x :: xs)) >>= fun ds => M.guard (decide (ds.length = 1)) ((m__law_lays ds).fin)) >>= fun lays_v2 => ((((pure lays_v2) >>= seqM) >>= fun ds => M.guard (decide (ds.length ≤ sizeLine)) (compM patN (fun c4 => ((((pure c4) >>= fun x => (pure []) >>= fun xs => pure (x :: xs)) >>= fun ds => M.guard (decide (ds.length = 1)) ((m__law_lean ds).fin)) >>= fun x => (((pure []) >>= fun xs => M.guard (decide (xs.length ≤ sizeLine)) (pure xs)) >>= fun ds => pure (PyData.list ds)) >>= fun y => eqM x y)) (fun c4 => (pure c4)) ds)) >>= fun even3 => ((((pure lot1) >>= fun x => (pure []) >>= fun xs => pure (x :: xs)) >>= fun ds => M.guard (decide (ds.length = 1)) ((m_balanced ds).fin)) >>= fun found5 => ((((((pure lot1) >>= fun x => (pure []) >>= fun xs => pure (x :: xs)) >>= fun ds => M.guard (decide (ds.length = 1)) ((m_count_balanced ds).fin)) >>= fun x => (((pure (PyData.list even3)) >>= fun x => (pure []) >>= fun xs => pure (x :: xs)) >>= lenD) >>= fun y => neM x y) >>= fun k => if k = true then pure true else (((((pure found5) >>= fun x => (pure PyData.none) >>= fun y => isntM x y) >>= fun c => pure (PyData.bool c)) >>= fun x => (((((pure lot1) >>= fun x => (pure []) >>= fun xs => pure (x :: xs)) >>= fun ds => M.guard (decide (ds.length = 1)) ((m__law_odd ds).fin)) >>= fun x => (((pure []) >>= fun xs => M.guard (decide (xs.length ≤ sizeLine)) (pure xs)) >>= fun ds => pure (PyData.list ds)) >>= fun y => eqM x y) >>= fun c => pure (PyData.bool c)) >>= fun y => neM x y) >>= fun k => if k = true then pure true else ((((pure (PyData.list even3)) >>= fun x => (((pure []) >>= fun xs => M.guard (decide (xs.length ≤ sizeLine)) (pure xs)) >>= fun ds => pure (PyData.list ds)) >>= fun y => neM x y) >>= fun c => pure (PyData.bool c)) >>= fun x => (((((pure lot1) >>= fun x => (pure []) >>= fun xs => pure (x :: xs)) >>= fun ds => M.guard (decide (ds.length = 1)) ((m__law_odd ds).fin)) >>= fun x => (((pure []) >>= fun xs => M.guard (decide (xs.length ≤ sizeLine)) (pure xs)) >>= fun ds => pure (PyData.list ds)) >>= fun y => eqM x y) >>= fun c => pure (PyData.bool c)) >>= fun y => neM x y))) >>= fun k => if k = true then M.thn ((((pure false) >>= fun c => pure (PyData.bool c)) >>= fun d => pure (.rt d)) : M (Fl Empty)) (fun z => z.elim) else ((((pure found5) >>= fun x => (pure PyData.none) >>= fun y => isntM x y) >>= fun k => if k = true then ((pure found5) >>= fun x => (pure (PyData.list even3)) >>= fun y => ninM x y) else pure false) >>= fun k => if k = true then M.thn ((((pure false) >>= fun c => pure (PyData.bool c)) >>= fun d => pure (.rt d)) : M (Fl Empty)) (fun z => z.elim) else ((((pure (.int 8)) >>= fun x => (pure []) >>= fun xs => pure (x :: xs)) >>= rng1M) >>= fun ds => M.thn (forM patN (fun (c6 : Unit) p7 => ((((pure lays_v2) >>= fun x => (pure []) >>= fun xs => pure (x :: xs)) >>= fun ds => M.guard (decide (ds.length + 1 = 2)) ((m__law_pick ds).fin)) >>= fun own8 => (((((((pure own8) >>= fun x => (((((((((pure own8) >>= fun x => (pure none) >>= fun l => (((pure (.int 1)) >>= negD) >>= intM) >>= fun u => sliceD x l u) >>= fun x => (((((pure (.int 6)) >>= fun x => ((pure (.int 6)) >>= fun x => (pure []) >>= fun xs => pure (x :: xs)) >>= fun xs => pure (x :: xs)) >>= fun xs => M.guard (decide (xs.length ≤ sizeLine)) (pure (PyData.tuple xs))) >>= fun x => (pure []) >>= fun xs => pure (x :: xs)) >>= fun xs => M.guard (decide (xs.length ≤ sizeLine)) (pure (PyData.tuple xs))) >>= fun y => addD x y) >>= fun x => (pure []) >>= fun xs => pure (x :: xs)) >>= sortC) >>= fun ds => pure (PyData.list ds)) >>= fun x => (pure []) >>= fun xs => pure (x :: xs)) >>= tupleC) >>= fun x => (((pure own8) >>= revD) >>= fun x => (((pure own8) >>= fun x => (pure none) >>= fun l => (((pure (.int 1)) >>= negD) >>= intM) >>= fun u => sliceD x l u) >>= fun x => (((pure own8) >>= fun x => (((((pure (.int 6)) >>= fun x => ((pure (.int 6)) >>= fun x => (pure []) >>= fun xs => pure (x :: xs)) >>= fun xs => pure (x :: xs)) >>= fun xs => M.guard (decide (xs.length ≤ sizeLine)) (pure (PyData.tuple xs))) >>= fun x => (pure []) >>= fun xs => pure (x :: xs)) >>= fun xs => M.guard (decide (xs.length ≤ sizeLine)) (pure (PyData.tuple xs))) >>= fun y => addD x y) >>= fun x => (((((pure own8) >>= fun x => (pure []) >>= fun xs => pure (x :: xs)) >>= listC) >>= fun ds => pure (PyData.list ds)) >>= fun x => (((((((pure own8) >>= seqM) >>= fun ds => M.guard (decide (ds.length ≤ sizeLine)) (compM patN (fun c10 => (pure true)) (fun c10 => ((pure c10) >>= revD)) ds)) >>= fun ds => pure (PyData.list ds)) >>= fun x => (pure []) >>= fun xs => pure (x :: xs)) >>= tupleC) >>= fun x => (pure []) >>= fun xs => pure (x :: xs)) >>= fun xs => pure (x :: xs)) >>= fun xs => pure (x :: xs)) >>= fun xs => pure (x :: xs)) >>= fun xs => pure (x :: xs)) >>= fun xs => pure (x :: xs)) >>= fun xs => pure (x :: xs)) >>= fun xs => M.guard (decide (xs.length ≤ sizeLine)) (pure xs)) >>= fun ds => pure (PyData.list ds)) >>= fun x => (pure []) >>= fun xs => pure (x :: xs)) >>= fun ds => M.guard (decide (ds.length + 1 = 2)) ((m__law_pick ds).fin)) >>= fun bent9 => (((((pure bent9) >>= fun d => pure (isTy "tuple" d)) >>= fun k => if k = true then ((pure bent9) >>= fun x => (pure lays_v2) >>= fun y => inM x y) else pure false) >>= fun c => pure (PyData.bool c)) >>= fun due11 => (((((((((pure lot1) >>= fun x => ((pure bent9) >>= fun x => (pure []) >>= fun xs => pure (x :: xs)) >>= fun xs => pure (x :: xs)) >>= fun ds => M.guard (decide (ds.length = 2)) ((m_is_lay ds).fin)) >>= fun x => ((pure due11) >>= fun x => (pure []) >>= fun xs => pure (x :: xs)) >>= fun xs => pure (x :: xs)) >>= fun ds => M.guard (decide (ds.length = 2)) ((m__law_alike 7 ds).fin)) >>= truthM) >>= fun c => pure (!c)) >>= fun k => if k = true then pure true else (((((((pure lot1) >>= fun x => ((pure bent9) >>= fun x => (pure []) >>= fun xs => pure (x :: xs)) >>= fun xs => pure (x :: xs)) >>= fun ds => M.guard (decide (ds.length = 2)) ((m_is_balanced ds).fin)) >>= fun x => (((((pure due11) >>= boolM) >>= fun k => if k = true then ((pure bent9) >>= fun x => (pure (PyData.list even3)) >>= fun y => inM x y) else pure false) >>= fun c => pure (PyData.bool c)) >>= fun x => (pure []) >>= fun xs => pure (x :: xs)) >>= fun xs => pure (x :: xs)) >>= fun ds => M.guard (decide (ds.length = 2)) ((m__law_alike 7 ds).fin)) >>= truthM) >>= fun c => pure (!c))) >>= fun k => if k = true then M.thn ((((pure false) >>= fun c => pure (PyData.bool c)) >>= fun d => pure (.rt d)) : M (Fl Empty)) (fun z => z.elim) else ((((((((pure lot1) >>= fun x => ((pure own8) >>= fun x => (pure []) >>= fun xs => pure (x :: xs)) >>= fun xs => pure (x :: xs)) >>= fun ds => M.guard (decide (ds.length = 2)) ((m_leaning_pips ds).fin)) >>= fun x => (((((((((pure own8) >>= fun x => (pure []) >>= fun xs => pure (x :: xs)) >>= fun ds => M.guard (decide (ds.length = 1)) ((m__law_lean ds).fin)) >>= seqM) >>= fun ds => M.guard (decide (ds.length ≤ sizeLine)) (compM pat2 (fun c13 => (pure true)) (fun c13 => (pure c13.1)) ds)) >>= fun ds => pure (PyData.list ds)) >>= fun x => (pure []) >>= fun xs => pure (x :: xs)) >>= tupleC) >>= fun x => (pure []) >>= fun xs => pure (x :: xs)) >>= fun xs => pure (x :: xs)) >>= fun ds => M.guard (decide (ds.length = 2)) ((m__law_alike 7 ds).fin)) >>= truthM) >>= fun c => pure (!c)) >>= fun k => if k = true then M.thn ((((pure false) >>= fun c => pure (PyData.bool c)) >>= fun d => pure (.rt d)) : M (Fl Empty)) (fun z => z.elim) else (pure (.nx ())))))))) ds ()) (fun c6 => ((((pure lot1) >>= fun x => (pure []) >>= fun xs => pure (x :: xs)) >>= fun ds => M.guard (decide (ds.length + 1 = 2)) ((m__law_refused ds).fin)) >>= fun d => pure (.rt d))))))))))
/-- the __init__ of a class of the text -/
def iniOf (c : Str) : Stmt := match PySem.Challenge.pw_dominorows_k45_balanced_lays.main.body.find? (fun s => match s with | .ClassDef (name := n) .. => decide (n = c) | _ => false) with
  | some (.ClassDef (body := b) ..) => b.getD 0 (.Pass ⟨0, 0, 0, 0⟩)
  | _ => .Pass ⟨0, 0, 0, 0⟩
/-- what stands where -/
structure Tx (P : Program) (w : World) (K : PySem.W.Frag) (mg : Str → Option Value) (base : Heap) where
  C : DC
  bone : Addr
  hF : HrdF K mg C bone
  tLS : ∀ p ∈ C.TL, p.1 ∉ C.TS
  f_is_number : Addr
  fd_is_number : FuncData
  c_is_number : Addr
  F_is_number : FunC K "is_number" "is_number" st_is_number f_is_number fd_is_number c_is_number
  m_is_number : mg "is_number" = some (.ref f_is_number)
  B_is_number : Binds K fd_is_number ["value", "low", "high"] []
  f_check : Addr
  fd_check : FuncData
  c_check : Addr
  F_check : FunC K "check" "check" st_check f_check fd_check c_check
  m_check : mg "check" = some (.ref f_check)
  B_check : Binds K fd_check ["is_right", "name"] []
  f_is_pip : Addr
  fd_is_pip : FuncData
  c_is_pip : Addr
  F_is_pip : FunC K "is_pip" "is_pip" st_is_pip f_is_pip fd_is_pip c_is_pip
  m_is_pip : mg "is_pip" = some (.ref f_is_pip)
  B_is_pip : Binds K fd_is_pip ["value"] []
  f_is_bone : Addr
  fd_is_bone : FuncData
  c_is_bone : Addr
  F_is_bone : FunC K "is_bone" "is_bone" st_is_bone f_is_bone fd_is_bone c_is_bone
  m_is_bone : mg "is_bone" = some (.ref f_is_bone)
  B_is_bone : Binds K fd_is_bone ["value"] []
  P_is_bone : Addr
  TB_is_bone : GxR.TabB base mg c_is_bone P_is_bone
  tS_is_bone : P_is_bone ∈ C.TS
  tL_is_bone : ∀ p ∈ C.TL, p.1 ≠ P_is_bone
  f_is_lot : Addr
  fd_is_lot : FuncData
  c_is_lot : Addr
  F_is_lot : FunC K "is_lot" "is_lot" st_is_lot f_is_lot fd_is_lot c_is_lot
  m_is_lot : mg "is_lot" = some (.ref f_is_lot)
  B_is_lot : Binds K fd_is_lot ["value"] []
  P_is_lot : Addr
  TB_is_lot : GxR.TabB base mg c_is_lot P_is_lot
  tS_is_lot : P_is_lot ∈ C.TS
  tL_is_lot : ∀ p ∈ C.TL, p.1 ≠ P_is_lot
  f_check_lot : Addr
  fd_check_lot : FuncData
  c_check_lot : Addr
  F_check_lot : FunC K "check_lot" "check_lot" st_check_lot f_check_lot fd_check_lot c_check_lot
  m_check_lot : mg "check_lot" = some (.ref f_check_lot)
  B_check_lot : Binds K fd_check_lot ["lot"] []
  f_bone_of : Addr
  fd_bone_of : FuncData
  c_bone_of : Addr
  F_bone_of : FunC K "bone_of" "bone_of" st_bone_of f_bone_of fd_bone_of c_bone_of
  m_bone_of : mg "bone_of" = some (.ref f_bone_of)
  B_bone_of : Binds K fd_bone_of ["one", "other"] []
  f_ends_at : Addr
  fd_ends_at : FuncData
  c_ends_at : Addr
  F_ends_at : FunC K "ends_at" "ends_at" st_ends_at f_ends_at fd_ends_at c_ends_at
  m_ends_at : mg "ends_at" = some (.ref f_ends_at)
  B_ends_at : Binds K fd_ends_at ["lot", "pip"] []
  f_odd_in : Addr
  fd_odd_in : FuncData
  c_odd_in : Addr
  F_odd_in : FunC K "odd_in" "odd_in" st_odd_in f_odd_in fd_odd_in c_odd_in
  m_odd_in : mg "odd_in" = some (.ref f_odd_in)
  B_odd_in : Binds K fd_odd_in ["lot"] []
  f_pieces_in : Addr
  fd_pieces_in : FuncData
  c_pieces_in : Addr
  F_pieces_in : FunC K "pieces_in" "pieces_in" st_pieces_in f_pieces_in fd_pieces_in c_pieces_in
  m_pieces_in : mg "pieces_in" = some (.ref f_pieces_in)
  B_pieces_in : Binds K fd_pieces_in ["lot"] []
  f_bones_of : Addr
  fd_bones_of : FuncData
  c_bones_of : Addr
  F_bones_of : FunC K "bones_of" "bones_of" st_bones_of f_bones_of fd_bones_of c_bones_of
  m_bones_of : mg "bones_of" = some (.ref f_bones_of)
  B_bones_of : Binds K fd_bones_of ["lot", "piece"] []
  f_without_bone : Addr
  fd_without_bone : FuncData
  c_without_bone : Addr
  F_without_bone : FunC K "without_bone" "without_bone" st_without_bone f_without_bone fd_without_bone c_without_bone
  m_without_bone : mg "without_bone" = some (.ref f_without_bone)
  B_without_bone : Binds K fd_without_bone ["lot", "bone"] []
  f_is_arrow : Addr
  fd_is_arrow : FuncData
  c_is_arrow : Addr
  F_is_arrow : FunC K "is_arrow" "is_arrow" st_is_arrow f_is_arrow fd_is_arrow c_is_arrow
  m_is_arrow : mg "is_arrow" = some (.ref f_is_arrow)
  B_is_arrow : Binds K fd_is_arrow ["value"] []
  P_is_arrow : Addr
  TB_is_arrow : GxR.TabB base mg c_is_arrow P_is_arrow
  tS_is_arrow : P_is_arrow ∈ C.TS
  tL_is_arrow : ∀ p ∈ C.TL, p.1 ≠ P_is_arrow
  f_are_arrows : Addr
  fd_are_arrows : FuncData
  c_are_arrows : Addr
  F_are_arrows : FunC K "are_arrows" "are_arrows" st_are_arrows f_are_arrows fd_are_arrows c_are_arrows
  m_are_arrows : mg "are_arrows" = some (.ref f_are_arrows)
  B_are_arrows : Binds K fd_are_arrows ["value"] []
  P_are_arrows : Addr
  TB_are_arrows : GxR.TabB base mg c_are_arrows P_are_arrows
  tS_are_arrows : P_are_arrows ∈ C.TS
  tL_are_arrows : ∀ p ∈ C.TL, p.1 ≠ P_are_arrows
  f_away : Addr
  fd_away : FuncData
  c_away : Addr
  F_away : FunC K "away" "away" st_away f_away fd_away c_away
  m_away : mg "away" = some (.ref f_away)
  B_away : Binds K fd_away ["arrows", "pip"] []
  f_toward : Addr
  fd_toward : FuncData
  c_toward : Addr
  F_toward : FunC K "toward" "toward" st_toward f_toward fd_toward c_toward
  m_toward : mg "toward" = some (.ref f_toward)
  B_toward : Binds K fd_toward ["arrows", "pip"] []
  f_can_go_on : Addr
  fd_can_go_on : FuncData
  c_can_go_on : Addr
  F_can_go_on : FunC K "can_go_on" "can_go_on" st_can_go_on f_can_go_on fd_can_go_on c_can_go_on
  m_can_go_on : mg "can_go_on" = some (.ref f_can_go_on)
  B_can_go_on : Binds K fd_can_go_on ["left", "pip"] []
  f_laid_from : Addr
  fd_laid_from : FuncData
  c_laid_from : Addr
  F_laid_from : FunC K "laid_from" "laid_from" st_laid_from f_laid_from fd_laid_from c_laid_from
  m_laid_from : mg "laid_from" = some (.ref f_laid_from)
  B_laid_from : Binds K fd_laid_from ["left", "pip"] []
  f_first_laid : Addr
  fd_first_laid : FuncData
  c_first_laid : Addr
  F_first_laid : FunC K "first_laid" "first_laid" st_first_laid f_first_laid fd_first_laid c_first_laid
  m_first_laid : mg "first_laid" = some (.ref f_first_laid)
  B_first_laid : Binds K fd_first_laid ["lot"] []
  f_row_behind : Addr
  fd_row_behind : FuncData
  c_row_behind : Addr
  F_row_behind : FunC K "row_behind" "row_behind" st_row_behind f_row_behind fd_row_behind c_row_behind
  m_row_behind : mg "row_behind" = some (.ref f_row_behind)
  B_row_behind : Binds K fd_row_behind ["left", "pip"] []
  f_first_row_in : Addr
  fd_first_row_in : FuncData
  c_first_row_in : Addr
  F_first_row_in : FunC K "first_row_in" "first_row_in" st_first_row_in f_first_row_in fd_first_row_in c_first_row_in
  m_first_row_in : mg "first_row_in" = some (.ref f_first_row_in)
  B_first_row_in : Binds K fd_first_row_in ["lot"] []
  f_lays : Addr
  fd_lays : FuncData
  c_lays : Addr
  F_lays : FunC K "lays" "lays" st_lays f_lays fd_lays c_lays
  m_lays : mg "lays" = some (.ref f_lays)
  B_lays : Binds K fd_lays ["lot"] []
  f_is_lay_of : Addr
  fd_is_lay_of : FuncData
  c_is_lay_of : Addr
  F_is_lay_of : FunC K "is_lay_of" "is_lay_of" st_is_lay_of f_is_lay_of fd_is_lay_of c_is_lay_of
  m_is_lay_of : mg "is_lay_of" = some (.ref f_is_lay_of)
  B_is_lay_of : Binds K fd_is_lay_of ["lot", "value"] []
  f_is_lay : Addr
  fd_is_lay : FuncData
  c_is_lay : Addr
  F_is_lay : FunC K "is_lay" "is_lay" st_is_lay f_is_lay fd_is_lay c_is_lay
  m_is_lay : mg "is_lay" = some (.ref f_is_lay)
  B_is_lay : Binds K fd_is_lay ["lot", "value"] []
  f_is_balanced_of : Addr
  fd_is_balanced_of : FuncData
  c_is_balanced_of : Addr
  F_is_balanced_of : FunC K "is_balanced_of" "is_balanced_of" st_is_balanced_of f_is_balanced_of fd_is_balanced_of c_is_balanced_of
  m_is_balanced_of : mg "is_balanced_of" = some (.ref f_is_balanced_of)
  B_is_balanced_of : Binds K fd_is_balanced_of ["value"] []
  P_is_balanced_of : Addr
  TB_is_balanced_of : GxR.TabB base mg c_is_balanced_of P_is_balanced_of
  tS_is_balanced_of : P_is_balanced_of ∈ C.TS
  tL_is_balanced_of : ∀ p ∈ C.TL, p.1 ≠ P_is_balanced_of
  f_is_balanced : Addr
  fd_is_balanced : FuncData
  c_is_balanced : Addr
  F_is_balanced : FunC K "is_balanced" "is_balanced" st_is_balanced f_is_balanced fd_is_balanced c_is_balanced
  m_is_balanced : mg "is_balanced" = some (.ref f_is_balanced)
  B_is_balanced : Binds K fd_is_balanced ["lot", "value"] []
  f_balanced : Addr
  fd_balanced : FuncData
  c_balanced : Addr
  F_balanced : FunC K "balanced" "balanced" st_balanced f_balanced fd_balanced c_balanced
  m_balanced : mg "balanced" = some (.ref f_balanced)
  B_balanced : Binds K fd_balanced ["lot"] []
  f_count_balanced : Addr
  fd_count_balanced : FuncData
  c_count_balanced : Addr
  F_count_balanced : FunC K "count_balanced" "count_balanced" st_count_balanced f_count_balanced fd_count_balanced c_count_balanced
  m_count_balanced : mg "count_balanced" = some (.ref f_count_balanced)
  B_count_balanced : Binds K fd_count_balanced ["lot"] []
  f_leaning_pips : Addr
  fd_leaning_pips : FuncData
  c_leaning_pips : Addr
  F_leaning_pips : FunC K "leaning_pips" "leaning_pips" st_leaning_pips f_leaning_pips fd_leaning_pips c_leaning_pips
  m_leaning_pips : mg "leaning_pips" = some (.ref f_leaning_pips)
  B_leaning_pips : Binds K fd_leaning_pips ["lot", "value"] []
  f__law_bone : Addr
  fd__law_bone : FuncData
  c__law_bone : Addr
  F__law_bone : FunC K "_law_bone" "_law_bone" st__law_bone f__law_bone fd__law_bone c__law_bone
  m__law_bone : mg "_law_bone" = some (.ref f__law_bone)
  B__law_bone : Binds K fd__law_bone ["one", "other"] []
  f__law_lot : Addr
  fd__law_lot : FuncData
  c__law_lot : Addr
  F__law_lot : FunC K "_law_lot" "_law_lot" st__law_lot f__law_lot fd__law_lot c__law_lot
  m__law_lot : mg "_law_lot" = some (.ref f__law_lot)
  B__law_lot : Binds K fd__law_lot ["row", "most", "pips"] []
  f__law_pick : Addr
  fd__law_pick : FuncData
  c__law_pick : Addr
  F__law_pick : FunC K "_law_pick" "_law_pick" st__law_pick f__law_pick fd__law_pick c__law_pick
  m__law_pick : mg "_law_pick" = some (.ref f__law_pick)
  B__law_pick : Binds K fd__law_pick ["row", "some"] []
  f__law_lays : Addr
  fd__law_lays : FuncData
  c__law_lays : Addr
  F__law_lays : FunC K "_law_lays" "_law_lays" st__law_lays f__law_lays fd__law_lays c__law_lays
  m__law_lays : mg "_law_lays" = some (.ref f__law_lays)
  B__law_lays : Binds K fd__law_lays ["lot"] []
  f__law_lean : Addr
  fd__law_lean : FuncData
  c__law_lean : Addr
  F__law_lean : FunC K "_law_lean" "_law_lean" st__law_lean f__law_lean fd__law_lean c__law_lean
  m__law_lean : mg "_law_lean" = some (.ref f__law_lean)
  B__law_lean : Binds K fd__law_lean ["arrows"] []
  f__law_count : Addr
  fd__law_count : FuncData
  c__law_count : Addr
  F__law_count : FunC K "_law_count" "_law_count" st__law_count f__law_count fd__law_count c__law_count
  m__law_count : mg "_law_count" = some (.ref f__law_count)
  B__law_count : Binds K fd__law_count ["lot", "pip"] []
  f__law_odd : Addr
  fd__law_odd : FuncData
  c__law_odd : Addr
  F__law_odd : FunC K "_law_odd" "_law_odd" st__law_odd f__law_odd fd__law_odd c__law_odd
  m__law_odd : mg "_law_odd" = some (.ref f__law_odd)
  B__law_odd : Binds K fd__law_odd ["lot"] []
  f__law_alike : Addr
  fd__law_alike : FuncData
  c__law_alike : Addr
  F__law_alike : FunC K "_law_alike" "_law_alike" st__law_alike f__law_alike fd__law_alike c__law_alike
  m__law_alike : mg "_law_alike" = some (.ref f__law_alike)
  B__law_alike : Binds K fd__law_alike ["found", "due"] []
  f__law_bad_lot : Addr
  fd__law_bad_lot : FuncData
  c__law_bad_lot : Addr
  F__law_bad_lot : FunC K "_law_bad_lot" "_law_bad_lot" st__law_bad_lot f__law_bad_lot fd__law_bad_lot c__law_bad_lot
  m__law_bad_lot : mg "_law_bad_lot" = some (.ref f__law_bad_lot)
  B__law_bad_lot : Binds K fd__law_bad_lot ["row"] []
  f__law_refused : Addr
  fd__law_refused : FuncData
  c__law_refused : Addr
  F__law_refused : FunC K "_law_refused" "_law_refused" st__law_refused f__law_refused fd__law_refused c__law_refused
  m__law_refused : mg "_law_refused" = some (.ref f__law_refused)
  B__law_refused : Binds K fd__law_refused ["row", "lot"] []
  P__law_refused : Addr
  TL__law_refused : LamX.TabB base mg c__law_refused P__law_refused
  mT__law_refused : (P__law_refused, (envOfC "_law_refused" (defScope st__law_refused) 0 0 .none).qual ++ "<lambda>") ∈ C.TL
  hu__law_refused : ∀ p ∈ C.TL, p.1 = P__law_refused → p.2 = (envOfC "_law_refused" (defScope st__law_refused) 0 0 .none).qual ++ "<lambda>"
  f_law : Addr
  fd_law : FuncData
  c_law : Addr
  F_law : FunC K "law" "law" st_law f_law fd_law c_law
  m_law : mg "law" = some (.ref f_law)
  B_law : Binds K fd_law ["script"] []
  f__law_taken : Addr
  fd__law_taken : FuncData
  c__law_taken : Addr
  F__law_taken : FunC K "_law_taken" "_law_taken" st__law_taken f__law_taken fd__law_taken c__law_taken
  m__law_taken : mg "_law_taken" = some (.ref f__law_taken)
  B__law_taken : Binds K fd__law_taken ["row", "many"] []
  f__law_heard : Addr
  fd__law_heard : FuncData
  c__law_heard : Addr
  F__law_heard : FunC K "_law_heard" "_law_heard" st__law_heard f__law_heard fd__law_heard c__law_heard
  m__law_heard : mg "_law_heard" = some (.ref f__law_heard)
  B__law_heard : Binds K fd__law_heard ["ask"] []
  n_all : mg "all" = none
  n_bool : mg "bool" = none
  n_dict : mg "dict" = none
  n_int : mg "int" = none
  n_isinstance : mg "isinstance" = none
  n_len : mg "len" = none
  n_list : mg "list" = none
  n_max : mg "max" = none
  n_min : mg "min" = none
  n_range : mg "range" = none
  n_set : mg "set" = none
  n_sorted : mg "sorted" = none
  n_str : mg "str" = none
  n_sum : mg "sum" = none
  n_tuple : mg "tuple" = none
  n_zip : mg "zip" = none
  g_MOST_BONES : ∃ t, mg "MOST_BONES" = some (.int 8 t)
  g_MOST_PIP : ∃ t, mg "MOST_PIP" = some (.int 6 t)
  g_PIPS : GTup K mg "PIPS" [0, 1, 2, 3, 4, 5, 6]
  fI_bad : Addr
  fdI_bad : FuncData
  cdI_bad : Addr
  ccI_bad : Addr
  E_bad : SupF P K C.cBad fI_bad "BadArgument.__init__" (iniOf "BadArgument") fdI_bad cdI_bad ccI_bad
  I_bad : FnOk P w K mg base (L2.CX P w) 1 fI_bad fdI_bad ["self", "name"] (spIni1 K C.cBad "name")
  EB_bad : Binds K fdI_bad ["self", "name"] []
  m_BadArgument : mg "BadArgument" = some (.ref C.cBad)
/-! ### the draws -/
abbrev N__law_taken : List Str := ["row", "many", "found", "cell"]
theorem sc__law_taken : FnScope N__law_taken ["row", "many"] (defScope st__law_taken) := ⟨rfl, rfl, rfl, by decide +kernel, rfl, by decide +kernel, by decide +kernel⟩
section
variable {P : Program} {w : World} {K : PySem.W.Frag} {mg : Str → Option Value} {base : Heap}
theorem atI_4 {sv : V} {i j r : Int} : atI [sv, V.int i, V.int j, V.int r] 0 = some sv ∧ atI [sv, V.int i, V.int j, V.int r] 1 = some (V.int i) ∧ atI [sv, V.int i, V.int j, V.int r] 2 = some (V.int j) ∧ atI [sv, V.int i, V.int j, V.int r] 3 = some (V.int r) := ⟨rfl, rfl, rfl, rfl⟩
theorem atI_in {sv : List V} {ns : List Int} (h : sv = ns.map V.int) {k : Int} (h0 : 0 ≤ k) (h1 : k < ns.length) : ∃ c, atI sv k = some (V.int c) := by
  subst h
  unfold atI ixN
  rw [List.length_map, if_pos h0, if_pos h1]
  refine ⟨ns[k.toNat]'(by omega), ?_⟩
  show (ns.map V.int)[k.toNat]? = _
  rw [List.getElem?_map, List.getElem?_eq_getElem (by omega)]
  rfl
theorem ok__law_taken (T : Tx P w K mg base) : FnOk P w K mg base (L2.CX P w) 1 T.f__law_taken T.fd__law_taken ["row", "many"] (spR T.C K 2 fun ds => (m__law_taken ds).fin) := by
  refine T.F__law_taken.fn sc__law_taken (fun vs H Q E ⟨W, F, ds, a, ws, e, hw, da, g, hd, hl, _⟩ => by rw [e, List.length_cons, DpAll.length hd, hl]; rfl) fun A outer s H vs Q E hr ⟨W, F, ds, a, ws, e, hw, da, g, hd, hl, hm⟩ => ?_
  subst e
  match ds, hm, hd with
  | [.int n], hm, .cons (.int _) .nil =>
  obtain ⟨hn1, hn2, hm⟩ := takenM_run hm
  have hq : ∀ k : Int, 0 ≤ k → k < n → ∀ F' H', Ext T.C K W F H F' H' → Q (.int k) H' := fun k h0 h1 F' H' x => hm k h0 h1 (.int k) F' H' x (.int k)
  clear hm
  obtain ⟨sv, ns, i, j, r, hH, hF, hs, hi, hj, hj2, hr0⟩ := da
  have hmod : ∀ c : Int, 0 ≤ c % n ∧ c % n < n := fun c => ⟨Int.emod_nonneg c (by omega), Int.emod_lt_of_pos c hn1⟩
  have hmodJ : ∀ c : Int, 0 ≤ c % 2147483647 ∧ c % 2147483647 < 2147483647 := fun c => ⟨Int.emod_nonneg c (by decide), Int.emod_lt_of_pos c (by decide)⟩
  refine ⟨_, pss_cons (ps_if (pt_cmpR op_gt (pe_ix ix_list (pv 0) pe_int (fun _ _ => rfl)) pe_int rfl)
      (pss_cons (ps_set (i := 2) sc__law_taken.nd rfl (.inl rfl) (pe_op op_mod (pe_callTy call_int1 rfl T.n_int bt_int (pa_cons (pe_ix ix_list (pv 0) pe_int (fun _ _ => rfl)) pa_nil)) (pv 1)))
        (pss_cons (ps_asg (pe_op op_fdiv (pe_ix ix_list (pv 0) pe_int (fun _ _ => rfl)) (pv 1)) (pg_sub (pv 0) pe_int set_list fun _ => rfl))
          (pss_one (ps_ret (pv 2))))) pss_nil)
    (pss_cons (ps_asg (pe_op op_add (pe_ix ix_list (pv 0) pe_int (fun _ _ => rfl)) pe_int) (pg_sub (pv 0) pe_int set_list fun _ => rfl))
    (pss_cons (ps_if (pt_cmpR op_gt (pe_ix ix_list (pv 0) pe_int (fun _ _ => rfl)) (pe_callB call_len rfl T.n_len bt_len (pa_cons (pe_ix ix_list (pv 0) pe_int (fun _ _ => rfl)) pa_nil)) rfl)
      (pss_cons (ps_asg (pe_op op_mod (pe_callTy call_int1 rfl T.n_int bt_int (pa_cons (pe_op op_add (pe_op op_mul (pe_ix ix_list (pv 0) pe_int (fun _ _ => rfl)) pe_int) pe_int) pa_nil)) pe_int) (pg_sub (pv 0) pe_int set_list fun _ => rfl))
        (pss_one (ps_ret (pe_op op_mod (pe_callTy call_int1 rfl T.n_int bt_int (pa_cons (pe_op op_fdiv (pe_ix ix_list (pv 0) pe_int (fun _ _ => rfl)) pe_int) pa_nil)) (pv 1))))) pss_nil)
    (pss_cons (ps_set (i := 3) sc__law_taken.nd rfl (.inl rfl) (pe_ix ix_list (pe_ix ix_list (pv 0) pe_int (fun _ _ => rfl)) (pe_op op_sub (pe_ix ix_list (pv 0) pe_int (fun _ _ => rfl)) pe_int) (fun _ _ => rfl)))
    (pss_cons (ps_asg (pe_op op_mod (pe_callTy call_int1 rfl T.n_int bt_int (pa_cons (pe_op op_add (pe_op op_add (pe_op op_mul (pe_ix ix_list (pv 0) pe_int (fun _ _ => rfl)) pe_int) (pv 3)) pe_int) pa_nil)) pe_int) (pg_sub (pv 0) pe_int set_list fun _ => rfl))
    (pss_cons (ps_if (pt_cmpR op_ge (pv 3) (pe_op op_pow pe_int pe_int) rfl) (pss_one (ps_asg (pe_op op_fdiv (pv 3) (pv 1)) (pg_sub (pv 0) pe_int set_list fun _ => rfl))) pss_nil)
    (pss_one (ps_ret (pe_op op_mod (pe_callTy call_int1 rfl T.n_int bt_int (pa_cons (pv 3) pa_nil)) (pv 1))))))))), ?_⟩
  refine ⟨_, rfl, a, _, 3, _, rfl, rfl, .inl (.inl hH), rfl, r, 0, rfl, rfl, _, rfl, ?_⟩
  have hs0 := hs
  obtain ⟨b, vs, rfl, hsq, hsd⟩ : ∃ b vs, sv = .ref b ∧ SqL K F b vs ∧ DL.DpAll K F vs (ns.map PyData.int) := by
    cases hs with
    | lst h1 h2 => exact ⟨_, _, rfl, h1, h2⟩
  have hvs := dpAll_ints hsd
  have hlen : vs.length = ns.length := by rw [hvs, List.length_map]
  by_cases c1 : 0 < r
  · dsimp only
    rw [if_pos (by simpa using c1)]
    refine ⟨_, rfl, a, _, 3, _, rfl, rfl, .inl (.inl hH), rfl, .inl ⟨r, rfl, _, rfl, r, n, rfl, rfl, hn1, ?_⟩⟩
    refine ⟨_, rfl, a, _, 3, _, rfl, rfl, .inl (.inl hH), rfl, _, rfl, r, n, rfl, rfl, ⟨hn1, by omega⟩, _, rfl, a, _, 3, 3, rfl, rfl, hH, rfl, _, rfl, ?_⟩
    exact hq _ (hmod r).1 (hmod r).2 F _ (ext_drw g hw hF hH hs0 ⟨hi, hj, hj2, Int.ediv_nonneg hr0 (by omega)⟩)
  · dsimp only
    rw [if_neg (by simpa using c1)]
    have x1 : Ext T.C K W F H F (upd H a (dls (.ref b) (i + 1) j r)) := ext_drw g hw hF hH hs0 ⟨by omega, hj, hj2, hr0⟩
    refine ⟨_, rfl, a, _, 1, _, rfl, rfl, .inl (.inl hH), rfl, i, 1, rfl, rfl, _, rfl, a, _, 1, 1, rfl, rfl, hH, rfl, ?_⟩
    have hA : upd H a (dls (.ref b) (i + 1) j r) a = some (dls (.ref b) (i + 1) j r) := upd_same
    have e1 : upd H a (.lst ([V.ref b, V.int i, V.int j, V.int r].set 1 (.int (i + 1)))) = upd H a (dls (.ref b) (i + 1) j r) := rfl
    rw [e1]
    generalize upd H a (dls (.ref b) (i + 1) j r) = H1 at x1 hA
    clear e1
    have hB : SqL K H1 b vs := sql_mono x1.gs.sub hsq
    refine ⟨_, rfl, a, _, 1, _, rfl, rfl, .inl (.inl hA), rfl, _, rfl, a, _, 0, _, rfl, rfl, .inl (.inl hA), rfl, _, vs.length, rfl, .inl ⟨vs, hB, rfl⟩, i + 1, (vs.length : Int), rfl, rfl, _, rfl, ?_⟩
    by_cases c2 : i + 1 > (vs.length : Int)
    · dsimp only
      rw [if_pos (by simpa using c2)]
      refine ⟨_, rfl, a, _, 2, _, rfl, rfl, .inl (.inl hA), rfl, j, 48271, rfl, rfl, .inr (by decide), _, 11, rfl, rfl, .inl ⟨_, rfl, _, 2147483647, rfl, rfl, (by show (0 : Int) < 2147483647; decide), _, rfl, a, _, 2, 2, rfl, rfl, hA, rfl, ?_⟩⟩
      have x2 : Ext T.C K W F H1 F (upd H1 a (dls (.ref b) (i + 1) ((j * 48271 + 11) % 2147483647) r)) := ext_drw x1.gs hw hF hA hs0 ⟨by omega, (hmodJ _).1, (hmodJ _).2, hr0⟩
      have hA2 : upd H1 a (dls (.ref b) (i + 1) ((j * 48271 + 11) % 2147483647) r) a = some (dls (.ref b) (i + 1) ((j * 48271 + 11) % 2147483647) r) := upd_same
      refine ⟨_, rfl, a, _, 2, _, rfl, rfl, .inl (.inl hA2), rfl, _, 7, rfl, rfl, ⟨by decide, by decide⟩, .inl ⟨_, rfl, _, rfl, _, n, rfl, rfl, hn1, ?_⟩⟩
      exact hq _ (hmod _).1 (hmod _).2 F _ (x1.trans x2)
    · dsimp only
      rw [if_neg (by simpa using c2)]
      obtain ⟨c, hc⟩ := atI_in (k := i) hvs hi (by rw [hlen] at c2; omega)
      refine ⟨_, rfl, a, _, 0, _, rfl, rfl, .inl (.inl hA), rfl, _, rfl, a, _, 1, _, rfl, rfl, .inl (.inl hA), rfl, _, 1, rfl, rfl, b, vs, _, _, rfl, rfl, hB, by rw [show i + 1 - 1 = i by omega]; exact hc, ?_⟩
      refine ⟨_, rfl, a, _, 2, _, rfl, rfl, .inl (.inl hA), rfl, j, 48271, rfl, rfl, .inr (by decide), _, rfl, _, c, rfl, rfl, _, 11, rfl, rfl, .inl ⟨_, rfl, _, 2147483647, rfl, rfl, (by show (0 : Int) < 2147483647; decide), _, rfl, a, _, 2, 2, rfl, rfl, hA, rfl, ?_⟩⟩
      have x2 : Ext T.C K W F H1 F (upd H1 a (dls (.ref b) (i + 1) ((j * 48271 + c + 11) % 2147483647) r)) := ext_drw x1.gs hw hF hA hs0 ⟨by omega, (hmodJ _).1, (hmodJ _).2, hr0⟩
      have hA2 : upd H1 a (dls (.ref b) (i + 1) ((j * 48271 + c + 11) % 2147483647) r) a = some (dls (.ref b) (i + 1) ((j * 48271 + c + 11) % 2147483647) r) := upd_same
      have e2 : upd H1 a (.lst ([V.ref b, V.int (i + 1), V.int j, V.int r].set 2 (.int ((j * 48271 + c + 11) % 2147483647)))) = upd H1 a (dls (.ref b) (i + 1) ((j * 48271 + c + 11) % 2147483647) r) := rfl
      rw [e2]
      generalize upd H1 a (dls (.ref b) (i + 1) ((j * 48271 + c + 11) % 2147483647) r) = H2 at x2 hA2
      clear e2
      refine ⟨_, rfl, 10, 18, rfl, rfl, ⟨by decide, by decide, by decide⟩, c, _, rfl, rfl, _, rfl, ?_⟩
      by_cases c3 : c ≥ (10 : Int) ^ (18 : Int).toNat
      · dsimp only
        rw [if_pos (by simpa using c3)]
        have c4 : 0 ≤ c := Int.le_trans (by decide) c3
        refine ⟨_, rfl, _, rfl, c, n, rfl, rfl, ⟨hn1, by omega⟩, _, rfl, a, _, 3, 3, rfl, rfl, hA2, rfl, ?_⟩
        have x3 : Ext T.C K W F H2 F (upd H2 a (dls (.ref b) (i + 1) ((j * 48271 + c + 11) % 2147483647) (c / n))) := ext_drw x2.gs hw hF hA2 hs0 ⟨by omega, (hmodJ _).1, (hmodJ _).2, Int.ediv_nonneg c4 (by omega)⟩
        exact ⟨_, rfl, .inl ⟨c, rfl, _, rfl, c, n, rfl, rfl, hn1, hq _ (hmod _).1 (hmod _).2 F _ ((x1.trans x2).trans x3)⟩⟩
      · dsimp only
        rw [if_neg (by simpa using c3)]
        exact ⟨_, rfl, .inl ⟨c, rfl, _, rfl, c, n, rfl, rfl, hn1, hq _ (hmod _).1 (hmod _).2 F _ (x1.trans x2)⟩⟩
end

/-! ### what is heard -/
abbrev N__law_heard : List Str := ["ask", "e"]
theorem sc__law_heard : FnScope N__law_heard ["ask"] (defScope st__law_heard) := ⟨rfl, rfl, rfl, by decide +kernel, rfl, by decide +kernel, by decide +kernel⟩
section
theorem heard_gives {X : Cx} {C : DC} {bone : Addr} (h0 : HrdF X.K X.mg C bone) {g : Addr} {cdg : Value} {q : Str} : LamX.GivesTo X N__law_heard "_law_heard" (defScope st__law_heard) g cdg (defBody st__law_heard) "ask" q (TTheard C) := by
  intro f c' s H Q tl act hc h
  obtain ⟨x1, i1, k1, v1⟩ := h0.xf _ (.inl rfl)
  obtain ⟨x2, i2, k2, v2⟩ := h0.xf _ (.inr (.inl rfl))
  obtain ⟨x3, i3, k3, v3⟩ := h0.xf _ (.inr (.inr (.inl rfl)))
  obtain ⟨x4, i4, k4, v4⟩ := h0.xf _ (.inr (.inr (.inr rfl)))
  refine ⟨_, pss_cons (ps_try_manyA (X := (cxOf C8.CX0 X.prog X.w X.K X.mg X.base N__law_heard "_law_heard" (defScope st__law_heard) g cdg X.A X.stack s H C8.E0).nox)
      (tb := fun W D σ H => ∃ Ech : XK, (∀ cls d σ' H', Ech cls d H' → W cls d σ' H') ∧ σ[0]? = some (some (.ref f)) ∧ H c' = some (LamX.CodeO c' q) ∧ tl Ech H fun _ H' => D.nx σ H')
      sc__law_heard.nd rfl rfl LamX.takes0 (fun W pn xe tk _ => ?_)
      (.cons (i := 1) ⟨rfl, rfl, .inl h0.mBad⟩ rfl rfl (fun a oe cls d pn hz hf => pss_one (ps_ret (pe_tupX (pa_cons pe_str (pa_cons (pe_xf x1 h0.nBad hz hf (pv 1)) (pa_cons (pe_and (pe_callB (call_isD i1 hz hf) rfl h0.mIsi bt_isinstance (pa_cons (pv 1) (pa_cons (pe_glob (v := .ref bone) rfl h0.mBone rfl) pa_nil))) (pe_one (pe_callB (call_isD i1 hz hf) rfl h0.mIsi bt_isinstance (pa_cons (pv 1) (pa_cons (pe_bltn (v := .ty "ValueError") rfl h0.mVE bt_ValueError rfl) pa_nil))))) pa_nil))))))
      (.cons (i := 1) ⟨rfl, rfl, .inl h0.mUnl⟩ rfl rfl (fun a oe cls d pn hz hf => pss_one (ps_ret (pe_tupX (pa_cons pe_str (pa_cons (pe_xf x2 h0.nUnl hz hf (pv 1)) (pa_cons (pe_and (pe_callB (call_isD i2 hz hf) rfl h0.mIsi bt_isinstance (pa_cons (pv 1) (pa_cons (pe_glob (v := .ref bone) rfl h0.mBone rfl) pa_nil))) (pe_one (pe_callB (call_isD i2 hz hf) rfl h0.mIsi bt_isinstance (pa_cons (pv 1) (pa_cons (pe_bltn (v := .ty "ValueError") rfl h0.mVE bt_ValueError rfl) pa_nil))))) pa_nil))))))
      (.cons (i := 1) ⟨rfl, rfl, .inl h0.mRef⟩ rfl rfl (fun a oe cls d pn hz hf => pss_one (ps_ret (pe_tupX (pa_cons pe_str (pa_cons (pe_xf x3 h0.nRef hz hf (pv 1)) (pa_cons (pe_and (pe_callB (call_isD i3 hz hf) rfl h0.mIsi bt_isinstance (pa_cons (pv 1) (pa_cons (pe_glob (v := .ref bone) rfl h0.mBone rfl) pa_nil))) (pe_one (pe_callB (call_isD i3 hz hf) rfl h0.mIsi bt_isinstance (pa_cons (pv 1) (pa_cons (pe_bltn (v := .ty "ValueError") rfl h0.mVE bt_ValueError rfl) pa_nil))))) pa_nil))))))
      (.cons (i := 1) ⟨rfl, rfl, .inl h0.mUnr⟩ rfl rfl (fun a oe cls d pn hz hf => pss_one (ps_ret (pe_tupX (pa_cons pe_str (pa_cons (pe_xf x4 h0.nUnr hz hf (pv 1)) (pa_cons (pe_xf x4 h0.nUnr2 hz hf (pv 1)) (pa_cons (pe_and (pe_callB (call_isD i4 hz hf) rfl h0.mIsi bt_isinstance (pa_cons (pv 1) (pa_cons (pe_glob (v := .ref bone) rfl h0.mBone rfl) pa_nil))) (pe_one (pe_callB (call_isD i4 hz hf) rfl h0.mIsi bt_isinstance (pa_cons (pv 1) (pa_cons (pe_bltn (v := .ty "ValueError") rfl h0.mVE bt_ValueError rfl) pa_nil))))) pa_nil)))))))
      .nil)))))
    (pss_one (ps_ret (pe_tupX pa_nil))), ?_⟩
  · refine ⟨fun pins s' σ H' D I h' => ?_⟩
    obtain ⟨Ech, hW, h1, h2, h3⟩ := h'
    exact (pss_one (ps_expr (act W pn xe Ech _ _ tk hW))).run pins s' σ H' D I ⟨h1, h2, h3⟩
  · refine ⟨Wish C Q, fun cls d σ' H' hw => ?_, rfl, hc, h⟩
    have s1 : ∀ (σ' : L2.St) (a : Addr), σ'.length = N__law_heard.length → (σ'.set 1 (some (V.ref a)))[1]? = some (some (V.ref a)) := fun σ' a hl => List.getElem?_set_self (by rw [hl]; decide)
    rcases hw with ⟨rfl, x, y, rfl, hx, q⟩ | ⟨rfl, x, y, rfl, hx, q⟩ | ⟨rfl, x, y, rfl, hx, q⟩ | ⟨rfl, x, y, z, rfl, hx, q⟩
    · refine ⟨true, h0.e11, fun _ hl a ha => ?_, fun z => nomatch z⟩
      exact ⟨_, s1 σ' a hl, rfl, rfl, x, _, y, rfl, hx, rfl, _, s1 σ' a hl, ⟨rfl, x, _, rfl, hx, _, _, true, rfl, fun _ h => h, k1, true, rfl, ⟨_, s1 σ' a hl, rfl, x, _, rfl, hx, _, _, true, rfl, fun _ h => h, v1, by show 3 ≤ sizeLine; decide, q⟩⟩⟩
    · refine ⟨false, h0.e21, (fun z => nomatch z), fun _ => ⟨true, h0.e22, fun _ hl a ha => ?_, fun z => nomatch z⟩⟩
      exact ⟨_, s1 σ' a hl, rfl, rfl, x, _, y, rfl, hx, rfl, _, s1 σ' a hl, ⟨rfl, x, _, rfl, hx, _, _, true, rfl, fun _ h => h, k2, true, rfl, ⟨_, s1 σ' a hl, rfl, x, _, rfl, hx, _, _, true, rfl, fun _ h => h, v2, by show 3 ≤ sizeLine; decide, q⟩⟩⟩
    · refine ⟨false, h0.e31, (fun z => nomatch z), fun _ => ⟨false, h0.e32, (fun z => nomatch z), fun _ => ⟨true, h0.e33, fun _ hl a ha => ?_, fun z => nomatch z⟩⟩⟩
      exact ⟨_, s1 σ' a hl, rfl, rfl, x, _, y, rfl, hx, rfl, _, s1 σ' a hl, ⟨rfl, x, _, rfl, hx, _, _, true, rfl, fun _ h => h, k3, true, rfl, ⟨_, s1 σ' a hl, rfl, x, _, rfl, hx, _, _, true, rfl, fun _ h => h, v3, by show 3 ≤ sizeLine; decide, q⟩⟩⟩
    · refine ⟨false, h0.e41, (fun z => nomatch z), fun _ => ⟨false, h0.e42, (fun z => nomatch z), fun _ => ⟨false, h0.e43, (fun z => nomatch z), fun _ => ⟨true, h0.e44, fun _ hl a ha => ?_, fun z => nomatch z⟩⟩⟩⟩
      exact ⟨_, s1 σ' a hl, rfl, rfl, x, _, y, rfl, hx, rfl, _, s1 σ' a hl, rfl, rfl, x, _, z, rfl, hx, rfl, _, s1 σ' a hl, ⟨rfl, x, _, rfl, hx, _, _, true, rfl, fun _ h => h, k4, true, rfl, ⟨_, s1 σ' a hl, rfl, x, _, rfl, hx, _, _, true, rfl, fun _ h => h, v4, by show 4 ≤ sizeLine; decide, q⟩⟩⟩
end

section
variable {P : Program} {w : World} {K : PySem.W.Frag} {mg : Str → Option Value} {base : Heap}
theorem ok_is_number (T : Tx P w K mg base) : FnOk P w K mg base (L2.CX P w) 1 T.f_is_number T.fd_is_number ["value", "low", "high"] (spD T.C K 3 fun ds => (m_is_number ds).fin) :=
  fn_D (ρ' := fun (z : Empty) => z.elim) T.F_is_number sc_is_number (by decide) fun A outer s H E hr ds hl => match ds, hl with
  | [a_value, a_low, a_high], _ => (dss_ret (DB.de (db_and (db_isi rfl T.n_isinstance bt_isinstance rfl T.n_int bt_int (by decide +kernel) (DE.rd (de_var (i := 0) rfl (pv 0)))) (db_and (db_not (db_isi rfl T.n_isinstance bt_isinstance rfl T.n_bool bt_bool (by decide +kernel) (DE.rd (de_var (i := 0) rfl (pv 0))))) (db_one (db_chain (op_ord .le (hu65 hr)) (op_ord .le (hu65 hr)) (ord_ok .le) (ord_ok .le) (DE.rd (de_var (i := 1) rfl (pv 1))) (DE.rd (de_var (i := 0) rfl (pv 0))) (DE.rd (de_var (i := 2) rfl (pv 2))) rfl))))))
theorem ok_check (T : Tx P w K mg base) : FnOk P w K mg base (L2.CX P w) 3 T.f_check T.fd_check ["is_right", "name"] (spD T.C K 2 fun ds => (m_check ds).fin) :=
  fn_D (ρ' := fun (_ : Unit) => [none, none]) T.F_check sc_check (by decide) fun A outer s H E hr ds hl => match ds, hl with
  | [a_is_right, a_name], _ => (dss_ifr (ρ1 := fun z => z.elim) (dt_not (dt_truth (DE.rd (de_var (i := 0) rfl (pv 0))))) (dss_raise1 Er.bad er_bad rfl (takes_of rfl rfl rfl rfl) T.E_bad.T T.E_bad.iC T.E_bad.tI T.I_bad (hr.mono (by first | decide | omega)) T.EB_bad rfl T.m_BadArgument (de_var (i := 1) rfl (pv 1))) (dss_nil () ⟨.inl rfl, ⟨.inl rfl, trivial⟩⟩))
theorem ok_is_pip (T : Tx P w K mg base) : FnOk P w K mg base (L2.CX P w) 2 T.f_is_pip T.fd_is_pip ["value"] (spD T.C K 1 fun ds => (m_is_pip ds).fin) :=
  fn_D (ρ' := fun (z : Empty) => z.elim) T.F_is_pip sc_is_pip (by decide) fun A outer s H E hr ds hl => match ds, hl with
  | [a_value], _ => (dss_ret (de_call (ok_is_number T) (hr.mono (by first | decide | omega)) rfl T.m_is_number T.F_is_number.kp T.B_is_number (passes_call (takes_of rfl rfl rfl rfl) fun _ _ _ _ h => h) (da_cons (de_var (i := 0) rfl (pv 0)) (da_cons de_int (da_cons (de_gint T.g_MOST_PIP) da_nil)))))
theorem ok_is_bone (T : Tx P w K mg base) : FnOk P w K mg base (L2.CX P w) 6 T.f_is_bone T.fd_is_bone ["value"] (spD T.C K 1 fun ds => (m_is_bone ds).fin) :=
  fn_D (ρ' := fun (z : Empty) => z.elim) T.F_is_bone sc_is_bone (by decide) fun A outer s H E hr ds hl => match ds, hl with
  | [a_value], _ => (dss_ifr (ρ1 := fun z => z.elim) (DW.dt (dw_or (dt_not (dt_of (db_isi rfl T.n_isinstance bt_isinstance rfl T.n_tuple bt_tuple (by decide +kernel) (DE.rd (de_var (i := 0) rfl (pv 0)))))) (dw_or (dt_cmp (op_neD (hu64 hr)) ne_ok (DE.rd (de_callB call_len len_ok rfl T.n_len bt_len (dar_cons (DE.rd (de_var (i := 0) rfl (pv 0))) dar_nil))) (DE.rd de_int) rfl) (dw_or1 (dt_not (dt_of (db_all (own := [("own", 1)]) rfl sc_is_bone.nd (k := 2) (hr.mono (by first | decide | omega)) rfl T.n_all T.TB_is_bone rfl (gnS_by (by first | (show gnB N_is_bone (defScope st_is_bone) _ _ = true; decide +kernel) | rfl)) T.tS_is_bone T.tL_is_bone (DF.di (df_seq (de_var (i := 0) rfl (pv 0)))) (fun _ _ _ _ _ _ => (dg_name (i := 1) sc_is_bone.nd rfl (by first | exact .inl rfl | exact .inr rfl) rfl (by decide))) (fun _ _ _ _ _ hrc1 c1 => (db_of (DE.rd (de_call (ok_is_pip T) (hrc1.mono (by first | decide | omega)) rfl T.m_is_pip T.F_is_pip.kp T.B_is_pip passesE0 (da_cons (de_var (i := 1) rfl (pv 1)) da_nil)))))))))))) (dss_ret (DB.de db_const)) (dss_ret (DB.de (db_cmp (op_ord .le (hu65 hr)) (ord_ok .le) (DE.rd (de_at (DE.rd (de_var (i := 0) rfl (pv 0))) (DE.rd de_int))) (DE.rd (de_at (DE.rd (de_var (i := 0) rfl (pv 0))) (DE.rd de_int))) rfl))))
theorem ok_is_lot (T : Tx P w K mg base) : FnOk P w K mg base (L2.CX P w) 10 T.f_is_lot T.fd_is_lot ["value"] (spD T.C K 1 fun ds => (m_is_lot ds).fin) :=
  fn_D (ρ' := fun (z : Empty) => z.elim) T.F_is_lot sc_is_lot (by decide) fun A outer s H E hr ds hl => match ds, hl with
  | [a_value], _ => (dss_ifr (ρ1 := fun z => z.elim) (DW.dt (dw_or (dt_not (dt_of (db_isi rfl T.n_isinstance bt_isinstance rfl T.n_tuple bt_tuple (by decide +kernel) (DE.rd (de_var (i := 0) rfl (pv 0)))))) (dw_or (dt_cmp (op_ord .gt (hu65 hr)) (ord_ok .gt) (DE.rd (de_callB call_len len_ok rfl T.n_len bt_len (dar_cons (DE.rd (de_var (i := 0) rfl (pv 0))) dar_nil))) (DE.rd (de_gint T.g_MOST_BONES)) rfl) (dw_or1 (dt_not (dt_of (db_all (own := [("own", 1)]) rfl sc_is_lot.nd (k := 6) (hr.mono (by first | decide | omega)) rfl T.n_all T.TB_is_lot rfl (gnS_by (by first | (show gnB N_is_lot (defScope st_is_lot) _ _ = true; decide +kernel) | rfl)) T.tS_is_lot T.tL_is_lot (DF.di (df_seq (de_var (i := 0) rfl (pv 0)))) (fun _ _ _ _ _ _ => (dg_name (i := 1) sc_is_lot.nd rfl (by first | exact .inl rfl | exact .inr rfl) rfl (by decide))) (fun _ _ _ _ _ hrc1 c1 => (db_of (DE.rd (de_call (ok_is_bone T) (hrc1.mono (by first | decide | omega)) rfl T.m_is_bone T.F_is_bone.kp T.B_is_bone passesE0 (da_cons (de_var (i := 1) rfl (pv 1)) da_nil)))))))))))) (dss_ret (DB.de db_const)) (dss_ret (DB.de (db_all (own := [("one", 2), ("other", 3)]) rfl sc_is_lot.nd (k := 6) (hr.mono (by first | decide | omega)) rfl T.n_all T.TB_is_lot rfl (gnS_by (by first | (show gnB N_is_lot (defScope st_is_lot) _ _ = true; decide +kernel) | rfl)) T.tS_is_lot T.tL_is_lot (DF.di (df_zip rfl T.n_zip (da_cons (de_var (i := 0) rfl (pv 0)) (da_cons (de_slice (DE.rd (de_var (i := 0) rfl (pv 0))) (do_some (DE.rd de_int)) do_none) da_nil)))) (fun _ _ _ _ _ _ => (dg_2 (i := 2) (j := 3) (K := K) rfl rfl sc_is_lot.nd rfl (by first | exact .inl rfl | exact .inr rfl) rfl (by first | exact .inl rfl | exact .inr rfl) rfl (fun _ => rfl) (by decide) (by decide))) (fun _ _ _ _ _ hrc2 c2 => (db_cmp (op_ord .le (hu65 hrc2)) (ord_ok .le) (DE.rd (de_var (i := 2) rfl (pv 2))) (DE.rd (de_var (i := 3) rfl (pv 3))) rfl))))))
theorem ok_check_lot (T : Tx P w K mg base) : FnOk P w K mg base (L2.CX P w) 11 T.f_check_lot T.fd_check_lot ["lot"] (spD T.C K 1 fun ds => (m_check_lot ds).fin) :=
  fn_D (ρ' := fun (_ : Unit) => [none]) T.F_check_lot sc_check_lot (by decide) fun A outer s H E hr ds hl => match ds, hl with
  | [a_lot], _ => (dss_expr (DE.rd (de_call (ok_check T) (hr.mono (by first | decide | omega)) rfl T.m_check T.F_check.kp T.B_check (passes_call (takes_of rfl rfl rfl rfl) fun _ _ _ _ h => h) (da_cons (de_call (ok_is_lot T) (hr.mono (by first | decide | omega)) rfl T.m_is_lot T.F_is_lot.kp T.B_is_lot (passes_call (takes_of rfl rfl rfl rfl) fun _ _ _ _ h => h) (da_cons (de_var (i := 0) rfl (pv 0)) da_nil)) (da_cons de_str da_nil)))) (dss_nil () ⟨.inl rfl, trivial⟩))
theorem ok_bone_of (T : Tx P w K mg base) : FnOk P w K mg base (L2.CX P w) 1 T.f_bone_of T.fd_bone_of ["one", "other"] (spD T.C K 2 fun ds => (m_bone_of ds).fin) :=
  fn_D (ρ' := fun (z : Empty) => z.elim) T.F_bone_of sc_bone_of (by decide) fun A outer s H E hr ds hl => match ds, hl with
  | [a_one, a_other], _ => (dss_ret (de_if (dt_cmp (op_ord .le (hu65 hr)) (ord_ok .le) (DE.rd (de_var (i := 0) rfl (pv 0))) (DE.rd (de_var (i := 1) rfl (pv 1))) rfl) (de_tup (da_cons (de_var (i := 0) rfl (pv 0)) (da_cons (de_var (i := 1) rfl (pv 1)) da_nil))) (de_tup (da_cons (de_var (i := 1) rfl (pv 1)) (da_cons (de_var (i := 0) rfl (pv 0)) da_nil)))))
theorem ok_ends_at (T : Tx P w K mg base) : FnOk P w K mg base (L2.CX P w) 1 T.f_ends_at T.fd_ends_at ["lot", "pip"] (spD T.C K 2 fun ds => (m_ends_at ds).fin) :=
  fn_D (ρ' := fun (z : Empty) => z.elim) T.F_ends_at sc_ends_at (by decide) fun A outer s H E hr ds hl => match ds, hl with
  | [a_lot, a_pip], _ => (dss_ret (de_callB (cr_sum rfl) sum_ok rfl T.n_sum bt_sum (dar_cons (DL.rd (dl_lc (own := [("one", 2), ("other", 3)]) rfl sc_ends_at.nd (DF.di (df_seq (de_var (i := 0) rfl (pv 0)))) (blkOk_by (by first | (show blkC N_ends_at (defScope st_ends_at) _ _ = true; decide +kernel) | rfl)) (fun _ _ _ _ _ => (dg_2 (i := 2) (j := 3) (K := K) rfl rfl sc_ends_at.nd rfl (by first | exact .inl rfl | exact .inr rfl) rfl (by first | exact .inl rfl | exact .inr rfl) rfl (fun _ => rfl) (by decide) (by decide))) (fun _ _ _ _ _ c1 => dts_nil) (fun _ _ _ _ _ c1 => (de_op op_addA addA_ok (DB.rd (db_cmp (op_eqD (hu64 hr)) eq_ok (DE.rd (de_var (i := 2) rfl (pv 2))) (DE.rd (de_var (i := 1) rfl (pv 1))) rfl)) (DB.rd (db_cmp (op_eqD (hu64 hr)) eq_ok (DE.rd (de_var (i := 3) rfl (pv 3))) (DE.rd (de_var (i := 1) rfl (pv 1))) rfl)))))) dar_nil)))
theorem ok_odd_in (T : Tx P w K mg base) : FnOk P w K mg base (L2.CX P w) 2 T.f_odd_in T.fd_odd_in ["lot"] (spD T.C K 1 fun ds => (m_odd_in ds).fin) :=
  fn_D (ρ' := fun (z : Empty) => z.elim) T.F_odd_in sc_odd_in (by decide) fun A outer s H E hr ds hl => match ds, hl with
  | [a_lot], _ => (dss_ret (DL.de (dl_lc (own := [("pip", 1)]) rfl sc_odd_in.nd (DF.di (df_seq (de_gtup T.g_PIPS))) (blkOk_by (by first | (show blkC N_odd_in (defScope st_odd_in) _ _ = true; decide +kernel) | rfl)) (fun _ _ _ _ _ => (dg_name (i := 1) sc_odd_in.nd rfl (by first | exact .inl rfl | exact .inr rfl) rfl (by decide))) (fun _ _ _ _ _ c1 => (dts_one (dt_cmp (op_eqD (hu64 hr)) eq_ok (DE.rd (de_op op_mod mod_ok (DE.rd (de_call (ok_ends_at T) (hr.mono (by first | decide | omega)) rfl T.m_ends_at T.F_ends_at.kp T.B_ends_at passesE0 (da_cons (de_var (i := 0) rfl (pv 0)) (da_cons (de_var (i := 1) rfl (pv 1)) da_nil)))) (DE.rd de_int))) (DE.rd de_int) rfl))) (fun _ _ _ _ _ c1 => (de_var (i := 1) rfl (pv 1))))))
theorem ok_pieces_in (T : Tx P w K mg base) : FnOk P w K mg base (L2.CX P w) 2 T.f_pieces_in T.fd_pieces_in ["lot"] (spD T.C K 1 fun ds => (m_pieces_in ds).fin) :=
  fn_D (ρ' := fun (z : Empty) => z.elim) T.F_pieces_in sc_pieces_in (by decide) fun A outer s H E hr ds hl => match ds, hl with
  | [a_lot], _ => (dss_par (i := 1) (j := 2) rfl sc_pieces_in.nd rfl rfl (by decide) rfl rfl rfl (fun _ => rfl) (DE.dv (DL.de (dl_lc (own := [("pip", 3)]) rfl sc_pieces_in.nd (DF.di (df_seq (de_gtup T.g_PIPS))) (blkOk_by (by first | (show blkC N_pieces_in (defScope st_pieces_in) _ _ = true; decide +kernel) | rfl)) (fun _ _ _ _ _ => (dg_name (i := 3) sc_pieces_in.nd rfl (by first | exact .inl rfl | exact .inr rfl) rfl (by decide))) (fun _ _ _ _ _ c1 => (dts_one (dt_cmp (op_ord .gt (hu65 hr)) (ord_ok .gt) (DE.rd (de_call (ok_ends_at T) (hr.mono (by first | decide | omega)) rfl T.m_ends_at T.F_ends_at.kp T.B_ends_at passesE0 (da_cons (de_var (i := 0) rfl (pv 0)) (da_cons (de_var (i := 3) rfl (pv 3)) da_nil)))) (DE.rd de_int) rfl))) (fun _ _ _ _ _ c1 => (de_var (i := 3) rfl (pv 3)))))) (DL.dv (dl_lst da_nil)) (fun left2 found3 => (dss_while (ρl := (fun (c4 : List PyData × PyData) => [some (.val a_lot), some (.val c4.2), some (.own c4.1), none, none, none, none, none])) 1000 (found3, left2) ⟨.inr rfl, ⟨.inr rfl, ⟨.inr rfl, ⟨.inl rfl, ⟨.inl rfl, ⟨.inl rfl, ⟨.inl rfl, ⟨.inl rfl, trivial⟩⟩⟩⟩⟩⟩⟩⟩ (passes_of rfl) (fun c4 => (dt_cmp (op_ord .gt (hu65 hr)) (ord_ok .gt) (DE.rd (de_callB call_len len_ok rfl T.n_len bt_len (dar_cons (DE.rd (de_var (i := 1) rfl (pv 1))) dar_nil))) (DE.rd de_int) rfl)) (fun c4 => (dss_parT (i := 4) (j := 5) rfl sc_pieces_in.nd rfl rfl (.inr rfl) (.inl rfl) rfl (fun _ => rfl) (DL.dv (dl_lst (da_cons (de_at (DE.rd (de_var (i := 1) rfl (pv 1))) (DE.rd de_int)) da_nil))) (DE.dv de_int) (fun group5 at6 => (dss_while (ρl := (fun (c7 : List PyData × PyData) => [some (.val a_lot), some (.val c4.2), some (.own c4.1), none, some (.own c7.1), some (.val c7.2), none, none])) 1000 (group5, at6) ⟨.inr rfl, ⟨.inr rfl, ⟨.inr rfl, ⟨.inl rfl, ⟨.inr rfl, ⟨.inr rfl, ⟨.inl rfl, ⟨.inl rfl, trivial⟩⟩⟩⟩⟩⟩⟩⟩ (passes_of rfl) (fun c7 => (dt_cmp (op_ord .lt (hu65 hr)) (ord_ok .lt) (DE.rd (de_var (i := 5) rfl (pv 5))) (DE.rd (de_callB call_len len_ok rfl T.n_len bt_len (dar_cons (dr_own (i := 4) rfl (pv 4)) dar_nil))) rfl)) (fun c7 => (dss_for (ρl := (fun (c8 : List PyData) => [some (.val a_lot), some (.val c4.2), some (.own c4.1), none, some (.own c8), some (.val c7.2), none, none])) c7.1 ⟨.inr rfl, ⟨.inr rfl, ⟨.inr rfl, ⟨.inl rfl, ⟨.inr rfl, ⟨.inr rfl, ⟨.inl rfl, ⟨.inl rfl, trivial⟩⟩⟩⟩⟩⟩⟩⟩ (passes_of rfl) rfl ((df_seq (de_var (i := 0) rfl (pv 0)))) (fun c8 => (dgs_name (i := 6) sc_pieces_in.nd rfl (.inl rfl) rfl)) (fun c8 p9 => (dss_if (ρ1 := (fun (c10 : List PyData) => [some (.val a_lot), some (.val c4.2), some (.own c4.1), none, some (.own c10), some (.val c7.2), some (.val p9), none])) (dt_cmp (op_inB (hu65 hr)) in_ok (DE.rd (de_at (dr_own (i := 4) rfl (pv 4)) (DE.rd (de_var (i := 5) rfl (pv 5))))) (DE.rd (de_var (i := 6) rfl (pv 6))) rfl) (dss_ext (i := 4) rfl rfl (pv 4) (DL.de (dl_lc (own := [("own", 7)]) rfl sc_pieces_in.nd (DF.di (df_seq (de_var (i := 6) rfl (pv 6)))) (blkOk_by (by first | (show blkC N_pieces_in (defScope st_pieces_in) _ _ = true; decide +kernel) | rfl)) (fun _ _ _ _ _ => (dg_name (i := 7) sc_pieces_in.nd rfl (by first | exact .inl rfl | exact .inr rfl) rfl (by decide))) (fun _ _ _ _ _ c11 => (dts_one (dt_cmp (op_notInB (hu65 hr)) nin_ok (DE.rd (de_var (i := 7) rfl (pv 7))) (dr_own (i := 4) rfl (pv 4)) rfl))) (fun _ _ _ _ _ c11 => (de_var (i := 7) rfl (pv 7))))) (fun es12 => (dss_nil (c8 ++ es12) ⟨.inr rfl, ⟨.inr rfl, ⟨.inr rfl, ⟨.inl rfl, ⟨.inr rfl, ⟨.inr rfl, ⟨.inr rfl, ⟨.inl rfl, trivial⟩⟩⟩⟩⟩⟩⟩⟩)) (fun h1 h2 => pe_bm PySem.F.plainAttrs_list PySem.F.slot_list_extend PySem.F.type_list_extend mt_extL h1 h2)) (dss_nil c8 ⟨.inr rfl, ⟨.inr rfl, ⟨.inr rfl, ⟨.inl rfl, ⟨.inr rfl, ⟨.inr rfl, ⟨.inr rfl, ⟨.inl rfl, trivial⟩⟩⟩⟩⟩⟩⟩⟩) (fun c10 => (dss_nil c10 ⟨.inr rfl, ⟨.inr rfl, ⟨.inr rfl, ⟨.inl rfl, ⟨.inr rfl, ⟨.inr rfl, ⟨.inl rfl, ⟨.inl rfl, trivial⟩⟩⟩⟩⟩⟩⟩⟩)))) (fun c8 => (dss_augI (i := 5) sc_pieces_in.nd rfl (.inl rfl) rfl ip_add de_int (fun at13 => (dss_nil (c8, at13) ⟨.inr rfl, ⟨.inr rfl, ⟨.inr rfl, ⟨.inl rfl, ⟨.inr rfl, ⟨.inr rfl, ⟨.inl rfl, ⟨.inl rfl, trivial⟩⟩⟩⟩⟩⟩⟩⟩)))))) (fun c7 => (dss_app (i := 2) rfl rfl (pv 2) (de_callTy call_tupleX tuple_ok rfl T.n_tuple bt_tuple (dar_cons (DL.rd (dl_sortset rfl (hu65 hr) rfl rfl rfl T.n_sorted bt_sorted rfl T.n_set bt_set (dr_own (i := 4) rfl (pv 4)))) dar_nil)) (fun d14 => (dss_setLc (i := 1) (own := [("own", 7)]) sc_pieces_in.nd rfl rfl rfl rfl (DF.di (df_seq (de_var (i := 1) rfl (pv 1)))) (blkOk_by (by first | (show blkC N_pieces_in (defScope st_pieces_in) _ _ = true; decide +kernel) | rfl)) (fun _ _ _ _ _ => (dg_name (i := 7) sc_pieces_in.nd rfl (by first | exact .inl rfl | exact .inr rfl) rfl (by decide))) (fun _ _ _ _ _ c16 => (dts_one (dt_cmp (op_notInB (hu65 hr)) nin_ok (DE.rd (de_var (i := 7) rfl (pv 7))) (dr_own (i := 4) rfl (pv 4)) rfl))) (fun _ _ _ _ _ c16 => (de_var (i := 7) rfl (pv 7))) (fun left15 => (dss_frz (i := 1) rfl (dss_nil ((c4.1 ++ [d14]), (PyData.list left15)) ⟨.inr rfl, ⟨.inr rfl, ⟨.inr rfl, ⟨.inl rfl, ⟨.inl rfl, ⟨.inl rfl, ⟨.inl rfl, ⟨.inl rfl, trivial⟩⟩⟩⟩⟩⟩⟩⟩))))) (fun h1 h2 => pe_bm PySem.F.plainAttrs_list PySem.F.slot_list_append PySem.F.type_list_append mt_append h1 h2))))))) (fun c4 => (dss_frz (i := 2) rfl (dss_ret (de_var (i := 2) rfl (pv 2))))))) (by rfl))
theorem ok_bones_of (T : Tx P w K mg base) : FnOk P w K mg base (L2.CX P w) 1 T.f_bones_of T.fd_bones_of ["lot", "piece"] (spD T.C K 2 fun ds => (m_bones_of ds).fin) :=
  fn_D (ρ' := fun (z : Empty) => z.elim) T.F_bones_of sc_bones_of (by decide) fun A outer s H E hr ds hl => match ds, hl with
  | [a_lot, a_piece], _ => (dss_ret (de_callTy call_tupleX tuple_ok rfl T.n_tuple bt_tuple (dar_cons (DL.rd (dl_lc (own := [("bone", 2)]) rfl sc_bones_of.nd (DF.di (df_seq (de_var (i := 0) rfl (pv 0)))) (blkOk_by (by first | (show blkC N_bones_of (defScope st_bones_of) _ _ = true; decide +kernel) | rfl)) (fun _ _ _ _ _ => (dg_name (i := 2) sc_bones_of.nd rfl (by first | exact .inl rfl | exact .inr rfl) rfl (by decide))) (fun _ _ _ _ _ c1 => (dts_one (dt_cmp (op_inB (hu65 hr)) in_ok (DE.rd (de_at (DE.rd (de_var (i := 2) rfl (pv 2))) (DE.rd de_int))) (DE.rd (de_var (i := 1) rfl (pv 1))) rfl))) (fun _ _ _ _ _ c1 => (de_var (i := 2) rfl (pv 2))))) dar_nil)))
theorem ok_without_bone (T : Tx P w K mg base) : FnOk P w K mg base (L2.CX P w) 1 T.f_without_bone T.fd_without_bone ["lot", "bone"] (spD T.C K 2 fun ds => (m_without_bone ds).fin) :=
  fn_D (ρ' := fun (z : Empty) => z.elim) T.F_without_bone sc_without_bone (by decide) fun A outer s H E hr ds hl => match ds, hl with
  | [a_lot, a_bone], _ => (dss_set (i := 2) sc_without_bone.nd rfl (.inl rfl) rfl (DE.dv (de_idx rfl (hu65 hr) (DE.rd (de_var (i := 0) rfl (pv 0))) (de_var (i := 1) rfl (pv 1)))) (fun place1 => (dss_ret (de_op op_addA addA_ok (DE.rd (de_slice (DE.rd (de_var (i := 0) rfl (pv 0))) do_none (do_some (DE.rd (de_var (i := 2) rfl (pv 2)))))) (DE.rd (de_slice (DE.rd (de_var (i := 0) rfl (pv 0))) (do_some (DE.rd (de_op op_addA addA_ok (DE.rd (de_var (i := 2) rfl (pv 2))) (DE.rd de_int)))) do_none))))))
theorem ok_is_arrow (T : Tx P w K mg base) : FnOk P w K mg base (L2.CX P w) 6 T.f_is_arrow T.fd_is_arrow ["value"] (spD T.C K 1 fun ds => (m_is_arrow ds).fin) :=
  fn_D (ρ' := fun (z : Empty) => z.elim) T.F_is_arrow sc_is_arrow (by decide) fun A outer s H E hr ds hl => match ds, hl with
  | [a_value], _ => (dss_ret (DB.de (db_and (db_isi rfl T.n_isinstance bt_isinstance rfl T.n_tuple bt_tuple (by decide +kernel) (DE.rd (de_var (i := 0) rfl (pv 0)))) (db_and (db_cmp (op_eqD (hu64 hr)) eq_ok (DE.rd (de_callB call_len len_ok rfl T.n_len bt_len (dar_cons (DE.rd (de_var (i := 0) rfl (pv 0))) dar_nil))) (DE.rd de_int) rfl) (db_one (db_all (own := [("own", 1)]) rfl sc_is_arrow.nd (k := 2) (hr.mono (by first | decide | omega)) rfl T.n_all T.TB_is_arrow rfl (gnS_by (by first | (show gnB N_is_arrow (defScope st_is_arrow) _ _ = true; decide +kernel) | rfl)) T.tS_is_arrow T.tL_is_arrow (DF.di (df_seq (de_var (i := 0) rfl (pv 0)))) (fun _ _ _ _ _ _ => (dg_name (i := 1) sc_is_arrow.nd rfl (by first | exact .inl rfl | exact .inr rfl) rfl (by decide))) (fun _ _ _ _ _ hrc1 c1 => (db_of (DE.rd (de_call (ok_is_pip T) (hrc1.mono (by first | decide | omega)) rfl T.m_is_pip T.F_is_pip.kp T.B_is_pip passesE0 (da_cons (de_var (i := 1) rfl (pv 1)) da_nil)))))))))))
theorem ok_are_arrows (T : Tx P w K mg base) : FnOk P w K mg base (L2.CX P w) 10 T.f_are_arrows T.fd_are_arrows ["value"] (spD T.C K 1 fun ds => (m_are_arrows ds).fin) :=
  fn_D (ρ' := fun (z : Empty) => z.elim) T.F_are_arrows sc_are_arrows (by decide) fun A outer s H E hr ds hl => match ds, hl with
  | [a_value], _ => (dss_ifr (ρ1 := fun z => z.elim) (DW.dt (dw_or (dt_not (dt_of (db_isi rfl T.n_isinstance bt_isinstance rfl T.n_tuple bt_tuple (by decide +kernel) (DE.rd (de_var (i := 0) rfl (pv 0)))))) (dw_or (dt_cmp (op_ord .gt (hu65 hr)) (ord_ok .gt) (DE.rd (de_callB call_len len_ok rfl T.n_len bt_len (dar_cons (DE.rd (de_var (i := 0) rfl (pv 0))) dar_nil))) (DE.rd (de_gint T.g_MOST_BONES)) rfl) (dw_or1 (dt_not (dt_of (db_all (own := [("own", 1)]) rfl sc_are_arrows.nd (k := 6) (hr.mono (by first | decide | omega)) rfl T.n_all T.TB_are_arrows rfl (gnS_by (by first | (show gnB N_are_arrows (defScope st_are_arrows) _ _ = true; decide +kernel) | rfl)) T.tS_are_arrows T.tL_are_arrows (DF.di (df_seq (de_var (i := 0) rfl (pv 0)))) (fun _ _ _ _ _ _ => (dg_name (i := 1) sc_are_arrows.nd rfl (by first | exact .inl rfl | exact .inr rfl) rfl (by decide))) (fun _ _ _ _ _ hrc1 c1 => (db_of (DE.rd (de_call (ok_is_arrow T) (hrc1.mono (by first | decide | omega)) rfl T.m_is_arrow T.F_is_arrow.kp T.B_is_arrow passesE0 (da_cons (de_var (i := 1) rfl (pv 1)) da_nil)))))))))))) (dss_ret (DB.de db_const)) (dss_ret (DB.de (db_all (own := [("one", 2), ("other", 3)]) rfl sc_are_arrows.nd (k := 6) (hr.mono (by first | decide | omega)) rfl T.n_all T.TB_are_arrows rfl (gnS_by (by first | (show gnB N_are_arrows (defScope st_are_arrows) _ _ = true; decide +kernel) | rfl)) T.tS_are_arrows T.tL_are_arrows (DF.di (df_zip rfl T.n_zip (da_cons (de_var (i := 0) rfl (pv 0)) (da_cons (de_slice (DE.rd (de_var (i := 0) rfl (pv 0))) (do_some (DE.rd de_int)) do_none) da_nil)))) (fun _ _ _ _ _ _ => (dg_2 (i := 2) (j := 3) (K := K) rfl rfl sc_are_arrows.nd rfl (by first | exact .inl rfl | exact .inr rfl) rfl (by first | exact .inl rfl | exact .inr rfl) rfl (fun _ => rfl) (by decide) (by decide))) (fun _ _ _ _ _ hrc2 c2 => (db_cmp (op_ord .le (hu65 hrc2)) (ord_ok .le) (DE.rd (de_var (i := 2) rfl (pv 2))) (DE.rd (de_var (i := 3) rfl (pv 3))) rfl))))))
theorem ok_away (T : Tx P w K mg base) : FnOk P w K mg base (L2.CX P w) 1 T.f_away T.fd_away ["arrows", "pip"] (spD T.C K 2 fun ds => (m_away ds).fin) :=
  fn_D (ρ' := fun (z : Empty) => z.elim) T.F_away sc_away (by decide) fun A outer s H E hr ds hl => match ds, hl with
  | [a_arrows, a_pip], _ => (dss_ret (de_callB call_len len_ok rfl T.n_len bt_len (dar_cons (DL.rd (dl_lc (own := [("own", 2)]) rfl sc_away.nd (DF.di (df_seq (de_var (i := 0) rfl (pv 0)))) (blkOk_by (by first | (show blkC N_away (defScope st_away) _ _ = true; decide +kernel) | rfl)) (fun _ _ _ _ _ => (dg_name (i := 2) sc_away.nd rfl (by first | exact .inl rfl | exact .inr rfl) rfl (by decide))) (fun _ _ _ _ _ c1 => (dts_one (dt_cmp (op_eqD (hu64 hr)) eq_ok (DE.rd (de_at (DE.rd (de_var (i := 2) rfl (pv 2))) (DE.rd de_int))) (DE.rd (de_var (i := 1) rfl (pv 1))) rfl))) (fun _ _ _ _ _ c1 => (de_var (i := 2) rfl (pv 2))))) dar_nil)))
theorem ok_toward (T : Tx P w K mg base) : FnOk P w K mg base (L2.CX P w) 1 T.f_toward T.fd_toward ["arrows", "pip"] (spD T.C K 2 fun ds => (m_toward ds).fin) :=
  fn_D (ρ' := fun (z : Empty) => z.elim) T.F_toward sc_toward (by decide) fun A outer s H E hr ds hl => match ds, hl with
  | [a_arrows, a_pip], _ => (dss_ret (de_callB call_len len_ok rfl T.n_len bt_len (dar_cons (DL.rd (dl_lc (own := [("own", 2)]) rfl sc_toward.nd (DF.di (df_seq (de_var (i := 0) rfl (pv 0)))) (blkOk_by (by first | (show blkC N_toward (defScope st_toward) _ _ = true; decide +kernel) | rfl)) (fun _ _ _ _ _ => (dg_name (i := 2) sc_toward.nd rfl (by first | exact .inl rfl | exact .inr rfl) rfl (by decide))) (fun _ _ _ _ _ c1 => (dts_one (dt_cmp (op_eqD (hu64 hr)) eq_ok (DE.rd (de_at (DE.rd (de_var (i := 2) rfl (pv 2))) (DE.rd de_int))) (DE.rd (de_var (i := 1) rfl (pv 1))) rfl))) (fun _ _ _ _ _ c1 => (de_var (i := 2) rfl (pv 2))))) dar_nil)))
theorem ok_can_go_on (T : Tx P w K mg base) : FnOk P w K mg base (L2.CX P w) 3 T.f_can_go_on T.fd_can_go_on ["left", "pip"] (spD T.C K 2 fun ds => (m_can_go_on ds).fin) :=
  fn_D (ρ' := fun (z : Empty) => z.elim) T.F_can_go_on sc_can_go_on (by decide) fun A outer s H E hr ds hl => match ds, hl with
  | [a_left, a_pip], _ => (dss_ifr (ρ1 := fun z => z.elim) (dt_cmp (op_eqD (hu64 hr)) eq_ok (DE.rd (de_callB call_len len_ok rfl T.n_len bt_len (dar_cons (DE.rd (de_var (i := 0) rfl (pv 0))) dar_nil))) (DE.rd de_int) rfl) (dss_ret (DB.de db_const)) (dss_par (i := 2) (j := 3) rfl sc_can_go_on.nd rfl rfl (by decide) rfl rfl rfl (fun _ => rfl) (DE.dv (de_call (ok_pieces_in T) (hr.mono (by first | decide | omega)) rfl T.m_pieces_in T.F_pieces_in.kp T.B_pieces_in (passes_call (takes_of rfl rfl rfl rfl) fun _ _ _ _ h => h) (da_cons (de_var (i := 0) rfl (pv 0)) da_nil))) (DE.dv (de_call (ok_odd_in T) (hr.mono (by first | decide | omega)) rfl T.m_odd_in T.F_odd_in.kp T.B_odd_in (passes_call (takes_of rfl rfl rfl rfl) fun _ _ _ _ h => h) (da_cons (de_var (i := 0) rfl (pv 0)) da_nil))) (fun groups1 odd2 => (dss_ifr (ρ1 := fun z => z.elim) (DW.dt (dw_or (dt_cmp (op_ord .gt (hu65 hr)) (ord_ok .gt) (DE.rd (de_callB call_len len_ok rfl T.n_len bt_len (dar_cons (DE.rd (de_var (i := 2) rfl (pv 2))) dar_nil))) (DE.rd de_int) rfl) (dw_or1 (dt_cmp (op_notInB (hu65 hr)) nin_ok (DE.rd (de_var (i := 1) rfl (pv 1))) (DE.rd (de_at (DE.rd (de_var (i := 2) rfl (pv 2))) (DE.rd de_int))) rfl)))) (dss_ret (DB.de db_const)) (dss_ret (DB.de (db_or (db_cmp (op_eqD (hu64 hr)) eq_ok (DE.rd (de_callB call_len len_ok rfl T.n_len bt_len (dar_cons (DE.rd (de_var (i := 3) rfl (pv 3))) dar_nil))) (DE.rd de_int) rfl) (db_one (db_and (db_cmp (op_eqD (hu64 hr)) eq_ok (DE.rd (de_callB call_len len_ok rfl T.n_len bt_len (dar_cons (DE.rd (de_var (i := 3) rfl (pv 3))) dar_nil))) (DE.rd de_int) rfl) (db_one (db_cmp (op_inB (hu65 hr)) in_ok (DE.rd (de_var (i := 1) rfl (pv 1))) (DE.rd (de_var (i := 3) rfl (pv 3))) rfl))))))))) (by rfl)))
theorem ok_laid_from (T : Tx P w K mg base) : FnOk P w K mg base (L2.CX P w) 1 T.f_laid_from T.fd_laid_from ["left", "pip"] (spD T.C K 2 fun ds => (m_laid_from ds).fin) :=
  fn_D (ρ' := fun (z : Empty) => z.elim) T.F_laid_from sc_laid_from (by decide) fun A outer s H E hr ds hl => match ds, hl with
  | [a_left, a_pip], _ => (dss_set (i := 2) sc_laid_from.nd rfl (.inl rfl) rfl dv_xnew (fun found1 => (dss_for (ρl := (fun (c2 : List (PyData × PyData)) => [some (.val a_left), some (.val a_pip), some (.obj (dctR P w c2)), none, none])) found1 ⟨.inr rfl, ⟨.inr rfl, ⟨.inr rfl, ⟨.inl rfl, ⟨.inl rfl, trivial⟩⟩⟩⟩⟩ (passes_of rfl) rfl ((df_seq (de_var (i := 0) rfl (pv 0)))) (fun c2 => (dgs_2 (i := 3) (j := 4) (K := K) rfl rfl sc_laid_from.nd rfl (.inl rfl) rfl (.inl rfl) rfl (fun _ => rfl))) (fun c2 p3 => (dss_if (ρ1 := (fun (c4 : List (PyData × PyData)) => [some (.val a_left), some (.val a_pip), some (.obj (dctR P w c4)), some (.val p3.1), some (.val p3.2)])) (dt_cmp (op_eqD (hu64 hr)) eq_ok (DE.rd (de_var (i := 3) rfl (pv 3))) (DE.rd (de_var (i := 1) rfl (pv 1))) rfl) (dss_xput (i := 2) (hu65 hr) rfl (pv 2) (de_tup (da_cons (de_var (i := 3) rfl (pv 3)) (da_cons (de_var (i := 4) rfl (pv 4)) da_nil))) (DB.de db_const) (fun k5 v6 => (dss_nil (dPut c2 k5 v6) ⟨.inr rfl, ⟨.inr rfl, ⟨.inr rfl, ⟨.inr rfl, ⟨.inr rfl, trivial⟩⟩⟩⟩⟩))) (dss_nil c2 ⟨.inr rfl, ⟨.inr rfl, ⟨.inr rfl, ⟨.inr rfl, ⟨.inr rfl, trivial⟩⟩⟩⟩⟩) (fun c4 => (dss_if (ρ1 := (fun (c7 : List (PyData × PyData)) => [some (.val a_left), some (.val a_pip), some (.obj (dctR P w c7)), some (.val p3.1), some (.val p3.2)])) (dt_cmp (op_eqD (hu64 hr)) eq_ok (DE.rd (de_var (i := 4) rfl (pv 4))) (DE.rd (de_var (i := 1) rfl (pv 1))) rfl) (dss_xput (i := 2) (hu65 hr) rfl (pv 2) (de_tup (da_cons (de_var (i := 4) rfl (pv 4)) (da_cons (de_var (i := 3) rfl (pv 3)) da_nil))) (DB.de db_const) (fun k8 v9 => (dss_nil (dPut c4 k8 v9) ⟨.inr rfl, ⟨.inr rfl, ⟨.inr rfl, ⟨.inr rfl, ⟨.inr rfl, trivial⟩⟩⟩⟩⟩))) (dss_nil c4 ⟨.inr rfl, ⟨.inr rfl, ⟨.inr rfl, ⟨.inr rfl, ⟨.inr rfl, trivial⟩⟩⟩⟩⟩) (fun c7 => (dss_nil c7 ⟨.inr rfl, ⟨.inr rfl, ⟨.inr rfl, ⟨.inl rfl, ⟨.inl rfl, trivial⟩⟩⟩⟩⟩)))))) (fun c2 => (dss_ret (DL.de (dl_xsorted (i := 2) rfl (hu65 hr) rfl T.n_sorted bt_sorted rfl (.inl rfl) (pv 2))))))))
theorem ok_first_laid (T : Tx P w K mg base) : FnOk P w K mg base (L2.CX P w) 1 T.f_first_laid T.fd_first_laid ["lot"] (spD T.C K 1 fun ds => (m_first_laid ds).fin) :=
  fn_D (ρ' := fun (z : Empty) => z.elim) T.F_first_laid sc_first_laid (by decide) fun A outer s H E hr ds hl => match ds, hl with
  | [a_lot], _ => (dss_set (i := 1) sc_first_laid.nd rfl (.inl rfl) rfl dv_xnew (fun found1 => (dss_for (ρl := (fun (c2 : List (PyData × PyData)) => [some (.val a_lot), some (.obj (dctR P w c2)), none, none])) found1 ⟨.inr rfl, ⟨.inr rfl, ⟨.inl rfl, ⟨.inl rfl, trivial⟩⟩⟩⟩ (passes_of rfl) rfl ((df_seq (de_var (i := 0) rfl (pv 0)))) (fun c2 => (dgs_2 (i := 2) (j := 3) (K := K) rfl rfl sc_first_laid.nd rfl (.inl rfl) rfl (.inl rfl) rfl (fun _ => rfl))) (fun c2 p3 => (dss_xput (i := 1) (hu65 hr) rfl (pv 1) (de_tup (da_cons (de_var (i := 2) rfl (pv 2)) (da_cons (de_var (i := 3) rfl (pv 3)) da_nil))) (DB.de db_const) (fun k4 v5 => (dss_xput (i := 1) (hu65 hr) rfl (pv 1) (de_tup (da_cons (de_var (i := 3) rfl (pv 3)) (da_cons (de_var (i := 2) rfl (pv 2)) da_nil))) (DB.de db_const) (fun k6 v7 => (dss_nil (dPut (dPut c2 k4 v5) k6 v7) ⟨.inr rfl, ⟨.inr rfl, ⟨.inl rfl, ⟨.inl rfl, trivial⟩⟩⟩⟩)))))) (fun c2 => (dss_ret (DL.de (dl_xsorted (i := 1) rfl (hu65 hr) rfl T.n_sorted bt_sorted rfl (.inl rfl) (pv 1))))))))
theorem ok_row_behind (T : Tx P w K mg base) : FnOk P w K mg base (L2.CX P w) 4 T.f_row_behind T.fd_row_behind ["left", "pip"] (spD T.C K 2 fun ds => (m_row_behind ds).fin) :=
  fn_D (ρ' := fun (z : Empty) => z.elim) T.F_row_behind sc_row_behind (by decide) fun A outer s H E hr ds hl => match ds, hl with
  | [a_left, a_pip], _ => (dss_set (i := 2) sc_row_behind.nd rfl (.inl rfl) rfl (DE.dv (de_tup da_nil)) (fun found1 => (dss_while (ρl := (fun (c2 : PyData × PyData × PyData) => [some (.val c2.2.1), some (.val c2.2.2), some (.val c2.1), none, none])) 1000 (found1, a_left, a_pip) ⟨.inr rfl, ⟨.inr rfl, ⟨.inr rfl, ⟨.inl rfl, ⟨.inl rfl, trivial⟩⟩⟩⟩⟩ (passes_of rfl) (fun c2 => (dt_cmp (op_ord .gt (hu65 hr)) (ord_ok .gt) (DE.rd (de_callB call_len len_ok rfl T.n_len bt_len (dar_cons (DE.rd (de_var (i := 0) rfl (pv 0))) dar_nil))) (DE.rd de_int) rfl)) (fun c2 => (dss_set (i := 3) sc_row_behind.nd rfl (.inl rfl) rfl (DL.dv (dl_lst da_nil)) (fun ways3 => (dss_for (ρl := (fun (c4 : List PyData) => [some (.val c2.2.1), some (.val c2.2.2), some (.val c2.1), some (.own c4), none])) ways3 ⟨.inr rfl, ⟨.inr rfl, ⟨.inr rfl, ⟨.inr rfl, ⟨.inl rfl, trivial⟩⟩⟩⟩⟩ (passes_of rfl) rfl ((df_seq (de_call (ok_laid_from T) (hr.mono (by first | decide | omega)) rfl T.m_laid_from T.F_laid_from.kp T.B_laid_from (passes_call (takes_of rfl rfl rfl rfl) fun _ _ _ _ h => h) (da_cons (de_var (i := 0) rfl (pv 0)) (da_cons (de_var (i := 1) rfl (pv 1)) da_nil))))) (fun c4 => (dgs_name (i := 4) sc_row_behind.nd rfl (.inl rfl) rfl)) (fun c4 p5 => (dss_if (ρ1 := (fun (c6 : List PyData) => [some (.val c2.2.1), some (.val c2.2.2), some (.val c2.1), some (.own c6), some (.val p5)])) (dt_truth (DE.rd (de_call (ok_can_go_on T) (hr.mono (by first | decide | omega)) rfl T.m_can_go_on T.F_can_go_on.kp T.B_can_go_on (passes_call (takes_of rfl rfl rfl rfl) fun _ _ _ _ h => h) (da_cons (de_call (ok_without_bone T) (hr.mono (by first | decide | omega)) rfl T.m_without_bone T.F_without_bone.kp T.B_without_bone (passes_call (takes_of rfl rfl rfl rfl) fun _ _ _ _ h => h) (da_cons (de_var (i := 0) rfl (pv 0)) (da_cons (de_call (ok_bone_of T) (hr.mono (by first | decide | omega)) rfl T.m_bone_of T.F_bone_of.kp T.B_bone_of (passes_call (takes_of rfl rfl rfl rfl) fun _ _ _ _ h => h) (da_cons (de_at (DE.rd (de_var (i := 4) rfl (pv 4))) (DE.rd de_int)) (da_cons (de_at (DE.rd (de_var (i := 4) rfl (pv 4))) (DE.rd de_int)) da_nil))) da_nil))) (da_cons (de_at (DE.rd (de_var (i := 4) rfl (pv 4))) (DE.rd de_int)) da_nil))))) (dss_app (i := 3) rfl rfl (pv 3) (de_var (i := 4) rfl (pv 4)) (fun d7 => (dss_nil (c4 ++ [d7]) ⟨.inr rfl, ⟨.inr rfl, ⟨.inr rfl, ⟨.inr rfl, ⟨.inr rfl, trivial⟩⟩⟩⟩⟩)) (fun h1 h2 => pe_bm PySem.F.plainAttrs_list PySem.F.slot_list_append PySem.F.type_list_append mt_append h1 h2)) (dss_nil c4 ⟨.inr rfl, ⟨.inr rfl, ⟨.inr rfl, ⟨.inr rfl, ⟨.inr rfl, trivial⟩⟩⟩⟩⟩) (fun c6 => (dss_nil c6 ⟨.inr rfl, ⟨.inr rfl, ⟨.inr rfl, ⟨.inr rfl, ⟨.inl rfl, trivial⟩⟩⟩⟩⟩)))) (fun c4 => (dss_ifr (ρ1 := fun z => z.elim) (dt_cmp (op_eqD (hu64 hr)) eq_ok (DE.rd (de_callB call_len len_ok rfl T.n_len bt_len (dar_cons (dr_own (i := 3) rfl (pv 3)) dar_nil))) (DE.rd de_int) rfl) (dss_ret de_none) (dss_set (i := 2) sc_row_behind.nd rfl (.inl rfl) rfl (DE.dv (de_op op_addA addA_ok (DE.rd (de_var (i := 2) rfl (pv 2))) (DE.rd (de_tup (da_cons (de_at (dr_own (i := 3) rfl (pv 3)) (DE.rd de_int)) da_nil))))) (fun found8 => (dss_par (i := 0) (j := 1) rfl sc_row_behind.nd rfl rfl (by decide) rfl rfl rfl (fun _ => rfl) (DE.dv (de_call (ok_without_bone T) (hr.mono (by first | decide | omega)) rfl T.m_without_bone T.F_without_bone.kp T.B_without_bone (passes_call (takes_of rfl rfl rfl rfl) fun _ _ _ _ h => h) (da_cons (de_var (i := 0) rfl (pv 0)) (da_cons (de_call (ok_bone_of T) (hr.mono (by first | decide | omega)) rfl T.m_bone_of T.F_bone_of.kp T.B_bone_of (passes_call (takes_of rfl rfl rfl rfl) fun _ _ _ _ h => h) (da_cons (de_at (DE.rd (de_at (dr_own (i := 3) rfl (pv 3)) (DE.rd de_int))) (DE.rd de_int)) (da_cons (de_at (DE.rd (de_at (dr_own (i := 3) rfl (pv 3)) (DE.rd de_int))) (DE.rd de_int)) da_nil))) da_nil)))) (DE.dv (de_at (DE.rd (de_at (dr_own (i := 3) rfl (pv 3)) (DE.rd de_int))) (DE.rd de_int))) (fun left9 pip10 => (dss_nil (found8, left9, pip10) ⟨.inr rfl, ⟨.inr rfl, ⟨.inr rfl, ⟨.inl rfl, ⟨.inl rfl, trivial⟩⟩⟩⟩⟩)) (by rfl)))))))))) (fun c2 => (dss_ret (de_var (i := 2) rfl (pv 2)))))))
theorem ok_first_row_in (T : Tx P w K mg base) : FnOk P w K mg base (L2.CX P w) 5 T.f_first_row_in T.fd_first_row_in ["lot"] (spD T.C K 1 fun ds => (m_first_row_in ds).fin) :=
  fn_D (ρ' := fun (z : Empty) => z.elim) T.F_first_row_in sc_first_row_in (by decide) fun A outer s H E hr ds hl => match ds, hl with
  | [a_lot], _ => (dss_ifr (ρ1 := fun z => z.elim) (dt_cmp (op_eqD (hu64 hr)) eq_ok (DE.rd (de_callB call_len len_ok rfl T.n_len bt_len (dar_cons (DE.rd (de_var (i := 0) rfl (pv 0))) dar_nil))) (DE.rd de_int) rfl) (dss_ret (de_tup da_nil)) (dss_for (ρl := (fun (c1 : Unit) => [some (.val a_lot), none, none])) () ⟨.inr rfl, ⟨.inl rfl, ⟨.inl rfl, trivial⟩⟩⟩ (passes_of rfl) rfl ((df_seq (de_call (ok_first_laid T) (hr.mono (by first | decide | omega)) rfl T.m_first_laid T.F_first_laid.kp T.B_first_laid (passes_call (takes_of rfl rfl rfl rfl) fun _ _ _ _ h => h) (da_cons (de_var (i := 0) rfl (pv 0)) da_nil)))) (fun c1 => (dgs_name (i := 1) sc_first_row_in.nd rfl (.inl rfl) rfl)) (fun c1 p2 => (dss_set (i := 2) sc_first_row_in.nd rfl (.inl rfl) rfl (DE.dv (de_call (ok_without_bone T) (hr.mono (by first | decide | omega)) rfl T.m_without_bone T.F_without_bone.kp T.B_without_bone (passes_call (takes_of rfl rfl rfl rfl) fun _ _ _ _ h => h) (da_cons (de_var (i := 0) rfl (pv 0)) (da_cons (de_call (ok_bone_of T) (hr.mono (by first | decide | omega)) rfl T.m_bone_of T.F_bone_of.kp T.B_bone_of (passes_call (takes_of rfl rfl rfl rfl) fun _ _ _ _ h => h) (da_cons (de_at (DE.rd (de_var (i := 1) rfl (pv 1))) (DE.rd de_int)) (da_cons (de_at (DE.rd (de_var (i := 1) rfl (pv 1))) (DE.rd de_int)) da_nil))) da_nil)))) (fun rest3 => (dss_ifr (ρ1 := fun z => z.elim) (dt_truth (DE.rd (de_call (ok_can_go_on T) (hr.mono (by first | decide | omega)) rfl T.m_can_go_on T.F_can_go_on.kp T.B_can_go_on (passes_call (takes_of rfl rfl rfl rfl) fun _ _ _ _ h => h) (da_cons (de_var (i := 2) rfl (pv 2)) (da_cons (de_at (DE.rd (de_var (i := 1) rfl (pv 1))) (DE.rd de_int)) da_nil))))) (dss_ret (de_op op_addA addA_ok (DE.rd (de_tup (da_cons (de_var (i := 1) rfl (pv 1)) da_nil))) (DE.rd (de_call (ok_row_behind T) (hr.mono (by first | decide | omega)) rfl T.m_row_behind T.F_row_behind.kp T.B_row_behind (passes_call (takes_of rfl rfl rfl rfl) fun _ _ _ _ h => h) (da_cons (de_var (i := 2) rfl (pv 2)) (da_cons (de_at (DE.rd (de_var (i := 1) rfl (pv 1))) (DE.rd de_int)) da_nil)))))) (dss_nil () ⟨.inr rfl, ⟨.inl rfl, ⟨.inl rfl, trivial⟩⟩⟩))))) (fun c1 => (dss_ret de_none))))
theorem ok_lays (T : Tx P w K mg base) : FnOk P w K mg base (L2.CX P w) 1 T.f_lays T.fd_lays ["lot"] (spD T.C K 1 fun ds => (m_lays ds).fin) :=
  fn_D (ρ' := fun (z : Empty) => z.elim) T.F_lays sc_lays (by decide) fun A outer s H E hr ds hl => match ds, hl with
  | [a_lot], _ => (dss_set (i := 1) sc_lays.nd rfl (.inl rfl) rfl (dv_xdisp (hu65 hr) (de_tup da_nil) (DB.de db_const)) (fun found1 => (dss_frzF (i := 1) rfl (dss_for (ρl := (fun (c2 : List (PyData × PyData)) => [some (.val a_lot), some (.fob (dctR P w c2)), none, none, none, none])) found1 ⟨.inr rfl, ⟨.inr rfl, ⟨.inl rfl, ⟨.inl rfl, ⟨.inl rfl, ⟨.inl rfl, trivial⟩⟩⟩⟩⟩⟩ (passes_of rfl) rfl ((df_seq (de_var (i := 0) rfl (pv 0)))) (fun c2 => (dgs_2 (i := 2) (j := 3) (K := K) rfl rfl sc_lays.nd rfl (.inl rfl) rfl (.inl rfl) rfl (fun _ => rfl))) (fun c2 p3 => (dss_set (i := 4) sc_lays.nd rfl (.inl rfl) rfl dv_xnew (fun later4 => (dss_for (ρl := (fun (c5 : List (PyData × PyData)) => [some (.val a_lot), some (.fob (dctR P w c2)), some (.val p3.1), some (.val p3.2), some (.obj (dctR P w c5)), none])) later4 ⟨.inr rfl, ⟨.inr rfl, ⟨.inr rfl, ⟨.inr rfl, ⟨.inr rfl, ⟨.inl rfl, trivial⟩⟩⟩⟩⟩⟩ (passes_of rfl) rfl ((df_x (i := 1) rfl (pv 1))) (fun c5 => (dgs_name (i := 5) sc_lays.nd rfl (.inl rfl) rfl)) (fun c5 p6 => (dss_xput (i := 4) (hu65 hr) rfl (pv 4) (de_callTy call_tupleX tuple_ok rfl T.n_tuple bt_tuple (dar_cons (DL.rd (dl_callB (cr_sortD (hu65 hr)) sort_ok rfl T.n_sorted bt_sorted (dar_cons (DE.rd (de_op op_addA addA_ok (DE.rd (de_var (i := 5) rfl (pv 5))) (DE.rd (de_tup (da_cons (de_tup (da_cons (de_var (i := 2) rfl (pv 2)) (da_cons (de_var (i := 3) rfl (pv 3)) da_nil))) da_nil))))) dar_nil))) dar_nil)) (DB.de db_const) (fun k7 v8 => (dss_xput (i := 4) (hu65 hr) rfl (pv 4) (de_callTy call_tupleX tuple_ok rfl T.n_tuple bt_tuple (dar_cons (DL.rd (dl_callB (cr_sortD (hu65 hr)) sort_ok rfl T.n_sorted bt_sorted (dar_cons (DE.rd (de_op op_addA addA_ok (DE.rd (de_var (i := 5) rfl (pv 5))) (DE.rd (de_tup (da_cons (de_tup (da_cons (de_var (i := 3) rfl (pv 3)) (da_cons (de_var (i := 2) rfl (pv 2)) da_nil))) da_nil))))) dar_nil))) dar_nil)) (DB.de db_const) (fun k9 v10 => (dss_nil (dPut (dPut c5 k7 v8) k9 v10) ⟨.inr rfl, ⟨.inr rfl, ⟨.inr rfl, ⟨.inr rfl, ⟨.inr rfl, ⟨.inl rfl, trivial⟩⟩⟩⟩⟩⟩)))))) (fun c5 => (dss_frzF (i := 4) rfl (dss_set (i := 1) sc_lays.nd rfl (.inl rfl) rfl (dv_fob (j := 4) rfl (pv 4)) (fun _ => (dss_nil c5 ⟨.inr rfl, ⟨.inr rfl, ⟨.inl rfl, ⟨.inl rfl, ⟨.inl rfl, ⟨.inl rfl, trivial⟩⟩⟩⟩⟩⟩))))))))) (fun c2 => (dss_ret (DL.de (dl_xsorted (i := 1) rfl (hu65 hr) rfl T.n_sorted bt_sorted rfl (.inr rfl) (pv 1)))))))))
theorem ok_is_lay_of (T : Tx P w K mg base) : FnOk P w K mg base (L2.CX P w) 11 T.f_is_lay_of T.fd_is_lay_of ["lot", "value"] (spD T.C K 2 fun ds => (m_is_lay_of ds).fin) :=
  fn_D (ρ' := fun (z : Empty) => z.elim) T.F_is_lay_of sc_is_lay_of (by decide) fun A outer s H E hr ds hl => match ds, hl with
  | [a_lot, a_value], _ => (dss_ret (DB.de (db_and (db_of (DE.rd (de_call (ok_are_arrows T) (hr.mono (by first | decide | omega)) rfl T.m_are_arrows T.F_are_arrows.kp T.B_are_arrows (passes_call (takes_of rfl rfl rfl rfl) fun _ _ _ _ h => h) (da_cons (de_var (i := 1) rfl (pv 1)) da_nil)))) (db_one (db_cmp (op_eqD (hu64 hr)) eq_ok (DE.rd (de_callTy call_tupleX tuple_ok rfl T.n_tuple bt_tuple (dar_cons (DL.rd (dl_callB (cr_sortD (hu65 hr)) sort_ok rfl T.n_sorted bt_sorted (dar_cons (DL.rd (dl_lc (own := [("one", 2), ("other", 3)]) rfl sc_is_lay_of.nd (DF.di (df_seq (de_var (i := 1) rfl (pv 1)))) (blkOk_by (by first | (show blkC N_is_lay_of (defScope st_is_lay_of) _ _ = true; decide +kernel) | rfl)) (fun _ _ _ _ _ => (dg_2 (i := 2) (j := 3) (K := K) rfl rfl sc_is_lay_of.nd rfl (by first | exact .inl rfl | exact .inr rfl) rfl (by first | exact .inl rfl | exact .inr rfl) rfl (fun _ => rfl) (by decide) (by decide))) (fun _ _ _ _ _ c1 => dts_nil) (fun _ _ _ _ _ c1 => (de_call (ok_bone_of T) (hr.mono (by first | decide | omega)) rfl T.m_bone_of T.F_bone_of.kp T.B_bone_of passesE0 (da_cons (de_var (i := 2) rfl (pv 2)) (da_cons (de_var (i := 3) rfl (pv 3)) da_nil)))))) dar_nil))) dar_nil))) (DE.rd (de_var (i := 0) rfl (pv 0))) rfl)))))
theorem ok_is_lay (T : Tx P w K mg base) : FnOk P w K mg base (L2.CX P w) 12 T.f_is_lay T.fd_is_lay ["lot", "value"] (spD T.C K 2 fun ds => (m_is_lay ds).fin) :=
  fn_D (ρ' := fun (z : Empty) => z.elim) T.F_is_lay sc_is_lay (by decide) fun A outer s H E hr ds hl => match ds, hl with
  | [a_lot, a_value], _ => (dss_expr (DE.rd (de_call (ok_check_lot T) (hr.mono (by first | decide | omega)) rfl T.m_check_lot T.F_check_lot.kp T.B_check_lot (passes_call (takes_of rfl rfl rfl rfl) fun _ _ _ _ h => h) (da_cons (de_var (i := 0) rfl (pv 0)) da_nil))) (dss_ret (de_call (ok_is_lay_of T) (hr.mono (by first | decide | omega)) rfl T.m_is_lay_of T.F_is_lay_of.kp T.B_is_lay_of (passes_call (takes_of rfl rfl rfl rfl) fun _ _ _ _ h => h) (da_cons (de_var (i := 0) rfl (pv 0)) (da_cons (de_var (i := 1) rfl (pv 1)) da_nil)))))
theorem ok_is_balanced_of (T : Tx P w K mg base) : FnOk P w K mg base (L2.CX P w) 5 T.f_is_balanced_of T.fd_is_balanced_of ["value"] (spD T.C K 1 fun ds => (m_is_balanced_of ds).fin) :=
  fn_D (ρ' := fun (z : Empty) => z.elim) T.F_is_balanced_of sc_is_balanced_of (by decide) fun A outer s H E hr ds hl => match ds, hl with
  | [a_value], _ => (dss_ret (DB.de (db_all (own := [("pip", 1)]) rfl sc_is_balanced_of.nd (k := 1) (hr.mono (by first | decide | omega)) rfl T.n_all T.TB_is_balanced_of rfl (gnS_by (by first | (show gnB N_is_balanced_of (defScope st_is_balanced_of) _ _ = true; decide +kernel) | rfl)) T.tS_is_balanced_of T.tL_is_balanced_of (DF.di (df_seq (de_gtup T.g_PIPS))) (fun _ _ _ _ _ _ => (dg_name (i := 1) sc_is_balanced_of.nd rfl (by first | exact .inl rfl | exact .inr rfl) rfl (by decide))) (fun _ _ _ _ _ hrc1 c1 => (db_cmp (op_eqD (hu64 hrc1)) eq_ok (DE.rd (de_call (ok_away T) (hrc1.mono (by first | decide | omega)) rfl T.m_away T.F_away.kp T.B_away passesE0 (da_cons (de_var (i := 0) rfl (pv 0)) (da_cons (de_var (i := 1) rfl (pv 1)) da_nil)))) (DE.rd (de_call (ok_toward T) (hrc1.mono (by first | decide | omega)) rfl T.m_toward T.F_toward.kp T.B_toward passesE0 (da_cons (de_var (i := 0) rfl (pv 0)) (da_cons (de_var (i := 1) rfl (pv 1)) da_nil)))) rfl)))))
theorem ok_is_balanced (T : Tx P w K mg base) : FnOk P w K mg base (L2.CX P w) 12 T.f_is_balanced T.fd_is_balanced ["lot", "value"] (spD T.C K 2 fun ds => (m_is_balanced ds).fin) :=
  fn_D (ρ' := fun (z : Empty) => z.elim) T.F_is_balanced sc_is_balanced (by decide) fun A outer s H E hr ds hl => match ds, hl with
  | [a_lot, a_value], _ => (dss_expr (DE.rd (de_call (ok_check_lot T) (hr.mono (by first | decide | omega)) rfl T.m_check_lot T.F_check_lot.kp T.B_check_lot (passes_call (takes_of rfl rfl rfl rfl) fun _ _ _ _ h => h) (da_cons (de_var (i := 0) rfl (pv 0)) da_nil))) (dss_ret (DB.de (db_and (db_of (DE.rd (de_call (ok_is_lay_of T) (hr.mono (by first | decide | omega)) rfl T.m_is_lay_of T.F_is_lay_of.kp T.B_is_lay_of (passes_call (takes_of rfl rfl rfl rfl) fun _ _ _ _ h => h) (da_cons (de_var (i := 0) rfl (pv 0)) (da_cons (de_var (i := 1) rfl (pv 1)) da_nil))))) (db_one (db_of (DE.rd (de_call (ok_is_balanced_of T) (hr.mono (by first | decide | omega)) rfl T.m_is_balanced_of T.F_is_balanced_of.kp T.B_is_balanced_of (passes_call (takes_of rfl rfl rfl rfl) fun _ _ _ _ h => h) (da_cons (de_var (i := 1) rfl (pv 1)) da_nil)))))))))
theorem ok_balanced (T : Tx P w K mg base) : FnOk P w K mg base (L2.CX P w) 12 T.f_balanced T.fd_balanced ["lot"] (spD T.C K 1 fun ds => (m_balanced ds).fin) :=
  fn_D (ρ' := fun (z : Empty) => z.elim) T.F_balanced sc_balanced (by decide) fun A outer s H E hr ds hl => match ds, hl with
  | [a_lot], _ => (dss_expr (DE.rd (de_call (ok_check_lot T) (hr.mono (by first | decide | omega)) rfl T.m_check_lot T.F_check_lot.kp T.B_check_lot (passes_call (takes_of rfl rfl rfl rfl) fun _ _ _ _ h => h) (da_cons (de_var (i := 0) rfl (pv 0)) da_nil))) (dss_ifr (ρ1 := fun z => z.elim) (dt_cmp (op_ord .gt (hu65 hr)) (ord_ok .gt) (DE.rd (de_callB call_len len_ok rfl T.n_len bt_len (dar_cons (DE.rd (de_call (ok_odd_in T) (hr.mono (by first | decide | omega)) rfl T.m_odd_in T.F_odd_in.kp T.B_odd_in (passes_call (takes_of rfl rfl rfl rfl) fun _ _ _ _ h => h) (da_cons (de_var (i := 0) rfl (pv 0)) da_nil))) dar_nil))) (DE.rd de_int) rfl) (dss_ret de_none) (dss_set (i := 1) sc_balanced.nd rfl (.inl rfl) rfl (DE.dv (de_tup da_nil)) (fun found1 => (dss_for (ρl := (fun (c2 : PyData) => [some (.val a_lot), some (.val c2), none])) found1 ⟨.inr rfl, ⟨.inr rfl, ⟨.inl rfl, trivial⟩⟩⟩ (passes_of rfl) rfl ((df_seq (de_call (ok_pieces_in T) (hr.mono (by first | decide | omega)) rfl T.m_pieces_in T.F_pieces_in.kp T.B_pieces_in (passes_call (takes_of rfl rfl rfl rfl) fun _ _ _ _ h => h) (da_cons (de_var (i := 0) rfl (pv 0)) da_nil)))) (fun c2 => (dgs_name (i := 2) sc_balanced.nd rfl (.inl rfl) rfl)) (fun c2 p3 => (dss_set (i := 1) sc_balanced.nd rfl (.inl rfl) rfl (DE.dv (de_op op_addA addA_ok (DE.rd (de_var (i := 1) rfl (pv 1))) (DE.rd (de_call (ok_first_row_in T) (hr.mono (by first | decide | omega)) rfl T.m_first_row_in T.F_first_row_in.kp T.B_first_row_in (passes_call (takes_of rfl rfl rfl rfl) fun _ _ _ _ h => h) (da_cons (de_call (ok_bones_of T) (hr.mono (by first | decide | omega)) rfl T.m_bones_of T.F_bones_of.kp T.B_bones_of (passes_call (takes_of rfl rfl rfl rfl) fun _ _ _ _ h => h) (da_cons (de_var (i := 0) rfl (pv 0)) (da_cons (de_var (i := 2) rfl (pv 2)) da_nil))) da_nil))))) (fun found4 => (dss_nil found4 ⟨.inr rfl, ⟨.inr rfl, ⟨.inl rfl, trivial⟩⟩⟩)))) (fun c2 => (dss_ret (de_callTy call_tupleX tuple_ok rfl T.n_tuple bt_tuple (dar_cons (DL.rd (dl_callB (cr_sortD (hu65 hr)) sort_ok rfl T.n_sorted bt_sorted (dar_cons (DE.rd (de_var (i := 1) rfl (pv 1))) dar_nil))) dar_nil)))))))))
theorem ok_count_balanced (T : Tx P w K mg base) : FnOk P w K mg base (L2.CX P w) 12 T.f_count_balanced T.fd_count_balanced ["lot"] (spD T.C K 1 fun ds => (m_count_balanced ds).fin) :=
  fn_D (ρ' := fun (z : Empty) => z.elim) T.F_count_balanced sc_count_balanced (by decide) fun A outer s H E hr ds hl => match ds, hl with
  | [a_lot], _ => (dss_expr (DE.rd (de_call (ok_check_lot T) (hr.mono (by first | decide | omega)) rfl T.m_check_lot T.F_check_lot.kp T.B_check_lot (passes_call (takes_of rfl rfl rfl rfl) fun _ _ _ _ h => h) (da_cons (de_var (i := 0) rfl (pv 0)) da_nil))) (dss_ret (de_callB call_len len_ok rfl T.n_len bt_len (dar_cons (DL.rd (dl_lc (own := [("own", 1)]) rfl sc_count_balanced.nd (DF.di (df_seq (de_call (ok_lays T) (hr.mono (by first | decide | omega)) rfl T.m_lays T.F_lays.kp T.B_lays (passes_call (takes_of rfl rfl rfl rfl) fun _ _ _ _ h => h) (da_cons (de_var (i := 0) rfl (pv 0)) da_nil)))) (blkOk_by (by first | (show blkC N_count_balanced (defScope st_count_balanced) _ _ = true; decide +kernel) | rfl)) (fun _ _ _ _ _ => (dg_name (i := 1) sc_count_balanced.nd rfl (by first | exact .inl rfl | exact .inr rfl) rfl (by decide))) (fun _ _ _ _ _ c1 => (dts_one (dt_truth (DE.rd (de_call (ok_is_balanced_of T) (hr.mono (by first | decide | omega)) rfl T.m_is_balanced_of T.F_is_balanced_of.kp T.B_is_balanced_of passesE0 (da_cons (de_var (i := 1) rfl (pv 1)) da_nil)))))) (fun _ _ _ _ _ c1 => (de_var (i := 1) rfl (pv 1))))) dar_nil))))
theorem ok_leaning_pips (T : Tx P w K mg base) : FnOk P w K mg base (L2.CX P w) 12 T.f_leaning_pips T.fd_leaning_pips ["lot", "value"] (spD T.C K 2 fun ds => (m_leaning_pips ds).fin) :=
  fn_D (ρ' := fun (z : Empty) => z.elim) T.F_leaning_pips sc_leaning_pips (by decide) fun A outer s H E hr ds hl => match ds, hl with
  | [a_lot, a_value], _ => (dss_expr (DE.rd (de_call (ok_check T) (hr.mono (by first | decide | omega)) rfl T.m_check T.F_check.kp T.B_check (passes_call (takes_of rfl rfl rfl rfl) fun _ _ _ _ h => h) (da_cons (de_call (ok_is_lot T) (hr.mono (by first | decide | omega)) rfl T.m_is_lot T.F_is_lot.kp T.B_is_lot (passes_call (takes_of rfl rfl rfl rfl) fun _ _ _ _ h => h) (da_cons (de_var (i := 0) rfl (pv 0)) da_nil)) (da_cons de_str da_nil)))) (dss_expr (DE.rd (de_call (ok_check T) (hr.mono (by first | decide | omega)) rfl T.m_check T.F_check.kp T.B_check (passes_call (takes_of rfl rfl rfl rfl) fun _ _ _ _ h => h) (da_cons (de_call (ok_is_lay_of T) (hr.mono (by first | decide | omega)) rfl T.m_is_lay_of T.F_is_lay_of.kp T.B_is_lay_of (passes_call (takes_of rfl rfl rfl rfl) fun _ _ _ _ h => h) (da_cons (de_var (i := 0) rfl (pv 0)) (da_cons (de_var (i := 1) rfl (pv 1)) da_nil))) (da_cons de_str da_nil)))) (dss_ret (de_callTy call_tupleX tuple_ok rfl T.n_tuple bt_tuple (dar_cons (DL.rd (dl_lc (own := [("pip", 2)]) rfl sc_leaning_pips.nd (DF.di (df_seq (de_gtup T.g_PIPS))) (blkOk_by (by first | (show blkC N_leaning_pips (defScope st_leaning_pips) _ _ = true; decide +kernel) | rfl)) (fun _ _ _ _ _ => (dg_name (i := 2) sc_leaning_pips.nd rfl (by first | exact .inl rfl | exact .inr rfl) rfl (by decide))) (fun _ _ _ _ _ c1 => (dts_one (dt_cmp (op_neD (hu64 hr)) ne_ok (DE.rd (de_call (ok_away T) (hr.mono (by first | decide | omega)) rfl T.m_away T.F_away.kp T.B_away passesE0 (da_cons (de_var (i := 1) rfl (pv 1)) (da_cons (de_var (i := 2) rfl (pv 2)) da_nil)))) (DE.rd (de_call (ok_toward T) (hr.mono (by first | decide | omega)) rfl T.m_toward T.F_toward.kp T.B_toward passesE0 (da_cons (de_var (i := 1) rfl (pv 1)) (da_cons (de_var (i := 2) rfl (pv 2)) da_nil)))) rfl))) (fun _ _ _ _ _ c1 => (de_var (i := 2) rfl (pv 2))))) dar_nil)))))
theorem ok__law_bone (T : Tx P w K mg base) : FnOk P w K mg base (L2.CX P w) 1 T.f__law_bone T.fd__law_bone ["one", "other"] (spD T.C K 2 fun ds => (m__law_bone ds).fin) :=
  fn_D (ρ' := fun (z : Empty) => z.elim) T.F__law_bone sc__law_bone (by decide) fun A outer s H E hr ds hl => match ds, hl with
  | [a_one, a_other], _ => (dss_ret (de_tup (da_cons (de_callB (call_min2 rfl) min2_ok rfl T.n_min bt_min (dar_cons (DE.rd (de_var (i := 0) rfl (pv 0))) (dar_cons (DE.rd (de_var (i := 1) rfl (pv 1))) dar_nil))) (da_cons (de_callB (call_max2 rfl) max2_ok rfl T.n_max bt_max (dar_cons (DE.rd (de_var (i := 0) rfl (pv 0))) (dar_cons (DE.rd (de_var (i := 1) rfl (pv 1))) dar_nil))) da_nil))))
theorem ok__law_lot (T : Tx P w K mg base) : FnOk P w K mg base (L2.CX P w) 2 T.f__law_lot T.fd__law_lot ["row", "most", "pips"] (spR T.C K 3 fun ds => (m__law_lot ds).fin) :=
  fn_R (ρ' := fun (z : Empty) => z.elim) T.F__law_lot sc__law_lot (by decide) fun A outer s H E hr ds hl => match ds, hl with
  | [a_most, a_pips], _ => (dss_par3 (i := 3) (j := 4) (l := 5) rfl sc__law_lot.nd rfl rfl rfl (by decide) (by decide) (by decide) rfl rfl rfl rfl (fun _ => rfl) (fun _ _ => rfl) (DE.dv (de_callR (i := 0) (ok__law_taken T) (hr.mono (by first | decide | omega)) rfl T.m__law_taken T.F__law_taken.kp T.B__law_taken (passes_call (takes_of rfl rfl rfl rfl) fun _ _ _ _ h => h) rfl (pv 0) (da_cons (de_op op_addA addA_ok (DE.rd (de_var (i := 1) rfl (pv 1))) (DE.rd de_int)) da_nil))) (DE.dv (de_callR (i := 0) (ok__law_taken T) (hr.mono (by first | decide | omega)) rfl T.m__law_taken T.F__law_taken.kp T.B__law_taken (passes_call (takes_of rfl rfl rfl rfl) fun _ _ _ _ h => h) rfl (pv 0) (da_cons (de_var (i := 2) rfl (pv 2)) da_nil))) (DE.dv (DL.de (dl_lst da_nil))) (fun many1 end2 found3 => (dss_set (i := 6) sc__law_lot.nd rfl (.inl rfl) rfl (DE.dv (DB.de (db_cmp (op_eqD (hu64 hr)) eq_ok (DE.rd (de_callR (i := 0) (ok__law_taken T) (hr.mono (by first | decide | omega)) rfl T.m__law_taken T.F__law_taken.kp T.B__law_taken (passes_call (takes_of rfl rfl rfl rfl) fun _ _ _ _ h => h) rfl (pv 0) (da_cons de_int da_nil))) (DE.rd de_int) rfl))) (fun loose4 => (dss_for (ρl := (fun (c5 : PyData × PyData) => [some .drw, some (.val a_most), some (.val a_pips), some (.val many1), some (.val c5.1), some (.val c5.2), some (.val loose4), none, none])) (end2, found3) ⟨.inr rfl, ⟨.inr rfl, ⟨.inr rfl, ⟨.inr rfl, ⟨.inr rfl, ⟨.inr rfl, ⟨.inr rfl, ⟨.inl rfl, ⟨.inl rfl, trivial⟩⟩⟩⟩⟩⟩⟩⟩⟩ (passes_of rfl) rfl ((df_range1 rfl T.n_range (dar_cons (DE.rd (de_var (i := 3) rfl (pv 3))) dar_nil))) (fun c5 => (dgs_name (i := 7) sc__law_lot.nd rfl (.inl rfl) rfl)) (fun c5 p6 => (dss_set (i := 8) sc__law_lot.nd rfl (.inl rfl) rfl (DE.dv (de_if (dt_truth (DE.rd (de_var (i := 6) rfl (pv 6)))) (de_callR (i := 0) (ok__law_taken T) (hr.mono (by first | decide | omega)) rfl T.m__law_taken T.F__law_taken.kp T.B__law_taken (passes_call (takes_of rfl rfl rfl rfl) fun _ _ _ _ h => h) rfl (pv 0) (da_cons (de_var (i := 2) rfl (pv 2)) da_nil)) (de_var (i := 4) rfl (pv 4)))) (fun one7 => (dss_set (i := 4) sc__law_lot.nd rfl (.inl rfl) rfl (DE.dv (de_callR (i := 0) (ok__law_taken T) (hr.mono (by first | decide | omega)) rfl T.m__law_taken T.F__law_taken.kp T.B__law_taken (passes_call (takes_of rfl rfl rfl rfl) fun _ _ _ _ h => h) rfl (pv 0) (da_cons (de_var (i := 2) rfl (pv 2)) da_nil))) (fun end8 => (dss_set (i := 5) sc__law_lot.nd rfl (.inl rfl) rfl (DE.dv (de_op op_addA addA_ok (DE.rd (de_var (i := 5) rfl (pv 5))) (DL.rd (dl_lst (da_cons (de_call (ok__law_bone T) (hr.mono (by first | decide | omega)) rfl T.m__law_bone T.F__law_bone.kp T.B__law_bone (passes_call (takes_of rfl rfl rfl rfl) fun _ _ _ _ h => h) (da_cons (de_var (i := 8) rfl (pv 8)) (da_cons (de_var (i := 4) rfl (pv 4)) da_nil))) da_nil))))) (fun found9 => (dss_nil (end8, found9) ⟨.inr rfl, ⟨.inr rfl, ⟨.inr rfl, ⟨.inr rfl, ⟨.inr rfl, ⟨.inr rfl, ⟨.inr rfl, ⟨.inl rfl, ⟨.inl rfl, trivial⟩⟩⟩⟩⟩⟩⟩⟩⟩)))))))) (fun c5 => (dss_ret (de_callTy call_tupleX tuple_ok rfl T.n_tuple bt_tuple (dar_cons (DL.rd (dl_callB (cr_sortD (hu65 hr)) sort_ok rfl T.n_sorted bt_sorted (dar_cons (DE.rd (de_var (i := 5) rfl (pv 5))) dar_nil))) dar_nil)))))))) (by rfl))
theorem ok__law_pick (T : Tx P w K mg base) : FnOk P w K mg base (L2.CX P w) 2 T.f__law_pick T.fd__law_pick ["row", "some"] (spR T.C K 2 fun ds => (m__law_pick ds).fin) :=
  fn_R (ρ' := fun (z : Empty) => z.elim) T.F__law_pick sc__law_pick (by decide) fun A outer s H E hr ds hl => match ds, hl with
  | [a_some], _ => (dss_ret (de_at (DE.rd (de_var (i := 1) rfl (pv 1))) (DE.rd (de_callR (i := 0) (ok__law_taken T) (hr.mono (by first | decide | omega)) rfl T.m__law_taken T.F__law_taken.kp T.B__law_taken (passes_call (takes_of rfl rfl rfl rfl) fun _ _ _ _ h => h) rfl (pv 0) (da_cons (de_callB call_len len_ok rfl T.n_len bt_len (dar_cons (DE.rd (de_var (i := 1) rfl (pv 1))) dar_nil)) da_nil)))))
theorem ok__law_lays (T : Tx P w K mg base) : FnOk P w K mg base (L2.CX P w) 1 T.f__law_lays T.fd__law_lays ["lot"] (spD T.C K 1 fun ds => (m__law_lays ds).fin) :=
  fn_D (ρ' := fun (z : Empty) => z.elim) T.F__law_lays sc__law_lays (by decide) fun A outer s H E hr ds hl => match ds, hl with
  | [a_lot], _ => (dss_set (i := 1) sc__law_lays.nd rfl (.inl rfl) rfl (DE.dv (DL.de (dl_lst (da_cons (de_tup da_nil) da_nil)))) (fun found1 => (dss_for (ρl := (fun (c2 : PyData) => [some (.val a_lot), some (.val c2), none, none])) found1 ⟨.inr rfl, ⟨.inr rfl, ⟨.inl rfl, ⟨.inl rfl, trivial⟩⟩⟩⟩ (passes_of rfl) rfl ((df_seq (de_var (i := 0) rfl (pv 0)))) (fun c2 => (dgs_name (i := 2) sc__law_lays.nd rfl (.inr rfl) rfl)) (fun c2 p3 => (dss_set (i := 1) sc__law_lays.nd rfl (.inl rfl) rfl (DE.dv (de_op op_addA addA_ok (DL.rd (dl_lc (own := [("own", 3)]) rfl sc__law_lays.nd (DF.di (df_seq (de_var (i := 1) rfl (pv 1)))) (blkOk_by (by first | (show blkC N__law_lays (defScope st__law_lays) _ _ = true; decide +kernel) | rfl)) (fun _ _ _ _ _ => (dg_name (i := 3) sc__law_lays.nd rfl (by first | exact .inl rfl | exact .inr rfl) rfl (by decide))) (fun _ _ _ _ _ c5 => dts_nil) (fun _ _ _ _ _ c5 => (de_op op_addA addA_ok (DE.rd (de_var (i := 3) rfl (pv 3))) (DE.rd (de_tup (da_cons (de_var (i := 2) rfl (pv 2)) da_nil))))))) (DL.rd (dl_lc (own := [("own", 3)]) rfl sc__law_lays.nd (DF.di (df_seq (de_var (i := 1) rfl (pv 1)))) (blkOk_by (by first | (show blkC N__law_lays (defScope st__law_lays) _ _ = true; decide +kernel) | rfl)) (fun _ _ _ _ _ => (dg_name (i := 3) sc__law_lays.nd rfl (by first | exact .inl rfl | exact .inr rfl) rfl (by decide))) (fun _ _ _ _ _ c6 => dts_nil) (fun _ _ _ _ _ c6 => (de_op op_addA addA_ok (DE.rd (de_var (i := 3) rfl (pv 3))) (DE.rd (de_tup (da_cons (de_rev (DE.rd (de_var (i := 2) rfl (pv 2)))) da_nil))))))))) (fun found4 => (dss_nil found4 ⟨.inr rfl, ⟨.inr rfl, ⟨.inl rfl, ⟨.inl rfl, trivial⟩⟩⟩⟩)))) (fun c2 => (dss_ret (DL.de (NS.dl_sortsetN rfl (hu65 hr) rfl rfl rfl T.n_sorted bt_sorted rfl T.n_set bt_set (DL.rd (dl_lc (own := [("own", 3)]) rfl sc__law_lays.nd (DF.di (df_seq (de_var (i := 1) rfl (pv 1)))) (blkOk_by (by first | (show blkC N__law_lays (defScope st__law_lays) _ _ = true; decide +kernel) | rfl)) (fun _ _ _ _ _ => (dg_name (i := 3) sc__law_lays.nd rfl (by first | exact .inl rfl | exact .inr rfl) rfl (by decide))) (fun _ _ _ _ _ c7 => dts_nil) (fun _ _ _ _ _ c7 => (de_callTy call_tupleX tuple_ok rfl T.n_tuple bt_tuple (dar_cons (DL.rd (dl_callB (cr_sortD (hu65 hr)) sort_ok rfl T.n_sorted bt_sorted (dar_cons (DE.rd (de_var (i := 3) rfl (pv 3))) dar_nil))) dar_nil))))))))))))
theorem ok__law_lean (T : Tx P w K mg base) : FnOk P w K mg base (L2.CX P w) 1 T.f__law_lean T.fd__law_lean ["arrows"] (spD T.C K 1 fun ds => (m__law_lean ds).fin) :=
  fn_D (ρ' := fun (z : Empty) => z.elim) T.F__law_lean sc__law_lean (by decide) fun A outer s H E hr ds hl => match ds, hl with
  | [a_arrows], _ => (dss_setLc (i := 1) (own := [("pip", 2)]) sc__law_lean.nd rfl rfl rfl rfl (DF.di (df_range1 rfl T.n_range (dar_cons (DE.rd de_int) dar_nil))) (blkOk_by (by first | (show blkC N__law_lean (defScope st__law_lean) _ _ = true; decide +kernel) | rfl)) (fun _ _ _ _ _ => (dg_name (i := 2) sc__law_lean.nd rfl (by first | exact .inl rfl | exact .inr rfl) rfl (by decide))) (fun _ _ _ _ _ c2 => dts_nil) (fun _ _ _ _ _ c2 => (de_tup (da_cons (de_var (i := 2) rfl (pv 2)) (da_cons (de_op op_sub sub_ok (DE.rd (de_callB call_len len_ok rfl T.n_len bt_len (dar_cons (DL.rd (dl_lc (own := [("own", 3)]) rfl sc__law_lean.nd (DF.di (df_seq (de_var (i := 0) rfl (pv 0)))) (blkOk_by (by first | (show blkC N__law_lean (defScope st__law_lean) _ _ = true; decide +kernel) | rfl)) (fun _ _ _ _ _ => (dg_name (i := 3) sc__law_lean.nd rfl (by first | exact .inl rfl | exact .inr rfl) rfl (by decide))) (fun _ _ _ _ _ c3 => (dts_one (dt_cmp (op_eqD (hu64 hr)) eq_ok (DE.rd (de_at (DE.rd (de_var (i := 3) rfl (pv 3))) (DE.rd de_int))) (DE.rd (de_var (i := 2) rfl (pv 2))) rfl))) (fun _ _ _ _ _ c3 => (de_var (i := 3) rfl (pv 3))))) dar_nil))) (DE.rd (de_callB call_len len_ok rfl T.n_len bt_len (dar_cons (DL.rd (dl_lc (own := [("own", 3)]) rfl sc__law_lean.nd (DF.di (df_seq (de_var (i := 0) rfl (pv 0)))) (blkOk_by (by first | (show blkC N__law_lean (defScope st__law_lean) _ _ = true; decide +kernel) | rfl)) (fun _ _ _ _ _ => (dg_name (i := 3) sc__law_lean.nd rfl (by first | exact .inl rfl | exact .inr rfl) rfl (by decide))) (fun _ _ _ _ _ c4 => (dts_one (dt_cmp (op_eqD (hu64 hr)) eq_ok (DE.rd (de_at (DE.rd (de_var (i := 3) rfl (pv 3))) (DE.rd de_int))) (DE.rd (de_var (i := 2) rfl (pv 2))) rfl))) (fun _ _ _ _ _ c4 => (de_var (i := 3) rfl (pv 3))))) dar_nil)))) da_nil)))) (fun pairs1 => (dss_frz (i := 1) rfl (dss_ret (DL.de (dl_lc (own := [("own", 3)]) rfl sc__law_lean.nd (DF.di (df_seq (de_var (i := 1) rfl (pv 1)))) (blkOk_by (by first | (show blkC N__law_lean (defScope st__law_lean) _ _ = true; decide +kernel) | rfl)) (fun _ _ _ _ _ => (dg_name (i := 3) sc__law_lean.nd rfl (by first | exact .inl rfl | exact .inr rfl) rfl (by decide))) (fun _ _ _ _ _ c5 => (dts_one (dt_cmp (op_neD (hu64 hr)) ne_ok (DE.rd (de_at (DE.rd (de_var (i := 3) rfl (pv 3))) (DE.rd de_int))) (DE.rd de_int) rfl))) (fun _ _ _ _ _ c5 => (de_var (i := 3) rfl (pv 3)))))))))
theorem ok__law_count (T : Tx P w K mg base) : FnOk P w K mg base (L2.CX P w) 1 T.f__law_count T.fd__law_count ["lot", "pip"] (spD T.C K 2 fun ds => (m__law_count ds).fin) :=
  fn_D (ρ' := fun (z : Empty) => z.elim) T.F__law_count sc__law_count (by decide) fun A outer s H E hr ds hl => match ds, hl with
  | [a_lot, a_pip], _ => (dss_ret (de_op op_addA addA_ok (DE.rd (de_callB call_len len_ok rfl T.n_len bt_len (dar_cons (DL.rd (dl_lc (own := [("bone", 2)]) rfl sc__law_count.nd (DF.di (df_seq (de_var (i := 0) rfl (pv 0)))) (blkOk_by (by first | (show blkC N__law_count (defScope st__law_count) _ _ = true; decide +kernel) | rfl)) (fun _ _ _ _ _ => (dg_name (i := 2) sc__law_count.nd rfl (by first | exact .inl rfl | exact .inr rfl) rfl (by decide))) (fun _ _ _ _ _ c1 => (dts_one (dt_cmp (op_eqD (hu64 hr)) eq_ok (DE.rd (de_at (DE.rd (de_var (i := 2) rfl (pv 2))) (DE.rd de_int))) (DE.rd (de_var (i := 1) rfl (pv 1))) rfl))) (fun _ _ _ _ _ c1 => (de_var (i := 2) rfl (pv 2))))) dar_nil))) (DE.rd (de_callB call_len len_ok rfl T.n_len bt_len (dar_cons (DL.rd (dl_lc (own := [("bone", 2)]) rfl sc__law_count.nd (DF.di (df_seq (de_var (i := 0) rfl (pv 0)))) (blkOk_by (by first | (show blkC N__law_count (defScope st__law_count) _ _ = true; decide +kernel) | rfl)) (fun _ _ _ _ _ => (dg_name (i := 2) sc__law_count.nd rfl (by first | exact .inl rfl | exact .inr rfl) rfl (by decide))) (fun _ _ _ _ _ c2 => (dts_one (dt_cmp (op_eqD (hu64 hr)) eq_ok (DE.rd (de_at (DE.rd (de_var (i := 2) rfl (pv 2))) (DE.rd de_int))) (DE.rd (de_var (i := 1) rfl (pv 1))) rfl))) (fun _ _ _ _ _ c2 => (de_var (i := 2) rfl (pv 2))))) dar_nil)))))
theorem ok__law_odd (T : Tx P w K mg base) : FnOk P w K mg base (L2.CX P w) 2 T.f__law_odd T.fd__law_odd ["lot"] (spD T.C K 1 fun ds => (m__law_odd ds).fin) :=
  fn_D (ρ' := fun (z : Empty) => z.elim) T.F__law_odd sc__law_odd (by decide) fun A outer s H E hr ds hl => match ds, hl with
  | [a_lot], _ => (dss_ret (DL.de (dl_lc (own := [("pip", 1)]) rfl sc__law_odd.nd (DF.di (df_range1 rfl T.n_range (dar_cons (DE.rd de_int) dar_nil))) (blkOk_by (by first | (show blkC N__law_odd (defScope st__law_odd) _ _ = true; decide +kernel) | rfl)) (fun _ _ _ _ _ => (dg_name (i := 1) sc__law_odd.nd rfl (by first | exact .inl rfl | exact .inr rfl) rfl (by decide))) (fun _ _ _ _ _ c1 => (dts_one (dt_cmp (op_eqD (hu64 hr)) eq_ok (DE.rd (de_op op_mod mod_ok (DE.rd (de_call (ok__law_count T) (hr.mono (by first | decide | omega)) rfl T.m__law_count T.F__law_count.kp T.B__law_count passesE0 (da_cons (de_var (i := 0) rfl (pv 0)) (da_cons (de_var (i := 1) rfl (pv 1)) da_nil)))) (DE.rd de_int))) (DE.rd de_int) rfl))) (fun _ _ _ _ _ c1 => (de_var (i := 1) rfl (pv 1))))))
theorem ok__law_alike (T : Tx P w K mg base) : ∀ n : Nat, FnOk P w K mg base (L2.CX P w) (n + 1) T.f__law_alike T.fd__law_alike ["found", "due"] (spD T.C K 2 fun ds => (m__law_alike n ds).fin)
  | 0 => fn_D (ρ' := fun (z : Empty) => z.elim) T.F__law_alike sc__law_alike (by decide) fun A outer s H E hr ds hl => dss_stuck
  | n + 1 => fn_D (ρ' := fun (z : Empty) => z.elim) (k := n + 1) T.F__law_alike sc__law_alike (by decide) fun A outer s H E hr ds hl => match ds, hl with
    | [a_found, a_due], _ => (dss_ifr (ρ1 := fun z => z.elim) (dt_of (db_isi2 rfl T.n_isinstance bt_isinstance rfl T.n_tuple bt_tuple rfl T.n_list bt_list (by decide +kernel) (by decide +kernel) (DE.rd (de_var (i := 1) rfl (pv 1))))) (dss_ifr (ρ1 := fun z => z.elim) (DW.dt (dw_or (dt_not (dt_of (db_isi2 rfl T.n_isinstance bt_isinstance rfl T.n_tuple bt_tuple rfl T.n_list bt_list (by decide +kernel) (by decide +kernel) (DE.rd (de_var (i := 0) rfl (pv 0)))))) (dw_or1 (dt_cmp (op_neD (hu64 hr)) ne_ok (DB.rd (db_isi rfl T.n_isinstance bt_isinstance rfl T.n_list bt_list (by decide +kernel) (DE.rd (de_var (i := 0) rfl (pv 0))))) (DB.rd (db_isi rfl T.n_isinstance bt_isinstance rfl T.n_list bt_list (by decide +kernel) (DE.rd (de_var (i := 1) rfl (pv 1))))) rfl)))) (dss_ret (DB.de db_const)) (dss_ifr (ρ1 := fun z => z.elim) (dt_cmp (op_neD (hu64 hr)) ne_ok (DE.rd (de_callB call_len len_ok rfl T.n_len bt_len (dar_cons (DE.rd (de_var (i := 0) rfl (pv 0))) dar_nil))) (DE.rd (de_callB call_len len_ok rfl T.n_len bt_len (dar_cons (DE.rd (de_var (i := 1) rfl (pv 1))) dar_nil))) rfl) (dss_ret (DB.de db_const)) (dss_ret (DB.de (db_cmp (op_eqD (hu64 hr)) eq_ok (DL.rd (dl_lc (own := [("k", 2)]) rfl sc__law_alike.nd (DF.di (df_range1 rfl T.n_range (dar_cons (DE.rd (de_callB call_len len_ok rfl T.n_len bt_len (dar_cons (DE.rd (de_var (i := 1) rfl (pv 1))) dar_nil))) dar_nil))) (blkOk_by (by first | (show blkC N__law_alike (defScope st__law_alike) _ _ = true; decide +kernel) | rfl)) (fun _ _ _ _ _ => (dg_name (i := 2) sc__law_alike.nd rfl (by first | exact .inl rfl | exact .inr rfl) rfl (by decide))) (fun _ _ _ _ _ c1 => (dts_one (dt_not (dt_truth (DE.rd (de_call (ok__law_alike T n) (hr.mono (by omega)) rfl T.m__law_alike T.F__law_alike.kp T.B__law_alike passesE0 (da_cons (de_at (DE.rd (de_var (i := 0) rfl (pv 0))) (DE.rd (de_var (i := 2) rfl (pv 2)))) (da_cons (de_at (DE.rd (de_var (i := 1) rfl (pv 1))) (DE.rd (de_var (i := 2) rfl (pv 2)))) da_nil)))))))) (fun _ _ _ _ _ c1 => (de_var (i := 2) rfl (pv 2))))) (DL.rd (dl_lst da_nil)) rfl))))) (dss_ifr (ρ1 := fun z => z.elim) (dt_of (db_isi rfl T.n_isinstance bt_isinstance rfl T.n_dict bt_dict (by decide +kernel) (DE.rd (de_var (i := 1) rfl (pv 1))))) dss_stuck (dss_ifr (ρ1 := fun z => z.elim) (DW.dt (dw_or (dt_cmp op_isA is_ok (DE.rd (de_var (i := 1) rfl (pv 1))) (DE.rd de_none) rfl) (dw_or1 (dt_of (db_isi rfl T.n_isinstance bt_isinstance rfl T.n_str bt_str (by decide +kernel) (DE.rd (de_var (i := 1) rfl (pv 1)))))))) (dss_ret (DB.de (db_and (db_cmp (op_eqD (hu64 hr)) eq_ok (DE.rd (de_var (i := 0) rfl (pv 0))) (DE.rd (de_var (i := 1) rfl (pv 1))) rfl) (db_one (db_cmp (op_eqD (hu64 hr)) eq_ok (DB.rd (db_isi rfl T.n_isinstance bt_isinstance rfl T.n_str bt_str (by decide +kernel) (DE.rd (de_var (i := 0) rfl (pv 0))))) (DB.rd (db_isi rfl T.n_isinstance bt_isinstance rfl T.n_str bt_str (by decide +kernel) (DE.rd (de_var (i := 1) rfl (pv 1))))) rfl))))) (dss_ret (DB.de (db_and (db_isi rfl T.n_isinstance bt_isinstance rfl T.n_int bt_int (by decide +kernel) (DE.rd (de_var (i := 0) rfl (pv 0)))) (db_and (db_cmp (op_eqD (hu64 hr)) eq_ok (DB.rd (db_isi rfl T.n_isinstance bt_isinstance rfl T.n_bool bt_bool (by decide +kernel) (DE.rd (de_var (i := 0) rfl (pv 0))))) (DB.rd (db_isi rfl T.n_isinstance bt_isinstance rfl T.n_bool bt_bool (by decide +kernel) (DE.rd (de_var (i := 1) rfl (pv 1))))) rfl) (db_one (db_cmp (op_eqD (hu64 hr)) eq_ok (DE.rd (de_var (i := 0) rfl (pv 0))) (DE.rd (de_var (i := 1) rfl (pv 1))) rfl)))))))))
theorem ok__law_bad_lot (T : Tx P w K mg base) : FnOk P w K mg base (L2.CX P w) 3 T.f__law_bad_lot T.fd__law_bad_lot ["row"] (spR T.C K 1 fun ds => (m__law_bad_lot ds).fin) :=
  fn_R (ρ' := fun (z : Empty) => z.elim) T.F__law_bad_lot sc__law_bad_lot (by decide) fun A outer s H E hr ds hl => match ds, hl with
  | [], _ => (dss_ret (de_callR (i := 0) (ok__law_pick T) (hr.mono (by first | decide | omega)) rfl T.m__law_pick T.F__law_pick.kp T.B__law_pick (passes_call (takes_of rfl rfl rfl rfl) fun _ _ _ _ h => h) rfl (pv 0) (da_cons (DL.de (dl_lst (da_cons de_none (da_cons (DL.de (dl_lst (da_cons (de_tup (da_cons de_int (da_cons de_int da_nil))) da_nil))) (da_cons (de_tup (da_cons (de_tup (da_cons de_int (da_cons de_int da_nil))) da_nil)) (da_cons (de_tup (da_cons (de_tup (da_cons de_int (da_cons de_int da_nil))) da_nil)) (da_cons (de_tup (da_cons (de_tup (da_cons de_int (da_cons de_int da_nil))) (da_cons (de_tup (da_cons de_int (da_cons de_int da_nil))) da_nil))) (da_cons (de_tup (da_cons (de_tup (da_cons (DB.de db_const) (da_cons de_int da_nil))) da_nil)) (da_cons (de_tup (da_cons (de_tup (da_cons de_int (da_cons de_int (da_cons de_int da_nil)))) da_nil)) (da_cons de_str (da_cons (de_op op_mulA mulA_ok (DE.rd (de_tup (da_cons (de_tup (da_cons de_int (da_cons de_int da_nil))) da_nil))) (DE.rd de_int)) (da_cons (de_tup (da_cons de_int da_nil)) (da_cons (de_tup (da_cons (de_tup (da_cons (de_neg (DE.rd de_int)) (da_cons de_int da_nil))) da_nil)) da_nil))))))))))))) da_nil)))
theorem ok__law_refused (T : Tx P w K mg base) : FnOk P w K mg base (L2.CX P w) 15 T.f__law_refused T.fd__law_refused ["row", "lot"] (spR T.C K 2 fun ds => (m__law_refused ds).fin) :=
  fn_R (ρ' := fun (z : Empty) => z.elim) T.F__law_refused sc__law_refused (by decide) fun A outer s H E hr ds hl => match ds, hl with
  | [a_lot], _ => (dss_set (i := 2) sc__law_refused.nd rfl (.inr rfl) rfl (DE.dv (de_callR (i := 0) (ok__law_bad_lot T) (hr.mono (by first | decide | omega)) rfl T.m__law_bad_lot T.F__law_bad_lot.kp T.B__law_bad_lot (passes_call (takes_of rfl rfl rfl rfl) fun _ _ _ _ h => h) rfl (pv 0) da_nil)) (fun bad1 => (dss_set (i := 3) sc__law_refused.nd rfl (.inl rfl) rfl (DE.dv (DL.de (dl_lst (da_cons (de_heard (k := 12) rfl T.m__law_heard T.F__law_heard T.B__law_heard sc__law_heard rfl (.inl rfl) (fun _ => heard_gives T.hF) T.TL__law_refused rfl T.mT__law_refused T.hu__law_refused T.tLS (hr.mono (by first | decide | omega)) (LamX.lamS_by (by first | (show LamX.lamSB (defScope st__law_refused) _ = true; decide +kernel) | rfl)) rfl (fun _ _ _ _ _ => rfl) (fun _ _ _ _ _ _ _ hrl => (de_call (ok_balanced T) (hrl.mono (by first | decide | omega)) rfl T.m_balanced T.F_balanced.kp T.B_balanced (passes_call (takes_of rfl rfl rfl rfl) fun _ _ _ _ h => h) (da_cons (de_var (i := 2) rfl (pv 2)) da_nil)))) (da_cons (de_heard (k := 12) rfl T.m__law_heard T.F__law_heard T.B__law_heard sc__law_heard rfl (.inl rfl) (fun _ => heard_gives T.hF) T.TL__law_refused rfl T.mT__law_refused T.hu__law_refused T.tLS (hr.mono (by first | decide | omega)) (LamX.lamS_by (by first | (show LamX.lamSB (defScope st__law_refused) _ = true; decide +kernel) | rfl)) rfl (fun _ _ _ _ _ => rfl) (fun _ _ _ _ _ _ _ hrl => (de_call (ok_count_balanced T) (hrl.mono (by first | decide | omega)) rfl T.m_count_balanced T.F_count_balanced.kp T.B_count_balanced (passes_call (takes_of rfl rfl rfl rfl) fun _ _ _ _ h => h) (da_cons (de_var (i := 2) rfl (pv 2)) da_nil)))) (da_cons (de_heard (k := 12) rfl T.m__law_heard T.F__law_heard T.B__law_heard sc__law_heard rfl (.inl rfl) (fun _ => heard_gives T.hF) T.TL__law_refused rfl T.mT__law_refused T.hu__law_refused T.tLS (hr.mono (by first | decide | omega)) (LamX.lamS_by (by first | (show LamX.lamSB (defScope st__law_refused) _ = true; decide +kernel) | rfl)) rfl (fun _ _ _ _ _ => rfl) (fun _ _ _ _ _ _ _ hrl => (de_call (ok_is_lay T) (hrl.mono (by first | decide | omega)) rfl T.m_is_lay T.F_is_lay.kp T.B_is_lay (passes_call (takes_of rfl rfl rfl rfl) fun _ _ _ _ h => h) (da_cons (de_var (i := 2) rfl (pv 2)) (da_cons (de_tup da_nil) da_nil))))) (da_cons (de_heard (k := 12) rfl T.m__law_heard T.F__law_heard T.B__law_heard sc__law_heard rfl (.inl rfl) (fun _ => heard_gives T.hF) T.TL__law_refused rfl T.mT__law_refused T.hu__law_refused T.tLS (hr.mono (by first | decide | omega)) (LamX.lamS_by (by first | (show LamX.lamSB (defScope st__law_refused) _ = true; decide +kernel) | rfl)) rfl (fun _ _ _ _ _ => rfl) (fun _ _ _ _ _ _ _ hrl => (de_call (ok_leaning_pips T) (hrl.mono (by first | decide | omega)) rfl T.m_leaning_pips T.F_leaning_pips.kp T.B_leaning_pips (passes_call (takes_of rfl rfl rfl rfl) fun _ _ _ _ h => h) (da_cons (de_var (i := 1) rfl (pv 1)) (da_cons (de_tup (da_cons (de_tup (da_cons de_int (da_cons de_int da_nil))) da_nil)) da_nil))))) (da_cons (de_heard (k := 12) rfl T.m__law_heard T.F__law_heard T.B__law_heard sc__law_heard rfl (.inl rfl) (fun _ => heard_gives T.hF) T.TL__law_refused rfl T.mT__law_refused T.hu__law_refused T.tLS (hr.mono (by first | decide | omega)) (LamX.lamS_by (by first | (show LamX.lamSB (defScope st__law_refused) _ = true; decide +kernel) | rfl)) rfl (fun _ _ _ _ _ => rfl) (fun _ _ _ _ _ _ _ hrl => (de_call (ok_leaning_pips T) (hrl.mono (by first | decide | omega)) rfl T.m_leaning_pips T.F_leaning_pips.kp T.B_leaning_pips (passes_call (takes_of rfl rfl rfl rfl) fun _ _ _ _ h => h) (da_cons (de_var (i := 2) rfl (pv 2)) (da_cons (de_tup da_nil) da_nil))))) da_nil)))))))) (fun heard2 => (dss_ret (de_call (ok__law_alike T 7) (hr.mono (by first | decide | omega)) rfl T.m__law_alike T.F__law_alike.kp T.B__law_alike (passes_call (takes_of rfl rfl rfl rfl) fun _ _ _ _ h => h) (da_cons (de_var (i := 3) rfl (pv 3)) (da_cons (DL.de (dl_lc (own := [("own", 4)]) rfl sc__law_refused.nd (DF.di (df_seq (de_tup (da_cons de_str (da_cons de_str (da_cons de_str (da_cons de_str (da_cons de_str da_nil)))))))) (blkOk_by (by first | (show blkC N__law_refused (defScope st__law_refused) _ _ = true; decide +kernel) | rfl)) (fun _ _ _ _ _ => (dg_name (i := 4) sc__law_refused.nd rfl (by first | exact .inl rfl | exact .inr rfl) rfl (by decide))) (fun _ _ _ _ _ c3 => dts_nil) (fun _ _ _ _ _ c3 => (de_tup (da_cons de_str (da_cons (de_var (i := 4) rfl (pv 4)) (da_cons (DB.de db_const) da_nil))))))) da_nil))))))))
theorem law_rest (T : Tx P w K mg base) (A : Around) (outer : List Env) (s : Shared) (H : Hp) (E : XK) (hr : Room 15 (A.deeper (envOfC "law" (defScope st_law) s.heap.objs.size T.f_law (.ref T.c_law)))) (a_script : PyData) :
    DSs (cxOf (L2.CX P w) P w K mg base N_law "law" (defScope st_law) T.f_law (.ref T.c_law) A outer s H E) T.C E [some (.val a_script), some .drw, none, none, none, none, none, none, none, none, none, none, none] ((defBody st_law).tail) (fun (z : Empty) => z.elim) (m_law a_script) :=
  (dss_set (i := 2) sc_law.nd rfl (.inl rfl) rfl (DE.dv (de_callR (i := 1) (ok__law_lot T) (hr.mono (by first | decide | omega)) rfl T.m__law_lot T.F__law_lot.kp T.B__law_lot (passes_call (takes_of rfl rfl rfl rfl) fun _ _ _ _ h => h) rfl (pv 1) (da_cons de_int (da_cons (de_callR (i := 1) (ok__law_pick T) (hr.mono (by first | decide | omega)) rfl T.m__law_pick T.F__law_pick.kp T.B__law_pick (passes_call (takes_of rfl rfl rfl rfl) fun _ _ _ _ h => h) rfl (pv 1) (da_cons (DL.de (dl_lst (da_cons de_int (da_cons de_int (da_cons de_int da_nil))))) da_nil)) da_nil)))) (fun lot1 => (dss_set (i := 3) sc_law.nd rfl (.inl rfl) rfl (DE.dv (de_call (ok__law_lays T) (hr.mono (by first | decide | omega)) rfl T.m__law_lays T.F__law_lays.kp T.B__law_lays (passes_call (takes_of rfl rfl rfl rfl) fun _ _ _ _ h => h) (da_cons (de_var (i := 2) rfl (pv 2)) da_nil))) (fun lays_v2 => (dss_setLc (i := 4) (own := [("own", 5)]) sc_law.nd rfl rfl rfl rfl (DF.di (df_seq (de_var (i := 3) rfl (pv 3)))) (blkOk_by (by first | (show blkC N_law (defScope st_law) _ _ = true; decide +kernel) | rfl)) (fun _ _ _ _ _ => (dg_name (i := 5) sc_law.nd rfl (by first | exact .inl rfl | exact .inr rfl) rfl (by decide))) (fun _ _ _ _ _ c4 => (dts_one (dt_cmp (op_eqD (hu64 hr)) eq_ok (DE.rd (de_call (ok__law_lean T) (hr.mono (by first | decide | omega)) rfl T.m__law_lean T.F__law_lean.kp T.B__law_lean passesE0 (da_cons (de_var (i := 5) rfl (pv 5)) da_nil))) (DL.rd (dl_lst da_nil)) rfl))) (fun _ _ _ _ _ c4 => (de_var (i := 5) rfl (pv 5))) (fun even3 => (dss_frz (i := 4) rfl (dss_set (i := 6) sc_law.nd rfl (.inl rfl) rfl (DE.dv (de_call (ok_balanced T) (hr.mono (by first | decide | omega)) rfl T.m_balanced T.F_balanced.kp T.B_balanced (passes_call (takes_of rfl rfl rfl rfl) fun _ _ _ _ h => h) (da_cons (de_var (i := 2) rfl (pv 2)) da_nil))) (fun found5 => (dss_ifr (ρ1 := fun z => z.elim) (DW.dt (dw_or (dt_cmp (op_neD (hu64 hr)) ne_ok (DE.rd (de_call (ok_count_balanced T) (hr.mono (by first | decide | omega)) rfl T.m_count_balanced T.F_count_balanced.kp T.B_count_balanced (passes_call (takes_of rfl rfl rfl rfl) fun _ _ _ _ h => h) (da_cons (de_var (i := 2) rfl (pv 2)) da_nil))) (DE.rd (de_callB call_len len_ok rfl T.n_len bt_len (dar_cons (DE.rd (de_var (i := 4) rfl (pv 4))) dar_nil))) rfl) (dw_or (dt_cmp (op_neD (hu64 hr)) ne_ok (DB.rd (db_cmp op_isntA isnt_ok (DE.rd (de_var (i := 6) rfl (pv 6))) (DE.rd de_none) rfl)) (DB.rd (db_cmp (op_eqD (hu64 hr)) eq_ok (DE.rd (de_call (ok__law_odd T) (hr.mono (by first | decide | omega)) rfl T.m__law_odd T.F__law_odd.kp T.B__law_odd (passes_call (takes_of rfl rfl rfl rfl) fun _ _ _ _ h => h) (da_cons (de_var (i := 2) rfl (pv 2)) da_nil))) (DL.rd (dl_lst da_nil)) rfl)) rfl) (dw_or1 (dt_cmp (op_neD (hu64 hr)) ne_ok (DB.rd (db_cmp (op_neD (hu64 hr)) ne_ok (DE.rd (de_var (i := 4) rfl (pv 4))) (DL.rd (dl_lst da_nil)) rfl)) (DB.rd (db_cmp (op_eqD (hu64 hr)) eq_ok (DE.rd (de_call (ok__law_odd T) (hr.mono (by first | decide | omega)) rfl T.m__law_odd T.F__law_odd.kp T.B__law_odd (passes_call (takes_of rfl rfl rfl rfl) fun _ _ _ _ h => h) (da_cons (de_var (i := 2) rfl (pv 2)) da_nil))) (DL.rd (dl_lst da_nil)) rfl)) rfl))))) (dss_ret (DB.de db_const)) (dss_ifr (ρ1 := fun z => z.elim) (DW.dt (dw_and (dt_cmp op_isntA isnt_ok (DE.rd (de_var (i := 6) rfl (pv 6))) (DE.rd de_none) rfl) (dw_and1 (dt_cmp (op_notInB (hu65 hr)) nin_ok (DE.rd (de_var (i := 6) rfl (pv 6))) (DE.rd (de_var (i := 4) rfl (pv 4))) rfl)))) (dss_ret (DB.de db_const)) (dss_for (ρl := (fun (c6 : Unit) => [some (.val a_script), some .drw, some (.val lot1), some (.val lays_v2), some (.val (PyData.list even3)), none, some (.val found5), none, none, none, none, none, none])) () ⟨.inr rfl, ⟨.inr rfl, ⟨.inr rfl, ⟨.inr rfl, ⟨.inr rfl, ⟨.inl rfl, ⟨.inr rfl, ⟨.inl rfl, ⟨.inl rfl, ⟨.inl rfl, ⟨.inl rfl, ⟨.inl rfl, ⟨.inl rfl, trivial⟩⟩⟩⟩⟩⟩⟩⟩⟩⟩⟩⟩⟩ (passes_of rfl) rfl ((df_range1 rfl T.n_range (dar_cons (DE.rd de_int) dar_nil))) (fun c6 => (dgs_name (i := 7) sc_law.nd rfl (.inl rfl) rfl)) (fun c6 p7 => (dss_set (i := 5) sc_law.nd rfl (.inl rfl) rfl (DE.dv (de_callR (i := 1) (ok__law_pick T) (hr.mono (by first | decide | omega)) rfl T.m__law_pick T.F__law_pick.kp T.B__law_pick (passes_call (takes_of rfl rfl rfl rfl) fun _ _ _ _ h => h) rfl (pv 1) (da_cons (de_var (i := 3) rfl (pv 3)) da_nil))) (fun own8 => (dss_set (i := 8) sc_law.nd rfl (.inl rfl) rfl (DE.dv (de_callR (i := 1) (ok__law_pick T) (hr.mono (by first | decide | omega)) rfl T.m__law_pick T.F__law_pick.kp T.B__law_pick (passes_call (takes_of rfl rfl rfl rfl) fun _ _ _ _ h => h) rfl (pv 1) (da_cons (DL.de (dl_lst (da_cons (de_var (i := 5) rfl (pv 5)) (da_cons (de_callTy call_tupleX tuple_ok rfl T.n_tuple bt_tuple (dar_cons (DL.rd (dl_callB (cr_sortD (hu65 hr)) sort_ok rfl T.n_sorted bt_sorted (dar_cons (DE.rd (de_op op_addA addA_ok (DE.rd (de_slice (DE.rd (de_var (i := 5) rfl (pv 5))) do_none (do_some (DE.rd (de_neg (DE.rd de_int)))))) (DE.rd (de_tup (da_cons (de_tup (da_cons de_int (da_cons de_int da_nil))) da_nil))))) dar_nil))) dar_nil)) (da_cons (de_rev (DE.rd (de_var (i := 5) rfl (pv 5)))) (da_cons (de_slice (DE.rd (de_var (i := 5) rfl (pv 5))) do_none (do_some (DE.rd (de_neg (DE.rd de_int))))) (da_cons (de_op op_addA addA_ok (DE.rd (de_var (i := 5) rfl (pv 5))) (DE.rd (de_tup (da_cons (de_tup (da_cons de_int (da_cons de_int da_nil))) da_nil)))) (da_cons (DL.de (dl_callTy call_list_of list_ok rfl T.n_list bt_list (dar_cons (DE.rd (de_var (i := 5) rfl (pv 5))) dar_nil))) (da_cons (de_callTy call_tupleX tuple_ok rfl T.n_tuple bt_tuple (dar_cons (DL.rd (dl_lc (own := [("each", 10)]) rfl sc_law.nd (DF.di (df_seq (de_var (i := 5) rfl (pv 5)))) (blkOk_by (by first | (show blkC N_law (defScope st_law) _ _ = true; decide +kernel) | rfl)) (fun _ _ _ _ _ => (dg_name (i := 10) sc_law.nd rfl (by first | exact .inl rfl | exact .inr rfl) rfl (by decide))) (fun _ _ _ _ _ c10 => dts_nil) (fun _ _ _ _ _ c10 => (de_rev (DE.rd (de_var (i := 10) rfl (pv 10))))))) dar_nil)) da_nil))))))))) da_nil))) (fun bent9 => (dss_set (i := 9) sc_law.nd rfl (.inl rfl) rfl (DE.dv (DB.de (db_and (db_isi rfl T.n_isinstance bt_isinstance rfl T.n_tuple bt_tuple (by decide +kernel) (DE.rd (de_var (i := 8) rfl (pv 8)))) (db_one (db_cmp (op_inB (hu65 hr)) in_ok (DE.rd (de_var (i := 8) rfl (pv 8))) (DE.rd (de_var (i := 3) rfl (pv 3))) rfl))))) (fun due11 => (dss_ifr (ρ1 := fun z => z.elim) (DW.dt (dw_or (dt_not (dt_truth (DE.rd (de_call (ok__law_alike T 7) (hr.mono (by first | decide | omega)) rfl T.m__law_alike T.F__law_alike.kp T.B__law_alike (passes_call (takes_of rfl rfl rfl rfl) fun _ _ _ _ h => h) (da_cons (de_call (ok_is_lay T) (hr.mono (by first | decide | omega)) rfl T.m_is_lay T.F_is_lay.kp T.B_is_lay (passes_call (takes_of rfl rfl rfl rfl) fun _ _ _ _ h => h) (da_cons (de_var (i := 2) rfl (pv 2)) (da_cons (de_var (i := 8) rfl (pv 8)) da_nil))) (da_cons (de_var (i := 9) rfl (pv 9)) da_nil)))))) (dw_or1 (dt_not (dt_truth (DE.rd (de_call (ok__law_alike T 7) (hr.mono (by first | decide | omega)) rfl T.m__law_alike T.F__law_alike.kp T.B__law_alike (passes_call (takes_of rfl rfl rfl rfl) fun _ _ _ _ h => h) (da_cons (de_call (ok_is_balanced T) (hr.mono (by first | decide | omega)) rfl T.m_is_balanced T.F_is_balanced.kp T.B_is_balanced (passes_call (takes_of rfl rfl rfl rfl) fun _ _ _ _ h => h) (da_cons (de_var (i := 2) rfl (pv 2)) (da_cons (de_var (i := 8) rfl (pv 8)) da_nil))) (da_cons (DB.de (db_and (db_of (DE.rd (de_var (i := 9) rfl (pv 9)))) (db_one (db_cmp (op_inB (hu65 hr)) in_ok (DE.rd (de_var (i := 8) rfl (pv 8))) (DE.rd (de_var (i := 4) rfl (pv 4))) rfl)))) da_nil))))))))) (dss_ret (DB.de db_const)) (dss_ifr (ρ1 := fun z => z.elim) (dt_not (dt_truth (DE.rd (de_call (ok__law_alike T 7) (hr.mono (by first | decide | omega)) rfl T.m__law_alike T.F__law_alike.kp T.B__law_alike (passes_call (takes_of rfl rfl rfl rfl) fun _ _ _ _ h => h) (da_cons (de_call (ok_leaning_pips T) (hr.mono (by first | decide | omega)) rfl T.m_leaning_pips T.F_leaning_pips.kp T.B_leaning_pips (passes_call (takes_of rfl rfl rfl rfl) fun _ _ _ _ h => h) (da_cons (de_var (i := 2) rfl (pv 2)) (da_cons (de_var (i := 5) rfl (pv 5)) da_nil))) (da_cons (de_callTy call_tupleX tuple_ok rfl T.n_tuple bt_tuple (dar_cons (DL.rd (dl_lc (own := [("pip", 11), ("many", 12)]) rfl sc_law.nd (DF.di (df_seq (de_call (ok__law_lean T) (hr.mono (by first | decide | omega)) rfl T.m__law_lean T.F__law_lean.kp T.B__law_lean (passes_call (takes_of rfl rfl rfl rfl) fun _ _ _ _ h => h) (da_cons (de_var (i := 5) rfl (pv 5)) da_nil)))) (blkOk_by (by first | (show blkC N_law (defScope st_law) _ _ = true; decide +kernel) | rfl)) (fun _ _ _ _ _ => (dg_2 (i := 11) (j := 12) (K := K) rfl rfl sc_law.nd rfl (by first | exact .inl rfl | exact .inr rfl) rfl (by first | exact .inl rfl | exact .inr rfl) rfl (fun _ => rfl) (by decide) (by decide))) (fun _ _ _ _ _ c13 => dts_nil) (fun _ _ _ _ _ c13 => (de_var (i := 11) rfl (pv 11))))) dar_nil)) da_nil)))))) (dss_ret (DB.de db_const)) (dss_nil () ⟨.inr rfl, ⟨.inr rfl, ⟨.inr rfl, ⟨.inr rfl, ⟨.inr rfl, ⟨.inl rfl, ⟨.inr rfl, ⟨.inl rfl, ⟨.inl rfl, ⟨.inl rfl, ⟨.inl rfl, ⟨.inl rfl, ⟨.inl rfl, trivial⟩⟩⟩⟩⟩⟩⟩⟩⟩⟩⟩⟩⟩)))))))))) (fun c6 => (dss_ret (de_callR (i := 1) (ok__law_refused T) (hr.mono (by first | decide | omega)) rfl T.m__law_refused T.F__law_refused.kp T.B__law_refused (passes_call (takes_of rfl rfl rfl rfl) fun _ _ _ _ h => h) rfl (pv 1) (da_cons (de_var (i := 2) rfl (pv 2)) da_nil))))))))))))))))
theorem ok_law (hspec : ∀ ns : List Int, ns.length ≤ 63 → (m_law (.list (ns.map PyData.int))).run (fun fl => fl = .rt (.bool true)) (fun _ => False)) (T : Tx P w K mg base) : FnOk P w K mg base (L2.CX P w) 16 T.f_law T.fd_law ["script"] (spLaw T.C K) := by
  refine T.F_law.fn sc_law (fun vs H Q E ⟨F, a, ns, e, _⟩ => by rw [e]; rfl) fun A outer s H vs Q E hr ⟨F, a, ns, e, g, hd, hl, hq⟩ => ?_
  subst e
  refine ⟨_, pss_cons (ps_set (i := 1) sc_law.nd rfl (by first | exact .inl rfl | exact .inr rfl) (pe_lst (pa_cons (pv 0) (pa_cons pe_int (pa_cons pe_int (pa_cons pe_int pa_nil)))))) (DSs.pss (α := Unit) (f := fun _ => m_law (.list (ns.map PyData.int))) fun _ => law_rest T A outer s H E hr (.list (ns.map PyData.int))), ?_⟩
  refine ⟨_, rfl, by show 4 ≤ sizeLine; decide, fun p hp => ?_⟩
  have j0 : Jd T.C K (fun b => H b = none) F H (startR N_law [.list (ns.map PyData.int)]) (L2.start N_law [.ref a]) F H := jd_start g (.cons hd .nil) (by show 1 ≤ N_law.length; decide)
  have j1 := j0.putD (i := 1) (c := 0) (j := 82082045) (r := 0) hp hp hd ⟨by decide, by decide, by decide, by decide⟩ rfl
  refine tSS.mk () j1 (FSub.refl F) ((m_law _).mono (fun fl e => ?_) (fun _ z => z.elim) (hspec ns hl))
  subst e
  intro v F' H' x h
  cases h
  exact hq H'

end
end Lw

set_option Elab.async false
set_option linter.all false
set_option maxRecDepth 100000
set_option maxHeartbeats 2000000
/-! equations shared with k36, k51 (picked from their texts by mk45m.py) -/
namespace DL
open PySem PySem.Spec PyProof.Rows L2
theorem cut_from {xs : List PySem.PyData} {i : Nat} : cutP xs (some (i : Int)) none = xs.drop i := by
  unfold cutP
  rw [HT.sIx_nat, HT.sIx_none, List.take_of_length_le]
  · by_cases h : i ≤ xs.length
    · congr 1
      omega
    · rw [List.drop_of_length_le (by omega), List.drop_of_length_le (by omega)]
  · rw [List.length_drop]
    omega
theorem cut_to {xs : List PyData} {i : Nat} : cutP xs none (some (i : Int)) = xs.take i := by
  unfold cutP
  rw [HT.sIx_nat, HT.sIx_none, List.drop_zero, Nat.sub_zero]
  by_cases h : i ≤ xs.length
  · congr 1
    omega
  · rw [List.take_of_length_le (by omega), List.take_of_length_le (by omega)]
def kP (p : Int × Int) : NestedKey := .tup [.num p.1, .num p.2]
theorem keyN_eP (p : Int × Int) : keyN (eP p) = some (kP p) := rfl
theorem keyNs_eP : ∀ L : List (Int × Int), keyNs (L.map eP) = some (L.map kP)
  | [] => rfl
  | p :: r => by
    rw [List.map_cons, keyNs, keyN_eP, keyNs_eP r]
    rfl
theorem kP_inj {p q : Int × Int} : kP p = kP q ↔ p = q := by
  constructor
  · intro h
    unfold kP at h
    simp only [NestedKey.tup.injEq, List.cons.injEq, NestedKey.num.injEq, and_true] at h
    exact Prod.ext h.1 h.2
  · exact fun h => by rw [h]
theorem idx_kP (p : Int × Int) : ∀ L : List (Int × Int), (L.map kP).idxOf (kP p) = L.idxOf p
  | [] => rfl
  | q :: r => by
    rw [List.map_cons, List.idxOf_cons, List.idxOf_cons, idx_kP p r]
    by_cases h : q = p
    · subst h
      rw [beq_self_eq_true, beq_self_eq_true]
    · have h' : ¬ kP q = kP p := fun e => h (kP_inj.mp e)
      rw [beq_eq_false_iff_ne.mpr h, beq_eq_false_iff_ne.mpr h']
theorem mem_kP {p : Int × Int} {L : List (Int × Int)} : kP p ∈ L.map kP ↔ p ∈ L := by
  rw [List.mem_map]
  exact ⟨fun ⟨q, h, e⟩ => by rw [← kP_inj.mp e]; exact h, fun h => ⟨p, h, rfl⟩⟩
theorem idx_pairs {p : Int × Int} {L : List (Int × Int)} (h : p ∈ L) (hl : L.length ≤ 1000) : idxM (.tuple (L.map eP)) (eP p) = pure (.int (L.idxOf p : Nat)) := by
  unfold idxM itemsOf
  simp only [keyNs_eP, keyN_eP, idx_kP]
  refine M.guard_of ?_
  simp only [Bool.and_eq_true, decide_eq_true_eq, List.length_map]
  refine ⟨⟨mem_kP.mpr h, ?_⟩, ?_⟩
  · unfold kP
    simp [NestedKey.depth, NestedKey.depthAll]
  · rw [sizeLine_eq]
    omega
open Eu (eW)
theorem map_kP_inj : ∀ {a b : List (Int × Int)}, a.map kP = b.map kP → a = b
  | [], [], _ => rfl
  | p :: a, q :: b, h => by
    rw [List.map_cons, List.map_cons] at h
    obtain ⟨h1, h2⟩ := List.cons.inj h
    rw [kP_inj.mp h1, map_kP_inj h2]
theorem kP_depth (p : Int × Int) : (kP p).depth ≤ 1 := by
  unfold kP
  simp [NestedKey.depth, NestedKey.depthAll]
theorem kPs_depth : ∀ r : List (Int × Int), NestedKey.depthAll (r.map kP) ≤ 1
  | [] => by simp [NestedKey.depthAll]
  | p :: r => by
    have h1 := kP_depth p
    have h2 := kPs_depth r
    rw [List.map_cons, NestedKey.depthAll]
    omega
theorem keyOk_tup {ds : List PyData} {k : NestedKey} (h : keyN (.tuple ds) = some k) : keyOk (.tuple ds) = decide (k.depth ≤ 8) := by
  unfold keyOk
  simp only [h]
theorem atD_last {s : List PyData} {z : PyData} : atD (.tuple (s ++ [z])) (.int (-1)) = pure z := by
  have e : atI (s ++ [z]) (-1) = some z := by
    unfold atI ixN
    rw [if_neg (by decide), if_pos (by rw [List.length_append, List.length_singleton]; omega)]
    show (s ++ [z])[((-1 : Int) + ((s ++ [z]).length : Nat)).toNat]? = _
    rw [show ((-1 : Int) + ((s ++ [z]).length : Nat)).toNat = s.length by rw [List.length_append, List.length_singleton]; omega]
    simp
  show (match atI (s ++ [z]) (-1) with
    | some d => pure d
    | none => (M.stuck : M PyData)) = _
  rw [e]
theorem eq_nilW (r : List (Int × Int)) : eqM (eW r) (.tuple []) = pure (decide (r = [])) := by
  have s1 : SeqAt.shaped (eW r) = true := shaped_tuple fun d hd => by
    obtain ⟨q, _, rfl⟩ := List.mem_map.mp hd
    exact ⟨by
      show PyData.canLay0 (.tuple ([q.1, q.2].map .int)) = true
      rw [PyData.canLay0, lay_ints], by have := Eu.depth_eP q; omega⟩
  show M.guard (SeqAt.shaped (eW r) && SeqAt.shaped (.tuple [])) (pure ((eW r).eqv (.tuple []))) = _
  rw [s1]
  show pure _ = _
  congr 1
  cases r with
  | nil => rfl
  | cons a b => rfl
end DL
namespace Lw
open PySem PySem.Spec PyProof.Rows L2 DL Gr Eu
/-- arrows as data -/
abbrev Ar : Type := List (Int × Int)
def eA (L : Ar) : PyData := .tuple (L.map eP)
structure Good (L : Ar) : Prop where
  len : L.length ≤ 8
  pip : ∀ p ∈ L, 0 ≤ p.1 ∧ p.1 ≤ 6 ∧ 0 ≤ p.2 ∧ p.2 ≤ 6
  srt : L.Pairwise fun p q => le2 p q = true
theorem s_is_number (i lo hi : Int) : m_is_number [.int i, .int lo, .int hi] = pure (.rt (.bool (decide (lo ≤ i ∧ i ≤ hi)))) := by
  unfold m_is_number
  simp only [M.pure_bind', M.bind_assoc', show isTy "int" (.int i) = true from rfl, show isTy "bool" (.int i) = false from rfl, Bool.not_false, if_true, ord_le]
  by_cases h : lo ≤ i <;> simp [h]
theorem s_is_pip (i : Int) : m_is_pip [.int i] = pure (.rt (.bool (decide (0 ≤ i ∧ i ≤ 6)))) := by
  unfold m_is_pip
  simp only [M.pure_bind', M.bind_assoc', List.length_cons, List.length_nil, decide_true, M.guard_true, s_is_number, fin_rt]
theorem len_list (xs : List PyData) : lenD [.list xs] = pure (.int xs.length) := rfl
theorem len_tuple (xs : List PyData) : lenD [.tuple xs] = pure (.int xs.length) := rfl
def awayN (L : Ar) (p : Int) : Int := ((L.filter fun q => q.1 == p).length : Nat)
def towardN (L : Ar) (p : Int) : Int := ((L.filter fun q => q.2 == p).length : Nat)
theorem s_away {L : Ar} (h : L.length ≤ 8) (p : Int) : m_away [eA L, .int p] = pure (.rt (.int (awayN L p))) := by
  unfold m_away eA
  simp only [M.pure_bind', M.bind_assoc', seqM, List.length_map, szl (show L.length ≤ 1000 by omega), M.guard_true]
  rw [compM_eq (c := eP) (tb := fun q => q.1 == p) (g := eP)]
  · simp only [M.pure_bind', len_list, List.length_map]
    rfl
  · exact fun _ _ => rfl
  · exact fun _ _ => rfl
  · exact fun _ _ _ => rfl
theorem s_toward {L : Ar} (h : L.length ≤ 8) (p : Int) : m_toward [eA L, .int p] = pure (.rt (.int (towardN L p))) := by
  unfold m_toward eA
  simp only [M.pure_bind', M.bind_assoc', seqM, List.length_map, szl (show L.length ≤ 1000 by omega), M.guard_true]
  rw [compM_eq (c := eP) (tb := fun q => q.2 == p) (g := eP)]
  · simp only [M.pure_bind', len_list, List.length_map]
    rfl
  · exact fun _ _ => rfl
  · exact fun _ _ => rfl
  · exact fun _ _ _ => rfl
abbrev pipsL : List Int := [0, 1, 2, 3, 4, 5, 6]
def leanN (L : Ar) : Ar := (pipsL.map fun p => (p, awayN L p - towardN L p)).filter fun q => !(q.2 == 0)
theorem s_is_arrow {p : Int × Int} (h : 0 ≤ p.1 ∧ p.1 ≤ 6 ∧ 0 ≤ p.2 ∧ p.2 ≤ 6) : m_is_arrow [eP p] = pure (.rt (.bool true)) := by
  unfold m_is_arrow eP
  simp only [M.pure_bind', M.bind_assoc', show isTy "tuple" (.tuple [.int p.1, .int p.2]) = true from rfl, if_true, len_tuple, eqM_int, List.length_cons, List.length_nil]
  rw [show (((0 + 1 + 1 : Nat) : Int) == 2) = true from rfl, M.if_true]
  simp only [seqM, M.pure_bind', show ([.int p.1, .int p.2] : List PyData) = [p.1, p.2].map PyData.int from rfl]
  rw [gxM_all (c := PyData.int) (p := fun i => decide (0 ≤ i ∧ i ≤ 6))]
  · simp only [M.pure_bind']
    have : ([p.1, p.2].all fun i => decide (0 ≤ i ∧ i ≤ 6)) = true := by simp [h]
    rw [this]
  · exact fun _ _ => rfl
  · intro i _
    simp only [M.pure_bind', M.bind_assoc', List.length_cons, List.length_nil, decide_true, M.guard_true, s_is_pip, fin_rt, boolM]
theorem zip_tail : ∀ {L : Ar}, L.Pairwise (fun p q => le2 p q = true) → (L.zip (L.drop 1)).all (fun z => le2 z.1 z.2) = true
  | [], _ => rfl
  | [_], _ => rfl
  | a :: b :: r, h => by
    have ih := zip_tail (L := b :: r) (List.pairwise_cons.mp h).2
    have h1 : le2 a b = true := (List.pairwise_cons.mp h).1 b List.mem_cons_self
    show (le2 a b && ((b :: r).zip ((b :: r).drop 1)).all _) = true
    rw [h1, ih]
    rfl
theorem pips_mem {y : Int} (h : 0 ≤ y ∧ y ≤ 6) : y ∈ pipsL := by
  have : y = 0 ∨ y = 1 ∨ y = 2 ∨ y = 3 ∨ y = 4 ∨ y = 5 ∨ y = 6 := by omega
  simp only [pipsL, List.mem_cons, List.not_mem_nil, or_false]
  exact this
theorem nodup_le7 {g : List Int} (h : g.Nodup) (hp : ∀ y ∈ g, 0 ≤ y ∧ y ≤ 6) : g.length ≤ 7 := by
  have p : g.Perm (pipsL.filter fun y => decide (y ∈ g)) := (List.perm_ext_iff_of_nodup h (List.Pairwise.filter _ (by decide))).mpr fun y => by
    rw [List.mem_filter, decide_eq_true_eq]
    exact ⟨fun k => ⟨pips_mem (hp y k), k⟩, fun k => k.2⟩
  rw [p.length_eq]
  exact List.length_filter_le _ _
theorem touch_pip {L : Ar} (h : Good L) {a : Int} (t : touch L a) : 0 ≤ a ∧ a ≤ 6 := by
  obtain ⟨p, hp, rfl | rfl⟩ := t
  · exact ⟨(h.pip p hp).1, (h.pip p hp).2.1⟩
  · exact (h.pip p hp).2.2
/-- what the group takes up by one line -/
def nextG (x : Int) (g : List Int) (p : Int × Int) : List Int := if x = p.1 ∨ x = p.2 then g ++ [p.1, p.2].filter (fun y => !decide (y ∈ g)) else g
theorem nextG_sub {x : Int} {g : List Int} {p : Int × Int} {y : Int} (h : y ∈ g) : y ∈ nextG x g p := by
  unfold nextG
  split
  · exact List.mem_append_left _ h
  · exact h
theorem nextG_nd {x : Int} {g : List Int} {p : Int × Int} (hx : x ∈ g) (h : g.Nodup) : (nextG x g p).Nodup := by
  unfold nextG
  split
  · rename_i e
    rw [List.nodup_append]
    refine ⟨h, ?_, fun a ha b hb z => ?_⟩
    · rcases e with rfl | rfl
      · by_cases k : p.2 ∈ g <;> simp [List.filter_cons, hx, k]
      · by_cases k : p.1 ∈ g <;> simp [List.filter_cons, hx, k]
    · rw [z] at ha
      have := (List.mem_filter.mp hb).2
      simp [ha] at this
  · exact h
theorem nextG_mem {x : Int} {g : List Int} {p : Int × Int} {y : Int} (h : y ∈ nextG x g p) : y ∈ g ∨ ((x = p.1 ∨ x = p.2) ∧ (y = p.1 ∨ y = p.2)) := by
  unfold nextG at h
  split at h
  · rename_i e
    rcases List.mem_append.mp h with q | q
    · exact .inl q
    · have := (List.mem_filter.mp q).1
      simp at this
      exact .inr ⟨e, this⟩
  · exact .inl h
theorem nextG_has {x : Int} {g : List Int} {p : Int × Int} (e : x = p.1 ∨ x = p.2) : p.1 ∈ nextG x g p ∧ p.2 ∈ nextG x g p := by
  have key : ∀ y, (y = p.1 ∨ y = p.2) → y ∈ nextG x g p := by
    intro y hy
    unfold nextG
    rw [if_pos e]
    by_cases k : y ∈ g
    · exact List.mem_append_left _ k
    · refine List.mem_append_right _ (List.mem_filter.mpr ⟨?_, by simp [k]⟩)
      simp
      exact hy
  exact ⟨key _ (.inl rfl), key _ (.inr rfl)⟩
theorem nextG_get {x : Int} {g : List Int} {p : Int × Int} {k : Nat} {z : Int} (h : g[k]? = some z) : (nextG x g p)[k]? = some z := by
  unfold nextG
  split
  · rw [List.getElem?_append_left (List.getElem?_eq_some_iff.mp h).1]
    exact h
  · exact h
/-- the group at work: x0's own, no two alike, all hang on x0 -/
structure Grp (L : Ar) (x0 : Int) (g : List Int) : Prop where
  has : x0 ∈ g
  nd : g.Nodup
  cn : ∀ y ∈ g, Cn L x0 y
theorem Grp.next {L : Ar} {x0 x : Int} {g : List Int} {p : Int × Int} (h : Grp L x0 g) (hx : x ∈ g) (hp : p ∈ L) : Grp L x0 (nextG x g p) := by
  refine ⟨nextG_sub h.has, nextG_nd hx h.nd, fun y hy => ?_⟩
  rcases nextG_mem hy with q | ⟨e, q⟩
  · exact h.cn y q
  · have hxx := h.cn x hx
    rcases e with rfl | rfl
    · rcases q with rfl | rfl
      · exact hxx
      · exact hxx.trans (.out (b := p.2) hp (.refl _))
    · rcases q with rfl | rfl
      · exact hxx.trans (.inn (b := p.1) hp (.refl _))
      · exact hxx
theorem Grp.len {L : Ar} {x0 : Int} {g : List Int} (hL : Good L) (t : touch L x0) (h : Grp L x0 g) : g.length ≤ 7 := nodup_le7 h.nd fun y hy => touch_pip hL ((h.cn y hy).touch2 t)
/-- closed: the whole piece -/
theorem Grp.whole {L : Ar} {x0 : Int} {g : List Int} (h : Grp L x0 g) (cl : ∀ x ∈ g, ∀ p ∈ L, (x = p.1 ∨ x = p.2) → p.1 ∈ g ∧ p.2 ∈ g) (y : Int) : y ∈ g ↔ Cn L x0 y := by
  refine ⟨h.cn y, fun k => ?_⟩
  have key : ∀ {a b}, Cn L a b → a ∈ g → b ∈ g := by
    intro a b k
    induction k with
    | refl => exact id
    | out e _ ih => exact fun ha => ih (cl _ ha _ e (.inl rfl)).2
    | inn e _ ih => exact fun ha => ih (cl _ ha _ e (.inr rfl)).1
  exact key k h.has
def okD : Nat → PyData → Bool
  | 0, _ => false
  | n + 1, .list ds => decide (ds.length ≤ 100000) && ds.all (okD n)
  | n + 1, .tuple ds => decide (ds.length ≤ 100000) && ds.all (okD n)
  | _ + 1, .dict _ => false
  | _ + 1, .str x => (PyData.str x).canLay0
  | _ + 1, _ => true
theorem rng1_nat {n : Nat} (h : n ≤ 100000) : rng1M [.int (n : Nat)] = pure ((List.range n).map fun (i : Nat) => PyData.int (0 + (i : Nat))) := by
  unfold rng1M
  dsimp only
  rw [M.guard_of (decide_eq_true (by omega))]
  rfl
theorem alike_places {n : Nat} {ds : List PyData} (f : PyData) (hf : f = .list ds ∨ f = .tuple ds) (h : ds.length ≤ 100000) (ih : ∀ d ∈ ds, m__law_alike n [d, d] = pure (.rt (.bool true))) :
    compM patN (fun c1 => (atD f c1 >>= fun x => atD f c1 >>= fun y => (m__law_alike n [x, y]).fin >>= fun a => truthM a >>= fun c => pure (!c))) (fun c1 => pure c1) ((List.range ds.length).map fun (i : Nat) => PyData.int (0 + (i : Nat))) = pure [] := by
  rw [compM_eq (c := fun (i : Nat) => PyData.int (0 + (i : Nat))) (tb := fun _ => false) (g := fun (i : Nat) => PyData.int (0 + (i : Nat)))]
  · rw [List.filter_eq_nil_iff.mpr fun _ _ => by decide]
    rfl
  · exact fun _ _ => rfl
  · intro i hi
    have hi2 := List.mem_range.mp hi
    have e : ds[i]? = some ds[i] := List.getElem?_eq_getElem hi2
    have e2 : atD f (.int (0 + (i : Nat))) = pure ds[i] := by
      rw [Int.zero_add]
      rcases hf with rfl | rfl
      · exact atD_list e
      · exact atD_tuple e
    rw [e2, M.pure_bind', M.pure_bind', ih _ (List.getElem_mem hi2)]
    rfl
  · exact fun _ _ z => nomatch z
theorem s_alike : ∀ (n : Nat) (d : PyData), okD n d = true → m__law_alike n [d, d] = pure (.rt (.bool true))
  | 0, _, h => by cases h
  | n + 1, .none, _ => rfl
  | n + 1, .bool b, _ => by cases b <;> rfl
  | n + 1, .int i, _ => by
    unfold m__law_alike
    simp only [M.pure_bind', M.bind_assoc', show isTy "tuple" (.int i) = false from rfl, show isTy "list" (.int i) = false from rfl, show isTy "dict" (.int i) = false from rfl, show isTy "str" (.int i) = false from rfl, show isTy "int" (.int i) = true from rfl, show isTy "bool" (.int i) = false from rfl, Bool.or_false, M.if_false, M.if_true, show isM (.int i) .none = pure false from rfl, show eqM (.bool false) (.bool false) = pure true from rfl, eqM_int, beq_self_eq_true, ↓reduceIte]
  | n + 1, .str x, h => by
    have e : eqM (.str x) (.str x) = pure true := by
      unfold eqM
      have hs : SeqAt.shaped (.str x) = true := by
        unfold SeqAt.shaped
        rw [show (PyData.str x).canLay0 = true from h, PyData.depth]
        rfl
      rw [hs]
      show pure ((PyData.str x).eqv (PyData.str x)) = _
      rw [PyData.eqv]
      simp
    unfold m__law_alike
    simp only [M.pure_bind', M.bind_assoc', show isTy "tuple" (.str x) = false from rfl, show isTy "list" (.str x) = false from rfl, show isTy "dict" (.str x) = false from rfl, show isTy "str" (.str x) = true from rfl, Bool.or_false, M.if_false, M.if_true, show isM (.str x) .none = pure false from rfl, e, show eqM (.bool true) (.bool true) = pure true from rfl]
    rfl
  | n + 1, .list ds, h => by
    obtain ⟨h1, h2⟩ := Bool.and_eq_true_iff.mp (show (decide (ds.length ≤ 100000) && ds.all (okD n)) = true from h)
    have h3 := of_decide_eq_true h1
    have ih : ∀ d ∈ ds, m__law_alike n [d, d] = pure (.rt (.bool true)) := fun d hd => s_alike n d (List.all_eq_true.mp h2 d hd)
    unfold m__law_alike
    simp only [M.pure_bind', M.bind_assoc', show isTy "tuple" (.list ds) = false from rfl, show isTy "list" (.list ds) = true from rfl, Bool.or_true, Bool.not_true, M.if_false, M.if_true, show neM (.bool true) (.bool true) = pure false from rfl, len_list, neM_int, beq_self_eq_true, ↓reduceIte, rng1_nat h3, List.length_map, List.length_range, szb h3, M.guard_true, List.length_cons, List.length_nil, decide_true, szl (show 0 ≤ 1000 by decide)]
    rw [alike_places (.list ds) (.inl rfl) h3 ih]
    rfl
  | n + 1, .tuple ds, h => by
    obtain ⟨h1, h2⟩ := Bool.and_eq_true_iff.mp (show (decide (ds.length ≤ 100000) && ds.all (okD n)) = true from h)
    have h3 := of_decide_eq_true h1
    have ih : ∀ d ∈ ds, m__law_alike n [d, d] = pure (.rt (.bool true)) := fun d hd => s_alike n d (List.all_eq_true.mp h2 d hd)
    unfold m__law_alike
    simp only [M.pure_bind', M.bind_assoc', show isTy "tuple" (.tuple ds) = true from rfl, show isTy "list" (.tuple ds) = false from rfl, Bool.true_or, Bool.not_true, M.if_false, M.if_true, show neM (.bool false) (.bool false) = pure false from rfl, len_tuple, neM_int, beq_self_eq_true, ↓reduceIte, rng1_nat h3, List.length_map, List.length_range, szb h3, M.guard_true, List.length_cons, List.length_nil, decide_true, szl (show 0 ≤ 1000 by decide)]
    rw [alike_places (.tuple ds) (.inr rfl) h3 ih]
    rfl
  | n + 1, .dict _, h => by cases h
def bone (p : Int × Int) : Int × Int := (if p.2 < p.1 then p.2 else p.1, if p.2 > p.1 then p.2 else p.1)
theorem s_lawlean {L : Ar} (h : L.length ≤ 8) : m__law_lean [eA L] = pure (.rt (.list ((leanN L).map eP))) := by
  unfold m__law_lean
  simp only [M.pure_bind', M.bind_assoc', show rng1M [.int 7] = pure (pipsL.map PyData.int) from rfl, List.length_map, szl (show pipsL.length ≤ 1000 by decide), M.guard_true]
  rw [compM_all (c := PyData.int) (g := fun p => eP (p, awayN L p - towardN L p))]
  · simp only [M.pure_bind', seqM, List.length_map, szl (show pipsL.length ≤ 1000 by decide), M.guard_true]
    rw [show (List.map (fun p => eP (p, awayN L p - towardN L p)) pipsL) = (pipsL.map fun p => (p, awayN L p - towardN L p)).map eP from rfl]
    rw [compM_eq (c := eP) (tb := fun q => !(q.2 == 0)) (g := eP)]
    · rfl
    · exact fun _ _ => rfl
    · exact fun _ _ => rfl
    · exact fun _ _ _ => rfl
  · exact fun _ _ => rfl
  · intro p _
    simp only [M.pure_bind', M.bind_assoc', eA, seqM, List.length_map, szl (show L.length ≤ 1000 by omega), M.guard_true]
    rw [compM_eq (c := eP) (tb := fun q => q.1 == p) (g := eP)]
    · rw [compM_eq (c := eP) (tb := fun q => q.2 == p) (g := eP)]
      · simp only [M.pure_bind', len_list, List.length_map, subD, List.length_cons, List.length_nil, szl (show 0 + 1 + 1 ≤ 1000 by decide), M.guard_true]
        rfl
      · exact fun _ _ => rfl
      · exact fun _ _ => rfl
      · exact fun _ _ _ => rfl
    · exact fun _ _ => rfl
    · exact fun _ _ => rfl
    · exact fun _ _ _ => rfl
theorem ok_str {n : Nat} {x : Str} (h : (PyData.str x).canLay0 = true) : okD (n + 1) (.str x) = true := h
theorem ok_int {n : Nat} {i : Int} : okD (n + 1) (.int i) = true := rfl
theorem ok_tup {n : Nat} {ds : List PyData} (h : ds.length ≤ 100000) (k : ∀ d ∈ ds, okD n d = true) : okD (n + 1) (.tuple ds) = true := by
  show (decide (ds.length ≤ 100000) && ds.all (okD n)) = true
  rw [decide_eq_true h, List.all_eq_true.mpr k]
  rfl
theorem ok_lst {n : Nat} {ds : List PyData} (h : ds.length ≤ 100000) (k : ∀ d ∈ ds, okD n d = true) : okD (n + 1) (.list ds) = true := by
  show (decide (ds.length ≤ 100000) && ds.all (okD n)) = true
  rw [decide_eq_true h, List.all_eq_true.mpr k]
  rfl
theorem ne_bools (a b : Bool) : neM (.bool a) (.bool b) = pure (!(a == b)) := by cases a <;> cases b <;> rfl
theorem pick_run {xs : List PyData} (h : 0 < xs.length ∧ xs.length < 1000000) {P : PyData → Prop} {R : Er → Prop} (q : ∀ d ∈ xs, P d) : ((m__law_pick [.list xs]).fin).run P R := by
  unfold m__law_pick
  simp only [M.pure_bind', M.bind_assoc', len_list, List.length_cons, List.length_nil, decide_true, M.guard_true]
  refine run_bind ?_
  refine run_bind (tk_run (by omega) fun k h1 h2 => ?_)
  obtain ⟨i, rfl⟩ := Int.eq_ofNat_of_zero_le h1
  have hi : i < xs.length := by omega
  show ((atD (.list xs) (.int (i : Nat)) >>= fun d => (pure (.rt d) : M (Fl Empty)))).run _ _
  rw [atD_list (List.getElem?_eq_getElem hi), M.pure_bind']
  exact q _ (List.getElem_mem hi)
theorem lay_eP (q : Int × Int) : (eP q).canLay0 = true ∧ (eP q).depth ≤ 60 := by
  have e : eP q = .tuple ([q.1, q.2].map .int) := rfl
  rw [e, PyData.canLay0, lay_ints, PyData.depth, PySem.W.depth_ints]
  exact ⟨rfl, by decide⟩
theorem shaped_pairs (l : Ar) : SeqAt.shaped (.list (l.map eP)) = true := shaped_list fun d hd => by
  obtain ⟨q, _, rfl⟩ := List.mem_map.mp hd
  exact lay_eP q
theorem ne_nil (l : Ar) : neM (.list (l.map eP)) (.list []) = pure (!l.isEmpty) := by
  unfold neM
  rw [shaped_pairs]
  show pure (!PyData.eqv (.list (l.map eP)) (.list [])) = _
  rw [PyData.eqv]
  cases l with
  | nil => rfl
  | cons => rfl
theorem lean_small {L : Ar} : (leanN L).length ≤ 7 := by
  have := List.length_filter_le (fun q : Int × Int => !(q.2 == 0)) (pipsL.map fun p => (p, awayN L p - towardN L p))
  unfold leanN
  rw [List.length_map] at this
  exact this
theorem ord2 (q : Int × Int) : atD (eP q) (.int 0) = pure (.int q.1) ∧ atD (eP q) (.int 1) = pure (.int q.2) := ⟨rfl, rfl⟩
theorem erase_cut (p : Int × Int) : ∀ {L : Ar}, p ∈ L → L.take (L.idxOf p) ++ L.drop (L.idxOf p + 1) = L.erase p
  | q :: r, h => by
    rw [List.idxOf_cons, List.erase_cons]
    by_cases e : q = p
    · subst e
      simp
    · have hr : p ∈ r := by
        rcases List.mem_cons.mp h with z | z
        · exact absurd z.symm e
        · exact z
      have e' : (q == p) = false := by simpa using e
      rw [e']
      simp only [cond_false, List.take_succ_cons, List.drop_succ_cons, List.cons_append, Bool.false_eq_true, if_false]
      rw [erase_cut p hr]
theorem good_erase {L : Ar} (h : Good L) (p : Int × Int) : Good (L.erase p) :=
  ⟨Nat.le_trans (List.length_erase_le) h.len, fun q hq => h.pip q (List.mem_of_mem_erase hq), h.srt.sublist (List.erase_sublist)⟩
theorem in_pairs (p : Int × Int) (l : Ar) : inM (eP p) (.list (l.map eP)) = pure (decide (p ∈ l)) := by
  have s1 : SeqAt.shaped (eP p) = true := by
    obtain ⟨h1, h2⟩ := lay_eP p
    unfold SeqAt.shaped
    rw [h1]
    simp
    omega
  show M.guard (SeqAt.shaped (eP p) && SeqAt.shaped (.list (l.map eP))) (pure ((l.map eP).any fun z => PyData.eqv z (eP p))) = _
  rw [s1, shaped_pairs l]
  show pure _ = _
  congr 1
  rw [List.any_map, Bool.eq_iff_iff]
  simp only [List.any_eq_true, Function.comp, Eu.eqv_eP, decide_eq_true_eq]
  exact ⟨fun ⟨x, h1, h2⟩ => h2 ▸ h1, fun h => ⟨p, h, rfl⟩⟩
def dif (L : Ar) (p : Int) : Int := awayN L p - towardN L p
theorem dif_df (L : Ar) (v : Int) : dif L v = Eu.df L v := by
  unfold dif awayN towardN
  induction L with
  | nil => rfl
  | cons p r ih =>
    rw [Eu.df, ← ih, List.filter_cons, List.filter_cons]
    by_cases h1 : p.1 = v <;> by_cases h2 : p.2 = v <;> simp [h1, h2] <;> omega
theorem lean_mem {L : Ar} {q : Int × Int} : q ∈ leanN L ↔ (0 ≤ q.1 ∧ q.1 ≤ 6) ∧ q.2 = dif L q.1 ∧ q.2 ≠ 0 := by
  unfold leanN
  rw [List.mem_filter, List.mem_map]
  constructor
  · rintro ⟨⟨p, hp, rfl⟩, h⟩
    refine ⟨?_, rfl, by simpa using h⟩
    simp only [pipsL, List.mem_cons, List.not_mem_nil, or_false] at hp
    show 0 ≤ p ∧ p ≤ 6
    omega
  · rintro ⟨h1, h2, h3⟩
    exact ⟨⟨q.1, pips_mem h1, Prod.ext rfl h2.symm⟩, by simpa using h3⟩
theorem df_touch {L : Ar} {v : Int} (h : Eu.df L v ≠ 0) : touch L v := by
  refine Classical.byContradiction fun nt => h ?_
  clear h
  induction L with
  | nil => rfl
  | cons p r ih =>
    rw [Eu.df, if_neg fun e => nt ⟨p, List.mem_cons_self, .inl e⟩, if_neg fun e => nt ⟨p, List.mem_cons_self, .inr e⟩, ih fun ⟨q, hq, e⟩ => nt ⟨q, .tail _ hq, e⟩]
    rfl
theorem pip_of {L : Ar} (h : Good L) {v : Int} (t : touch L v) : 0 ≤ v ∧ v ≤ 6 := touch_pip h t
theorem lean_nil {L : Ar} (h : Good L) : leanN L = [] ↔ ∀ v, Eu.df L v = 0 := by
  constructor
  · intro e v
    refine Classical.byContradiction fun n => ?_
    have m : (v, Eu.df L v) ∈ leanN L := lean_mem.mpr ⟨pip_of h (df_touch n), (dif_df L v).symm, n⟩
    rw [e] at m
    cases m
  · intro e
    refine List.eq_nil_iff_forall_not_mem.mpr fun q hq => ?_
    obtain ⟨_, h2, h3⟩ := lean_mem.mp hq
    rw [dif_df, e] at h2
    exact h3 h2
theorem conn_few {L : Ar} {gs : List (List Int)} (h : Pcs L gs) : gs.length ≤ 1 ↔ Eu.Conn L := by
  constructor
  · intro hl a b ta tb
    obtain ⟨g, hg, ha⟩ := h.cov a ta
    obtain ⟨g', hg', hb⟩ := h.cov b tb
    have e : g = g' := by
      match gs, hl, hg, hg' with
      | [x], _, hg, hg' => rw [List.mem_singleton.mp hg, List.mem_singleton.mp hg']
    rw [← e] at hb
    exact ((h.mem g hg a ha).2 b).mp hb
  · intro hc
    match gs, h with
    | [], _ => simp
    | [x], _ => simp
    | x :: y :: r, h =>
      obtain ⟨a, xr, ex⟩ := List.exists_cons_of_ne_nil (h.ne x List.mem_cons_self)
      obtain ⟨b, yr, ey⟩ := List.exists_cons_of_ne_nil (h.ne y (.tail _ List.mem_cons_self))
      have ha : a ∈ x := by rw [ex]; exact List.mem_cons_self
      have hb : b ∈ y := by rw [ey]; exact List.mem_cons_self
      have ta := h.mem x List.mem_cons_self a ha
      have tb := h.mem y (.tail _ List.mem_cons_self) b hb
      have m : b ∈ x := (ta.2 b).mpr (hc a b ta.1 tb.1)
      have e := h.eq_of_mem h List.mem_cons_self (List.Mem.tail _ List.mem_cons_self) m hb
      exact absurd e ((List.pairwise_cons.mp h.nd).1 y List.mem_cons_self)
theorem head_touch {L : Ar} {g : List Int} {gs : List (List Int)} (h : Pcs L (g :: gs)) (hl : ¬ 1 < (g :: gs).length) (p : Int) : p ∈ g ↔ touch L p := by
  constructor
  · exact fun hp => (h.mem g List.mem_cons_self p hp).1
  · intro t
    obtain ⟨g', hg', hp⟩ := h.cov p t
    have : gs = [] := List.eq_nil_of_length_eq_zero (by simp at hl; simpa using hl)
    subst this
    rw [List.mem_singleton.mp hg'] at hp
    exact hp
theorem pcs_nil {L : Ar} (h : Pcs L []) : L = [] := by
  cases L with
  | nil => rfl
  | cons p r =>
    obtain ⟨g, hg, _⟩ := h.cov p.1 ⟨p, List.mem_cons_self, .inl rfl⟩
    cases hg
theorem le2_anti {p q : Int × Int} (h : le2 p q = true) (k : le2 q p = true) : p = q := by
  unfold le2 at h k
  have h := of_decide_eq_true h
  have k := of_decide_eq_true k
  exact Prod.ext (by omega) (by omega)
theorem srt_uniq {a b : Ar} (h : a.Pairwise fun p q => le2 p q = true) (k : b.Pairwise fun p q => le2 p q = true) (pm : a.Perm b) : a = b :=
  List.Perm.eq_of_pairwise (le := fun p q => le2 p q = true) (fun _ _ _ _ h1 h2 => le2_anti h1 h2) h k pm
theorem canlay_eW (r : Ar) : (eW r).canLay0 = true := by
  show PyData.canLay0 (.tuple (r.map eP)) = true
  rw [PyData.canLay0]
  exact lay_all fun d hd => by
    obtain ⟨q, _, rfl⟩ := List.mem_map.mp hd
    exact (lay_eP q).1
theorem shaped_eW (r : Ar) : SeqAt.shaped (eW r) = true := by
  have h2 := depth_eW r
  unfold SeqAt.shaped
  rw [canlay_eW]
  simp
  omega
theorem eqv_all_eP : ∀ a b : Ar, PyData.eqvAll (a.map eP) (b.map eP) = decide (a = b)
  | [], [] => rfl
  | [], _ :: _ => rfl
  | _ :: _, [] => rfl
  | p :: a, q :: b => by
    rw [List.map_cons, List.map_cons, PyData.eqvAll, eqv_eP, eqv_all_eP a b, Bool.eq_iff_iff]
    simp
theorem eqv_eW (a b : Ar) : PyData.eqv (eW a) (eW b) = decide (a = b) := by
  show PyData.eqv (.tuple (a.map eP)) (.tuple (b.map eP)) = _
  rw [PyData.eqv, eqv_all_eP]
theorem eq_eW (a b : Ar) : eqM (eW a) (eW b) = pure (decide (a = b)) := by
  show M.guard (SeqAt.shaped (eW a) && SeqAt.shaped (eW b)) (pure (PyData.eqv (eW a) (eW b))) = _
  rw [shaped_eW, shaped_eW, eqv_eW]
  rfl
theorem shaped_rowsW (rs : List Ar) : SeqAt.shaped (.list (rs.map eW)) = true := shaped_list fun d hd => by
  obtain ⟨q, _, rfl⟩ := List.mem_map.mp hd
  exact ⟨canlay_eW q, by have := depth_eW q; omega⟩
theorem in_rows (w : Ar) (rs : List Ar) : inM (eW w) (.list (rs.map eW)) = pure (decide (w ∈ rs)) := by
  show M.guard (SeqAt.shaped (eW w) && SeqAt.shaped (.list (rs.map eW))) (pure ((rs.map eW).any fun z => PyData.eqv z (eW w))) = _
  rw [shaped_eW, shaped_rowsW]
  show pure _ = _
  congr 1
  rw [List.any_map, Bool.eq_iff_iff]
  simp only [List.any_eq_true, Function.comp, eqv_eW, decide_eq_true_eq]
  exact ⟨fun ⟨x, h1, h2⟩ => h2 ▸ h1, fun h => ⟨w, h, rfl⟩⟩
theorem ne_rows (rs : List Ar) : neM (.list (rs.map eW)) (.list []) = pure (!decide (rs = [])) := by
  show M.guard (SeqAt.shaped (.list (rs.map eW)) && SeqAt.shaped (.list [])) (pure (!PyData.eqv (.list (rs.map eW)) (.list []))) = _
  rw [shaped_rowsW]
  show pure _ = _
  cases rs <;> rfl
theorem eq_rows (rs : List Ar) : eqM (.list (rs.map eW)) (.list []) = pure (decide (rs = [])) := by
  show M.guard (SeqAt.shaped (.list (rs.map eW)) && SeqAt.shaped (.list [])) (pure (PyData.eqv (.list (rs.map eW)) (.list []))) = _
  rw [shaped_rowsW]
  show pure _ = _
  cases rs <;> rfl
/-- arrows whose pips are right -/
def Pips (w : Ar) : Prop := ∀ p ∈ w, 0 ≤ p.1 ∧ p.1 ≤ 6 ∧ 0 ≤ p.2 ∧ p.2 ≤ 6
theorem cut_eW (w : Ar) (lo hi : Option Int) : ∃ v : Ar, sliceD (eW w) lo hi = pure (eW v) ∧ (∀ p ∈ v, p ∈ w) ∧ v.length ≤ w.length := by
  refine ⟨(w.drop (HT.sIx (w.map eP).length 0 lo)).take (HT.sIx (w.map eP).length (w.map eP).length hi - HT.sIx (w.map eP).length 0 lo), ?_, fun p hp => List.mem_of_mem_drop (List.mem_of_mem_take hp), ?_⟩
  · show pure (PyData.tuple (cutP (w.map eP) lo hi)) = _
    unfold cutP
    rw [← List.map_drop, ← List.map_take]
  · rw [List.length_take, List.length_drop]
    omega
theorem rev_eW (w : Ar) : revD (eW w) = pure (eW w.reverse) := by
  show pure (PyData.tuple (w.map eP).reverse) = _
  rw [← List.map_reverse]
theorem add_eW {v w : Ar} (h : v.length + w.length ≤ 1000) : addD (eW v) (eW w) = pure (eW (v ++ w)) := by
  rw [show eW (v ++ w) = .tuple (v.map eP ++ w.map eP) by rw [eW, List.map_append]]
  exact add_tuple (by simpa using h)
theorem okW (n : Nat) (r : Ar) (h : r.length ≤ 1000) : okD (n + 3) (eW r) = true := by
  refine ok_tup (by rw [List.length_map]; omega) fun d hd => ?_
  obtain ⟨p, _, rfl⟩ := List.mem_map.mp hd
  exact ok_tup (by simp) (by simp [ok_int])
end Lw

set_option Elab.async false
set_option linter.all false
set_option maxRecDepth 100000
set_option maxHeartbeats 2000000
/-! lots: ends, odd pips, pieces -/
namespace Lw
open PySem PySem.Spec PyProof.Rows L2 DL Gr Eu
/-- a lot: bones, the lesser end first -/
structure Lot (B : Ar) : Prop where
  good : Good B
  low : ∀ p ∈ B, p.1 ≤ p.2
theorem sum_dg (v : Int) : ∀ L : Ar, (L.map fun p => b2i (p.1 == v) + b2i (p.2 == v)).sum = dg L v
  | [] => rfl
  | p :: r => by
    have e : ∀ x : Int, b2i (x == v) = if x = v then 1 else 0 := fun x => by
      by_cases h : x = v
      · rw [if_pos h, show (x == v) = true by simpa using h]
        rfl
      · rw [if_neg h, show (x == v) = false by simpa using h]
        rfl
    rw [List.map_cons, List.sum_cons, sum_dg v r, dg, e, e]
theorem s_ends {L : Ar} (h : L.length ≤ 1000) (v : Int) : m_ends_at [eA L, .int v] = pure (.rt (.int (dg L v))) := by
  unfold m_ends_at eA
  simp only [M.pure_bind', M.bind_assoc', seqM, List.length_map, szl h, M.guard_true]
  rw [compM_all (c := fun p => (PyData.int p.1, PyData.int p.2)) (g := fun p => PyData.int (b2i (p.1 == v) + b2i (p.2 == v)))]
  · rw [M.pure_bind', show (L.map fun p : Int × Int => PyData.int (b2i (p.1 == v) + b2i (p.2 == v))) = (L.map fun p => b2i (p.1 == v) + b2i (p.2 == v)).map PyData.int by rw [List.map_map]; rfl]
    unfold sumD
    dsimp only
    rw [intsOf_map]
    dsimp only
    rw [sum_dg]
    rfl
  · exact fun _ _ => rfl
  · exact fun p _ => rfl
def oddN (L : Ar) : List Int := pipsL.filter fun v => dg L v % 2 == 1
theorem s_odd {L : Ar} (h : L.length ≤ 1000) : m_odd_in [eA L] = pure (.rt (eR (oddN L))) := by
  unfold m_odd_in
  simp only [M.pure_bind', M.bind_assoc', seqM, List.length_map, szl (show ([0, 1, 2, 3, 4, 5, 6] : List Int).length ≤ 1000 by decide), M.guard_true]
  rw [compM_eq (c := PyData.int) (tb := fun v => dg L v % 2 == 1) (g := PyData.int)]
  · rfl
  · exact fun _ _ => rfl
  · intro v _
    simp only [List.length_cons, List.length_nil, decide_true, M.guard_true, s_ends h, fin_rt, M.pure_bind', Nat.zero_add, Nat.reduceAdd]
    rfl
  · exact fun _ _ _ => rfl
/-! ### pieces -/
def usedN (L : Ar) : List Int := pipsL.filter fun v => decide (0 < dg L v)
theorem dg_touch {L : Ar} {v : Int} : 0 < dg L v ↔ touch L v := by
  constructor
  · intro h
    induction L with
    | nil => exact absurd h (by simp [dg])
    | cons p r ih =>
      rw [dg] at h
      by_cases e : p.1 = v
      · exact ⟨p, List.mem_cons_self, .inl e⟩
      · by_cases e2 : p.2 = v
        · exact ⟨p, List.mem_cons_self, .inr e2⟩
        · rw [if_neg e, if_neg e2] at h
          obtain ⟨q, hq, e⟩ := ih (by omega)
          exact ⟨q, .tail _ hq, e⟩
  · intro t
    refine Classical.byContradiction fun n => ?_
    have := dg_nn v L
    exact dg_zero (by omega) t
theorem used_iff {L : Ar} (h : Good L) (a : Int) : a ∈ usedN L ↔ touch L a := by
  unfold usedN
  rw [List.mem_filter, decide_eq_true_eq, dg_touch]
  exact ⟨fun z => z.2, fun t => ⟨pips_mem (touch_pip h t), t⟩⟩
theorem s_usedc {L : Ar} (h : L.length ≤ 1000) : compM patN (fun c1 => (m_ends_at [eA L, c1]).fin >>= fun x => ordM .gt x (.int 0)) (fun c1 => pure c1) ([0, 1, 2, 3, 4, 5, 6].map PyData.int) = pure ((usedN L).map PyData.int) := by
  rw [compM_eq (c := PyData.int) (tb := fun v => decide (0 < dg L v)) (g := PyData.int)]
  · rfl
  · exact fun _ _ => rfl
  · intro v _
    rw [s_ends h, fin_rt, M.pure_bind', ord_gt]
  · exact fun _ _ _ => rfl
def HL (g g' : List Int) : Prop := ∃ a r b r', g = a :: r ∧ g' = b :: r' ∧ a < b
/-- the outer loop's state: pieces found, pips left -/
structure Out (L : Ar) (gs : List (List Int)) (left : List Int) : Prop where
  srt : ∀ g ∈ gs, g.Pairwise (· < ·)
  ne : ∀ g ∈ gs, g ≠ []
  mem : ∀ g ∈ gs, ∀ a ∈ g, touch L a ∧ ∀ b, b ∈ g ↔ Cn L a b
  hl : gs.Pairwise HL
  ls : left.Pairwise (· < ·)
  lt : ∀ x ∈ left, touch L x
  cov : ∀ a, touch L a → a ∈ left ∨ ∃ g ∈ gs, a ∈ g
  hd : ∀ x ∈ left, ∀ g ∈ gs, x ∉ g ∧ ∃ a r, g = a :: r ∧ a < x
  few : gs.length + left.length ≤ 7
theorem Out.start {L : Ar} (h : Good L) : Out L [] (usedN L) := by
  refine ⟨nofun, nofun, nofun, .nil, List.Pairwise.filter _ (by decide), fun x hx => (used_iff h x).mp hx, fun a t => .inl ((used_iff h a).mpr t), fun _ _ => nofun, ?_⟩
  have := List.length_filter_le (fun v => decide (0 < dg L v)) pipsL
  show 0 + (usedN L).length ≤ 7
  unfold usedN
  have e : pipsL.length = 7 := rfl
  omega
theorem head_of {g : List Int} {x : Int} (hs : g.Pairwise (· < ·)) (hx : x ∈ g) (hm : ∀ y ∈ g, x ≤ y) : ∃ r, g = x :: r := by
  cases g with
  | nil => cases hx
  | cons a r =>
    have h1 := hm a List.mem_cons_self
    rcases List.mem_cons.mp hx with e | e
    · exact ⟨r, by rw [e]⟩
    · have := (List.pairwise_cons.mp hs).1 x e
      omega
theorem Out.next {L : Ar} {gs : List (List Int)} {x0 : Int} {rest g : List Int} (h : Out L gs (x0 :: rest)) (hg : ∀ y, y ∈ g ↔ Cn L x0 y) :
    Out L (gs ++ [sortU g]) ((x0 :: rest).filter fun y => !decide (y ∈ g)) ∧ ((x0 :: rest).filter fun y => !decide (y ∈ g)).length < (x0 :: rest).length := by
  have t0 : touch L x0 := h.lt x0 List.mem_cons_self
  have x0g : x0 ∈ g := (hg x0).mpr (.refl _)
  have ls := List.pairwise_cons.mp h.ls
  have inL : ∀ y ∈ g, y ∈ x0 :: rest := by
    intro y hy
    have cy := (hg y).mp hy
    rcases h.cov y (cy.touch2 t0) with q | ⟨g', hg', q⟩
    · exact q
    · exact absurd (((h.mem g' hg' y q).2 x0).mpr cy.symm) (h.hd x0 List.mem_cons_self g' hg').1
  have le0 : ∀ y ∈ x0 :: rest, x0 ≤ y := by
    intro y hy
    rcases List.mem_cons.mp hy with rfl | q
    · omega
    · have := ls.1 y q
      omega
  obtain ⟨r, er⟩ := head_of (sortU_pw g) ((sortU_mem x0 g).mpr x0g) fun y hy => le0 y (inL y ((sortU_mem y g).mp hy))
  have lt : ((x0 :: rest).filter fun y => !decide (y ∈ g)).length < (x0 :: rest).length := by
    rw [List.filter_cons_of_neg (by simp [x0g]), List.length_cons]
    have := List.length_filter_le (fun y => !decide (y ∈ g)) rest
    omega
  have mF : ∀ y, y ∈ (x0 :: rest).filter (fun y => !decide (y ∈ g)) ↔ y ∈ x0 :: rest ∧ y ∉ g := fun y => by
    rw [List.mem_filter]
    simp
  refine ⟨⟨fun g' hg' => ?_, fun g' hg' => ?_, fun g' hg' a ha => ?_, ?_, List.Pairwise.filter _ h.ls, fun x hx => h.lt x ((mF x).mp hx).1, fun a t => ?_, fun x hx g' hg' => ?_, ?_⟩, lt⟩
  · rcases List.mem_append.mp hg' with q | q
    · exact h.srt g' q
    · cases List.mem_singleton.mp q
      exact sortU_pw g
  · rcases List.mem_append.mp hg' with q | q
    · exact h.ne g' q
    · cases List.mem_singleton.mp q
      rw [er]
      simp
  · rcases List.mem_append.mp hg' with q | q
    · exact h.mem g' q a ha
    · cases List.mem_singleton.mp q
      have ca := (hg a).mp ((sortU_mem a g).mp ha)
      exact ⟨ca.touch2 t0, fun b => (sortU_mem b g).trans ((hg b).trans ⟨fun k => ca.symm.trans k, fun k => ca.trans k⟩)⟩
  · rw [List.pairwise_append]
    refine ⟨h.hl, by simp, fun g1 h1 g2 h2 => ?_⟩
    cases List.mem_singleton.mp h2
    obtain ⟨_, a, r', e, k⟩ := h.hd x0 List.mem_cons_self g1 h1
    exact ⟨a, r', x0, r, e, er, k⟩
  · rcases h.cov a t with q | ⟨g', hg', q⟩
    · by_cases k : a ∈ g
      · exact .inr ⟨_, by simp, (sortU_mem a g).mpr k⟩
      · exact .inl ((mF a).mpr ⟨q, k⟩)
    · exact .inr ⟨g', List.mem_append_left _ hg', q⟩
  · obtain ⟨q1, q2⟩ := (mF x).mp hx
    rcases List.mem_append.mp hg' with q | q
    · exact h.hd x q1 g' q
    · cases List.mem_singleton.mp q
      refine ⟨fun z => q2 ((sortU_mem x g).mp z), x0, r, er, ?_⟩
      have h1 := le0 x q1
      have : x ≠ x0 := fun z => q2 (z ▸ x0g)
      omega
  · have := h.few
    rw [List.length_append, List.length_singleton]
    omega
theorem HL.irrefl {g : List Int} : ¬ HL g g := fun ⟨a, r, b, r', e1, e2, h⟩ => by
  rw [e1] at e2
  cases e2
  omega
theorem HL.le {g g' : List Int} (h : HL g g') : g ≤ g' := by
  obtain ⟨a, r, b, r', rfl, rfl, h⟩ := h
  exact List.le_of_lt (List.cons_lt_cons_iff.mpr (.inl h))
theorem Out.pcs {L : Ar} {gs : List (List Int)} (h : Out L gs []) : Pcs L gs :=
  ⟨h.srt, h.ne, h.mem, fun a t => (h.cov a t).elim (fun z => nomatch z) id, List.Pairwise.imp (S := fun a b => a ≠ b) (fun k e => HL.irrefl (e ▸ k)) h.hl⟩
/-- the inner loop's state -/
structure Inn (L : Ar) (x0 : Int) (g : List Int) (k : Nat) : Prop where
  grp : Grp L x0 g
  le : k ≤ g.length
  done : ∀ i x, i < k → g[i]? = some x → ∀ p ∈ L, (x = p.1 ∨ x = p.2) → p.1 ∈ g ∧ p.2 ∈ g
theorem s_pieces {L : Ar} (h : Good L) : ∃ gs, m_pieces_in [eA L] = pure (.rt (.list (gs.map eT))) ∧ Pcs L gs ∧ gs.Pairwise HL ∧ gs.length ≤ 7 := by
  have hu := s_usedc (L := L) (by have := h.len; omega)
  unfold m_pieces_in
  simp only [M.pure_bind', M.bind_assoc', List.length_cons, List.length_nil, decide_true, M.guard_true, Nat.zero_add, Nat.reduceAdd, show seqM (.tuple ([0, 1, 2, 3, 4, 5, 6].map PyData.int)) = pure ([0, 1, 2, 3, 4, 5, 6].map PyData.int) from rfl, List.length_map, szl (show 7 ≤ 1000 by decide), szl (show 0 ≤ 1000 by decide)]
  rw [hu, M.pure_bind', show PyData.list ((usedN L).map PyData.int) = eR (usedN L) from rfl]
  refine whileM_thn (R := fun m => ∃ gs, m = pure (.rt (.list (gs.map eT))) ∧ Pcs L gs ∧ gs.Pairwise HL ∧ gs.length ≤ 7) (fun s : List (List Int) × List Int => (s.1.map eT, eR s.2)) ([], usedN L)
    (fun s => Out L s.1 s.2) (fun s => decide (0 < (s.2.length : Int))) (fun s => s.2.length) ?_ ?_ (Out.start h) ?_ ?_
  · rintro ⟨gs, left⟩ _
    show (lenD [eR left] >>= fun x => ordM .gt x (.int 0)) = _
    unfold eR
    rw [len_list, List.length_map, M.pure_bind', ord_gt]
  · rintro ⟨gs, left⟩ ho ht
    cases left with
    | nil => cases ht
    | cons x0 rest =>
      have t0 : touch L x0 := ho.lt x0 List.mem_cons_self
      simp only [show atD (eR (x0 :: rest)) (.int 0) = pure (.int x0) from atD_list (i := 0) rfl, M.pure_bind', M.bind_assoc', List.length_cons, List.length_nil, szl (show 0 + 1 ≤ 1000 by decide), M.guard_true]
      refine whileM_thn (R := fun m => ∃ s' : List (List Int) × List Int, m = pure (.nx (s'.1.map eT, eR s'.2)) ∧ Out L s'.1 s'.2 ∧ s'.2.length < (x0 :: rest).length) (fun s : List Int × Nat => (s.1.map PyData.int, PyData.int (s.2 : Nat))) ([x0], 0)
        (fun s => Inn L x0 s.1 s.2) (fun s => decide (s.2 < s.1.length)) (fun s => 7 - s.2) ?_ ?_ ?_ ?_ ?_
      · rintro ⟨g, k⟩ _
        simp only [M.pure_bind', len_list, List.length_map, ord_lt]
        congr 1
        rw [Bool.eq_iff_iff]
        simp
      · rintro ⟨g, k⟩ hi hk
        have hk' : k < g.length := of_decide_eq_true hk
        obtain ⟨x, hx⟩ : ∃ x, g[k]? = some x := ⟨g[k], List.getElem?_eq_getElem hk'⟩
        have xg : x ∈ g := List.mem_of_getElem? hx
        have g7 : g.length ≤ 7 := hi.grp.len h t0
        simp only [seqM, eA, M.pure_bind', M.bind_assoc']
        refine forM_thn (R := fun m => ∃ s' : List Int × Nat, m = pure (.nx (s'.1.map PyData.int, PyData.int (s'.2 : Nat))) ∧ Inn L x0 s'.1 s'.2 ∧ 7 - s'.2 < 7 - k) eP (fun g' : List Int => g'.map PyData.int) L g
          (fun (pre : Ar) (g' : List Int) => Grp L x0 g' ∧ (∀ y ∈ g, y ∈ g') ∧ (∀ (i : Nat) (z : Int), g[i]? = some z → g'[i]? = some z) ∧ ∀ p ∈ pre, (x = p.1 ∨ x = p.2) → p.1 ∈ g' ∧ p.2 ∈ g') ?_ ⟨hi.grp, fun _ q => q, fun _ _ q => q, nofun⟩ ?_
        · rintro pre p ⟨post, e⟩ g' ⟨i1, i2, i3, i4⟩
          have pL : p ∈ L := by rw [e]; simp
          have i5 := i1.next (i2 x xg) pL
          refine ⟨nextG x g' p, ?_, i5, fun y hy => nextG_sub (i2 y hy), fun i z q => nextG_get (i3 i z q), fun q hq ex => ?_⟩
          · have g7' := i1.len h t0
            have g8 := i5.len h t0
            simp only [patN, M.pure_bind', show atD (.list (g'.map PyData.int)) (.int (k : Nat)) = pure (.int x) from atD_list (by rw [List.getElem?_map, i3 k x hx]; rfl), in_eP]
            unfold nextG
            by_cases ex : x = p.1 ∨ x = p.2
            · rw [decide_eq_true ex, M.if_true, if_pos ex]
              simp only [seqM, eP, M.pure_bind', M.bind_assoc', List.length_cons, List.length_nil, szl (show 0 + 1 + 1 ≤ 1000 by decide), M.guard_true]
              rw [show ([.int p.1, .int p.2] : List PyData) = [p.1, p.2].map PyData.int from rfl, compM_eq (c := PyData.int) (tb := fun y => !decide (y ∈ g')) (g := PyData.int)]
              · simp only [M.pure_bind', extM]
                rw [M.guard_of, thn_nx, List.map_append]
                rw [List.length_map, List.length_map]
                have := List.length_filter_le (fun y => !decide (y ∈ g')) [p.1, p.2]
                exact szl (by have e2 : [p.1, p.2].length = 2 := rfl; omega)
              · exact fun _ _ => rfl
              · exact fun y _ => nin_eR g' y
              · exact fun _ _ _ => rfl
            · rw [decide_eq_false ex, M.if_false, if_neg ex]
              rfl
          · rcases List.mem_append.mp hq with q1 | q1
            · obtain ⟨k1, k2⟩ := i4 q q1 ex
              exact ⟨nextG_sub k1, nextG_sub k2⟩
            · cases List.mem_singleton.mp q1
              exact nextG_has ex
        · rintro g' ⟨i1, i2, i3, i4⟩
          refine ⟨(g', k + 1), rfl, ⟨i1, ?_, fun i z hz e => ?_⟩, ?_⟩
          · have := (List.getElem?_eq_some_iff.mp (i3 k x hx)).1
            exact this
          · intro p hp ez
            rcases Nat.lt_succ_iff_lt_or_eq.mp hz with q | q
            · have hz' : i < g.length := by omega
              have e2 := i3 i _ (List.getElem?_eq_getElem hz')
              rw [e] at e2
              cases e2
              obtain ⟨k1, k2⟩ := hi.done i _ q (List.getElem?_eq_getElem hz') p hp ez
              exact ⟨i2 _ k1, i2 _ k2⟩
            · subst q
              have e2 := i3 i x hx
              rw [e] at e2
              cases e2
              exact i4 p hp ez
          · omega
      · exact ⟨⟨List.mem_singleton.mpr rfl, by simp, fun y hy => by cases List.mem_singleton.mp hy; exact .refl _⟩, Nat.zero_le _, fun i x hi => absurd hi (by omega)⟩
      · show 7 - 0 < 1000
        omega
      · rintro ⟨g, k⟩ hi hk
        have hk' : ¬ k < g.length := of_decide_eq_false hk
        have g7 : g.length ≤ 7 := hi.grp.len h t0
        have whole : ∀ y, y ∈ g ↔ Cn L x0 y := hi.grp.whole fun x hx p hp e => by
          obtain ⟨i, hi2⟩ := List.getElem?_of_mem hx
          have : i < g.length := (List.getElem?_eq_some_iff.mp hi2).1
          exact hi.done i x (by omega) hi2 p hp e
        obtain ⟨o1, o2⟩ := ho.next whole
        refine ⟨(gs ++ [sortU g], (x0 :: rest).filter fun y => !decide (y ∈ g)), ?_, o1, o2⟩
        have few : gs.length + (x0 :: rest).length ≤ 7 := ho.few
        rw [List.length_cons] at few
        simp only [show PyData.list (g.map PyData.int) = eR g from rfl, setSort_eR (show g.length < 64 by omega), M.pure_bind', M.bind_assoc', show ∀ xs, tupleC [.list xs] = pure (.tuple xs) from fun _ => rfl, List.length_map, szlt (show gs.length ≤ 1000 by omega), M.guard_true]
        simp only [show seqM (eR (x0 :: rest)) = pure ((x0 :: rest).map PyData.int) from rfl, M.pure_bind', List.length_map, szl (show (x0 :: rest).length ≤ 1000 by rw [List.length_cons]; omega), M.guard_true]
        rw [compM_eq (c := PyData.int) (tb := fun y => !decide (y ∈ g)) (g := PyData.int)]
        · simp only [M.pure_bind']
          rw [List.map_append]
          rfl
        · exact fun _ _ => rfl
        · exact fun y _ => nin_eR g y
        · exact fun _ _ _ => rfl
  · have := (Out.start h).few
    show (usedN L).length < 1000
    simp at this
    omega
  · rintro ⟨gs, left⟩ ho ht
    have : left = [] := by
      cases left with
      | nil => rfl
      | cons x r =>
        have := of_decide_eq_false ht
        simp at this
    subst this
    have := ho.few
    simp at this
    exact ⟨gs, rfl, ho.pcs, ho.hl, this⟩
end Lw

set_option Elab.async false
set_option linter.all false
set_option maxRecDepth 100000
set_option maxHeartbeats 2000000
/-! lots: whether they go on behind an end -/
namespace Lw
open PySem PySem.Spec PyProof.Rows L2 DL Gr Eu
theorem odd_mem {L : Ar} (h : Good L) {v : Int} : v ∈ oddN L ↔ dg L v % 2 = 1 := by
  unfold oddN
  rw [List.mem_filter, beq_iff_eq]
  refine ⟨fun z => z.2, fun z => ⟨pips_mem (touch_pip h (dg_touch.mp ?_)), z⟩⟩
  have := dg_nn v L
  omega
theorem odd_srt {L : Ar} : (oddN L).Pairwise (· < ·) := List.Pairwise.filter _ (by decide)
theorem odd_nd {L : Ar} : (oddN L).Nodup := odd_srt.imp fun h => Int.ne_of_lt h
theorem odd_nil {L : Ar} (h : Good L) : oddN L = [] ↔ ∀ v, dg L v % 2 = 0 := by
  constructor
  · intro e v
    have : ¬ dg L v % 2 = 1 := fun z => by
      have := (odd_mem h).mpr z
      rw [e] at this
      cases this
    omega
  · intro e
    refine List.eq_nil_iff_forall_not_mem.mpr fun v hv => ?_
    have := (odd_mem h).mp hv
    have := e v
    omega
theorem df_sum {m : Ar} (h : ∀ p ∈ m, (0 ≤ p.1 ∧ p.1 ≤ 6) ∧ 0 ≤ p.2 ∧ p.2 ≤ 6) : df m 0 + df m 1 + df m 2 + df m 3 + df m 4 + df m 5 + df m 6 = 0 := by
  induction m with
  | nil => rfl
  | cons p r ih =>
    have ih := ih fun q hq => h q (.tail _ hq)
    have hp := h p List.mem_cons_self
    have one : ∀ x : Int, 0 ≤ x → x ≤ 6 → (if x = 0 then (1 : Int) else 0) + (if x = 1 then 1 else 0) + (if x = 2 then 1 else 0) + (if x = 3 then 1 else 0) + (if x = 4 then 1 else 0) + (if x = 5 then 1 else 0) + (if x = 6 then 1 else 0) = 1 := fun x h1 h2 => by
      have : x = 0 ∨ x = 1 ∨ x = 2 ∨ x = 3 ∨ x = 4 ∨ x = 5 ∨ x = 6 := by omega
      rcases this with rfl | rfl | rfl | rfl | rfl | rfl | rfl <;> decide
    have h1 := one p.1 hp.1.1 hp.1.2
    have h2 := one p.2 hp.2.1 hp.2.2
    simp only [df]
    omega
theorem two_zero {m : Ar} (h : ∀ p ∈ m, (0 ≤ p.1 ∧ p.1 ≤ 6) ∧ 0 ≤ p.2 ∧ p.2 ≤ 6) {a b : Int} (ha : 0 ≤ a ∧ a ≤ 6) (hb : 0 ≤ b ∧ b ≤ 6) (ne : a ≠ b) (z : ∀ v, v ≠ a → v ≠ b → df m v = 0) : df m a + df m b = 0 := by
  have s := df_sum h
  have ca : a = 0 ∨ a = 1 ∨ a = 2 ∨ a = 3 ∨ a = 4 ∨ a = 5 ∨ a = 6 := by omega
  have cb : b = 0 ∨ b = 1 ∨ b = 2 ∨ b = 3 ∨ b = 4 ∨ b = 5 ∨ b = 6 := by omega
  have k : ∀ v : Int, v = a ∨ v = b ∨ df m v = 0 := fun v => by
    by_cases h1 : v = a
    · exact .inl h1
    · by_cases h2 : v = b
      · exact .inr (.inl h2)
      · exact .inr (.inr (z v h1 h2))
  have k0 := k 0
  have k1 := k 1
  have k2 := k 2
  have k3 := k 3
  have k4 := k 4
  have k5 := k 5
  have k6 := k 6
  rcases ca with rfl | rfl | rfl | rfl | rfl | rfl | rfl <;> rcases cb with rfl | rfl | rfl | rfl | rfl | rfl | rfl <;> first | exact absurd rfl ne | (simp at k0 k1 k2 k3 k4 k5 k6; omega)
theorem tn_pips {L m : Ar} (t : Tn L m) (h : ∀ p ∈ L, 0 ≤ p.1 ∧ p.1 ≤ 6 ∧ 0 ≤ p.2 ∧ p.2 ≤ 6) : ∀ p ∈ m, (0 ≤ p.1 ∧ p.1 ≤ 6) ∧ 0 ≤ p.2 ∧ p.2 ≤ 6 := fun p hp => by
  rcases t.symm.mem p hp with q | q
  · have := h p q
    omega
  · have := h _ q
    dsimp only at this
    omega
/-- what odd pips let a row begin with -/
theorem urow_iff {L : Ar} (h : Good L) (hc : Conn L) {p : Int} (hp : touch L p) : URow L p ↔ oddN L = [] ∨ ((oddN L).length = 2 ∧ p ∈ oddN L) := by
  constructor
  · intro u
    obtain ⟨b, hb⟩ := u.odd
    by_cases e : p = b
    · exact .inl ((odd_nil h).mpr fun v => by rw [hb, if_pos e])
    · refine .inr ?_
      have pm : (oddN L).Perm [p, b] := (List.perm_ext_iff_of_nodup odd_nd (by simp [e])).mpr fun v => by
        rw [odd_mem h, hb, if_neg e]
        simp only [List.mem_cons, List.not_mem_nil, or_false]
        split <;> rename_i k
        · exact ⟨fun _ => k, fun _ => rfl⟩
        · exact ⟨fun z => by omega, fun z => absurd z k⟩
      exact ⟨pm.length_eq, pm.mem_iff.mpr List.mem_cons_self⟩
  · rintro (e | ⟨e, hm⟩)
    · exact urow_even hc hp ((odd_nil h).mp e)
    · obtain ⟨b, hb⟩ : ∃ b, (oddN L).Perm [p, b] := by
        match hL : oddN L, e, hm with
        | [x, y], _, hm =>
          rcases List.mem_cons.mp hm with e | hm
          · exact ⟨y, by rw [e]⟩
          · rw [← List.mem_singleton.mp hm]
            exact ⟨x, .swap _ _ _⟩
      have ne : p ≠ b := fun z => by
        have := hb.nodup_iff.mp odd_nd
        rw [z] at this
        simp at this
      have ho : ∀ v, dg L v % 2 = if v = p ∨ v = b then 1 else 0 := fun v => by
        have := (odd_mem h (v := v)).symm.trans hb.mem_iff
        simp only [List.mem_cons, List.not_mem_nil, or_false] at this
        split <;> rename_i k
        · exact this.mpr k
        · have : ¬ dg L v % 2 = 1 := fun z => k (this.mp z)
          omega
      have hbm : b ∈ oddN L := hb.mem_iff.mpr (.tail _ List.mem_cons_self)
      have pb : 0 ≤ b ∧ b ≤ 6 := touch_pip h (dg_touch.mp (by have := (odd_mem h).mp hbm; have := dg_nn b L; omega))
      exact urow_odd ne hc ho fun m t z => two_zero (tn_pips t h.pip) (touch_pip h hp) pb ne z
theorem urow_nil (p : Int) : URow [] p := ⟨[], p, rfl, [], .nil, .refl _⟩
open Classical in
noncomputable def ub (L : Ar) (p : Int) : Bool := decide (URow L p)
theorem ub_iff {L : Ar} {p : Int} : ub L p = true ↔ URow L p := by
  unfold ub
  exact @decide_eq_true_iff _ (Classical.propDecidable _)
theorem s_go {L : Ar} (h : Good L) (p : Int) : m_can_go_on [eA L, .int p] = pure (.rt (.bool (ub L p))) := by
  suffices hs : ∃ b : Bool, m_can_go_on [eA L, .int p] = pure (.rt (.bool b)) ∧ (b = true ↔ URow L p) by
    obtain ⟨b, b1, b2⟩ := hs
    rw [b1, show b = ub L p from Bool.eq_iff_iff.mpr (b2.trans ub_iff.symm)]
  obtain ⟨gs, hG, pc, _, g7⟩ := s_pieces h
  have l8 := h.len
  unfold m_can_go_on
  simp only [M.pure_bind', M.bind_assoc', List.length_cons, List.length_nil, decide_true, M.guard_true, Nat.zero_add, hG, s_odd (show L.length ≤ 1000 by omega), fin_rt]
  rw [show lenD [eA L] = pure (.int L.length) by unfold eA; rw [len_tuple, List.length_map], M.pure_bind', eqM_int, M.pure_bind']
  by_cases h0 : L = []
  · subst h0
    rw [show (((([] : Ar).length : Nat) : Int) == 0) = true from rfl, M.if_true]
    exact ⟨true, rfl, fun _ => urow_nil p, fun _ => rfl⟩
  have e0 : (((L.length : Nat) : Int) == 0) = false := by
    simp
    exact h0
  rw [e0, M.if_false, len_list, List.length_map, M.pure_bind', ord_gt, M.pure_bind']
  by_cases h1 : 1 < gs.length
  · rw [decide_eq_true (by omega), M.if_true, M.pure_bind', M.if_true]
    refine ⟨false, rfl, fun z => (nomatch z), fun u => ?_⟩
    have := (conn_few pc).mpr u.conn
    omega
  rw [decide_eq_false (by omega), M.if_false]
  match gs, pc, h1, hG with
  | [], pc, _, _ => exact absurd (pcs_nil pc) h0
  | g :: gt, pc, h1, hG =>
  rw [show atD (.list ((g :: gt).map eT)) (.int 0) = pure (eT g) from atD_list (i := 0) rfl, M.pure_bind']
  have nin : ninM (.int p) (eT g) = pure (!decide (p ∈ g)) := by
    show M.guard (SeqAt.shaped (.int p) && SeqAt.shaped (eT g)) (pure (!((g.map PyData.int).any fun z => PyData.eqv z (.int p)))) = _
    rw [shaped_int, shaped_eT, DL.any_ints]
    rfl
  rw [nin, M.pure_bind']
  have hd := head_touch pc h1 p
  by_cases hp : ¬ p ∈ g
  · rw [decide_eq_false hp]
    simp only [Bool.not_false, M.if_true, M.pure_bind']
    exact ⟨false, rfl, fun z => (nomatch z), fun u => absurd (hd.mpr (u.first h0)) hp⟩
  have hp : p ∈ g := Classical.not_not.mp hp
  rw [decide_eq_true hp]
  simp only [Bool.not_true, M.if_false]
  have hc : Conn L := (conn_few pc).mp (by omega)
  have ui := urow_iff h hc (hd.mp hp)
  rw [show lenD [eR (oddN L)] = pure (.int (oddN L).length) by unfold eR; rw [len_list, List.length_map], M.pure_bind', eqM_int, M.pure_bind']
  by_cases hl : oddN L = []
  · rw [hl]
    rw [show (((([] : List Int).length : Nat) : Int) == 0) = true from rfl, M.if_true]
    exact ⟨true, rfl, fun _ => ui.mpr (.inl hl), fun _ => rfl⟩
  have l0 : ((((oddN L).length : Nat) : Int) == 0) = false := by simp [hl]
  rw [l0, M.if_false, M.pure_bind', eqM_int, M.pure_bind']
  by_cases h2 : (oddN L).length = 2
  · have e2 : ((((oddN L).length : Nat) : Int) == 2) = true := by simp [h2]
    rw [e2, M.if_true, in_eR, M.pure_bind']
    refine ⟨_, rfl, ?_⟩
    rw [decide_eq_true_eq, ui]
    exact ⟨fun z => .inr ⟨h2, z⟩, fun z => z.elim (fun z => absurd z hl) fun z => z.2⟩
  · have e2 : ((((oddN L).length : Nat) : Int) == 2) = false := by
      simp
      omega
    rw [e2, M.if_false]
    exact ⟨false, rfl, fun z => (nomatch z), fun u => (ui.mp u).elim (fun z => absurd z hl) fun z => absurd z.1 h2⟩
end Lw

set_option Elab.async false
set_option linter.all false
set_option maxRecDepth 100000
set_option maxHeartbeats 2000000
namespace DL
open PySem PySem.Spec PyProof.Rows L2
section
variable {α β γ δ : Type}
/-- a for that keeps what is wanted -/
theorem forM_keep {pat : PyData → M δ} {body : List PyData → δ → M (Fl (List PyData))} {enc : α → PyData} (f : α → Bool) : ∀ (xs : List α) (c0 : List PyData), c0.length + xs.length ≤ 1000 →
    (∀ x ∈ xs, ∀ c : List PyData, c.length < 1000 → (pat (enc x) >>= fun p => body c p) = pure (.nx (if f x = true then c ++ [enc x] else c))) → forM pat body (xs.map enc) c0 = pure (.nx (c0 ++ (xs.filter f).map enc))
  | [], c0, _, _ => by rw [List.filter_nil, List.map_nil, List.append_nil]; rfl
  | x :: r, c0, h, hb => by
    rw [List.length_cons] at h
    rw [List.map_cons, forM, hb x List.mem_cons_self c0 (by omega), thn_nx]
    cases e : f x with
    | true =>
      rw [if_pos rfl, forM_keep f r _ (by simp; omega) fun y hy => hb y (.tail _ hy), List.filter_cons_of_pos e, List.map_cons, List.append_assoc]
      rfl
    | false =>
      rw [if_neg (by decide), forM_keep f r _ (by omega) fun y hy => hb y (.tail _ hy), List.filter_cons_of_neg (by rw [e]; decide)]
/-- a for that ends the def at the first that is wanted -/
theorem forM_first {pat : PyData → M δ} {body : Unit → δ → M (Fl Unit)} {enc : α → PyData} (f : α → Bool) (Q : α → PyData → Prop) : ∀ (xs : List α),
    (∀ x ∈ xs, f x = false → (pat (enc x) >>= fun q => body () q) = pure (.nx ())) → (∀ x ∈ xs, f x = true → ∃ d, (pat (enc x) >>= fun q => body () q) = pure (.rt d) ∧ Q x d) →
    (∃ x ∈ xs, f x = true) → ∃ x ∈ xs, ∃ d, f x = true ∧ Q x d ∧ forM pat body (xs.map enc) () = pure (.rt d)
  | [], _, _, h => by obtain ⟨x, hx, _⟩ := h; cases hx
  | x :: r, h0, h1, h => by
    cases e : f x with
    | true =>
      obtain ⟨d, e1, e2⟩ := h1 x List.mem_cons_self e
      exact ⟨x, List.mem_cons_self, d, e, e2, by rw [List.map_cons, forM, e1, thn_rt]⟩
    | false =>
      obtain ⟨y, hy, d, k1, k2, k3⟩ := forM_first f Q r (fun y hy => h0 y (.tail _ hy)) (fun y hy => h1 y (.tail _ hy)) (by
        obtain ⟨y, hy, q⟩ := h
        rcases List.mem_cons.mp hy with rfl | hy
        · rw [e] at q; cases q
        · exact ⟨y, hy, q⟩)
      exact ⟨y, .tail _ hy, d, k1, k2, by rw [List.map_cons, forM, h0 x List.mem_cons_self e, thn_nx, k3]⟩
end
/-! ### dicts whose values are all True -/
section
variable {α : Type} [DecidableEq α] {enc : α → PyData} {ky : α → NestedKey}
def ins1 (F : List α) (x : α) : List α := if x ∈ F then F else F ++ [x]
theorem ins1_nd {F : List α} {x : α} (h : F.Nodup) : (ins1 F x).Nodup := by
  unfold ins1
  split
  · exact h
  · rename_i n
    exact List.nodup_append.mpr ⟨h, by simp, fun a ha b hb e => n (by rw [List.mem_singleton.mp hb] at e; rw [← e]; exact ha)⟩
theorem ins1_mem {F : List α} {x y : α} : y ∈ ins1 F x ↔ y ∈ F ∨ y = x := by
  unfold ins1
  split
  · rename_i n
    exact ⟨.inl, fun h => h.elim id fun e => e ▸ n⟩
  · rw [List.mem_append, List.mem_singleton]
theorem ins1_len (F : List α) (x : α) : (ins1 F x).length ≤ F.length + 1 := by
  unfold ins1
  split <;> simp
theorem ins1_put (hk : ∀ x, keyN (enc x) = some (ky x)) (inj : ∀ x y, ky x = ky y → x = y) (F : List α) (x : α) :
    dPut (F.map fun x => (enc x, PyData.bool true)) (enc x) (.bool true) = (ins1 F x).map fun x => (enc x, PyData.bool true) := by
  have hg : (dGet (F.map fun x => (enc x, PyData.bool true)) (enc x)).isSome = decide (x ∈ F) := by
    unfold dGet
    rw [Option.isSome_map, Bool.eq_iff_iff, List.find?_isSome]
    simp only [List.mem_map, hk, decide_eq_true_eq]
    constructor
    · rintro ⟨_, ⟨y, hy, rfl⟩, e⟩
      rw [hk, Option.some.injEq] at e
      exact inj _ _ e ▸ hy
    · exact fun h => ⟨_, ⟨x, h, rfl⟩, hk x⟩
  unfold dPut ins1
  rw [hg]
  by_cases h : x ∈ F
  · rw [if_pos (decide_eq_true h), if_pos h, List.map_map]
    refine List.map_congr_left fun y _ => ?_
    dsimp only [Function.comp]
    split <;> rfl
  · rw [if_neg (by simpa using h), if_neg h, List.map_append]
    rfl
end
theorem keyOk_eP (p : Int × Int) : keyOk (eP p) = true := by
  rw [show keyOk (eP p) = decide ((kP p).depth ≤ 8) from keyOk_tup (keyN_eP p)]
  have := kP_depth p
  exact decide_eq_true (by omega)
def enP (p : Int × Int) : PyData × PyData := (eP p, .bool true)
theorem put_enP (F : List (Int × Int)) (p : Int × Int) : dPut (F.map enP) (eP p) (.bool true) = (ins1 F p).map enP := ins1_put keyN_eP (fun _ _ h => kP_inj.mp h) F p
end DL
namespace Lw
open PySem PySem.Spec PyProof.Rows L2 DL Gr Eu
theorem bone_low {p : Int × Int} (h : p.1 ≤ p.2) : bone p = p := by
  unfold bone
  rw [if_neg (by omega)]
  by_cases k : p.2 > p.1
  · rw [if_pos k]
  · rw [if_neg k]
    exact Prod.ext rfl (by dsimp only; omega)
theorem bone_high {p : Int × Int} (h : p.2 ≤ p.1) : bone p = sw p := by
  unfold bone sw
  rw [if_neg (show ¬ p.2 > p.1 by omega)]
  by_cases k : p.2 < p.1
  · rw [if_pos k]
  · rw [if_neg k]
    exact Prod.ext (by dsimp only; omega) rfl
theorem bone_or (p : Int × Int) : bone p = p ∨ bone p = sw p := (Int.le_total p.1 p.2).imp bone_low bone_high
theorem bone_sw (p : Int × Int) : bone (sw p) = bone p := by
  rcases Int.le_total p.1 p.2 with h | h
  · rw [bone_low h, bone_high (by unfold sw; exact h)]
    rfl
  · rw [bone_high h, bone_low (by unfold sw; exact h)]
theorem bone_is_low (p : Int × Int) : (bone p).1 ≤ (bone p).2 := by
  rcases Int.le_total p.1 p.2 with h | h
  · rw [bone_low h]; exact h
  · rw [bone_high h]; exact h
/-- the two ways to lay a bone -/
theorem bone_eq {p q : Int × Int} (h : p.1 ≤ p.2) : bone q = p ↔ q = p ∨ q = sw p := by
  constructor
  · rintro rfl
    rcases bone_or q with e | e
    · exact .inl e.symm
    · rw [e]
      exact .inr rfl
  · rintro (rfl | rfl)
    · exact bone_low h
    · rw [bone_sw, bone_low h]
theorem s_bone_of (a b : Int) : m_bone_of [.int a, .int b] = pure (.rt (eP (bone (a, b)))) := by
  unfold m_bone_of
  simp only [M.pure_bind', M.bind_assoc', ord_le, List.length_cons, List.length_nil, Nat.zero_add, Nat.reduceAdd, szl (show 2 ≤ 1000 by decide), M.guard_true]
  by_cases h : a ≤ b
  · rw [decide_eq_true h, M.if_true, bone_low h]
    rfl
  · rw [decide_eq_false h, M.if_false, bone_high (show (a, b).2 ≤ (a, b).1 by show b ≤ a; omega)]
    rfl
theorem s_without {L : Ar} {p : Int × Int} (h : p ∈ L) (hl : L.length ≤ 8) : m_without_bone [eA L, eP p] = pure (.rt (eA (L.erase p))) := by
  unfold m_without_bone eA
  simp only [M.pure_bind', M.bind_assoc', show isSeq (.tuple (L.map eP)) = true from rfl, M.guard_true, idx_pairs h (show L.length ≤ 1000 by omega), intM, show ∀ (i j : Int), addD (.int i) (.int j) = pure (.int (i + j)) from fun _ _ => rfl, sliceD]
  rw [show ((L.idxOf p : Nat) : Int) + 1 = ((L.idxOf p + 1 : Nat) : Int) from rfl, cut_to, cut_from]
  rw [show ∀ a b : List PyData, a.length + b.length ≤ 1000 → addD (.tuple a) (.tuple b) = pure (.tuple (a ++ b)) from fun a b h => add_tuple h]
  · rw [M.pure_bind', ← List.map_take, ← List.map_drop, ← List.map_append, erase_cut p h]
  · rw [List.length_take, List.length_drop, List.length_map]
    omega
theorem lot_erase {L : Ar} (h : Lot L) (p : Int × Int) : Lot (L.erase p) := ⟨good_erase h.good p, fun q hq => h.low q (List.mem_of_mem_erase hq)⟩
/-- a list of pairs, each once, sorted -/
theorem sort_once {F : Ar} (nd : F.Nodup) (hl : F.length ≤ 1000) : ∃ fs : Ar, (M.guard (sortable (F.map eP)) (pure (sortD (F.map eP))) : M (List PyData)) = pure (fs.map eP) ∧ fs.Pairwise lt2 ∧ (∀ p, p ∈ fs ↔ p ∈ F) ∧ fs.length = F.length := by
  obtain ⟨fs, e1, e2, e3⟩ := sort_pairs (L := F) hl
  refine ⟨fs, e1, ?_, fun p => e2.mem_iff.symm, e2.length_eq.symm⟩
  refine List.Pairwise.imp_of_mem (fun {a b} ha hb hh => ?_) (e3.and (e2.nodup_iff.mp nd))
  obtain ⟨h1, h2⟩ := hh
  have h1 := of_decide_eq_true h1
  unfold lt2
  by_cases k : a.1 = b.1
  · have : a.2 ≠ b.2 := fun z => h2 (Prod.ext k z)
    omega
  · omega
theorem s_laid {L : Ar} (h : Lot L) (p : Int) : ∃ fs : Ar, m_laid_from [eA L, .int p] = pure (.rt (.list (fs.map eP))) ∧ fs.Pairwise lt2 ∧ (∀ q, q ∈ fs ↔ q.1 = p ∧ bone q ∈ L) ∧ fs.length ≤ 16 := by
  have l8 := h.good.len
  unfold m_laid_from eA
  simp only [M.pure_bind', M.bind_assoc', show seqM (.tuple (L.map eP)) = pure (L.map eP) from rfl]
  refine forM_thn (R := fun m => ∃ fs : Ar, m = pure (.rt (.list (fs.map eP))) ∧ fs.Pairwise lt2 ∧ (∀ q, q ∈ fs ↔ q.1 = p ∧ bone q ∈ L) ∧ fs.length ≤ 16) eP (fun F : Ar => F.map enP) L []
    (fun pre F => F.Nodup ∧ (∀ q, q ∈ F ↔ q.1 = p ∧ bone q ∈ pre) ∧ F.length ≤ pre.length * 2) ?_ ⟨.nil, by simp, by simp⟩ ?_
  · rintro pre b ⟨post, hx⟩ F ⟨f1, f2, f3⟩
    have lpre : pre.length + 1 ≤ 8 := by
      have := congrArg List.length hx
      simp at this
      omega
    have hb : b.1 ≤ b.2 := h.low b (by rw [hx]; simp)
    have sz : ∀ G : Ar, G.length ≤ 900 → decide ((G.map enP).length < sizeLine) = true := fun G hG => decide_eq_true (by rw [List.length_map, sizeLine_eq]; omega)
    rw [show pat2 (eP b) = pure (.int b.1, .int b.2) from rfl, M.pure_bind']
    dsimp only
    simp only [M.pure_bind', M.bind_assoc', eqM_int, List.length_cons, List.length_nil, Nat.zero_add, Nat.reduceAdd, szl (show 2 ≤ 1000 by decide), M.guard_true]
    rw [show PyData.tuple [.int b.1, .int b.2] = eP b from rfl, show PyData.tuple [.int b.2, .int b.1] = eP (sw b) from rfl, keyOk_eP, keyOk_eP]
    -- the first way
    have st1 : ∃ G : Ar, (if (b.1 == p) = true then (M.guard (true && decide ((F.map enP).length < sizeLine)) (pure (.nx (dPut (F.map enP) (eP b) (.bool true)))) : M (Fl (List (PyData × PyData)))) else pure (.nx (F.map enP))) = pure (.nx (G.map enP)) ∧ G.Nodup ∧ (∀ q, q ∈ G ↔ q ∈ F ∨ (q = b ∧ b.1 = p)) ∧ G.length ≤ F.length + 1 := by
      by_cases e : b.1 = p
      · rw [if_pos (by simpa using e), sz F (by omega), Bool.true_and, M.guard_true, put_enP]
        refine ⟨_, rfl, ins1_nd f1, fun q => ?_, ins1_len _ _⟩
        rw [ins1_mem]
        exact ⟨fun z => z.imp id fun z => ⟨z, e⟩, fun z => z.imp id fun z => z.1⟩
      · rw [if_neg (by simpa using e)]
        exact ⟨F, rfl, f1, fun q => ⟨.inl, fun z => z.elim id fun z => absurd z.2 e⟩, by omega⟩
    obtain ⟨G, g1, g2, g3, g4⟩ := st1
    rw [g1, thn_nx]
    have st2 : ∃ G2 : Ar, (if (b.2 == p) = true then (M.guard (true && decide ((G.map enP).length < sizeLine)) (pure (.nx (dPut (G.map enP) (eP (sw b)) (.bool true)))) : M (Fl (List (PyData × PyData)))) else pure (.nx (G.map enP))) = pure (.nx (G2.map enP)) ∧ G2.Nodup ∧ (∀ q, q ∈ G2 ↔ q ∈ G ∨ (q = sw b ∧ b.2 = p)) ∧ G2.length ≤ G.length + 1 := by
      by_cases e : b.2 = p
      · rw [if_pos (by simpa using e), sz G (by omega), Bool.true_and, M.guard_true, put_enP]
        refine ⟨_, rfl, ins1_nd g2, fun q => ?_, ins1_len _ _⟩
        rw [ins1_mem]
        exact ⟨fun z => z.imp id fun z => ⟨z, e⟩, fun z => z.imp id fun z => z.1⟩
      · rw [if_neg (by simpa using e)]
        exact ⟨G, rfl, g2, fun q => ⟨.inl, fun z => z.elim id fun z => absurd z.2 e⟩, by omega⟩
    obtain ⟨G2, k1, k2, k3, k4⟩ := st2
    rw [k1, thn_nx]
    refine ⟨G2, rfl, k2, fun q => ?_, by rw [List.length_append, List.length_singleton, Nat.add_mul]; omega⟩
    rw [k3, g3, f2, List.mem_append, List.mem_singleton, bone_eq hb]
    constructor
    · rintro ((z | ⟨rfl, e⟩) | ⟨rfl, e⟩)
      · exact ⟨z.1, .inl z.2⟩
      · exact ⟨e, .inr (.inl rfl)⟩
      · exact ⟨e, .inr (.inr rfl)⟩
    · rintro ⟨e, z | rfl | rfl⟩
      · exact .inl (.inl ⟨e, z⟩)
      · exact .inl (.inr ⟨rfl, e⟩)
      · exact .inr ⟨rfl, e⟩
  · rintro F ⟨f1, f2, f3⟩
    rw [show (F.map enP).map (·.1) = F.map eP by rw [List.map_map]; rfl]
    obtain ⟨fs, e1, e2, e3, e4⟩ := sort_once f1 (by omega)
    rw [e1]
    exact ⟨fs, rfl, e2, fun q => (e3 q).trans (f2 q), by omega⟩
theorem s_first_laid {L : Ar} (h : Lot L) : ∃ fs : Ar, m_first_laid [eA L] = pure (.rt (.list (fs.map eP))) ∧ fs.Pairwise lt2 ∧ (∀ q, q ∈ fs ↔ bone q ∈ L) ∧ fs.length ≤ 16 := by
  have l8 := h.good.len
  unfold m_first_laid eA
  simp only [M.pure_bind', M.bind_assoc', show seqM (.tuple (L.map eP)) = pure (L.map eP) from rfl]
  refine forM_thn (R := fun m => ∃ fs : Ar, m = pure (.rt (.list (fs.map eP))) ∧ fs.Pairwise lt2 ∧ (∀ q, q ∈ fs ↔ bone q ∈ L) ∧ fs.length ≤ 16) eP (fun F : Ar => F.map enP) L []
    (fun pre F => F.Nodup ∧ (∀ q, q ∈ F ↔ bone q ∈ pre) ∧ F.length ≤ pre.length * 2) ?_ ⟨.nil, by simp, by simp⟩ ?_
  · rintro pre b ⟨post, hx⟩ F ⟨f1, f2, f3⟩
    have lpre : pre.length + 1 ≤ 8 := by
      have := congrArg List.length hx
      simp at this
      omega
    have hb : b.1 ≤ b.2 := h.low b (by rw [hx]; simp)
    have sz : ∀ G : Ar, G.length ≤ 900 → decide ((G.map enP).length < sizeLine) = true := fun G hG => decide_eq_true (by rw [List.length_map, sizeLine_eq]; omega)
    rw [show pat2 (eP b) = pure (.int b.1, .int b.2) from rfl, M.pure_bind']
    dsimp only
    simp only [M.pure_bind', M.bind_assoc', List.length_cons, List.length_nil, Nat.zero_add, Nat.reduceAdd, szl (show 2 ≤ 1000 by decide), M.guard_true]
    rw [show PyData.tuple [.int b.1, .int b.2] = eP b from rfl, show PyData.tuple [.int b.2, .int b.1] = eP (sw b) from rfl, keyOk_eP, keyOk_eP, put_enP, put_enP]
    have i1 := ins1_len F b
    have i2 := ins1_len (ins1 F b) (sw b)
    rw [sz F (by omega), sz (ins1 F b) (by omega)]
    refine ⟨ins1 (ins1 F b) (sw b), rfl, ins1_nd (ins1_nd f1), fun q => ?_, by rw [List.length_append, List.length_singleton, Nat.add_mul]; omega⟩
    rw [ins1_mem, ins1_mem, f2, List.mem_append, List.mem_singleton, bone_eq hb, or_assoc]
  · rintro F ⟨f1, f2, f3⟩
    rw [show (F.map enP).map (·.1) = F.map eP by rw [List.map_map]; rfl]
    obtain ⟨fs, e1, e2, e3, e4⟩ := sort_once f1 (by omega)
    rw [e1]
    exact ⟨fs, rfl, e2, fun q => (e3 q).trans (f2 q), by omega⟩
end Lw

set_option Elab.async false
set_option linter.all false
set_option maxRecDepth 100000
set_option maxHeartbeats 2000000
/-! lots: rows behind ends; the balanced lay -/
namespace Lw
open PySem PySem.Spec PyProof.Rows L2 DL Gr Eu
theorem tn_bone {l m : Ar} (h : Tn l m) : m.map bone = l.map bone := by
  induction h with
  | nil => rfl
  | keep _ ih => rw [List.map_cons, List.map_cons, ih]
  | turn _ ih => rw [List.map_cons, List.map_cons, ih, bone_sw]
theorem map_low : ∀ {L : Ar}, (∀ p ∈ L, p.1 ≤ p.2) → L.map bone = L
  | [], _ => rfl
  | p :: r, h => by rw [List.map_cons, bone_low (h p List.mem_cons_self), map_low fun q hq => h q (.tail _ hq)]
theorem tn_of_bone : ∀ r : Ar, Tn (r.map bone) r
  | [] => .nil
  | p :: r => by
    rw [List.map_cons]
    rcases bone_or p with e | e
    · rw [e]
      exact .keep (tn_of_bone r)
    · rw [e]
      exact .turn (p := sw p) (tn_of_bone r)
theorem urow_bone {L : Ar} (h : Lot L) {p : Int} : URow L p ↔ ∃ r b, Wk p r b ∧ (r.map bone).Perm L := by
  constructor
  · rintro ⟨r, b, w, m, t, pm⟩
    refine ⟨r, b, w, ?_⟩
    have := pm.map bone
    rw [tn_bone t, map_low h.low] at this
    exact this
  · rintro ⟨r, b, w, pm⟩
    obtain ⟨m, t, q⟩ := (tn_of_bone r).perm pm
    exact ⟨r, b, w, m, t, q⟩
theorem urow_step {L : Ar} (h : Lot L) {p : Int} (u : URow L p) (ne : L ≠ []) : ∃ q : Int × Int, q.1 = p ∧ bone q ∈ L ∧ URow (L.erase (bone q)) q.2 := by
  obtain ⟨r, b, w, pm⟩ := (urow_bone h).mp u
  cases r with
  | nil => exact absurd (List.nil_perm.mp pm) ne
  | cons q t =>
    have hq : bone q ∈ L := pm.mem_iff.mp List.mem_cons_self
    exact ⟨q, w.1, hq, (urow_bone (lot_erase h _)).mpr ⟨t, b, w.2, List.Perm.cons_inv (pm.trans (List.perm_cons_erase hq))⟩⟩
theorem eqv_len0 (n : Nat) : (((n + 1 : Nat) : Int) == 0) = false := beq_eq_false_iff_ne.mpr (by omega)
/-- a laid bone, the lot without it, whether that goes on -/
theorem go_on {β : Type} {L : Ar} (h : Lot L) {q : Int × Int} (hq : bone q ∈ L) (f : Bool → M β) : (atD (eP q) (.int 0) >>= fun x => atD (eP q) (.int 1) >>= fun y => (m_bone_of [x, y]).fin >>= fun z => (m_without_bone [eA L, z]).fin >>= fun w => atD (eP q) (.int 1) >>= fun y => (m_can_go_on [w, y]).fin >>= fun k => truthM k >>= f) = f (ub (L.erase (bone q)) q.2) := by
  rw [(ord2 q).1, M.pure_bind', (ord2 q).2, M.pure_bind', s_bone_of, fin_rt, M.pure_bind', show bone (q.1, q.2) = bone q from rfl, s_without hq h.good.len, fin_rt, M.pure_bind', M.pure_bind', s_go (good_erase h.good _), fin_rt, M.pure_bind']
  rfl
theorem s_behind {L : Ar} (h : Lot L) {p : Int} (u : URow L p) : ∃ r b, m_row_behind [eA L, .int p] = pure (.rt (eW r)) ∧ Wk p r b ∧ (r.map bone).Perm L := by
  have l8 := h.good.len
  unfold m_row_behind
  simp only [M.pure_bind', M.bind_assoc', List.length_cons, List.length_nil, Nat.zero_add, Nat.reduceAdd, decide_true, szl (show 0 ≤ 1000 by decide), szl (show 1 ≤ 1000 by decide), M.guard_true]
  refine whileM_thn (R := fun m => ∃ r b, m = pure (.rt (eW r)) ∧ Wk p r b ∧ (r.map bone).Perm L) (fun s : Ar × Ar × Int => (eW s.1, eA s.2.1, PyData.int s.2.2)) ([], L, p)
    (fun s => Lot s.2.1 ∧ URow s.2.1 s.2.2 ∧ Wk p s.1 s.2.2 ∧ (s.1.map bone ++ s.2.1).Perm L) (fun s => decide (0 < (s.2.1.length : Int))) (fun s => s.2.1.length) ?_ ?_ ⟨h, u, rfl, .refl _⟩ ?_ ?_
  · rintro ⟨found, left, pip⟩ _
    show (lenD [eA left] >>= fun x => ordM .gt x (.int 0)) = _
    rw [show lenD [eA left] = pure (.int left.length) by unfold eA; rw [len_tuple, List.length_map], M.pure_bind', ord_gt]
  · rintro ⟨found, left, pip⟩ ⟨i1, i2, i3, i4⟩ ht
    dsimp only at i1 i2 i3 i4 ht ⊢
    have ne : left ≠ [] := by
      rintro rfl
      exact absurd (of_decide_eq_true ht) (by simp)
    obtain ⟨fs, f1, f2, f3, f4⟩ := s_laid i1 pip
    have ll : found.length + left.length = L.length := by
      have := i4.length_eq
      simpa using this
    rw [f1, fin_rt, M.pure_bind', show seqM (.list (fs.map eP)) = pure (fs.map eP) from rfl, M.pure_bind']
    rw [forM_keep (enc := eP) (fun q => ub (left.erase (bone q)) q.2) fs [] (by simp; omega)]
    · rw [thn_nx, List.nil_append]
      obtain ⟨q0, a1, a2, a3⟩ := urow_step i1 i2 ne
      have m0 : q0 ∈ fs.filter fun q => ub (left.erase (bone q)) q.2 := List.mem_filter.mpr ⟨(f3 q0).mpr ⟨a1, a2⟩, ub_iff.mpr a3⟩
      match hw : fs.filter fun q => ub (left.erase (bone q)) q.2, m0 with
      | q :: t, _ =>
        have mq : q ∈ fs.filter fun q => ub (left.erase (bone q)) q.2 := by rw [hw]; exact List.mem_cons_self
        obtain ⟨q1, q2⟩ := List.mem_filter.mp mq
        obtain ⟨q3, q4⟩ := (f3 q).mp q1
        have at0 : atD (.list ((q :: t).map eP)) (.int 0) = pure (eP q) := atD_list (i := 0) rfl
        have e1 : addD (eW found) (.tuple [eP q]) = pure (eW (found ++ [q])) := add_eW (w := [q]) (by simp; omega)
        rw [len_list, M.pure_bind', eqM_int, M.pure_bind', List.length_map, List.length_cons, eqv_len0, M.if_false, at0, M.pure_bind', e1, M.pure_bind', M.pure_bind', (ord2 q).1, M.pure_bind', M.pure_bind', (ord2 q).2, M.pure_bind', s_bone_of, fin_rt, M.pure_bind', show bone (q.1, q.2) = bone q from rfl, s_without q4 i1.good.len, fin_rt, M.pure_bind', M.pure_bind', (ord2 q).2, M.pure_bind']
        refine ⟨(found ++ [q], left.erase (bone q), q.2), rfl, ⟨lot_erase i1 _, ub_iff.mp q2, wk_app.mpr ⟨pip, i3, q3, rfl⟩, ?_⟩, ?_⟩
        · rw [List.map_append, List.append_assoc]
          exact ((List.perm_cons_erase q4).symm.append_left _).trans i4
        · show (left.erase (bone q)).length < left.length
          rw [List.length_erase_of_mem q4]
          have := List.length_pos_iff.mpr ne
          omega
    · intro q hq c hc
      obtain ⟨_, q4⟩ := (f3 q).mp hq
      rw [patN, M.pure_bind', go_on i1 q4, show decide (c.length < sizeLine) = true from decide_eq_true (by rw [sizeLine_eq]; omega), M.guard_true]
      cases ub (left.erase (bone q)) q.2 <;> rfl
  · show L.length < 1000
    omega
  · rintro ⟨found, left, pip⟩ ⟨i1, i2, i3, i4⟩ ht
    dsimp only at i1 i2 i3 i4 ht ⊢
    have : left = [] := by
      cases left with
      | nil => rfl
      | cons a b =>
        have := of_decide_eq_false ht
        simp at this
    subst this
    rw [List.append_nil] at i4
    exact ⟨found, pip, rfl, i3, i4⟩
theorem s_first_row_in {L : Ar} (h : Lot L) {p : Int} (u : URow L p) : ∃ r a b, m_first_row_in [eA L] = pure (.rt (eW r)) ∧ Wk a r b ∧ (r.map bone).Perm L := by
  have l8 := h.good.len
  unfold m_first_row_in
  simp only [M.pure_bind', M.bind_assoc', List.length_cons, List.length_nil, Nat.zero_add, Nat.reduceAdd, decide_true, szl (show 0 ≤ 1000 by decide), szl (show 1 ≤ 1000 by decide), M.guard_true]
  rw [show lenD [eA L] = pure (.int L.length) by unfold eA; rw [len_tuple, List.length_map], M.pure_bind', eqM_int, M.pure_bind']
  by_cases h0 : L = []
  · subst h0
    rw [show (((([] : Ar).length : Nat) : Int) == 0) = true from rfl, M.if_true]
    exact ⟨[], 0, 0, rfl, rfl, .refl _⟩
  obtain ⟨k, hk⟩ : ∃ k, L.length = k + 1 := ⟨L.length - 1, by have := List.length_pos_iff.mpr h0; omega⟩
  obtain ⟨fs, f1, f2, f3, f4⟩ := s_first_laid h
  rw [hk, eqv_len0, M.if_false, f1, fin_rt, M.pure_bind', show seqM (.list (fs.map eP)) = pure (fs.map eP) from rfl, M.pure_bind']
  obtain ⟨q0, a1, a2, a3⟩ := urow_step h u h0
  obtain ⟨q, hq, d, b1, ⟨r, a, b, b2, b3, b4⟩, b5⟩ := forM_first (enc := eP) (fun q => ub (L.erase (bone q)) q.2) (fun q d => ∃ r a b, d = eW r ∧ Wk a r b ∧ (r.map bone).Perm L) fs (pat := patN) (body := fun _ p2 => atD p2 (.int 0) >>= fun x => atD p2 (.int 1) >>= fun y => (m_bone_of [x, y]).fin >>= fun z => (m_without_bone [eA L, z]).fin >>= fun w => atD p2 (.int 1) >>= fun y => (m_can_go_on [w, y]).fin >>= fun k => truthM k >>= fun k => if k = true then M.thn (atD p2 (.int 1) >>= fun y => (m_row_behind [w, y]).fin >>= fun y => addD (.tuple [p2]) y >>= fun d => (pure (.rt d) : M (Fl Empty))) (fun z => z.elim) else pure (.nx ()))
    (fun q hq e => by
        have q4 := (f3 q).mp hq
        rw [patN, M.pure_bind', (ord2 q).1, M.pure_bind', (ord2 q).2, M.pure_bind', s_bone_of, fin_rt, M.pure_bind', show bone (q.1, q.2) = bone q from rfl, s_without q4 h.good.len, fin_rt, M.pure_bind', M.pure_bind', s_go (good_erase h.good _), fin_rt, M.pure_bind', e]
        rfl)
    (fun q hq e => by
        have q4 := (f3 q).mp hq
        obtain ⟨r, b, r1, r2, r3⟩ := s_behind (lot_erase h (bone q)) (ub_iff.mp e)
        have e1 : addD (.tuple [eP q]) (eW r) = pure (eW (q :: r)) := add_eW (v := [q]) (by
          have := r3.length_eq
          rw [List.length_map] at this
          have := List.length_erase_le (a := bone q) (l := L)
          simp
          omega)
        refine ⟨eW (q :: r), ?_, q :: r, q.1, b, rfl, ⟨rfl, r2⟩, ?_⟩
        · rw [patN, M.pure_bind', (ord2 q).1, M.pure_bind', (ord2 q).2, M.pure_bind', s_bone_of, fin_rt, M.pure_bind', show bone (q.1, q.2) = bone q from rfl, s_without q4 h.good.len, fin_rt, M.pure_bind', M.pure_bind', s_go (good_erase h.good _), fin_rt, M.pure_bind', e, show truthM (.bool true) = pure true from rfl, M.pure_bind', M.if_true, M.pure_bind', r1, fin_rt, M.pure_bind', e1]
          rfl
        · rw [List.map_cons]
          exact (r3.cons _).trans (List.perm_cons_erase q4).symm)
    ⟨q0, (f3 q0).mpr a2, ub_iff.mpr a3⟩
  rw [b5, thn_rt]
  exact ⟨r, a, b, by rw [b2], b3, b4⟩
/-! ### pieces by pieces -/
theorem in_eT' (g : List Int) (x : Int) : inM (.int x) (eT g) = pure (decide (x ∈ g)) := in_eT g x
theorem s_bones_of {L : Ar} (h : L.length ≤ 8) (g : List Int) : m_bones_of [eA L, eT g] = pure (.rt (eA (L.filter fun p => decide (p.1 ∈ g)))) := by
  unfold m_bones_of eA
  simp only [M.pure_bind', M.bind_assoc', seqM, List.length_map, szl (show L.length ≤ 1000 by omega), M.guard_true]
  rw [compM_eq (c := eP) (tb := fun p => decide (p.1 ∈ g)) (g := eP)]
  · rfl
  · exact fun _ _ => rfl
  · intro p _
    rw [(ord2 p).1, M.pure_bind', in_eT]
  · exact fun _ _ _ => rfl
theorem lot_filter {L : Ar} (h : Lot L) (f : Int × Int → Bool) : Lot (L.filter f) :=
  ⟨⟨Nat.le_trans (List.length_filter_le _ _) h.good.len, fun p hp => h.good.pip p (List.mem_filter.mp hp).1, h.good.srt.sublist List.filter_sublist⟩, fun p hp => h.low p (List.mem_filter.mp hp).1⟩
theorem dg_filter {L : Ar} {g : List Int} (cl : ∀ p ∈ L, p.1 ∈ g ↔ p.2 ∈ g) (v : Int) : dg (L.filter fun p => decide (p.1 ∈ g)) v = if v ∈ g then dg L v else 0 := by
  induction L with
  | nil => simp [dg]
  | cons p r ih =>
    have ih := ih fun q hq => cl q (.tail _ hq)
    have hp := cl p List.mem_cons_self
    by_cases e : p.1 ∈ g
    · rw [List.filter_cons_of_pos (by simpa using e), dg, ih, dg]
      by_cases n : v ∈ g
      · rw [if_pos n, if_pos n]
      · have n1 : p.1 ≠ v := fun z => n (z ▸ e)
        have n2 : p.2 ≠ v := fun z => n (z ▸ hp.mp e)
        rw [if_neg n, if_neg n, if_neg n1, if_neg n2]
        rfl
    · rw [List.filter_cons_of_neg (by simpa using e), ih, dg]
      by_cases n : v ∈ g
      · have n1 : p.1 ≠ v := fun z => e (z ▸ n)
        have n2 : p.2 ≠ v := fun z => e (hp.mpr (z ▸ n))
        rw [if_pos n, if_pos n, if_neg n1, if_neg n2]
        omega
      · rw [if_neg n, if_neg n]
theorem piece_cl {L : Ar} {gs : List (List Int)} (pc : Pcs L gs) {g : List Int} (hg : g ∈ gs) : ∀ p ∈ L, p.1 ∈ g ↔ p.2 ∈ g := fun p hp =>
  ⟨fun z => ((pc.mem g hg _ z).2 _).mpr (.out (b := p.2) hp (.refl _)), fun z => ((pc.mem g hg _ z).2 _).mpr (.inn (b := p.1) hp (.refl _))⟩
theorem piece_conn {L : Ar} {gs : List (List Int)} (pc : Pcs L gs) {g : List Int} (hg : g ∈ gs) : Conn (L.filter fun p => decide (p.1 ∈ g)) := by
  have cl := piece_cl pc hg
  have ing : ∀ {a}, touch (L.filter fun p => decide (p.1 ∈ g)) a → a ∈ g := fun {a} ⟨p, hp, e⟩ => by
    obtain ⟨h1, h2⟩ := List.mem_filter.mp hp
    have h2 : p.1 ∈ g := by simpa using h2
    rcases e with e | e
    · exact e ▸ h2
    · exact e ▸ (cl p h1).mp h2
  have key : ∀ {a b}, Cn L a b → a ∈ g → Cn (L.filter fun p => decide (p.1 ∈ g)) a b := by
    intro a b c
    induction c with
    | refl => exact fun _ => .refl _
    | out e _ ih => exact fun ha => .out (List.mem_filter.mpr ⟨e, by simpa using ha⟩) (ih ((cl _ e).mp ha))
    | inn e _ ih => exact fun ha => .inn (List.mem_filter.mpr ⟨e, by simpa using (cl _ e).mpr ha⟩) (ih ((cl _ e).mpr ha))
  intro a b ta tb
  exact key (((pc.mem g hg a (ing ta)).2 b).mp (ing tb)) (ing ta)
theorem row_even {r : Ar} {a b : Int} (w : Wk a r b) (he : ∀ v, dg r v % 2 = 0) : ∀ v, df r v = 0 := by
  intro v
  have hab : a = b := Classical.byContradiction fun n => by
    obtain ⟨k, hk⟩ := dg_df a r
    have h1 := he a
    rw [hk, wk_df w, if_pos rfl, if_neg (Ne.symm n)] at h1
    omega
  rw [wk_df w, hab]
  omega
theorem dg_bone (r : Ar) (v : Int) : dg (r.map bone) v = dg r v := (tn_of_bone r).dg v
theorem s_piece_row {L : Ar} (h : Lot L) {gs : List (List Int)} (pc : Pcs L gs) (he : ∀ v, dg L v % 2 = 0) {g : List Int} (hg : g ∈ gs) : ∃ r, m_first_row_in [eA (L.filter fun p => decide (p.1 ∈ g))] = pure (.rt (eW r)) ∧ (∀ v, df r v = 0) ∧ (r.map bone).Perm (L.filter fun p => decide (p.1 ∈ g)) := by
  have cl := piece_cl pc hg
  have hl := lot_filter h fun p => decide (p.1 ∈ g)
  have ev : ∀ v, dg (L.filter fun p => decide (p.1 ∈ g)) v % 2 = 0 := fun v => by
    rw [dg_filter cl]
    split
    · exact he v
    · rfl
  obtain ⟨a, ha⟩ : ∃ a, a ∈ g := by
    obtain ⟨a, r, e⟩ := List.exists_cons_of_ne_nil (pc.ne g hg)
    exact ⟨a, by rw [e]; exact List.mem_cons_self⟩
  have ta : touch (L.filter fun p => decide (p.1 ∈ g)) a := by
    rw [← dg_touch, dg_filter cl, if_pos ha, dg_touch]
    exact (pc.mem g hg a ha).1
  obtain ⟨r, c, d, e1, e2, e3⟩ := s_first_row_in hl (urow_even (piece_conn pc hg) ta ev)
  refine ⟨r, e1, row_even e2 fun v => ?_, e3⟩
  rw [← dg_bone, dg_perm e3]
  exact ev v
theorem filter_none (L : Ar) : (L.filter fun p => decide (p.1 ∈ ([] : List (List Int)).flatten)) = [] := List.filter_eq_nil_iff.mpr fun p _ => by simp
/-- the bones of the pieces, one behind another -/
theorem pieces_next {L : Ar} {pre : List (List Int)} {g : List Int} (hp : ∀ g' ∈ pre, ∀ x ∈ g', x ∉ g) : ((L.filter fun p => decide (p.1 ∈ pre.flatten)) ++ (L.filter fun p => decide (p.1 ∈ g))).Perm (L.filter fun p => decide (p.1 ∈ (pre ++ [g]).flatten)) := by
  have e1 : (L.filter fun p => decide (p.1 ∈ pre.flatten)) = (L.filter fun p => decide (p.1 ∈ (pre ++ [g]).flatten)).filter fun p => !decide (p.1 ∈ g) := by
    rw [List.filter_filter]
    refine List.filter_congr fun p _ => ?_
    rw [Bool.eq_iff_iff]
    simp
    constructor
    · rintro ⟨g', hg', z⟩
      exact ⟨hp g' hg' _ z, .inl ⟨g', hg', z⟩⟩
    · rintro ⟨n, z | z⟩
      · exact z
      · exact absurd z n
  have e2 : (L.filter fun p => decide (p.1 ∈ g)) = (L.filter fun p => decide (p.1 ∈ (pre ++ [g]).flatten)).filter fun p => decide (p.1 ∈ g) := by
    rw [List.filter_filter]
    refine List.filter_congr fun p _ => ?_
    rw [Bool.eq_iff_iff]
    simp
    exact fun z => .inr z
  rw [e1, e2]
  exact List.perm_append_comm.trans (List.filter_append_perm _ _)
theorem pcs_apart {L : Ar} {gs : List (List Int)} (pc : Pcs L gs) : gs.Pairwise fun g g' => ∀ x ∈ g, x ∉ g' := by
  refine List.Pairwise.imp_of_mem (fun {g g'} hg hg' ne x hx hx' => ne (pc.eq_of_mem pc hg hg' hx hx')) pc.nd
theorem pcs_all {L : Ar} {gs : List (List Int)} (pc : Pcs L gs) : (L.filter fun p => decide (p.1 ∈ gs.flatten)) = L := List.filter_eq_self.mpr fun p hp => by
  obtain ⟨g, hg, hm⟩ := pc.cov p.1 ⟨p, hp, .inl rfl⟩
  simp
  exact ⟨g, hg, hm⟩
end Lw

set_option Elab.async false
set_option linter.all false
set_option maxRecDepth 100000
set_option maxHeartbeats 2000000
/-! lays of a lot: all of them, judged -/
namespace DL
open PySem PySem.Spec PyProof.Rows L2
theorem pure_inj {α : Type} {a b : α} (h : (pure a : M α) = pure b) : a = b := by
  have := congrArg (fun m => M.run m (fun x => x = b) (fun _ => True)) h
  have : (a = b) = (b = b) := this
  rw [this]
theorem guard_inj {α : Type} {c : Bool} {a b : α} (h : M.guard c (pure a) = pure b) : c = true ∧ a = b := by
  cases c with
  | true => exact ⟨rfl, pure_inj h⟩
  | false =>
    have := congrArg (fun m => M.run m (fun x => x = b) (fun _ => True)) h
    have : False = (b = b) := this
    exact (this.mpr rfl).elim
open Eu (eW)
/-- a row in order -/
def so (v : List (Int × Int)) : List (Int × Int) := v.mergeSort le2
theorem so_perm (v : List (Int × Int)) : (so v).Perm v := List.mergeSort_perm _ _
theorem so_srt (v : List (Int × Int)) : (so v).Pairwise fun p q => le2 p q = true := List.pairwise_mergeSort (le := le2) (fun a b c h1 h2 => by simp [le2] at *; omega) (fun a b => by simp [le2]; omega) v
theorem so_len (v : List (Int × Int)) : (so v).length = v.length := (so_perm v).length_eq
end DL
namespace Lw
open PySem PySem.Spec PyProof.Rows L2 DL Gr Eu
theorem so_eq {v w : Ar} (h : w.Pairwise fun p q => le2 p q = true) (p : w.Perm v) : so v = w := srt_uniq (so_srt v) h ((so_perm v).trans p.symm)
theorem s_so {v : Ar} (h : v.length ≤ 1000) : sortC [eW v] = pure ((so v).map eP) := by
  obtain ⟨v', e1, e2, e3⟩ := sort_pairs (L := v) h
  rw [show sortC [eW v] = sortC [.list (v.map eP)] from rfl, e1, so_eq e3 e2.symm]
/-! ### judging -/
theorem s_check (n : Str) : m_check [.bool true, .str n] = pure (.nx ()) := rfl
theorem s_is_bone {p : Int × Int} (h : 0 ≤ p.1 ∧ p.1 ≤ 6 ∧ 0 ≤ p.2 ∧ p.2 ≤ 6) : m_is_bone [eP p] = pure (.rt (.bool (decide (p.1 ≤ p.2)))) := by
  unfold m_is_bone eP
  simp only [M.pure_bind', M.bind_assoc', show isTy "tuple" (.tuple [.int p.1, .int p.2]) = true from rfl, Bool.not_true, M.if_false, len_tuple, neM_int, List.length_cons, List.length_nil]
  rw [show (!(((0 + 1 + 1 : Nat) : Int) == 2)) = false from rfl, M.if_false]
  simp only [seqM, M.pure_bind', M.bind_assoc', show ([.int p.1, .int p.2] : List PyData) = [p.1, p.2].map PyData.int from rfl]
  rw [gxM_all (c := PyData.int) (p := fun i => decide (0 ≤ i ∧ i ≤ 6))]
  · rw [show ([p.1, p.2].all fun i => decide (0 ≤ i ∧ i ≤ 6)) = true by simp [h], M.pure_bind', Bool.not_true, M.if_false]
    rw [show atD (.tuple ([p.1, p.2].map PyData.int)) (.int 0) = pure (.int p.1) from rfl, M.pure_bind', show atD (.tuple ([p.1, p.2].map PyData.int)) (.int 1) = pure (.int p.2) from rfl, M.pure_bind', ord_le]
    rfl
  · exact fun _ _ => rfl
  · intro i _
    simp only [M.pure_bind', M.bind_assoc', List.length_cons, List.length_nil, decide_true, M.guard_true, s_is_pip, fin_rt, boolM]
def srtB (w : Ar) : Bool := (w.zip (w.drop 1)).all fun z => le2 z.1 z.2
theorem le2_trans {p q r : Int × Int} (h : le2 p q = true) (k : le2 q r = true) : le2 p r = true := by
  unfold le2 at *
  have h := of_decide_eq_true h
  have k := of_decide_eq_true k
  exact decide_eq_true (by omega)
theorem srtB_iff {w : Ar} : srtB w = true ↔ w.Pairwise fun p q => le2 p q = true := by
  constructor
  · intro h
    induction w with
    | nil => exact .nil
    | cons a r ih =>
      cases r with
      | nil => exact List.pairwise_singleton _ _
      | cons b r =>
        have e : srtB (a :: b :: r) = (le2 a b && srtB (b :: r)) := rfl
        rw [e, Bool.and_eq_true] at h
        have ih := ih h.2
        refine List.pairwise_cons.mpr ⟨fun x hx => ?_, ih⟩
        rcases List.mem_cons.mp hx with rfl | hx
        · exact h.1
        · exact le2_trans h.1 ((List.pairwise_cons.mp ih).1 x hx)
  · exact zip_tail
theorem zip_srt (w : Ar) : (zipM [eW w, .tuple ((w.drop 1).map eP)] >>= gxM false pat2 fun c2 => ordM .le c2.1 c2.2) = pure (srtB w) := by
  simp only [zipM, M.pure_bind', zipL]
  rw [List.zip_map, List.map_map]
  rw [gxM_all (xs := w.zip (w.drop 1)) (enc := (fun p => PyData.tuple [p.1, p.2]) ∘ Prod.map eP eP) (c := fun z => (eP z.1, eP z.2)) (p := fun z => le2 z.1 z.2)]
  · rfl
  · exact fun _ _ => rfl
  · exact fun z _ => ord_pair z.1 z.2
theorem s_is_lot {B : Ar} (h : Lot B) : m_is_lot [eA B] = pure (.rt (.bool true)) := by
  have l8 := h.good.len
  unfold m_is_lot
  simp only [M.pure_bind', M.bind_assoc', show isTy "tuple" (eA B) = true from rfl, Bool.not_true, M.if_false, show lenD [eA B] = pure (.int B.length) by unfold eA; rw [len_tuple, List.length_map], ord_gt, decide_eq_false (show ¬ (8 : Int) < (B.length : Nat) by omega), show seqM (eA B) = pure (B.map eP) from rfl, intM]
  rw [gxM_all (c := eP) (p := fun _ => true)]
  · rw [show (B.all fun _ => true) = true from List.all_eq_true.mpr fun _ _ => rfl, M.pure_bind', Bool.not_true, M.if_false]
    rw [show sliceD (eA B) (some 1) none = pure (.tuple ((B.drop 1).map eP)) by
      show pure (PyData.tuple (cutP (B.map eP) (some ((1 : Nat) : Int)) none)) = _
      rw [cut_from, List.map_drop], M.pure_bind', show eA B = eW B from rfl]
    have z := zip_srt B
    rw [srtB_iff.mpr h.good.srt] at z
    have z2 := congrArg (· >>= fun c => pure (PyData.bool c) >>= fun d => (pure (.rt d) : M (Fl Empty))) z
    exact z2
  · exact fun _ _ => rfl
  · intro p hp
    simp only [M.pure_bind', M.bind_assoc', List.length_cons, List.length_nil, decide_true, M.guard_true, s_is_bone (h.good.pip p hp), fin_rt, boolM, decide_eq_true (h.low p hp)]
theorem s_check_lot {B : Ar} (h : Lot B) : m_check_lot [eA B] = pure (.nx ()) := by
  unfold m_check_lot
  simp only [M.pure_bind', M.bind_assoc', List.length_cons, List.length_nil, decide_true, M.guard_true, s_is_lot h, fin_rt, s_check, fin_nx]
theorem s_are {w : Ar} (h : Pips w) : m_are_arrows [eW w] = pure (.rt (.bool (decide (w.length ≤ 8) && srtB w))) := by
  unfold m_are_arrows
  simp only [M.pure_bind', M.bind_assoc', show isTy "tuple" (eW w) = true from rfl, Bool.not_true, M.if_false, show lenD [eW w] = pure (.int w.length) by rw [show eW w = .tuple (w.map eP) from rfl, len_tuple, List.length_map], ord_gt, show seqM (eW w) = pure (w.map eP) from rfl, intM]
  by_cases h8 : w.length ≤ 8
  · rw [decide_eq_false (show ¬ (8 : Int) < (w.length : Nat) by omega), decide_eq_true h8, M.if_false]
    rw [gxM_all (c := eP) (p := fun _ => true)]
    · rw [show (w.all fun _ => true) = true from List.all_eq_true.mpr fun _ _ => rfl, M.pure_bind', Bool.not_true, M.pure_bind', M.if_false]
      rw [show sliceD (eW w) (some 1) none = pure (.tuple ((w.drop 1).map eP)) by
        show pure (PyData.tuple (cutP (w.map eP) (some ((1 : Nat) : Int)) none)) = _
        rw [cut_from, List.map_drop], M.pure_bind']
      have z2 := congrArg (· >>= fun c => pure (PyData.bool c) >>= fun d => (pure (.rt d) : M (Fl Empty))) (zip_srt w)
      exact z2
    · exact fun _ _ => rfl
    · intro p hp
      simp only [M.pure_bind', M.bind_assoc', List.length_cons, List.length_nil, decide_true, M.guard_true, s_is_arrow (h p hp), fin_rt, boolM]
  · rw [decide_eq_true (show (8 : Int) < (w.length : Nat) by omega), decide_eq_false h8, M.if_true]
    rfl
/-- all lays of a lot, in order -/
structure Lays (B : Ar) (ws : List Ar) : Prop where
  srt : ws.Pairwise D
  mem : ∀ w, w ∈ ws ↔ w.Pairwise (fun p q => le2 p q = true) ∧ (w.map bone).Perm B
theorem Lays.uniq {B : Ar} {ws ws' : List Ar} (h : Lays B ws) (h' : Lays B ws') : ws = ws' := D_uniq h.srt h'.srt fun r => (h.mem r).trans (h'.mem r).symm
theorem bone_pip {p : Int × Int} (h : 0 ≤ (bone p).1 ∧ (bone p).1 ≤ 6 ∧ 0 ≤ (bone p).2 ∧ (bone p).2 ≤ 6) : 0 ≤ p.1 ∧ p.1 ≤ 6 ∧ 0 ≤ p.2 ∧ p.2 ≤ 6 := by
  rcases bone_or p with e | e
  · rw [e] at h; exact h
  · rw [e] at h
    unfold sw at h
    exact ⟨h.2.2.1, h.2.2.2, h.1, h.2.1⟩
theorem Lays.pips {B : Ar} (h : Lot B) {ws : List Ar} (l : Lays B ws) {w : Ar} (hw : w ∈ ws) : Pips w := fun p hp =>
  bone_pip (h.good.pip _ (((l.mem w).mp hw).2.mem_iff.mp (List.mem_map.mpr ⟨p, hp, rfl⟩)))
theorem Lays.len {B : Ar} {ws : List Ar} (l : Lays B ws) {w : Ar} (hw : w ∈ ws) : w.length = B.length := by
  have := ((l.mem w).mp hw).2.length_eq
  rwa [List.length_map] at this
theorem s_is_lay_of {B : Ar} (h : Lot B) {ws : List Ar} (l : Lays B ws) {w : Ar} (hw : Pips w) (h8 : w.length ≤ 8) : m_is_lay_of [eA B, eW w] = pure (.rt (.bool (decide (w ∈ ws)))) := by
  unfold m_is_lay_of
  simp only [M.pure_bind', M.bind_assoc', List.length_cons, List.length_nil, Nat.zero_add, Nat.reduceAdd, decide_true, M.guard_true, s_are hw, fin_rt, boolM, decide_eq_true h8, Bool.true_and, show seqM (eW w) = pure (w.map eP) from rfl, List.length_map, szl (show w.length ≤ 1000 by omega)]
  have hc : compM pat2 (fun _ => pure true) (fun c1 => (m_bone_of [c1.1, c1.2]).fin) (w.map eP) = pure ((w.map bone).map eP) := by
    rw [List.map_map]
    exact compM_all (c := fun p : Int × Int => (PyData.int p.1, PyData.int p.2)) (fun _ _ => rfl) fun p _ => by rw [s_bone_of, fin_rt]; rfl
  cases hs : srtB w with
  | false =>
    rw [M.if_false, M.pure_bind', decide_eq_false fun z => by rw [srtB_iff.mpr ((l.mem w).mp z).1] at hs; cases hs]
  | true =>
    rw [M.if_true, hc, M.pure_bind', show sortC [.list ((w.map bone).map eP)] = sortC [eW (w.map bone)] from rfl, s_so (by rw [List.length_map]; omega), M.pure_bind', show tupleC [.list ((so (w.map bone)).map eP)] = pure (eW (so (w.map bone))) from rfl, M.pure_bind', show eA B = eW B from rfl, eq_eW, M.pure_bind']
    congr 3
    rw [Bool.eq_iff_iff, decide_eq_true_eq, decide_eq_true_eq, l.mem]
    constructor
    · intro e
      exact ⟨srtB_iff.mp hs, by rw [← e]; exact (so_perm _).symm⟩
    · intro z
      exact so_eq h.good.srt z.2.symm
theorem s_is_lay {B : Ar} (h : Lot B) {ws : List Ar} (l : Lays B ws) {w : Ar} (hw : Pips w) (h8 : w.length ≤ 8) : m_is_lay [eA B, eW w] = pure (.rt (.bool (decide (w ∈ ws)))) := by
  unfold m_is_lay
  simp only [M.pure_bind', M.bind_assoc', List.length_cons, List.length_nil, Nat.zero_add, Nat.reduceAdd, decide_true, M.guard_true, s_check_lot h, fin_nx, s_is_lay_of h l hw h8, fin_rt]
def balB (w : Ar) : Bool := pipsL.all fun v => awayN w v == towardN w v
theorem s_balanced_of {w : Ar} (h8 : w.length ≤ 8) : m_is_balanced_of [eW w] = pure (.rt (.bool (balB w))) := by
  unfold m_is_balanced_of
  simp only [M.pure_bind', M.bind_assoc', show seqM (.tuple ([0, 1, 2, 3, 4, 5, 6].map PyData.int)) = pure (pipsL.map PyData.int) from rfl, List.length_cons, List.length_nil, Nat.zero_add, Nat.reduceAdd, decide_true, M.guard_true]
  rw [gxM_all (c := PyData.int) (p := fun v => awayN w v == towardN w v)]
  · rfl
  · exact fun _ _ => rfl
  · intro v _
    rw [show eW w = eA w from rfl, s_away h8, fin_rt, M.pure_bind', s_toward h8, fin_rt, M.pure_bind', eqM_int]
theorem s_is_balanced {B : Ar} (h : Lot B) {ws : List Ar} (l : Lays B ws) {w : Ar} (hw : Pips w) (h8 : w.length ≤ 8) : m_is_balanced [eA B, eW w] = pure (.rt (.bool (decide (w ∈ ws) && balB w))) := by
  unfold m_is_balanced
  simp only [M.pure_bind', M.bind_assoc', List.length_cons, List.length_nil, Nat.zero_add, Nat.reduceAdd, decide_true, M.guard_true, s_check_lot h, fin_nx, s_is_lay_of h l hw h8, fin_rt, boolM, s_balanced_of h8]
  cases decide (w ∈ ws) <;> rfl
theorem bal_lean (w : Ar) : balB w = decide (leanN w = []) := by
  rw [Bool.eq_iff_iff, decide_eq_true_eq]
  unfold balB leanN
  rw [List.filter_eq_nil_iff, List.all_eq_true]
  simp only [List.mem_map, forall_exists_index, and_imp, forall_apply_eq_imp_iff₂, beq_iff_eq, Bool.not_eq_true', beq_eq_false_iff_ne]
  exact ⟨fun z v hv k => k (by have := z v hv; omega), fun z v hv => by have := z v hv; omega⟩
theorem bal_df {w : Ar} (h : Pips w) : balB w = true ↔ ∀ v, df w v = 0 := by
  have e : ∀ v, awayN w v - towardN w v = df w v := dif_df w
  constructor
  · intro z v
    refine Classical.byContradiction fun n => n ?_
    obtain ⟨p, hp, hv⟩ := df_touch n
    have q := h p hp
    have hm : v ∈ pipsL := pips_mem (by rcases hv with rfl | rfl <;> omega)
    have := List.all_eq_true.mp z v hm
    rw [beq_iff_eq] at this
    have := e v
    omega
  · intro z
    refine List.all_eq_true.mpr fun v _ => ?_
    rw [beq_iff_eq]
    have := e v
    have := z v
    omega
def leanP (w : Ar) : List Int := pipsL.filter fun v => !(awayN w v == towardN w v)
theorem s_leaning {B : Ar} (h : Lot B) {ws : List Ar} (l : Lays B ws) {w : Ar} (hw : w ∈ ws) : m_leaning_pips [eA B, eW w] = pure (.rt (eT (leanP w))) := by
  have h8 : w.length ≤ 8 := by rw [l.len hw]; exact h.good.len
  unfold m_leaning_pips
  simp only [M.pure_bind', M.bind_assoc', List.length_cons, List.length_nil, Nat.zero_add, Nat.reduceAdd, decide_true, M.guard_true, s_is_lot h, s_check, fin_nx, s_is_lay_of h l (l.pips h hw) h8, decide_eq_true hw, fin_rt, show seqM (.tuple ([0, 1, 2, 3, 4, 5, 6].map PyData.int)) = pure (pipsL.map PyData.int) from rfl, List.length_map, szl (show 7 ≤ 1000 by decide)]
  rw [compM_eq (c := PyData.int) (tb := fun v => !(awayN w v == towardN w v)) (g := PyData.int)]
  · rfl
  · exact fun _ _ => rfl
  · intro v _
    rw [show eW w = eA w from rfl, s_away h8, fin_rt, M.pure_bind', s_toward h8, fin_rt, M.pure_bind', neM_int]
  · exact fun _ _ _ => rfl
theorem lean_fst (w : Ar) : (leanN w).map (·.1) = leanP w := by
  unfold leanN leanP
  rw [List.filter_map, List.map_map]
  rw [show ((fun x : Int × Int => x.1) ∘ fun p => (p, awayN w p - towardN w p)) = id from rfl, List.map_id]
  refine List.filter_congr fun v _ => ?_
  dsimp only [Function.comp]
  rw [Bool.eq_iff_iff]
  simp only [Bool.not_eq_true', beq_eq_false_iff_ne]
  omega
end Lw

set_option Elab.async false
set_option linter.all false
set_option maxRecDepth 100000
set_option maxHeartbeats 2000000
/-! all lays, by the program and by the law; the balanced one -/
namespace DL
open PySem PySem.Spec PyProof.Rows L2
open Eu (eW)
def kW (w : List (Int × Int)) : NestedKey := .tup (w.map kP)
theorem keyN_eW (w : List (Int × Int)) : keyN (eW w) = some (kW w) := by
  show (keyNs (w.map eP)).map NestedKey.tup = _
  rw [keyNs_eP]
  rfl
theorem kW_inj (v w : List (Int × Int)) (h : kW v = kW w) : v = w := map_kP_inj (by unfold kW at h; simpa using h)
theorem kW_depth (w : List (Int × Int)) : (kW w).depth ≤ 2 := by
  have := kPs_depth w
  unfold kW
  simp only [NestedKey.depth]
  omega
theorem keyOk_eW (w : List (Int × Int)) : keyOk (eW w) = true := by
  rw [show keyOk (eW w) = decide ((kW w).depth ≤ 8) from keyOk_tup (keyN_eW w)]
  have := kW_depth w
  exact decide_eq_true (by omega)
def enW (w : List (Int × Int)) : PyData × PyData := (eW w, .bool true)
theorem put_enW (F : List (List (Int × Int))) (w : List (Int × Int)) : dPut (F.map enW) (eW w) (.bool true) = (ins1 F w).map enW := ins1_put keyN_eW kW_inj F w
theorem plain_kPs : ∀ w : List (Int × Int), NS.plainKs (w.map kP) = true
  | [] => rfl
  | p :: r => by rw [List.map_cons, NS.plainKs, plain_kPs r]; rfl
theorem memOk_eW (w : List (Int × Int)) : NS.memOk (eW w) = true := by
  have e : NS.memOk (eW w) = match keyN (eW w) with
    | some k => decide (k.depth ≤ 8) && NS.plainK k
    | none => false := rfl
  rw [e, keyN_eW]
  have := kW_depth w
  show (decide ((kW w).depth ≤ 8) && NS.plainK (kW w)) = true
  rw [decide_eq_true (by omega), show NS.plainK (kW w) = NS.plainKs (w.map kP) from rfl, plain_kPs]
  rfl
theorem back_eW : ∀ {zs : List PyData} {xs : List (List (Int × Int))}, (∀ z ∈ zs, z ∈ xs.map eW) → ∃ us : List (List (Int × Int)), zs = us.map eW ∧ ∀ u ∈ us, u ∈ xs
  | [], xs, _ => ⟨[], rfl, nofun⟩
  | z :: zs, xs, h => by
    obtain ⟨us, e, k⟩ := back_eW (zs := zs) (xs := xs) fun y hy => h y (.tail _ hy)
    obtain ⟨u, hu, eu⟩ := List.mem_map.mp (h z List.mem_cons_self)
    refine ⟨u :: us, by rw [e, ← eu]; rfl, fun y hy => ?_⟩
    rcases List.mem_cons.mp hy with rfl | hy
    · exact hu
    · exact k y hy
theorem nodup_len {α : Type} [DecidableEq α] : ∀ {us xs : List α}, us.Nodup → (∀ u ∈ us, u ∈ xs) → us.length ≤ xs.length
  | [], _, _, _ => Nat.zero_le _
  | u :: us, xs, h, k => by
    have hu := k u List.mem_cons_self
    have nd := List.nodup_cons.mp h
    have := nodup_len (us := us) (xs := xs.erase u) nd.2 fun y hy => (List.mem_erase_of_ne (fun e : y = u => nd.1 (e ▸ hy))).mpr (k y (.tail _ hy))
    rw [List.length_erase_of_mem hu] at this
    have := List.length_pos_of_mem hu
    rw [List.length_cons]
    omega
open Eu (D sort_ws)
theorem sortable_rows {n : Nat} {gs : List (List (Int × Int))} (hn : ∀ r ∈ gs, r.length = n) (h1 : n = 0 → gs.length ≤ 1) (h : gs.length ≤ 100000) : sortable (gs.map eW) = true := by
  unfold sortable
  simp only [Bool.and_eq_true, Bool.or_eq_true, List.all_eq_true, decide_eq_true_eq]
  refine ⟨⟨⟨fun d hd e he => ?_, ?_⟩, fun d hd => ?_⟩, ?_⟩
  · obtain ⟨g, _, rfl⟩ := List.mem_map.mp hd
    obtain ⟨g', _, rfl⟩ := List.mem_map.mp he
    show PySem.W.alike (.tuple (g.map eP)) (.tuple (g'.map eP)) = true
    rw [PySem.W.alike]
    exact Eu.alikeAll_eP g g'
  · by_cases hz : n = 0
    · refine .inr (.inr ⟨by rw [List.length_map]; exact h1 hz, fun d hd => ?_⟩)
      obtain ⟨g, _, rfl⟩ := List.mem_map.mp hd
      rfl
    · refine .inl fun d hd => ?_
      obtain ⟨g, hg, rfl⟩ := List.mem_map.mp hd
      cases g with
      | nil => exact absurd (hn _ hg).symm hz
      | cons a b => rfl
  · obtain ⟨g, _, rfl⟩ := List.mem_map.mp hd
    have := Eu.depth_eW g
    omega
  · rw [List.length_map, sizeLine_eq]
    omega
/-- sorted(set(..)) of rows of one length -/
theorem set_rows {n : Nat} {xs : List (List (Int × Int))} (hn : ∀ r ∈ xs, r.length = n) (h1 : n = 0 → xs.length ≤ 1) (h : xs.length ≤ 300) {P : List PyData → Prop} {R : Er → Prop} (q : ∀ ws : List (List (Int × Int)), ws.Pairwise D → (∀ w, w ∈ ws ↔ w ∈ xs) → P (ws.map eW)) : (NS.setSortN (.list (xs.map eW))).run P R := by
  show (M.guard (decide ((xs.map eW).length ≤ 300) && ((xs.map eW).all NS.memOk && sortable (xs.map eW))) (M.any (NS.Once (xs.map eW)))).run P R
  rw [M.guard_of]
  · rintro ys ⟨zs, z1, z2, z3, rfl⟩
    obtain ⟨us, rfl, hu⟩ := back_eW z1
    have nd : us.Nodup := by
      rw [List.map_map, List.nodup_iff_pairwise_ne, List.pairwise_map] at z2
      exact List.nodup_iff_pairwise_ne.mpr (z2.imp fun k e => k (congrArg _ e))
    have ul : us.length ≤ xs.length := nodup_len nd hu
    obtain ⟨gs, e1, e2, e3⟩ := sort_ws (n := n) (gs := us) (fun r hr => hn r (hu r hr)) (fun hz => Nat.le_trans ul (h1 hz)) (by omega) nd
    have e1 : M.guard (sortable (us.map eW)) (pure (sortD (us.map eW))) = pure (gs.map eW) := e1
    rw [(guard_inj e1).2]
    refine q gs e3 fun w => e2.mem_iff.symm.trans ⟨hu w, fun hw => ?_⟩
    obtain ⟨z, hz, ez⟩ := z3 (eW w) (List.mem_map.mpr ⟨w, hw, rfl⟩)
    obtain ⟨u, hu2, rfl⟩ := List.mem_map.mp hz
    rw [keyN_eW, keyN_eW, Option.some.injEq] at ez
    exact kW_inj _ _ ez ▸ hu2
  · rw [List.length_map, decide_eq_true h, sortable_rows hn h1 (by omega), List.all_eq_true.mpr]
    · rfl
    · intro d hd
      obtain ⟨w, _, rfl⟩ := List.mem_map.mp hd
      exact memOk_eW w
end DL
namespace Lw
open PySem PySem.Spec PyProof.Rows L2 DL Gr Eu
theorem pow_le {a b : Nat} (h : a ≤ b) : 2 ^ a ≤ 2 ^ b := Nat.pow_le_pow_right (by decide) h
theorem pairEP (b : Int × Int) : PyData.tuple [.int b.1, .int b.2] = eP b := rfl
/-- a lay with one bone more -/
theorem lay_next {pre w y : Ar} {b : Int × Int} (hb : b.1 ≤ b.2) : (y.Pairwise (fun p q => le2 p q = true) ∧ (y.map bone).Perm (pre ++ [b])) ↔ ∃ w : Ar, (w.Pairwise (fun p q => le2 p q = true) ∧ (w.map bone).Perm pre) ∧ (y = so (w ++ [b]) ∨ y = so (w ++ [sw b])) := by
  constructor
  · rintro ⟨h1, h2⟩
    obtain ⟨q, hq, eq⟩ := List.mem_map.mp (h2.mem_iff.mpr (List.mem_append_right _ (List.mem_singleton.mpr rfl)))
    have pe := List.perm_cons_erase hq
    refine ⟨y.erase q, ⟨h1.sublist (List.erase_sublist), ?_⟩, ?_⟩
    · have a := (pe.map bone).symm.trans (h2.trans (List.perm_append_singleton b pre))
      rw [List.map_cons, eq] at a
      exact List.Perm.cons_inv a
    · have pa : y.Perm (y.erase q ++ [q]) := pe.trans (List.perm_append_singleton q _).symm
      rcases (bone_eq hb).mp eq with rfl | rfl
      · exact .inl (so_eq h1 pa).symm
      · exact .inr (so_eq h1 pa).symm
  · rintro ⟨w, ⟨h1, h2⟩, rfl | rfl⟩
    · refine ⟨so_srt _, ?_⟩
      have a := (so_perm (w ++ [b])).map bone
      rw [List.map_append, List.map_singleton, bone_low hb] at a
      exact a.trans (h2.append_right _)
    · refine ⟨so_srt _, ?_⟩
      have a := (so_perm (w ++ [sw b])).map bone
      rw [List.map_append, List.map_singleton, bone_sw, bone_low hb] at a
      exact a.trans (h2.append_right _)
theorem lay_none {y : Ar} : (y.Pairwise (fun p q => le2 p q = true) ∧ (y.map bone).Perm []) ↔ y = [] := by
  constructor
  · rintro ⟨_, h⟩
    have := h.length_eq
    simpa using this
  · rintro rfl
    exact ⟨.nil, .refl _⟩
theorem s_lays {B : Ar} (h : Lot B) : ∃ ws : List Ar, m_lays [eA B] = pure (.rt (.list (ws.map eW))) ∧ Lays B ws ∧ ws.length ≤ 256 := by
  have l8 := h.good.len
  unfold m_lays eA
  simp only [M.pure_bind', M.bind_assoc', show seqM (.tuple (B.map eP)) = pure (B.map eP) from rfl, List.length_nil, szl (show 0 ≤ 1000 by decide), M.guard_true]
  rw [show keyOk (.tuple []) = true from keyOk_eW [], M.guard_true]
  refine forM_thn (R := fun m => ∃ ws : List Ar, m = pure (.rt (.list (ws.map eW))) ∧ Lays B ws ∧ ws.length ≤ 256) eP (fun F : List Ar => F.map enW) B [[]]
    (fun pre F => F.Nodup ∧ (∀ w : Ar, w ∈ F ↔ w.Pairwise (fun p q => le2 p q = true) ∧ (w.map bone).Perm pre) ∧ F.length ≤ 2 ^ pre.length) ?_ ⟨by simp, fun w => by rw [lay_none, List.mem_singleton], Nat.le_refl _⟩ ?_
  · rintro pre b ⟨post, hx⟩ F ⟨f1, f2, f3⟩
    have lpre : pre.length + 1 ≤ 8 := by
      have := congrArg List.length hx
      simp at this
      omega
    have hb : b.1 ≤ b.2 := h.low b (by rw [hx]; simp)
    have f4 := Nat.le_trans f3 (pow_le (show pre.length ≤ 7 by omega))
    rw [show pat2 (eP b) = pure (.int b.1, .int b.2) from rfl, M.pure_bind']
    dsimp only
    rw [show (F.map enW).map (·.1) = F.map eW by rw [List.map_map]; rfl]
    refine forM_thn (R := fun m => ∃ F' : List Ar, m = pure (.nx (F'.map enW)) ∧ F'.Nodup ∧ (∀ w : Ar, w ∈ F' ↔ w.Pairwise (fun p q => le2 p q = true) ∧ (w.map bone).Perm (pre ++ [b])) ∧ F'.length ≤ 2 ^ (pre ++ [b]).length) eW (fun G : List Ar => G.map enW) F []
      (fun q G => G.Nodup ∧ (∀ y, y ∈ G ↔ ∃ w ∈ q, y = so (w ++ [b]) ∨ y = so (w ++ [sw b])) ∧ G.length ≤ q.length * 2) ?_ ⟨by simp, by simp, by simp⟩ ?_
    · rintro q w ⟨post2, hx2⟩ G ⟨g1, g2, g3⟩
      have hw : w ∈ F := by rw [hx2]; simp
      have wl : w.length = pre.length := by
        have := ((f2 w).mp hw).2.length_eq
        rwa [List.length_map] at this
      have ql : q.length + 1 ≤ F.length := by
        have := congrArg List.length hx2
        simp at this
        omega
      have a1 : addD (eW w) (.tuple [eP b]) = pure (eW (w ++ [b])) := add_eW (w := [b]) (by simp; omega)
      have a2 : addD (eW w) (.tuple [eP (sw b)]) = pure (eW (w ++ [sw b])) := add_eW (w := [sw b]) (by simp; omega)
      have t1 : ∀ v : Ar, tupleC [.list (v.map eP)] = pure (eW v) := fun _ => rfl
      have sz : ∀ G : List Ar, G.length ≤ 900 → decide ((G.map enW).length < sizeLine) = true := fun G hG => decide_eq_true (by rw [List.length_map, sizeLine_eq]; omega)
      have i1 := ins1_len G (so (w ++ [b]))
      have i2 := ins1_len (ins1 G (so (w ++ [b]))) (so (w ++ [sw b]))
      simp only [patN, M.pure_bind', M.bind_assoc', List.length_cons, List.length_nil, Nat.zero_add, Nat.reduceAdd, szl (show 2 ≤ 1000 by decide), szl (show 1 ≤ 1000 by decide), M.guard_true]
      rw [show PyData.tuple [.int b.1, .int b.2] = eP b from rfl, show PyData.tuple [.int b.2, .int b.1] = eP (sw b) from rfl]
      rw [a1, M.pure_bind', s_so (by simp; omega), M.pure_bind', t1, M.pure_bind', keyOk_eW, sz G (by omega), Bool.true_and, M.guard_true, a2, M.pure_bind', s_so (by simp; omega), M.pure_bind', t1, M.pure_bind', keyOk_eW, put_enW, sz _ (by omega), Bool.true_and, M.guard_true, put_enW]
      refine ⟨_, rfl, ins1_nd (ins1_nd g1), fun y => ?_, by rw [List.length_append, List.length_singleton, Nat.add_mul]; omega⟩
      rw [ins1_mem, ins1_mem, g2]
      constructor
      · rintro ((⟨w', hw', z⟩ | z) | z)
        · exact ⟨w', List.mem_append_left _ hw', z⟩
        · exact ⟨w, by simp, .inl z⟩
        · exact ⟨w, by simp, .inr z⟩
      · rintro ⟨w', hw', z⟩
        rcases List.mem_append.mp hw' with m | m
        · exact .inl (.inl ⟨w', m, z⟩)
        · rw [List.mem_singleton.mp m] at z
          exact z.elim (fun z => .inl (.inr z)) .inr
    · rintro G ⟨g1, g2, g3⟩
      refine ⟨G, rfl, g1, fun y => ?_, ?_⟩
      · rw [g2, lay_next (w := y) hb]
        constructor
        · rintro ⟨w, hw, z⟩
          exact ⟨w, (f2 w).mp hw, z⟩
        · rintro ⟨w, hw, z⟩
          exact ⟨w, (f2 w).mpr hw, z⟩
      · rw [List.length_append, List.length_singleton, Nat.pow_succ]
        omega
  · rintro F ⟨f1, f2, f3⟩
    have f4 := Nat.le_trans f3 (pow_le (show B.length ≤ 8 by omega))
    rw [show (F.map enW).map (·.1) = F.map eW by rw [List.map_map]; rfl]
    obtain ⟨ws, e1, e2, e3⟩ := sort_ws (n := B.length) (gs := F) (fun r hr => by
      have := ((f2 r).mp hr).2.length_eq
      rwa [List.length_map] at this) (fun hz => by rw [hz] at f3; exact f3) (by omega) f1
    have e1 : M.guard (sortable (F.map eW)) (pure (sortD (F.map eW))) = pure (ws.map eW) := e1
    rw [e1]
    exact ⟨ws, rfl, ⟨e3, fun w => e2.mem_iff.symm.trans (f2 w)⟩, by rw [← e2.length_eq]; omega⟩
theorem s_law_lays {B : Ar} (h : Lot B) {P : PyData → Prop} {R : Er → Prop} (q : ∀ ws : List Ar, Lays B ws → P (.list (ws.map eW))) : ((m__law_lays [eA B]).fin).run P R := by
  have l8 := h.good.len
  unfold m__law_lays eA
  simp only [M.pure_bind', M.bind_assoc', show seqM (.tuple (B.map eP)) = pure (B.map eP) from rfl, List.length_cons, List.length_nil, Nat.zero_add, szl (show 0 ≤ 1000 by decide), szl (show 1 ≤ 1000 by decide), M.guard_true]
  refine forM_thn (R := fun (m : M (Fl Empty)) => (M.fin m).run P R) eP (fun F : List Ar => PyData.list (F.map eW)) B [[]]
    (fun pre F => (∀ w ∈ F, w.length = pre.length) ∧ (∀ y : Ar, (∃ w ∈ F, y = so w) ↔ y.Pairwise (fun p q => le2 p q = true) ∧ (y.map bone).Perm pre) ∧ F.length ≤ 2 ^ pre.length) ?_ ⟨by simp, fun y => ?_, Nat.le_refl _⟩ ?_
  · rintro pre b ⟨post, hx⟩ F ⟨f1, f2, f3⟩
    have lpre : pre.length + 1 ≤ 8 := by
      have := congrArg List.length hx
      simp at this
      omega
    have hb : b.1 ≤ b.2 := h.low b (by rw [hx]; simp)
    have f4 := Nat.le_trans f3 (pow_le (show pre.length ≤ 7 by omega))
    have cm : ∀ c : Int × Int, compM patN (fun _ => pure true) (fun c5 => addD c5 (.tuple [eP c])) (F.map eW) = pure ((F.map fun w => w ++ [c]).map eW) := fun c => by
      rw [List.map_map]
      exact compM_all (c := eW) (fun _ _ => rfl) fun w hw => add_eW (w := [c]) (by have := f1 w hw; simp; omega)
    simp only [patN, M.pure_bind', M.bind_assoc', show seqM (.list (F.map eW)) = pure (F.map eW) from rfl, List.length_map, szl (show F.length ≤ 1000 by omega), M.guard_true, show revD (eP b) = pure (eP (sw b)) from rfl]
    have c1 := cm b
    have c2 := cm (sw b)
    rw [c1, M.pure_bind', c2, M.pure_bind', add_list (by simp; omega), M.pure_bind', ← List.map_append]
    refine ⟨_, rfl, fun w hw => ?_, fun y => ?_, by rw [List.length_append, List.length_map, List.length_map, List.length_append, List.length_singleton, Nat.pow_succ]; omega⟩
    · rcases List.mem_append.mp hw with m | m
      all_goals
        obtain ⟨v, hv, rfl⟩ := List.mem_map.mp m
        rw [List.length_append, List.length_append, f1 v hv]
        all_goals rfl
    · rw [lay_next (w := y) hb]
      have sub : ∀ (w : Ar) (c : Int × Int), so (so w ++ [c]) = so (w ++ [c]) := fun w c => so_eq (so_srt _) ((so_perm _).trans ((so_perm w).symm.append_right _))
      constructor
      · rintro ⟨w, hw, rfl⟩
        rcases List.mem_append.mp hw with m | m
        · obtain ⟨v, hv, rfl⟩ := List.mem_map.mp m
          exact ⟨so v, (f2 _).mp ⟨v, hv, rfl⟩, .inl (sub v b).symm⟩
        · obtain ⟨v, hv, rfl⟩ := List.mem_map.mp m
          exact ⟨so v, (f2 _).mp ⟨v, hv, rfl⟩, .inr (sub v (sw b)).symm⟩
      · rintro ⟨w, hw, z⟩
        obtain ⟨v, hv, rfl⟩ := (f2 w).mpr hw
        rcases z with rfl | rfl
        · exact ⟨v ++ [b], List.mem_append_left _ (List.mem_map.mpr ⟨v, hv, rfl⟩), sub v b⟩
        · exact ⟨v ++ [sw b], List.mem_append_right _ (List.mem_map.mpr ⟨v, hv, rfl⟩), sub v (sw b)⟩
  · rw [lay_none]
    constructor
    · rintro ⟨w, hw, rfl⟩
      rw [List.mem_singleton.mp hw]
      exact so_eq .nil (.refl _)
    · rintro rfl
      exact ⟨[], List.mem_singleton.mpr rfl, (so_eq .nil (.refl _)).symm⟩
  · rintro F ⟨f1, f2, f3⟩
    have f4 := Nat.le_trans f3 (pow_le (show B.length ≤ 8 by omega))
    have cm : compM patN (fun _ => pure true) (fun c7 => sortC [c7] >>= fun ds => tupleC [.list ds]) (F.map eW) = pure ((F.map so).map eW) := by
      rw [List.map_map]
      exact compM_all (c := eW) (fun _ _ => rfl) fun w hw => by
        rw [s_so (by have := f1 w hw; omega), M.pure_bind']
        rfl
    simp only [M.pure_bind', M.bind_assoc', show seqM (.list (F.map eW)) = pure (F.map eW) from rfl, List.length_map, szl (show F.length ≤ 1000 by omega), M.guard_true]
    rw [cm, M.pure_bind']
    refine run_bind (run_bind (set_rows (n := B.length) (fun r hr => ?_) (fun hz => ?_) (by rw [List.length_map]; omega) fun ws w1 w2 => ?_))
    · obtain ⟨w, hw, rfl⟩ := List.mem_map.mp hr
      rw [so_len]
      exact f1 w hw
    · rw [hz] at f3
      rw [List.length_map]
      exact f3
    · refine q ws ⟨w1, fun w => ?_⟩
      rw [w2, List.mem_map, ← f2]
      exact ⟨fun ⟨v, hv, e⟩ => ⟨v, hv, e.symm⟩, fun ⟨v, hv, e⟩ => ⟨v, hv, e.symm⟩⟩
end Lw

set_option Elab.async false
set_option linter.all false
set_option maxRecDepth 100000
set_option maxHeartbeats 2000000
/-! the balanced lay; how many; the law's own words; draws -/
namespace Lw
open PySem PySem.Spec PyProof.Rows L2 DL Gr Eu
theorem odd_dg {B : Ar} (h : Good B) : oddN B = [] ↔ ∀ v, dg B v % 2 = 0 := odd_nil h
theorem s_balanced {B : Ar} (h : Lot B) {ws : List Ar} (l : Lays B ws) : (oddN B ≠ [] ∧ m_balanced [eA B] = pure (.rt .none)) ∨ (oddN B = [] ∧ ∃ w, m_balanced [eA B] = pure (.rt (eW w)) ∧ w ∈ ws.filter balB) := by
  have l8 := h.good.len
  by_cases h0 : oddN B = []
  · refine .inr ⟨h0, ?_⟩
    obtain ⟨gs, hG, pc, _, g7⟩ := s_pieces h.good
    have he := (odd_dg h.good).mp h0
    unfold m_balanced
    simp only [M.pure_bind', M.bind_assoc', List.length_cons, List.length_nil, Nat.zero_add, decide_true, M.guard_true, s_check_lot h, fin_nx, s_odd (show B.length ≤ 1000 by omega), fin_rt, szl (show 0 ≤ 1000 by decide)]
    rw [h0, show lenD [eR []] = pure (.int 0) from rfl, M.pure_bind', ord_gt, M.pure_bind', show decide ((0 : Int) < 0) = false from rfl, M.if_false, hG, fin_rt, M.pure_bind', show seqM (.list (gs.map eT)) = pure (gs.map eT) from rfl, M.pure_bind']
    refine forM_thn (R := fun m => ∃ w, m = pure (.rt (eW w)) ∧ w ∈ ws.filter balB) eT (fun R : Ar => eW R) gs []
      (fun pre R => (∀ v, df R v = 0) ∧ (R.map bone).Perm (B.filter fun p => decide (p.1 ∈ pre.flatten))) ?_ ⟨fun _ => rfl, by rw [filter_none]; exact .refl _⟩ ?_
    · rintro pre g ⟨post, hx⟩ R ⟨r1, r2⟩
      have hg : g ∈ gs := by rw [hx]; simp
      obtain ⟨r, e1, e2, e3⟩ := s_piece_row h pc he hg
      have lR : R.length ≤ 8 := by
        have := r2.length_eq
        rw [List.length_map] at this
        rw [this]
        exact Nat.le_trans (List.length_filter_le _ _) l8
      have lr : r.length ≤ 8 := by
        have := e3.length_eq
        rw [List.length_map] at this
        rw [this]
        exact Nat.le_trans (List.length_filter_le _ _) l8
      rw [patN, M.pure_bind', s_bones_of h.good.len, fin_rt, M.pure_bind', e1, fin_rt, M.pure_bind', add_eW (by omega), M.pure_bind']
      refine ⟨R ++ r, rfl, fun v => by rw [df_app, r1, e2]; rfl, ?_⟩
      rw [List.map_append]
      refine (r2.append e3).trans (pieces_next fun g' hg' => ?_)
      have ap := pcs_apart pc
      rw [hx] at ap
      exact (List.pairwise_append.mp ap).2.2 g' hg' g List.mem_cons_self
    · rintro R ⟨r1, r2⟩
      rw [pcs_all pc] at r2
      have lR : R.length ≤ 8 := by
        have := r2.length_eq
        rw [List.length_map] at this
        omega
      rw [s_so (by omega), M.pure_bind']
      have hm : so R ∈ ws := (l.mem _).mpr ⟨so_srt R, ((so_perm R).map bone).trans r2⟩
      refine ⟨so R, rfl, List.mem_filter.mpr ⟨hm, (bal_df (l.pips h hm)).mpr fun v => ?_⟩⟩
      rw [df_perm (so_perm R), r1]
  · refine .inl ⟨h0, ?_⟩
    obtain ⟨k, hk⟩ : ∃ k, (oddN B).length = k + 1 := ⟨(oddN B).length - 1, by have := List.length_pos_iff.mpr h0; omega⟩
    unfold m_balanced
    simp only [M.pure_bind', M.bind_assoc', List.length_cons, List.length_nil, Nat.zero_add, decide_true, M.guard_true, s_check_lot h, fin_nx, s_odd (show B.length ≤ 1000 by omega), fin_rt, szl (show 0 ≤ 1000 by decide)]
    rw [show lenD [eR (oddN B)] = pure (.int (oddN B).length) by unfold eR; rw [len_list, List.length_map], M.pure_bind', ord_gt, M.pure_bind', hk, decide_eq_true (show (0 : Int) < ((k + 1 : Nat) : Int) by omega), M.if_true]
    rfl
theorem even_odd {B : Ar} (h : Lot B) {ws : List Ar} (l : Lays B ws) : ws.filter balB ≠ [] → oddN B = [] := by
  intro n
  obtain ⟨w, t, e⟩ := List.exists_cons_of_ne_nil n
  have hw : w ∈ ws.filter balB := by rw [e]; exact List.mem_cons_self
  obtain ⟨h1, h2⟩ := List.mem_filter.mp hw
  have z := (bal_df (l.pips h h1)).mp h2
  refine (odd_dg h.good).mpr fun v => ?_
  rw [← dg_perm ((l.mem w).mp h1).2, dg_bone]
  obtain ⟨k, hk⟩ := dg_df v w
  rw [hk, z]
  omega
theorem s_count {B : Ar} (h : Lot B) {ws : List Ar} (l : Lays B ws) : m_count_balanced [eA B] = pure (.rt (.int (ws.filter balB).length)) := by
  obtain ⟨ws2, e, l2, n⟩ := s_lays h
  rw [l2.uniq l] at e n
  unfold m_count_balanced
  simp only [M.pure_bind', M.bind_assoc', List.length_cons, List.length_nil, Nat.zero_add, decide_true, M.guard_true, s_check_lot h, fin_nx, e, fin_rt, show seqM (.list (ws.map eW)) = pure (ws.map eW) from rfl, List.length_map, szl (show ws.length ≤ 1000 by omega)]
  rw [compM_eq (c := eW) (tb := balB) (g := eW)]
  · rw [M.pure_bind', len_list, List.length_map, M.pure_bind']
  · exact fun _ _ => rfl
  · intro w hw
    rw [s_balanced_of (by rw [l.len hw]; exact h.good.len), fin_rt]
    rfl
  · exact fun _ _ _ => rfl
/-! ### the law's own words -/
theorem s_lawcount {B : Ar} (h : B.length ≤ 1000) (v : Int) : m__law_count [eA B, .int v] = pure (.rt (.int (dg B v))) := by
  unfold m__law_count eA
  simp only [M.pure_bind', M.bind_assoc', show seqM (.tuple (B.map eP)) = pure (B.map eP) from rfl, List.length_map, szl h, M.guard_true]
  rw [compM_eq (c := eP) (tb := fun p => p.1 == v) (g := eP), compM_eq (c := eP) (tb := fun p => p.2 == v) (g := eP)]
  · simp only [M.pure_bind', len_list, List.length_map]
    have e : ∀ L : Ar, (((L.filter fun p => p.1 == v).length : Nat) : Int) + ((L.filter fun p => p.2 == v).length : Nat) = dg L v := fun L => by
      induction L with
      | nil => rfl
      | cons p r ih =>
        rw [dg, ← ih, List.filter_cons, List.filter_cons]
        by_cases h1 : p.1 = v <;> by_cases h2 : p.2 = v <;> simp [h1, h2] <;> omega
    rw [← e]
    rfl
  all_goals first | exact fun _ _ => rfl | exact fun _ _ _ => rfl
theorem s_lawodd {B : Ar} (h : B.length ≤ 1000) : m__law_odd [eA B] = pure (.rt (eR (oddN B))) := by
  unfold m__law_odd
  simp only [M.pure_bind', M.bind_assoc', show rng1M [.int 7] = pure (pipsL.map PyData.int) from rfl, List.length_map, szl (show pipsL.length ≤ 1000 by decide), M.guard_true]
  rw [compM_eq (c := PyData.int) (tb := fun v => dg B v % 2 == 1) (g := PyData.int)]
  · rfl
  · exact fun _ _ => rfl
  · intro v _
    simp only [List.length_cons, List.length_nil, decide_true, M.guard_true, s_lawcount h, fin_rt, M.pure_bind', Nat.zero_add, Nat.reduceAdd]
    rfl
  · exact fun _ _ _ => rfl
theorem s_lawbone (a b : Int) : m__law_bone [.int a, .int b] = pure (.rt (eP (bone (a, b)))) := rfl
/-! ### draws -/
theorem lot_run {k : Nat} (hk : k ≤ 8) {n : Int} (hn : 0 < n ∧ n ≤ 7) {P : PyData → Prop} {R : Er → Prop} (q : ∀ B, Lot B → B.length ≤ k → (∀ p ∈ B, p.2 < n) → P (eA B)) : ((m__law_lot [.int (k : Nat), .int n]).fin).run P R := by
  have tk : ∀ {P : PyData → Prop} {R : Er → Prop}, (∀ k : Int, 0 ≤ k → k < n → P (.int k)) → ((takenM [.int n]).fin).run P R := fun q => tk_run (by omega) fun k h1 h2 => q k h1 h2
  unfold m__law_lot
  simp only [M.pure_bind', M.bind_assoc', List.length_cons, List.length_nil, decide_true, M.guard_true, Nat.zero_add, szl (show 0 ≤ 1000 by decide), show addD (.int (k : Nat)) (.int 1) = pure (.int ((k : Nat) + 1)) from rfl]
  refine run_bind (run_bind (tk_run (by omega) fun m hm1 hm2 => ?_))
  refine run_bind (tk fun e he1 he2 => ?_)
  refine run_bind (tk_run (by omega) fun lo _ _ => ?_)
  simp only [eqM_int, M.pure_bind']
  obtain ⟨m, rfl⟩ := Int.eq_ofNat_of_zero_le hm1
  have hm : m ≤ k := by omega
  rw [rng1_nat (by omega), M.pure_bind']
  refine forM_run (fun (i : Nat) => PyData.int (0 + (i : Nat))) (List.range m) (PyData.int e, PyData.list []) (fun pre c => ∃ (e : Int) (F : Ar), c = (PyData.int e, PyData.list (F.map eP)) ∧ F.length = pre.length ∧ (0 ≤ e ∧ e < n) ∧ ∀ p ∈ F, 0 ≤ p.1 ∧ p.1 ≤ p.2 ∧ p.2 < n) ?_ ⟨e, [], rfl, rfl, ⟨he1, he2⟩, nofun⟩ ?_
  · rintro pre x ⟨post, hx⟩ c ⟨e, F, rfl, hF, he, hp⟩
    have hl : pre.length ≤ 8 := by
      have := congrArg List.length hx
      rw [List.length_range, List.length_append, List.length_cons] at this
      omega
    have rest : ∀ one : Int, 0 ≤ one → one < n → ((takenM [.int n]).fin >>= fun end8 => (m__law_bone [.int one, end8]).fin >>= fun b => addD (.list (F.map eP)) (.list [b]) >>= fun found9 => (pure (.nx (end8, found9)) : M (Fl (PyData × PyData)))).run
        (fun fl => ∃ c', fl = .nx c' ∧ ∃ (e : Int) (F : Ar), c' = (PyData.int e, PyData.list (F.map eP)) ∧ F.length = (pre ++ [x]).length ∧ (0 ≤ e ∧ e < n) ∧ ∀ p ∈ F, 0 ≤ p.1 ∧ p.1 ≤ p.2 ∧ p.2 < n) R := by
      intro one h1 h2
      refine run_bind (tk fun k k1 k2 => ?_)
      rw [s_lawbone, fin_rt, M.pure_bind', show ([eP (bone (one, k))] : List PyData) = [bone (one, k)].map eP from rfl, add_list (by rw [List.length_map]; simp; omega), M.pure_bind', ← List.map_append]
      refine ⟨_, rfl, k, F ++ [bone (one, k)], rfl, by rw [List.length_append, List.length_append, hF]; rfl, ⟨k1, k2⟩, fun p hp2 => ?_⟩
      rcases List.mem_append.mp hp2 with z | z
      · exact hp p z
      · rw [List.mem_singleton.mp z]
        have lo := bone_is_low (one, k)
        rcases bone_or (one, k) with e | e
        · rw [e] at lo ⊢
          exact ⟨h1, lo, k2⟩
        · rw [e] at lo ⊢
          exact ⟨k1, lo, h2⟩
    simp only [patN, M.pure_bind', truthM, M.bind_assoc', szl (show 1 ≤ 1000 by decide), M.guard_true]
    cases h : (lo == 0) with
    | true =>
      rw [M.if_true]
      exact run_bind (tk fun one o1 o2 => rest one o1 o2)
    | false =>
      rw [M.if_false]
      exact rest e he.1 he.2
  · rintro c ⟨e, F, rfl, hF, he, hp⟩
    rw [List.length_range] at hF
    dsimp only
    rw [show sortC [.list (F.map eP)] = sortC [eW F] from rfl, s_so (by omega)]
    have hm2 : ∀ p ∈ so F, p ∈ F := fun p hp2 => (so_perm F).mem_iff.mp hp2
    refine q (so F) ⟨⟨by rw [so_len]; omega, fun p hp2 => ?_, so_srt F⟩, fun p hp2 => (hp p (hm2 p hp2)).2.1⟩ (by rw [so_len]; omega) fun p hp2 => (hp p (hm2 p hp2)).2.2
    have := hp p (hm2 p hp2)
    omega
/-! ### bad arguments -/
def badLs : List PyData := [.none, .list [.tuple [.int 0, .int 1]], .tuple [.tuple [.int 1, .int 0]], .tuple [.tuple [.int 0, .int 7]], .tuple [.tuple [.int 0, .int 1], .tuple [.int 0, .int 0]], .tuple [.tuple [.bool true, .int 1]], .tuple [.tuple [.int 0, .int 1, .int 2]], .str "x",
  .tuple (List.replicate 9 (.tuple [.int 0, .int 0])), .tuple [.int 5], .tuple [.tuple [.int (-1), .int 0]]]
theorem bad_lots : m__law_bad_lot [] = ((m__law_pick [.list badLs]).fin >>= fun d => pure (.rt d)) := by kernel_rfl
theorem bad1 : m_is_lot [.none] = pure (.rt (.bool false)) := by kernel_rfl
theorem bad2 : m_is_lot [.list [.tuple [.int 0, .int 1]]] = pure (.rt (.bool false)) := by kernel_rfl
theorem bad3 : m_is_lot [.tuple [.tuple [.int 1, .int 0]]] = pure (.rt (.bool false)) := by kernel_rfl
theorem bad4 : m_is_lot [.tuple [.tuple [.int 0, .int 7]]] = pure (.rt (.bool false)) := by kernel_rfl
theorem bad5 : m_is_lot [.tuple [.tuple [.int 0, .int 1], .tuple [.int 0, .int 0]]] = pure (.rt (.bool false)) := by kernel_rfl
theorem bad6 : m_is_lot [.tuple [.tuple [.bool true, .int 1]]] = pure (.rt (.bool false)) := by kernel_rfl
theorem bad7 : m_is_lot [.tuple [.tuple [.int 0, .int 1, .int 2]]] = pure (.rt (.bool false)) := by kernel_rfl
theorem bad8 : m_is_lot [.str "x"] = pure (.rt (.bool false)) := by kernel_rfl
theorem bad9 : m_is_lot [.tuple (List.replicate 9 (.tuple [.int 0, .int 0]))] = pure (.rt (.bool false)) := by kernel_rfl
theorem bad10 : m_is_lot [.tuple [.int 5]] = pure (.rt (.bool false)) := by kernel_rfl
theorem bad11 : m_is_lot [.tuple [.tuple [.int (-1), .int 0]]] = pure (.rt (.bool false)) := by kernel_rfl
theorem bad_is {d : PyData} (hd : d ∈ badLs) : m_is_lot [d] = pure (.rt (.bool false)) := by
  simp only [badLs, List.mem_cons, List.not_mem_nil, or_false] at hd
  rcases hd with rfl | rfl | rfl | rfl | rfl | rfl | rfl | rfl | rfl | rfl | rfl
  · exact bad1
  · exact bad2
  · exact bad3
  · exact bad4
  · exact bad5
  · exact bad6
  · exact bad7
  · exact bad8
  · exact bad9
  · exact bad10
  · exact bad11
theorem s_checkF {n : Str} (h : showsD (.str n) = true) : m_check [.bool false, .str n] = M.err (.bad (.str n)) := by
  unfold m_check
  simp only [M.pure_bind', M.bind_assoc', truthM, Bool.not_false]
  rw [if_pos trivial]
  unfold raise1
  rw [h]
  rfl
theorem bad_check {d : PyData} (h : m_is_lot [d] = pure (.rt (.bool false))) : m_check_lot [d] = M.err (.bad (.str "lot")) := by
  unfold m_check_lot
  simp only [M.pure_bind', M.bind_assoc', List.length_cons, List.length_nil, decide_true, M.guard_true, h, fin_rt, s_checkF (n := "lot") (by decide +kernel)]
  rfl
def badT (n : Str) : PyData := .tuple [.str "bad", .str n, .bool true]
end Lw

set_option Elab.async false
set_option linter.all false
set_option maxRecDepth 100000
set_option maxHeartbeats 4000000
/-! k45: the law -/
namespace Lw
open PySem PySem.Spec PyProof.Rows L2 DL Gr Eu
theorem hd_balanced {d : PyData} (h : m_is_lot [d] = pure (.rt (.bool false))) : heardM ((m_balanced [d]).fin) = pure (badT "lot") := by
  unfold m_balanced
  simp only [M.pure_bind', M.bind_assoc', List.length_cons, List.length_nil, decide_true, M.guard_true, bad_check h]
  rfl
theorem hd_count {d : PyData} (h : m_is_lot [d] = pure (.rt (.bool false))) : heardM ((m_count_balanced [d]).fin) = pure (badT "lot") := by
  unfold m_count_balanced
  simp only [M.pure_bind', M.bind_assoc', List.length_cons, List.length_nil, decide_true, M.guard_true, bad_check h]
  rfl
theorem hd_lay {d : PyData} (h : m_is_lot [d] = pure (.rt (.bool false))) : heardM ((m_is_lay [d, .tuple []]).fin) = pure (badT "lot") := by
  unfold m_is_lay
  simp only [M.pure_bind', M.bind_assoc', List.length_cons, List.length_nil, decide_true, M.guard_true, bad_check h]
  rfl
theorem hd_lean {d : PyData} (h : m_is_lot [d] = pure (.rt (.bool false))) : heardM ((m_leaning_pips [d, .tuple []]).fin) = pure (badT "lot") := by
  unfold m_leaning_pips
  simp only [M.pure_bind', M.bind_assoc', List.length_cons, List.length_nil, Nat.zero_add, Nat.reduceAdd, decide_true, M.guard_true, h, fin_rt, s_checkF (n := "lot") (by decide +kernel)]
  rfl
theorem hd_value {B : Ar} (h : Lot B) (hp : ∀ p ∈ B, p.2 < 5) {ws : List Ar} (l : Lays B ws) : heardM ((m_leaning_pips [eA B, .tuple [.tuple [.int 6, .int 5]]]).fin) = pure (badT "value") := by
  have n : ¬ ([(6, 5)] : Ar) ∈ ws := fun z => by
    have hb := ((l.mem _).mp z).2
    have := hp (bone (6, 5)) (hb.mem_iff.mp List.mem_cons_self)
    exact absurd this (by decide)
  have e := s_is_lay_of h l (w := [(6, 5)]) (fun p hp => by rw [List.mem_singleton.mp hp]; decide) (by decide)
  rw [decide_eq_false n] at e
  rw [show PyData.tuple [.tuple [.int 6, .int 5]] = eW [(6, 5)] from rfl]
  unfold m_leaning_pips
  simp only [M.pure_bind', M.bind_assoc', List.length_cons, List.length_nil, Nat.zero_add, Nat.reduceAdd, decide_true, M.guard_true, s_is_lot h, s_check, fin_nx, e, fin_rt, s_checkF (n := "value") (by decide +kernel)]
  rfl
theorem refused_run {B : Ar} (h : Lot B) (hp : ∀ p ∈ B, p.2 < 5) {ws : List Ar} (l : Lays B ws) {P : PyData → Prop} {R : Er → Prop} (q : P (.bool true)) : ((m__law_refused [eA B]).fin).run P R := by
  unfold m__law_refused
  simp only [M.pure_bind', M.bind_assoc', List.length_nil, decide_true, M.guard_true, bad_lots, Nat.zero_add]
  refine run_bind (run_bind (run_bind (run_bind (pick_run (xs := badLs) (by unfold badLs; simp) fun d hd => ?_))))
  have hb := bad_is hd
  simp only [M.pure_run]
  simp only [List.length_cons, List.length_nil, decide_true, M.guard_true, M.pure_bind', M.bind_assoc', szl (show 0 ≤ 1000 by decide), Nat.zero_add, Nat.reduceAdd, szl (show 1 ≤ 1000 by decide), szl (show 2 ≤ 1000 by decide), szl (show 5 ≤ 1000 by decide)]
  rw [hd_balanced hb, M.pure_bind', hd_count hb, M.pure_bind', hd_lay hb, M.pure_bind', hd_value h hp l, M.pure_bind', hd_lean hb, M.pure_bind']
  rw [show seqM (.tuple [.str "lot", .str "lot", .str "lot", .str "value", .str "lot"]) = pure [.str "lot", .str "lot", .str "lot", .str "value", .str "lot"] from rfl, M.pure_bind']
  simp only [List.length_cons, List.length_nil, Nat.zero_add, Nat.reduceAdd, szl (show 5 ≤ 1000 by decide), szl (show 3 ≤ 1000 by decide), M.guard_true]
  rw [show compM patN (fun _ => pure true) (fun c3 => (pure (PyData.tuple [.str "bad", c3, .bool true]) : M PyData)) [.str "lot", .str "lot", .str "lot", .str "value", .str "lot"] = pure [badT "lot", badT "lot", badT "lot", badT "value", badT "lot"] from rfl, M.pure_bind']
  rw [s_alike 7 (.list [badT "lot", badT "lot", badT "lot", badT "value", badT "lot"]) (by decide +kernel)]
  exact q
theorem eq_eR_nil (g : List Int) : eqM (eR g) (.list []) = pure (decide (g = [])) := by
  show M.guard (SeqAt.shaped (eR g) && SeqAt.shaped (.list [])) (pure (PyData.eqv (eR g) (.list []))) = _
  rw [shaped_eR]
  show pure _ = _
  cases g <;> rfl
theorem eq_pairs_nil (l : Ar) : eqM (.list (l.map eP)) (.list []) = pure (decide (l = [])) := by
  show M.guard (SeqAt.shaped (.list (l.map eP)) && SeqAt.shaped (.list [])) (pure (PyData.eqv (.list (l.map eP)) (.list []))) = _
  rw [shaped_pairs]
  show pure _ = _
  cases l <;> rfl
theorem nin_rowsW (w : Ar) (rs : List Ar) : ninM (eW w) (.list (rs.map eW)) = pure (!decide (w ∈ rs)) := by
  show M.guard (SeqAt.shaped (eW w) && SeqAt.shaped (.list (rs.map eW))) (pure (!(rs.map eW).any fun z => PyData.eqv z (eW w))) = _
  rw [shaped_eW, shaped_rowsW]
  show pure _ = _
  congr 2
  rw [List.any_map, Bool.eq_iff_iff]
  simp only [List.any_eq_true, Function.comp, eqv_eW, decide_eq_true_eq]
  exact ⟨fun ⟨x, h1, h2⟩ => h2 ▸ h1, fun h => ⟨w, h, rfl⟩⟩
theorem s_even {ws : List Ar} (h8 : ∀ w ∈ ws, w.length ≤ 8) : compM patN (fun c4 => (m__law_lean [c4]).fin >>= fun x => eqM x (.list [])) (fun c4 => pure c4) (ws.map eW) = pure ((ws.filter balB).map eW) := by
  refine compM_eq (c := eW) (tb := balB) (g := eW) (fun _ _ => rfl) (fun w hw => ?_) (fun _ _ _ => rfl)
  rw [show eW w = eA w from rfl, s_lawlean (h8 w hw), fin_rt, M.pure_bind', eq_pairs_nil, bal_lean]
theorem lay_list (B : Ar) (h : Lot B) (xs : List PyData) : m_is_lay [eA B, .list xs] = pure (.rt (.bool false)) := by
  unfold m_is_lay
  simp only [M.pure_bind', M.bind_assoc', List.length_cons, List.length_nil, Nat.zero_add, Nat.reduceAdd, decide_true, M.guard_true, s_check_lot h, fin_nx]
  rfl
theorem bal_list (B : Ar) (h : Lot B) (xs : List PyData) : m_is_balanced [eA B, .list xs] = pure (.rt (.bool false)) := by
  unfold m_is_balanced
  simp only [M.pure_bind', M.bind_assoc', List.length_cons, List.length_nil, Nat.zero_add, Nat.reduceAdd, decide_true, M.guard_true, s_check_lot h, fin_nx]
  rfl
theorem hspec (ns : List Int) (_ : ns.length ≤ 63) : (m_law (.list (ns.map PyData.int))).run (fun fl => fl = .rt (.bool true)) (fun _ => False) := by
  unfold m_law
  simp only [M.pure_bind', M.bind_assoc', List.length_cons, List.length_nil, decide_true, M.guard_true, Nat.zero_add, Nat.reduceAdd, szl (show 0 ≤ 1000 by decide), szl (show 1 ≤ 1000 by decide), szl (show 2 ≤ 1000 by decide), szl (show 3 ≤ 1000 by decide), szl (show 7 ≤ 1000 by decide), show negD (.int 1) = pure (.int (-1)) from rfl, intM]
  refine run_bind (pick_run (xs := [.int 2, .int 3, .int 4]) (by simp) fun d hd => ?_)
  obtain ⟨n, rfl, hn⟩ : ∃ n : Int, d = .int n ∧ 0 < n ∧ n ≤ 4 := by
    simp only [List.mem_cons, List.not_mem_nil, or_false] at hd
    rcases hd with rfl | rfl | rfl
    · exact ⟨2, rfl, by omega⟩
    · exact ⟨3, rfl, by omega⟩
    · exact ⟨4, rfl, by omega⟩
  refine run_bind (lot_run (k := 7) (by omega) ⟨hn.1, by omega⟩ fun B hB h7 hp => ?_)
  refine run_bind (s_law_lays hB fun ws hl => ?_)
  have l8 := hB.good.len
  have wl : ∀ w ∈ ws, w.length ≤ 7 := fun w hw => by rw [hl.len hw]; exact h7
  have wsl : ws.length ≤ 256 := by
    obtain ⟨ws2, _, l2, n2⟩ := s_lays hB
    rw [← l2.uniq hl]
    exact n2
  have evl : (ws.filter balB).length ≤ 256 := Nat.le_trans (List.length_filter_le _ _) wsl
  have rf : ∀ {P : PyData → Prop} {R : Er → Prop}, P (.bool true) → ((m__law_refused [eA B]).fin).run P R := fun q => refused_run hB (fun p hp2 => by have := hp p hp2; omega) hl q
  have pr : ∀ (xs : List PyData) (P : PyData → Prop) (R : Er → Prop), 0 < xs.length ∧ xs.length < 1000000 → (∀ v ∈ xs, P v) → ((m__law_pick [.list xs]).fin).run P R := fun xs P R h q => pick_run h q
  have al : ∀ d, okD 7 d = true → m__law_alike 7 [d, d] = pure (.rt (.bool true)) := s_alike 7
  generalize m__law_pick = pk at pr ⊢
  generalize m__law_alike 7 = lk at al ⊢
  generalize m__law_refused = rk at rf ⊢
  have sq : ∀ xs : List Ar, seqM (.list (xs.map eW)) = pure (xs.map eW) := fun _ => rfl
  rw [sq, M.pure_bind', szb (by rw [List.length_map]; omega), M.guard_true, s_even fun w hw => by have := wl w hw; omega]
  rw [M.pure_bind', s_count hB hl, fin_rt, s_lawodd (show B.length ≤ 1000 by omega), fin_rt]
  have isn : ∀ w : Ar, isntM (eW w) .none = pure true := fun _ => rfl
  have iss : isntM .none .none = pure false := rfl
  -- both cases meet
  have key : ∀ (fd : PyData) (b : Bool), m_balanced [eA B] = pure (.rt fd) → isntM fd .none = pure b → decide (oddN B = []) = b → decide (ws.filter balB = []) = !b → (b = true → ninM fd (.list ((ws.filter balB).map eW)) = pure false) → ∀ (k : M (Fl Empty)) (P : Fl Empty → Prop) (R : Er → Prop), k.run P R →
      ((m_balanced [eA B]).fin >>= fun found5 => (pure (PyData.int ((ws.filter balB).length : Nat)) : M PyData) >>= fun x => lenD [.list ((ws.filter balB).map eW)] >>= fun y => neM x y >>= fun c => (if c = true then pure true else isntM found5 .none >>= fun c => pure (eR (oddN B)) >>= fun x => eqM x (.list []) >>= fun c2 => neM (.bool c) (.bool c2) >>= fun c => if c = true then pure true else neM (.list ((ws.filter balB).map eW)) (.list []) >>= fun c => pure (eR (oddN B)) >>= fun x => eqM x (.list []) >>= fun c2 => neM (.bool c) (.bool c2)) >>= fun c => if c = true then M.thn (pure (.rt (.bool false)) : M (Fl Empty)) (fun z => z.elim) else (isntM found5 .none >>= fun c => if c = true then ninM found5 (.list ((ws.filter balB).map eW)) else pure false) >>= fun c => if c = true then M.thn (pure (.rt (.bool false)) : M (Fl Empty)) (fun z => z.elim) else k).run P R := by
    intro fd b e1 e2 e3 e4 e5 k P R hk
    rw [e1, fin_rt, M.pure_bind', M.pure_bind', len_list, List.length_map, M.pure_bind', neM_int, M.pure_bind', beq_self_eq_true, Bool.not_true, M.if_false, e2, M.pure_bind', M.pure_bind', eq_eR_nil, e3, M.pure_bind', ne_bools, M.pure_bind', beq_self_eq_true, Bool.not_true, M.if_false, ne_rows, e4, M.pure_bind', M.pure_bind', eq_eR_nil, e3, M.pure_bind', ne_bools, Bool.not_not, beq_self_eq_true, Bool.not_true, M.pure_bind', M.if_false]
    cases b with
    | false =>
      rw [M.pure_bind', M.if_false, M.pure_bind', M.if_false]
      exact hk
    | true =>
      rw [M.pure_bind', M.if_true, e5 rfl, M.pure_bind', M.if_false]
      exact hk
  have both : ∃ (fd : PyData) (b : Bool), m_balanced [eA B] = pure (.rt fd) ∧ isntM fd .none = pure b ∧ decide (oddN B = []) = b ∧ decide (ws.filter balB = []) = !b ∧ (b = true → ninM fd (.list ((ws.filter balB).map eW)) = pure false) := by
    rcases s_balanced hB hl with ⟨h0, e⟩ | ⟨h0, w, e, hw⟩
    · refine ⟨.none, false, e, rfl, decide_eq_false h0, ?_, nofun⟩
      exact decide_eq_true (Classical.byContradiction fun z => h0 (even_odd hB hl z))
    · refine ⟨eW w, true, e, rfl, decide_eq_true h0, ?_, fun _ => ?_⟩
      · exact decide_eq_false fun z => by rw [z] at hw; cases hw
      · rw [nin_rowsW, decide_eq_true hw]
        rfl
  obtain ⟨fd, b, e1, e2, e3, e4, e5⟩ := both
  refine key fd b e1 e2 e3 e4 e5 _ _ _ ?_
  clear key
  have wne : 0 < ws.length := by
    have m : so B ∈ ws := (hl.mem _).mpr ⟨so_srt B, by
      have := (so_perm B).map bone
      rw [map_low hB.low] at this
      exact this⟩
    exact List.length_pos_of_mem m
  rw [show rng1M [.int 8] = pure ((List.range 8).map fun (i : Nat) => PyData.int (0 + (i : Nat))) from rfl, M.pure_bind']
  have tt : truthM (.bool true) = pure true := rfl
  refine forM_run (fun (i : Nat) => PyData.int (0 + (i : Nat))) (List.range 8) () (fun _ _ => True) ?_ trivial ?_
  · rintro pre x _ _ _
    rw [patN, M.pure_bind']
    refine run_bind (pr _ _ _ (by rw [List.length_map]; omega) fun v hv => ?_)
    obtain ⟨w, hw, rfl⟩ := List.mem_map.mp hv
    have w7 := wl w hw
    have wp := hl.pips hB hw
    obtain ⟨v1, a1, b1, c1⟩ := cut_eW w none (some (-1))
    have six : PyData.tuple [.tuple [.int 6, .int 6]] = eW [(6, 6)] := rfl
    have hc : compM patN (fun _ => pure true) (fun c10 => revD c10) (w.map eP) = pure ((w.map sw).map eP) := by
      rw [List.map_map]
      exact compM_all (c := eP) (fun _ _ => rfl) fun _ _ => rfl
    have t1 : ∀ v : Ar, tupleC [.list (v.map eP)] = pure (eW v) := fun _ => rfl
    rw [a1, M.pure_bind', six, add_eW (by simp; omega), M.pure_bind', s_so (by simp; omega), M.pure_bind', t1, M.pure_bind', rev_eW, M.pure_bind', M.pure_bind', add_eW (by simp; omega), M.pure_bind', show listC [eW w] = pure (w.map eP) from rfl, M.pure_bind', show seqM (eW w) = pure (w.map eP) from rfl, M.pure_bind', szl (by rw [List.length_map]; omega), M.guard_true, hc, M.pure_bind', t1, M.pure_bind']
    have p66 : Pips [(6, 6)] := fun p hp => by rw [List.mem_singleton.mp hp]; decide
    have pv1 : Pips v1 := fun p hp => wp p (b1 p hp)
    have pap : ∀ {a b : Ar}, Pips a → Pips b → Pips (a ++ b) := fun ha hb p hp => (List.mem_append.mp hp).elim (ha p) (hb p)
    have us : ∀ v ∈ [eW w, eW (so (v1 ++ [(6, 6)])), eW w.reverse, eW v1, eW (w ++ [(6, 6)]), .list (w.map eP), eW (w.map sw)], (∃ u : Ar, v = eW u ∧ Pips u ∧ u.length ≤ 8) ∨ v = .list (w.map eP) := by
      intro v hv
      simp only [List.mem_cons, List.not_mem_nil, or_false] at hv
      rcases hv with rfl | rfl | rfl | rfl | rfl | rfl | rfl
      · exact .inl ⟨w, rfl, wp, by omega⟩
      · exact .inl ⟨_, rfl, fun p hp => pap pv1 p66 p ((so_perm _).mem_iff.mp hp), by rw [so_len]; simp; omega⟩
      · exact .inl ⟨_, rfl, fun p hp => wp p (List.mem_reverse.mp hp), by rw [List.length_reverse]; omega⟩
      · exact .inl ⟨_, rfl, pv1, by omega⟩
      · exact .inl ⟨_, rfl, pap wp p66, by simp; omega⟩
      · exact .inr rfl
      · refine .inl ⟨_, rfl, fun p hp => ?_, by rw [List.length_map]; omega⟩
        obtain ⟨q, hq, rfl⟩ := List.mem_map.mp hp
        have := wp q hq
        exact ⟨this.2.2.1, this.2.2.2, this.1, this.2.1⟩
    have ln : (m_leaning_pips [eA B, eW w]).fin = pure (eT (leanP w)) := by rw [s_leaning hB hl hw, fin_rt]
    have lw : (m__law_lean [eW w]).fin = pure (.list ((leanN w).map eP)) := by rw [show eW w = eA w from rfl, s_lawlean (by omega), fin_rt]
    have l7 := lean_small (L := w)
    have cl : compM pat2 (fun _ => pure true) (fun c13 => pure c13.1) ((leanN w).map eP) = pure ((leanP w).map PyData.int) := by
      rw [← lean_fst, List.map_map]
      exact compM_all (c := fun p : Int × Int => (PyData.int p.1, PyData.int p.2)) (fun _ _ => rfl) fun _ _ => rfl
    have aln : lk [eT (leanP w), eT (leanP w)] = pure (.rt (.bool true)) := al _ (ok_tup (by
      rw [List.length_map]
      have : (leanP w).length ≤ 7 := List.length_filter_le _ _
      omega) fun d hd => by
        obtain ⟨i, _, rfl⟩ := List.mem_map.mp hd
        rfl)
    have abo : ∀ b : Bool, lk [.bool b, .bool b] = pure (.rt (.bool true)) := fun b => al _ rfl
    have last : ∀ (P : Fl Unit → Prop) (R : Er → Prop), P (.nx ()) → ((m_leaning_pips [eA B, eW w]).fin >>= fun a => (m__law_lean [eW w]).fin >>= fun a_12 => seqM a_12 >>= fun a_13 => M.guard (decide (a_13.length ≤ sizeLine)) (compM pat2 (fun _ => pure true) (fun c13 => pure c13.1) a_13) >>= fun a_14 => tupleC [.list a_14] >>= fun a_15 => (lk [a, a_15]).fin >>= fun a => truthM a >>= fun a => if (!a) = true then M.thn (pure (.rt (.bool false)) : M (Fl Empty)) (fun z => z.elim) else (pure (.nx ()) : M (Fl Unit))).run P R := by
      intro P R hp
      rw [ln, M.pure_bind', lw, M.pure_bind', show seqM (.list ((leanN w).map eP)) = pure ((leanN w).map eP) from rfl, M.pure_bind', szl (by rw [List.length_map]; omega), M.guard_true, cl, M.pure_bind', show tupleC [.list ((leanP w).map PyData.int)] = pure (eT (leanP w)) from rfl, M.pure_bind', aln, fin_rt, M.pure_bind', tt, M.pure_bind', Bool.not_true, M.if_false]
      exact hp
    refine run_bind (pr _ _ _ (by simp) fun v hv => ?_)
    rcases us v hv with ⟨u, rfl, pu, u8⟩ | rfl
    · have bt : ∀ b, boolM (.bool b) = pure b := fun _ => rfl
      rw [show isTy "tuple" (eW u) = true from rfl, M.if_true, in_rows, M.pure_bind', s_is_lay hB hl pu u8, fin_rt, M.pure_bind', abo, fin_rt, M.pure_bind', tt, M.pure_bind', Bool.not_true, M.if_false, s_is_balanced hB hl pu u8, fin_rt, M.pure_bind', bt, M.pure_bind', in_rows]
      have e : (if decide (u ∈ ws) = true then pure (decide (u ∈ ws.filter balB)) else pure false : M Bool) = pure (decide (u ∈ ws) && balB u) := by
        by_cases h : u ∈ ws
        · rw [decide_eq_true h, M.if_true, Bool.true_and]
          congr 1
          rw [Bool.eq_iff_iff, decide_eq_true_eq, List.mem_filter]
          exact ⟨fun z => z.2, fun z => ⟨h, z⟩⟩
        · rw [decide_eq_false h, M.if_false, Bool.false_and]
      rw [e, M.pure_bind', abo, fin_rt, M.pure_bind', tt, M.pure_bind', Bool.not_true, M.pure_bind', M.if_false]
      exact last _ _ ⟨(), rfl, trivial⟩
    · rw [show isTy "tuple" (.list (w.map eP)) = false from rfl, M.if_false, M.pure_bind', lay_list B hB, fin_rt, M.pure_bind', abo, fin_rt, M.pure_bind', tt, M.pure_bind', Bool.not_true, M.if_false, bal_list B hB, fin_rt, M.pure_bind', show boolM (.bool false) = pure false from rfl, M.pure_bind', M.if_false, M.pure_bind', abo, fin_rt, M.pure_bind', tt, M.pure_bind', Bool.not_true, M.pure_bind', M.if_false]
      exact last _ _ ⟨(), rfl, trivial⟩
  · rintro _ _
    exact run_bind (rf rfl)
end Lw

set_option Elab.async false
set_option linter.all false
set_option maxRecDepth 100000
set_option maxHeartbeats 8000000
/-! the head's facts and the end (printed by endgen.py) -/
namespace Lw
open PySem PySem.Spec PyProof.Rows L2 DL Hk
def dl (x : Str) (i : Nat) : DefL := ⟨(x, none), x, x, top i⟩
def de (x q : Str) : DefL := ⟨(x, some "__init__"), "__init__", q, iniOf x⟩
def fns : List DefL := [dl "is_number" 8, dl "check" 9, dl "is_pip" 10, dl "is_bone" 14, dl "is_lot" 15, dl "check_lot" 16, dl "bone_of" 17, dl "ends_at" 18, dl "odd_in" 19, dl "pieces_in" 20, dl "bones_of" 21, dl "without_bone" 22, dl "is_arrow" 24, dl "are_arrows" 25, dl "away" 26, dl "toward" 27, dl "can_go_on" 29, dl "laid_from" 30, dl "first_laid" 31, dl "row_behind" 32, dl "first_row_in" 33, dl "lays" 35, dl "is_lay_of" 36, dl "is_lay" 37, dl "is_balanced_of" 38, dl "is_balanced" 39, dl "balanced" 40, dl "count_balanced" 41, dl "leaning_pips" 42, dl "_law_bone" 45, dl "_law_lot" 46, dl "_law_pick" 47, dl "_law_lays" 48, dl "_law_lean" 49, dl "_law_count" 50, dl "_law_odd" 51, dl "_law_alike" 52, dl "_law_bad_lot" 53, dl "_law_refused" 55, dl "law" 56, dl "_law_taken" 44, dl "_law_heard" 54, de "BadArgument" "BadArgument.__init__"]
def own : List (Str × Option Str) := [("BadArgument", some "__init__")]
def tabs : List Str := ["is_bone", "is_lot", "is_arrow", "are_arrows", "is_balanced_of", "_law_refused"]
def ffs (K : PySem.W.Frag) : List Bool := [He.Fa.ok K (.glo "is_number"),
  He.Fa.ok K (.glo "check"),
  He.Fa.ok K (.glo "is_pip"),
  He.Fa.ok K (.glo "is_bone"),
  He.Fa.ok K (.glo "is_lot"),
  He.Fa.ok K (.glo "check_lot"),
  He.Fa.ok K (.glo "bone_of"),
  He.Fa.ok K (.glo "ends_at"),
  He.Fa.ok K (.glo "odd_in"),
  He.Fa.ok K (.glo "pieces_in"),
  He.Fa.ok K (.glo "bones_of"),
  He.Fa.ok K (.glo "without_bone"),
  He.Fa.ok K (.glo "is_arrow"),
  He.Fa.ok K (.glo "are_arrows"),
  He.Fa.ok K (.glo "away"),
  He.Fa.ok K (.glo "toward"),
  He.Fa.ok K (.glo "can_go_on"),
  He.Fa.ok K (.glo "laid_from"),
  He.Fa.ok K (.glo "first_laid"),
  He.Fa.ok K (.glo "row_behind"),
  He.Fa.ok K (.glo "first_row_in"),
  He.Fa.ok K (.glo "lays"),
  He.Fa.ok K (.glo "is_lay_of"),
  He.Fa.ok K (.glo "is_lay"),
  He.Fa.ok K (.glo "is_balanced_of"),
  He.Fa.ok K (.glo "is_balanced"),
  He.Fa.ok K (.glo "balanced"),
  He.Fa.ok K (.glo "count_balanced"),
  He.Fa.ok K (.glo "leaning_pips"),
  He.Fa.ok K (.glo "_law_bone"),
  He.Fa.ok K (.glo "_law_lot"),
  He.Fa.ok K (.glo "_law_pick"),
  He.Fa.ok K (.glo "_law_lays"),
  He.Fa.ok K (.glo "_law_lean"),
  He.Fa.ok K (.glo "_law_count"),
  He.Fa.ok K (.glo "_law_odd"),
  He.Fa.ok K (.glo "_law_alike"),
  He.Fa.ok K (.glo "_law_bad_lot"),
  He.Fa.ok K (.glo "_law_refused"),
  He.Fa.ok K (.glo "law"),
  He.Fa.ok K (.glo "_law_taken"),
  He.Fa.ok K (.glo "_law_heard"),
  He.Fa.ok K (.glo "BoneError"),
  He.Fa.ok K (.glo "BadArgument"),
  He.Fa.ok K (.glo "Unlaid"),
  He.Fa.ok K (.glo "Refused"),
  He.Fa.ok K (.glo "Unread"),
  He.Fa.ok K (.free "ValueError"),
  He.Fa.ok K (.free "all"),
  He.Fa.ok K (.free "bool"),
  He.Fa.ok K (.free "dict"),
  He.Fa.ok K (.free "int"),
  He.Fa.ok K (.free "isinstance"),
  He.Fa.ok K (.free "len"),
  He.Fa.ok K (.free "list"),
  He.Fa.ok K (.free "max"),
  He.Fa.ok K (.free "min"),
  He.Fa.ok K (.free "range"),
  He.Fa.ok K (.free "set"),
  He.Fa.ok K (.free "sorted"),
  He.Fa.ok K (.free "str"),
  He.Fa.ok K (.free "sum"),
  He.Fa.ok K (.free "super"),
  He.Fa.ok K (.free "tuple"),
  He.Fa.ok K (.free "zip"),
  He.Fa.ok K (.int "MOST_BONES" 8),
  He.Fa.ok K (.int "MOST_PIP" 6),
  He.Fa.ok K (.glo "PIPS"),
  tupN K "PIPS" (([0, 1, 2, 3, 4, 5, 6] : List Int).map He.Dv.int),
  excB K (He.ga K "BadArgument"),
  eqB (PySem.W.kitOne K (.ref (He.ga K "BadArgument")) (.ref (He.ga K "BoneError"))) (some true),
  eqB (PySem.W.kitOne K (.ref (He.ga K "BadArgument")) (.type "ValueError")) (some true),
  excB K (He.ga K "Unlaid"),
  eqB (PySem.W.kitOne K (.ref (He.ga K "Unlaid")) (.ref (He.ga K "BoneError"))) (some true),
  eqB (PySem.W.kitOne K (.ref (He.ga K "Unlaid")) (.type "ValueError")) (some true),
  excB K (He.ga K "Refused"),
  eqB (PySem.W.kitOne K (.ref (He.ga K "Refused")) (.ref (He.ga K "BoneError"))) (some true),
  eqB (PySem.W.kitOne K (.ref (He.ga K "Refused")) (.type "ValueError")) (some true),
  excB K (He.ga K "Unread"),
  eqB (PySem.W.kitOne K (.ref (He.ga K "Unread")) (.ref (He.ga K "BoneError"))) (some true),
  eqB (PySem.W.kitOne K (.ref (He.ga K "Unread")) (.type "ValueError")) (some true),
  He.eqO (PySem.W.findIn K (.ref (He.ga K "BadArgument")) "name") (some none),
  He.eqO (PySem.W.findIn K (.ref (He.ga K "Unlaid")) "bar") (some none),
  He.eqO (PySem.W.findIn K (.ref (He.ga K "Refused")) "why") (some none),
  He.eqO (PySem.W.findIn K (.ref (He.ga K "Unread")) "line") (some none),
  He.eqO (PySem.W.findIn K (.ref (He.ga K "Unread")) "why") (some none),
  eqB (PySem.W.exmOne K (.ref (He.ga K "BadArgument")) (.ref (He.ga K "BadArgument"))) (some true),
  eqB (PySem.W.exmOne K (.ref (He.ga K "Unlaid")) (.ref (He.ga K "BadArgument"))) (some false),
  eqB (PySem.W.exmOne K (.ref (He.ga K "Unlaid")) (.ref (He.ga K "Unlaid"))) (some true),
  eqB (PySem.W.exmOne K (.ref (He.ga K "Refused")) (.ref (He.ga K "BadArgument"))) (some false),
  eqB (PySem.W.exmOne K (.ref (He.ga K "Refused")) (.ref (He.ga K "Unlaid"))) (some false),
  eqB (PySem.W.exmOne K (.ref (He.ga K "Refused")) (.ref (He.ga K "Refused"))) (some true),
  eqB (PySem.W.exmOne K (.ref (He.ga K "Unread")) (.ref (He.ga K "BadArgument"))) (some false),
  eqB (PySem.W.exmOne K (.ref (He.ga K "Unread")) (.ref (He.ga K "Unlaid"))) (some false),
  eqB (PySem.W.exmOne K (.ref (He.ga K "Unread")) (.ref (He.ga K "Refused"))) (some false),
  eqB (PySem.W.exmOne K (.ref (He.ga K "Unread")) (.ref (He.ga K "Unread"))) (some true),
  supB PySem.Challenge.pw_dominorows_k45_balanced_lays.main.file K "BadArgument" "BadArgument.__init__",
  !(tabA K ("is_lot", none) == tabA K ("is_bone", none)),
  !(tabA K ("is_arrow", none) == tabA K ("is_bone", none)),
  !(tabA K ("is_arrow", none) == tabA K ("is_lot", none)),
  !(tabA K ("are_arrows", none) == tabA K ("is_bone", none)),
  !(tabA K ("are_arrows", none) == tabA K ("is_lot", none)),
  !(tabA K ("are_arrows", none) == tabA K ("is_arrow", none)),
  !(tabA K ("is_balanced_of", none) == tabA K ("is_bone", none)),
  !(tabA K ("is_balanced_of", none) == tabA K ("is_lot", none)),
  !(tabA K ("is_balanced_of", none) == tabA K ("is_arrow", none)),
  !(tabA K ("is_balanced_of", none) == tabA K ("are_arrows", none)),
  !(tabA K ("_law_refused", none) == tabA K ("is_bone", none)),
  !(tabA K ("_law_refused", none) == tabA K ("is_lot", none)),
  !(tabA K ("_law_refused", none) == tabA K ("is_arrow", none)),
  !(tabA K ("_law_refused", none) == tabA K ("are_arrows", none)),
  !(tabA K ("_law_refused", none) == tabA K ("is_balanced_of", none))]
theorem tne {a b : Addr} (h : (!(a == b)) = true) : a ≠ b := fun z => by
  rw [z] at h
  simp at h
theorem gxt {base : Heap} {mg : Str → Option Value} {c P : Addr} (t : LamX.TabB base mg c P) : GxR.TabB base mg c P := ⟨t.code, t.bm, t.gP⟩
def cT (K : PySem.W.Frag) : DC := ⟨[tabA K ("is_bone", none), tabA K ("is_lot", none), tabA K ("is_arrow", none), tabA K ("are_arrows", none), tabA K ("is_balanced_of", none)], [(tabA K ("_law_refused", none), (envOfC "_law_refused" (defScope st__law_refused) 0 0 .none).qual ++ "<lambda>")], He.ga K "BadArgument", He.ga K "Unlaid", He.ga K "Refused", He.ga K "Unread"⟩
abbrev csT (K : PySem.W.Frag) : List (Addr × Addr) := tabs.map fun x => (codeA K (x, none), tabA K (x, none))
section
variable {K : PySem.W.Frag} {h base : Heap} {mg : Str → Option Value}
theorem hF_is_number (c : Says fns own tabs ffs K h) : FunC K "is_number" "is_number" st_is_number (He.fAd K ("is_number", none)) (fdA K ("is_number", none)) (codeA K ("is_number", none)) := c.fn (d := dl "is_number" 8) 0 rfl
theorem hF_check (c : Says fns own tabs ffs K h) : FunC K "check" "check" st_check (He.fAd K ("check", none)) (fdA K ("check", none)) (codeA K ("check", none)) := c.fn (d := dl "check" 9) 1 rfl
theorem hF_is_pip (c : Says fns own tabs ffs K h) : FunC K "is_pip" "is_pip" st_is_pip (He.fAd K ("is_pip", none)) (fdA K ("is_pip", none)) (codeA K ("is_pip", none)) := c.fn (d := dl "is_pip" 10) 2 rfl
theorem hF_is_bone (c : Says fns own tabs ffs K h) : FunC K "is_bone" "is_bone" st_is_bone (He.fAd K ("is_bone", none)) (fdA K ("is_bone", none)) (codeA K ("is_bone", none)) := c.fn (d := dl "is_bone" 14) 3 rfl
theorem hF_is_lot (c : Says fns own tabs ffs K h) : FunC K "is_lot" "is_lot" st_is_lot (He.fAd K ("is_lot", none)) (fdA K ("is_lot", none)) (codeA K ("is_lot", none)) := c.fn (d := dl "is_lot" 15) 4 rfl
theorem hF_check_lot (c : Says fns own tabs ffs K h) : FunC K "check_lot" "check_lot" st_check_lot (He.fAd K ("check_lot", none)) (fdA K ("check_lot", none)) (codeA K ("check_lot", none)) := c.fn (d := dl "check_lot" 16) 5 rfl
theorem hF_bone_of (c : Says fns own tabs ffs K h) : FunC K "bone_of" "bone_of" st_bone_of (He.fAd K ("bone_of", none)) (fdA K ("bone_of", none)) (codeA K ("bone_of", none)) := c.fn (d := dl "bone_of" 17) 6 rfl
theorem hF_ends_at (c : Says fns own tabs ffs K h) : FunC K "ends_at" "ends_at" st_ends_at (He.fAd K ("ends_at", none)) (fdA K ("ends_at", none)) (codeA K ("ends_at", none)) := c.fn (d := dl "ends_at" 18) 7 rfl
theorem hF_odd_in (c : Says fns own tabs ffs K h) : FunC K "odd_in" "odd_in" st_odd_in (He.fAd K ("odd_in", none)) (fdA K ("odd_in", none)) (codeA K ("odd_in", none)) := c.fn (d := dl "odd_in" 19) 8 rfl
theorem hF_pieces_in (c : Says fns own tabs ffs K h) : FunC K "pieces_in" "pieces_in" st_pieces_in (He.fAd K ("pieces_in", none)) (fdA K ("pieces_in", none)) (codeA K ("pieces_in", none)) := c.fn (d := dl "pieces_in" 20) 9 rfl
theorem hF_bones_of (c : Says fns own tabs ffs K h) : FunC K "bones_of" "bones_of" st_bones_of (He.fAd K ("bones_of", none)) (fdA K ("bones_of", none)) (codeA K ("bones_of", none)) := c.fn (d := dl "bones_of" 21) 10 rfl
theorem hF_without_bone (c : Says fns own tabs ffs K h) : FunC K "without_bone" "without_bone" st_without_bone (He.fAd K ("without_bone", none)) (fdA K ("without_bone", none)) (codeA K ("without_bone", none)) := c.fn (d := dl "without_bone" 22) 11 rfl
theorem hF_is_arrow (c : Says fns own tabs ffs K h) : FunC K "is_arrow" "is_arrow" st_is_arrow (He.fAd K ("is_arrow", none)) (fdA K ("is_arrow", none)) (codeA K ("is_arrow", none)) := c.fn (d := dl "is_arrow" 24) 12 rfl
theorem hF_are_arrows (c : Says fns own tabs ffs K h) : FunC K "are_arrows" "are_arrows" st_are_arrows (He.fAd K ("are_arrows", none)) (fdA K ("are_arrows", none)) (codeA K ("are_arrows", none)) := c.fn (d := dl "are_arrows" 25) 13 rfl
theorem hF_away (c : Says fns own tabs ffs K h) : FunC K "away" "away" st_away (He.fAd K ("away", none)) (fdA K ("away", none)) (codeA K ("away", none)) := c.fn (d := dl "away" 26) 14 rfl
theorem hF_toward (c : Says fns own tabs ffs K h) : FunC K "toward" "toward" st_toward (He.fAd K ("toward", none)) (fdA K ("toward", none)) (codeA K ("toward", none)) := c.fn (d := dl "toward" 27) 15 rfl
theorem hF_can_go_on (c : Says fns own tabs ffs K h) : FunC K "can_go_on" "can_go_on" st_can_go_on (He.fAd K ("can_go_on", none)) (fdA K ("can_go_on", none)) (codeA K ("can_go_on", none)) := c.fn (d := dl "can_go_on" 29) 16 rfl
theorem hF_laid_from (c : Says fns own tabs ffs K h) : FunC K "laid_from" "laid_from" st_laid_from (He.fAd K ("laid_from", none)) (fdA K ("laid_from", none)) (codeA K ("laid_from", none)) := c.fn (d := dl "laid_from" 30) 17 rfl
theorem hF_first_laid (c : Says fns own tabs ffs K h) : FunC K "first_laid" "first_laid" st_first_laid (He.fAd K ("first_laid", none)) (fdA K ("first_laid", none)) (codeA K ("first_laid", none)) := c.fn (d := dl "first_laid" 31) 18 rfl
theorem hF_row_behind (c : Says fns own tabs ffs K h) : FunC K "row_behind" "row_behind" st_row_behind (He.fAd K ("row_behind", none)) (fdA K ("row_behind", none)) (codeA K ("row_behind", none)) := c.fn (d := dl "row_behind" 32) 19 rfl
theorem hF_first_row_in (c : Says fns own tabs ffs K h) : FunC K "first_row_in" "first_row_in" st_first_row_in (He.fAd K ("first_row_in", none)) (fdA K ("first_row_in", none)) (codeA K ("first_row_in", none)) := c.fn (d := dl "first_row_in" 33) 20 rfl
theorem hF_lays (c : Says fns own tabs ffs K h) : FunC K "lays" "lays" st_lays (He.fAd K ("lays", none)) (fdA K ("lays", none)) (codeA K ("lays", none)) := c.fn (d := dl "lays" 35) 21 rfl
theorem hF_is_lay_of (c : Says fns own tabs ffs K h) : FunC K "is_lay_of" "is_lay_of" st_is_lay_of (He.fAd K ("is_lay_of", none)) (fdA K ("is_lay_of", none)) (codeA K ("is_lay_of", none)) := c.fn (d := dl "is_lay_of" 36) 22 rfl
theorem hF_is_lay (c : Says fns own tabs ffs K h) : FunC K "is_lay" "is_lay" st_is_lay (He.fAd K ("is_lay", none)) (fdA K ("is_lay", none)) (codeA K ("is_lay", none)) := c.fn (d := dl "is_lay" 37) 23 rfl
theorem hF_is_balanced_of (c : Says fns own tabs ffs K h) : FunC K "is_balanced_of" "is_balanced_of" st_is_balanced_of (He.fAd K ("is_balanced_of", none)) (fdA K ("is_balanced_of", none)) (codeA K ("is_balanced_of", none)) := c.fn (d := dl "is_balanced_of" 38) 24 rfl
theorem hF_is_balanced (c : Says fns own tabs ffs K h) : FunC K "is_balanced" "is_balanced" st_is_balanced (He.fAd K ("is_balanced", none)) (fdA K ("is_balanced", none)) (codeA K ("is_balanced", none)) := c.fn (d := dl "is_balanced" 39) 25 rfl
theorem hF_balanced (c : Says fns own tabs ffs K h) : FunC K "balanced" "balanced" st_balanced (He.fAd K ("balanced", none)) (fdA K ("balanced", none)) (codeA K ("balanced", none)) := c.fn (d := dl "balanced" 40) 26 rfl
theorem hF_count_balanced (c : Says fns own tabs ffs K h) : FunC K "count_balanced" "count_balanced" st_count_balanced (He.fAd K ("count_balanced", none)) (fdA K ("count_balanced", none)) (codeA K ("count_balanced", none)) := c.fn (d := dl "count_balanced" 41) 27 rfl
theorem hF_leaning_pips (c : Says fns own tabs ffs K h) : FunC K "leaning_pips" "leaning_pips" st_leaning_pips (He.fAd K ("leaning_pips", none)) (fdA K ("leaning_pips", none)) (codeA K ("leaning_pips", none)) := c.fn (d := dl "leaning_pips" 42) 28 rfl
theorem hF__law_bone (c : Says fns own tabs ffs K h) : FunC K "_law_bone" "_law_bone" st__law_bone (He.fAd K ("_law_bone", none)) (fdA K ("_law_bone", none)) (codeA K ("_law_bone", none)) := c.fn (d := dl "_law_bone" 45) 29 rfl
theorem hF__law_lot (c : Says fns own tabs ffs K h) : FunC K "_law_lot" "_law_lot" st__law_lot (He.fAd K ("_law_lot", none)) (fdA K ("_law_lot", none)) (codeA K ("_law_lot", none)) := c.fn (d := dl "_law_lot" 46) 30 rfl
theorem hF__law_pick (c : Says fns own tabs ffs K h) : FunC K "_law_pick" "_law_pick" st__law_pick (He.fAd K ("_law_pick", none)) (fdA K ("_law_pick", none)) (codeA K ("_law_pick", none)) := c.fn (d := dl "_law_pick" 47) 31 rfl
theorem hF__law_lays (c : Says fns own tabs ffs K h) : FunC K "_law_lays" "_law_lays" st__law_lays (He.fAd K ("_law_lays", none)) (fdA K ("_law_lays", none)) (codeA K ("_law_lays", none)) := c.fn (d := dl "_law_lays" 48) 32 rfl
theorem hF__law_lean (c : Says fns own tabs ffs K h) : FunC K "_law_lean" "_law_lean" st__law_lean (He.fAd K ("_law_lean", none)) (fdA K ("_law_lean", none)) (codeA K ("_law_lean", none)) := c.fn (d := dl "_law_lean" 49) 33 rfl
theorem hF__law_count (c : Says fns own tabs ffs K h) : FunC K "_law_count" "_law_count" st__law_count (He.fAd K ("_law_count", none)) (fdA K ("_law_count", none)) (codeA K ("_law_count", none)) := c.fn (d := dl "_law_count" 50) 34 rfl
theorem hF__law_odd (c : Says fns own tabs ffs K h) : FunC K "_law_odd" "_law_odd" st__law_odd (He.fAd K ("_law_odd", none)) (fdA K ("_law_odd", none)) (codeA K ("_law_odd", none)) := c.fn (d := dl "_law_odd" 51) 35 rfl
theorem hF__law_alike (c : Says fns own tabs ffs K h) : FunC K "_law_alike" "_law_alike" st__law_alike (He.fAd K ("_law_alike", none)) (fdA K ("_law_alike", none)) (codeA K ("_law_alike", none)) := c.fn (d := dl "_law_alike" 52) 36 rfl
theorem hF__law_bad_lot (c : Says fns own tabs ffs K h) : FunC K "_law_bad_lot" "_law_bad_lot" st__law_bad_lot (He.fAd K ("_law_bad_lot", none)) (fdA K ("_law_bad_lot", none)) (codeA K ("_law_bad_lot", none)) := c.fn (d := dl "_law_bad_lot" 53) 37 rfl
theorem hF__law_refused (c : Says fns own tabs ffs K h) : FunC K "_law_refused" "_law_refused" st__law_refused (He.fAd K ("_law_refused", none)) (fdA K ("_law_refused", none)) (codeA K ("_law_refused", none)) := c.fn (d := dl "_law_refused" 55) 38 rfl
theorem hF_law (c : Says fns own tabs ffs K h) : FunC K "law" "law" st_law (He.fAd K ("law", none)) (fdA K ("law", none)) (codeA K ("law", none)) := c.fn (d := dl "law" 56) 39 rfl
theorem hF__law_taken (c : Says fns own tabs ffs K h) : FunC K "_law_taken" "_law_taken" st__law_taken (He.fAd K ("_law_taken", none)) (fdA K ("_law_taken", none)) (codeA K ("_law_taken", none)) := c.fn (d := dl "_law_taken" 44) 40 rfl
theorem hF__law_heard (c : Says fns own tabs ffs K h) : FunC K "_law_heard" "_law_heard" st__law_heard (He.fAd K ("_law_heard", none)) (fdA K ("_law_heard", none)) (codeA K ("_law_heard", none)) := c.fn (d := dl "_law_heard" 54) 41 rfl
theorem hrd (c : Says fns own tabs ffs K h) (G : h.Ns mainGlobals mg) : HrdF K mg (cT K) (He.ga K "BoneError") where
  mBone := He.glo_ok c.kin G (c.ff 42 rfl)
  mVE := He.free_ok c.kin G (c.ff 47 rfl)
  mIsi := He.free_ok c.kin G (c.ff 52 rfl)
  mBad := He.glo_ok c.kin G (c.ff 43 rfl)
  mUnl := He.glo_ok c.kin G (c.ff 44 rfl)
  mRef := He.glo_ok c.kin G (c.ff 45 rfl)
  mUnr := He.glo_ok c.kin G (c.ff 46 rfl)
  xf := fun d hd => by
    rcases hd with rfl | rfl | rfl | rfl
    · exact ⟨(exc_of (c.ff 69 rfl)).1, (exc_of (c.ff 69 rfl)).2, of_decide_eq_true (c.ff 70 rfl), of_decide_eq_true (c.ff 71 rfl)⟩
    · exact ⟨(exc_of (c.ff 72 rfl)).1, (exc_of (c.ff 72 rfl)).2, of_decide_eq_true (c.ff 73 rfl), of_decide_eq_true (c.ff 74 rfl)⟩
    · exact ⟨(exc_of (c.ff 75 rfl)).1, (exc_of (c.ff 75 rfl)).2, of_decide_eq_true (c.ff 76 rfl), of_decide_eq_true (c.ff 77 rfl)⟩
    · exact ⟨(exc_of (c.ff 78 rfl)).1, (exc_of (c.ff 78 rfl)).2, of_decide_eq_true (c.ff 79 rfl), of_decide_eq_true (c.ff 80 rfl)⟩
  nBad := He.eqO_ok (c.ff 81 rfl)
  nUnl := He.eqO_ok (c.ff 82 rfl)
  nRef := He.eqO_ok (c.ff 83 rfl)
  nUnr := He.eqO_ok (c.ff 84 rfl)
  nUnr2 := He.eqO_ok (c.ff 85 rfl)
  e11 := of_decide_eq_true (c.ff 86 rfl)
  e21 := of_decide_eq_true (c.ff 87 rfl)
  e22 := of_decide_eq_true (c.ff 88 rfl)
  e31 := of_decide_eq_true (c.ff 89 rfl)
  e32 := of_decide_eq_true (c.ff 90 rfl)
  e33 := of_decide_eq_true (c.ff 91 rfl)
  e41 := of_decide_eq_true (c.ff 92 rfl)
  e42 := of_decide_eq_true (c.ff 93 rfl)
  e43 := of_decide_eq_true (c.ff 94 rfl)
  e44 := of_decide_eq_true (c.ff 95 rfl)
theorem sup_binds {P : Program} {C fI cda cc : Addr} {q : Str} {st : Stmt} {fd : FuncData} {ps : List Str} (F : SupF P K C fI q st fd cda cc) (hb : ∀ (kV doc pm : Value) (an : Option Addr) (cdv ct : Value) (us : List Value), us.length = ps.length → bindArgs (PySem.W.ksFn "__init__" q (defArgs st) (defBody st) (defScope st) .none kV doc pm an cdv ct cc) ⟨us, []⟩ = pure (ps.zip us)) : Binds K fd ps [] := by
  obtain ⟨oc, od, osl, kV, doc, pm, an, ct, e, _⟩ := F.ex
  rw [e]
  exact .all (hb kV doc pm an _ ct)
theorem hE_bad (c : Says fns own tabs ffs K h) : SupF PySem.Challenge.pw_dominorows_k45_balanced_lays K (He.ga K "BadArgument") (He.ma K (He.ga K "BadArgument") "__init__") "BadArgument.__init__" (iniOf "BadArgument") (fdA K ("BadArgument", some "__init__")) (codeA K ("BadArgument", some "__init__")) (cellA K ("BadArgument", some "__init__")) := sup_of (c.at (d := de "BadArgument" "BadArgument.__init__") 42 rfl) (c.ff 96 rfl)
theorem hS_bad : SupS ["self", "name"] ["self", "name"] (defScope (iniOf "BadArgument")) := ⟨rfl, rfl, rfl, by decide, rfl, by decide +kernel, by decide +kernel, by decide +kernel, by rfl, by rfl, by decide +kernel⟩
theorem hI_bad {w : World} (c : Says fns own tabs ffs K h) (G : h.Ns mainGlobals mg) (base : Heap) : FnOk PySem.Challenge.pw_dominorows_k45_balanced_lays w K mg base (L2.CX PySem.Challenge.pw_dominorows_k45_balanced_lays w) 1 (He.ma K (He.ga K "BadArgument") "__init__") (fdA K ("BadArgument", some "__init__")) ["self", "name"] (spIni1 K (He.ga K "BadArgument") "name") :=
  ini1 (k := 0) (hE_bad c) rfl hS_bad (He.eqO_ok (c.ff 81 rfl)) rfl rfl rfl (by decide) (by decide) (by decide) rfl rfl (He.free_ok c.kin G (c.ff 62 rfl)) (by intro _; rfl) (by intro _; rfl) (by intro _; rfl)
theorem tx (w : World) (c : Says fns own tabs ffs K h) (G : h.Ns mainGlobals mg) (hT : ∀ p ∈ csT K, LamX.TabB base mg p.1 p.2) : Nonempty { T : Tx PySem.Challenge.pw_dominorows_k45_balanced_lays w K mg base // T.f_law = He.fAd K ("law", none) ∧ T.fd_law = fdA K ("law", none) ∧ T.C = cT K } := ⟨{
  val := {
    C := cT K
    bone := _
    hF := hrd c G
    tLS := (List.forall_mem_cons.mpr ⟨(List.not_mem_cons_of_ne_of_not_mem (tne (c.ff 107 rfl)) (List.not_mem_cons_of_ne_of_not_mem (tne (c.ff 108 rfl)) (List.not_mem_cons_of_ne_of_not_mem (tne (c.ff 109 rfl)) (List.not_mem_cons_of_ne_of_not_mem (tne (c.ff 110 rfl)) (List.not_mem_cons_of_ne_of_not_mem (tne (c.ff 111 rfl)) List.not_mem_nil))))), (fun _ z => nomatch z)⟩)
    f_is_number := _
    fd_is_number := _
    c_is_number := _
    F_is_number := hF_is_number c
    m_is_number := He.glo_ok c.kin G (c.ff 0 rfl)
    B_is_number := (hF_is_number c).binds fun _ _ _ _ _ _ us hl => match us, hl with | [_, _, _], _ => rfl
    f_check := _
    fd_check := _
    c_check := _
    F_check := hF_check c
    m_check := He.glo_ok c.kin G (c.ff 1 rfl)
    B_check := (hF_check c).binds fun _ _ _ _ _ _ us hl => match us, hl with | [_, _], _ => rfl
    f_is_pip := _
    fd_is_pip := _
    c_is_pip := _
    F_is_pip := hF_is_pip c
    m_is_pip := He.glo_ok c.kin G (c.ff 2 rfl)
    B_is_pip := (hF_is_pip c).binds fun _ _ _ _ _ _ us hl => match us, hl with | [_], _ => rfl
    f_is_bone := _
    fd_is_bone := _
    c_is_bone := _
    F_is_bone := hF_is_bone c
    m_is_bone := He.glo_ok c.kin G (c.ff 3 rfl)
    B_is_bone := (hF_is_bone c).binds fun _ _ _ _ _ _ us hl => match us, hl with | [_], _ => rfl
    P_is_bone := _
    TB_is_bone := gxt (hT _ (List.mem_map.mpr ⟨"is_bone", (.head _), rfl⟩))
    tS_is_bone := (.head _)
    tL_is_bone := (List.forall_mem_cons.mpr ⟨(tne (c.ff 107 rfl)), (fun _ z => nomatch z)⟩)
    f_is_lot := _
    fd_is_lot := _
    c_is_lot := _
    F_is_lot := hF_is_lot c
    m_is_lot := He.glo_ok c.kin G (c.ff 4 rfl)
    B_is_lot := (hF_is_lot c).binds fun _ _ _ _ _ _ us hl => match us, hl with | [_], _ => rfl
    P_is_lot := _
    TB_is_lot := gxt (hT _ (List.mem_map.mpr ⟨"is_lot", (.tail _ (.head _)), rfl⟩))
    tS_is_lot := (.tail _ (.head _))
    tL_is_lot := (List.forall_mem_cons.mpr ⟨(tne (c.ff 108 rfl)), (fun _ z => nomatch z)⟩)
    f_check_lot := _
    fd_check_lot := _
    c_check_lot := _
    F_check_lot := hF_check_lot c
    m_check_lot := He.glo_ok c.kin G (c.ff 5 rfl)
    B_check_lot := (hF_check_lot c).binds fun _ _ _ _ _ _ us hl => match us, hl with | [_], _ => rfl
    f_bone_of := _
    fd_bone_of := _
    c_bone_of := _
    F_bone_of := hF_bone_of c
    m_bone_of := He.glo_ok c.kin G (c.ff 6 rfl)
    B_bone_of := (hF_bone_of c).binds fun _ _ _ _ _ _ us hl => match us, hl with | [_, _], _ => rfl
    f_ends_at := _
    fd_ends_at := _
    c_ends_at := _
    F_ends_at := hF_ends_at c
    m_ends_at := He.glo_ok c.kin G (c.ff 7 rfl)
    B_ends_at := (hF_ends_at c).binds fun _ _ _ _ _ _ us hl => match us, hl with | [_, _], _ => rfl
    f_odd_in := _
    fd_odd_in := _
    c_odd_in := _
    F_odd_in := hF_odd_in c
    m_odd_in := He.glo_ok c.kin G (c.ff 8 rfl)
    B_odd_in := (hF_odd_in c).binds fun _ _ _ _ _ _ us hl => match us, hl with | [_], _ => rfl
    f_pieces_in := _
    fd_pieces_in := _
    c_pieces_in := _
    F_pieces_in := hF_pieces_in c
    m_pieces_in := He.glo_ok c.kin G (c.ff 9 rfl)
    B_pieces_in := (hF_pieces_in c).binds fun _ _ _ _ _ _ us hl => match us, hl with | [_], _ => rfl
    f_bones_of := _
    fd_bones_of := _
    c_bones_of := _
    F_bones_of := hF_bones_of c
    m_bones_of := He.glo_ok c.kin G (c.ff 10 rfl)
    B_bones_of := (hF_bones_of c).binds fun _ _ _ _ _ _ us hl => match us, hl with | [_, _], _ => rfl
    f_without_bone := _
    fd_without_bone := _
    c_without_bone := _
    F_without_bone := hF_without_bone c
    m_without_bone := He.glo_ok c.kin G (c.ff 11 rfl)
    B_without_bone := (hF_without_bone c).binds fun _ _ _ _ _ _ us hl => match us, hl with | [_, _], _ => rfl
    f_is_arrow := _
    fd_is_arrow := _
    c_is_arrow := _
    F_is_arrow := hF_is_arrow c
    m_is_arrow := He.glo_ok c.kin G (c.ff 12 rfl)
    B_is_arrow := (hF_is_arrow c).binds fun _ _ _ _ _ _ us hl => match us, hl with | [_], _ => rfl
    P_is_arrow := _
    TB_is_arrow := gxt (hT _ (List.mem_map.mpr ⟨"is_arrow", (.tail _ (.tail _ (.head _))), rfl⟩))
    tS_is_arrow := (.tail _ (.tail _ (.head _)))
    tL_is_arrow := (List.forall_mem_cons.mpr ⟨(tne (c.ff 109 rfl)), (fun _ z => nomatch z)⟩)
    f_are_arrows := _
    fd_are_arrows := _
    c_are_arrows := _
    F_are_arrows := hF_are_arrows c
    m_are_arrows := He.glo_ok c.kin G (c.ff 13 rfl)
    B_are_arrows := (hF_are_arrows c).binds fun _ _ _ _ _ _ us hl => match us, hl with | [_], _ => rfl
    P_are_arrows := _
    TB_are_arrows := gxt (hT _ (List.mem_map.mpr ⟨"are_arrows", (.tail _ (.tail _ (.tail _ (.head _)))), rfl⟩))
    tS_are_arrows := (.tail _ (.tail _ (.tail _ (.head _))))
    tL_are_arrows := (List.forall_mem_cons.mpr ⟨(tne (c.ff 110 rfl)), (fun _ z => nomatch z)⟩)
    f_away := _
    fd_away := _
    c_away := _
    F_away := hF_away c
    m_away := He.glo_ok c.kin G (c.ff 14 rfl)
    B_away := (hF_away c).binds fun _ _ _ _ _ _ us hl => match us, hl with | [_, _], _ => rfl
    f_toward := _
    fd_toward := _
    c_toward := _
    F_toward := hF_toward c
    m_toward := He.glo_ok c.kin G (c.ff 15 rfl)
    B_toward := (hF_toward c).binds fun _ _ _ _ _ _ us hl => match us, hl with | [_, _], _ => rfl
    f_can_go_on := _
    fd_can_go_on := _
    c_can_go_on := _
    F_can_go_on := hF_can_go_on c
    m_can_go_on := He.glo_ok c.kin G (c.ff 16 rfl)
    B_can_go_on := (hF_can_go_on c).binds fun _ _ _ _ _ _ us hl => match us, hl with | [_, _], _ => rfl
    f_laid_from := _
    fd_laid_from := _
    c_laid_from := _
    F_laid_from := hF_laid_from c
    m_laid_from := He.glo_ok c.kin G (c.ff 17 rfl)
    B_laid_from := (hF_laid_from c).binds fun _ _ _ _ _ _ us hl => match us, hl with | [_, _], _ => rfl
    f_first_laid := _
    fd_first_laid := _
    c_first_laid := _
    F_first_laid := hF_first_laid c
    m_first_laid := He.glo_ok c.kin G (c.ff 18 rfl)
    B_first_laid := (hF_first_laid c).binds fun _ _ _ _ _ _ us hl => match us, hl with | [_], _ => rfl
    f_row_behind := _
    fd_row_behind := _
    c_row_behind := _
    F_row_behind := hF_row_behind c
    m_row_behind := He.glo_ok c.kin G (c.ff 19 rfl)
    B_row_behind := (hF_row_behind c).binds fun _ _ _ _ _ _ us hl => match us, hl with | [_, _], _ => rfl
    f_first_row_in := _
    fd_first_row_in := _
    c_first_row_in := _
    F_first_row_in := hF_first_row_in c
    m_first_row_in := He.glo_ok c.kin G (c.ff 20 rfl)
    B_first_row_in := (hF_first_row_in c).binds fun _ _ _ _ _ _ us hl => match us, hl with | [_], _ => rfl
    f_lays := _
    fd_lays := _
    c_lays := _
    F_lays := hF_lays c
    m_lays := He.glo_ok c.kin G (c.ff 21 rfl)
    B_lays := (hF_lays c).binds fun _ _ _ _ _ _ us hl => match us, hl with | [_], _ => rfl
    f_is_lay_of := _
    fd_is_lay_of := _
    c_is_lay_of := _
    F_is_lay_of := hF_is_lay_of c
    m_is_lay_of := He.glo_ok c.kin G (c.ff 22 rfl)
    B_is_lay_of := (hF_is_lay_of c).binds fun _ _ _ _ _ _ us hl => match us, hl with | [_, _], _ => rfl
    f_is_lay := _
    fd_is_lay := _
    c_is_lay := _
    F_is_lay := hF_is_lay c
    m_is_lay := He.glo_ok c.kin G (c.ff 23 rfl)
    B_is_lay := (hF_is_lay c).binds fun _ _ _ _ _ _ us hl => match us, hl with | [_, _], _ => rfl
    f_is_balanced_of := _
    fd_is_balanced_of := _
    c_is_balanced_of := _
    F_is_balanced_of := hF_is_balanced_of c
    m_is_balanced_of := He.glo_ok c.kin G (c.ff 24 rfl)
    B_is_balanced_of := (hF_is_balanced_of c).binds fun _ _ _ _ _ _ us hl => match us, hl with | [_], _ => rfl
    P_is_balanced_of := _
    TB_is_balanced_of := gxt (hT _ (List.mem_map.mpr ⟨"is_balanced_of", (.tail _ (.tail _ (.tail _ (.tail _ (.head _))))), rfl⟩))
    tS_is_balanced_of := (.tail _ (.tail _ (.tail _ (.tail _ (.head _)))))
    tL_is_balanced_of := (List.forall_mem_cons.mpr ⟨(tne (c.ff 111 rfl)), (fun _ z => nomatch z)⟩)
    f_is_balanced := _
    fd_is_balanced := _
    c_is_balanced := _
    F_is_balanced := hF_is_balanced c
    m_is_balanced := He.glo_ok c.kin G (c.ff 25 rfl)
    B_is_balanced := (hF_is_balanced c).binds fun _ _ _ _ _ _ us hl => match us, hl with | [_, _], _ => rfl
    f_balanced := _
    fd_balanced := _
    c_balanced := _
    F_balanced := hF_balanced c
    m_balanced := He.glo_ok c.kin G (c.ff 26 rfl)
    B_balanced := (hF_balanced c).binds fun _ _ _ _ _ _ us hl => match us, hl with | [_], _ => rfl
    f_count_balanced := _
    fd_count_balanced := _
    c_count_balanced := _
    F_count_balanced := hF_count_balanced c
    m_count_balanced := He.glo_ok c.kin G (c.ff 27 rfl)
    B_count_balanced := (hF_count_balanced c).binds fun _ _ _ _ _ _ us hl => match us, hl with | [_], _ => rfl
    f_leaning_pips := _
    fd_leaning_pips := _
    c_leaning_pips := _
    F_leaning_pips := hF_leaning_pips c
    m_leaning_pips := He.glo_ok c.kin G (c.ff 28 rfl)
    B_leaning_pips := (hF_leaning_pips c).binds fun _ _ _ _ _ _ us hl => match us, hl with | [_, _], _ => rfl
    f__law_bone := _
    fd__law_bone := _
    c__law_bone := _
    F__law_bone := hF__law_bone c
    m__law_bone := He.glo_ok c.kin G (c.ff 29 rfl)
    B__law_bone := (hF__law_bone c).binds fun _ _ _ _ _ _ us hl => match us, hl with | [_, _], _ => rfl
    f__law_lot := _
    fd__law_lot := _
    c__law_lot := _
    F__law_lot := hF__law_lot c
    m__law_lot := He.glo_ok c.kin G (c.ff 30 rfl)
    B__law_lot := (hF__law_lot c).binds fun _ _ _ _ _ _ us hl => match us, hl with | [_, _, _], _ => rfl
    f__law_pick := _
    fd__law_pick := _
    c__law_pick := _
    F__law_pick := hF__law_pick c
    m__law_pick := He.glo_ok c.kin G (c.ff 31 rfl)
    B__law_pick := (hF__law_pick c).binds fun _ _ _ _ _ _ us hl => match us, hl with | [_, _], _ => rfl
    f__law_lays := _
    fd__law_lays := _
    c__law_lays := _
    F__law_lays := hF__law_lays c
    m__law_lays := He.glo_ok c.kin G (c.ff 32 rfl)
    B__law_lays := (hF__law_lays c).binds fun _ _ _ _ _ _ us hl => match us, hl with | [_], _ => rfl
    f__law_lean := _
    fd__law_lean := _
    c__law_lean := _
    F__law_lean := hF__law_lean c
    m__law_lean := He.glo_ok c.kin G (c.ff 33 rfl)
    B__law_lean := (hF__law_lean c).binds fun _ _ _ _ _ _ us hl => match us, hl with | [_], _ => rfl
    f__law_count := _
    fd__law_count := _
    c__law_count := _
    F__law_count := hF__law_count c
    m__law_count := He.glo_ok c.kin G (c.ff 34 rfl)
    B__law_count := (hF__law_count c).binds fun _ _ _ _ _ _ us hl => match us, hl with | [_, _], _ => rfl
    f__law_odd := _
    fd__law_odd := _
    c__law_odd := _
    F__law_odd := hF__law_odd c
    m__law_odd := He.glo_ok c.kin G (c.ff 35 rfl)
    B__law_odd := (hF__law_odd c).binds fun _ _ _ _ _ _ us hl => match us, hl with | [_], _ => rfl
    f__law_alike := _
    fd__law_alike := _
    c__law_alike := _
    F__law_alike := hF__law_alike c
    m__law_alike := He.glo_ok c.kin G (c.ff 36 rfl)
    B__law_alike := (hF__law_alike c).binds fun _ _ _ _ _ _ us hl => match us, hl with | [_, _], _ => rfl
    f__law_bad_lot := _
    fd__law_bad_lot := _
    c__law_bad_lot := _
    F__law_bad_lot := hF__law_bad_lot c
    m__law_bad_lot := He.glo_ok c.kin G (c.ff 37 rfl)
    B__law_bad_lot := (hF__law_bad_lot c).binds fun _ _ _ _ _ _ us hl => match us, hl with | [_], _ => rfl
    f__law_refused := _
    fd__law_refused := _
    c__law_refused := _
    F__law_refused := hF__law_refused c
    m__law_refused := He.glo_ok c.kin G (c.ff 38 rfl)
    B__law_refused := (hF__law_refused c).binds fun _ _ _ _ _ _ us hl => match us, hl with | [_, _], _ => rfl
    P__law_refused := _
    TL__law_refused := hT _ (List.mem_map.mpr ⟨"_law_refused", (.tail _ (.tail _ (.tail _ (.tail _ (.tail _ (.head _)))))), rfl⟩)
    mT__law_refused := (.head _)
    hu__law_refused := (List.forall_mem_cons.mpr ⟨fun _ => rfl, (fun _ z => nomatch z)⟩)
    f_law := _
    fd_law := _
    c_law := _
    F_law := hF_law c
    m_law := He.glo_ok c.kin G (c.ff 39 rfl)
    B_law := (hF_law c).binds fun _ _ _ _ _ _ us hl => match us, hl with | [_], _ => rfl
    f__law_taken := _
    fd__law_taken := _
    c__law_taken := _
    F__law_taken := hF__law_taken c
    m__law_taken := He.glo_ok c.kin G (c.ff 40 rfl)
    B__law_taken := (hF__law_taken c).binds fun _ _ _ _ _ _ us hl => match us, hl with | [_, _], _ => rfl
    f__law_heard := _
    fd__law_heard := _
    c__law_heard := _
    F__law_heard := hF__law_heard c
    m__law_heard := He.glo_ok c.kin G (c.ff 41 rfl)
    B__law_heard := (hF__law_heard c).binds fun _ _ _ _ _ _ us hl => match us, hl with | [_], _ => rfl
    n_all := He.free_ok c.kin G (c.ff 48 rfl)
    n_bool := He.free_ok c.kin G (c.ff 49 rfl)
    n_dict := He.free_ok c.kin G (c.ff 50 rfl)
    n_int := He.free_ok c.kin G (c.ff 51 rfl)
    n_isinstance := He.free_ok c.kin G (c.ff 52 rfl)
    n_len := He.free_ok c.kin G (c.ff 53 rfl)
    n_list := He.free_ok c.kin G (c.ff 54 rfl)
    n_max := He.free_ok c.kin G (c.ff 55 rfl)
    n_min := He.free_ok c.kin G (c.ff 56 rfl)
    n_range := He.free_ok c.kin G (c.ff 57 rfl)
    n_set := He.free_ok c.kin G (c.ff 58 rfl)
    n_sorted := He.free_ok c.kin G (c.ff 59 rfl)
    n_str := He.free_ok c.kin G (c.ff 60 rfl)
    n_sum := He.free_ok c.kin G (c.ff 61 rfl)
    n_tuple := He.free_ok c.kin G (c.ff 63 rfl)
    n_zip := He.free_ok c.kin G (c.ff 64 rfl)
    g_MOST_BONES := He.int_ok c.kin G (c.ff 65 rfl)
    g_MOST_PIP := He.int_ok c.kin G (c.ff 66 rfl)
    g_PIPS := gtup_of (He.glo_ok c.kin G (c.ff 67 rfl)) (c.ff 68 rfl)
    fI_bad := _
    fdI_bad := _
    cdI_bad := _
    ccI_bad := _
    E_bad := hE_bad c
    I_bad := hI_bad c G base
    EB_bad := sup_binds (hE_bad c) fun _ _ _ _ _ _ us hl => match us, hl with | [_, _], _ => rfl
    m_BadArgument := He.glo_ok c.kin G (c.ff 43 rfl) }
  property := ⟨rfl, rfl, rfl⟩ }⟩
end
/-! ### the head -/
abbrev R : PySem.W.OpenRow := PySem.W.OpenLaw.row PySem.Challenge.rw_dominorows_k45_balanced_lays
abbrev hk : PySem.W.Hook := hookL fns own tabs ffs
def ob (s : PySem.W.SharedT) : AlL := obsL fns own tabs ffs (HandSHeadRun.getT s)
theorem ob_eq (s : PySem.W.SharedT) : ob s = hk.obs s.abs := obsL_eq fns own tabs ffs (HandSHeadRun.getT_eq s)
def loose : List Str := (["__name__", "BoneError", "BadArgument", "Unlaid", "Refused", "Unread", "MOST_PIP", "is_number", "check", "is_pip", "MOST_BONES", "PIPS", "is_bone", "is_lot", "check_lot", "bone_of", "ends_at", "odd_in", "pieces_in", "bones_of"] : List Str) ++ (["without_bone", "is_arrow", "are_arrows", "away", "toward", "can_go_on", "laid_from", "first_laid", "row_behind", "first_row_in", "lays", "is_lay_of", "is_lay", "is_balanced_of", "is_balanced", "balanced", "count_balanced", "leaning_pips", "_law_taken", "_law_bone"] : List Str) ++ (["_law_lot", "_law_pick", "_law_lays", "_law_lean", "_law_count", "_law_odd", "_law_alike", "_law_bad_lot", "_law_heard", "_law_refused"] : List Str)
theorem run (w : World) : HandSHeadRun.RunEq R (PySem.W.view R.prog [56]) hk ob 4000 loose w := by
  intro os
  kernel_rfl
/-- all but the tables -/
def noTab (H : Hp) : Hp := fun b => match H b with
  | some (.tbl _) => none
  | x => x
theorem noTab_sub {H : Hp} {a : Addr} {o : HO} (h : noTab H a = some o) : H a = some o := by
  unfold noTab at h
  split at h
  · cases h
  · exact h
theorem noTab_at {H : Hp} {a : Addr} {o : HO} (h : H a = some o) (n : ∀ ps, o ≠ .tbl ps) : noTab H a = some o := by
  unfold noTab
  rw [h]
  split
  · rename_i q z
    injection z with z
    exact absurd z (n _)
  · rfl
theorem ints_dp {K : PySem.W.Frag} {F : Hp} : ∀ ns : List Int, DL.DpAll K F (ns.map V.int) (ns.map PyData.int)
  | [] => .nil
  | i :: r => .cons (.int i) (ints_dp r)
theorem law_at (hspec : ∀ ns : List Int, ns.length ≤ 63 → (m_law (.list (ns.map PyData.int))).run (fun fl => fl = .rt (.bool true)) (fun _ => False)) (w : World) {K : PySem.W.Frag} {mg : Str → Option Value} {h : Heap} {fa : Addr} (c : Says fns own tabs ffs K h) (G : h.Ns mainGlobals mg) (hfa : mg "law" = some (.ref fa)) :
    LamX.LawAtS PySem.Challenge.rw_dominorows_k45_balanced_lays w K (L2.CX PySem.Challenge.pw_dominorows_k45_balanced_lays w) 16 63 "script" mg fa h := by
  have e := hfa.symm.trans (He.glo_ok c.kin G (c.ff 39 rfl))
  cases e
  refine ⟨fdA K ("law", none), csT K, spLaw (cT K) K, fun p hp => ?_, fun p hp => ?_, fun p hp => ?_, fun s u => ?_, fun H a ns hl _ ht hS => ?_, fun base _ _ hT => ?_⟩
  · obtain ⟨x, hx, rfl⟩ := List.mem_map.mp hp
    exact c.tab x hx
  · obtain ⟨x, hx, rfl⟩ := List.mem_map.mp hp
    exact (c.hd hx).2
  · obtain ⟨x, hx, rfl⟩ := List.mem_map.mp hp
    exact (c.hd hx).1
  · obtain ⟨oc, od, kV, doc, pm, an, ct, osl, e, _⟩ := (hF_law c).ex
    rw [e]
    exact .of_eq rfl
  · refine ⟨noTab H, a, ns, rfl, ⟨fun _ _ z => noTab_sub z, fun b ps z => ?_, ?_, ?_⟩, .lst ?_ (ints_dp ns), hl, fun _ => rfl⟩
    · unfold noTab at z
      split at z
      · cases z
      · rename_i q
        exact q _ z
    · intro P hP
      have : ∀ P ∈ (cT K).TS, P ∈ (csT K).map (·.2) := by
        intro P hP
        rw [List.map_map]
        exact List.mem_map.mpr (by
          rcases List.mem_cons.mp hP with rfl | hP
          · exact ⟨"is_bone", (.head _), rfl⟩
          rcases List.mem_cons.mp hP with rfl | hP
          · exact ⟨"is_lot", (.tail _ (.head _)), rfl⟩
          rcases List.mem_cons.mp hP with rfl | hP
          · exact ⟨"is_arrow", (.tail _ (.tail _ (.head _))), rfl⟩
          rcases List.mem_cons.mp hP with rfl | hP
          · exact ⟨"are_arrows", (.tail _ (.tail _ (.tail _ (.head _)))), rfl⟩
          rcases List.mem_cons.mp hP with rfl | hP
          · exact ⟨"is_balanced_of", (.tail _ (.tail _ (.tail _ (.tail _ (.head _))))), rfl⟩
          cases hP)
      obtain ⟨p, hp, rfl⟩ := List.mem_map.mp (this P hP)
      exact ⟨#[], ht p hp, trivial⟩
    · intro p hp
      have : ∀ p ∈ (cT K).TL, p.1 ∈ (csT K).map (·.2) := by
        intro P hP
        rw [List.map_map]
        exact List.mem_map.mpr (by
          rcases List.mem_cons.mp hP with rfl | hP
          · exact ⟨"_law_refused", (.tail _ (.tail _ (.tail _ (.tail _ (.tail _ (.head _)))))), rfl⟩
          cases hP)
      obtain ⟨q, hq, e⟩ := List.mem_map.mp (this p hp)
      exact .nil (by rw [← e]; exact ht q hq)
    · rcases hS with (z | ⟨o, z⟩) | z
      · exact .inl (.inl (noTab_at z fun _ z => nomatch z))
      · exact .inl (.inr ⟨o, noTab_at z fun _ z => nomatch z⟩)
      · exact .inr z
  · obtain ⟨T, e1, e2, e3⟩ := tx (base := base) w c G hT
    have k := ok_law hspec T
    rw [e1, e2, e3] at k
    exact k
end Lw
open PySem PySem.W PySem.Calls PyProof.Rows
theorem PySem.Challenge.holds_of (hspec : ∀ ns : List Int, ns.length ≤ 63 → (Lw.m_law (.list (ns.map PyData.int))).run (fun fl => fl = .rt (.bool true)) (fun _ => False)) : PySem.Challenge.rw_dominorows_k45_balanced_lays.Holds := by
  w_on; o_law
  refine HandSHeadRun.head_any (r := OpenLaw.row PySem.Challenge.rw_dominorows_k45_balanced_lays) (q := view (OpenLaw.row PySem.Challenge.rw_dominorows_k45_balanced_lays).prog [56]) (H := Lw.hk) (ob := Lw.ob) (M := 4000) (loose := Lw.loose) (d := HandSHeadRun.topDef (OpenLaw.row PySem.Challenge.rw_dominorows_k45_balanced_lays).prog 56) (kwd := []) Lw.ob_eq
    (by kernel_rfl) (fun s => by kernel_rfl) Lw.run (by kernel_rfl) (by kernel_rfl) (by kernel_rfl) (by rfl) (by first | assumption | decide +kernel) (by decide +kernel) ⟨rfl, rfl, rfl, rfl, rfl, by decide +kernel⟩ ?hw ?hc
  case hw => w_witness2
  case hc =>
    refine LamX.walk_ofTsE (l := PySem.Challenge.rw_dominorows_k45_balanced_lays) (n := 63) (k := 16) (x := "script") (CX := fun w => L2.CX PySem.Challenge.pw_dominorows_k45_balanced_lays w) rfl (by decide) (by kernel_rfl) ⟨rfl, by decide, by decide⟩ ?F (fun _ _ _ _ _ ⟨_, _, _, _, _, _, _, _, _, _, _, _, z⟩ => z)
    intro w mg fa h Y G hmg0
    obtain ⟨K, c⟩ := Y
    have hmg : mg ("law" : PySem.Str) = some (.ref fa) := by
      have e : (HandSHeadRun.topDef (OpenLaw.row PySem.Challenge.rw_dominorows_k45_balanced_lays).prog 56).name = ("law" : PySem.Str) := by kernel_rfl
      rw [← e]
      exact hmg0
    exact ⟨K, c.kin, Lw.law_at hspec w c G hmg⟩

theorem PySem.Challenge.cw_dominorows_k45_balanced_lays_holds : PySem.Challenge.rw_dominorows_k45_balanced_lays.Holds :=
  PySem.Challenge.holds_of Lw.hspec
